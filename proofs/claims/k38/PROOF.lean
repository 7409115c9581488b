import PyProof.Rows.All
import Wide.All
import OpenK.AllK
import Wide.FinOn
import HandS.ForMost
import HandS.Defaults
import PySem.Challenge.RW_soundlooks_k38_whole_closings_rings_and
import KE.GoesEnum
import HandS.Walk
import HandS.Zip
import PyProof.ReprRoads
import PyProof.ReprLen
import HandS.SetFor
import HandS.Evl
import HandS.HeadEnd
import HandS.IsInst
import HandS.Style
import HandS.TupAny
import HandS.Ends
import KE.KStateDown
import HandS.Head0
import HandS.Head1
import HandS.Head2
import HandS.HeadHook1
import HandS.HeadHook2
set_option Elab.async false
set_option linter.all false
set_option maxRecDepth 100000
/-! The plain law: differences as functions of two places, None as none. No program here. -/
namespace K38

abbrev Bd := Option Int
abbrev Mx := Nat → Nat → Bd

def leB : Bd → Bd → Bool
  | _, none => true
  | none, some _ => false
  | some x, some y => decide (x ≤ y)
def pl : Bd → Bd → Bd
  | some x, some y => some (x + y)
  | some _, none => none
  | none, _ => none
def ls (a b : Bd) : Bd := if leB a b = true then a else b
def stp (f : Mx) (k : Nat) : Mx := fun i j => ls (f i j) (pl (f i k) (f k j))
def rnd (f : Mx) : Nat → Mx
  | 0 => f
  | k + 1 => stp (rnd f k) k
def okD (n : Nat) (f : Mx) : Bool := (List.range n).all fun i => f i i == some 0
def clo (n : Nat) (f : Mx) : Option Mx := if okD n (rnd f n) = true then some (rnd f n) else none

/-- all D_ii are 0 -/
def Dg (n : Nat) (f : Mx) : Prop := ∀ i, i < n → f i i = some 0
theorem okD_iff {n : Nat} {f : Mx} : okD n f = true ↔ Dg n f := by
  unfold okD Dg
  rw [List.all_eq_true]
  constructor
  · intro h i hi
    have := h i (List.mem_range.mpr hi)
    exact eq_of_beq this
  · intro h i hi
    rw [h i (List.mem_range.mp hi)]
    rfl

/-! ### the order of bounds -/
def Le (a b : Bd) : Prop := leB a b = true
theorem le_none (a : Bd) : Le a none := by cases a <;> rfl
theorem le_some {x y : Int} : Le (some x) (some y) ↔ x ≤ y := by
  unfold Le leB
  exact decide_eq_true_iff
theorem not_le_none_some {y : Int} : ¬ Le none (some y) := by
  intro h; cases h
theorem Le.refl (a : Bd) : Le a a := by
  cases a with
  | none => rfl
  | some x => exact le_some.mpr (Int.le_refl x)
theorem Le.trans {a b c : Bd} (h1 : Le a b) (h2 : Le b c) : Le a c := by
  cases c with
  | none => exact le_none a
  | some z =>
    cases b with
    | none => exact absurd h2 not_le_none_some
    | some y =>
      cases a with
      | none => exact absurd h1 not_le_none_some
      | some x => exact le_some.mpr (Int.le_trans (le_some.mp h1) (le_some.mp h2))
theorem Le.get {a : Bd} {y : Int} (h : Le a (some y)) : ∃ x, a = some x ∧ x ≤ y := by
  cases a with
  | none => exact absurd h not_le_none_some
  | some x => exact ⟨x, rfl, le_some.mp h⟩
theorem leB_false {a b : Bd} (h : ¬ leB a b = true) : ∃ y, b = some y ∧ ∀ x, a = some x → y < x := by
  cases b with
  | none => exact absurd (le_none a) h
  | some y =>
    refine ⟨y, rfl, fun x e => ?_⟩
    subst e
    have : ¬ x ≤ y := fun q => h (le_some.mpr q)
    omega
theorem Le.antisymm {a b : Bd} (h1 : Le a b) (h2 : Le b a) : a = b := by
  cases a with
  | none =>
    cases b with
    | none => rfl
    | some y => exact absurd h1 not_le_none_some
  | some x =>
    cases b with
    | none => exact absurd h2 not_le_none_some
    | some y => rw [Int.le_antisymm (le_some.mp h1) (le_some.mp h2)]
theorem ls_left (a b : Bd) : Le (ls a b) a := by
  unfold ls
  by_cases h : leB a b = true
  · rw [if_pos h]; exact Le.refl a
  · rw [if_neg h]
    obtain ⟨y, rfl, q⟩ := leB_false h
    cases a with
    | none => exact le_none _
    | some x => exact le_some.mpr (Int.le_of_lt (q x rfl))
theorem ls_right (a b : Bd) : Le (ls a b) b := by
  unfold ls
  by_cases h : leB a b = true
  · rw [if_pos h]; exact h
  · rw [if_neg h]; exact Le.refl b
theorem ls_or (a b : Bd) : ls a b = a ∨ ls a b = b := by
  unfold ls
  by_cases h : leB a b = true
  · rw [if_pos h]; exact .inl rfl
  · rw [if_neg h]; exact .inr rfl
theorem ls_eq {a b : Bd} (h : Le a b) : ls a b = a := by
  unfold ls
  rw [if_pos (show leB a b = true from h)]
theorem le_ls {a b c : Bd} (h1 : Le c a) (h2 : Le c b) : Le c (ls a b) := by
  rcases ls_or a b with e | e
  · rw [e]; exact h1
  · rw [e]; exact h2
theorem pl_none (a : Bd) : pl a none = none := by cases a <;> rfl
theorem pl_zero (a : Bd) : pl a (some 0) = a := by
  cases a with
  | none => rfl
  | some x => show some (x + 0) = some x; rw [Int.add_zero]
theorem zero_pl (a : Bd) : pl (some 0) a = a := by
  cases a with
  | none => rfl
  | some x => show some (0 + x) = some x; rw [Int.zero_add]
theorem pl_assoc (a b c : Bd) : pl (pl a b) c = pl a (pl b c) := by
  cases a with
  | none => rfl
  | some x =>
    cases b with
    | none => rfl
    | some y =>
      cases c with
      | none => rfl
      | some z => show some (x + y + z) = some (x + (y + z)); rw [Int.add_assoc]
theorem pl_mono {a b c d : Bd} (h1 : Le a b) (h2 : Le c d) : Le (pl a c) (pl b d) := by
  cases b with
  | none => exact le_none _
  | some y =>
    cases d with
    | none => exact le_none _
    | some z =>
      obtain ⟨x, rfl, hx⟩ := h1.get
      obtain ⟨w, rfl, hw⟩ := h2.get
      exact le_some.mpr (Int.add_le_add hx hw)
theorem pl_some {a b : Bd} {t : Int} (h : pl a b = some t) : ∃ x y, a = some x ∧ b = some y ∧ t = x + y := by
  cases a with
  | none => cases h
  | some x =>
    cases b with
    | none => cases h
    | some y => exact ⟨x, y, rfl, rfl, (Option.some.inj h).symm⟩

/-! ### rounds -/
def Eqn (n : Nat) (f g : Mx) : Prop := ∀ i j, i < n → j < n → f i j = g i j
theorem Eqn.refl (n : Nat) (f : Mx) : Eqn n f f := fun _ _ _ _ => rfl
theorem Eqn.symm {n : Nat} {f g : Mx} (h : Eqn n f g) : Eqn n g f := fun i j a b => (h i j a b).symm
theorem Eqn.trans {n : Nat} {f g k : Mx} (h : Eqn n f g) (h2 : Eqn n g k) : Eqn n f k := fun i j a b => (h i j a b).trans (h2 i j a b)
theorem stp_congr {n k : Nat} {f g : Mx} (h : Eqn n f g) (hk : k < n) : Eqn n (stp f k) (stp g k) := fun i j hi hj => by
  unfold stp
  rw [h i j hi hj, h i k hi hk, h k j hk hj]
theorem rnd_congr {n : Nat} {f g : Mx} (h : Eqn n f g) : ∀ k, k ≤ n → Eqn n (rnd f k) (rnd g k)
  | 0, _ => h
  | k + 1, hk => stp_congr (rnd_congr h k (by omega)) (by omega)
theorem okD_congr {n : Nat} {f g : Mx} (h : Eqn n f g) : okD n f = okD n g := by
  have key : Dg n f ↔ Dg n g := ⟨fun q i hi => (h i i hi hi).symm.trans (q i hi), fun q i hi => (h i i hi hi).trans (q i hi)⟩
  cases e : okD n f with
  | true => exact (okD_iff.mpr (key.mp (okD_iff.mp e))).symm
  | false =>
    cases e2 : okD n g with
    | false => rfl
    | true => rw [okD_iff.mpr (key.mpr (okD_iff.mp e2))] at e; cases e
theorem rnd_le (f : Mx) (k i j : Nat) : Le (rnd f (k + 1) i j) (rnd f k i j) := ls_left _ _
theorem rnd_anti (f : Mx) (i j : Nat) {k m : Nat} (h : k ≤ m) : Le (rnd f m i j) (rnd f k i j) := by
  induction m with
  | zero =>
    have : k = 0 := by omega
    subst this
    exact Le.refl _
  | succ m ih =>
    by_cases e : k = m + 1
    · subst e; exact Le.refl _
    · exact (rnd_le f m i j).trans (ih (by omega))
/-- where all are 0 at the end, all were 0 at each round -/
theorem diag_back {n : Nat} {f : Mx} (h0 : Dg n f) {m : Nat} (hm : Dg n (rnd f m)) {k : Nat} (hk : k ≤ m) : Dg n (rnd f k) := fun i hi => by
  have a := rnd_anti f i i hk
  have b := rnd_anti f i i (Nat.zero_le k)
  rw [hm i hi] at a
  have b' : Le (rnd f k i i) (some 0) := by
    have : rnd f 0 i i = some 0 := h0 i hi
    rw [this] at b; exact b
  exact (a.antisymm b').symm
/-- a diagonal at a round: 0 or below -/
theorem diag_or {n : Nat} {f : Mx} (h0 : Dg n f) (k : Nat) {i : Nat} (hi : i < n) : ∃ d, rnd f k i i = some d ∧ d ≤ 0 := by
  have b := rnd_anti f i i (Nat.zero_le k)
  have : rnd f 0 i i = some 0 := h0 i hi
  rw [this] at b
  obtain ⟨x, e, q⟩ := b.get
  exact ⟨x, e, q⟩
/-- below 0 once, never 0 again -/
theorem neg_stays {n : Nat} {f : Mx} {k m i : Nat} {d : Int} (hk : k ≤ m) (hi : i < n) (e : rnd f k i i = some d) (hd : d < 0) : okD n (rnd f m) = false := by
  cases q : okD n (rnd f m) with
  | false => rfl
  | true =>
    have a := rnd_anti f i i hk
    rw [okD_iff.mp q i hi, e] at a
    have := le_some.mp a
    omega
/-- a round with 0 on its way leaves its row and its column -/
theorem stp_row {f : Mx} {k j : Nat} (h : f k k = some 0) : stp f k k j = f k j := by
  unfold stp
  rw [h, zero_pl]
  exact ls_eq (Le.refl _)
theorem stp_col {f : Mx} {k i : Nat} (h : f k k = some 0) : stp f k i k = f i k := by
  unfold stp
  rw [h, pl_zero]
  exact ls_eq (Le.refl _)

/-- no bound is above a sum by way of m -/
def TriAt (n : Nat) (f : Mx) (m : Nat) : Prop := ∀ i j, i < n → j < n → Le (f i j) (pl (f i m) (f m j))
theorem tri_new {n k : Nat} {f : Mx} (hk : k < n) (h : f k k = some 0) : TriAt n (stp f k) k := fun i j hi hj => by
  rw [stp_col h, stp_row h]
  exact ls_right _ _
theorem tri_keep {n k m : Nat} {f : Mx} (hk : k < n) (hm : m < n) (h : f k k = some 0) (t : TriAt n f m) : TriAt n (stp f k) m := fun i j hi hj => by
  have up : ∀ a b, Le (stp f k a b) (pl (f a k) (f k b)) := fun a b => ls_right _ _
  have lo : ∀ a b, Le (stp f k a b) (f a b) := fun a b => ls_left _ _
  have c1 : Le (f k j) (pl (f k m) (f m j)) := t k j hk hj
  have c2 : Le (f i k) (pl (f i m) (f m k)) := t i k hi hk
  have c3 : Le (some 0) (pl (f k m) (f m k)) := by rw [← h]; exact t k k hk hk
  rcases ls_or (f i m) (pl (f i k) (f k m)) with e1 | e1
  · rcases ls_or (f m j) (pl (f m k) (f k j)) with e2 | e2
    · show Le (stp f k i j) (pl (ls (f i m) (pl (f i k) (f k m))) (ls (f m j) (pl (f m k) (f k j))))
      rw [e1, e2]
      exact (lo i j).trans (t i j hi hj)
    · show Le (stp f k i j) (pl (ls (f i m) (pl (f i k) (f k m))) (ls (f m j) (pl (f m k) (f k j))))
      rw [e1, e2, ← pl_assoc]
      exact (up i j).trans (pl_mono c2 (Le.refl _))
  · rcases ls_or (f m j) (pl (f m k) (f k j)) with e2 | e2
    · show Le (stp f k i j) (pl (ls (f i m) (pl (f i k) (f k m))) (ls (f m j) (pl (f m k) (f k j))))
      rw [e1, e2, pl_assoc]
      exact (up i j).trans (pl_mono (Le.refl _) c1)
    · show Le (stp f k i j) (pl (ls (f i m) (pl (f i k) (f k m))) (ls (f m j) (pl (f m k) (f k j))))
      rw [e1, e2, pl_assoc, ← pl_assoc (f k m)]
      refine (up i j).trans (pl_mono (Le.refl _) ?_)
      have := pl_mono c3 (Le.refl (f k j))
      rw [zero_pl] at this
      exact this
theorem tri_all {n : Nat} {f : Mx} {k : Nat} (hd : ∀ j, j ≤ k → Dg n (rnd f j)) (hk : k ≤ n) : ∀ m, m < k → TriAt n (rnd f k) m := by
  induction k with
  | zero => intro m hm; omega
  | succ k ih =>
    intro m hm
    have h0 : rnd f k k k = some 0 := hd k (by omega) k (by omega)
    by_cases e : m = k
    · subst e; exact tri_new (by omega) h0
    · exact tri_keep (by omega) (by omega) h0 (ih (fun j hj => hd j (by omega)) (by omega) m (by omega))
/-- what is closed: 0 on the diagonal, no bound above a sum -/
structure Closed (n : Nat) (c : Mx) : Prop where
  dg : Dg n c
  tri : ∀ m, m < n → TriAt n c m
theorem clo_closed {n : Nat} {f c : Mx} (h0 : Dg n f) (h : clo n f = some c) : Closed n c ∧ c = rnd f n := by
  unfold clo at h
  by_cases e : okD n (rnd f n) = true
  · rw [if_pos e] at h
    have q := okD_iff.mp e
    have e2 := Option.some.inj h
    subst e2
    exact ⟨⟨q, tri_all (fun j hj => diag_back h0 q hj) (Nat.le_refl n)⟩, rfl⟩
  · rw [if_neg e] at h; cases h
theorem closed_step {n : Nat} {c g : Mx} (C : Closed n c) (e : Eqn n g c) {k : Nat} (hk : k < n) : Eqn n (stp g k) c := fun i j hi hj => by
  unfold stp
  rw [e i j hi hj, e i k hi hk, e k j hk hj]
  exact ls_eq (C.tri k hk i j hi hj)
theorem closed_rnd {n : Nat} {c : Mx} (C : Closed n c) : ∀ k, k ≤ n → Eqn n (rnd c k) c
  | 0, _ => Eqn.refl n c
  | k + 1, hk => closed_step C (closed_rnd C k (by omega)) (by omega)
/-- closed once more it stays -/
theorem clo_idem {n : Nat} {c : Mx} (C : Closed n c) : ∃ c', clo n c = some c' ∧ Eqn n c' c := by
  have e := closed_rnd C n (Nat.le_refl n)
  refine ⟨rnd c n, ?_, e⟩
  unfold clo
  rw [if_pos (okD_iff.mpr fun i hi => (e i i hi hi).trans (C.dg i hi))]
theorem clo_congr {n : Nat} {f g : Mx} (h : Eqn n f g) : (clo n f = none ∧ clo n g = none) ∨ ∃ a b, clo n f = some a ∧ clo n g = some b ∧ Eqn n a b := by
  have e := rnd_congr h n (Nat.le_refl n)
  unfold clo
  rw [okD_congr e]
  by_cases q : okD n (rnd g n) = true
  · rw [if_pos q, if_pos q]; exact .inr ⟨_, _, rfl, rfl, e⟩
  · rw [if_neg q, if_neg q]; exact .inl ⟨rfl, rfl⟩

/-! ### what is held -/
def Hold (n : Nat) (f : Mx) (v : Nat → Int) : Prop := ∀ i j, i < n → j < n → ∀ b, f i j = some b → v i - v j ≤ b
theorem hold_stp {n k : Nat} {f : Mx} {v : Nat → Int} (hk : k < n) (h : Hold n f v) : Hold n (stp f k) v := fun i j hi hj b e => by
  rcases ls_or (f i j) (pl (f i k) (f k j)) with q | q
  · exact h i j hi hj b (q.symm.trans e)
  · obtain ⟨x, y, e1, e2, e3⟩ := pl_some (q.symm.trans e)
    have a1 := h i k hi hk x e1
    have a2 := h k j hk hj y e2
    omega
theorem hold_rnd {n : Nat} {f : Mx} {v : Nat → Int} (h : Hold n f v) : ∀ k, k ≤ n → Hold n (rnd f k) v
  | 0, _ => h
  | k + 1, hk => hold_stp (by omega) (hold_rnd h k (by omega))
theorem hold_le {n : Nat} {f g : Mx} {v : Nat → Int} (h : ∀ i j, i < n → j < n → Le (g i j) (f i j)) (q : Hold n g v) : Hold n f v := fun i j hi hj b e => by
  have l := h i j hi hj
  rw [e] at l
  obtain ⟨x, ex, hx⟩ := l.get
  have := q i j hi hj x ex
  omega
theorem hold_iff {n : Nat} {f : Mx} {v : Nat → Int} : Hold n (rnd f n) v ↔ Hold n f v :=
  ⟨fun h => hold_le (fun i j _ _ => rnd_anti f i j (Nat.zero_le n)) h, fun h => hold_rnd h n (Nat.le_refl n)⟩

/-! ### some values -/
def maxL : List Int → Int
  | [] => 0
  | [x] => x
  | x :: y :: r => max x (maxL (y :: r))
def minL : List Int → Int
  | [] => 0
  | [x] => x
  | x :: y :: r => min x (minL (y :: r))
theorem maxL_spec : ∀ (l : List Int), l ≠ [] → maxL l ∈ l ∧ ∀ x ∈ l, x ≤ maxL l
  | [], h => absurd rfl h
  | [x], _ => ⟨List.mem_singleton.mpr rfl, fun y hy => by rw [List.mem_singleton.mp hy]; exact Int.le_refl _⟩
  | x :: y :: r, _ => by
    obtain ⟨h1, h2⟩ := maxL_spec (y :: r) (by simp)
    have e : maxL (x :: y :: r) = max x (maxL (y :: r)) := rfl
    rw [e]
    constructor
    · by_cases q : x ≤ maxL (y :: r)
      · rw [Int.max_eq_right q]; exact List.mem_cons_of_mem _ h1
      · rw [Int.max_eq_left (by omega)]; exact List.mem_cons_self
    · intro z hz
      rcases List.mem_cons.mp hz with e | hz
      · subst e; exact Int.le_max_left _ _
      · exact Int.le_trans (h2 z hz) (Int.le_max_right _ _)
theorem minL_spec : ∀ (l : List Int), l ≠ [] → minL l ∈ l ∧ ∀ x ∈ l, minL l ≤ x
  | [], h => absurd rfl h
  | [x], _ => ⟨List.mem_singleton.mpr rfl, fun y hy => by rw [List.mem_singleton.mp hy]; exact Int.le_refl _⟩
  | x :: y :: r, _ => by
    obtain ⟨h1, h2⟩ := minL_spec (y :: r) (by simp)
    have e : minL (x :: y :: r) = min x (minL (y :: r)) := rfl
    rw [e]
    constructor
    · by_cases q : x ≤ minL (y :: r)
      · rw [Int.min_eq_left q]; exact List.mem_cons_self
      · rw [Int.min_eq_right (by omega)]; exact List.mem_cons_of_mem _ h1
    · intro z hz
      rcases List.mem_cons.mp hz with e | hz
      · subst e; exact Int.min_le_left _ _
      · exact Int.le_trans (Int.min_le_right _ _) (h2 z hz)
theorem maxL_is {l : List Int} {m : Int} (h : m ∈ l) (q : ∀ x ∈ l, x ≤ m) : m = maxL l := by
  obtain ⟨a, b⟩ := maxL_spec l (List.ne_nil_of_mem h)
  exact Int.le_antisymm (b m h) (q _ a)
theorem minL_is {l : List Int} {m : Int} (h : m ∈ l) (q : ∀ x ∈ l, m ≤ x) : m = minL l := by
  obtain ⟨a, b⟩ := minL_spec l (List.ne_nil_of_mem h)
  exact Int.le_antisymm (q _ a) (b m h)

/-- the lows and highs of the next index: vs the numbers so far -/
def lows (c : Mx) (vs : List Int) : List Int := (List.range vs.length).filterMap fun j => (c j vs.length).map fun b => vs.getD j 0 - b
def highs (c : Mx) (vs : List Int) : List Int := (List.range vs.length).filterMap fun j => (c vs.length j).map fun b => vs.getD j 0 + b
def choose (c : Mx) (vs : List Int) : Int := if lows c vs ≠ [] then maxL (lows c vs) else if highs c vs ≠ [] then minL (highs c vs) else 0
def valsF (c : Mx) : Nat → List Int
  | 0 => [0]
  | m + 1 => valsF c m ++ [choose c (valsF c m)]
theorem valsF_len (c : Mx) : ∀ m, (valsF c m).length = m + 1
  | 0 => rfl
  | m + 1 => by
    show (valsF c m ++ [choose c (valsF c m)]).length = m + 1 + 1
    rw [List.length_append, valsF_len c m]; rfl
theorem mem_lows {c : Mx} {vs : List Int} {x : Int} : x ∈ lows c vs ↔ ∃ j b, j < vs.length ∧ c j vs.length = some b ∧ x = vs.getD j 0 - b := by
  unfold lows
  rw [List.mem_filterMap]
  constructor
  · rintro ⟨j, hj, e⟩
    obtain ⟨b, eb, q⟩ := Option.map_eq_some_iff.mp e
    exact ⟨j, b, List.mem_range.mp hj, eb, q.symm⟩
  · rintro ⟨j, b, hj, eb, q⟩
    exact ⟨j, List.mem_range.mpr hj, by rw [eb, q]; rfl⟩
theorem mem_highs {c : Mx} {vs : List Int} {x : Int} : x ∈ highs c vs ↔ ∃ j b, j < vs.length ∧ c vs.length j = some b ∧ x = vs.getD j 0 + b := by
  unfold highs
  rw [List.mem_filterMap]
  constructor
  · rintro ⟨j, hj, e⟩
    obtain ⟨b, eb, q⟩ := Option.map_eq_some_iff.mp e
    exact ⟨j, b, List.mem_range.mp hj, eb, q.symm⟩
  · rintro ⟨j, b, hj, eb, q⟩
    exact ⟨j, List.mem_range.mpr hj, by rw [eb, q]; rfl⟩
theorem choose_ok {n : Nat} {c : Mx} (C : Closed n c) {vs : List Int} (hn : vs.length < n) (h : ∀ i j, i < vs.length → j < vs.length → ∀ b, c i j = some b → vs.getD i 0 - vs.getD j 0 ≤ b) :
    ∀ j, j < vs.length → (∀ b, c j vs.length = some b → vs.getD j 0 - choose c vs ≤ b) ∧ ∀ b, c vs.length j = some b → choose c vs - vs.getD j 0 ≤ b := by
  intro j hj
  by_cases hl : lows c vs ≠ []
  · have e : choose c vs = maxL (lows c vs) := by unfold choose; rw [if_pos hl]
    rw [e]
    obtain ⟨hm, hx⟩ := maxL_spec _ hl
    constructor
    · intro b eb
      have := hx _ (mem_lows.mpr ⟨j, b, hj, eb, rfl⟩)
      omega
    · intro b eb
      obtain ⟨l, b', hl', el, q⟩ := mem_lows.mp hm
      rw [q]
      have t := C.tri vs.length hn l j (by omega) (by omega)
      rw [el, eb] at t
      obtain ⟨x, ex, hx'⟩ := Le.get (a := c l j) (y := b' + b) t
      have := h l j hl' hj x ex
      omega
  · have hl' : lows c vs = [] := Classical.byContradiction hl
    have no : ∀ b, c j vs.length = some b → False := fun b eb => by
      have := mem_lows.mpr ⟨j, b, hj, eb, rfl⟩
      rw [hl'] at this; cases this
    refine ⟨fun b eb => (no b eb).elim, fun b eb => ?_⟩
    have hh : highs c vs ≠ [] := List.ne_nil_of_mem (mem_highs.mpr ⟨j, b, hj, eb, rfl⟩)
    have e : choose c vs = minL (highs c vs) := by unfold choose; rw [if_neg hl, if_pos hh]
    rw [e]
    have := (minL_spec _ hh).2 _ (mem_highs.mpr ⟨j, b, hj, eb, rfl⟩)
    omega
theorem getD_app_lt {l : List Int} {x : Int} {i : Nat} (h : i < l.length) : (l ++ [x]).getD i 0 = l.getD i 0 := by
  rw [List.getD_eq_getElem?_getD, List.getD_eq_getElem?_getD, List.getElem?_append_left h]
theorem getD_app_eq {l : List Int} {x : Int} : (l ++ [x]).getD l.length 0 = x := by
  rw [List.getD_eq_getElem?_getD, List.getElem?_append_right (Nat.le_refl _), Nat.sub_self]; rfl
theorem valsF_ok {n : Nat} {c : Mx} (C : Closed n c) : ∀ m, m < n → ∀ i j, i < m + 1 → j < m + 1 → ∀ b, c i j = some b → (valsF c m).getD i 0 - (valsF c m).getD j 0 ≤ b
  | 0, hm, i, j, hi, hj, b, e => by
    have ei : i = 0 := by omega
    have ej : j = 0 := by omega
    subst ei ej
    rw [C.dg 0 hm] at e
    have := Option.some.inj e
    show (0 : Int) - 0 ≤ b
    omega
  | m + 1, hm, i, j, hi, hj, b, e => by
    have L := valsF_len c m
    have ih := valsF_ok C m (by omega)
    have P := choose_ok C (vs := valsF c m) (by omega) (fun i j hi hj => ih i j (by omega) (by omega))
    show (valsF c m ++ [choose c (valsF c m)]).getD i 0 - (valsF c m ++ [choose c (valsF c m)]).getD j 0 ≤ b
    by_cases hi' : i < m + 1
    · rw [getD_app_lt (by omega)]
      by_cases hj' : j < m + 1
      · rw [getD_app_lt (by omega)]
        exact ih i j hi' hj' b e
      · have ej : j = (valsF c m).length := by omega
        subst ej
        rw [getD_app_eq]
        exact (P i (by omega)).1 b e
    · have ei : i = (valsF c m).length := by omega
      subst ei
      rw [getD_app_eq]
      by_cases hj' : j < m + 1
      · rw [getD_app_lt (by omega)]
        exact (P j (by omega)).2 b e
      · have ej : j = (valsF c m).length := by omega
        subst ej
        rw [getD_app_eq]
        rw [C.dg _ (by omega)] at e
        have := Option.some.inj e
        omega
theorem valsF_head (c : Mx) : ∀ m, (valsF c m).getD 0 0 = 0
  | 0 => rfl
  | m + 1 => by
    show (valsF c m ++ [choose c (valsF c m)]).getD 0 0 = 0
    rw [getD_app_lt (by rw [valsF_len]; omega)]
    exact valsF_head c m
/-- values v_1 .. as a function with v_0 = 0 -/
def vfn (vs : List Int) : Nat → Int := fun i => (0 :: vs).getD i 0
theorem valsF_cons (c : Mx) (m : Nat) : valsF c m = 0 :: (valsF c m).drop 1 := by
  have h := valsF_head c m
  have l := valsF_len c m
  cases e : valsF c m with
  | nil => rw [e] at l; cases l
  | cons x r =>
    rw [e] at h
    have h' : x = 0 := h
    rw [h']; rfl
theorem vals_hold {n : Nat} {c : Mx} (C : Closed n c) (hn : 0 < n) : Hold n c (vfn ((valsF c (n - 1)).drop 1)) := fun i j hi hj b e => by
  unfold vfn
  rw [← valsF_cons]
  exact valsF_ok C (n - 1) (by omega) i j (by omega) (by omega) b e
theorem fm_congr {α β : Type} {f g : α → Option β} : ∀ {l : List α}, (∀ x ∈ l, f x = g x) → l.filterMap f = l.filterMap g
  | [], _ => rfl
  | a :: l, h => by
    rw [List.filterMap_cons, List.filterMap_cons, h a List.mem_cons_self, fm_congr fun x hx => h x (List.mem_cons_of_mem _ hx)]
theorem lows_congr {n : Nat} {c c' : Mx} (h : Eqn n c c') {vs : List Int} (hv : vs.length < n) : lows c vs = lows c' vs := by
  unfold lows
  refine fm_congr fun j hj => ?_
  have := List.mem_range.mp hj
  rw [h j vs.length (by omega) hv]
theorem highs_congr {n : Nat} {c c' : Mx} (h : Eqn n c c') {vs : List Int} (hv : vs.length < n) : highs c vs = highs c' vs := by
  unfold highs
  refine fm_congr fun j hj => ?_
  have := List.mem_range.mp hj
  rw [h vs.length j hv (by omega)]
theorem choose_congr {n : Nat} {c c' : Mx} (h : Eqn n c c') {vs : List Int} (hv : vs.length < n) : choose c vs = choose c' vs := by
  unfold choose
  rw [lows_congr h hv, highs_congr h hv]
theorem valsF_congr {n : Nat} {c c' : Mx} (h : Eqn n c c') : ∀ m, m < n → valsF c m = valsF c' m
  | 0, _ => rfl
  | m + 1, hm => by
    show valsF c m ++ [choose c (valsF c m)] = valsF c' m ++ [choose c' (valsF c' m)]
    rw [valsF_congr h m (by omega), choose_congr h (by rw [valsF_len]; omega)]

/-! ### sizes -/
def Bnd (B : Int) (n : Nat) (f : Mx) : Prop := ∀ i j, i < n → j < n → ∀ b, f i j = some b → -B ≤ b ∧ b ≤ B
theorem bnd_stp {B : Int} {n k : Nat} {f : Mx} (hB : 0 ≤ B) (hk : k < n) (h : Bnd B n f) : Bnd (2 * B) n (stp f k) := fun i j hi hj b e => by
  rcases ls_or (f i j) (pl (f i k) (f k j)) with q | q
  · have := h i j hi hj b (q.symm.trans e)
    omega
  · obtain ⟨x, y, e1, e2, e3⟩ := pl_some (q.symm.trans e)
    have a1 := h i k hi hk x e1
    have a2 := h k j hk hj y e2
    omega
theorem bnd_rnd {B : Int} {n : Nat} {f : Mx} (hB : 0 ≤ B) (h : Bnd B n f) : ∀ k, k ≤ n → Bnd (2 ^ k * B) n (rnd f k)
  | 0, _ => by rw [show (2 : Int) ^ 0 * B = B by rw [Int.pow_zero]; omega]; exact h
  | k + 1, hk => by
    have hp : (0 : Int) ≤ 2 ^ k * B := Int.mul_nonneg (Int.pow_nonneg (by decide)) hB
    have := bnd_stp hp (show k < n by omega) (bnd_rnd hB h k (by omega))
    rw [show (2 : Int) ^ (k + 1) * B = 2 * (2 ^ k * B) by rw [Int.pow_succ, Int.mul_comm (2 ^ k) 2, Int.mul_assoc]]
    exact this
theorem bnd_mono {B B' : Int} {n : Nat} {f : Mx} (h : Bnd B n f) (hB : B ≤ B') : Bnd B' n f := fun i j hi hj b e => by
  have := h i j hi hj b e
  omega
def BndL (B : Int) (l : List Int) : Prop := ∀ x ∈ l, -B ≤ x ∧ x ≤ B
theorem getD_bnd {B : Int} (hB : 0 ≤ B) {l : List Int} (h : BndL B l) (i : Nat) : -B ≤ l.getD i 0 ∧ l.getD i 0 ≤ B := by
  by_cases q : i < l.length
  · have e : l.getD i 0 = l[i] := by rw [List.getD_eq_getElem?_getD, List.getElem?_eq_getElem q]; rfl
    rw [e]; exact h _ (List.getElem_mem q)
  · have e : l.getD i 0 = 0 := by rw [List.getD_eq_getElem?_getD, List.getElem?_eq_none (by omega)]; rfl
    rw [e]; omega
theorem valsF_bnd {B : Int} (hB : 0 ≤ B) {n : Nat} {c : Mx} (h : Bnd B n c) : ∀ m, m < n → BndL ((m : Int) * B) (valsF c m)
  | 0, _ => fun x hx => by
    have : x = 0 := List.mem_singleton.mp hx
    rw [this]; simp
  | m + 1, hm => fun x hx => by
    have ih := valsF_bnd hB h m (by omega)
    have L := valsF_len c m
    have e1 : ((m + 1 : Nat) : Int) * B = (m : Int) * B + B := by
      rw [show ((m + 1 : Nat) : Int) = (m : Int) + 1 by omega, Int.add_mul, Int.one_mul]
    rw [e1]
    have hm0 : (0 : Int) ≤ (m : Int) * B := Int.mul_nonneg (by omega) hB
    rcases List.mem_append.mp hx with hx | hx
    · have := ih x hx; omega
    · have ex : x = choose c (valsF c m) := List.mem_singleton.mp hx
      rw [ex]
      by_cases hl : lows c (valsF c m) ≠ []
      · have e : choose c (valsF c m) = maxL (lows c (valsF c m)) := by unfold choose; rw [if_pos hl]
        rw [e]
        obtain ⟨j, b, hj, eb, q⟩ := mem_lows.mp (maxL_spec _ hl).1
        rw [q]
        have a1 := getD_bnd hm0 ih j
        have a2 := h j _ (by omega) (by omega) b eb
        omega
      · by_cases hh : highs c (valsF c m) ≠ []
        · have e : choose c (valsF c m) = minL (highs c (valsF c m)) := by unfold choose; rw [if_neg hl, if_pos hh]
          rw [e]
          obtain ⟨j, b, hj, eb, q⟩ := mem_highs.mp (minL_spec _ hh).1
          rw [q]
          have a1 := getD_bnd hm0 ih j
          have a2 := h _ j (by omega) (by omega) b eb
          omega
        · have e : choose c (valsF c m) = 0 := by unfold choose; rw [if_neg hl, if_neg hh]
          rw [e]; omega
end K38
/-! The plain law: rings. -/
namespace K38

/-! ### ways -/
abbrev Wy := Nat → Nat → Bd × List Nat
def w0 (f : Mx) : Wy := fun i j => (f i j, if i = j then [] else [i])
def wstp (W : Wy) (k : Nat) : Wy := fun i j =>
  if leB (W i j).1 (pl (W i k).1 (W k j).1) = true then W i j else (pl (W i k).1 (W k j).1, (W i k).2 ++ (W k j).2)
def wr (f : Mx) : Nat → Wy
  | 0 => w0 f
  | k + 1 => wstp (wr f k) k
theorem wr_fst (f : Mx) : ∀ k i j, (wr f k i j).1 = rnd f k i j
  | 0, _, _ => rfl
  | k + 1, i, j => by
    show (wstp (wr f k) k i j).1 = ls (rnd f k i j) (pl (rnd f k i k) (rnd f k k j))
    unfold wstp ls
    rw [wr_fst f k i j, wr_fst f k i k, wr_fst f k k j]
    by_cases h : leB (rnd f k i j) (pl (rnd f k i k) (rnd f k k j)) = true
    · rw [if_pos h, if_pos h]; exact wr_fst f k i j
    · rw [if_neg h, if_neg h]
theorem wr_len (f : Mx) : ∀ k i j, (wr f k i j).2.length ≤ 2 ^ k
  | 0, i, j => by
    show (if i = j then [] else [i] : List Nat).length ≤ 1
    split <;> simp
  | k + 1, i, j => by
    show (wstp (wr f k) k i j).2.length ≤ 2 ^ (k + 1)
    have h1 := wr_len f k i j
    have h2 := wr_len f k i k
    have h3 := wr_len f k k j
    have e : 2 ^ (k + 1) = 2 ^ k + 2 ^ k := by rw [Nat.pow_succ]; omega
    unfold wstp
    split
    · omega
    · rw [List.length_append]; omega
/-- the sum along a row of indexes and on to y -/
def ps (f : Mx) : List Nat → Nat → Bd
  | [], _ => some 0
  | x :: r, y => pl (f x (r.headD y)) (ps f r y)
theorem headD_app {a b : List Nat} {y : Nat} : (a ++ b).headD y = a.headD (b.headD y) := by cases a <;> rfl
theorem ps_app (f : Mx) (b : List Nat) (y : Nat) : ∀ a, ps f (a ++ b) y = pl (ps f a (b.headD y)) (ps f b y)
  | [] => (zero_pl _).symm
  | x :: r => by
    show pl (f x ((r ++ b).headD y)) (ps f (r ++ b) y) = pl (pl (f x (r.headD (b.headD y))) (ps f r (b.headD y))) (ps f b y)
    rw [headD_app, ps_app f b y r, pl_assoc]
structure WayOk (f : Mx) (n i j : Nat) (t : Bd) (w : List Nat) : Prop where
  sum : ∀ x, t = some x → ps f w j = some x
  hd : (∃ x, t = some x) → w.headD j = i
  lt : ∀ x ∈ w, x < n
theorem wr_ok {n : Nat} {f : Mx} (h0 : Dg n f) : ∀ k, k ≤ n → ∀ i j, i < n → j < n → WayOk f n i j (wr f k i j).1 (wr f k i j).2
  | 0, _, i, j, hi, hj => by
    by_cases e : i = j
    · subst e
      have e2 : wr f 0 i i = (f i i, []) := by show (f i i, if i = i then [] else [i]) = _; rw [if_pos rfl]
      rw [e2]
      exact ⟨fun x hx => by rw [← hx]; exact (h0 i hi).symm, fun _ => rfl, fun x hx => by cases hx⟩
    · have e2 : wr f 0 i j = (f i j, [i]) := by show (f i j, if i = j then [] else [i]) = _; rw [if_neg e]
      rw [e2]
      refine ⟨fun x hx => ?_, fun _ => rfl, fun x hx => by rw [List.mem_singleton.mp hx]; exact hi⟩
      show pl (f i j) (some 0) = some x
      rw [pl_zero]; exact hx
  | k + 1, hk, i, j, hi, hj => by
    have a1 := wr_ok h0 k (by omega) i j hi hj
    have a2 := wr_ok h0 k (by omega) i k hi (by omega)
    have a3 := wr_ok h0 k (by omega) k j (by omega) hj
    show WayOk f n i j (wstp (wr f k) k i j).1 (wstp (wr f k) k i j).2
    unfold wstp
    by_cases h : leB (wr f k i j).1 (pl (wr f k i k).1 (wr f k k j).1) = true
    · rw [if_pos h]; exact a1
    · rw [if_neg h]
      refine ⟨fun x hx => ?_, fun ⟨x, hx⟩ => ?_, fun x hx => ?_⟩
      · obtain ⟨y, z, e1, e2, e3⟩ := pl_some hx
        show ps f ((wr f k i k).2 ++ (wr f k k j).2) j = some x
        rw [ps_app, a3.hd ⟨z, e2⟩, a2.sum y e1, a3.sum z e2, e3]; rfl
      · obtain ⟨y, z, e1, e2, e3⟩ := pl_some hx
        show ((wr f k i k).2 ++ (wr f k k j).2).headD j = i
        rw [headD_app, a3.hd ⟨z, e2⟩]
        exact a2.hd ⟨y, e1⟩
      · rcases List.mem_append.mp hx with q | q
        · exact a2.lt x q
        · exact a3.lt x q

/-! ### the sum around -/
/-- the pairs along a row and back -/
def around (l : List Nat) : List (Nat × Nat) := l.zip (l.drop 1 ++ l.take 1)
def rsum (f : Mx) (l : List Nat) : Int := ((around l).map fun p => (f p.1 p.2).getD 0).sum
structure IsRing (n : Nat) (f : Mx) (l : List Nat) : Prop where
  two : 2 ≤ l.length
  nd : l.Nodup
  lt : ∀ x ∈ l, x < n
  som : ∀ p ∈ around l, f p.1 p.2 ≠ none
  neg : rsum f l < 0
theorem zip_ps (f : Mx) (y : Nat) : ∀ (l : List Nat) (u : Int), ps f l y = some u → (∀ p ∈ l.zip (l.drop 1 ++ [y]), f p.1 p.2 ≠ none) ∧ ((l.zip (l.drop 1 ++ [y])).map fun p => (f p.1 p.2).getD 0).sum = u
  | [], u, h => ⟨fun p hp => absurd (show p ∈ ([] : List (Nat × Nat)) from hp) (by simp), by
      have := Option.some.inj h
      rw [← this]
      rfl⟩
  | x :: r, u, h => by
    have h' : pl (f x (r.headD y)) (ps f r y) = some u := h
    obtain ⟨a, b, e1, e2, e3⟩ := pl_some h'
    have ih := zip_ps f y r b e2
    have ez : (x :: r).zip ((x :: r).drop 1 ++ [y]) = (x, r.headD y) :: r.zip (r.drop 1 ++ [y]) := by
      cases r with
      | nil => rfl
      | cons z s => rfl
    rw [ez]
    constructor
    · intro p hp
      rcases List.mem_cons.mp hp with q | hp
      · rw [q]; show f x (r.headD y) ≠ none; rw [e1]; simp
      · exact ih.1 p hp
    · rw [List.map_cons, List.sum_cons, ih.2]
      show (f x (r.headD y)).getD 0 + b = u
      rw [e1, e3]; rfl
theorem around_cons (x : Nat) (r : List Nat) : around (x :: r) = (x :: r).zip ((x :: r).drop 1 ++ [x]) := rfl
theorem around_ps {f : Mx} {l : List Nat} {s : Nat} {u : Int} (hl : l ≠ []) (hd : l.headD s = s) (h : ps f l s = some u) : (∀ p ∈ around l, f p.1 p.2 ≠ none) ∧ rsum f l = u := by
  cases l with
  | nil => exact absurd rfl hl
  | cons x r =>
    have e : x = s := hd
    subst e
    unfold rsum
    rw [around_cons]
    exact zip_ps f x (x :: r) u h
theorem around_mem {l : List Nat} {p : Nat × Nat} (h : p ∈ around l) : p.1 ∈ l ∧ p.2 ∈ l := by
  unfold around at h
  have h1 := List.of_mem_zip (a := p.1) (b := p.2) h
  refine ⟨h1.1, ?_⟩
  rcases List.mem_append.mp h1.2 with q | q
  · exact List.mem_of_mem_drop q
  · exact List.mem_of_mem_take q

/-! ### a ring out of a way -/
def posn (x : Nat) : List Nat → Nat
  | [] => 0
  | y :: r => if x = y then 0 else posn x r + 1
theorem posn_split (x : Nat) : ∀ l : List Nat, x ∈ l → posn x l < l.length ∧ l.drop (posn x l) = x :: l.drop (posn x l + 1) ∧ l[posn x l]? = some x ∧ ∀ m z, m < posn x l → l[m]? = some z → z ≠ x
  | [], h => by cases h
  | y :: r, h => by
    by_cases e : x = y
    · subst e
      have e2 : posn x (x :: r) = 0 := by unfold posn; rw [if_pos rfl]
      rw [e2]
      exact ⟨by simp, rfl, rfl, fun m z hm => by omega⟩
    · have e2 : posn x (y :: r) = posn x r + 1 := by
        show (if x = y then 0 else posn x r + 1) = _
        rw [if_neg e]
      have hr : x ∈ r := (List.mem_cons.mp h).resolve_left e
      obtain ⟨h1, h2, h3, h4⟩ := posn_split x r hr
      rw [e2]
      refine ⟨by simp; exact h1, h2, h3, fun m z hm hz => ?_⟩
      cases m with
      | zero =>
        have : y = z := Option.some.inj hz
        rw [← this]; exact fun q => e q.symm
      | succ m => exact h4 m z (by omega) hz
def ringGo (f : Mx) (kept : List Nat) : List Nat → List Nat
  | [] => kept
  | x :: r => if x ∈ kept then (if rsum f (kept.drop (posn x kept)) < 0 then kept.drop (posn x kept) else ringGo f (kept.take (posn x kept) ++ [x]) r) else ringGo f (kept ++ [x]) r
theorem nodup_app_one {l : List Nat} {x : Nat} (h : l.Nodup) (hx : x ∉ l) : (l ++ [x]).Nodup := by
  rw [List.nodup_append]
  refine ⟨h, by simp, fun a ha b hb => ?_⟩
  rw [List.mem_singleton.mp hb]
  exact fun q => hx (q ▸ ha)
theorem ringGo_ok {n : Nat} {f : Mx} (h0 : Dg n f) (s : Nat) (hs : s < n) : ∀ (r kept : List Nat) (u v : Int), (∀ x ∈ r, x < n) → kept.Nodup → (∀ x ∈ kept, x < n) → kept.headD (r.headD s) = s →
    ps f kept (r.headD s) = some u → ps f r s = some v → u + v < 0 → IsRing n f (ringGo f kept r)
  | [], kept, u, v, _, nd, lt, hd, pu, pv, neg => by
    have ev : v = 0 := (Option.some.inj pv).symm
    have hk : kept ≠ [] := fun q => by
      subst q
      have : u = 0 := (Option.some.inj pu).symm
      omega
    have hd' : kept.headD s = s := hd
    obtain ⟨a1, a2⟩ := around_ps hk hd' pu
    refine ⟨?_, nd, lt, a1, by show rsum f kept < 0; rw [a2]; omega⟩
    cases kept with
    | nil => exact absurd rfl hk
    | cons x q =>
      cases q with
      | nil =>
        exfalso
        have e : x = s := hd'
        subst e
        have e2 : ps f [x] x = some u := pu
        have e3 : ps f [x] x = some 0 := by
          show pl (f x x) (some 0) = some 0
          rw [h0 x (lt x List.mem_cons_self)]; rfl
        have := Option.some.inj (e2.symm.trans e3)
        omega
      | cons y q => show 2 ≤ (x :: y :: q).length; simp
  | x :: r, kept, u, v, ltr, nd, lt, hd, pu, pv, neg => by
    have pv' : pl (f x (r.headD s)) (ps f r s) = some v := pv
    obtain ⟨e, v', e1, e2, e3⟩ := pl_some pv'
    have pu' : ps f kept x = some u := pu
    have hd' : kept.headD x = s := hd
    have hx : x < n := ltr x List.mem_cons_self
    by_cases hm : x ∈ kept
    · obtain ⟨q1, q2, q3, q4⟩ := posn_split x kept hm
      have ek : kept = kept.take (posn x kept) ++ kept.drop (posn x kept) := (List.take_append_drop _ _).symm
      have hdr : (kept.drop (posn x kept)).headD x = x := by rw [q2]; rfl
      have pk : pl (ps f (kept.take (posn x kept)) x) (ps f (kept.drop (posn x kept)) x) = some u := by
        have := ps_app f (kept.drop (posn x kept)) x (kept.take (posn x kept))
        rw [← ek, hdr] at this
        rw [← this]; exact pu'
      obtain ⟨a, c, f1, f2, f3⟩ := pl_some pk
      have hne : kept.drop (posn x kept) ≠ [] := by rw [q2]; simp
      obtain ⟨b1, b2⟩ := around_ps hne hdr f2
      by_cases hc : rsum f (kept.drop (posn x kept)) < 0
      · have eg : ringGo f kept (x :: r) = kept.drop (posn x kept) := by
          show (if x ∈ kept then _ else _) = _
          rw [if_pos hm, if_pos hc]
        rw [eg]
        refine ⟨?_, nd.sublist (List.drop_sublist _ _), fun y hy => lt y (List.mem_of_mem_drop hy), b1, hc⟩
        rw [q2]
        cases eq : kept.drop (posn x kept + 1) with
        | nil =>
          exfalso
          rw [q2, eq] at f2
          have e4 : ps f [x] x = some 0 := by
            show pl (f x x) (some 0) = some 0
            rw [h0 x hx]; rfl
          have := Option.some.inj (f2.symm.trans e4)
          omega
        | cons y q => show 2 ≤ (x :: y :: q).length; simp
      · have eg : ringGo f kept (x :: r) = ringGo f (kept.take (posn x kept) ++ [x]) r := by
          show (if x ∈ kept then _ else _) = _
          rw [if_pos hm, if_neg hc]
        rw [eg]
        have hnot : x ∉ kept.take (posn x kept) := fun q => by
          obtain ⟨m, hmm, em⟩ := List.getElem_of_mem q
          have hml : m < posn x kept := by rw [List.length_take] at hmm; omega
          have : kept[m]? = some x := by
            rw [← em, List.getElem_take]
            exact List.getElem?_eq_getElem _
          exact q4 m x hml this rfl
        refine ringGo_ok h0 s hs r _ (a + e) v' (fun y hy => ltr y (List.mem_cons_of_mem _ hy)) (nodup_app_one (nd.sublist (List.take_sublist _ _)) hnot) (fun y hy => ?_) ?_ ?_ e2 (by rw [b2] at hc; omega)
        · rcases List.mem_append.mp hy with q | q
          · exact lt y (List.mem_of_mem_take q)
          · rw [List.mem_singleton.mp q]; exact hx
        · rw [headD_app]
          show (kept.take (posn x kept)).headD x = s
          cases ep : posn x kept with
          | zero =>
            show x = s
            rw [ep] at q2
            have : kept = x :: kept.drop 1 := q2
            rw [this] at hd'
            exact hd'
          | succ m =>
            cases kept with
            | nil => cases hm
            | cons z t => exact hd'
        · rw [ps_app]
          show pl (ps f (kept.take (posn x kept)) x) (pl (f x (r.headD s)) (some 0)) = some (a + e)
          rw [f1, pl_zero, e1]; rfl
    · have eg : ringGo f kept (x :: r) = ringGo f (kept ++ [x]) r := by
        show (if x ∈ kept then _ else _) = _
        rw [if_neg hm]
      rw [eg]
      refine ringGo_ok h0 s hs r _ (u + e) v' (fun y hy => ltr y (List.mem_cons_of_mem _ hy)) (nodup_app_one nd hm) (fun y hy => ?_) ?_ ?_ e2 (by omega)
      · rcases List.mem_append.mp hy with q | q
        · exact lt y q
        · rw [List.mem_singleton.mp q]; exact hx
      · rw [headD_app]; exact hd'
      · rw [ps_app]
        show pl (ps f kept x) (pl (f x (r.headD s)) (some 0)) = some (u + e)
        rw [pu', pl_zero, e1]; rfl

/-! ### the search -/
def negB : Bd → Bool
  | some x => decide (x < 0)
  | none => false
def firstNeg (n : Nat) (f : Mx) (k : Nat) : Option Nat := (List.range n).find? fun a => negB (rnd f k a a)
def ringAt (f : Mx) (k a : Nat) : List Nat := ringGo f [] (wr f k a a).2
/-- from round k on, m rounds more -/
def ringFrom (n : Nat) (f : Mx) : Nat → Nat → Option (List Nat)
  | _, 0 => none
  | k, m + 1 => match firstNeg n f (k + 1) with
    | some a => some (ringAt f (k + 1) a)
    | none => ringFrom n f (k + 1) m
def ringIn (n : Nat) (f : Mx) : Option (List Nat) := ringFrom n f 0 n
theorem firstNeg_some {n : Nat} {f : Mx} {k a : Nat} (h : firstNeg n f k = some a) : a < n ∧ ∃ d, rnd f k a a = some d ∧ d < 0 := by
  have h1 := List.mem_of_find?_eq_some h
  have h2 := List.find?_some h
  refine ⟨List.mem_range.mp h1, ?_⟩
  cases e : rnd f k a a with
  | none => rw [e] at h2; cases h2
  | some d =>
    rw [e] at h2
    exact ⟨d, rfl, of_decide_eq_true h2⟩
theorem firstNeg_none {n : Nat} {f : Mx} {k : Nat} (h : firstNeg n f k = none) : ∀ a, a < n → negB (rnd f k a a) = false := fun a ha => by
  have := List.find?_eq_none.mp h a (List.mem_range.mpr ha)
  cases e : negB (rnd f k a a) with
  | false => rfl
  | true => exact absurd e this
theorem ringAt_ok {n : Nat} {f : Mx} (h0 : Dg n f) {k a : Nat} (hk : k ≤ n) (ha : a < n) {d : Int} (e : rnd f k a a = some d) (hd : d < 0) : IsRing n f (ringAt f k a) := by
  have W := wr_ok h0 k hk a a ha ha
  rw [wr_fst, e] at W
  exact ringGo_ok h0 a ha _ [] 0 d W.lt .nil (fun x hx => by cases hx) (W.hd ⟨d, rfl⟩) rfl (W.sum d rfl) (by omega)
theorem ringFrom_some {n : Nat} {f : Mx} (h0 : Dg n f) : ∀ m k, k + m ≤ n → ∀ l, ringFrom n f k m = some l → IsRing n f l ∧ clo n f = none
  | 0, _, _, _, h => by cases h
  | m + 1, k, hk, l, h => by
    unfold ringFrom at h
    cases e : firstNeg n f (k + 1) with
    | some a =>
      rw [e] at h
      obtain ⟨ha, d, ed, hd⟩ := firstNeg_some e
      have hl : ringAt f (k + 1) a = l := Option.some.inj h
      refine ⟨hl ▸ ringAt_ok h0 (by omega) ha ed hd, ?_⟩
      unfold clo
      rw [neg_stays (show k + 1 ≤ n by omega) ha ed hd]; rfl
    | none =>
      rw [e] at h
      exact ringFrom_some h0 m (k + 1) (by omega) l h
theorem ringFrom_none {n : Nat} {f : Mx} : ∀ m k, ringFrom n f k m = none → ∀ j, k < j → j ≤ k + m → ∀ a, a < n → negB (rnd f j a a) = false
  | 0, _, _, j, h1, h2, _, _ => by omega
  | m + 1, k, h, j, h1, h2, a, ha => by
    unfold ringFrom at h
    cases e : firstNeg n f (k + 1) with
    | some a => rw [e] at h; cases h
    | none =>
      rw [e] at h
      by_cases q : j = k + 1
      · subst q; exact firstNeg_none e a ha
      · exact ringFrom_none m (k + 1) h j (by omega) (by omega) a ha
/-- a ring is told just where there is no closing -/
theorem ringIn_ok {n : Nat} {f : Mx} (h0 : Dg n f) (hn : 0 < n) : (clo n f ≠ none → ringIn n f = none) ∧ (clo n f = none → ∃ l, ringIn n f = some l ∧ IsRing n f l) := by
  constructor
  · intro h
    cases e : ringIn n f with
    | none => rfl
    | some l => exact absurd (ringFrom_some h0 n 0 (by omega) l e).2 h
  · intro h
    cases e : ringIn n f with
    | some l => exact ⟨l, rfl, (ringFrom_some h0 n 0 (by omega) l e).1⟩
    | none =>
      exfalso
      have q := ringFrom_none n 0 e n hn (by omega)
      have : okD n (rnd f n) = true := okD_iff.mpr fun i hi => by
        obtain ⟨d, ed, hd⟩ := diag_or h0 n hi
        have := q i hi
        rw [ed] at this ⊢
        have : ¬ d < 0 := of_decide_eq_false this
        rw [show d = 0 by omega]
      unfold clo at h
      rw [if_pos this] at h
      cases h

/-! ### alike differences give alike rings -/
theorem wr_congr {n : Nat} {f g : Mx} (h : Eqn n f g) : ∀ k, k ≤ n → ∀ i j, i < n → j < n → wr f k i j = wr g k i j
  | 0, _, i, j, hi, hj => by
    show (f i j, _) = (g i j, _)
    rw [h i j hi hj]
  | k + 1, hk, i, j, hi, hj => by
    show wstp (wr f k) k i j = wstp (wr g k) k i j
    unfold wstp
    rw [wr_congr h k (by omega) i j hi hj, wr_congr h k (by omega) i k hi (by omega), wr_congr h k (by omega) k j (by omega) hj]
/-- is held, as a truth value -/
def holdB (n : Nat) (f : Mx) (v : Nat → Int) : Bool := (List.range n).all fun i => (List.range n).all fun j => match f i j with
  | none => true
  | some b => decide (v i - v j ≤ b)
theorem holdB_iff {n : Nat} {f : Mx} {v : Nat → Int} : holdB n f v = true ↔ Hold n f v := by
  unfold holdB Hold
  rw [List.all_eq_true]
  constructor
  · intro h i j hi hj b e
    have h1 := List.all_eq_true.mp (h i (List.mem_range.mpr hi)) j (List.mem_range.mpr hj)
    rw [e] at h1
    exact of_decide_eq_true h1
  · intro h i hi
    refine List.all_eq_true.mpr fun j hj => ?_
    cases e : f i j with
    | none => rfl
    | some b => exact decide_eq_true (h i j (List.mem_range.mp hi) (List.mem_range.mp hj) b e)
theorem holdB_eq {n : Nat} {f g : Mx} {v : Nat → Int} (h : Hold n f v ↔ Hold n g v) : holdB n f v = holdB n g v := by
  cases e : holdB n f v with
  | true => exact (holdB_iff.mpr (h.mp (holdB_iff.mp e))).symm
  | false =>
    cases e2 : holdB n g v with
    | false => rfl
    | true => rw [holdB_iff.mpr (h.mpr (holdB_iff.mp e2))] at e; cases e
end K38
namespace K38
/-! ### what stands between two turns of a ring's search -/
structure Rg (n : Nat) (f : Mx) (s : Nat) (kp r : List Nat) : Prop where
  ltr : ∀ x ∈ r, x < n
  nd : kp.Nodup
  lt : ∀ x ∈ kp, x < n
  pu : ∃ u, ps f kp (r.headD s) = some u
  pv : ∃ v, ps f r s = some v
theorem Rg.in_ {n s x : Nat} {f : Mx} {kp r : List Nat} (R : Rg n f s kp (x :: r)) (hm : x ∈ kp) :
    (∀ p ∈ around (kp.drop (posn x kp)), f p.1 p.2 ≠ none) ∧ Rg n f s (kp.take (posn x kp) ++ [x]) r := by
  obtain ⟨u, pu⟩ := R.pu
  obtain ⟨v, pv⟩ := R.pv
  have pv' : pl (f x (r.headD s)) (ps f r s) = some v := pv
  obtain ⟨e, v', e1, e2, _⟩ := pl_some pv'
  obtain ⟨q1, q2, q3, q4⟩ := posn_split x kp hm
  have ek : kp = kp.take (posn x kp) ++ kp.drop (posn x kp) := (List.take_append_drop _ _).symm
  have hdr : (kp.drop (posn x kp)).headD x = x := by rw [q2]; rfl
  have pk : pl (ps f (kp.take (posn x kp)) x) (ps f (kp.drop (posn x kp)) x) = some u := by
    have := ps_app f (kp.drop (posn x kp)) x (kp.take (posn x kp))
    rw [← ek, hdr] at this
    rw [← this]; exact pu
  obtain ⟨a, c, f1, f2, _⟩ := pl_some pk
  have hne : kp.drop (posn x kp) ≠ [] := by rw [q2]; simp
  refine ⟨(around_ps hne hdr f2).1, fun y hy => R.ltr y (List.mem_cons_of_mem _ hy), nodup_app_one (R.nd.sublist (List.take_sublist _ _)) (fun q => ?_), fun y hy => ?_, ⟨a + e, ?_⟩, ⟨v', e2⟩⟩
  · obtain ⟨m, hmm, em⟩ := List.getElem_of_mem q
    have hml : m < posn x kp := by rw [List.length_take] at hmm; omega
    have : kp[m]? = some x := by
      rw [← em, List.getElem_take]
      exact List.getElem?_eq_getElem _
    exact q4 m x hml this rfl
  · rcases List.mem_append.mp hy with q | q
    · exact R.lt y (List.mem_of_mem_take q)
    · rw [List.mem_singleton.mp q]; exact R.ltr x List.mem_cons_self
  · rw [ps_app]
    show pl (ps f (kp.take (posn x kp)) x) (pl (f x (r.headD s)) (some 0)) = some (a + e)
    rw [f1, pl_zero, e1]; rfl
theorem Rg.out {n s x : Nat} {f : Mx} {kp r : List Nat} (R : Rg n f s kp (x :: r)) (hm : x ∉ kp) : Rg n f s (kp ++ [x]) r := by
  obtain ⟨u, pu⟩ := R.pu
  obtain ⟨v, pv⟩ := R.pv
  have pv' : pl (f x (r.headD s)) (ps f r s) = some v := pv
  obtain ⟨e, v', e1, e2, _⟩ := pl_some pv'
  have pu' : ps f kp x = some u := pu
  refine ⟨fun y hy => R.ltr y (List.mem_cons_of_mem _ hy), nodup_app_one R.nd hm, fun y hy => ?_, ⟨u + e, ?_⟩, ⟨v', e2⟩⟩
  · rcases List.mem_append.mp hy with q | q
    · exact R.lt y q
    · rw [List.mem_singleton.mp q]; exact R.ltr x List.mem_cons_self
  · rw [ps_app]
    show pl (ps f kp x) (pl (f x (r.headD s)) (some 0)) = some (u + e)
    rw [pu', pl_zero, e1]; rfl
theorem nodup_le {n : Nat} {l : List Nat} (nd : l.Nodup) (lt : ∀ x ∈ l, x < n) : l.length ≤ n := by
  have h := nd.length_le_of_subset (l₂ := List.range n) fun x hx => List.mem_range.mpr (lt x hx)
  rwa [List.length_range] at h
end K38
/-! The text by places: each def, its names (parameters, locals, comprehensions' names). Printed by gen_text.py. -/
namespace K38
open PySem PySem.Spec PyProof.Rows L2
def top (i : Nat) : Stmt := PySem.Challenge.pw_soundlooks_k38_whole_closings_rings_and.main.body.getD i (.Pass ⟨0, 0, 0, 0⟩)
abbrev FnP (K : PySem.W.Frag) (x : Str) (st : Stmt) (f : Addr) (fd : FuncData) : Prop := FunD K x x (defArgs st) (defBody st) (defScope st) [] [] f fd
abbrev sIsWhole : Stmt := top 1
abbrev nIsWhole : List Str := ["value"]
theorem scIsWhole : FnScope nIsWhole ["value"] (defScope sIsWhole) := ⟨rfl, rfl, rfl, by decide +kernel, rfl, by decide +kernel, by decide +kernel⟩
abbrev sIsBetween : Stmt := top 2
abbrev nIsBetween : List Str := ["value", "low", "high"]
theorem scIsBetween : FnScope nIsBetween ["value", "low", "high"] (defScope sIsBetween) := ⟨rfl, rfl, rfl, by decide +kernel, rfl, by decide +kernel, by decide +kernel⟩
abbrev sIsEnd : Stmt := top 4
abbrev nIsEnd : List Str := ["value"]
theorem scIsEnd : FnScope nIsEnd ["value"] (defScope sIsEnd) := ⟨rfl, rfl, rfl, by decide +kernel, rfl, by decide +kernel, by decide +kernel⟩
abbrev sIsHighWithin : Stmt := top 5
abbrev nIsHighWithin : List Str := ["high", "other"]
theorem scIsHighWithin : FnScope nIsHighWithin ["high", "other"] (defScope sIsHighWithin) := ⟨rfl, rfl, rfl, by decide +kernel, rfl, by decide +kernel, by decide +kernel⟩
abbrev sIsBoundRow : Stmt := top 7
abbrev nIsBoundRow : List Str := ["many", "at", "value", "bound"]
theorem scIsBoundRow : FnScope nIsBoundRow ["many", "at", "value"] (defScope sIsBoundRow) := ⟨rfl, rfl, rfl, by decide +kernel, rfl, by decide +kernel, by decide +kernel⟩
abbrev sAreDifferences : Stmt := top 8
abbrev nAreDifferences : List Str := ["many", "value", "at", "row"]
theorem scAreDifferences : FnScope nAreDifferences ["many", "value"] (defScope sAreDifferences) := ⟨rfl, rfl, rfl, by decide +kernel, rfl, by decide +kernel, by decide +kernel⟩
abbrev sIsWithinBound : Stmt := top 9
abbrev nIsWithinBound : List Str := ["number", "bound"]
theorem scIsWithinBound : FnScope nIsWithinBound ["number", "bound"] (defScope sIsWithinBound) := ⟨rfl, rfl, rfl, by decide +kernel, rfl, by decide +kernel, by decide +kernel⟩
abbrev sHoldDifferences : Stmt := top 10
abbrev nHoldDifferences : List Str := ["many", "one", "values", "all_values", "pairs", "i", "j"]
theorem scHoldDifferences : FnScope nHoldDifferences ["many", "one", "values"] (defScope sHoldDifferences) := ⟨rfl, rfl, rfl, by decide +kernel, rfl, by decide +kernel, by decide +kernel⟩
abbrev sPlus : Stmt := top 11
abbrev nPlus : List Str := ["bound", "other"]
theorem scPlus : FnScope nPlus ["bound", "other"] (defScope sPlus) := ⟨rfl, rfl, rfl, by decide +kernel, rfl, by decide +kernel, by decide +kernel⟩
abbrev sLesser : Stmt := top 12
abbrev nLesser : List Str := ["bound", "other"]
theorem scLesser : FnScope nLesser ["bound", "other"] (defScope sLesser) := ⟨rfl, rfl, rfl, by decide +kernel, rfl, by decide +kernel, by decide +kernel⟩
abbrev sRowThrough : Stmt := top 13
abbrev nRowThrough : List Str := ["row", "step", "others", "bound", "other"]
theorem scRowThrough : FnScope nRowThrough ["row", "step", "others"] (defScope sRowThrough) := ⟨rfl, rfl, rfl, by decide +kernel, rfl, by decide +kernel, by decide +kernel⟩
abbrev sClosedBy : Stmt := top 14
abbrev nClosedBy : List Str := ["one", "rows", "by", "row", "at"]
theorem scClosedBy : FnScope nClosedBy ["one"] (defScope sClosedBy) := ⟨rfl, rfl, rfl, by decide +kernel, rfl, by decide +kernel, by decide +kernel⟩
abbrev sWalkThrough : Stmt := top 15
abbrev nWalkThrough : List Str := ["walk", "others", "by", "sum_by", "way_by", "found", "total", "way", "other_total", "other_way", "longer"]
theorem scWalkThrough : FnScope nWalkThrough ["walk", "others", "by"] (defScope sWalkThrough) := ⟨rfl, rfl, rfl, by decide +kernel, rfl, by decide +kernel, by decide +kernel⟩
abbrev sSumRound : Stmt := top 16
abbrev nSumRound : List Str := ["one", "ring", "i", "j"]
theorem scSumRound : FnScope nSumRound ["one", "ring"] (defScope sSumRound) := ⟨rfl, rfl, rfl, by decide +kernel, rfl, by decide +kernel, by decide +kernel⟩
abbrev sRingOn : Stmt := top 17
abbrev nRingOn : List Str := ["one", "way", "kept", "index", "at"]
theorem scRingOn : FnScope nRingOn ["one", "way"] (defScope sRingOn) := ⟨rfl, rfl, rfl, by decide +kernel, rfl, by decide +kernel, by decide +kernel⟩
abbrev sRingIn : Stmt := top 18
abbrev nRingIn : List Str := ["one", "row", "rows", "by", "at", "j", "bound", "i"]
theorem scRingIn : FnScope nRingIn ["one"] (defScope sRingIn) := ⟨rfl, rfl, rfl, by decide +kernel, rfl, by decide +kernel, by decide +kernel⟩
abbrev sChosenNumber : Stmt := top 19
abbrev nChosenNumber : List Str := ["closed", "values", "at", "lows", "highs", "j", "number"]
theorem scChosenNumber : FnScope nChosenNumber ["closed", "values"] (defScope sChosenNumber) := ⟨rfl, rfl, rfl, by decide +kernel, rfl, by decide +kernel, by decide +kernel⟩
abbrev sValuesHeldBy : Stmt := top 20
abbrev nValuesHeldBy : List Str := ["closed", "values"]
theorem scValuesHeldBy : FnScope nValuesHeldBy ["closed"] (defScope sValuesHeldBy) := ⟨rfl, rfl, rfl, by decide +kernel, rfl, by decide +kernel, by decide +kernel⟩
abbrev sCheckSize : Stmt := top 28
abbrev nCheckSize : List Str := ["many"]
theorem scCheckSize : FnScope nCheckSize ["many"] (defScope sCheckSize) := ⟨rfl, rfl, rfl, by decide +kernel, rfl, by decide +kernel, by decide +kernel⟩
abbrev sCheckValuesOf : Stmt := top 29
abbrev nCheckValuesOf : List Str := ["many", "value", "index", "each"]
theorem scCheckValuesOf : FnScope nCheckValuesOf ["many", "value"] (defScope sCheckValuesOf) := ⟨rfl, rfl, rfl, by decide +kernel, rfl, by decide +kernel, by decide +kernel⟩
abbrev sCheckDifferences : Stmt := top 30
abbrev nCheckDifferences : List Str := ["many", "one"]
theorem scCheckDifferences : FnScope nCheckDifferences ["many", "one"] (defScope sCheckDifferences) := ⟨rfl, rfl, rfl, by decide +kernel, rfl, by decide +kernel, by decide +kernel⟩
abbrev sCheckSizedDifferences : Stmt := top 31
abbrev nCheckSizedDifferences : List Str := ["many", "one"]
theorem scCheckSizedDifferences : FnScope nCheckSizedDifferences ["many", "one"] (defScope sCheckSizedDifferences) := ⟨rfl, rfl, rfl, by decide +kernel, rfl, by decide +kernel, by decide +kernel⟩
abbrev sDifferencesHold : Stmt := top 33
abbrev nDifferencesHold : List Str := ["many", "one", "values"]
theorem scDifferencesHold : FnScope nDifferencesHold ["many", "one", "values"] (defScope sDifferencesHold) := ⟨rfl, rfl, rfl, by decide +kernel, rfl, by decide +kernel, by decide +kernel⟩
abbrev sClosedDifferences : Stmt := top 34
abbrev nClosedDifferences : List Str := ["many", "one"]
theorem scClosedDifferences : FnScope nClosedDifferences ["many", "one"] (defScope sClosedDifferences) := ⟨rfl, rfl, rfl, by decide +kernel, rfl, by decide +kernel, by decide +kernel⟩
abbrev sRingOf : Stmt := top 35
abbrev nRingOf : List Str := ["many", "one"]
theorem scRingOf : FnScope nRingOf ["many", "one"] (defScope sRingOf) := ⟨rfl, rfl, rfl, by decide +kernel, rfl, by decide +kernel, by decide +kernel⟩
abbrev sSomeValues : Stmt := top 36
abbrev nSomeValues : List Str := ["many", "one"]
theorem scSomeValues : FnScope nSomeValues ["many", "one"] (defScope sSomeValues) := ⟨rfl, rfl, rfl, by decide +kernel, rfl, by decide +kernel, by decide +kernel⟩
abbrev sLSpring : Stmt := top 38
abbrev nLSpring : List Str := ["_law_script", "_law_turn", "_law_mixed", "_law_cell", "_law_own"]
theorem scLSpring : FnScope nLSpring ["_law_script", "_law_turn"] (defScope sLSpring) := ⟨rfl, rfl, rfl, by decide +kernel, rfl, by decide +kernel, by decide +kernel⟩
abbrev sLDraw : Stmt := top 39
abbrev nLDraw : List Str := ["_law_spring_here", "_law_high", "_law_figure", "_law_seed"]
theorem scLDraw : FnScope nLDraw ["_law_spring_here", "_law_high"] (defScope sLDraw) := ⟨rfl, rfl, rfl, by decide +kernel, rfl, by decide +kernel, by decide +kernel⟩
abbrev sLPick : Stmt := top 40
abbrev nLPick : List Str := ["_law_spring_here", "_law_some"]
theorem scLPick : FnScope nLPick ["_law_spring_here", "_law_some"] (defScope sLPick) := ⟨rfl, rfl, rfl, by decide +kernel, rfl, by decide +kernel, by decide +kernel⟩
abbrev sLSize : Stmt := top 41
abbrev nLSize : List Str := ["_law_spring_here"]
theorem scLSize : FnScope nLSize ["_law_spring_here"] (defScope sLSize) := ⟨rfl, rfl, rfl, by decide +kernel, rfl, by decide +kernel, by decide +kernel⟩
abbrev sLSpots : Stmt := top 42
abbrev nLSpots : List Str := ["_law_spring_here", "_law_size_here", "_law_made", "_law_turn", "_law_is_great"]
theorem scLSpots : FnScope nLSpots ["_law_spring_here", "_law_size_here"] (defScope sLSpots) := ⟨rfl, rfl, rfl, by decide +kernel, rfl, by decide +kernel, by decide +kernel⟩
abbrev sLBound : Stmt := top 43
abbrev nLBound : List Str := ["_law_spring_here", "_law_way", "_law_share", "_law_gap"]
theorem scLBound : FnScope nLBound ["_law_spring_here", "_law_way", "_law_share", "_law_gap"] (defScope sLBound) := ⟨rfl, rfl, rfl, by decide +kernel, rfl, by decide +kernel, by decide +kernel⟩
abbrev sLAbout : Stmt := top 44
abbrev nLAbout : List Str := ["_law_spring_here", "_law_size_here", "_law_base", "_law_way", "_law_share", "_law_full", "_law_lines", "_law_here", "_law_line", "_law_there"]
theorem scLAbout : FnScope nLAbout ["_law_spring_here", "_law_size_here", "_law_base"] (defScope sLAbout) := ⟨rfl, rfl, rfl, by decide +kernel, rfl, by decide +kernel, by decide +kernel⟩
abbrev sLNearSpots : Stmt := top 45
abbrev nLNearSpots : List Str := ["_law_spring_here", "_law_spots_here", "_law_spot"]
theorem scLNearSpots : FnScope nLNearSpots ["_law_spring_here", "_law_spots_here"] (defScope sLNearSpots) := ⟨rfl, rfl, rfl, by decide +kernel, rfl, by decide +kernel, by decide +kernel⟩
abbrev sLIsWhole : Stmt := top 46
abbrev nLIsWhole : List Str := ["_law_thing"]
theorem scLIsWhole : FnScope nLIsWhole ["_law_thing"] (defScope sLIsWhole) := ⟨rfl, rfl, rfl, by decide +kernel, rfl, by decide +kernel, by decide +kernel⟩
abbrev sLIsSpots : Stmt := top 47
abbrev nLIsSpots : List Str := ["_law_size_here", "_law_thing", "_law_each"]
theorem scLIsSpots : FnScope nLIsSpots ["_law_size_here", "_law_thing"] (defScope sLIsSpots) := ⟨rfl, rfl, rfl, by decide +kernel, rfl, by decide +kernel, by decide +kernel⟩
abbrev sLHolds : Stmt := top 48
abbrev nLHolds : List Str := ["_law_wide", "_law_spots_here", "_law_full", "_law_here", "_law_there", "_law_bound_here"]
theorem scLHolds : FnScope nLHolds ["_law_wide", "_law_spots_here"] (defScope sLHolds) := ⟨rfl, rfl, rfl, by decide +kernel, rfl, by decide +kernel, by decide +kernel⟩
abbrev sLClosing : Stmt := top 49
abbrev nLClosing : List Str := ["_law_size_here", "_law_wide", "_law_sums", "_law_between", "_law_here", "_law_ahead", "_law_there", "_law_behind", "_law_line"]
theorem scLClosing : FnScope nLClosing ["_law_size_here", "_law_wide"] (defScope sLClosing) := ⟨rfl, rfl, rfl, by decide +kernel, rfl, by decide +kernel, by decide +kernel⟩
abbrev sLIsRing : Stmt := top 50
abbrev nLIsRing : List Str := ["_law_size_here", "_law_wide", "_law_thing", "_law_total", "_law_here", "_law_there", "_law_each"]
theorem scLIsRing : FnScope nLIsRing ["_law_size_here", "_law_wide", "_law_thing"] (defScope sLIsRing) := ⟨rfl, rfl, rfl, by decide +kernel, rfl, by decide +kernel, by decide +kernel⟩
abbrev sLRight : Stmt := top 51
abbrev nLRight : List Str := ["_law_spring_here", "_law_size_here", "_law_base", "_law_wide", "_law_close", "_law_told", "_law_ring", "_law_some", "_law_spots_here", "_law_each"]
theorem scLRight : FnScope nLRight ["_law_spring_here"] (defScope sLRight) := ⟨rfl, rfl, rfl, by decide +kernel, rfl, by decide +kernel, by decide +kernel⟩
abbrev sLaw : Stmt := top 52
abbrev nLaw : List Str := ["_law_script", "_law_turn"]
theorem scLaw : FnScope nLaw ["_law_script"] (defScope sLaw) := ⟨rfl, rfl, rfl, by decide +kernel, rfl, by decide +kernel, by decide +kernel⟩
end K38
set_option maxHeartbeats 4000000
/-! enumerate over a tuple, as something walked; zip of tuples as a Walk. -/
namespace K38
open PySem PySem.Spec PyProof.Rows L2 RZ
open Sem (wp)

theorem new_enum1 {v : Value} {o : Obj} {Hh : Heap → Prop} (B : Begins v o Hh) :
    Meets (Builtin.«enumerate.__new__» ⟨[.type "enumerate", v], []⟩) (fun _ R s => Hh s.heap ∧
      R (.ok (.ret (.ref (s.heap.push o).objs.size))) { s with heap := (s.heap.push o).push { cls := .type "enumerate", data := .fields #[.none, .bool false, .ref s.heap.objs.size, rawInt 0, .none, .none] } }) :=
  .of_wp fun prog w A R s h => by
    obtain ⟨hp, gg, dr, tk, os⟩ := s
    obtain ⟨h1, h⟩ := h
    have hsub := sub_enumerate
    have q1 : ∀ {A' : Around} {E : Value → Shared → Prop} {Q : Value → Shared → Prop}, Q (.ref hp.objs.size) ⟨hp.push o, gg, dr, tk, os⟩ → wpAny (model prog w) A' (pyIter v) Q E ⟨hp, gg, dr, tk, os⟩ :=
      fun q => B.iter prog w _ _ ⟨hp, gg, dr, tk, os⟩ _ h1 q
    wp_walk using q1
    refine wpAny_stack_any fun st => wpAny_pure ?_
    split
    · rename_i c _ _ _ _ _
      cases (c == Value.type "enumerate") <;> (wp_walk using q1; exact ⟨_, rfl, h⟩)
    · wp_walk using q1
      exact ⟨_, rfl, h⟩
section
variable {prog : Program} {w : World} {A : Around} {E : Value → Shared → Prop} {s : Shared}
theorem enum_begins1 {v : Value} {o : Obj} {Hh : Heap → Prop} {Q : Value → Shared → Prop} (B : Begins v o Hh) (h1 : Hh s.heap)
    (h : ∀ h', IsEnum h' (s.heap.objs.size + 1) s.heap.objs.size 0 .none → h'.get? s.heap.objs.size = some o →
      (∀ b ob, s.heap.get? b = some ob → h'.get? b = some ob) → Q (.ref (s.heap.objs.size + 1)) { s with heap := h' }) :
    wpAny (model prog w) A (call (.type "enumerate") [v]) Q E s := by
  refine callType_new F.called_enumerate (by decide) (F.typeCall_enumerate_1 _) (F.newCall_enumerate_1 _) (fun obj => F.args_object_init_2 obj _) F.entry_enumerate_new (new_enum1 B) ⟨h1, ?_⟩
  have hz : (s.heap.push o).objs.size = s.heap.objs.size + 1 := Heap.size_push ..
  show _ ∧ _
  rw [hz]
  have he : IsEnum ((s.heap.push o).push { cls := .type "enumerate", data := .fields #[.none, .bool false, .ref s.heap.objs.size, rawInt 0, .none, .none] }) (s.heap.objs.size + 1) s.heap.objs.size 0 .none := by
    have q := Heap.get?_push_size (s.heap.push o) (o := { cls := .type "enumerate", data := .fields #[.none, .bool false, .ref s.heap.objs.size, rawInt 0, .none, .none] }) rfl
    rw [hz] at q
    exact q
  exact ⟨⟨_, he, rfl⟩, h _ he (Heap.get?_push_of_some _ (Heap.get?_push_size _ B.free)) fun b ob x => Heap.get?_push_of_some _ (Heap.get?_push_of_some _ x)⟩
end

/-- the tuple at a, each item in a new pair behind its number -/
def IteT (K : PySem.W.Frag) (a : Addr) : It :=
  ⟨fun i H => ∃ (xs : List V) (x : V), SqT K H a xs ∧ xs[i]? = some x, fun i H v H' => ∃ T x, v = .ref T ∧ H T = none ∧ H' = upd H T (.tup [.int (i : Nat), x]) ∧ ∀ xs, SqT K H a xs → xs[i]? = some x, fun i H => ∃ xs : List V, SqT K H a xs ∧ xs.length = i⟩
theorem turn_enumT {P : Program} {w : World} {K : PySem.W.Frag} {elts : List Expr} {kk : Nat} {tpos : Pos} (a e it : Addr) (hae : a ≠ e) (hai : a ≠ it) (hei : e ≠ it) :
    Turn P w K (.Tuple elts kk tpos) (IteT K a) [e, it] e (fun i h => (∃ old, IsEnum h e it ((i : Nat) : Int) old) ∧ h.IsTupleIter it a i) where
  mem := by simp
  obj := fun i h st b hb => by
    obtain ⟨⟨old, he⟩, o, ho, hc, hd⟩ := st
    have e' : b = e ∨ b = it := by simpa using hb
    rcases e' with z | z
    · rw [z]; exact ⟨_, he, fun v q => nomatch q⟩
    · rw [z]; exact ⟨o, ho, fun v q => by rw [hd] at q; cases q⟩
  keep := fun i h h' st k => let ⟨⟨old, he⟩, hi⟩ := st; ⟨⟨old, k e (by simp) _ he⟩, hi.at fun o q => k it (by simp) o q⟩
  item := by
    intro X hP hw hK hc i pins s σ H E I hf st hg
    subst hP hw hK
    obtain ⟨⟨old, he⟩, hit⟩ := st
    obtain ⟨xs, x, hq, hx⟩ := hg
    obtain ⟨its, rv, p, hz⟩ := I.tuple hq
    obtain ⟨u, hu, ru⟩ := rv.get hx
    have hel : e < s.heap.objs.size := Heap.lt_size he
    have hil : it < s.heap.objs.size := by obtain ⟨_, q, _⟩ := hit; exact Heap.lt_size q
    have Dr : Draws X.prog X.w X.A.in1 it [it, a] its.toArray.size (fun j v => its.toArray[j]? = some v) (fun j h => h.IsTupleIter it a j ∧ h.IsTuple a its.toArray) := Draws.tuple (A := X.A.in1) (show X.A.in1.handled = none from I.ok.hd hc) it a hai its.toArray
    have hlt : i < its.toArray.size := by
      have := (List.getElem?_eq_some_iff.mp hu).1
      simpa using this
    have hef : e ∉ ([it, a] : List Addr) := fun q => by
      rcases List.mem_cons.mp q with z | z
      · exact hei z
      · exact hae (List.mem_singleton.mp z).symm
    refine wpAny_pyNext_enum_itemC Dr he ⟨hit, (show s.heap.IsTuple a its.toArray from p)⟩ hlt hei hef fun y h' tk hy ho hst hT hsz hk => ?_
    have hyu : y = u := by
      have q1 : its[i]? = some y := by simpa using hy
      rw [hu] at q1
      exact (Option.some.inj q1).symm
    subst hyu
    refine ⟨_, rfl, wpAny_letOwnedTupleGo_enum (s := { s with heap := h', toks := tk + 1 }) ho fun h'' he' sb => ?_⟩
    have hT2 : h''.get? s.heap.objs.size = some { cls := .type "tuple", data := .seq #[.int i tk, y] } := (sb.2 _ (Nat.ne_of_gt hel)).trans hT
    have new : ObjOk X.prog X.w (upd H s.heap.objs.size (.tup [.int (i : Nat), x])) h'' s.heap.objs.size (.tup [.int (i : Nat), x]) :=
      ⟨by show 2 ≤ sizeLine; decide, [.int i tk, y], .cons ⟨_, rfl⟩ (.cons ru .nil), ⟨_, hT2, rfl, _, rfl⟩⟩
    have I1 : Inv X pins σ (upd H s.heap.objs.size (.tup [.int (i : Nat), x])) { s with heap := h'', toks := tk + 1 } :=
      I.turnedNew (ch := [e, it]) (fun b ob hb q => (sb.2 b (fun z => hb (by simp [z]))).trans (hk b ob (fun z => hb (by simp [z])) (fun z => hb (by simp [z])) q)) hf (Nat.le_refl _) new
    refine ⟨.ref s.heap.objs.size, _, I1, rfl, ⟨_, x, rfl, I.hok.fresh (Nat.le_refl _), rfl, fun ys hy => by rw [I.tuple_inj hy hq]; exact hx⟩, ⟨⟨y, ?_⟩, hst.1.at fun o q => (sb.2 it (Ne.symm hei)).trans q⟩, fun b hb => ?_⟩
    · rw [show ((i + 1 : Nat) : Int) = (i : Int) + 1 by omega]
      exact he'
    · have hb' : b < s.heap.objs.size := by
        have e' : b = e ∨ b = it := by simpa using hb
        rcases e' with z | z
        · rw [z]; exact hel
        · rw [z]; exact hil
      rw [upd_ne (Nat.ne_of_lt hb')]
      exact (hf b hb).1
  done := by
    intro X hP hw hK hc i pins s σ H E I hf st hg
    subst hP hw hK
    obtain ⟨⟨old, he⟩, hit⟩ := st
    obtain ⟨xs, hq, hx⟩ := hg
    obtain ⟨its, rv, p, hz⟩ := I.tuple hq
    obtain ⟨f0, f1, f2, f3, f4, f5⟩ := hf it (by simp)
    have hl := rv.length
    have en : i = its.toArray.size := by simp; omega
    subst en
    have Dr : Draws X.prog X.w X.A.in1 it [it, a] its.toArray.size (fun j v => its.toArray[j]? = some v) (fun j h => h.IsTupleIter it a j ∧ h.IsTuple a its.toArray) := Draws.tuple (A := X.A.in1) (show X.A.in1.handled = none from I.ok.hd hc) it a hai its.toArray
    exact wpAny_pyNext_enum_endD Dr he ⟨hit, (show s.heap.IsTuple a its.toArray from p)⟩ fun h' eb => ⟨rfl, I.turned (t' := s.toks) (fun b o hb q => eb b o hb q) f0 f1 f3 f4 f5⟩
  self := fun A i s Q E st h => let ⟨⟨_, he⟩, _⟩ := st; wpAny_pyIter_enum he h
def iEnumT (K : PySem.W.Frag) (ta : TA) : TI := fun σ H R => ta σ H fun vs H1 => ∃ a xs, vs = [.ref a] ∧ SqT K H1 a xs ∧ R (IteT K a) H1
theorem pi_enumT {X : Cx} {e : Expr} {ta : TA} {p pos tpos : Pos} {elts : List Expr} {kk : Nat} (hg : Gl X "enumerate") (hm : X.mg "enumerate" = none) (ha : PA X [e] ta) (hs : starEach [e] X.env = [(false, eval e X.env)] := by rfl) :
    PI X (.Tuple elts kk tpos) (.Call (.Name "enumerate" p) [e] [] pos) (iEnumT X.K ta) := by
  refine ⟨fun pins s σ H R I h => ?_⟩
  refine Call_ (ld_blt I hg hm boot_enumerate (PyProof.Rows.callWith_type1 (thn (ha.run pos pins s σ H _ I h) fun us s1 ⟨vs, H1, I1, r1, q1⟩ => ?_) hs rfl))
  obtain ⟨a, xs, ex, hq, q⟩ := q1
  subst ex
  cases r1 with
  | cons r rr =>
    cases rr
    cases r
    obtain ⟨its, rv, p', hz⟩ := I1.tuple hq
    have lta : a < s1.heap.objs.size := p'.lt
    refine enum_begins1 (begins_tuple a its.toArray) (show s1.heap.IsTuple a its.toArray from p') fun h' he hit hk => wpAny_pyIter_enum he ?_
    have I2 : Inv X pins σ H1 { s1 with heap := h' } := I1.kept (t' := s1.toks) hk
    refine ⟨s1.heap.objs.size + 1, [s1.heap.objs.size + 1, s1.heap.objs.size], _, _, H1, rfl, I2, turn_enumT a (s1.heap.objs.size + 1) s1.heap.objs.size (Nat.ne_of_lt (Nat.lt_succ_of_lt lta)) (Nat.ne_of_lt lta) (Nat.succ_ne_self _), ⟨⟨.none, he⟩, ⟨_, hit, rfl, rfl⟩⟩, fun b hb => ?_, q⟩
    have e' : b = s1.heap.objs.size + 1 ∨ b = s1.heap.objs.size := by simpa using hb
    have hle : s1.heap.objs.size ≤ b := by
      rcases e' with z | z
      · rw [z]; exact Nat.le_add_right _ _
      · rw [z]; exact Nat.le_refl _
    exact I1.fpOk hle (I1.hok.fresh hle)
section
variable {K : PySem.W.Frag} {a b : Addr} {xs ys : List V}
theorem walk_enumT : Walk (IteT K a) xs.length (fun H => SqT K H a xs) (YPair (fun i => some (.int (i : Nat))) (fun i => xs[i]?)) := by
  refine ⟨fun i _ hi q => ⟨xs, xs[i], q, by simp [hi]⟩, fun _ q => ⟨xs, q, rfl⟩, fun i H v H' _ q y => ?_⟩
  obtain ⟨T, x, h1, h2, h3, h4⟩ := y
  exact ⟨T, .int (i : Nat), x, h1, h2, h3, rfl, h4 xs q⟩
theorem walk_zipT {n : Nat} (h1 : xs.length = n) (h2 : ys.length = n) : Walk (ItzT K a b) n (fun H => SqT K H a xs ∧ SqT K H b ys) (YPair (fun i => xs[i]?) (fun i => ys[i]?)) := by
  refine ⟨fun i _ hi q => ?_, fun _ q => ⟨xs, ys, q.1, q.2, by omega⟩, fun i H v H' _ q y => ?_⟩
  · have l1 : i < xs.length := by omega
    have l2 : i < ys.length := by omega
    exact ⟨xs, ys, xs[i], ys[i], q.1, q.2, by simp [l1], by simp [l2]⟩
  · obtain ⟨T, x, z, e1, e2, e3, e4, e5⟩ := y
    exact ⟨T, x, z, e1, e2, e3, e4 xs q.1, e5 ys q.2⟩
end
end K38
set_option maxHeartbeats 4000000
/-! Rules of my own over the hand layer: calls where the guards are known, repr, calls by keywords alone, len(set(t)), comprehensions. -/
namespace K38
open PySem PySem.Spec PyProof.Rows L2 RZ
open Evl (Ex)

/-! ### calls where the guards of the stack are known -/
structure FnG (P : Program) (w : World) (K : PySem.W.Frag) (mg : Str → Option Value) (base : Heap) (k : Nat) (f : Addr) (fd : FuncData) (ps : List Str) (sp : Sp) : Prop where
  len : ∀ vs H Q E, sp vs H Q E → vs.length = ps.length
  run : ∀ (A : Around) (outer : List Env) (s : Shared) (H : Hp) (args : Args) (us : List Value) (vs : List V) (Q : VK) (E : XK), Room k A → A.guards = some [] → Env0 P w K mg base A outer s H → BindsTo s fd args (ps.zip us) → Vals vs us → sp vs H Q E →
    codeAny (model P w) A (.call (.ref f) args) (CR CX0 outer P w H s Q E) s
section
variable {P : Program} {w : World} {K : PySem.W.Frag} {mg : Str → Option Value} {base : Heap} {x qual : Str} {params : Arguments} {body : List Stmt} {scope : Scope} {dvs : List V} {kws : List (Str × V)} {f : Addr} {fd : FuncData}
theorem okG {N ps : List Str} {k : Nat} {sp : Sp} (F : FunD K x qual params body scope dvs kws f fd) (S : FnScope N ps scope) (len : ∀ vs H Q E, sp vs H Q E → vs.length = ps.length)
    (hbody : ∀ (cdv : Value) (A : Around) (outer : List Env) (s : Shared) (H : Hp) (vs : List V) (Q : VK) (E : XK), Room k (A.deeper (envOfC qual scope s.heap.objs.size f cdv)) → A.guards = some [] → sp vs H Q E →
      ∃ t, PSs (cxOf CX0 P w K mg base N qual scope f cdv A outer s H E) body t ∧ t { nx := fun _ H' => Q .non H', rt := Q } (start N vs) H) : FnG P w K mg base (k + 1) f fd ps sp := by
  obtain ⟨oc, od, dV, kV, doc, pm, an, cdv, ct, osl, rfl, lk, hcd, _, _⟩ := F.ex
  refine ⟨len, fun A outer s H args us vs Q E hr hgd e0 hb r hsp => ?_⟩
  have hlen := len _ _ _ _ hsp
  have KX : K.In s.heap := e0.mod.kin.keeps fun b o e => (e0.bs b o e).1
  have lim : s.heap.NoLimit := e0.mod.nolimit.keeps fun b o e => (e0.bs b o e).1
  have kinds : ∀ y ∈ ps.zip us, scope.names.lookup y.1 = some .local ∨ (scope.names.lookup y.1 = some .cell ∧ ((cellsFrom (s.heap.objs.size + 1) scope.names []).lookup y.1).isSome = true) := by
    rintro ⟨n, v⟩ hy
    rcases S.par n (List.of_mem_zip hy).1 with q | q
    · exact .inl q
    · exact .inr ⟨q, PySem.W.cellsFrom_some _ _ _ (.inl q)⟩
  refine codeAny_call_function hr.depth (KX _ _ lk) rfl S.co S.gen rfl (PySem.W.codeRec_of KX hcd) (hb _ _ _ _ ?_)
  refine wpAny_newFunctionEnv_cells S.kind kinds fun env he s1 y => ?_
  subst he
  refine ⟨lim.keeps y.toInCall.keep, codeAny_func ?_⟩
  obtain ⟨t, ht, hq⟩ := hbody cdv A outer s H vs Q E (hr.deeper _) hgd hsp
  have I : Inv (cxOf CX0 P w K mg base N qual scope f cdv A outer s H E) [] (start N vs) H s1 := inv_start S hr.hd e0 hlen r y
  refine wpAny_mono (ht.run [] s1 (start N vs) H _ I hq) (fun fl s' hs => ?_) fun e s' hs => hs
  cases fl with
  | ret u =>
    obtain ⟨v, σ', H', J, rv, q⟩ := hs
    exact ⟨v, H', J.os, J.bare, J.base, J.hok, rv, q⟩
  | next =>
    obtain ⟨σ', H', J, q⟩ := hs
    exact ⟨V.non, H', J.os, J.bare, J.base, J.hok, rfl, q⟩
  | brk => exact hs.elim fun _ z => z.elim fun _ z => z.2.elim
  | cont => exact hs.elim fun _ z => z.elim fun _ z => z.2.elim
end
section
variable {X : Cx} {k : Nat} {f : Addr} {fd : FuncData} {ps : List Str} {sp : Sp} {E : XK} {x : Str} {p pos : Pos} {e : Expr} {es : List Expr} {t tk : TA}
theorem pe_callG (F : FnG X.prog X.w X.K X.mg X.base k f fd ps sp) (hr : Room k X.A) (hgd : X.A.guards = some []) (hg : Gl X x) (hm : X.mg x = some (.ref f)) (hk : PySem.W.keepIn X.K (.ref f) = true) (hb : Binds X.K fd ps [])
    (ha : PA X (e :: es) t) (hdb : (x == ("__debug__" : Str)) = false := by decide) (he : starEach (e :: es) X.env = (false, eval e X.env) :: starEach es X.env := by rfl) (hpl : (backTo pos (starEach es X.env)).any (·.1) = false := by rfl) :
    PE X (.Call (.Name x p) (e :: es) [] pos) (tCall sp [] E t) := by
  refine ⟨fun pins s σ H Q I h => ?_⟩
  refine wpAny_Call_Name_kw (ld_glob I hg hm ?_ hdb)
  refine PySem.W.callWith_K (h₀ := X.base) I.ok.mod.kin hk (thn (ha.run pos pins s σ H _ I h) fun us s1 ⟨vs, H1, I1, r, q⟩ => ⟨I1.kIn, ?_⟩) he hpl
  have q' : sp (vs ++ []) H1 Q E := q
  rw [List.append_nil] at q'
  have hl : (us ++ []).length = ps.length := by
    rw [List.append_nil, ← r.length]
    exact F.len _ _ _ _ q'
  have hbb := hb s1 us I1.kIn hl
  rw [List.append_nil] at hbb
  refine wpAny_call (codeAny_mono (F.run X.A X.stack s1 H1 ⟨us, []⟩ us vs Q E hr hgd I1.env0 hbb r q') fun r s' hq => ?_)
  cases r with
  | error e => exact hq.elim
  | ok fl =>
    cases fl with
    | ret u => exact I1.after hq
    | next => exact False.elim hq
    | brk => exact False.elim hq
    | cont => exact False.elim hq
/-- f(k = v, ..), nothing positional -/
theorem pe_callK0 {CX : CXT} {ks : List Str} {kws : List Keyword} {g : List Value → List Value → List Value} {gV : List V → List V → List V} {n : Nat} (F : FnOk X.prog X.w X.K X.mg X.base CX k f fd ps sp) (hr : Room k X.A) (hg : Gl X x) (hm : X.mg x = some (.ref f)) (hk : PySem.W.keepIn X.K (.ref f) = true)
    (hb : KBn X.K fd ps 0 ks g gV) (hx : Passes CX X E) (hkw : PK X kws tk)
    (hall : (backToKw pos (keywordEach kws X.env)).all (·.1.isSome) = true := by rfl) (hks : (backToKw pos (keywordEach kws X.env)).filterMap (·.1) = ks := by rfl) (hdb : (x == ("__debug__" : Str)) = false := by decide)
    (hpl : ((backTo pos (starEach [] X.env)).any (·.1) || (backToKw pos (keywordEach kws X.env)).any (·.1.isNone)) = false := by rfl) :
    PE X (.Call (.Name x p) [] kws pos) (tCallN 0 ks.length sp gV E tNil tk) := by
  refine ⟨fun pins s σ H Q I h => ?_⟩
  refine wpAny_Call_Name_kw (ld_glob I hg hm ?_ hdb)
  refine PySem.W.callWith_KW0 (h₀ := X.base) I.ok.mod.kin hk hall ?_ hpl
  refine thn (hkw.run pos pins s σ H _ I h) fun ws s2 ⟨zs, H2, I2, rz, l1, l2, q2⟩ => ⟨I2.kIn, ?_⟩
  rw [hks]
  exact run_fnN F hr hb hx I2 .nil rz rfl l2 q2
end
/-- a def of two parameters, no defaults, both given by keywords in the other order -/
theorem kb21 {K : PySem.W.Frag} {x qual : Str} {params : Arguments} {body : List Stmt} {scope : Scope} {f : Addr} {fd : FuncData} {a b : Str} (F : FunD K x qual params body scope [] [] f fd)
    (h : ∀ (kV doc pm : Value) (an : Option Addr) (cdv ct u v : Value), bindArgs (PySem.W.fnOf x qual params body scope .none kV doc pm an cdv ct) ⟨[], [(b, u), (a, v)]⟩ = pure [(a, v), (b, u)]) :
    KBn K fd [a, b] 0 [b, a] (fun _ ws => [ws.getD 1 .none, ws.getD 0 .none]) (fun _ zs => [zs.getD 1 .non, zs.getD 0 .non]) := by
  obtain ⟨oc, od, dV, kV, doc, pm, an, cdv, ct, osl, rfl, lk, hcd, hD, hK⟩ := F.ex
  rcases hD with ⟨_, rfl⟩ | ⟨e, _⟩
  · refine ⟨fun s us ws X l1 l2 => ?_, fun {vs us zs ws} r1 r2 => ?_⟩
    · match us, ws, l1, l2 with
      | [], [u, v], _, _ => exact .of_eq (h kV doc pm an cdv ct u v)
    · have : ∀ i, RelV (zs.getD i .non) (ws.getD i .none) := fun i => by
        rw [List.getD_eq_getElem?_getD, List.getD_eq_getElem?_getD]
        cases e : zs[i]? with
        | none => rw [r2.none_of e]; rfl
        | some y =>
          obtain ⟨u, e2, r⟩ := r2.get e
          rw [e2]
          exact r
      exact .cons (this 1) (.cons (this 0) .nil)
  · exact absurd rfl e

/-! ### repr of data -/
theorem call_reprD {X : Cx} (hgd : X.A.guards = some []) (hu : X.A.units + 64 < cLine) : CallR X (.builtin "repr") (fun xs H Q => ∃ a d, xs = [.ref a] ∧ Dp X.K H (.ref a) d ∧ d.showable = true ∧ d.hasDict = false ∧ d.depth ≤ 20 ∧ d.shown.length ≤ sizeLine ∧ Q (.str d.shown) H) := by
  intro pins s σ H xs us Q I r h
  obtain ⟨a, d, rfl, hd, h1, h2, h3, h4, q⟩ := h
  obtain ⟨u, rfl, ru⟩ := vals1 r
  cases ru
  obtain ⟨as, rd⟩ := Dp.reads I d (.ref a) (.ref a) hd rfl
  exact repr_of_reads' rd h1 (PyData.noDict_hsm h2) hgd (by omega) (fun _ _ e => e) (fun h' u tk hk => ⟨.str d.shown, H, I.kept hk, ⟨_, rfl⟩, q⟩) h4

/-! ### len(set(t)), t a tuple of ints -/
def tLenSetT (K : PySem.W.Frag) (ta : TE) : TE := fun σ H Q => ta σ H fun x H1 => ∃ (l : Addr) (ns : List Int), x = .ref l ∧ SqT K H1 l (ns.map V.int) ∧ ns.Nodup ∧ ns.length ≤ 1000 ∧ Q (.int (ns.length : Nat)) H1
theorem pe_lenSetT {X : Cx} {a : Expr} {ta : TE} {p p2 q pos : Pos} (hg : Gl X "len") (hm : X.mg "len" = none) (hg2 : Gl X "set") (hm2 : X.mg "set" = none) (ha : PE X a ta) (hc : X.calm = true := by rfl)
    (na : starEach [a] X.env = (false, eval a X.env) :: starEach [] X.env := by rfl) : PE X (.Call (.Name "len" p) [.Call (.Name "set" p2) [a] [] q] [] pos) (tLenSetT X.K ta) := by
  refine ⟨fun pins s σ H Q I h => ?_⟩
  refine Call_ (ld_blt I hg hm boot_len ?_)
  refine PyProof.Rows.callWith_builtin1 (PyProof.Rows.args_cons ?_ rfl) rfl rfl
  refine Call_ (ld_blt I hg2 hm2 boot_set ?_)
  refine PyProof.Rows.callWith_type1 (PyProof.Rows.args_cons (thn (ha.run pins s σ H _ I h) fun v s1 ⟨x, H1, I1, r1, q1⟩ => PyProof.Rows.args_nil ?_) na) na rfl
  obtain ⟨l, ns, rfl, hq, hnd, hl, q1⟩ := q1
  cases r1
  obtain ⟨its, r, pl, hz⟩ := I1.tuple hq
  refine call_set_tupI ns (I1.ok.hd hc) (show s1.heap.IsTuple l its.toArray from pl) (ints_of_vals r) (by unfold scanBound; omega) fun h' tk c R1 hcn hk => ?_
  refine PyProof.Rows.args_nil ?_
  obtain ⟨o, es, ep, t, ho, hex, hdt, g, nd, hm3, hb, hf, hn, hr, hl2⟩ := R1
  have hsz : es.size = ns.length := by
    have hp : (es.toList.map keyOf).Perm ns := (List.perm_ext_iff_of_nodup nd hnd).mpr fun k => by
      rw [← hm3 k, decide_eq_true_iff]
    have q2 := hp.length_eq
    rw [List.length_map, Array.length_toList] at q2
    exact q2
  have I2 : Inv X pins σ H1 { s1 with heap := h', toks := tk } := I1.kept hk
  refine call_len_set ho hex hdt hf (by unfold scanBound at hb; omega) ?_
  rw [hsz]
  exact ⟨.int ns.length, H1, I2.tok _, ⟨_, rfl⟩, q1⟩

/-! ### heaps, data -/
/-- all tuples stand -/
def Tx (H H' : Hp) : Prop := ∀ a xs, H a = some (.tup xs) → H' a = some (.tup xs)
theorem Tx.refl (H : Hp) : Tx H H := fun _ _ h => h
theorem Tx.trans {H H1 H2 : Hp} (a : Tx H H1) (b : Tx H1 H2) : Tx H H2 := fun x o h => b x o (a x o h)
theorem exT {H H' : Hp} (e : Ex H H') : Tx H H' := fun a xs h => e a _ h
theorem txL {H : Hp} {p : Addr} {xs : List V} {o : HO} (h : H p = some (.lst xs)) : Tx H (upd H p o) := fun a ys e => by
  rw [upd_ne (by rintro rfl; rw [h] at e; cases e)]
  exact e
def seqF {α : Type} (n : Nat) (g : Nat → α) : List α := (List.range n).map g
theorem seqF_len {α : Type} (n : Nat) (g : Nat → α) : (seqF n g).length = n := by unfold seqF; rw [List.length_map, List.length_range]
theorem seqF_get {α : Type} {n i : Nat} {g : Nat → α} (h : i < n) : (seqF n g)[i]? = some (g i) := by
  unfold seqF
  rw [List.getElem?_map, List.getElem?_range h]
  rfl
theorem seqF_at {α : Type} {n i : Nat} {g : Nat → α} {y : α} (h : (seqF n g)[i]? = some y) : i < n ∧ y = g i := by
  have hi : i < n := by
    have := (List.getElem?_eq_some_iff.mp h).1
    rwa [seqF_len] at this
  rw [seqF_get hi] at h
  exact ⟨hi, (Option.some.inj h).symm⟩
theorem seqF_succ {α : Type} (n : Nat) (g : Nat → α) : seqF (n + 1) g = seqF n g ++ [g n] := by
  unfold seqF
  rw [List.range_succ, List.map_append]
  rfl
theorem seqF_congr {α : Type} {n : Nat} {g k : Nat → α} (h : ∀ i, i < n → g i = k i) : seqF n g = seqF n k :=
  List.map_congr_left fun i hi => h i (List.mem_range.mp hi)
theorem seqF_of {α : Type} {l : List α} {n : Nat} {g : Nat → α} (hl : l.length = n) (h : ∀ i y, l[i]? = some y → y = g i) : l = seqF n g := by
  refine List.ext_getElem? fun i => ?_
  by_cases hi : i < n
  · rw [seqF_get hi]
    have e : l[i]? = some l[i] := List.getElem?_eq_getElem (by omega)
    rw [e, h i _ e]
  · rw [List.getElem?_eq_none (by omega), List.getElem?_eq_none (by rw [seqF_len]; omega)]
theorem seqF_map {α β : Type} (n : Nat) (g : Nat → α) (k : α → β) : (seqF n g).map k = seqF n fun i => k (g i) := by
  unfold seqF
  rw [List.map_map]
  rfl
theorem list_seqF {α : Type} [Inhabited α] (l : List α) (d : α) : l = seqF l.length fun i => l.getD i d := by
  refine seqF_of rfl fun i y e => ?_
  rw [List.getD_eq_getElem?_getD, e]
  rfl
def bV : Bd → V
  | none => .non
  | some x => .int x
/-- v is a tuple of these -/
def Tup (H : Hp) (v : V) (xs : List V) : Prop := ∃ a, v = .ref a ∧ H a = some (.tup xs)
theorem Tup.tx {H H' : Hp} {v : V} {xs : List V} (e : Tx H H') (h : Tup H v xs) : Tup H' v xs := let ⟨a, h1, h2⟩ := h; ⟨a, h1, e _ _ h2⟩
/-- v is a row of n bounds -/
def Row (H : Hp) (v : V) (n : Nat) (g : Nat → Bd) : Prop := Tup H v (seqF n fun j => bV (g j))
/-- v is a matrix -/
def Mat (H : Hp) (v : V) (n : Nat) (f : Mx) : Prop := ∃ rs : Nat → V, Tup H v (seqF n rs) ∧ ∀ i, i < n → Row H (rs i) n (f i)
theorem Row.tx {H H' : Hp} {v : V} {n : Nat} {g : Nat → Bd} (e : Tx H H') (h : Row H v n g) : Row H' v n g := Tup.tx e h
theorem Mat.tx {H H' : Hp} {v : V} {n : Nat} {f : Mx} (e : Tx H H') (h : Mat H v n f) : Mat H' v n f :=
  let ⟨rs, h1, h2⟩ := h; ⟨rs, h1.tx e, fun i hi => (h2 i hi).tx e⟩
theorem Row.congr {H : Hp} {v : V} {n : Nat} {g k : Nat → Bd} (e : ∀ j, j < n → g j = k j) (h : Row H v n g) : Row H v n k := by
  unfold Row at h ⊢
  rw [← seqF_congr fun j hj => congrArg bV (e j hj)]
  exact h
theorem Mat.congr {H : Hp} {v : V} {n : Nat} {f g : Mx} (e : Eqn n f g) (h : Mat H v n f) : Mat H v n g :=
  let ⟨rs, h1, h2⟩ := h; ⟨rs, h1, fun i hi => (h2 i hi).congr fun j hj => e i j hi hj⟩
/-- v is a matrix, or None -/
def MatO (H : Hp) (v : V) (n : Nat) : Option Mx → Prop
  | none => v = .non
  | some f => Mat H v n f
theorem MatO.tx {H H' : Hp} {v : V} {n : Nat} {o : Option Mx} (e : Tx H H') (h : MatO H v n o) : MatO H' v n o := by
  cases o with
  | none => exact h
  | some f => exact Mat.tx e h
/-- v is a tuple of ints -/
def Ints (H : Hp) (v : V) (ns : List Int) : Prop := Tup H v (ns.map V.int)
theorem Ints.tx {H H' : Hp} {v : V} {ns : List Int} (e : Tx H H') (h : Ints H v ns) : Ints H' v ns := Tup.tx e h

/-! ### comprehensions without a test -/
theorem lc_map {J : It} {n : Nat} {G : Hp → Prop} {Y : Nat → Hp → V → Hp → Prop} (w : Walk J n G Y) {g : TG} {te : TE} {vs : List Nat} {σ : L2.St} {H1 : Hp} {Q : VK} (hn : n < sizeLine) (P : Nat → V → Hp → Prop)
    (hP : ∀ i y H H', i < n → Tx H H' → P i y H → P i y H') (hG : ∀ H, Ex H1 H → G H) (hY : ∀ i H x H', i < n → Ex H1 H → Y i H x H' → Ex H H')
    (turn : ∀ i x H H', i < n → Ex H1 H → Ex H1 H' → Y i H x H' → ∀ Qt : VK, (∀ y H4, Ex H' H4 → P i y H4 → Qt y H4) → g x (wipe σ vs) H' fun σ2 H2 => wipe σ2 vs = wipe σ vs ∧ te σ2 H2 Qt)
    (done : ∀ D ys H, H1 D = none → Ex H1 H → H D = some (.lst ys) → ys.length = n → (∀ i y, ys[i]? = some y → P i y H) → Q (.ref D) H) :
    ∀ D, H1 D = none → ∃ W : Nat → Nat → Hp → Prop, (∃ m, W 0 m (upd H1 D (.lst []))) ∧ ∀ i m H, W i m H →
      (J.stop i H ∧ Q (.ref D) H) ∨ (J.go i H ∧ ∃ Nx : Hp → Prop, (∀ H', Nx H' → ∃ m', m' < m ∧ W (i + 1) m' H') ∧ ∀ x H', J.yld i H x H' → g x (wipe σ vs) H' fun σ2 H2 => wipe σ2 vs = wipe σ vs ∧ tYes σ2 H2 fun b H3 =>
        if b = true then te σ2 H3 fun y H4 => ∃ acc, H4 D = some (.lst acc) ∧ acc.length < sizeLine ∧ Nx (upd H4 D (.lst (acc ++ [y]))) else Nx H3) := by
  intro D hD
  refine lc_it w (fun i H => Ex H1 H ∧ ∃ ys, H D = some (.lst ys) ∧ ys.length = i ∧ ∀ j y, ys[j]? = some y → P j y H) ⟨Ex.new hD, [], upd_same, rfl, fun j y e => by cases e⟩ (fun i H _ p => hG H p.1) (fun i x H H' hi p y => ?_) (fun H p => ?_)
  · obtain ⟨e1, ys, hys, hl, hp⟩ := p
    have e2 := hY i H x H' hi e1 y
    refine turn i x H H' hi e1 (e1.trans e2) y _ fun z H4 e4 pz => ?_
    refine ⟨ys, e4 _ _ (e2 _ _ hys), by omega, ((e1.trans e2).trans e4).mut hD, ys ++ [z], upd_same, by rw [List.length_append, hl]; rfl, fun j y2 ej => ?_⟩
    have t1 : Tx H4 (upd H4 D (.lst (ys ++ [z]))) := txL (e4 _ _ (e2 _ _ hys))
    by_cases hj : j < i
    · rw [List.getElem?_append_left (by omega)] at ej
      exact hP j y2 _ _ (by omega) (((exT e2).trans (exT e4)).trans t1) (hp j y2 ej)
    · have hji : j = i := by
        have := (List.getElem?_eq_some_iff.mp ej).1
        rw [List.length_append, hl] at this
        have h1 : [z].length = 1 := rfl
        omega
      subst hji
      rw [← hl, List.getElem?_append_right (Nat.le_refl _), Nat.sub_self] at ej
      have ez : z = y2 := Option.some.inj ej
      rw [← ez]
      exact hP j z _ _ hi t1 pz
  · obtain ⟨e1, ys, hys, hl, hp⟩ := p
    exact done D ys H hD e1 hys hl hp
/-- the same of the comprehension as it stands; the walk begins at H1 -/
theorem tlc {wi : TI} {J : It} {n : Nat} {G : Hp → Prop} {Y : Nat → Hp → V → Hp → Prop} {g : TG} {te : TE} {vs : List Nat} {σ : L2.St} {H H1 : Hp} {Q : VK} (hw : ∀ R : It → Hp → Prop, R J H1 → wi σ H R) (w : Walk J n G Y) (hn : n < sizeLine) (P : Nat → V → Hp → Prop)
    (hP : ∀ i y H H', i < n → Tx H H' → P i y H → P i y H') (hG : ∀ H, Ex H1 H → G H) (hY : ∀ i H x H', i < n → Ex H1 H → Y i H x H' → Ex H H')
    (turn : ∀ i x H H', i < n → Ex H1 H → Ex H1 H' → Y i H x H' → ∀ Qt : VK, (∀ y H4, Ex H' H4 → P i y H4 → Qt y H4) → g x (wipe σ vs) H' fun σ2 H2 => wipe σ2 vs = wipe σ vs ∧ te σ2 H2 Qt)
    (done : ∀ D ys H, H1 D = none → Ex H1 H → H D = some (.lst ys) → ys.length = n → (∀ i y, ys[i]? = some y → P i y H) → Q (.ref D) H) : tLc wi g tYes te vs σ H Q :=
  hw _ (lc_map w hn P hP hG hY turn done)
theorem rd_next {nx : L2.St → Hp → Prop} {rt : VK} {bk ct : L2.St → Hp → Prop} {σ : L2.St} {H : Hp} (h : nx σ H) : tNext (Ends.mk nx rt bk ct) σ H := h
theorem rd_ret {te : TE} {D : Ends} {σ : L2.St} {H : Hp} (h : te σ H D.rt) : tRet te D σ H := h
theorem rd_seq {t u : TS} {D : Ends} {σ : L2.St} {H : Hp} (h : t { D with nx := u D } σ H) : tSeq t u D σ H := h
theorem rd_asg {te : TE} {g : TG} {nx : L2.St → Hp → Prop} {rt : VK} {bk ct : L2.St → Hp → Prop} {σ : L2.St} {H : Hp} (h : te σ H fun x H1 => g x σ H1 nx) : tAsg te g (Ends.mk nx rt bk ct) σ H := h
theorem rd_set {te : TE} {i : Nat} {nx : L2.St → Hp → Prop} {rt : VK} {bk ct : L2.St → Hp → Prop} {σ : L2.St} {H : Hp} (h : te σ H fun x H1 => nx (σ.set i (some x)) H1) : tAsg te (gName i) (Ends.mk nx rt bk ct) σ H := h
theorem rd_cb {r : List V → Hp → VK → Prop} {t : TA} {σ : L2.St} {H : Hp} {Q : VK} (h : t σ H fun vs H1 => r vs H1 Q) : tCB r t σ H Q := h
theorem rd_c1 {ta : TE} {σ : L2.St} {H : Hp} {Q : List V → Hp → Prop} (h : ta σ H fun x H1 => Q [x] H1) : tCons ta tNil σ H Q := h
theorem rd_and {ta tb : TE} {σ : L2.St} {H : Hp} {Q : VK} (h : ta σ H fun x H1 => ∃ c, x = .bl c ∧ if c = true then tb σ H1 Q else Q (.bl false) H1) : tAndV ta tb σ H Q := h
/-- a for over what is walked -/
theorem tfor {wi : TI} {J : It} {n : Nat} {G : Hp → Prop} {Y : Nat → Hp → V → Hp → Prop} {g : TG} {tb : TS} {nx : L2.St → Hp → Prop} {rt : VK} {bk ct : L2.St → Hp → Prop} {σ : L2.St} {H H1 : Hp} (hw : ∀ R : It → Hp → Prop, R J H1 → wi σ H R) (w : Walk J n G Y)
    (Pv : Nat → L2.St → Hp → Prop) (h0 : Pv 0 σ H1) (hG : ∀ i σ H, i ≤ n → Pv i σ H → G H)
    (hs : ∀ i x σ H H', i < n → Pv i σ H → Y i H x H' → g x σ H' fun σ2 H2 => tb (Ends.mk (Pv (i + 1)) rt nx (Pv (i + 1))) σ2 H2) (hd : ∀ σ H, Pv n σ H → nx σ H) : tFor wi g tb (Ends.mk nx rt bk ct) σ H :=
  hw _ (for_it (D := Ends.mk nx rt bk ct) w Pv h0 hG hs hd)
theorem rd_if {t : TT} {ta tb : TE} {σ : L2.St} {H : Hp} {Q : VK} (h : t σ H fun c H1 => if c = true then ta σ H1 Q else tb σ H1 Q) : tIf t ta tb σ H Q := h
theorem rd_b {te : TE} {σ : L2.St} {H : Hp} {Q : Bool → Hp → Prop} (h : te σ H fun x H1 => ∃ k, x = .bl k ∧ Q k H1) : tB te σ H Q := h
theorem rd_not {t : TT} {σ : L2.St} {H : Hp} {Q : Bool → Hp → Prop} (h : t σ H fun c H1 => Q (!c) H1) : tNot t σ H Q := h
theorem rd_ifs {t : TT} {u z : TS} {D : Ends} {σ : L2.St} {H : Hp} (h : t σ H fun b H1 => if b = true then u D σ H1 else z D σ H1) : tIfS t u z D σ H := h
theorem rd_drop {te : TE} {nx : L2.St → Hp → Prop} {rt : VK} {bk ct : L2.St → Hp → Prop} {σ : L2.St} {H : Hp} (h : te σ H fun _ H1 => nx σ H1) : tDrop te (Ends.mk nx rt bk ct) σ H := h
theorem mat_of {H : Hp} {v : V} {n : Nat} {f : Mx} {ys : List V} (hl : ys.length = n) (ht : Tup H v ys) (h : ∀ i y, ys[i]? = some y → Row H y n (f i)) : Mat H v n f := by
  refine ⟨fun i => ys.getD i .non, ?_, fun i hi => h i _ ?_⟩
  · rw [← seqF_of (g := fun i => ys.getD i .non) hl fun i y e => by rw [List.getD_eq_getElem?_getD, e]; rfl]
    exact ht
  · show ys[i]? = some (ys.getD i V.non)
    rw [List.getD_eq_getElem?_getD, List.getElem?_eq_getElem (by omega)]
    rfl
theorem yat_ex {xs : List V} {i : Nat} {H H' : Hp} {x : V} (h : YAt xs i H x H') : Ex H H' := by rw [h.1]; exact Ex.refl _
theorem yfn_ex {f : Nat → V} {i : Nat} {H H' : Hp} {x : V} (h : YFn f i H x H') : Ex H H' := by rw [h.1]; exact Ex.refl _
theorem ypair_ex {f g : Nat → Option V} {i : Nat} {H H' : Hp} {x : V} (h : YPair f g i H x H') : Ex H H' := by
  obtain ⟨T, a, b, _, h2, h3, _, _⟩ := h
  rw [h3]
  exact Ex.new h2
end K38
set_option maxHeartbeats 4000000
/-! Walks: the small defs. -/
namespace K38
open PySem PySem.Spec PyProof.Rows L2 RZ
open Evl (Ex)

/-- what the top has not bound over the built-ins; its one constant -/
structure Bl (mg : Str → Option Value) : Prop where
  isi : mg "isinstance" = none
  int : mg "int" = none
  bool : mg "bool" = none
  tuple : mg "tuple" = none
  len : mg "len" = none
  all : mg "all" = none
  enumerate : mg "enumerate" = none
  range : mg "range" = none
  any : mg "any" = none
  zip : mg "zip" = none
  sum : mg "sum" = none
  max : mg "max" = none
  min : mg "min" = none
  abs : mg "abs" = none
  divmod : mg "divmod" = none
  repr : mg "repr" = none
  list : mg "list" = none
  set : mg "set" = none
  most : ∃ t, mg "MOST_SLOTS" = some (.int 20 t)
/-- a def of the module that keeps a promise, ready to be called -/
structure Cal (P : Program) (w : World) (K : PySem.W.Frag) (mg : Str → Option Value) (base : Heap) (k : Nat) (x : Str) (ps : List Str) (sp : Sp) : Prop where
  ex : ∃ (f : Addr) (fd : FuncData), FnOk P w K mg base CX0 k f fd ps sp ∧ mg x = some (.ref f) ∧ PySem.W.keepIn K (.ref f) = true ∧ Binds K fd ps []
theorem pe_fn {X : Cx} {k j : Nat} {x : Str} {ps : List Str} {sp : Sp} {p pos : Pos} {e : Expr} {es : List Expr} {t : TA} (C : Cal X.prog X.w X.K X.mg X.base k x ps sp) (hr : Room j X.A) (hj : k ≤ j) (hg : Gl X x) (ha : PA X (e :: es) t)
    (hdb : (x == ("__debug__" : Str)) = false := by decide) (he : starEach (e :: es) X.env = (false, eval e X.env) :: starEach es X.env := by rfl) (hpl : (backTo pos (starEach es X.env)).any (·.1) = false := by rfl) :
    PE X (.Call (.Name x p) (e :: es) [] pos) (tCall sp [] E0 t) := by
  obtain ⟨f, fd, F, hm, hk, hb⟩ := C.ex
  exact pe_call F (hr.mono hj) hg hm hk hb .nil pass0 ha hdb he hpl
/-- v has the type T -/
def Isi (K : PySem.W.Frag) (H : Hp) (v : V) (T : String) : Prop := TyX K H v (.type T)
theorem isiInt {K : PySem.W.Frag} {H : Hp} {i : Int} : Isi K H (.int i) "int" := .base (.int i)
theorem isiNon {K : PySem.W.Frag} {H : Hp} : Isi K H .non "NoneType" := .base .non
theorem isiTup {K : PySem.W.Frag} {H : Hp} {v : V} {xs : List V} (h : Tup H v xs) : Isi K H v "tuple" := by
  obtain ⟨a, rfl, h⟩ := h
  exact .base (.tup h)
theorem kt1 : kitB "int" "int" = some true := by decide +kernel
theorem kt2 : kitB "int" "bool" = some false := by decide +kernel
theorem kt3 : kitB "NoneType" "int" = some false := by decide +kernel
theorem kt4 : kitB "tuple" "tuple" = some true := by decide +kernel
theorem kt5 : kitB "tuple" "int" = some false := by decide +kernel
theorem bt_isi : bootBuiltins "isinstance" = some (.builtin "isinstance") := by decide +kernel
theorem bt_int : bootBuiltins "int" = some (.type "int") := by decide +kernel
theorem bt_bool : bootBuiltins "bool" = some (.type "bool") := by decide +kernel
theorem bt_tuple : bootBuiltins "tuple" = some (.type "tuple") := by decide +kernel
theorem bt_all : bootBuiltins "all" = some (.builtin "all") := by decide +kernel
theorem bt_any : bootBuiltins "any" = some (.builtin "any") := by decide +kernel
theorem bt_sum : bootBuiltins "sum" = some (.builtin "sum") := by decide +kernel
theorem bt_max : bootBuiltins "max" = some (.builtin "max") := by decide +kernel
theorem bt_min : bootBuiltins "min" = some (.builtin "min") := by decide +kernel
theorem bt_abs : bootBuiltins "abs" = some (.builtin "abs") := by decide +kernel
theorem bt_divmod : bootBuiltins "divmod" = some (.builtin "divmod") := by decide +kernel
theorem bt_repr : bootBuiltins "repr" = some (.builtin "repr") := by decide +kernel
theorem bt_list : bootBuiltins "list" = some (.type "list") := by decide +kernel
section
variable {P : Program} {w : World} {K : PySem.W.Frag} {mg : Str → Option Value} {base : Heap}

/-! ### is_whole -/
def spWhole : Sp := fun vs H Q _ => ∃ i : Int, vs = [.int i] ∧ Q (.bl true) H
theorem ok_isWhole {f : Addr} {fd : FuncData} (F : FnP K "is_whole" sIsWhole f fd) (B : Bl mg) : FnOk P w K mg base CX0 1 f fd ["value"] spWhole := by
  refine F.ok scIsWhole (fun vs H Q E h => ?_) (fun cdv A outer s H vs Q E hr h => ?_)
  · obtain ⟨i, rfl, _⟩ := h
    rfl
  · obtain ⟨i, rfl, q⟩ := h
    refine ⟨_, pss_one (ps_ret (pe_and (pe_callB call_isi (by rfl) B.isi bt_isi (pa_cons (pv 0) (pa_cons (pe_bltn (v := .ty "int") (by rfl) B.int bt_int rfl) pa_nil)))
      (pe_one (pe_not (pe_callB call_isi (by rfl) B.isi bt_isi (pa_cons (pv 0) (pa_cons (pe_bltn (v := .ty "bool") (by rfl) B.bool bt_bool rfl) pa_nil))))))), ?_⟩
    refine ⟨_, rfl, _, _, _, _, _, rfl, .ty _, isiInt, kit_ty kt1, true, rfl, ?_⟩
    refine ⟨_, rfl, _, _, _, _, _, rfl, .ty _, isiInt, kit_ty kt2, false, rfl, q⟩
theorem cal_isWhole {f : Addr} {fd : FuncData} (F : FnP K "is_whole" sIsWhole f fd) (B : Bl mg) (hm : mg "is_whole" = some (.ref f)) : Cal P w K mg base 1 "is_whole" ["value"] spWhole :=
  ⟨f, fd, ok_isWhole F B, hm, F.kp, F.bindsN fun _ _ _ _ _ _ us hl => match us, hl with | [_], _ => rfl⟩
/-! ### is_between -/
def spBetween : Sp := fun vs H Q _ => ∃ i a b : Int, vs = [.int i, .int a, .int b] ∧ a ≤ i ∧ i ≤ b ∧ Q (.bl true) H
theorem ok_isBetween {f : Addr} {fd : FuncData} (F : FnP K "is_between" sIsBetween f fd) (C : Cal P w K mg base 1 "is_whole" ["value"] spWhole) : FnOk P w K mg base CX0 2 f fd ["value", "low", "high"] spBetween := by
  refine F.ok scIsBetween (fun vs H Q E h => ?_) (fun cdv A outer s H vs Q E hr h => ?_)
  · obtain ⟨i, a, b, rfl, _⟩ := h
    rfl
  · obtain ⟨i, a, b, rfl, h1, h2, q⟩ := h
    refine ⟨_, pss_one (ps_ret (pe_and (pe_fn C hr (by decide) (by rfl) (pa_cons (pv 0) pa_nil)) (pe_one (pe_chain op_le op_le (pv 1) (pv 0) (pv 2))))), ?_⟩
    refine ⟨_, rfl, i, rfl, true, rfl, ?_⟩
    refine ⟨_, rfl, _, rfl, _, _, rfl, rfl, true, congrArg V.bl (decide_eq_true h1), ?_⟩
    refine ⟨_, rfl, _, _, rfl, rfl, ?_⟩
    show Q (.bl (decide (i ≤ b))) H
    rw [decide_eq_true h2]
    exact q
theorem cal_isBetween {f : Addr} {fd : FuncData} (F : FnP K "is_between" sIsBetween f fd) (C : Cal P w K mg base 1 "is_whole" ["value"] spWhole) (hm : mg "is_between" = some (.ref f)) : Cal P w K mg base 2 "is_between" ["value", "low", "high"] spBetween :=
  ⟨f, fd, ok_isBetween F C, hm, F.kp, F.bindsN fun _ _ _ _ _ _ us hl => match us, hl with | [_, _, _], _ => rfl⟩
/-! ### is_end -/
def spEnd : Sp := fun vs H Q _ => ∃ b : Bd, vs = [bV b] ∧ Q (.bl true) H
theorem ok_isEnd {f : Addr} {fd : FuncData} (F : FnP K "is_end" sIsEnd f fd) (C : Cal P w K mg base 1 "is_whole" ["value"] spWhole) : FnOk P w K mg base CX0 2 f fd ["value"] spEnd := by
  refine F.ok scIsEnd (fun vs H Q E h => ?_) (fun cdv A outer s H vs Q E hr h => ?_)
  · obtain ⟨i, rfl, _⟩ := h
    rfl
  · obtain ⟨b, rfl, q⟩ := h
    refine ⟨_, pss_one (ps_ret (pe_or (pe_cmpR op_isN (pv 0) pe_non (nomark _)) (pe_one (pe_fn C hr (by decide) (by rfl) (pa_cons (pv 0) pa_nil))))), ?_⟩
    cases b with
    | none => exact ⟨_, rfl, rfl, true, rfl, q⟩
    | some x => exact ⟨_, rfl, rfl, false, rfl, _, rfl, x, rfl, q⟩
theorem cal_isEnd {f : Addr} {fd : FuncData} (F : FnP K "is_end" sIsEnd f fd) (C : Cal P w K mg base 1 "is_whole" ["value"] spWhole) (hm : mg "is_end" = some (.ref f)) : Cal P w K mg base 2 "is_end" ["value"] spEnd :=
  ⟨f, fd, ok_isEnd F C, hm, F.kp, F.bindsN fun _ _ _ _ _ _ us hl => match us, hl with | [_], _ => rfl⟩
/-! ### is_high_within -/
def spHigh : Sp := fun vs H Q _ => ∃ a b : Bd, vs = [bV a, bV b] ∧ Q (.bl (leB a b)) H
theorem ok_isHighWithin {f : Addr} {fd : FuncData} (F : FnP K "is_high_within" sIsHighWithin f fd) : FnOk P w K mg base CX0 1 f fd ["high", "other"] spHigh := by
  refine F.ok scIsHighWithin (fun vs H Q E h => ?_) (fun cdv A outer s H vs Q E hr h => ?_)
  · obtain ⟨a, b, rfl, _⟩ := h
    rfl
  · obtain ⟨a, b, rfl, q⟩ := h
    refine ⟨_, pss_one (ps_ret (pe_or (pe_cmpR op_isN (pv 1) pe_non (nomark _)) (pe_one (pe_and (pe_cmpR op_notN (pv 0) pe_non (nomark _)) (pe_one (pe_cmpR op_le (pv 0) (pv 1) (nomark _))))))), ?_⟩
    cases b with
    | none =>
      have e : leB a none = true := le_none a
      rw [e] at q
      exact ⟨_, rfl, rfl, true, rfl, q⟩
    | some y =>
      cases a with
      | none => exact ⟨_, rfl, rfl, false, rfl, _, rfl, rfl, false, rfl, q⟩
      | some x => exact ⟨_, rfl, rfl, false, rfl, _, rfl, rfl, true, rfl, _, rfl, _, rfl, x, y, rfl, rfl, q⟩
theorem cal_isHighWithin {f : Addr} {fd : FuncData} (F : FnP K "is_high_within" sIsHighWithin f fd) (hm : mg "is_high_within" = some (.ref f)) : Cal P w K mg base 1 "is_high_within" ["high", "other"] spHigh :=
  ⟨f, fd, ok_isHighWithin F, hm, F.kp, F.bindsN fun _ _ _ _ _ _ us hl => match us, hl with | [_, _], _ => rfl⟩
/-! ### is_within_bound -/
def inB (i : Int) : Bd → Bool
  | none => true
  | some b => decide (i ≤ b)
def spWithin : Sp := fun vs H Q _ => ∃ (i : Int) (b : Bd), vs = [.int i, bV b] ∧ Q (.bl (inB i b)) H
theorem ok_isWithinBound {f : Addr} {fd : FuncData} (F : FnP K "is_within_bound" sIsWithinBound f fd) : FnOk P w K mg base CX0 1 f fd ["number", "bound"] spWithin := by
  refine F.ok scIsWithinBound (fun vs H Q E h => ?_) (fun cdv A outer s H vs Q E hr h => ?_)
  · obtain ⟨a, b, rfl, _⟩ := h
    rfl
  · obtain ⟨i, b, rfl, q⟩ := h
    refine ⟨_, pss_one (ps_ret (pe_or (pe_cmpR op_isN (pv 1) pe_non (nomark _)) (pe_one (pe_cmpR op_le (pv 0) (pv 1) (nomark _))))), ?_⟩
    cases b with
    | none => exact ⟨_, rfl, rfl, true, rfl, q⟩
    | some y => exact ⟨_, rfl, rfl, false, rfl, _, rfl, _, rfl, i, y, rfl, rfl, q⟩
theorem cal_isWithinBound {f : Addr} {fd : FuncData} (F : FnP K "is_within_bound" sIsWithinBound f fd) (hm : mg "is_within_bound" = some (.ref f)) : Cal P w K mg base 1 "is_within_bound" ["number", "bound"] spWithin :=
  ⟨f, fd, ok_isWithinBound F, hm, F.kp, F.bindsN fun _ _ _ _ _ _ us hl => match us, hl with | [_, _], _ => rfl⟩
/-! ### plus -/
def spPlus : Sp := fun vs H Q _ => ∃ a b : Bd, vs = [bV a, bV b] ∧ Q (bV (pl a b)) H
theorem ok_plus {f : Addr} {fd : FuncData} (F : FnP K "plus" sPlus f fd) : FnOk P w K mg base CX0 1 f fd ["bound", "other"] spPlus := by
  refine F.ok scPlus (fun vs H Q E h => ?_) (fun cdv A outer s H vs Q E hr h => ?_)
  · obtain ⟨a, b, rfl, _⟩ := h
    rfl
  · obtain ⟨a, b, rfl, q⟩ := h
    refine ⟨_, pss_one (ps_ret (pe_ifExp (PW.pt (pw_or (pt_cmpR op_isN (pv 0) pe_non (nomark _)) (pw_or1 (pt_cmpR op_isN (pv 1) pe_non (nomark _))))) pe_non (pe_op op_add (pv 0) (pv 1)))), ?_⟩
    cases a with
    | none => exact ⟨_, rfl, rfl, true, rfl, q⟩
    | some x =>
      cases b with
      | none => exact ⟨_, rfl, rfl, false, rfl, _, rfl, rfl, true, rfl, q⟩
      | some y => exact ⟨_, rfl, rfl, false, rfl, _, rfl, rfl, false, rfl, _, rfl, _, rfl, x, y, rfl, rfl, q⟩
theorem cal_plus {f : Addr} {fd : FuncData} (F : FnP K "plus" sPlus f fd) (hm : mg "plus" = some (.ref f)) : Cal P w K mg base 1 "plus" ["bound", "other"] spPlus :=
  ⟨f, fd, ok_plus F, hm, F.kp, F.bindsN fun _ _ _ _ _ _ us hl => match us, hl with | [_, _], _ => rfl⟩
/-! ### lesser -/
def spLesser : Sp := fun vs H Q _ => ∃ a b : Bd, vs = [bV a, bV b] ∧ Q (bV (ls a b)) H
theorem ok_lesser {f : Addr} {fd : FuncData} (F : FnP K "lesser" sLesser f fd) (C : Cal P w K mg base 1 "is_high_within" ["high", "other"] spHigh) : FnOk P w K mg base CX0 2 f fd ["bound", "other"] spLesser := by
  refine F.ok scLesser (fun vs H Q E h => ?_) (fun cdv A outer s H vs Q E hr h => ?_)
  · obtain ⟨a, b, rfl, _⟩ := h
    rfl
  · obtain ⟨a, b, rfl, q⟩ := h
    refine ⟨_, pss_one (ps_ret (pe_ifExp (pt_val (pe_fn C hr (by decide) (by rfl) (pa_cons (pv 0) (pa_cons (pv 1) pa_nil)))) (pv 0) (pv 1))), ?_⟩
    refine ⟨_, rfl, _, rfl, a, b, rfl, leB a b, rfl, ?_⟩
    unfold ls at q
    cases e : leB a b with
    | true => rw [e] at q; exact ⟨_, rfl, q⟩
    | false => rw [e] at q; exact ⟨_, rfl, q⟩
theorem cal_lesser {f : Addr} {fd : FuncData} (F : FnP K "lesser" sLesser f fd) (C : Cal P w K mg base 1 "is_high_within" ["high", "other"] spHigh) (hm : mg "lesser" = some (.ref f)) : Cal P w K mg base 2 "lesser" ["bound", "other"] spLesser :=
  ⟨f, fd, ok_lesser F C, hm, F.kp, F.bindsN fun _ _ _ _ _ _ us hl => match us, hl with | [_, _], _ => rfl⟩
end
end K38
set_option maxHeartbeats 4000000
/-! Walks: what differences are. -/
namespace K38
open PySem PySem.Spec PyProof.Rows L2 RZ
open Evl (Ex)
theorem all_seqF {n : Nat} {b : Nat → Bool} (h : ∀ i, i < n → b i = true) : (seqF n b).all id = true :=
  List.all_eq_true.mpr fun x hx => by
    obtain ⟨i, hi, e⟩ := List.mem_map.mp hx
    rw [← e]
    exact h i (List.mem_range.mp hi)
theorem sz21 {n : Nat} (h : n ≤ 21) : n < sizeLine := Nat.lt_of_le_of_lt h (by decide)
/-- a comprehension's truth values -/
theorem bls_of {ys : List V} {n : Nat} {b : Nat → Bool} (hl : ys.length = n) (h : ∀ i y, ys[i]? = some y → y = V.bl (b i)) : ys = (seqF n b).map V.bl := by
  rw [seqF_map]
  exact seqF_of hl h
theorem rd_gn {i : Nat} {v : V} {σ : L2.St} {H : Hp} {Q : L2.St → Hp → Prop} (h : Q (σ.set i (some v)) H) : gName i v σ H Q := h
/-- range(n) -/
theorem walk_rng0 {n : Nat} : Walk (Itr 0 n) n (fun _ => True) (fun i H x H' => H' = H ∧ x = V.int (i : Int)) :=
  ⟨fun _ _ hi _ => hi, fun _ _ => Nat.le_refl _, fun i H x H' _ _ y => by
    obtain ⟨h1, h2⟩ := y
    rw [Int.zero_add] at h2
    exact ⟨h1, h2⟩⟩
section
variable {P : Program} {w : World} {K : PySem.W.Frag} {mg : Str → Option Value} {base : Heap}

/-! ### is_bound_row -/
def spBoundRow : Sp := fun vs H Q _ => ∃ (m p : Nat) (v : V) (g : Nat → Bd), vs = [.int m, .int p, v] ∧ Row H v (m + 1) g ∧ p < m + 1 ∧ g p = some 0 ∧ m ≤ 20 ∧ ∀ H', Ex H H' → Q (.bl true) H'
theorem ok_isBoundRow {f : Addr} {fd : FuncData} (F : FnP K "is_bound_row" sIsBoundRow f fd) (B : Bl mg) (C : Cal P w K mg base 2 "is_end" ["value"] spEnd) : FnOk P w K mg base CX0 3 f fd ["many", "at", "value"] spBoundRow := by
  refine F.ok scIsBoundRow (fun vs H Q E h => ?_) (fun cdv A outer s H vs Q E hr h => ?_)
  · obtain ⟨m, p, v, g, rfl, _⟩ := h
    rfl
  · obtain ⟨m, p, v, g, rfl, hv, hp, hg, hm, q⟩ := h
    refine ⟨_, pss_cons (ps_if (PW.pt (pw_or (pt_not (pt_val (pe_callB call_isi (by rfl) B.isi bt_isi (pa_cons (pv 2) (pa_cons (pe_bltn (v := .ty "tuple") (by rfl) B.tuple bt_tuple rfl) pa_nil)))))
        (pw_or1 (pt_cmpR op_ne (pe_callB call_len_seq (by rfl) B.len PySem.boot_len (pa_cons (pv 2) pa_nil)) (pe_op op_add (pv 0) pe_int) (nomark _))))) (pss_one (ps_ret pe_bl)) pss_nil)
      (pss_one (ps_ret (pe_and (pe_callB (cr_all rfl) (by rfl) B.all bt_all (pa_cons (pe_lc (own := [("bound", 3)]) (g := gName 3) (tt := tYes) rfl scIsBoundRow.nd (pi_tup (pv 2)) (blkOk_by (N := nIsBoundRow) (sc := defScope sIsBoundRow) (by decide +kernel))
          (fun _ _ _ _ _ => pg_name (i := 3) scIsBoundRow.nd rfl (.inl rfl)) (fun _ _ _ _ _ => pts_nil) (fun _ _ _ _ _ => pe_fn C hr (by decide) (by rfl) (pa_cons (pv 3) pa_nil))) pa_nil))
        (pe_one (pe_cmpR op_eq (pe_ix ix_tup (pv 2) (pv 1) (fun _ _ => rfl)) pe_int (nomark _)))))), ?_⟩
    have hv0 := hv
    obtain ⟨a, rfl, ha⟩ := hv
    refine ⟨_, rfl, _, _, _, _, _, rfl, .ty _, isiTup hv0, kit_ty kt4, true, rfl, ?_⟩
    refine ⟨_, rfl, a, _, rfl, .inr (SqT.of ha), _, rfl, _, _, rfl, rfl, rfl, false, ?_, ?_⟩
    · rw [seqF_len, show ((m + 1 : Nat) : Int) = (m : Int) + 1 by omega, decide_eq_true rfl]
      rfl
    refine iteF (rd_next ?_)
    refine rd_ret ?_
    refine rd_and ?_
    refine rd_cb ?_
    refine rd_c1 ?_
    refine tlc (fun R r => ⟨_, rfl, a, rfl, ⟨_, SqT.of ha⟩, r⟩) walk_tup (n := (seqF (m + 1) fun j => bV (g j)).length) (by rw [seqF_len]; exact sz21 (by omega)) (fun _ y _ => y = .bl true) (fun _ _ _ _ _ _ e => e) (fun H1 e => SqT.of (e _ _ ha)) (fun i H1 x H2 _ _ y => yat_ex y) (fun i x H1 H2 hi e1 e2 y Qt k => ?_) (fun D ys H1 hD e hD2 hl hP => ?_)
    · obtain ⟨rfl, hx⟩ := y
      obtain ⟨_, rfl⟩ := seqF_at hx
      exact ⟨rfl, _, rfl, g i, rfl, k _ _ (Ex.refl _) rfl⟩
    · rw [seqF_len] at hl
      have e2 := bls_of (b := fun _ => true) hl hP
      subst e2
      refine ⟨D, _, rfl, SqL.of hD2, true, congrArg V.bl (all_seqF fun _ _ => rfl), ?_⟩
      refine ⟨_, rfl, _, rfl, a, _, (p : Int), .int 0, rfl, rfl, SqT.of (e _ _ ha), atI_nat ?_, rfl, ?_⟩
      · rw [seqF_get hp, hg]
        rfl
      · exact q H1 e
theorem cal_isBoundRow {f : Addr} {fd : FuncData} (F : FnP K "is_bound_row" sIsBoundRow f fd) (B : Bl mg) (C : Cal P w K mg base 2 "is_end" ["value"] spEnd) (hm : mg "is_bound_row" = some (.ref f)) : Cal P w K mg base 3 "is_bound_row" ["many", "at", "value"] spBoundRow :=
  ⟨f, fd, ok_isBoundRow F B C, hm, F.kp, F.bindsN fun _ _ _ _ _ _ us hl => match us, hl with | [_, _, _], _ => rfl⟩

/-! ### are_differences -/
def spDiffs : Sp := fun vs H Q _ => ∃ (m : Nat) (v : V) (o : Option Mx), vs = [.int m, v] ∧ MatO H v (m + 1) o ∧ (∀ f, o = some f → Dg (m + 1) f) ∧ m ≤ 20 ∧ ∀ H', Ex H H' → Q (.bl true) H'
theorem ok_areDifferences {f : Addr} {fd : FuncData} (F : FnP K "are_differences" sAreDifferences f fd) (B : Bl mg) (C : Cal P w K mg base 3 "is_bound_row" ["many", "at", "value"] spBoundRow) : FnOk P w K mg base CX0 4 f fd ["many", "value"] spDiffs := by
  refine F.ok scAreDifferences (fun vs H Q E h => ?_) (fun cdv A outer s H vs Q E hr h => ?_)
  · obtain ⟨m, v, o, rfl, _⟩ := h
    rfl
  · obtain ⟨m, v, o, rfl, hv, hg, hm, q⟩ := h
    refine ⟨_, pss_cons (ps_if (pt_cmpR op_isN (pv 1) pe_non (nomark _)) (pss_one (ps_ret pe_bl)) pss_nil)
      (pss_cons (ps_if (PW.pt (pw_or (pt_not (pt_val (pe_callB call_isi (by rfl) B.isi bt_isi (pa_cons (pv 1) (pa_cons (pe_bltn (v := .ty "tuple") (by rfl) B.tuple bt_tuple rfl) pa_nil)))))
        (pw_or1 (pt_cmpR op_ne (pe_callB call_len_seq (by rfl) B.len PySem.boot_len (pa_cons (pv 1) pa_nil)) (pe_op op_add (pv 0) pe_int) (nomark _))))) (pss_one (ps_ret pe_bl)) pss_nil)
      (pss_one (ps_ret (pe_callB (cr_all rfl) (by rfl) B.all bt_all (pa_cons (pe_lc (own := [("at", 2), ("row", 3)]) (g := gTup K 2 (gCons (gName 2) (gCons (gName 3) gNil))) (tt := tYes) rfl scAreDifferences.nd (pi_enumT (by rfl) B.enumerate (pa_cons (pv 1) pa_nil)) (blkOk_by (N := nAreDifferences) (sc := defScope sAreDifferences) (by decide +kernel))
          (fun _ _ _ _ _ => pg_tup rfl (pgs_cons (pg_name (i := 2) scAreDifferences.nd rfl (.inl rfl)) (pgs_cons (pg_name (i := 3) scAreDifferences.nd rfl (.inl rfl)) pgs_nil))) (fun _ _ _ _ _ => pts_nil)
          (fun _ _ _ _ _ => pe_fn C hr (by decide) (by rfl) (pa_cons (pv 0) (pa_cons (pv 2) (pa_cons (pv 3) pa_nil))))) pa_nil))))), ?_⟩
    cases o with
    | none =>
      obtain rfl : v = .non := hv
      exact ⟨_, rfl, rfl, true, rfl, q H (Ex.refl H)⟩
    | some f =>
      have hg := hg f rfl
      obtain ⟨rs, hv0, hrow⟩ := hv
      have hv1 := hv0
      obtain ⟨a, rfl, ha⟩ := hv0
      refine ⟨_, rfl, rfl, false, rfl, ?_⟩
      refine ⟨_, rfl, _, _, _, _, _, rfl, .ty _, isiTup hv1, kit_ty kt4, true, rfl, ?_⟩
      refine ⟨_, rfl, a, _, rfl, .inr (SqT.of ha), _, rfl, _, _, rfl, rfl, rfl, false, ?_, ?_⟩
      · rw [seqF_len, show ((m + 1 : Nat) : Int) = (m : Int) + 1 by omega, decide_eq_true rfl]
        rfl
      refine iteF (rd_next ?_)
      refine rd_ret ?_
      refine rd_cb ?_
      refine rd_c1 ?_
      refine tlc (fun R r => ⟨_, rfl, a, _, rfl, SqT.of ha, r⟩) walk_enumT (n := (seqF (m + 1) rs).length) (by rw [seqF_len]; exact sz21 (by omega)) (fun _ y _ => y = .bl true) (fun _ _ _ _ _ _ e => e) (fun H1 e => SqT.of (e _ _ ha)) (fun i H1 x H2 _ _ y => ypair_ex y) (fun i x H1 H2 hi e1 e2 y Qt k => ?_) (fun D ys H1 hD e hD2 hl hP => ?_)
      · obtain ⟨T, x1, x2, rfl, nT, rfl, h1, h2⟩ := y
        obtain ⟨hi2, rfl⟩ := seqF_at h2
        cases h1
        refine ⟨T, _, rfl, SqT.of upd_same, rfl, _, _, rfl, _, _, rfl, rfl, rfl, ?_⟩
        refine ⟨_, rfl, _, rfl, _, rfl, m, i, rs i, f i, rfl, (hrow i hi2).tx (exT e2), hi2, hg i hi2, hm, fun H3 e3 => k _ _ e3 rfl⟩
      · rw [seqF_len] at hl
        have e2 := bls_of (b := fun _ => true) hl hP
        subst e2
        refine ⟨D, _, rfl, SqL.of hD2, ?_⟩
        rw [all_seqF fun _ _ => rfl]
        exact q H1 e
theorem cal_areDifferences {f : Addr} {fd : FuncData} (F : FnP K "are_differences" sAreDifferences f fd) (B : Bl mg) (C : Cal P w K mg base 3 "is_bound_row" ["many", "at", "value"] spBoundRow) (hm : mg "are_differences" = some (.ref f)) : Cal P w K mg base 4 "are_differences" ["many", "value"] spDiffs :=
  ⟨f, fd, ok_areDifferences F B C, hm, F.kp, F.bindsN fun _ _ _ _ _ _ us hl => match us, hl with | [_, _], _ => rfl⟩

/-! ### row_through -/
def spRowThrough : Sp := fun vs H Q _ => ∃ (n : Nat) (v u : V) (st : Bd) (g k : Nat → Bd), vs = [v, bV st, u] ∧ n ≤ 21 ∧ Row H v n g ∧ Row H u n k ∧ ∀ H' r, Ex H H' → Row H' r n (fun j => ls (g j) (pl st (k j))) → Q r H'
theorem ok_rowThrough {f : Addr} {fd : FuncData} (F : FnP K "row_through" sRowThrough f fd) (B : Bl mg) (CL : Cal P w K mg base 2 "lesser" ["bound", "other"] spLesser) (CP : Cal P w K mg base 1 "plus" ["bound", "other"] spPlus) :
    FnOk P w K mg base CX0 3 f fd ["row", "step", "others"] spRowThrough := by
  refine F.ok scRowThrough (fun vs H Q E h => ?_) (fun cdv A outer s H vs Q E hr h => ?_)
  · obtain ⟨n, v, u, st, g, k, rfl, _⟩ := h
    rfl
  · obtain ⟨n, v, u, st, g, k, rfl, hn, hv, hu, q⟩ := h
    refine ⟨_, pss_cons (ps_if (pt_cmpR op_isN (pv 1) pe_non (nomark _)) (pss_one (ps_ret (pv 0))) pss_nil)
      (pss_one (ps_ret (pe_callTy call_tuple_of (by rfl) B.tuple bt_tuple (pa_cons (pe_lc (own := [("bound", 3), ("other", 4)]) (g := gTup K 2 (gCons (gName 3) (gCons (gName 4) gNil))) (tt := tYes) rfl scRowThrough.nd (pi_zipA (by rfl) B.zip (pa_cons (pv 0) (pa_cons (pv 2) pa_nil))) (blkOk_by (N := nRowThrough) (sc := defScope sRowThrough) (by decide +kernel))
          (fun _ _ _ _ _ => pg_tup rfl (pgs_cons (pg_name (i := 3) scRowThrough.nd rfl (.inl rfl)) (pgs_cons (pg_name (i := 4) scRowThrough.nd rfl (.inl rfl)) pgs_nil))) (fun _ _ _ _ _ => pts_nil)
          (fun _ _ _ _ _ => pe_fn CL hr (by decide) (by rfl) (pa_cons (pv 3) (pa_cons (pe_fn CP hr (by decide) (by rfl) (pa_cons (pv 1) (pa_cons (pv 4) pa_nil))) pa_nil)))) pa_nil)))), ?_⟩
    cases st with
    | none =>
      refine ⟨_, rfl, rfl, true, rfl, _, rfl, q H _ (Ex.refl H) (hv.congr fun j _ => ?_)⟩
      show g j = ls (g j) none
      exact (ls_eq (le_none _)).symm
    | some st =>
      refine ⟨_, rfl, rfl, false, rfl, ?_⟩
      obtain ⟨a, rfl, ha⟩ := hv
      obtain ⟨b, rfl, hb⟩ := hu
      refine iteF (rd_next ?_)
      refine rd_ret ?_
      refine rd_cb ?_
      refine rd_c1 ?_
      refine tlc (fun R r => ⟨_, rfl, _, rfl, a, b, _, _, rfl, .inr ⟨SqT.of ha, SqT.of hb, r⟩⟩) (walk_zipT (seqF_len n _) (seqF_len n _)) (sz21 hn) (fun j y _ => y = bV (ls (g j) (pl (some st) (k j)))) (fun _ _ _ _ _ _ e => e) (fun H1 e => ⟨SqT.of (e _ _ ha), SqT.of (e _ _ hb)⟩) (fun i H1 x H2 _ _ y => ypair_ex y) (fun i x H1 H2 hi e1 e2 y Qt kk => ?_) (fun D ys H1 hD e hD2 hl hP => ?_)
      · obtain ⟨T, x1, x2, rfl, nT, rfl, h1, h2⟩ := y
        obtain ⟨_, rfl⟩ := seqF_at h1
        obtain ⟨_, rfl⟩ := seqF_at h2
        refine ⟨T, _, rfl, SqT.of upd_same, rfl, _, _, rfl, _, _, rfl, rfl, rfl, ?_⟩
        refine ⟨_, rfl, _, rfl, _, rfl, some st, k i, rfl, g i, _, rfl, kk _ _ (Ex.refl _) rfl⟩
      · refine ⟨D, ys, rfl, .inl ⟨SqL.of hD2, fun l hl2 => ?_⟩⟩
        exact q _ _ (e.trans (Ex.new hl2)) ⟨l, rfl, by rw [upd_same, seqF_of hl hP]⟩
theorem cal_rowThrough {f : Addr} {fd : FuncData} (F : FnP K "row_through" sRowThrough f fd) (B : Bl mg) (CL : Cal P w K mg base 2 "lesser" ["bound", "other"] spLesser) (CP : Cal P w K mg base 1 "plus" ["bound", "other"] spPlus) (hm : mg "row_through" = some (.ref f)) :
    Cal P w K mg base 3 "row_through" ["row", "step", "others"] spRowThrough :=
  ⟨f, fd, ok_rowThrough F B CL CP, hm, F.kp, F.bindsN fun _ _ _ _ _ _ us hl => match us, hl with | [_, _, _], _ => rfl⟩
end
end K38
set_option maxHeartbeats 4000000
/-! Walks: the closing. -/
namespace K38
open PySem PySem.Spec PyProof.Rows L2 RZ
open Evl (Ex)
def nz (b : Bd) : Bool := !decide (bV b = V.int 0)
theorem nz_eq (b : Bd) : nz b = !(b == some 0) := by
  cases b with
  | none => rfl
  | some x =>
    show (!decide (V.int x = V.int 0)) = !(some x == some 0)
    by_cases h : x = 0
    · subst h; rfl
    · rw [decide_eq_false (fun q => h (V.int.inj q))]
      have : (some x == some (0 : Int)) = false := beq_eq_false_iff_ne.mpr fun q => h (Option.some.inj q)
      rw [this]
theorem scal_bV (b : Bd) (i : Int) : scal (bV b) (.int i) = true := by cases b <;> rfl
theorem any_nz (n : Nat) (f : Mx) : (seqF n fun i => nz (f i i)).any id = !okD n f := by
  unfold okD seqF
  rw [List.any_map, List.not_all_eq_any_not]
  congr 1
  funext i
  exact nz_eq (f i i)
section
variable {P : Program} {w : World} {K : PySem.W.Frag} {mg : Str → Option Value} {base : Heap}
def spClosed : Sp := fun vs H Q _ => ∃ (n : Nat) (v : V) (o : Option Mx), vs = [v] ∧ MatO H v n o ∧ n ≤ 21 ∧ ∀ H' r, Ex H H' → MatO H' r n (o.bind (clo n)) → Q r H'
theorem ok_closedBy {f : Addr} {fd : FuncData} (F : FnP K "closed_by" sClosedBy f fd) (B : Bl mg) (C : Cal P w K mg base 3 "row_through" ["row", "step", "others"] spRowThrough) : FnOk P w K mg base CX0 4 f fd ["one"] spClosed := by
  refine F.ok scClosedBy (fun vs H Q E h => ?_) (fun cdv A outer s H vs Q E hr h => ?_)
  · obtain ⟨n, v, o, rfl, _⟩ := h
    rfl
  · obtain ⟨n, v, o, rfl, hv, hn, q⟩ := h
    refine ⟨_, PSs.nox (pss_cons (ps_if (pt_cmpR op_isN (pv 0) pe_non (nomark _)) (pss_one (ps_ret pe_non)) pss_nil)
      (pss_cons (ps_set (i := 1) scClosedBy.nd rfl (.inr rfl) (pv 0))
      (pss_cons (ps_for PassesOwn.never rfl (pi_range1 (by rfl) B.range (pa_cons (pe_callB call_len_seq (by rfl) B.len PySem.boot_len (pa_cons (pv 0) pa_nil)) pa_nil)) (pg_name (i := 2) scClosedBy.nd rfl (.inr rfl))
        (pss_one (ps_set (i := 1) scClosedBy.nd rfl (.inr rfl) (pe_callTy call_tuple_of (by rfl) B.tuple bt_tuple (pa_cons (pe_lc (own := [("row", 3)]) (g := gName 3) (tt := tYes) rfl scClosedBy.nd (pi_tup (pv 1)) (blkOk_by (N := nClosedBy) (sc := defScope sClosedBy) (by decide +kernel))
          (fun _ _ _ _ _ => pg_name (i := 3) scClosedBy.nd rfl (.inl rfl)) (fun _ _ _ _ _ => pts_nil)
          (fun _ _ _ _ _ => pe_fn C hr (by decide) (by rfl) (pa_cons (pv 3) (pa_cons (pe_ix (r := rIxT K) ix_tup (pv 3) (pv 2) (fun _ _ => rfl)) (pa_cons (pe_ix (r := rIxT K) ix_tup (pv 1) (pv 2) (fun _ _ => rfl)) pa_nil))))) pa_nil)))))
      (pss_one (ps_ret (pe_ifExp (pt_val (pe_callB (cr_any rfl) (by rfl) B.any bt_any (pa_cons (pe_lc (own := [("at", 4)]) (g := gName 4) (tt := tYes) rfl scClosedBy.nd (pi_range1 (by rfl) B.range (pa_cons (pe_callB call_len_seq (by rfl) B.len PySem.boot_len (pa_cons (pv 1) pa_nil)) pa_nil)) (blkOk_by (N := nClosedBy) (sc := defScope sClosedBy) (by decide +kernel))
          (fun _ _ _ _ _ => pg_name (i := 4) scClosedBy.nd rfl (.inl rfl)) (fun _ _ _ _ _ => pts_nil)
          (fun _ _ _ _ _ => pe_cmpR op_ne (pe_ix (r := rIxT K) ix_tup (pe_ix (r := rIxT K) ix_tup (pv 1) (pv 4) (fun _ _ => rfl)) (pv 4) (fun _ _ => rfl)) pe_int (nomark _))) pa_nil))) pe_non (pv 1))))))), ?_⟩
    cases o with
    | none =>
      obtain rfl : v = .non := hv
      exact ⟨_, rfl, rfl, true, rfl, q H _ (Ex.refl H) rfl⟩
    | some f =>
      have hv0 := hv
      obtain ⟨rs, ⟨a, rfl, ha⟩, hrow⟩ := hv
      refine rd_seq ?_
      refine ⟨_, rfl, rfl, false, rfl, ?_⟩
      refine iteF (rd_next ?_)
      refine rd_seq ?_
      refine rd_set ?_
      refine ⟨_, rfl, ?_⟩
      refine rd_seq ?_
      refine tfor (J := Itr 0 n) (H1 := H) (fun R r => ?_) walk_rng0 (fun i σ H' => ∃ v y, σ = [some (.ref a), some v, y, none, none] ∧ Ex H H' ∧ Mat H' v n (rnd f i)) ⟨.ref a, none, rfl, Ex.refl H, hv0⟩ (fun _ _ _ _ _ => trivial) (fun i x σ H1 H2 hi hP hY => ?_) (fun σ H1 hP => ?_)
      · refine ⟨_, rfl, a, _, rfl, .inr (SqT.of ha), ((n : Nat) : Int), by rw [seqF_len], by omega, by omega, r⟩
      · obtain ⟨rfl, rfl⟩ := hY
        obtain ⟨v, y, rfl, e1, hm⟩ := hP
        obtain ⟨rs1, ⟨a1, rfl, ha1⟩, hrow1⟩ := hm
        refine rd_gn ?_
        refine rd_set ?_
        refine rd_cb ?_
        refine rd_c1 ?_
        refine tlc (fun R r => ⟨_, rfl, a1, rfl, ⟨_, SqT.of ha1⟩, r⟩) walk_tup (n := (seqF n rs1).length) (by rw [seqF_len]; exact sz21 hn) (fun j y H => Row H y n (stp (rnd f i) i j)) (fun j y _ _ _ t h => h.tx t) (fun H1 e => SqT.of (e _ _ ha1)) (fun j H1 x H2 _ _ y => yat_ex y) (fun j x H1 H2 hj e2 e3 y Qt k => ?_) (fun D ys H1 hD e hD2 hl hP => ?_)
        · obtain ⟨rfl, hx⟩ := y
          obtain ⟨hj2, rfl⟩ := seqF_at hx
          have hr1 := (hrow1 j hj2).tx (exT e3)
          have hr2 := (hrow1 i hi).tx (exT e3)
          have hr3 := hr1
          obtain ⟨p1, ep1, hp1⟩ := hr3
          refine ⟨rfl, ?_⟩
          refine ⟨_, rfl, _, rfl, _, rfl, p1, _, (i : Int), bV (rnd f i j i), ep1, rfl, SqT.of hp1, atI_nat (seqF_get hi), ?_⟩
          refine ⟨_, rfl, _, rfl, a1, _, (i : Int), rs1 i, rfl, rfl, SqT.of (e3 _ _ ha1), atI_nat (seqF_get hi), ?_⟩
          exact ⟨n, rs1 j, rs1 i, rnd f i j i, rnd f i j, rnd f i i, rfl, hn, hr1, hr2, fun H3 r e4 h => k r H3 e4 h⟩
        · rw [seqF_len] at hl
          refine ⟨D, ys, rfl, .inl ⟨SqL.of hD2, fun l hl2 => ?_⟩⟩
          exact ⟨.ref l, some (.int i), rfl, (e1.trans e).trans (Ex.new hl2), mat_of hl ⟨l, rfl, upd_same⟩ fun j y ej => (hP j y ej).tx (exT (Ex.new hl2))⟩
      · obtain ⟨v, y, rfl, e1, hm⟩ := hP
        have hm0 := hm
        obtain ⟨rs1, ⟨a1, rfl, ha1⟩, hrow1⟩ := hm
        refine rd_ret ?_
        refine rd_if ?_
        refine rd_b ?_
        refine rd_cb ?_
        refine rd_c1 ?_
        refine tlc (J := Itr 0 n) (H1 := H1) (fun R r => ?_) walk_rng0 (sz21 hn) (fun j y _ => y = .bl (nz (rnd f n j j))) (fun _ _ _ _ _ _ e => e) (fun _ _ => trivial) (fun j H1 x H2 _ _ y => by rw [y.1]; exact Ex.refl _) (fun j x H2 H3 hj e2 e3 y Qt k => ?_) (fun D ys H2 hD e hD2 hl hP => ?_)
        · exact ⟨_, rfl, a1, _, rfl, .inr (SqT.of ha1), ((n : Nat) : Int), by rw [seqF_len], by omega, by omega, r⟩
        · obtain ⟨rfl, rfl⟩ := y
          have hr1 := (hrow1 j hj).tx (exT e3)
          obtain ⟨p1, ep1, hp1⟩ := hr1
          refine ⟨rfl, ?_⟩
          refine ⟨_, rfl, _, rfl, a1, _, (j : Int), rs1 j, rfl, rfl, SqT.of (e3 _ _ ha1), atI_nat (seqF_get hj), _, rfl, p1, _, (j : Int), bV (rnd f n j j), ep1, rfl, SqT.of hp1, atI_nat (seqF_get hj), scal_bV _ _, ?_⟩
          exact k _ _ (Ex.refl _) rfl
        · have eb := bls_of hl hP
          subst eb
          refine ⟨D, _, rfl, SqL.of hD2, _, rfl, ?_⟩
          rw [any_nz]
          have qq := q H2
          have er : (some f : Option Mx).bind (clo n) = clo n f := rfl
          rw [er] at qq
          unfold clo at qq
          cases eo : okD n (rnd f n) with
          | true =>
            rw [eo, if_pos rfl] at qq
            exact ⟨_, rfl, qq _ (e1.trans e) (hm0.tx (exT e))⟩
          | false =>
            rw [eo, if_neg (by decide)] at qq
            exact qq _ (e1.trans e) rfl
theorem cal_closedBy {f : Addr} {fd : FuncData} (F : FnP K "closed_by" sClosedBy f fd) (B : Bl mg) (C : Cal P w K mg base 3 "row_through" ["row", "step", "others"] spRowThrough) (hm : mg "closed_by" = some (.ref f)) : Cal P w K mg base 4 "closed_by" ["one"] spClosed :=
  ⟨f, fd, ok_closedBy F B C, hm, F.kp, F.bindsN fun _ _ _ _ _ _ us hl => match us, hl with | [_], _ => rfl⟩
end
end K38
set_option maxHeartbeats 4000000
/-! More readings: tuples joined and cut, comprehensions that make lists, that test, that go two ways; places in lists of ints. -/
namespace K38
open PySem PySem.Spec PyProof.Rows L2 RZ
open Evl (Ex)
theorem txN {H : Hp} {p : Addr} {o : HO} (h : H p = none) : Tx H (upd H p o) := exT (Ex.new h)
theorem Tup.ex {H H' : Hp} {v : V} {xs : List V} (e : Ex H H') (h : Tup H v xs) : Tup H' v xs := h.tx (exT e)
theorem Mat.ex {H H' : Hp} {v : V} {n : Nat} {f : Mx} (e : Ex H H') (h : Mat H v n f) : Mat H' v n f := h.tx (exT e)
section
variable {K : PySem.W.Frag} {H : Hp} {Q : VK} {x y : V} {xs ys : List V}
theorem catA (hx : Tup H x xs) (hy : Tup H y ys) (hz : xs.length + ys.length ≤ sizeLine) (q : ∀ H' r, Ex H H' → Tup H' r (xs ++ ys) → Q r H') : rCatA K x y H Q := by
  have hx0 := hx
  have hy0 := hy
  obtain ⟨a, rfl, ha⟩ := hx
  obtain ⟨b, rfl, hb⟩ := hy
  refine ⟨a, b, xs, ys, rfl, rfl, SqT.of ha, SqT.of hb, hz, fun e => ?_, fun _ e => ?_, fun _ _ p hp => ?_⟩
  · refine q H _ (Ex.refl H) ?_
    rw [e]; exact hy0
  · refine q H _ (Ex.refl H) ?_
    rw [e, List.append_nil]; exact hx0
  · exact q _ _ (Ex.new hp) ⟨p, rfl, upd_same⟩
theorem slA {lo hi : Option Int} (hx : Tup H x xs) (q : ∀ H' r, Ex H H' → Tup H' r (cutV xs lo hi) → Q r H') : rSlA K x lo hi H Q := by
  have hx0 := hx
  obtain ⟨a, rfl, ha⟩ := hx
  refine ⟨a, xs, rfl, SqT.of ha, fun e => ?_, fun _ p hp => q _ _ (Ex.new hp) ⟨p, rfl, upd_same⟩⟩
  refine q H _ (Ex.refl H) ?_
  have : cutV xs lo hi = xs := by
    unfold cutV
    rw [e.1, e.2, List.drop_zero, Nat.sub_zero, List.take_length]
  rw [this]; exact hx0
end
theorem cutDrop (xs : List V) (k : Nat) : cutV xs (some (k : Int)) none = xs.drop k := by
  unfold cutV
  rw [HT.sIx_nat, HT.sIx_none]
  by_cases h : k ≤ xs.length
  · rw [Nat.min_eq_left h, List.take_of_length_le (by rw [List.length_drop]; omega)]
  · rw [Nat.min_eq_right (by omega), List.drop_eq_nil_of_le (Nat.le_refl _), List.drop_eq_nil_of_le (by omega), List.take_nil]
theorem cutTake (xs : List V) (k : Nat) : cutV xs none (some (k : Int)) = xs.take k := by
  unfold cutV
  rw [HT.sIx_nat, HT.sIx_none, List.drop_zero, Nat.sub_zero]
  by_cases h : k ≤ xs.length
  · rw [Nat.min_eq_left h]
  · rw [Nat.min_eq_right (by omega), List.take_length, List.take_of_length_le (by omega)]
theorem inV_int (x : Int) (l : List Int) : inV (.int x) (l.map V.int) = decide (x ∈ l) := by
  unfold inV
  rw [List.any_map]
  show (l.any fun y => y == x) = _
  by_cases h : x ∈ l
  · rw [decide_eq_true h, List.any_eq_true]
    exact ⟨x, h, beq_self_eq_true x⟩
  · rw [decide_eq_false h, List.any_eq_false]
    intro y hy
    simp only [beq_iff_eq]
    exact fun e => h (e ▸ hy)
theorem flat_ints (l : List Int) : (l.map V.int).all flatV = true := List.all_eq_true.mpr fun x hx => by
  obtain ⟨i, _, e⟩ := List.mem_map.mp hx
  rw [← e]; rfl
/-- a tuple's item, by values -/
theorem ixT {K : PySem.W.Frag} {H : Hp} {Q : VK} {x v : V} {xs : List V} {i : Nat} (hx : Tup H x xs) (hi : xs[i]? = some v) (q : Q v H) : rIxT K x (.int (i : Int)) H Q := by
  obtain ⟨a, rfl, ha⟩ := hx
  exact ⟨a, xs, (i : Int), v, rfl, rfl, SqT.of ha, atI_nat hi, q⟩
theorem ixL {K : PySem.W.Frag} {H : Hp} {Q : VK} {a : Addr} {v : V} {xs : List V} {i : Nat} (ha : H a = some (.lst xs)) (hi : xs[i]? = some v) (q : Q v H) : rIxL K (.ref a) (.int (i : Int)) H Q :=
  ⟨a, xs, (i : Int), v, rfl, rfl, SqL.of ha, atI_nat hi, q⟩

/-! ### whatever a turn does -/
theorem walk_any {J : It} {n : Nat} {G : Hp → Prop} {Y : Nat → Hp → V → Hp → Prop} (w : Walk J n G Y) {H0 : Hp} {Qd : Hp → Prop} {Body : (Hp → Prop) → V → Hp → Prop} (Pv : Nat → Hp → Prop) (h0 : Pv 0 H0) (hG : ∀ i H, i ≤ n → Pv i H → G H)
    (hs : ∀ i x H H', i < n → Pv i H → Y i H x H' → Body (Pv (i + 1)) x H') (hd : ∀ H, Pv n H → Qd H) :
    ∃ W : Nat → Nat → Hp → Prop, (∃ m, W 0 m H0) ∧ ∀ i m H, W i m H →
      (J.stop i H ∧ Qd H) ∨ (J.go i H ∧ ∃ Nx : Hp → Prop, (∀ H', Nx H' → ∃ m', m' < m ∧ W (i + 1) m' H') ∧ ∀ x H', J.yld i H x H' → Body Nx x H') := by
  refine ⟨fun i m H => m = n - i ∧ i ≤ n ∧ Pv i H, ⟨n, rfl, Nat.zero_le _, h0⟩, fun i m H hw => ?_⟩
  obtain ⟨em, hi, p⟩ := hw
  have q := hG i H hi p
  by_cases hlt : i < n
  · exact .inr ⟨w.goes i H hlt q, Pv (i + 1), fun H' p' => ⟨n - (i + 1), by omega, rfl, hlt, p'⟩, fun x H' y => hs i x H H' hlt p (w.yields i H x H' hlt q y)⟩
  · have e : i = n := by omega
    subst e
    exact .inl ⟨w.stops H q, hd H p⟩

/-! ### comprehensions whose items are lists: P may know the new list's place -/
theorem tlc2 {wi : TI} {J : It} {n : Nat} {G : Hp → Prop} {Y : Nat → Hp → V → Hp → Prop} {g : TG} {te : TE} {vs : List Nat} {σ : L2.St} {H H1 : Hp} {Q : VK} (hw : ∀ R : It → Hp → Prop, R J H1 → wi σ H R) (w : Walk J n G Y) (hn : n < sizeLine) (P : Addr → Nat → V → Hp → Prop)
    (hE : ∀ D i y H H', i < n → Ex H H' → P D i y H → P D i y H') (hU : ∀ D i y H o o', i < n → H D = some (.lst o) → P D i y H → P D i y (upd H D (.lst o'))) (hG : ∀ H, Ex H1 H → G H) (hY : ∀ i H x H', i < n → Ex H1 H → Y i H x H' → Ex H H')
    (turn : ∀ D i x H H', i < n → Ex H1 H → Ex H1 H' → (∃ o, H' D = some (.lst o)) → Y i H x H' → ∀ Qt : VK, (∀ y H4, Ex H' H4 → P D i y H4 → Qt y H4) → g x (wipe σ vs) H' fun σ2 H2 => wipe σ2 vs = wipe σ vs ∧ te σ2 H2 Qt)
    (done : ∀ D ys H, H1 D = none → Ex H1 H → H D = some (.lst ys) → ys.length = n → (∀ i y, ys[i]? = some y → P D i y H) → Q (.ref D) H) : tLc wi g tYes te vs σ H Q := by
  refine hw _ fun D hD => ?_
  refine lc_it w (fun i H => Ex H1 H ∧ ∃ ys, H D = some (.lst ys) ∧ ys.length = i ∧ ∀ j y, ys[j]? = some y → P D j y H) ⟨Ex.new hD, [], upd_same, rfl, fun j y e => by cases e⟩ (fun i H _ p => hG H p.1) (fun i x H H' hi p y => ?_) (fun H p => ?_)
  · obtain ⟨e1, ys, hys, hl, hp⟩ := p
    have e2 := hY i H x H' hi e1 y
    refine turn D i x H H' hi e1 (e1.trans e2) ⟨ys, e2 _ _ hys⟩ y _ fun z H4 e4 pz => ?_
    have hD4 : H4 D = some (.lst ys) := e4 _ _ (e2 _ _ hys)
    refine ⟨ys, hD4, by omega, ((e1.trans e2).trans e4).mut hD, ys ++ [z], upd_same, by rw [List.length_append, hl]; rfl, fun j y2 ej => ?_⟩
    by_cases hj : j < i
    · rw [List.getElem?_append_left (by omega)] at ej
      exact hU D j y2 _ _ _ (by omega) hD4 (hE D j y2 _ _ (by omega) (e2.trans e4) (hp j y2 ej))
    · have hji : j = i := by
        have := (List.getElem?_eq_some_iff.mp ej).1
        rw [List.length_append, hl] at this
        have h1 : [z].length = 1 := rfl
        omega
      subst hji
      rw [← hl, List.getElem?_append_right (Nat.le_refl _), Nat.sub_self] at ej
      have ez : z = y2 := Option.some.inj ej
      rw [← ez]
      exact hU D j z _ _ _ hi hD4 pz
  · obtain ⟨e1, ys, hys, hl, hp⟩ := p
    exact done D ys H hD e1 hys hl hp
/-! ### comprehensions with a test, scalars out -/
theorem tlcf {wi : TI} {J : It} {n : Nat} {G : Hp → Prop} {Y : Nat → Hp → V → Hp → Prop} {g : TG} {tt : TT} {te : TE} {vs : List Nat} {σ : L2.St} {H H1 : Hp} {Q : VK} (hw : ∀ R : It → Hp → Prop, R J H1 → wi σ H R) (w : Walk J n G Y) (hn : n < sizeLine) (o : Nat → Option V)
    (hG : ∀ H, Ex H1 H → G H) (hY : ∀ i H x H', i < n → Ex H1 H → Y i H x H' → Ex H H')
    (turn : ∀ i x H H', i < n → Ex H1 H → Ex H1 H' → Y i H x H' → ∀ (Qy : VK) (Qn : Hp → Prop), (∀ v, o i = some v → ∀ H4, Ex H' H4 → Qy v H4) → (o i = none → ∀ H4, Ex H' H4 → Qn H4) →
      g x (wipe σ vs) H' fun σ2 H2 => wipe σ2 vs = wipe σ vs ∧ tt σ2 H2 fun b H3 => if b = true then te σ2 H3 Qy else Qn H3)
    (done : ∀ D H, H1 D = none → Ex H1 H → H D = some (.lst ((List.range n).filterMap o)) → Q (.ref D) H) : tLc wi g tt te vs σ H Q := by
  refine hw _ fun D hD => ?_
  refine lc_it w (fun i H => Ex H1 H ∧ H D = some (.lst ((List.range i).filterMap o))) ⟨Ex.new hD, upd_same⟩ (fun i H _ p => hG H p.1) (fun i x H H' hi p y => ?_) (fun H p => done D H hD p.1 p.2)
  obtain ⟨e1, hys⟩ := p
  have e2 := hY i H x H' hi e1 y
  refine turn i x H H' hi e1 (e1.trans e2) y _ _ (fun v ev H4 e4 => ?_) fun en H4 e4 => ?_
  · refine ⟨_, e4 _ _ (e2 _ _ hys), ?_, ((e1.trans e2).trans e4).mut hD, ?_⟩
    · have := List.length_filterMap_le o (List.range i)
      rw [List.length_range] at this
      omega
    · rw [List.range_succ, List.filterMap_append, List.filterMap_cons, ev]
      exact upd_same
  · refine ⟨(e1.trans e2).trans e4, ?_⟩
    rw [List.range_succ, List.filterMap_append, List.filterMap_cons, en]
    show H4 D = some (.lst ((List.range i).filterMap o ++ []))
    rw [List.append_nil]
    exact e4 _ _ (e2 _ _ hys)
/-! ### readings by their shape -/
theorem rd_yes {σ : L2.St} {H : Hp} {Q : Bool → Hp → Prop} (h : Q true H) : tYes σ H Q := h
theorem rd_gnx {i : Nat} {v : V} {nx : L2.St → Hp → Prop} {rt : VK} {bk ct : L2.St → Hp → Prop} {σ : L2.St} {H : Hp} (h : nx (σ.set i (some v)) H) : gName i v σ H (Ends.mk nx rt bk ct).nx := h
theorem rd_op {r : R2} {ta tb : TE} {σ : L2.St} {H : Hp} {Q : VK} (h : ta σ H fun x H1 => tb σ H1 fun y H2 => r x y H2 Q) : tOp r ta tb σ H Q := h
theorem rd_or {ta tb : TE} {σ : L2.St} {H : Hp} {Q : VK} (h : ta σ H fun x H1 => ∃ c, x = .bl c ∧ if c = true then Q (.bl true) H1 else tb σ H1 Q) : tOrV ta tb σ H Q := h
theorem rd_cons {ta : TE} {t : TA} {σ : L2.St} {H : Hp} {Q : List V → Hp → Prop} (h : ta σ H fun x H1 => t σ H1 fun xs H2 => Q (x :: xs) H2) : tCons ta t σ H Q := h
end K38
set_option maxHeartbeats 4000000
/-! Walks: what differences hold. -/
namespace K38
open PySem PySem.Spec PyProof.Rows L2 RZ
open Evl (Ex)
/-- the pairs of indexes in turn: i rows whole, j of the next one -/
def prs (n i j : Nat) : List (Nat × Nat) := ((List.range i).flatMap fun a => (List.range n).map fun b => (a, b)) ++ (List.range j).map fun b => (i, b)
theorem prs_next (n i j : Nat) : prs n i (j + 1) = prs n i j ++ [(i, j)] := by
  unfold prs
  rw [List.range_succ, List.map_append, List.append_assoc]
  rfl
theorem prs_row (n i : Nat) : prs n i n = prs n (i + 1) 0 := by
  unfold prs
  rw [List.range_succ, List.flatMap_append]
  simp
theorem prs_lt {n i j : Nat} {p : Nat × Nat} (hj : j ≤ n) (h : p ∈ prs n i j) : p.1 ≤ i ∧ p.2 < n ∧ (j = 0 → p.1 < i) := by
  unfold prs at h
  rcases List.mem_append.mp h with h | h
  · obtain ⟨a, ha, hb⟩ := List.mem_flatMap.mp h
    obtain ⟨b, hb, e⟩ := List.mem_map.mp hb
    have h1 := List.mem_range.mp ha
    have h2 := List.mem_range.mp hb
    subst e
    exact ⟨by show a ≤ i; omega, h2, fun _ => h1⟩
  · obtain ⟨b, hb, e⟩ := List.mem_map.mp h
    have h2 := List.mem_range.mp hb
    subst e
    exact ⟨Nat.le_refl _, by show b < n; omega, fun z => by omega⟩
theorem prs_len (n i j : Nat) (hj : j ≤ n) : (prs n i j).length = n * i + j := by
  unfold prs
  rw [List.length_append, List.length_map, List.length_range]
  congr 1
  induction i with
  | zero => rfl
  | succ i ih => rw [List.range_succ, List.flatMap_append, List.length_append, ih]; simp [Nat.mul_succ]
theorem prs_holdB (n : Nat) (f : Mx) (v : Nat → Int) : ((prs n n 0).map fun p => inB (v p.1 - v p.2) (f p.1 p.2)).all id = holdB n f v := by
  unfold prs holdB
  rw [show (List.range 0).map (fun b => ((n, b) : Nat × Nat)) = [] from rfl, List.append_nil, List.all_map, List.all_flatMap]
  congr 1
  funext a
  rw [List.all_map]
  congr 1
section
variable {P : Program} {w : World} {K : PySem.W.Frag} {mg : Str → Option Value} {base : Heap}
def holdO (n : Nat) (v : Nat → Int) : Option Mx → Bool
  | none => false
  | some f => holdB n f v
def spHoldD : Sp := fun vs H Q _ => ∃ (m : Nat) (v u : V) (o : Option Mx) (ns : List Int), vs = [.int m, v, u] ∧ MatO H v (m + 1) o ∧ Ints H u ns ∧ ns.length = m ∧ m ≤ 20 ∧ ∀ H', Ex H H' → Q (.bl (holdO (m + 1) (vfn ns) o)) H'
theorem vfn_at {ns : List Int} {i : Nat} (h : i < ns.length + 1) : ((.int 0 :: ns.map V.int) : List V)[i]? = some (.int (vfn ns i)) := by
  unfold vfn
  rw [show ((.int 0 :: ns.map V.int) : List V) = (0 :: ns).map V.int from rfl, List.getElem?_map, List.getD_eq_getElem?_getD, List.getElem?_eq_getElem (by rw [List.length_cons]; exact h)]
  rfl
theorem ok_holdDifferences {f : Addr} {fd : FuncData} (F : FnP K "hold_differences" sHoldDifferences f fd) (B : Bl mg) (C : Cal P w K mg base 1 "is_within_bound" ["number", "bound"] spWithin) : FnOk P w K mg base CX0 2 f fd ["many", "one", "values"] spHoldD := by
  refine F.ok scHoldDifferences (fun vs H Q E h => ?_) (fun cdv A outer s H vs Q E hr h => ?_)
  · obtain ⟨m, v, u, o, ns, rfl, _⟩ := h
    rfl
  · obtain ⟨m, v, u, o, ns, rfl, hv, hu, hl, hm, q⟩ := h
    refine ⟨_, PSs.nox (pss_cons (ps_if (pt_cmpR op_isN (pv 1) pe_non (nomark _)) (pss_one (ps_ret pe_bl)) pss_nil)
      (pss_cons (ps_set (i := 3) scHoldDifferences.nd rfl (.inr rfl) (pe_op op_catA (pe_tup (pa_cons pe_int pa_nil)) (pv 2)))
      (pss_cons (ps_setLc2 (i := 4) (own := [("i", 5), ("j", 6)]) (vs1 := [6]) (g := gName 5) (tt := tYes) (g1 := gName 6) (tt1 := tYes) rfl scHoldDifferences.nd rfl rfl (sw_true rfl rfl rfl (by decide +kernel))
          (pi_range1 (by rfl) B.range (pa_cons (pe_op op_add (pv 0) pe_int) pa_nil)) (blkOk_by (N := nHoldDifferences) (sc := defScope sHoldDifferences) (by decide +kernel)) (by decide)
          (fun _ _ _ _ _ => pg_name (i := 5) scHoldDifferences.nd rfl (.inl rfl)) (fun _ _ _ _ _ => pts_nil)
          (fun _ _ _ _ _ => pi_range1 (by rfl) B.range (pa_cons (pe_op op_add (pv 0) pe_int) pa_nil)) (fun _ _ _ _ _ => pg_name (i := 6) scHoldDifferences.nd rfl (.inl rfl)) (fun _ _ _ _ _ => pts_nil)
          (fun _ _ _ _ _ => pe_tup (pa_cons (pv 5) (pa_cons (pv 6) pa_nil))))
      (pss_one (ps_ret (pe_callB (cr_all rfl) (by rfl) B.all bt_all (pa_cons (pe_lc (own := [("i", 5), ("j", 6)]) (g := gTup K 2 (gCons (gName 5) (gCons (gName 6) gNil))) (tt := tYes) rfl scHoldDifferences.nd (pi_list (pv 4)) (blkOk_by (N := nHoldDifferences) (sc := defScope sHoldDifferences) (by decide +kernel))
          (fun _ _ _ _ _ => pg_tup rfl (pgs_cons (pg_name (i := 5) scHoldDifferences.nd rfl (.inl rfl)) (pgs_cons (pg_name (i := 6) scHoldDifferences.nd rfl (.inl rfl)) pgs_nil))) (fun _ _ _ _ _ => pts_nil)
          (fun _ _ _ _ _ => pe_fn C hr (by decide) (by rfl) (pa_cons (pe_op op_sub (pe_ix (r := rIxT K) ix_tup (pv 3) (pv 5) (fun _ _ => rfl)) (pe_ix (r := rIxT K) ix_tup (pv 3) (pv 6) (fun _ _ => rfl)))
            (pa_cons (pe_ix (r := rIxT K) ix_tup (pe_ix (r := rIxT K) ix_tup (pv 1) (pv 5) (fun _ _ => rfl)) (pv 6) (fun _ _ => rfl)) pa_nil)))) pa_nil))))))), ?_⟩
    cases o with
    | none =>
      obtain rfl : v = .non := hv
      exact ⟨_, rfl, rfl, true, rfl, q H (Ex.refl H)⟩
    | some f =>
      have hv0 : Mat H v (m + 1) f := hv
      obtain ⟨rs, hrs, hrow⟩ := hv
      have hrs0 := hrs
      obtain ⟨a, rfl, ha⟩ := hrs
      refine rd_seq ?_
      refine ⟨_, rfl, rfl, false, rfl, ?_⟩
      refine iteF (rd_next ?_)
      refine rd_seq ?_
      refine rd_set ?_
      refine rd_op ?_
      refine ⟨by show 1 ≤ sizeLine; decide, fun T hT => ?_⟩
      refine ⟨_, rfl, ?_⟩
      have e1 : Ex H (upd H T (.tup [.int 0])) := Ex.new hT
      refine catA (xs := [.int 0]) (ys := ns.map V.int) ⟨T, rfl, upd_same⟩ (Tup.ex e1 hu) (by rw [List.length_map, hl]; exact Nat.le_of_lt (sz21 (show 1 + m ≤ 21 by omega))) fun H1 full e2 hfull => ?_
      have e12 := e1.trans e2
      refine rd_seq ?_
      show tLc2 _ _ _ _ _ _ _ _ _ _ _ (fun x H1 => gName 4 x _ H1 _)
      have en : ((m : Int) + 1).toNat = m + 1 := by omega
      refine ⟨_, rfl, _, _, rfl, rfl, (m : Int) + 1, rfl, by omega, by omega, ?_⟩
      rw [en]
      intro D hD
      -- D holds the pairs so far
      refine walk_any walk_rng0 (fun i H' => Ex H1 H' ∧ ∃ ys, H' D = some (.lst ys) ∧ ys.length = (prs (m + 1) i 0).length ∧ ∀ (k : Nat) (y : V) (p : Nat × Nat), ys[k]? = some y → (prs (m + 1) i 0)[k]? = some p → Tup H' y [.int p.1, .int p.2])
        ⟨Ex.new hD, [], upd_same, rfl, fun k y p e => by cases e⟩ (fun _ _ _ _ => trivial) (fun i x H2 H3 hi hP hY => ?_) (fun H2 hP => ?_)
      · obtain ⟨rfl, rfl⟩ := hY
        obtain ⟨e3, hys⟩ := hP
        refine ⟨rfl, ?_⟩
        refine rd_yes ?_
        refine iteT ?_
        refine ⟨_, rfl, _, _, rfl, rfl, (m : Int) + 1, rfl, by omega, by omega, ?_⟩
        rw [en]
        refine walk_any walk_rng0 (fun j H' => Ex H1 H' ∧ ∃ ys, H' D = some (.lst ys) ∧ ys.length = (prs (m + 1) i j).length ∧ ∀ (k : Nat) (y : V) (p : Nat × Nat), ys[k]? = some y → (prs (m + 1) i j)[k]? = some p → Tup H' y [.int p.1, .int p.2])
          ⟨e3, hys⟩ (fun _ _ _ _ => trivial) (fun j x H4 H5 hj hP hY => ?_) (fun H4 hP => ?_)
        · obtain ⟨rfl, rfl⟩ := hY
          obtain ⟨e4, ys, hys, hlen, hat⟩ := hP
          refine ⟨rfl, _, rfl, _, rfl, by show 2 ≤ sizeLine; decide, fun p hp => ?_⟩
          have nDp : D ≠ p := ne_of_none hys hp
          have t1 : Tx H5 (upd (upd H5 p (.tup [.int i, .int j])) D (.lst (ys ++ [.ref p]))) := (txN hp).trans (txL (by rw [upd_ne nDp]; exact hys))
          refine ⟨ys, by rw [upd_ne nDp]; exact hys, ?_, (e4.trans (Ex.new hp)).mut hD, ys ++ [.ref p], upd_same, by rw [prs_next, List.length_append, List.length_append, hlen]; rfl, fun k y pp ey ep => ?_⟩
          · rw [hlen, prs_len _ _ _ (by omega)]
            have h1 : (m + 1) * i ≤ 21 * 21 := Nat.mul_le_mul (by omega) (by omega)
            exact Nat.lt_of_lt_of_le (show (m + 1) * i + j < 1000 by omega) (by decide)
          · rw [prs_next] at ep
            by_cases hk : k < ys.length
            · rw [List.getElem?_append_left hk] at ey
              rw [List.getElem?_append_left (by omega)] at ep
              exact (hat k y pp ey ep).tx t1
            · have hk2 : k = ys.length := by
                have := (List.getElem?_eq_some_iff.mp ey).1
                rw [List.length_append] at this
                have h1 : [V.ref p].length = 1 := rfl
                omega
              rw [hk2, List.getElem?_append_right (Nat.le_refl _), Nat.sub_self] at ey
              rw [hk2, hlen, List.getElem?_append_right (Nat.le_refl _), Nat.sub_self] at ep
              cases ey
              cases ep
              exact ⟨p, rfl, by rw [upd_ne nDp.symm]; exact upd_same⟩
        · rw [prs_row] at hP
          exact hP
      · obtain ⟨e3, ys, hys, hlen, hat⟩ := hP
        refine rd_gnx ?_
        refine rd_ret ?_
        refine rd_cb ?_
        refine rd_c1 ?_
        have hlt : ∀ p ∈ prs (m + 1) (m + 1) 0, p.1 < m + 1 ∧ p.2 < m + 1 := fun p hp => ⟨(prs_lt (Nat.zero_le _) hp).2.2 rfl, (prs_lt (Nat.zero_le _) hp).2.1⟩
        have hy1 : ys.length < sizeLine := by
          rw [hlen, prs_len _ _ _ (Nat.zero_le _)]
          have h1 : (m + 1) * (m + 1) ≤ 21 * 21 := Nat.mul_le_mul (by omega) (by omega)
          exact Nat.lt_of_lt_of_le (show (m + 1) * (m + 1) + 0 < 1000 by omega) (by decide)
        refine tlc (fun R r => ⟨_, rfl, D, rfl, ⟨_, SqL.of hys⟩, r⟩) walk_list hy1 (fun k y _ => ∀ p, (prs (m + 1) (m + 1) 0)[k]? = some p → y = .bl (inB (vfn ns p.1 - vfn ns p.2) (f p.1 p.2))) (fun _ _ _ _ _ _ e => e) (fun H e => SqL.of (e _ _ hys)) (fun i H x H' _ _ y => yat_ex y) (fun k x H4 H5 hk e4 e5 y Qt kk => ?_) (fun D2 zs H4 hD2 e4 hz hl2 hP => ?_)
        · obtain ⟨rfl, hx⟩ := y
          obtain ⟨pp, hpp⟩ : ∃ pp, (prs (m + 1) (m + 1) 0)[k]? = some pp := ⟨_, List.getElem?_eq_getElem (by omega)⟩
          obtain ⟨h1, h2⟩ := hlt pp (List.mem_of_getElem? hpp)
          have ht := (hat k x pp hx hpp).ex e5
          obtain ⟨xa, rfl, hxa⟩ := ht
          have eX : Ex H H5 := (e12.trans e3).trans e5
          have hf5 : Tup H5 full (.int 0 :: ns.map V.int) := hfull.ex (e3.trans e5)
          refine ⟨xa, _, rfl, SqT.of hxa, rfl, _, _, rfl, _, _, rfl, rfl, rfl, ?_⟩
          refine rd_cons ?_
          refine rd_op ?_
          refine ⟨_, rfl, _, rfl, ixT hf5 (vfn_at (by omega)) ?_⟩
          refine ⟨_, rfl, _, rfl, ixT hf5 (vfn_at (by omega)) ?_⟩
          refine ⟨_, _, rfl, rfl, ?_⟩
          refine rd_c1 ?_
          refine rd_op ?_
          refine ⟨_, rfl, _, rfl, ixT (hrs0.ex eX) (seqF_get h1) ?_⟩
          refine ⟨_, rfl, ixT ((hrow _ h1).tx (exT eX)) (seqF_get h2) ?_⟩
          refine ⟨_, _, rfl, kk _ _ (Ex.refl _) fun p hp => ?_⟩
          rw [hpp] at hp
          cases hp
          rfl
        · have eb : zs = ((prs (m + 1) (m + 1) 0).map fun p => inB (vfn ns p.1 - vfn ns p.2) (f p.1 p.2)).map V.bl := by
            refine List.ext_getElem? fun k => ?_
            rw [List.map_map, List.getElem?_map]
            by_cases hk : k < zs.length
            · obtain ⟨pp, hpp⟩ : ∃ pp, (prs (m + 1) (m + 1) 0)[k]? = some pp := ⟨_, List.getElem?_eq_getElem (by omega)⟩
              have ez : zs[k]? = some zs[k] := List.getElem?_eq_getElem hk
              rw [ez, hpp, hP k _ ez pp hpp]
              rfl
            · rw [List.getElem?_eq_none (by omega), List.getElem?_eq_none (by omega)]
              rfl
          refine ⟨D2, _, rfl, SqL.of (eb ▸ hz), ?_⟩
          rw [prs_holdB]
          exact q H4 ((e12.trans e3).trans e4)
theorem cal_holdDifferences {f : Addr} {fd : FuncData} (F : FnP K "hold_differences" sHoldDifferences f fd) (B : Bl mg) (C : Cal P w K mg base 1 "is_within_bound" ["number", "bound"] spWithin) (hm : mg "hold_differences" = some (.ref f)) : Cal P w K mg base 2 "hold_differences" ["many", "one", "values"] spHoldD :=
  ⟨f, fd, ok_holdDifferences F B C, hm, F.kp, F.bindsN fun _ _ _ _ _ _ us hl => match us, hl with | [_, _, _], _ => rfl⟩
end
end K38
set_option maxHeartbeats 4000000
/-! Walks: ways. -/
namespace K38
open PySem PySem.Spec PyProof.Rows L2 RZ
open Evl (Ex)
/-- v is a pair of a sum and a way -/
def PairW (H : Hp) (v : V) (p : Bd × List Nat) : Prop := ∃ u, Tup H v [bV p.1, u] ∧ Tup H u (p.2.map fun (x : Nat) => V.int x)
theorem PairW.tx {H H' : Hp} {v : V} {p : Bd × List Nat} (e : Tx H H') (h : PairW H v p) : PairW H' v p := let ⟨u, h1, h2⟩ := h; ⟨u, h1.tx e, h2.tx e⟩
/-- at a a list of such pairs -/
def WRow (H : Hp) (a : Addr) (n : Nat) (g : Nat → Bd × List Nat) : Prop := ∃ ys, H a = some (.lst ys) ∧ ys.length = n ∧ ∀ j y, ys[j]? = some y → PairW H y (g j)
theorem WRow.ex {H H' : Hp} {a : Addr} {n : Nat} {g : Nat → Bd × List Nat} (e : Ex H H') (h : WRow H a n g) : WRow H' a n g :=
  let ⟨ys, h1, h2, h3⟩ := h; ⟨ys, e _ _ h1, h2, fun j y q => (h3 j y q).tx (exT e)⟩
theorem WRow.upd {H : Hp} {a D : Addr} {n : Nat} {g : Nat → Bd × List Nat} {o o' : List V} (hD : H D = some (.lst o)) (hne : a ≠ D) (h : WRow H a n g) : WRow (upd H D (.lst o')) a n g :=
  let ⟨ys, h1, h2, h3⟩ := h; ⟨ys, by rw [upd_ne hne]; exact h1, h2, fun j y q => (h3 j y q).tx (txL hD)⟩
theorem WRow.get {H : Hp} {a : Addr} {n j : Nat} {g : Nat → Bd × List Nat} (h : WRow H a n g) (hj : j < n) : ∃ ys y, H a = some (.lst ys) ∧ ys[j]? = some y ∧ PairW H y (g j) := by
  obtain ⟨ys, h1, h2, h3⟩ := h
  have e : ys[j]? = some ys[j] := List.getElem?_eq_getElem (by omega)
  exact ⟨ys, _, h1, e, h3 j _ e⟩
/-- one row's turn -/
def wturn (g h : Nat → Bd × List Nat) (k : Nat) : Nat → Bd × List Nat := fun j =>
  if leB (g j).1 (pl (g k).1 (h j).1) = true then g j else (pl (g k).1 (h j).1, (g k).2 ++ (h j).2)
section
variable {P : Program} {w : World} {K : PySem.W.Frag} {mg : Str → Option Value} {base : Heap}
def spWalkThrough : Sp := fun vs H Q _ => ∃ (n k L : Nat) (a b : Addr) (g h : Nat → Bd × List Nat), vs = [.ref a, .ref b, .int k] ∧ WRow H a n g ∧ WRow H b n h ∧ k < n ∧ n ≤ 21 ∧ (∀ j, j < n → (g j).2.length ≤ L ∧ (h j).2.length ≤ L) ∧ L + L ≤ sizeLine ∧
  ∀ H' p, H p = none → Ex H H' → WRow H' p n (wturn g h k) → Q (.ref p) H'
theorem ok_walkThrough {f : Addr} {fd : FuncData} (F : FnP K "walk_through" sWalkThrough f fd) (B : Bl mg) (CP : Cal P w K mg base 1 "plus" ["bound", "other"] spPlus) (CH : Cal P w K mg base 1 "is_high_within" ["high", "other"] spHigh) :
    FnOk P w K mg base CX0 2 f fd ["walk", "others", "by"] spWalkThrough := by
  refine F.ok scWalkThrough (fun vs H Q E h => ?_) (fun cdv A outer s H vs Q E hr h => ?_)
  · obtain ⟨n, k, L, a, b, g, h, rfl, _⟩ := h
    rfl
  · obtain ⟨n, k, L, a, b, g, h, rfl, hg, hh, hk, hn, hL, hLs, q⟩ := h
    have nd := scWalkThrough.nd
    refine ⟨_, PSs.nox (pss_cons (ps_asg (pe_ix (r := rIxL K) ix_list (pv 0) (pv 2) (fun _ _ => rfl)) (pg_tup rfl (pgs_cons (pg_name (i := 3) nd rfl (.inl rfl)) (pgs_cons (pg_name (i := 4) nd rfl (.inl rfl)) pgs_nil))))
      (pss_cons (ps_set (i := 5) nd rfl (.inl rfl) (pe_lst pa_nil))
      (pss_cons (ps_for PassesOwn.never rfl (pi_zipA (by rfl) B.zip (pa_cons (pv 0) (pa_cons (pv 1) pa_nil)))
          (pg_tup rfl (pgs_cons (pg_tup rfl (pgs_cons (pg_name (i := 6) nd rfl (.inl rfl)) (pgs_cons (pg_name (i := 7) nd rfl (.inl rfl)) pgs_nil)))
            (pgs_cons (pg_tup rfl (pgs_cons (pg_name (i := 8) nd rfl (.inl rfl)) (pgs_cons (pg_name (i := 9) nd rfl (.inl rfl)) pgs_nil))) pgs_nil)))
          (pss_cons (ps_set (i := 10) nd rfl (.inl rfl) (pe_fn CP hr (by decide) (by rfl) (pa_cons (pv 3) (pa_cons (pv 8) pa_nil))))
          (pss_one (ps_expr (pe_bm PySem.F.plainAttrs_list PySem.F.slot_list_append PySem.F.type_list_append mt_append (pv 5)
            (pa_cons (pe_ifExp (pt_val (pe_fn CH hr (by decide) (by rfl) (pa_cons (pv 6) (pa_cons (pv 10) pa_nil)))) (pe_tup (pa_cons (pv 6) (pa_cons (pv 7) pa_nil)))
              (pe_tup (pa_cons (pv 10) (pa_cons (pe_op (r := rCatA K) op_catA (pv 4) (pv 9)) pa_nil)))) pa_nil))))))
      (pss_one (ps_ret (pv 5)))))), ?_⟩
    obtain ⟨gs, gy, hgs, hgy, hgp⟩ := hg.get hk
    obtain ⟨u4, hgy1, hgy2⟩ := hgp
    have hgy10 := hgy1
    obtain ⟨T1, rfl, hT1⟩ := hgy10
    refine rd_seq ?_
    refine rd_asg ?_
    refine rd_op ?_
    refine ⟨_, rfl, _, rfl, ixL hgs hgy ?_⟩
    refine ⟨T1, _, rfl, SqT.of hT1, rfl, _, _, rfl, _, _, rfl, rfl, ?_⟩
    refine rd_seq ?_
    refine rd_set ?_
    refine ⟨Nat.zero_le _, fun l hl => ?_⟩
    refine rd_seq ?_
    have e1 : Ex H (upd H l (.lst [])) := Ex.new hl
    obtain ⟨xs, hxs, hxl, hxp⟩ := hg
    obtain ⟨zs, hzs, hzl, hzp⟩ := hh
    refine tfor (J := Itz K a b) (H1 := upd H l (.lst [])) (fun R r => ⟨_, rfl, _, rfl, a, b, xs, zs, rfl, .inl ⟨SqL.of (e1 _ _ hxs), SqL.of (e1 _ _ hzs), r⟩⟩) (walk_zip (xs := xs) (ys := zs) (n := n) (by omega))
      (fun i σ H' => ∃ y6 y7 y8 y9 y10, σ = [some (.ref a), some (.ref b), some (.int k), some (bV (g k).1), some u4, some (.ref l), y6, y7, y8, y9, y10] ∧ Ex H H' ∧ ∃ ys, H' l = some (.lst ys) ∧ ys.length = i ∧ ∀ j y, ys[j]? = some y → PairW H' y (wturn g h k j))
      ⟨none, none, none, none, none, rfl, e1, [], upd_same, rfl, fun j y e => by cases e⟩ (fun i σ H' _ hP => by
        obtain ⟨_, _, _, _, _, _, e, _⟩ := hP
        exact ⟨SqL.of (e _ _ hxs), SqL.of (e _ _ hzs)⟩) (fun i x σ H2 H3 hi hP hY => ?_) (fun σ H2 hP => ?_)
    · obtain ⟨y6, y7, y8, y9, y10, rfl, e2, ys, hys, hyl, hyp⟩ := hP
      obtain ⟨T, x1, x2, rfl, nT, rfl, h1, h2⟩ := hY
      obtain ⟨w1, hw1, hw2⟩ := (hxp i x1 h1).tx (exT e2)
      obtain ⟨w2, hv1, hv2⟩ := (hzp i x2 h2).tx (exT e2)
      have tT : Tx H2 (upd H2 T (.tup [x1, x2])) := txN nT
      have hw10 := hw1
      have hv10 := hv1
      obtain ⟨A1, rfl, hA1⟩ := hw10
      obtain ⟨A2, rfl, hA2⟩ := hv10
      have nlT : l ≠ T := ne_of_none hys nT
      refine ⟨T, _, rfl, SqT.of upd_same, rfl, _, _, rfl, ⟨A1, _, rfl, SqT.of (tT _ _ hA1), rfl, _, _, rfl, _, _, rfl, rfl, _, _, rfl, ⟨A2, _, rfl, SqT.of (tT _ _ hA2), rfl, _, _, rfl, _, _, rfl, rfl, rfl, ?_⟩⟩⟩
      refine rd_seq ?_
      refine rd_set ?_
      refine ⟨_, rfl, _, rfl, (g k).1, (h i).1, rfl, ?_⟩
      refine rd_drop ?_
      have hl3 : (upd H2 T (.tup [.ref A1, .ref A2])) l = some (.lst ys) := by rw [upd_ne nlT]; exact hys
      refine ⟨_, rfl, .inl ⟨rfl, _, SqL.of hl3⟩, ?_⟩
      refine rd_c1 ?_
      refine rd_if ?_
      refine rd_b ?_
      refine ⟨_, rfl, _, rfl, (g i).1, pl (g k).1 (h i).1, rfl, leB (g i).1 (pl (g k).1 (h i).1), rfl, ?_⟩
      have sm : ys.length < sizeLine := by rw [hyl]; exact sz21 (by omega)
      -- what is appended, by either way
      have fin : ∀ (H4 : Hp) (r : V), Ex (upd H2 T (.tup [.ref A1, .ref A2])) H4 → PairW H4 r (wturn g h k i) → ∀ σ' : L2.St, (∃ y6 y7 y8 y9 y10, σ' = [some (.ref a), some (.ref b), some (.int k), some (bV (g k).1), some u4, some (.ref l), y6, y7, y8, y9, y10]) →
          ∃ y6 y7 y8 y9 y10, σ' = [some (.ref a), some (.ref b), some (.int k), some (bV (g k).1), some u4, some (.ref l), y6, y7, y8, y9, y10] ∧ Ex H (upd H4 l (.lst (ys ++ [r]))) ∧ ∃ ys', (upd H4 l (.lst (ys ++ [r]))) l = some (.lst ys') ∧ ys'.length = i + 1 ∧ ∀ j y, ys'[j]? = some y → PairW (upd H4 l (.lst (ys ++ [r]))) y (wturn g h k j) := by
        intro H4 r e4 hr σ' ⟨z6, z7, z8, z9, z10, es⟩
        have hl4 := e4 _ _ hl3
        refine ⟨z6, z7, z8, z9, z10, es, ((e2.trans (Ex.new nT)).trans e4).mut hl, ys ++ [r], upd_same, by rw [List.length_append, hyl]; rfl, fun j y ej => ?_⟩
        by_cases hj : j < ys.length
        · rw [List.getElem?_append_left hj] at ej
          exact (hyp j y ej).tx ((tT.trans (exT e4)).trans (txL hl4))
        · have hj2 : j = ys.length := by
            have := (List.getElem?_eq_some_iff.mp ej).1
            rw [List.length_append] at this
            have h1 : [r].length = 1 := rfl
            omega
          rw [hj2, List.getElem?_append_right (Nat.le_refl _), Nat.sub_self] at ej
          cases ej
          rw [hj2, hyl]
          exact hr.tx (txL hl4)
      cases eb : leB (g i).1 (pl (g k).1 (h i).1) with
      | true =>
        have ew : wturn g h k i = g i := by unfold wturn; rw [if_pos eb]
        refine iteT ?_
        refine ⟨_, rfl, _, rfl, by show 2 ≤ sizeLine; decide, fun p hp => ?_⟩
        refine ⟨l, ys, .ref p, rfl, rfl, by rw [upd_ne (ne_of_none hl3 hp)]; exact hl3, sm, ?_⟩
        refine fin _ _ (Ex.new hp) ?_ _ ⟨_, _, _, _, _, rfl⟩
        rw [ew]
        exact ⟨w1, ⟨p, rfl, upd_same⟩, (hw2.tx tT).tx (txN hp)⟩
      | false =>
        have ew : wturn g h k i = (pl (g k).1 (h i).1, (g k).2 ++ (h i).2) := by unfold wturn; rw [if_neg (by rw [eb]; decide)]
        refine iteF ?_
        refine ⟨_, rfl, ?_⟩
        refine rd_c1 ?_
        refine rd_op ?_
        refine ⟨_, rfl, _, rfl, catA ((hgy2.ex e2).tx tT) (hv2.tx tT) (by rw [List.length_map, List.length_map]; have := hL i (by omega); have := hL k hk; omega) fun H4 r e4 hr4 => ?_⟩
        refine ⟨by show 2 ≤ sizeLine; decide, fun p hp => ?_⟩
        have hl4 := e4 _ _ hl3
        refine ⟨l, ys, .ref p, rfl, rfl, by rw [upd_ne (ne_of_none hl4 hp)]; exact hl4, sm, ?_⟩
        refine fin _ _ (e4.trans (Ex.new hp)) ?_ _ ⟨_, _, _, _, _, rfl⟩
        rw [ew]
        refine ⟨r, ⟨p, rfl, upd_same⟩, ?_⟩
        rw [List.map_append]
        exact hr4.tx (txN hp)
    · obtain ⟨y6, y7, y8, y9, y10, rfl, e2, ys, hys, hyl, hyp⟩ := hP
      exact ⟨_, rfl, q H2 l hl e2 ⟨ys, hys, hyl, hyp⟩⟩
theorem cal_walkThrough {f : Addr} {fd : FuncData} (F : FnP K "walk_through" sWalkThrough f fd) (B : Bl mg) (CP : Cal P w K mg base 1 "plus" ["bound", "other"] spPlus) (CH : Cal P w K mg base 1 "is_high_within" ["high", "other"] spHigh) (hm : mg "walk_through" = some (.ref f)) :
    Cal P w K mg base 2 "walk_through" ["walk", "others", "by"] spWalkThrough :=
  ⟨f, fd, ok_walkThrough F B CP CH, hm, F.kp, F.bindsN fun _ _ _ _ _ _ us hl => match us, hl with | [_, _, _], _ => rfl⟩
end
end K38
set_option maxHeartbeats 4000000
/-! Walks: rings. -/
namespace K38
open PySem PySem.Spec PyProof.Rows L2 RZ
open Evl (Ex)
/-- what a comprehension asks of the walk that has come -/
def LcTail (g : TG) (te : TE) (vs : List Nat) (σ : L2.St) (Q : VK) (J : It) (H1 : Hp) : Prop := ∀ D, H1 D = none → ∃ W : Nat → Nat → Hp → Prop, (∃ m, W 0 m (upd H1 D (.lst []))) ∧ ∀ i m H, W i m H →
  (J.stop i H ∧ Q (.ref D) H) ∨ (J.go i H ∧ ∃ Nx : Hp → Prop, (∀ H', Nx H' → ∃ m', m' < m ∧ W (i + 1) m' H') ∧ ∀ x H', J.yld i H x H' → g x (wipe σ vs) H' fun σ2 H2 => wipe σ2 vs = wipe σ vs ∧ tYes σ2 H2 fun b H3 =>
    if b = true then te σ2 H3 fun y H4 => ∃ acc, H4 D = some (.lst acc) ∧ acc.length < sizeLine ∧ Nx (upd H4 D (.lst (acc ++ [y]))) else Nx H3)
theorem rd_lc {wi : TI} {g : TG} {te : TE} {vs : List Nat} {σ : L2.St} {H : Hp} {Q : VK} (h : wi σ H (LcTail g te vs σ Q)) : tLc wi g tYes te vs σ H Q := h
theorem tail_lc {J : It} {n : Nat} {G : Hp → Prop} {Y : Nat → Hp → V → Hp → Prop} {g : TG} {te : TE} {vs : List Nat} {σ : L2.St} {H1 : Hp} {Q : VK} (w : Walk J n G Y) (hn : n < sizeLine) (P : Nat → V → Hp → Prop)
    (hP : ∀ i y H H', i < n → Tx H H' → P i y H → P i y H') (hG : ∀ H, Ex H1 H → G H) (hY : ∀ i H x H', i < n → Ex H1 H → Y i H x H' → Ex H H')
    (turn : ∀ i x H H', i < n → Ex H1 H → Ex H1 H' → Y i H x H' → ∀ Qt : VK, (∀ y H4, Ex H' H4 → P i y H4 → Qt y H4) → g x (wipe σ vs) H' fun σ2 H2 => wipe σ2 vs = wipe σ vs ∧ te σ2 H2 Qt)
    (done : ∀ D ys H, H1 D = none → Ex H1 H → H D = some (.lst ys) → ys.length = n → (∀ i y, ys[i]? = some y → P i y H) → Q (.ref D) H) : LcTail g te vs σ Q J H1 :=
  lc_map w hn P hP hG hY turn done
/-- ints that are indexes, as values -/
def nV (l : List Nat) : List V := l.map fun (x : Nat) => V.int (x : Int)
theorem nV_nil : nV [] = [] := rfl
theorem nV_len (l : List Nat) : (nV l).length = l.length := by unfold nV; rw [List.length_map]
theorem nV_get {l : List Nat} {i x : Nat} (h : l[i]? = some x) : (nV l)[i]? = some (.int x) := by unfold nV; rw [List.getElem?_map, h]; rfl
theorem nV_at {l : List Nat} {i : Nat} {v : V} (h : (nV l)[i]? = some v) : ∃ x, l[i]? = some x ∧ v = .int (x : Int) := by
  unfold nV at h
  rw [List.getElem?_map] at h
  obtain ⟨x, e1, e2⟩ := Option.map_eq_some_iff.mp h
  exact ⟨x, e1, e2.symm⟩
theorem nV_app (a b : List Nat) : nV (a ++ b) = nV a ++ nV b := List.map_append
theorem nV_drop (l : List Nat) (k : Nat) : (nV l).drop k = nV (l.drop k) := List.map_drop.symm
theorem nV_take (l : List Nat) (k : Nat) : (nV l).take k = nV (l.take k) := List.map_take.symm
theorem nV_map (l : List Nat) : nV l = (l.map fun (x : Nat) => (x : Int)).map V.int := by unfold nV; rw [List.map_map]; rfl
theorem cutD (l : List Nat) (k : Nat) : cutV (nV l) (some (k : Int)) none = nV (l.drop k) := by rw [cutDrop, nV_drop]
theorem cutT (l : List Nat) (k : Nat) : cutV (nV l) none (some (k : Int)) = nV (l.take k) := by rw [cutTake, nV_take]
theorem inV_nat (x : Nat) (l : List Nat) : inV (.int x) (nV l) = decide (x ∈ l) := by
  rw [nV_map, inV_int]
  by_cases h : x ∈ l
  · rw [decide_eq_true h, decide_eq_true (List.mem_map.mpr ⟨x, h, rfl⟩)]
  · rw [decide_eq_false h, decide_eq_false fun q => by
      obtain ⟨y, hy, e⟩ := List.mem_map.mp q
      exact h ((Int.natCast_inj.mp e) ▸ hy)]
section
variable {P : Program} {w : World} {K : PySem.W.Frag} {mg : Str → Option Value} {base : Heap}
/-! ### sum_round -/
def spSumRound : Sp := fun vs H Q _ => ∃ (n : Nat) (v : V) (f : Mx) (a : Addr) (l : List Nat), vs = [v, .ref a] ∧ Mat H v n f ∧ H a = some (.lst (nV l)) ∧ l.length ≤ 21 ∧ (∀ x ∈ l, x < n) ∧ (∀ p ∈ around l, f p.1 p.2 ≠ none) ∧ ∀ H', Ex H H' → Q (.int (rsum f l)) H'
theorem ok_sumRound {f : Addr} {fd : FuncData} (F : FnP K "sum_round" sSumRound f fd) (B : Bl mg) : FnOk P w K mg base CX0 1 f fd ["one", "ring"] spSumRound := by
  refine F.ok scSumRound (fun vs H Q E h => ?_) (fun cdv A outer s H vs Q E hr h => ?_)
  · obtain ⟨n, v, f, a, l, rfl, _⟩ := h
    rfl
  · obtain ⟨n, v, f, a, l, rfl, hv, ha, hl, hlt, hso, q⟩ := h
    have nd := scSumRound.nd
    refine ⟨_, PSs.nox (pss_one (ps_ret (pe_callB (cr_sum rfl) (by rfl) B.sum bt_sum (pa_cons (pe_lc (own := [("i", 2), ("j", 3)]) (g := gTup K 2 (gCons (gName 2) (gCons (gName 3) gNil))) (tt := tYes) rfl nd
        (pi_zipA (by rfl) B.zip (pa_cons (pv 1) (pa_cons (pe_op op_cat (pe_slice sl_list (pv 1) (po_some pe_int) po_none) (pe_slice sl_list (pv 1) po_none (po_some pe_int))) pa_nil))) (blkOk_by (N := nSumRound) (sc := defScope sSumRound) (by decide +kernel))
        (fun _ _ _ _ _ => pg_tup rfl (pgs_cons (pg_name (i := 2) nd rfl (.inl rfl)) (pgs_cons (pg_name (i := 3) nd rfl (.inl rfl)) pgs_nil))) (fun _ _ _ _ _ => pts_nil)
        (fun _ _ _ _ _ => pe_ix (r := rIxT K) ix_tup (pe_ix (r := rIxT K) ix_tup (pv 0) (pv 2) (fun _ _ => rfl)) (pv 3) (fun _ _ => rfl))) pa_nil)))), ?_⟩
    obtain ⟨rs, hrs, hrow⟩ := hv
    refine rd_ret ?_
    refine rd_cb ?_
    refine rd_c1 ?_
    refine rd_lc ?_
    refine ⟨_, rfl, ?_⟩
    refine rd_c1 ?_
    refine rd_op ?_
    refine ⟨_, rfl, 1, rfl, a, nV l, rfl, SqL.of ha, fun p1 hp1 => ?_⟩
    have n1 : a ≠ p1 := ne_of_none ha hp1
    refine ⟨_, rfl, 1, rfl, a, nV l, rfl, SqL.of (by rw [upd_ne n1]; exact ha), fun p2 hp2 => ?_⟩
    have n12 : p1 ≠ p2 := fun e => by rw [← e, upd_same] at hp2; cases hp2
    rw [show (1 : Int) = ((1 : Nat) : Int) from rfl, cutD, cutT] at *
    refine ⟨p1, p2, nV (l.drop 1), nV (l.take 1), rfl, rfl, by rw [upd_ne n12]; exact upd_same, upd_same, by rw [nV_len, nV_len, List.length_drop, List.length_take]; exact Nat.le_of_lt (sz21 (by omega)), fun p3 hp3 => ?_⟩
    rw [← nV_app]
    have e1 : Ex H (upd H p1 (.lst (nV (l.drop 1)))) := Ex.new hp1
    have e2 := e1.trans (Ex.new (o := .lst (nV (l.take 1))) hp2)
    have e3 := e2.trans (Ex.new (o := .lst (nV (l.drop 1 ++ l.take 1))) hp3)
    refine ⟨a, p3, nV l, nV (l.drop 1 ++ l.take 1), rfl, .inl ⟨SqL.of (e3 _ _ ha), SqL.of upd_same, ?_⟩⟩
    have hlen : (l.drop 1 ++ l.take 1).length = l.length := by rw [List.length_append, List.length_drop, List.length_take]; omega
    have hp3' : ∀ H', Ex (upd (upd (upd H p1 (.lst (nV (l.drop 1)))) p2 (.lst (nV (l.take 1)))) p3 (.lst (nV (l.drop 1 ++ l.take 1)))) H' → H' p3 = some (.lst (nV (l.drop 1 ++ l.take 1))) := fun H' e => e _ _ upd_same
    refine tail_lc (walk_zip (xs := nV l) (ys := nV (l.drop 1 ++ l.take 1)) (n := l.length) (by rw [nV_len, nV_len, hlen]; omega)) (sz21 hl) (fun k y _ => ∀ p, (around l)[k]? = some p → y = .int ((f p.1 p.2).getD 0)) (fun _ _ _ _ _ _ e => e)
      (fun H' e => ⟨SqL.of (e _ _ (e3 _ _ ha)), SqL.of (hp3' H' e)⟩) (fun i H x H' _ _ y => ypair_ex y) (fun k x H4 H5 hk e4 e5 y Qt kk => ?_) (fun D ys H4 hD e4 hz hl2 hP => ?_)
    · obtain ⟨T, x1, x2, rfl, nT, rfl, h1, h2⟩ := y
      obtain ⟨a1, ha1, rfl⟩ := nV_at h1
      obtain ⟨a2, ha2, rfl⟩ := nV_at h2
      have hp : (around l)[k]? = some (a1, a2) := by
        unfold around
        rw [List.getElem?_zip_eq_some]
        exact ⟨ha1, ha2⟩
      have hmem := List.mem_of_getElem? hp
      have hm2 := around_mem hmem
      have l1 : a1 < n := hlt _ hm2.1
      have l2 : a2 < n := hlt _ hm2.2
      have eX := e3.trans e5
      refine ⟨T, _, rfl, SqT.of upd_same, rfl, _, _, rfl, _, _, rfl, rfl, rfl, ?_⟩
      refine rd_op ?_
      refine ⟨_, rfl, _, rfl, ixT (hrs.ex eX) (seqF_get l1) ?_⟩
      refine ⟨_, rfl, ixT ((hrow a1 l1).tx (exT eX)) (seqF_get l2) ?_⟩
      refine kk _ _ (Ex.refl _) fun p ep => ?_
      rw [hp] at ep
      cases ep
      cases ef : f a1 a2 with
      | none => exact absurd ef (hso _ hmem)
      | some z => rfl
    · have har : (around l).length = l.length := by unfold around; rw [List.length_zip, hlen]; omega
      have ey : ys = ((around l).map fun p => (f p.1 p.2).getD 0).map V.int := by
        refine List.ext_getElem? fun k => ?_
        rw [List.map_map, List.getElem?_map]
        by_cases hk : k < ys.length
        · obtain ⟨pp, hpp⟩ : ∃ pp, (around l)[k]? = some pp := ⟨_, List.getElem?_eq_getElem (by omega)⟩
          have ez : ys[k]? = some ys[k] := List.getElem?_eq_getElem hk
          rw [ez, hpp, hP k _ ez pp hpp]
          rfl
        · rw [List.getElem?_eq_none (by omega), List.getElem?_eq_none (by omega)]
          rfl
      exact ⟨D, _, rfl, SqL.of (ey ▸ hz), q H4 (e3.trans e4)⟩
theorem cal_sumRound {f : Addr} {fd : FuncData} (F : FnP K "sum_round" sSumRound f fd) (B : Bl mg) (hm : mg "sum_round" = some (.ref f)) : Cal P w K mg base 1 "sum_round" ["one", "ring"] spSumRound :=
  ⟨f, fd, ok_sumRound F B, hm, F.kp, F.bindsN fun _ _ _ _ _ _ us hl => match us, hl with | [_, _], _ => rfl⟩
/-! ### ring_on -/
def spRingOn : Sp := fun vs H Q _ => ∃ (n : Nat) (v : V) (f : Mx) (a : Addr) (wy : List Nat) (s : Nat), vs = [v, .ref a] ∧ Mat H v n f ∧ n ≤ 21 ∧ H a = some (.tup (nV wy)) ∧ Rg n f s [] wy ∧ ∀ H' r, Ex H H' → Tup H' r (nV (ringGo f [] wy)) → Q r H'
theorem ok_ringOn {f : Addr} {fd : FuncData} (F : FnP K "ring_on" sRingOn f fd) (B : Bl mg) (C : Cal P w K mg base 1 "sum_round" ["one", "ring"] spSumRound) : FnOk P w K mg base CX0 2 f fd ["one", "way"] spRingOn := by
  refine F.ok scRingOn (fun vs H Q E h => ?_) (fun cdv A outer s H vs Q E hr h => ?_)
  · obtain ⟨n, v, f, a, l, s, rfl, _⟩ := h
    rfl
  · obtain ⟨n, v, f, a, wy, st, rfl, hv, hn, ha, hR, q⟩ := h
    have nd := scRingOn.nd
    refine ⟨_, PSs.nox (pss_cons (ps_set (i := 2) nd rfl (.inl rfl) (pe_lst pa_nil))
      (pss_cons (ps_for PassesOwn.never rfl (pi_tup (pv 1)) (pg_name (i := 3) nd rfl (.inl rfl))
        (pss_cons (ps_if (pt_cmpR op_in_seq (pv 3) (pv 2) (by rfl))
          (pss_cons (ps_set (i := 4) nd rfl (.inl rfl) (pe_bm PySem.F.plainAttrs_list PySem.F.slot_list_index PySem.F.type_list_index mt_index (pv 2) (pa_cons (pv 3) pa_nil)))
          (pss_cons (ps_if (pt_cmpR op_lt (pe_fn C hr (by decide) (by rfl) (pa_cons (pv 0) (pa_cons (pe_slice sl_list (pv 2) (po_some (pv 4)) po_none) pa_nil))) pe_int (nomark _))
            (pss_one (ps_ret (pe_callTy call_tuple_of (by rfl) B.tuple bt_tuple (pa_cons (pe_slice sl_list (pv 2) (po_some (pv 4)) po_none) pa_nil)))) pss_nil)
          (pss_one (ps_set (i := 2) nd rfl (.inl rfl) (pe_slice sl_list (pv 2) po_none (po_some (pv 4))))))) pss_nil)
        (pss_one (ps_expr (pe_bm PySem.F.plainAttrs_list PySem.F.slot_list_append PySem.F.type_list_append mt_append (pv 2) (pa_cons (pv 3) pa_nil))))))
      (pss_one (ps_ret (pe_callTy call_tuple_of (by rfl) B.tuple bt_tuple (pa_cons (pv 2) pa_nil)))))), ?_⟩
    refine rd_seq ?_
    refine rd_set ?_
    refine ⟨Nat.zero_le _, fun l0 hl0 => ?_⟩
    refine rd_seq ?_
    have e1 : Ex H (upd H l0 (.lst [])) := Ex.new hl0
    refine tfor (H1 := upd H l0 (.lst [])) (fun R r => ⟨_, rfl, a, rfl, ⟨_, SqT.of (e1 _ _ ha)⟩, r⟩) (walk_tup (K := K) (xs := nV wy))
      (fun i σ H' => ∃ (kp : List Nat) (y3 y4 : Option V) (l : Addr), σ = [some v, some (.ref a), some (.ref l), y3, y4] ∧ Ex H H' ∧ H l = none ∧ H' l = some (.lst (nV kp)) ∧ Rg n f st kp (wy.drop i) ∧ ringGo f [] wy = ringGo f kp (wy.drop i))
      ⟨[], none, none, l0, rfl, e1, hl0, upd_same, hR, rfl⟩ (fun i σ H' _ hP => by
        obtain ⟨_, _, _, _, _, e, _⟩ := hP
        exact SqT.of (e _ _ ha)) (fun i x σ H2 H3 hi hP hY => ?_) (fun σ H2 hP => ?_)
    · obtain ⟨kp, y3, y4, l, rfl, e2, hln, hlk, hRk, hgo⟩ := hP
      obtain ⟨rfl, hx⟩ := hY
      obtain ⟨x0, hx0, rfl⟩ := nV_at hx
      have hdr : wy.drop i = x0 :: wy.drop (i + 1) := by
        obtain ⟨h1, h2⟩ := List.getElem?_eq_some_iff.mp hx0
        rw [List.drop_eq_getElem_cons h1, h2]
      rw [hdr] at hRk hgo
      have hkl : kp.length ≤ 21 := Nat.le_trans (nodup_le hRk.nd hRk.lt) hn
      refine rd_gn ?_
      refine rd_seq ?_
      refine rd_ifs ?_
      -- the end of a turn
      have fin : ∀ (kp' : List Nat) (l' : Addr) (H4 : Hp) (z4 : Option V), Ex H H4 → H l' = none → H4 l' = some (.lst (nV kp')) → kp'.length ≤ 21 → Rg n f st (kp' ++ [x0]) (wy.drop (i + 1)) → ringGo f [] wy = ringGo f (kp' ++ [x0]) (wy.drop (i + 1)) →
          ∃ (kp : List Nat) (y3 y4 : Option V) (l : Addr), ([some v, some (.ref a), some (.ref l'), some (.int x0), z4] : L2.St) = [some v, some (.ref a), some (.ref l), y3, y4] ∧ Ex H (upd H4 l' (.lst (nV kp' ++ [.int x0]))) ∧ H l = none ∧ (upd H4 l' (.lst (nV kp' ++ [.int x0]))) l = some (.lst (nV kp)) ∧ Rg n f st kp (wy.drop (i + 1)) ∧ ringGo f [] wy = ringGo f kp (wy.drop (i + 1)) :=
        fun kp' l' H4 z4 e4 hn' hl' hk' hR' hg' => ⟨kp' ++ [x0], _, _, l', rfl, e4.mut hn', hn', by rw [nV_app]; exact upd_same, hR', hg'⟩
      refine ⟨_, rfl, _, rfl, l, nV kp, rfl, .inl (SqL.of hlk), rfl, by rw [nV_map]; exact flat_ints _, _, rfl, ?_⟩
      show if inV (.int x0) (nV kp) = true then _ else _
      rw [inV_nat]
      by_cases hm : x0 ∈ kp
      · rw [decide_eq_true hm]
        refine iteT ?_
        obtain ⟨q1, q2, q3, q4⟩ := posn_split x0 kp hm
        obtain ⟨hso, hRt⟩ := hRk.in_ hm
        have hgo2 : ringGo f kp (x0 :: wy.drop (i + 1)) = if rsum f (kp.drop (posn x0 kp)) < 0 then kp.drop (posn x0 kp) else ringGo f (kp.take (posn x0 kp) ++ [x0]) (wy.drop (i + 1)) := by
          show (if x0 ∈ kp then _ else _) = _
          rw [if_pos hm]
        refine rd_seq ?_
        refine rd_set ?_
        refine ⟨_, rfl, .inl ⟨rfl, _, SqL.of hlk⟩, _, rfl, l, nV kp, .int x0, posn x0 kp, .int x0, rfl, rfl, SqL.of hlk, rfl, by rw [nV_map]; exact flat_ints _, nV_get q3, (by show ((x0 : Int) == (x0 : Int)) = true; exact beq_self_eq_true _), fun m z hm2 hz => ?_, ?_⟩
        · obtain ⟨y, hy, rfl⟩ := nV_at hz
          show ((y : Int) == (x0 : Int)) = false
          refine beq_eq_false_iff_ne.mpr fun e => q4 m y hm2 hy (Int.natCast_inj.mp e)
        refine rd_seq ?_
        refine rd_ifs ?_
        refine ⟨_, rfl, ?_⟩
        refine rd_c1 ?_
        refine ⟨_, rfl, _, rfl, _, rfl, l, nV kp, rfl, SqL.of hlk, fun p hp => ?_⟩
        rw [cutD]
        have ep : Ex H3 (upd H3 p (.lst (nV (kp.drop (posn x0 kp))))) := Ex.new hp
        have hdl : (kp.drop (posn x0 kp)).length ≤ 21 := by rw [List.length_drop]; omega
        refine ⟨n, v, f, p, kp.drop (posn x0 kp), rfl, hv.ex (e2.trans ep), upd_same, hdl, fun y hy => hRk.lt y (List.mem_of_mem_drop hy), hso, fun H4 e4 => ?_⟩
        refine ⟨rsum f (kp.drop (posn x0 kp)), 0, rfl, rfl, _, rfl, ?_⟩
        have hl4 : H4 l = some (.lst (nV kp)) := e4 _ _ (ep _ _ hlk)
        have eX : Ex H H4 := (e2.trans ep).trans e4
        by_cases hneg : rsum f (kp.drop (posn x0 kp)) < 0
        · rw [decide_eq_true hneg]
          refine iteT ?_
          rw [if_pos hneg] at hgo2
          refine ⟨_, rfl, _, rfl, _, rfl, l, nV kp, rfl, SqL.of hl4, fun p2 hp2 => ?_⟩
          rw [cutD]
          refine ⟨p2, _, rfl, .inl ⟨SqL.of upd_same, fun p3 hp3 => ?_⟩⟩
          exact q _ _ ((eX.trans (Ex.new hp2)).trans (Ex.new hp3)) ⟨p3, rfl, by rw [upd_same, hgo, hgo2]⟩
        · rw [decide_eq_false hneg]
          refine iteF ?_
          rw [if_neg hneg] at hgo2
          refine rd_next ?_
          refine rd_set ?_
          refine ⟨_, rfl, _, rfl, _, rfl, l, nV kp, rfl, SqL.of hl4, fun p2 hp2 => ?_⟩
          rw [cutT]
          refine rd_drop ?_
          have htl : (kp.take (posn x0 kp)).length ≤ 21 := by rw [List.length_take]; omega
          refine ⟨_, rfl, .inl ⟨rfl, _, SqL.of upd_same⟩, _, rfl, p2, _, _, rfl, rfl, upd_same, by rw [nV_len]; exact sz21 htl, ?_⟩
          refine fin (kp.take (posn x0 kp)) p2 _ _ (eX.trans (Ex.new hp2)) ?_ upd_same htl hRt (hgo.trans hgo2)
          cases e : H p2 with
          | none => rfl
          | some o => rw [eX _ _ e] at hp2; cases hp2
      · rw [decide_eq_false hm]
        refine iteF ?_
        refine rd_next ?_
        refine rd_drop ?_
        refine ⟨_, rfl, .inl ⟨rfl, _, SqL.of hlk⟩, _, rfl, l, _, _, rfl, rfl, hlk, by rw [nV_len]; exact sz21 hkl, ?_⟩
        have hgo2 : ringGo f kp (x0 :: wy.drop (i + 1)) = ringGo f (kp ++ [x0]) (wy.drop (i + 1)) := by
          show (if x0 ∈ kp then _ else _) = _
          rw [if_neg hm]
        exact fin kp l _ _ e2 hln hlk hkl (hRk.out hm) (hgo.trans hgo2)
    · obtain ⟨kp, y3, y4, l, rfl, e2, hln, hlk, hRk, hgo⟩ := hP
      have : wy.drop (nV wy).length = [] := by rw [nV_len]; exact List.drop_length
      rw [this] at hgo
      refine rd_ret ?_
      refine rd_cb ?_
      refine rd_c1 ?_
      refine ⟨_, rfl, l, _, rfl, .inl ⟨SqL.of hlk, fun p hp => ?_⟩⟩
      exact q _ _ (e2.trans (Ex.new hp)) ⟨p, rfl, by rw [upd_same, hgo]; rfl⟩
theorem cal_ringOn {f : Addr} {fd : FuncData} (F : FnP K "ring_on" sRingOn f fd) (B : Bl mg) (C : Cal P w K mg base 1 "sum_round" ["one", "ring"] spSumRound) (hm : mg "ring_on" = some (.ref f)) : Cal P w K mg base 2 "ring_on" ["one", "way"] spRingOn :=
  ⟨f, fd, ok_ringOn F B C, hm, F.kp, F.bindsN fun _ _ _ _ _ _ us hl => match us, hl with | [_, _], _ => rfl⟩
end
end K38
set_option maxHeartbeats 4000000
/-! Walk: ring_in. -/
namespace K38
open PySem PySem.Spec PyProof.Rows L2 RZ
open Evl (Ex)
theorem rd_c {v : V} {σ : L2.St} {H : Hp} {Q : VK} (h : Q v H) : tC v σ H Q := h
def asgE (s : Stmt) : Expr := match s with
  | .Assign _ e _ => e
  | _ => .Constant .none 0 ⟨0, 0, 0, 0⟩
def lcSc (e : Expr) : Scope := match e with
  | .ListComp _ _ sc _ => sc
  | _ => { kind := .function, names := [], isGenerator := false, isCoroutine := false }
/-- the outer comprehension's scope -/
def scRows : Scope := lcSc (asgE ((defBody sRingIn).getD 1 (.Pass ⟨0, 0, 0, 0⟩)))
/-- at l a list of rows of ways -/
def WRows (H : Hp) (l : Addr) (n : Nat) (W : Wy) : Prop := ∃ ys, H l = some (.lst ys) ∧ ys.length = n ∧ ∀ i y, ys[i]? = some y → ∃ p, y = .ref p ∧ WRow H p n (W i)
theorem WRows.ex {H H' : Hp} {l : Addr} {n : Nat} {W : Wy} (e : Ex H H') (h : WRows H l n W) : WRows H' l n W :=
  let ⟨ys, h1, h2, h3⟩ := h; ⟨ys, e _ _ h1, h2, fun i y q => let ⟨p, e1, e2⟩ := h3 i y q; ⟨p, e1, e2.ex e⟩⟩
theorem WRows.get {H : Hp} {l : Addr} {n i : Nat} {W : Wy} (h : WRows H l n W) (hi : i < n) : ∃ ys p, H l = some (.lst ys) ∧ ys[i]? = some (.ref p) ∧ WRow H p n (W i) := by
  obtain ⟨ys, h1, h2, h3⟩ := h
  have e : ys[i]? = some ys[i] := List.getElem?_eq_getElem (by omega)
  obtain ⟨p, e1, e2⟩ := h3 i _ e
  rw [e1] at e
  exact ⟨ys, p, h1, e, e2⟩
theorem find_range {p : Nat → Bool} : ∀ {n a : Nat}, a < n → p a = true → (∀ b, b < a → p b = false) → (List.range n).find? p = some a
  | 0, a, h, _, _ => absurd h (Nat.not_lt_zero a)
  | n + 1, a, h, hp, hb => by
    rw [List.range_succ, List.find?_append]
    by_cases e : a = n
    · subst e
      have : (List.range a).find? p = none := List.find?_eq_none.mpr fun x hx => by
        rw [hb x (List.mem_range.mp hx)]; decide
      rw [this]
      show ([a].find? p) = some a
      rw [List.find?_cons, hp]
    · rw [find_range (by omega) hp hb]
      rfl
def ringO (n : Nat) : Option Mx → Option (List Nat)
  | none => none
  | some f => ringIn n f
def RingV (H : Hp) (v : V) : Option (List Nat) → Prop
  | none => v = .non
  | some l => Tup H v (nV l)
section
variable {P : Program} {w : World} {K : PySem.W.Frag} {mg : Str → Option Value} {base : Heap}
def spRingIn : Sp := fun vs H Q _ => ∃ (n : Nat) (v : V) (o : Option Mx), vs = [v] ∧ MatO H v n o ∧ (∀ f, o = some f → Dg n f) ∧ n ≤ 21 ∧ ∀ H' r, Ex H H' → RingV H' r (ringO n o) → Q r H'
theorem ok_ringIn {f : Addr} {fd : FuncData} (F : FnP K "ring_in" sRingIn f fd) (B : Bl mg) (CW : Cal P w K mg base 2 "walk_through" ["walk", "others", "by"] spWalkThrough) (CR : Cal P w K mg base 2 "ring_on" ["one", "way"] spRingOn) : FnOk P w K mg base CX0 3 f fd ["one"] spRingIn := by
  refine F.ok scRingIn (fun vs H Q E h => ?_) (fun cdv A outer s H vs Q E hr h => ?_)
  · obtain ⟨n, v, o, rfl, _⟩ := h
    rfl
  · obtain ⟨n, v, o, rfl, hv, hdg, hn, q⟩ := h
    have nd := scRingIn.nd
    refine ⟨_, PSs.nox (pss_cons (ps_if (pt_cmpR op_isN (pv 0) pe_non (nomark _)) (pss_one (ps_ret pe_non)) pss_nil)
      (pss_cons (ps_set (i := 2) nd rfl (.inr rfl) (pe_lc (own := [("i", 7), ("row", 1)]) (g := gTup K 2 (gCons (gName 7) (gCons (gName 1) gNil))) (tt := tYes) rfl nd (pi_enumT (by rfl) B.enumerate (pa_cons (pv 0) pa_nil)) (blkOk_by (N := nRingIn) (sc := defScope sRingIn) (by decide +kernel))
          (fun _ _ _ _ _ => pg_tup rfl (pgs_cons (pg_name (i := 7) nd rfl (.inr rfl)) (pgs_cons (pg_name (i := 1) nd rfl (.inl rfl)) pgs_nil))) (fun _ _ _ _ _ => pts_nil)
          (fun _ _ _ _ _ => pe_lc (wi := iEnumT K (tCons (tVar 1) tNil)) (own := [("j", 5), ("bound", 6)]) (g := gTup K 2 (gCons (gName 5) (gCons (gName 6) gNil))) (tt := tYes) rfl nd (pi_enumT (by rfl) B.enumerate (pa_cons (pv 1) pa_nil)) (blkOk_by (N := nRingIn) (sc := scRows) (by decide +kernel))
            (fun _ _ _ _ _ => pg_tup rfl (pgs_cons (pg_name (i := 5) nd rfl (.inl rfl)) (pgs_cons (pg_name (i := 6) nd rfl (.inl rfl)) pgs_nil))) (fun _ _ _ _ _ => pts_nil)
            (fun _ _ _ _ _ => pe_tup (pa_cons (pv 6) (pa_cons (pe_ifExp (pt_cmpR op_eq (pv 7) (pv 5) (nomark _)) (pe_tup pa_nil) (pe_tup (pa_cons (pv 7) pa_nil))) pa_nil))))))
      (pss_cons (ps_for PassesOwn.never rfl (pi_range1 (by rfl) B.range (pa_cons (pe_callB call_len_seq (by rfl) B.len PySem.boot_len (pa_cons (pv 0) pa_nil)) pa_nil)) (pg_name (i := 3) nd rfl (.inr rfl))
        (pss_cons (ps_set (i := 2) nd rfl (.inr rfl) (pe_lc (own := [("row", 1)]) (g := gName 1) (tt := tYes) rfl nd (pi_list (pv 2)) (blkOk_by (N := nRingIn) (sc := defScope sRingIn) (by decide +kernel))
            (fun _ _ _ _ _ => pg_name (i := 1) nd rfl (.inl rfl)) (fun _ _ _ _ _ => pts_nil)
            (fun _ _ _ _ _ => pe_fn CW hr (by decide) (by rfl) (pa_cons (pv 1) (pa_cons (pe_ix (r := rIxL K) ix_list (pv 2) (pv 3) (fun _ _ => rfl)) (pa_cons (pv 3) pa_nil))))))
        (pss_one (ps_for PassesOwn.never rfl (pi_enum (by rfl) B.enumerate (pa_cons (pv 2) pa_nil)) (pg_tup rfl (pgs_cons (pg_name (i := 4) nd rfl (.inl rfl)) (pgs_cons (pg_name (i := 1) nd rfl (.inl rfl)) pgs_nil)))
          (pss_one (ps_if (pt_cmpR op_lt (pe_ix (r := rIxT K) ix_tup (pe_ix (r := rIxL K) ix_list (pv 1) (pv 4) (fun _ _ => rfl)) pe_int (fun _ _ => rfl)) pe_int (nomark _))
            (pss_one (ps_ret (pe_fn CR hr (by decide) (by rfl) (pa_cons (pv 0) (pa_cons (pe_ix (r := rIxT K) ix_tup (pe_ix (r := rIxL K) ix_list (pv 1) (pv 4) (fun _ _ => rfl)) pe_int (fun _ _ => rfl)) pa_nil))))) pss_nil))))))
      (pss_one (ps_ret pe_non))))), ?_⟩
    cases o with
    | none =>
      obtain rfl : v = .non := hv
      exact ⟨_, rfl, rfl, true, rfl, q H _ (Ex.refl H) rfl⟩
    | some f =>
      have hdg := hdg f rfl
      have hv0 : Mat H v n f := hv
      obtain ⟨rs, ⟨a, rfl, ha⟩, hrow⟩ := hv
      refine rd_seq ?_
      refine ⟨_, rfl, rfl, false, rfl, ?_⟩
      refine iteF (rd_next ?_)
      refine rd_seq ?_
      refine rd_set ?_
      -- the rows at first
      refine tlc2 (fun R r => ⟨_, rfl, a, _, rfl, SqT.of ha, r⟩) (walk_enumT (xs := seqF n rs)) (by rw [seqF_len]; exact sz21 hn) (fun D i y H' => ∃ p, y = .ref p ∧ p ≠ D ∧ WRow H' p n (w0 f i))
        (fun D i y H1 H2 _ e h => let ⟨p, h1, h2, h3⟩ := h; ⟨p, h1, h2, h3.ex e⟩) (fun D i y H1 o o' _ hD h => let ⟨p, h1, h2, h3⟩ := h; ⟨p, h1, h2, h3.upd hD h2⟩) (fun H1 e => SqT.of (e _ _ ha)) (fun i H1 x H2 _ _ y => ypair_ex y)
        (fun D i x H1 H2 hi e1 e2 hD y Qt kk => ?_) (fun D ys H1 hD e1 hys hyl hyp => ?_)
      · obtain ⟨T, x1, x2, rfl, nT, rfl, h1, h2⟩ := y
        obtain ⟨hi2, rfl⟩ := seqF_at h2
        cases h1
        obtain ⟨od, hod⟩ := hD
        have hr1 := (hrow i hi2).tx (exT e2)
        obtain ⟨p1, ep1, hp1⟩ := hr1
        refine ⟨T, _, rfl, SqT.of upd_same, rfl, _, _, rfl, _, _, rfl, rfl, rfl, ?_⟩
        refine tlc (fun R r => ⟨_, rfl, p1, _, congrArg (fun z => [z]) ep1, SqT.of hp1, r⟩) (walk_enumT (xs := seqF n fun j => bV (f i j))) (by rw [seqF_len]; exact sz21 hn) (fun j y H' => PairW H' y (w0 f i j)) (fun j y _ _ _ t h => h.tx t) (fun H3 e => SqT.of (e _ _ hp1)) (fun i H1 x H2 _ _ y => ypair_ex y)
          (fun j x H3 H4 hj e3 e4 y Qt2 kk2 => ?_) (fun D2 zs H3 hD2 e3 hzs hzl hzp => ?_)
        · obtain ⟨T2, z1, z2, rfl, nT2, rfl, g1, g2⟩ := y
          obtain ⟨hj2, rfl⟩ := seqF_at g2
          cases g1
          refine ⟨T2, _, rfl, SqT.of upd_same, rfl, _, _, rfl, _, _, rfl, rfl, rfl, ?_⟩
          refine ⟨_, rfl, ?_⟩
          refine rd_c1 ?_
          refine rd_if ?_
          refine ⟨_, rfl, _, rfl, rfl, _, rfl, ?_⟩
          by_cases hij : i = j
          · rw [decide_eq_true (congrArg (fun x : Nat => V.int (x : Int)) hij)]
            refine iteT ?_
            refine ⟨Nat.zero_le _, fun p hp => ⟨by show 2 ≤ sizeLine; decide, fun p2 hp2 => ?_⟩⟩
            refine kk2 _ _ ((Ex.new hp).trans (Ex.new hp2)) ?_
            have ew : w0 f i j = (f i j, []) := by unfold w0; rw [if_pos hij]
            rw [ew]
            exact ⟨.ref p, ⟨p2, rfl, upd_same⟩, ⟨p, rfl, (txN hp2) _ _ upd_same⟩⟩
          · rw [decide_eq_false (fun e => hij (Int.natCast_inj.mp (V.int.inj e)))]
            refine iteF ?_
            refine ⟨_, rfl, by show 1 ≤ sizeLine; decide, fun p hp => ⟨by show 2 ≤ sizeLine; decide, fun p2 hp2 => ?_⟩⟩
            refine kk2 _ _ ((Ex.new hp).trans (Ex.new hp2)) ?_
            have ew : w0 f i j = (f i j, [i]) := by unfold w0; rw [if_neg hij]
            rw [ew]
            exact ⟨.ref p, ⟨p2, rfl, upd_same⟩, ⟨p, rfl, (txN hp2) _ _ upd_same⟩⟩
        · rw [seqF_len] at hzl
          refine kk _ _ e3 ⟨D2, rfl, ?_, zs, hzs, hzl, hzp⟩
          intro e
          rw [e, hod] at hD2
          cases hD2
      · rw [seqF_len] at hyl
        refine rd_seq ?_
        have eW : WRows H1 D n (wr f 0) := ⟨ys, hys, hyl, fun i y ey => let ⟨p, h1, _, h3⟩ := hyp i y ey; ⟨p, h1, h3⟩⟩
        refine tfor (J := Itr 0 n) (H1 := H1) (fun R r => ⟨_, rfl, a, _, rfl, .inr (SqT.of (e1 _ _ ha)), ((n : Nat) : Int), by rw [seqF_len], by omega, by omega, r⟩) walk_rng0
          (fun k σ H' => ∃ (l : Addr) (y1 y3 y4 : Option V), σ = [some (.ref a), y1, some (.ref l), y3, y4, none, none, none] ∧ Ex H H' ∧ WRows H' l n (wr f k) ∧ ringIn n f = ringFrom n f k (n - k))
          ⟨D, none, none, none, rfl, e1, eW, rfl⟩ (fun _ _ _ _ _ => trivial) (fun k x σ H2 H3 hk hP hY => ?_) (fun σ H2 hP => ?_)
        · obtain ⟨rfl, rfl⟩ := hY
          obtain ⟨l, y1, y3, y4, rfl, e2, hW, hri⟩ := hP
          refine rd_gn ?_
          refine rd_seq ?_
          refine rd_set ?_
          obtain ⟨rsk, pk, hlk, hrk, hWk⟩ := hW.get hk
          obtain ⟨rl, hl1, hl2, hl3⟩ := hW
          rw [hlk] at hl1
          cases hl1
          -- the next rows
          refine tlc2 (fun R r => ⟨_, rfl, l, rfl, ⟨_, SqL.of hlk⟩, r⟩) (walk_list (xs := rsk)) (by rw [hl2]; exact sz21 hn) (fun D i y H' => ∃ p, y = .ref p ∧ p ≠ D ∧ WRow H' p n (wr f (k + 1) i))
            (fun D i y H1 H2 _ e h => let ⟨p, h1, h2, h3⟩ := h; ⟨p, h1, h2, h3.ex e⟩) (fun D i y H1 o o' _ hD h => let ⟨p, h1, h2, h3⟩ := h; ⟨p, h1, h2, h3.upd hD h2⟩) (fun H4 e => SqL.of (e _ _ hlk)) (fun i H1 x H2 _ _ y => yat_ex y)
            (fun D i x H4 H5 hi e4 e5 hD y Qt kk => ?_) (fun D zs H4 hD e4 hzs hzl hzp => ?_)
          · obtain ⟨rfl, hx⟩ := y
            obtain ⟨od, hod⟩ := hD
            obtain ⟨p, rfl, hWp⟩ := hl3 i x hx
            refine ⟨rfl, ?_⟩
            refine ⟨_, rfl, ?_⟩
            refine rd_cons ?_
            refine rd_op ?_
            refine ⟨_, rfl, _, rfl, ixL (e5 _ _ hlk) hrk ?_⟩
            have h2k : 2 ^ k + 2 ^ k ≤ sizeLine := by
              have h1 : 2 ^ k ≤ 2 ^ 20 := Nat.pow_le_pow_right (by decide) (by omega)
              have h2 : (2 : Nat) ^ 20 + 2 ^ 20 ≤ sizeLine := by decide
              omega
            refine ⟨_, rfl, n, k, 2 ^ k, p, pk, wr f k i, wr f k k, rfl, hWp.ex e5, hWk.ex e5, hk, hn, fun j hj => ⟨wr_len f k i j, wr_len f k k j⟩, h2k, fun H6 p6 hp6 e6 hW6 => kk _ _ e6 ⟨p6, rfl, ?_, hW6⟩⟩
            intro e
            rw [e, hod] at hp6
            cases hp6
          · have eWn : WRows H4 D n (wr f (k + 1)) := ⟨zs, hzs, hzl.trans hl2, fun i y ey => let ⟨p, h1, _, h3⟩ := hzp i y ey; ⟨p, h1, h3⟩⟩
            have e24 := e2.trans e4
            refine tfor (J := Ite K D) (H1 := H4) (fun R r => ⟨_, rfl, D, _, rfl, SqL.of hzs, r⟩) (walk_enum (xs := zs))
              (fun c σ H' => ∃ (y1 y4 : Option V), σ = [some (.ref a), y1, some (.ref D), some (.int k), y4, none, none, none] ∧ Ex H4 H' ∧ ∀ b, b < c → negB (rnd f (k + 1) b b) = false)
              ⟨y1, y4, rfl, Ex.refl _, fun b hb => by omega⟩ (fun c σ H' _ hP => by
                obtain ⟨_, _, _, e, _⟩ := hP
                exact SqL.of (e _ _ hzs)) (fun c x σ H5 H6 hc hP hY => ?_) (fun σ H5 hP => ?_)
            · obtain ⟨y1, y4, rfl, e5, hno⟩ := hP
              obtain ⟨T, x1, x2, rfl, nT, rfl, h1, h2⟩ := hY
              have hcn : c < n := by omega
              obtain ⟨p, rfl, _, hWp⟩ := hzp c x2 h2
              cases h1
              have e56 : Ex H4 (upd H5 T (.tup [.int c, .ref p])) := e5.trans (Ex.new nT)
              obtain ⟨ws, wy, hws, hwy, hpw⟩ := (hWp.ex e56).get hcn
              obtain ⟨u, hu1, hu2⟩ := hpw
              obtain ⟨d, hd, hd0⟩ := diag_or hdg (k + 1) hcn
              have hfst : (wr f (k + 1) c c).1 = some d := (wr_fst f (k + 1) c c).trans hd
              refine ⟨T, _, rfl, SqT.of upd_same, rfl, _, _, rfl, _, _, rfl, rfl, ?_⟩
              refine rd_ifs ?_
              refine ⟨_, rfl, _, rfl, ixL hws hwy ?_⟩
              refine rd_c ?_
              refine ixT (i := 0) hu1 rfl ?_
              rw [hfst]
              refine ⟨d, 0, rfl, rfl, _, rfl, ?_⟩
              by_cases hneg : d < 0
              · rw [decide_eq_true hneg]
                refine iteT ?_
                have W := wr_ok hdg (k + 1) (by omega) c c hcn hcn
                rw [hfst] at W
                refine ⟨_, rfl, ?_⟩
                refine rd_c1 ?_
                refine ⟨_, rfl, _, rfl, ixL hws hwy ?_⟩
                refine rd_c ?_
                refine ixT (i := 1) hu1 rfl ?_
                obtain ⟨pu, rfl, hpu⟩ := hu2
                refine ⟨n, .ref a, f, pu, (wr f (k + 1) c c).2, c, rfl, hv0.ex (e24.trans e56), hn, hpu, ⟨W.lt, .nil, fun x hx => (by cases hx), ⟨0, rfl⟩, ⟨d, W.sum d rfl⟩⟩, fun H7 r e7 h7 => ?_⟩
                refine q H7 r ((e24.trans e56).trans e7) ?_
                have hfn : firstNeg n f (k + 1) = some c := find_range hcn (by rw [hd]; exact decide_eq_true hneg) hno
                have er : ringO n (some f) = some (ringAt f (k + 1) c) := by
                  show ringIn n f = _
                  rw [hri, show n - k = (n - k - 1) + 1 by omega]
                  unfold ringFrom
                  rw [hfn]
                rw [er]
                exact h7
              · rw [decide_eq_false hneg]
                refine iteF ?_
                refine rd_next ?_
                refine ⟨_, _, rfl, e56, fun b hb => ?_⟩
                by_cases hbc : b = c
                · rw [hbc, hd]
                  exact decide_eq_false hneg
                · exact hno b (by omega)
            · obtain ⟨y1, y4, rfl, e5, hno⟩ := hP
              refine ⟨D, _, _, _, rfl, e24.trans e5, eWn.ex e5, ?_⟩
              have hfn : firstNeg n f (k + 1) = none := List.find?_eq_none.mpr fun b hb => by
                rw [hno b (by have := List.mem_range.mp hb; omega)]; decide
              rw [hri, show n - k = (n - (k + 1)) + 1 by omega]
              show (match firstNeg n f (k + 1) with
                | some a => some (ringAt f (k + 1) a)
                | none => ringFrom n f (k + 1) (n - (k + 1))) = _
              rw [hfn]
        · obtain ⟨l, y1, y3, y4, rfl, e2, hW, hri⟩ := hP
          refine q H2 _ e2 ?_
          have er : ringO n (some f) = none := by
            show ringIn n f = _
            rw [hri, Nat.sub_self]
            rfl
          rw [er]
          rfl
theorem cal_ringIn {f : Addr} {fd : FuncData} (F : FnP K "ring_in" sRingIn f fd) (B : Bl mg) (CW : Cal P w K mg base 2 "walk_through" ["walk", "others", "by"] spWalkThrough) (CR : Cal P w K mg base 2 "ring_on" ["one", "way"] spRingOn) (hm : mg "ring_in" = some (.ref f)) : Cal P w K mg base 3 "ring_in" ["one"] spRingIn :=
  ⟨f, fd, ok_ringIn F B CW CR, hm, F.kp, F.bindsN fun _ _ _ _ _ _ us hl => match us, hl with | [_], _ => rfl⟩
end
end K38
set_option maxHeartbeats 4000000
/-! Walks: some values. -/
namespace K38
open PySem PySem.Spec PyProof.Rows L2 RZ
open Evl (Ex)
theorem rd_while {c : TT} {tb : TS} {nx : L2.St → Hp → Prop} {rt : VK} {bk ct : L2.St → Hp → Prop} {σ : L2.St} {H : Hp} (W : Nat → L2.St → Hp → Prop) (h0 : ∃ m, W m σ H)
    (hs : ∀ m σ H, W m σ H → c σ H fun b H1 => if b = true then ∃ N : L2.St → Hp → Prop, (∀ σ' H', N σ' H' → ∃ m', m' < m ∧ W m' σ' H') ∧ tb (Ends.mk N rt nx N) σ H1 else nx σ H1) : tWhile c tb (Ends.mk nx rt bk ct) σ H := ⟨W, h0, hs⟩
theorem dp_ints (K : PySem.W.Frag) (H : Hp) : ∀ ns : List Int, DpAll K H (ns.map V.int) (ns.map PyData.int)
  | [] => .nil
  | n :: ns => .cons (.int n) (dp_ints K H ns)
theorem eqv_nil (ns : List Int) : PyData.eqv (.list (ns.map PyData.int)) (.list []) = ns.isEmpty := by
  cases ns with
  | nil => simp [PyData.eqv, PyData.eqvAll]
  | cons n r => simp [PyData.eqv, PyData.eqvAll]
/-- xs != [] of a list of ints and a new empty one -/
theorem ne_nil {K : PySem.W.Frag} {H : Hp} {Q : VK} {a p : Addr} {ns : List Int} (ha : H a = some (.lst (ns.map V.int))) (hp : H p = some (.lst [])) (q : Q (.bl (!ns.isEmpty)) H) : rNeD K (.ref a) (.ref p) H Q := by
  refine ⟨.list (ns.map PyData.int), .list [], .lst (SqL.of ha) (dp_ints K H ns), .lst (SqL.of hp) .nil, PySem.W.shaped_ints ns, PySem.W.shaped_ints [], ?_⟩
  rw [eqv_nil]
  exact q
theorem lows_V (c : Mx) (vs : List Int) : (List.range vs.length).filterMap (fun j => (c j vs.length).map fun b => V.int (vs.getD j 0 - b)) = (lows c vs).map V.int := by
  unfold lows
  rw [List.map_filterMap]
  refine fm_congr fun j _ => ?_
  cases c j vs.length <;> rfl
theorem highs_V (c : Mx) (vs : List Int) : (List.range vs.length).filterMap (fun j => (c vs.length j).map fun b => V.int (vs.getD j 0 + b)) = (highs c vs).map V.int := by
  unfold highs
  rw [List.map_filterMap]
  refine fm_congr fun j _ => ?_
  cases c vs.length j <;> rfl
theorem getD_of {l : List Int} {i : Nat} {x : V} (h : (l.map V.int)[i]? = some x) : i < l.length ∧ x = .int (l.getD i 0) := by
  rw [List.getElem?_map] at h
  obtain ⟨z, e1, e2⟩ := Option.map_eq_some_iff.mp h
  refine ⟨(List.getElem?_eq_some_iff.mp e1).1, ?_⟩
  rw [List.getD_eq_getElem?_getD, e1, ← e2]
  rfl
section
variable {P : Program} {w : World} {K : PySem.W.Frag} {mg : Str → Option Value} {base : Heap}
def spChosen : Sp := fun vs H Q _ => ∃ (n : Nat) (v : V) (c : Mx) (a : Addr) (ns : List Int), vs = [v, .ref a] ∧ Mat H v n c ∧ n ≤ 21 ∧ H a = some (.lst (ns.map V.int)) ∧ ns.length < n ∧ ∀ H', Ex H H' → Q (.int (choose c ns)) H'
theorem ok_chosenNumber {f : Addr} {fd : FuncData} (F : FnP K "chosen_number" sChosenNumber f fd) (B : Bl mg) : FnOk P w K mg base CX0 1 f fd ["closed", "values"] spChosen := by
  refine F.ok scChosenNumber (fun vs H Q E h => ?_) (fun cdv A outer s H vs Q E hr h => ?_)
  · obtain ⟨n, v, c, a, ns, rfl, _⟩ := h
    rfl
  · obtain ⟨n, v, c, a, ns, rfl, hv, hn, ha, hl, q⟩ := h
    have nd := scChosenNumber.nd
    have hun : A.units + 3 + 64 < cLine := hr.units
    refine ⟨_, PSs.nox (pss_cons (ps_set (i := 2) nd rfl (.inr rfl) (pe_callB call_len_seq (by rfl) B.len PySem.boot_len (pa_cons (pv 1) pa_nil)))
      (pss_cons (ps_setLc (i := 3) (own := [("j", 5), ("number", 6)]) (g := gTup K 2 (gCons (gName 5) (gCons (gName 6) gNil))) rfl nd rfl rfl (sw_true rfl rfl rfl (by decide +kernel)) (pi_enum (by rfl) B.enumerate (pa_cons (pv 1) pa_nil)) (blkOk_by (N := nChosenNumber) (sc := defScope sChosenNumber) (by decide +kernel))
          (fun _ _ _ _ _ => pg_tup rfl (pgs_cons (pg_name (i := 5) nd rfl (.inl rfl)) (pgs_cons (pg_name (i := 6) nd rfl (.inl rfl)) pgs_nil)))
          (fun _ _ _ _ _ => pts_one (pt_cmpR op_notN (pe_ix (r := rIxT K) ix_tup (pe_ix (r := rIxT K) ix_tup (pv 0) (pv 5) (fun _ _ => rfl)) (pv 2) (fun _ _ => rfl)) pe_non (nomark _)))
          (fun _ _ _ _ _ => pe_op op_sub (pv 6) (pe_ix (r := rIxT K) ix_tup (pe_ix (r := rIxT K) ix_tup (pv 0) (pv 5) (fun _ _ => rfl)) (pv 2) (fun _ _ => rfl))))
      (pss_cons (ps_setLc (i := 4) (own := [("j", 5), ("number", 6)]) (g := gTup K 2 (gCons (gName 5) (gCons (gName 6) gNil))) rfl nd rfl rfl (sw_true rfl rfl rfl (by decide +kernel)) (pi_enum (by rfl) B.enumerate (pa_cons (pv 1) pa_nil)) (blkOk_by (N := nChosenNumber) (sc := defScope sChosenNumber) (by decide +kernel))
          (fun _ _ _ _ _ => pg_tup rfl (pgs_cons (pg_name (i := 5) nd rfl (.inl rfl)) (pgs_cons (pg_name (i := 6) nd rfl (.inl rfl)) pgs_nil)))
          (fun _ _ _ _ _ => pts_one (pt_cmpR op_notN (pe_ix (r := rIxT K) ix_tup (pe_ix (r := rIxT K) ix_tup (pv 0) (pv 2) (fun _ _ => rfl)) (pv 5) (fun _ _ => rfl)) pe_non (nomark _)))
          (fun _ _ _ _ _ => pe_op op_add (pv 6) (pe_ix (r := rIxT K) ix_tup (pe_ix (r := rIxT K) ix_tup (pv 0) (pv 2) (fun _ _ => rfl)) (pv 5) (fun _ _ => rfl))))
      (pss_cons (ps_if (pt_cmpR (op_neD hun) (pv 3) (pe_lst pa_nil) (nomark _)) (pss_one (ps_ret (pe_callB (cr_max rfl) (by rfl) B.max bt_max (pa_cons (pv 3) pa_nil)))) pss_nil)
      (pss_one (ps_ret (pe_ifExp (pt_cmpR (op_neD hun) (pv 4) (pe_lst pa_nil) (nomark _)) (pe_callB (cr_min rfl) (by rfl) B.min bt_min (pa_cons (pv 4) pa_nil)) pe_int))))))), ?_⟩
    obtain ⟨rs, hrs, hrow⟩ := hv
    have hml : (ns.map V.int).length = ns.length := List.length_map _
    have ixc : ∀ {H' : Hp} {i j : Nat} {Q : VK}, Ex H H' → i < n → j < n → Q (bV (c i j)) H' → rIxT K v (.int (i : Int)) H' (fun x H1 => rIxT K x (.int (j : Int)) H1 Q) := fun {H' i j Q} e hi hj qq =>
      ixT (hrs.ex e) (seqF_get hi) (ixT ((hrow i hi).tx (exT e)) (seqF_get hj) qq)
    refine rd_seq ?_
    refine rd_set ?_
    refine ⟨_, rfl, a, _, rfl, .inl (SqL.of ha), ?_⟩
    rw [hml]
    refine rd_seq ?_
    refine rd_set ?_
    refine tlcf (H1 := H) (fun R r => ⟨_, rfl, a, _, rfl, SqL.of ha, r⟩) (walk_enum (xs := ns.map V.int)) (by rw [hml]; exact sz21 (by omega)) (fun j => (c j ns.length).map fun b => V.int (ns.getD j 0 - b)) (fun H1 e => SqL.of (e _ _ ha)) (fun i H1 x H2 _ _ y => ypair_ex y) (fun j x H1 H2 hj e1 e2 y Qy Qn ky kn => ?_) (fun D H1 hD e1 hDl => ?_)
    · obtain ⟨T, x1, x2, rfl, nT, rfl, h1, h2⟩ := y
      obtain ⟨hj2, rfl⟩ := getD_of h2
      cases h1
      refine ⟨T, _, rfl, SqT.of upd_same, rfl, _, _, rfl, _, _, rfl, rfl, rfl, ?_⟩
      refine ⟨_, rfl, _, rfl, ixT (hrs.ex e2) (seqF_get (by omega)) ⟨_, rfl, ixT ((hrow j (by omega)).tx (exT e2)) (seqF_get hl) ?_⟩⟩
      cases ec : c j ns.length with
      | none =>
        refine ⟨rfl, false, rfl, iteF ?_⟩
        exact kn (by rw [ec]; rfl) _ (Ex.refl _)
      | some b =>
        refine ⟨rfl, true, rfl, iteT ?_⟩
        refine ⟨_, rfl, _, rfl, _, rfl, ixT (hrs.ex e2) (seqF_get (by omega)) ⟨_, rfl, ixT ((hrow j (by omega)).tx (exT e2)) (seqF_get hl) ?_⟩⟩
        rw [ec]
        exact ⟨_, _, rfl, rfl, ky _ (by rw [ec]; rfl) _ (Ex.refl _)⟩
    · rw [hml, lows_V] at hDl
      refine rd_seq ?_
      refine rd_set ?_
      have ha1 := e1 _ _ ha
      refine tlcf (H1 := H1) (fun R r => ⟨_, rfl, a, _, rfl, SqL.of ha1, r⟩) (walk_enum (xs := ns.map V.int)) (by rw [hml]; exact sz21 (by omega)) (fun j => (c ns.length j).map fun b => V.int (ns.getD j 0 + b)) (fun H1 e => SqL.of (e _ _ ha1)) (fun i H1 x H2 _ _ y => ypair_ex y) (fun j x H2 H3 hj e2 e3 y Qy Qn ky kn => ?_) (fun D2 H2 hD2 e2 hDl2 => ?_)
      · obtain ⟨T, x1, x2, rfl, nT, rfl, h1, h2⟩ := y
        obtain ⟨hj2, rfl⟩ := getD_of h2
        cases h1
        have eX := e1.trans e3
        refine ⟨T, _, rfl, SqT.of upd_same, rfl, _, _, rfl, _, _, rfl, rfl, rfl, ?_⟩
        refine ⟨_, rfl, _, rfl, ixT (hrs.ex eX) (seqF_get hl) ⟨_, rfl, ixT ((hrow _ hl).tx (exT eX)) (seqF_get (by omega)) ?_⟩⟩
        cases ec : c ns.length j with
        | none =>
          refine ⟨rfl, false, rfl, iteF ?_⟩
          exact kn (by rw [ec]; rfl) _ (Ex.refl _)
        | some b =>
          refine ⟨rfl, true, rfl, iteT ?_⟩
          refine ⟨_, rfl, _, rfl, _, rfl, ixT (hrs.ex eX) (seqF_get hl) ⟨_, rfl, ixT ((hrow _ hl).tx (exT eX)) (seqF_get (by omega)) ?_⟩⟩
          rw [ec]
          exact ⟨_, _, rfl, rfl, ky _ (by rw [ec]; rfl) _ (Ex.refl _)⟩
      · rw [hml, highs_V] at hDl2
        refine rd_seq ?_
        refine rd_ifs ?_
        refine ⟨_, rfl, Nat.zero_le _, fun p hp => ?_⟩
        have e3 := Ex.new (o := .lst []) hp
        have hD3 := e3 _ _ (e2 _ _ hDl)
        refine ne_nil hD3 upd_same ?_
        refine ⟨_, rfl, ?_⟩
        by_cases hlo : lows c ns = []
        · rw [hlo]
          refine iteF ?_
          refine rd_next ?_
          refine rd_ret ?_
          refine rd_if ?_
          refine ⟨_, rfl, Nat.zero_le _, fun p2 hp2 => ?_⟩
          have e4 := Ex.new (o := .lst []) hp2
          have hD4 := e4 _ _ (e3 _ _ hDl2)
          refine ne_nil hD4 upd_same ?_
          refine ⟨_, rfl, ?_⟩
          have eX := ((e1.trans e2).trans e3).trans e4
          by_cases hhi : highs c ns = []
          · rw [hhi]
            refine iteF ?_
            have ec : choose c ns = 0 := by unfold choose; rw [if_neg (by rw [hlo]; simp), if_neg (by rw [hhi]; simp)]
            have := q _ eX
            rw [ec] at this
            exact this
          · have he : (!(highs c ns).isEmpty) = true := by cases hh : highs c ns with
              | nil => exact absurd hh hhi
              | cons _ _ => rfl
            rw [he]
            refine iteT ?_
            refine ⟨_, rfl, D2, highs c ns, rfl, SqL.of hD4, List.length_pos_iff.mpr hhi, fun m hm hle => ?_⟩
            have ec : choose c ns = minL (highs c ns) := by unfold choose; rw [if_neg (by rw [hlo]; simp), if_pos hhi]
            have := q _ eX
            rw [ec, ← minL_is hm hle] at this
            exact this
        · have he : (!(lows c ns).isEmpty) = true := by cases hh : lows c ns with
            | nil => exact absurd hh hlo
            | cons _ _ => rfl
          rw [he]
          refine iteT ?_
          refine ⟨_, rfl, D, lows c ns, rfl, SqL.of hD3, List.length_pos_iff.mpr hlo, fun m hm hle => ?_⟩
          have ec : choose c ns = maxL (lows c ns) := by unfold choose; rw [if_pos hlo]
          have := q _ ((e1.trans e2).trans e3)
          rw [ec, ← maxL_is hm hle] at this
          exact this
theorem cal_chosenNumber {f : Addr} {fd : FuncData} (F : FnP K "chosen_number" sChosenNumber f fd) (B : Bl mg) (hm : mg "chosen_number" = some (.ref f)) : Cal P w K mg base 1 "chosen_number" ["closed", "values"] spChosen :=
  ⟨f, fd, ok_chosenNumber F B, hm, F.kp, F.bindsN fun _ _ _ _ _ _ us hl => match us, hl with | [_, _], _ => rfl⟩
/-! ### values_held_by -/
def valO (n : Nat) : Option Mx → Option (List Int)
  | none => none
  | some c => some ((valsF c (n - 1)).drop 1)
def ValV (H : Hp) (v : V) : Option (List Int) → Prop
  | none => v = .non
  | some l => Ints H v l
def spValues : Sp := fun vs H Q _ => ∃ (n : Nat) (v : V) (o : Option Mx), vs = [v] ∧ MatO H v n o ∧ 0 < n ∧ n ≤ 21 ∧ ∀ H' r, Ex H H' → ValV H' r (valO n o) → Q r H'
theorem ok_valuesHeldBy {f : Addr} {fd : FuncData} (F : FnP K "values_held_by" sValuesHeldBy f fd) (B : Bl mg) (C : Cal P w K mg base 1 "chosen_number" ["closed", "values"] spChosen) : FnOk P w K mg base CX0 2 f fd ["closed"] spValues := by
  refine F.ok scValuesHeldBy (fun vs H Q E h => ?_) (fun cdv A outer s H vs Q E hr h => ?_)
  · obtain ⟨n, v, o, rfl, _⟩ := h
    rfl
  · obtain ⟨n, v, o, rfl, hv, hn0, hn, q⟩ := h
    have nd := scValuesHeldBy.nd
    refine ⟨_, PSs.nox (pss_cons (ps_if (pt_cmpR op_isN (pv 0) pe_non (nomark _)) (pss_one (ps_ret pe_non)) pss_nil)
      (pss_cons (ps_set (i := 1) nd rfl (.inl rfl) (pe_lst (pa_cons pe_int pa_nil)))
      (pss_cons (ps_while PassesOwn.never (pt_cmpR op_lt (pe_callB call_len_seq (by rfl) B.len PySem.boot_len (pa_cons (pv 1) pa_nil)) (pe_callB call_len_seq (by rfl) B.len PySem.boot_len (pa_cons (pv 0) pa_nil)) (nomark _))
        (pss_one (ps_expr (pe_bm PySem.F.plainAttrs_list PySem.F.slot_list_append PySem.F.type_list_append mt_append (pv 1) (pa_cons (pe_fn C hr (by decide) (by rfl) (pa_cons (pv 0) (pa_cons (pv 1) pa_nil))) pa_nil)))))
      (pss_one (ps_ret (pe_callTy call_tuple_of (by rfl) B.tuple bt_tuple (pa_cons (pe_slice sl_list (pv 1) (po_some pe_int) po_none) pa_nil))))))), ?_⟩
    cases o with
    | none =>
      obtain rfl : v = .non := hv
      exact ⟨_, rfl, rfl, true, rfl, q H _ (Ex.refl H) rfl⟩
    | some c =>
      have hv0 : Mat H v n c := hv
      obtain ⟨rs, ⟨a, rfl, ha⟩, hrow⟩ := hv
      refine rd_seq ?_
      refine ⟨_, rfl, rfl, false, rfl, ?_⟩
      refine iteF (rd_next ?_)
      refine rd_seq ?_
      refine rd_set ?_
      refine ⟨by show 1 ≤ sizeLine; decide, fun l hl => ?_⟩
      refine rd_seq ?_
      refine rd_while (fun m σ H' => ∃ k, m = n - (k + 1) ∧ k < n ∧ σ = [some (.ref a), some (.ref l)] ∧ Ex H H' ∧ H' l = some (.lst ((valsF c k).map V.int))) ⟨n - 1, 0, rfl, hn0, rfl, Ex.new hl, upd_same⟩ fun m σ H1 hW => ?_
      obtain ⟨k, em, hk, rfl, e1, hlk⟩ := hW
      have L := valsF_len c k
      refine ⟨_, rfl, l, _, rfl, .inl (SqL.of hlk), _, rfl, a, _, rfl, .inr (SqT.of (e1 _ _ ha)), _, _, rfl, rfl, _, rfl, ?_⟩
      rw [List.length_map, L, seqF_len]
      by_cases hlt : k + 1 < n
      · rw [decide_eq_true (by omega)]
        refine iteT ?_
        refine ⟨fun σ H' => ∃ k', k' = k + 1 ∧ σ = [some (.ref a), some (.ref l)] ∧ Ex H H' ∧ H' l = some (.lst ((valsF c k').map V.int)), fun σ' H' ⟨k', e, h1, h2, h3⟩ => ⟨n - (k' + 1), by omega, k', rfl, by omega, h1, h2, h3⟩, ?_⟩
        refine rd_drop ?_
        refine ⟨_, rfl, .inl ⟨rfl, _, SqL.of hlk⟩, ?_⟩
        refine rd_c1 ?_
        refine ⟨_, rfl, _, rfl, n, .ref a, c, l, valsF c k, rfl, hv0.ex e1, hn, hlk, by omega, fun H2 e2 => ?_⟩
        refine ⟨l, _, _, rfl, rfl, e2 _ _ hlk, by rw [List.length_map, L]; exact sz21 (by omega), k + 1, rfl, rfl, (e1.trans e2).mut hl, ?_⟩
        rw [upd_same]
        show some (HO.lst ((valsF c k).map V.int ++ [.int (choose c (valsF c k))])) = some (HO.lst ((valsF c k ++ [choose c (valsF c k)]).map V.int))
        rw [List.map_append]
        rfl
      · rw [decide_eq_false (by omega)]
        refine iteF ?_
        refine rd_ret ?_
        refine rd_cb ?_
        refine rd_c1 ?_
        refine ⟨_, rfl, 1, rfl, l, _, rfl, SqL.of hlk, fun p hp => ?_⟩
        rw [show (1 : Int) = ((1 : Nat) : Int) from rfl, cutDrop]
        refine ⟨p, _, rfl, .inl ⟨SqL.of upd_same, fun p2 hp2 => ?_⟩⟩
        refine q _ _ ((e1.trans (Ex.new hp)).trans (Ex.new hp2)) ?_
        refine ⟨p2, rfl, ?_⟩
        rw [upd_same, show n - 1 = k by omega, List.map_drop]
theorem cal_valuesHeldBy {f : Addr} {fd : FuncData} (F : FnP K "values_held_by" sValuesHeldBy f fd) (B : Bl mg) (C : Cal P w K mg base 1 "chosen_number" ["closed", "values"] spChosen) (hm : mg "values_held_by" = some (.ref f)) : Cal P w K mg base 2 "values_held_by" ["closed"] spValues :=
  ⟨f, fd, ok_valuesHeldBy F B C, hm, F.kp, F.bindsN fun _ _ _ _ _ _ us hl => match us, hl with | [_], _ => rfl⟩
end
end K38
set_option maxHeartbeats 4000000
/-! Walks: the checks, and what the law calls. -/
namespace K38
open PySem PySem.Spec PyProof.Rows L2 RZ
open Evl (Ex)
section
variable {P : Program} {w : World} {K : PySem.W.Frag} {mg : Str → Option Value} {base : Heap}
/-! ### check_size -/
def spCkSize : Sp := fun vs H Q _ => ∃ m : Nat, vs = [.int m] ∧ m ≤ 20 ∧ Q .non H
theorem ok_checkSize {f : Addr} {fd : FuncData} (F : FnP K "check_size" sCheckSize f fd) (B : Bl mg) (C : Cal P w K mg base 2 "is_between" ["value", "low", "high"] spBetween) : FnOk P w K mg base CX0 3 f fd ["many"] spCkSize := by
  refine F.ok scCheckSize (fun vs H Q E h => ?_) (fun cdv A outer s H vs Q E hr h => ?_)
  · obtain ⟨m, rfl, _⟩ := h
    rfl
  · obtain ⟨m, rfl, hm, q⟩ := h
    obtain ⟨t, ht⟩ := B.most
    refine ⟨_, pss_one (ps_if (pt_not (pt_val (pe_fn C hr (by decide) (by rfl) (pa_cons (pv 0) (pa_cons pe_int (pa_cons (pe_glob (v := .int 20) (by rfl) ht ⟨_, rfl⟩) pa_nil)))))) (pss_one ps_never) pss_nil), ?_⟩
    exact ⟨_, rfl, m, 0, 20, rfl, by omega, by omega, true, rfl, iteF q⟩
theorem cal_checkSize {f : Addr} {fd : FuncData} (F : FnP K "check_size" sCheckSize f fd) (B : Bl mg) (C : Cal P w K mg base 2 "is_between" ["value", "low", "high"] spBetween) (hm : mg "check_size" = some (.ref f)) : Cal P w K mg base 3 "check_size" ["many"] spCkSize :=
  ⟨f, fd, ok_checkSize F B C, hm, F.kp, F.bindsN fun _ _ _ _ _ _ us hl => match us, hl with | [_], _ => rfl⟩
/-! ### check_values_of -/
def spCkVals : Sp := fun vs H Q _ => ∃ (u : V) (ns : List Int), vs = [.int ns.length, u] ∧ Ints H u ns ∧ ns.length ≤ 20 ∧ ∀ H', Ex H H' → Q .non H'
theorem ok_checkValuesOf {f : Addr} {fd : FuncData} (F : FnP K "check_values_of" sCheckValuesOf f fd) (B : Bl mg) (C : Cal P w K mg base 1 "is_whole" ["value"] spWhole) : FnOk P w K mg base CX0 2 f fd ["many", "value"] spCkVals := by
  refine F.ok scCheckValuesOf (fun vs H Q E h => ?_) (fun cdv A outer s H vs Q E hr h => ?_)
  · obtain ⟨u, ns, rfl, _⟩ := h
    rfl
  · obtain ⟨u, ns, rfl, hu, hl, q⟩ := h
    have nd := scCheckValuesOf.nd
    refine ⟨_, PSs.nox (pss_cons (ps_if (PW.pt (pw_or (pt_not (pt_val (pe_callB call_isi (by rfl) B.isi bt_isi (pa_cons (pv 1) (pa_cons (pe_bltn (v := .ty "tuple") (by rfl) B.tuple bt_tuple rfl) pa_nil)))))
        (pw_or1 (pt_cmpR op_ne (pe_callB call_len_seq (by rfl) B.len PySem.boot_len (pa_cons (pv 1) pa_nil)) (pv 0) (nomark _))))) (pss_one ps_never) pss_nil)
      (pss_one (ps_for PassesOwn.never rfl (pi_enumT (by rfl) B.enumerate (pa_cons (pv 1) pa_nil)) (pg_tup rfl (pgs_cons (pg_name (i := 2) nd rfl (.inl rfl)) (pgs_cons (pg_name (i := 3) nd rfl (.inl rfl)) pgs_nil)))
        (pss_one (ps_if (pt_not (pt_val (pe_fn C hr (by decide) (by rfl) (pa_cons (pv 3) pa_nil)))) (pss_one ps_never) pss_nil))))), ?_⟩
    have hu0 := hu
    obtain ⟨a, rfl, ha⟩ := hu
    have hml : (ns.map V.int).length = ns.length := List.length_map _
    refine rd_seq ?_
    refine rd_ifs ?_
    refine ⟨_, rfl, _, _, _, _, _, rfl, .ty _, isiTup hu0, kit_ty kt4, true, rfl, ?_⟩
    refine ⟨_, rfl, a, _, rfl, .inr (SqT.of ha), _, rfl, rfl, false, ?_, ?_⟩
    · rw [hml, decide_eq_true rfl]
      rfl
    refine iteF (rd_next ?_)
    refine tfor (J := IteT K a) (H1 := H) (fun R r => ⟨_, rfl, a, _, rfl, SqT.of ha, r⟩) (walk_enumT (xs := ns.map V.int)) (fun i σ H' => ∃ y2 y3, σ = [some (.int ns.length), some (.ref a), y2, y3] ∧ Ex H H') ⟨none, none, rfl, Ex.refl H⟩ (fun i σ H' _ hP => by
        obtain ⟨_, _, _, e⟩ := hP
        exact SqT.of (e _ _ ha)) (fun i x σ H2 H3 hi hP hY => ?_) (fun σ H2 hP => ?_)
    · obtain ⟨y2, y3, rfl, e2⟩ := hP
      obtain ⟨T, x1, x2, rfl, nT, rfl, h1, h2⟩ := hY
      obtain ⟨_, rfl⟩ := getD_of h2
      cases h1
      refine ⟨T, _, rfl, SqT.of upd_same, rfl, _, _, rfl, _, _, rfl, rfl, ?_⟩
      exact ⟨_, rfl, _, rfl, true, rfl, iteF ⟨_, _, rfl, e2.trans (Ex.new nT)⟩⟩
    · obtain ⟨y2, y3, rfl, e2⟩ := hP
      exact q H2 e2
theorem cal_checkValuesOf {f : Addr} {fd : FuncData} (F : FnP K "check_values_of" sCheckValuesOf f fd) (B : Bl mg) (C : Cal P w K mg base 1 "is_whole" ["value"] spWhole) (hm : mg "check_values_of" = some (.ref f)) : Cal P w K mg base 2 "check_values_of" ["many", "value"] spCkVals :=
  ⟨f, fd, ok_checkValuesOf F B C, hm, F.kp, F.bindsN fun _ _ _ _ _ _ us hl => match us, hl with | [_, _], _ => rfl⟩
/-! ### check_differences, check_sized_differences -/
def spCkDiffs : Sp := fun vs H Q _ => ∃ (m : Nat) (v : V) (o : Option Mx), vs = [.int m, v] ∧ MatO H v (m + 1) o ∧ (∀ f, o = some f → Dg (m + 1) f) ∧ m ≤ 20 ∧ ∀ H', Ex H H' → Q .non H'
theorem ok_checkDifferences {f : Addr} {fd : FuncData} (F : FnP K "check_differences" sCheckDifferences f fd) (C : Cal P w K mg base 4 "are_differences" ["many", "value"] spDiffs) : FnOk P w K mg base CX0 5 f fd ["many", "one"] spCkDiffs := by
  refine F.ok scCheckDifferences (fun vs H Q E h => ?_) (fun cdv A outer s H vs Q E hr h => ?_)
  · obtain ⟨m, v, o, rfl, _⟩ := h
    rfl
  · obtain ⟨m, v, o, rfl, hv, hg, hm, q⟩ := h
    refine ⟨_, pss_one (ps_if (pt_not (pt_val (pe_fn C hr (by decide) (by rfl) (pa_cons (pv 0) (pa_cons (pv 1) pa_nil))))) (pss_one ps_never) pss_nil), ?_⟩
    exact ⟨_, rfl, _, rfl, m, v, o, rfl, hv, hg, hm, fun H' e => ⟨true, rfl, iteF (q H' e)⟩⟩
theorem cal_checkDifferences {f : Addr} {fd : FuncData} (F : FnP K "check_differences" sCheckDifferences f fd) (C : Cal P w K mg base 4 "are_differences" ["many", "value"] spDiffs) (hm : mg "check_differences" = some (.ref f)) : Cal P w K mg base 5 "check_differences" ["many", "one"] spCkDiffs :=
  ⟨f, fd, ok_checkDifferences F C, hm, F.kp, F.bindsN fun _ _ _ _ _ _ us hl => match us, hl with | [_, _], _ => rfl⟩
theorem ok_checkSized {f : Addr} {fd : FuncData} (F : FnP K "check_sized_differences" sCheckSizedDifferences f fd) (CS : Cal P w K mg base 3 "check_size" ["many"] spCkSize) (CD : Cal P w K mg base 5 "check_differences" ["many", "one"] spCkDiffs) : FnOk P w K mg base CX0 6 f fd ["many", "one"] spCkDiffs := by
  refine F.ok scCheckSizedDifferences (fun vs H Q E h => ?_) (fun cdv A outer s H vs Q E hr h => ?_)
  · obtain ⟨m, v, o, rfl, _⟩ := h
    rfl
  · obtain ⟨m, v, o, rfl, hv, hg, hm, q⟩ := h
    refine ⟨_, pss_cons (ps_expr (pe_fn CS hr (by decide) (by rfl) (pa_cons (pv 0) pa_nil))) (pss_one (ps_expr (pe_fn CD hr (by decide) (by rfl) (pa_cons (pv 0) (pa_cons (pv 1) pa_nil))))), ?_⟩
    exact ⟨_, rfl, m, rfl, hm, _, rfl, _, rfl, m, v, o, rfl, hv, hg, hm, q⟩
theorem cal_checkSized {f : Addr} {fd : FuncData} (F : FnP K "check_sized_differences" sCheckSizedDifferences f fd) (CS : Cal P w K mg base 3 "check_size" ["many"] spCkSize) (CD : Cal P w K mg base 5 "check_differences" ["many", "one"] spCkDiffs) (hm : mg "check_sized_differences" = some (.ref f)) :
    Cal P w K mg base 6 "check_sized_differences" ["many", "one"] spCkDiffs :=
  ⟨f, fd, ok_checkSized F CS CD, hm, F.kp, F.bindsN fun _ _ _ _ _ _ us hl => match us, hl with | [_, _], _ => rfl⟩
/-! ### what the law calls -/
def spApiClosed : Sp := fun vs H Q _ => ∃ (m : Nat) (v : V) (o : Option Mx), vs = [.int m, v] ∧ MatO H v (m + 1) o ∧ (∀ f, o = some f → Dg (m + 1) f) ∧ m ≤ 20 ∧ ∀ H' r, Ex H H' → MatO H' r (m + 1) (o.bind (clo (m + 1))) → Q r H'
theorem ok_closedDifferences {f : Addr} {fd : FuncData} (F : FnP K "closed_differences" sClosedDifferences f fd) (CK : Cal P w K mg base 6 "check_sized_differences" ["many", "one"] spCkDiffs) (CC : Cal P w K mg base 4 "closed_by" ["one"] spClosed) : FnOk P w K mg base CX0 7 f fd ["many", "one"] spApiClosed := by
  refine F.ok scClosedDifferences (fun vs H Q E h => ?_) (fun cdv A outer s H vs Q E hr h => ?_)
  · obtain ⟨m, v, o, rfl, _⟩ := h
    rfl
  · obtain ⟨m, v, o, rfl, hv, hg, hm, q⟩ := h
    refine ⟨_, pss_cons (ps_expr (pe_fn CK hr (by decide) (by rfl) (pa_cons (pv 0) (pa_cons (pv 1) pa_nil)))) (pss_one (ps_ret (pe_fn CC hr (by decide) (by rfl) (pa_cons (pv 1) pa_nil)))), ?_⟩
    exact ⟨_, rfl, _, rfl, m, v, o, rfl, hv, hg, hm, fun H1 e1 => ⟨_, rfl, m + 1, v, o, rfl, hv.tx (exT e1), by omega, fun H2 r e2 h2 => q H2 r (e1.trans e2) h2⟩⟩
theorem cal_closedDifferences {f : Addr} {fd : FuncData} (F : FnP K "closed_differences" sClosedDifferences f fd) (CK : Cal P w K mg base 6 "check_sized_differences" ["many", "one"] spCkDiffs) (CC : Cal P w K mg base 4 "closed_by" ["one"] spClosed) (hm : mg "closed_differences" = some (.ref f)) :
    Cal P w K mg base 7 "closed_differences" ["many", "one"] spApiClosed :=
  ⟨f, fd, ok_closedDifferences F CK CC, hm, F.kp, F.bindsN fun _ _ _ _ _ _ us hl => match us, hl with | [_, _], _ => rfl⟩
def spApiRing : Sp := fun vs H Q _ => ∃ (m : Nat) (v : V) (o : Option Mx), vs = [.int m, v] ∧ MatO H v (m + 1) o ∧ (∀ f, o = some f → Dg (m + 1) f) ∧ m ≤ 20 ∧ ∀ H' r, Ex H H' → RingV H' r (ringO (m + 1) o) → Q r H'
theorem ok_ringOf {f : Addr} {fd : FuncData} (F : FnP K "ring_of" sRingOf f fd) (CK : Cal P w K mg base 6 "check_sized_differences" ["many", "one"] spCkDiffs) (CC : Cal P w K mg base 3 "ring_in" ["one"] spRingIn) : FnOk P w K mg base CX0 7 f fd ["many", "one"] spApiRing := by
  refine F.ok scRingOf (fun vs H Q E h => ?_) (fun cdv A outer s H vs Q E hr h => ?_)
  · obtain ⟨m, v, o, rfl, _⟩ := h
    rfl
  · obtain ⟨m, v, o, rfl, hv, hg, hm, q⟩ := h
    refine ⟨_, pss_cons (ps_expr (pe_fn CK hr (by decide) (by rfl) (pa_cons (pv 0) (pa_cons (pv 1) pa_nil)))) (pss_one (ps_ret (pe_fn CC hr (by decide) (by rfl) (pa_cons (pv 1) pa_nil)))), ?_⟩
    exact ⟨_, rfl, _, rfl, m, v, o, rfl, hv, hg, hm, fun H1 e1 => ⟨_, rfl, m + 1, v, o, rfl, hv.tx (exT e1), hg, by omega, fun H2 r e2 h2 => q H2 r (e1.trans e2) h2⟩⟩
theorem cal_ringOf {f : Addr} {fd : FuncData} (F : FnP K "ring_of" sRingOf f fd) (CK : Cal P w K mg base 6 "check_sized_differences" ["many", "one"] spCkDiffs) (CC : Cal P w K mg base 3 "ring_in" ["one"] spRingIn) (hm : mg "ring_of" = some (.ref f)) : Cal P w K mg base 7 "ring_of" ["many", "one"] spApiRing :=
  ⟨f, fd, ok_ringOf F CK CC, hm, F.kp, F.bindsN fun _ _ _ _ _ _ us hl => match us, hl with | [_, _], _ => rfl⟩
def spApiVals : Sp := fun vs H Q _ => ∃ (m : Nat) (v : V) (o : Option Mx), vs = [.int m, v] ∧ MatO H v (m + 1) o ∧ (∀ f, o = some f → Dg (m + 1) f) ∧ m ≤ 20 ∧ ∀ H' r, Ex H H' → ValV H' r (valO (m + 1) (o.bind (clo (m + 1)))) → Q r H'
theorem ok_someValues {f : Addr} {fd : FuncData} (F : FnP K "some_values" sSomeValues f fd) (CK : Cal P w K mg base 6 "check_sized_differences" ["many", "one"] spCkDiffs) (CC : Cal P w K mg base 4 "closed_by" ["one"] spClosed) (CV : Cal P w K mg base 2 "values_held_by" ["closed"] spValues) : FnOk P w K mg base CX0 7 f fd ["many", "one"] spApiVals := by
  refine F.ok scSomeValues (fun vs H Q E h => ?_) (fun cdv A outer s H vs Q E hr h => ?_)
  · obtain ⟨m, v, o, rfl, _⟩ := h
    rfl
  · obtain ⟨m, v, o, rfl, hv, hg, hm, q⟩ := h
    refine ⟨_, pss_cons (ps_expr (pe_fn CK hr (by decide) (by rfl) (pa_cons (pv 0) (pa_cons (pv 1) pa_nil)))) (pss_one (ps_ret (pe_fn CV hr (by decide) (by rfl) (pa_cons (pe_fn CC hr (by decide) (by rfl) (pa_cons (pv 1) pa_nil)) pa_nil)))), ?_⟩
    refine rd_seq ?_
    refine rd_drop ?_
    refine ⟨_, rfl, _, rfl, m, v, o, rfl, hv, hg, hm, fun H1 e1 => ?_⟩
    refine rd_ret ?_
    refine rd_c1 ?_
    refine ⟨_, rfl, m + 1, v, o, rfl, hv.tx (exT e1), by omega, fun H2 r e2 h2 => ?_⟩
    exact ⟨m + 1, r, o.bind (clo (m + 1)), rfl, h2, by omega, by omega, fun H3 r3 e3 h3 => q H3 r3 ((e1.trans e2).trans e3) h3⟩
theorem cal_someValues {f : Addr} {fd : FuncData} (F : FnP K "some_values" sSomeValues f fd) (CK : Cal P w K mg base 6 "check_sized_differences" ["many", "one"] spCkDiffs) (CC : Cal P w K mg base 4 "closed_by" ["one"] spClosed) (CV : Cal P w K mg base 2 "values_held_by" ["closed"] spValues) (hm : mg "some_values" = some (.ref f)) :
    Cal P w K mg base 7 "some_values" ["many", "one"] spApiVals :=
  ⟨f, fd, ok_someValues F CK CC CV, hm, F.kp, F.bindsN fun _ _ _ _ _ _ us hl => match us, hl with | [_, _], _ => rfl⟩
def spApiHold : Sp := fun vs H Q _ => ∃ (v u : V) (o : Option Mx) (ns : List Int), vs = [.int ns.length, v, u] ∧ MatO H v (ns.length + 1) o ∧ (∀ f, o = some f → Dg (ns.length + 1) f) ∧ Ints H u ns ∧ ns.length ≤ 20 ∧ ∀ H', Ex H H' → Q (.bl (holdO (ns.length + 1) (vfn ns) o)) H'
theorem ok_differencesHold {f : Addr} {fd : FuncData} (F : FnP K "differences_hold" sDifferencesHold f fd) (CK : Cal P w K mg base 6 "check_sized_differences" ["many", "one"] spCkDiffs) (CV : Cal P w K mg base 2 "check_values_of" ["many", "value"] spCkVals) (CH : Cal P w K mg base 2 "hold_differences" ["many", "one", "values"] spHoldD) :
    FnOk P w K mg base CX0 7 f fd ["many", "one", "values"] spApiHold := by
  refine F.ok scDifferencesHold (fun vs H Q E h => ?_) (fun cdv A outer s H vs Q E hr h => ?_)
  · obtain ⟨v, u, o, ns, rfl, _⟩ := h
    rfl
  · obtain ⟨v, u, o, ns, rfl, hv, hg, hu, hl, q⟩ := h
    refine ⟨_, pss_cons (ps_expr (pe_fn CK hr (by decide) (by rfl) (pa_cons (pv 0) (pa_cons (pv 1) pa_nil)))) (pss_cons (ps_expr (pe_fn CV hr (by decide) (by rfl) (pa_cons (pv 0) (pa_cons (pv 2) pa_nil))))
      (pss_one (ps_ret (pe_fn CH hr (by decide) (by rfl) (pa_cons (pv 0) (pa_cons (pv 1) (pa_cons (pv 2) pa_nil))))))), ?_⟩
    refine ⟨_, rfl, _, rfl, ns.length, v, o, rfl, hv, hg, hl, fun H1 e1 => ?_⟩
    refine ⟨_, rfl, _, rfl, u, ns, rfl, hu.tx (exT e1), hl, fun H2 e2 => ?_⟩
    have e12 := e1.trans e2
    exact ⟨_, rfl, _, rfl, _, rfl, ns.length, v, u, o, ns, rfl, hv.tx (exT e12), hu.tx (exT e12), rfl, hl, fun H3 e3 => q H3 (e12.trans e3)⟩
theorem cal_differencesHold {f : Addr} {fd : FuncData} (F : FnP K "differences_hold" sDifferencesHold f fd) (CK : Cal P w K mg base 6 "check_sized_differences" ["many", "one"] spCkDiffs) (CV : Cal P w K mg base 2 "check_values_of" ["many", "value"] spCkVals) (CH : Cal P w K mg base 2 "hold_differences" ["many", "one", "values"] spHoldD)
    (hm : mg "differences_hold" = some (.ref f)) : Cal P w K mg base 7 "differences_hold" ["many", "one", "values"] spApiHold :=
  ⟨f, fd, ok_differencesHold F CK CV CH, hm, F.kp, F.bindsN fun _ _ _ _ _ _ us hl => match us, hl with | [_, _, _], _ => rfl⟩
end
end K38
set_option maxHeartbeats 4000000
/-! Walks: the law's springs: what is drawn. -/
namespace K38
open PySem PySem.Spec PyProof.Rows L2 RZ
open Evl (Ex)
/-- all objects but the one at p stand -/
def ExB (p : Addr) (H H' : Hp) : Prop := ∀ a o, a ≠ p → H a = some o → H' a = some o
theorem ExB.refl (p : Addr) (H : Hp) : ExB p H H := fun _ _ _ h => h
theorem ExB.trans {p : Addr} {H H1 H2 : Hp} (a : ExB p H H1) (b : ExB p H1 H2) : ExB p H H2 := fun x o n h => b x o n (a x o n h)
theorem exB {p : Addr} {H H' : Hp} (e : Ex H H') : ExB p H H' := fun a o _ h => e a o h
theorem ExB.set {p : Addr} {H H' : Hp} {o : HO} (e : ExB p H H') : ExB p H (upd H' p o) := fun a u n h => by
  rw [upd_ne n]
  exact e a u n h
theorem ExB.mut {p l : Addr} {H H' : Hp} {o : HO} (e : ExB p H H') (h : H l = none) : ExB p H (upd H' l o) := fun a u n ha => by
  rw [upd_ne (by rintro rfl; rw [h] at ha; cases ha)]
  exact e a u n ha
/-- the three numbers of a spring -/
def SpA (H : Hp) (p : Addr) : Prop := ∃ s0 s1 s2 : Int, H p = some (.lst [.int s0, .int s1, .int s2])
theorem SpA.ex {p : Addr} {H H' : Hp} (e : Ex H H') (h : SpA H p) : SpA H' p := let ⟨a, b, c, q⟩ := h; ⟨a, b, c, e _ _ q⟩
theorem SpA.upd {p l : Addr} {H : Hp} {o : HO} (h : SpA H p) (n : p ≠ l) : SpA (upd H l o) p := let ⟨a, b, c, q⟩ := h; ⟨a, b, c, by rw [upd_ne n]; exact q⟩
theorem SpA.ne {p l : Addr} {H : Hp} (h : SpA H p) (n : H l = none) : p ≠ l := by
  obtain ⟨_, _, _, q⟩ := h
  rintro rfl
  rw [n] at q
  cases q
theorem SpA.tx {p : Addr} {H H' : Hp} (h : SpA H p) (e : ExB p H H') : Tx H H' := fun a xs q => by
  obtain ⟨_, _, _, q1⟩ := h
  exact e a _ (by rintro rfl; rw [q1] at q; cases q) q
theorem rd_ixL {K : PySem.W.Frag} {σ : L2.St} {H : Hp} {Q : VK} {i : Nat} {a : Addr} {xs : List V} {v : V} (j : Nat) (h0 : σ[i]? = some (some (.ref a))) (ha : H a = some (.lst xs)) (hj : xs[j]? = some v) (q : Q v H) : tOp (rIxL K) (tVar i) (tC (.int (j : Int))) σ H Q :=
  ⟨_, h0, ixL ha hj q⟩
section
variable {P : Program} {w : World} {K : PySem.W.Frag} {mg : Str → Option Value} {base : Heap}
/-! ### draw -/
def spDraw : Sp := fun vs H Q _ => ∃ (p : Addr) (h : Int), vs = [.ref p, .int h] ∧ SpA H p ∧ 0 < h ∧ h < 1073741824 ∧ ∀ (H' : Hp) (k : Int), ExB p H H' → SpA H' p → 0 ≤ k → k < h → Q (.int k) H'
theorem ok_draw {f : Addr} {fd : FuncData} (F : FnP K "_law_draw" sLDraw f fd) (B : Bl mg) : FnOk P w K mg base CX0 1 f fd ["_law_spring_here", "_law_high"] spDraw := by
  refine F.ok scLDraw (fun vs H Q E h => ?_) (fun cdv A outer s H vs Q E hr h => ?_)
  · obtain ⟨p, h, rfl, _⟩ := h
    rfl
  · obtain ⟨p, h, rfl, ⟨s0, s1, s2, hp⟩, h1, h2, q⟩ := h
    have nd := scLDraw.nd
    refine ⟨_, pss_cons (ps_if (pt_cmpR op_gt (pe_ix (r := rIxL K) ix_list (pv 0) pe_int (fun _ _ => rfl)) pe_int (nomark _))
        (pss_cons (ps_asg (pe_callB call_divmod (by rfl) B.divmod bt_divmod (pa_cons (pe_ix (r := rIxL K) ix_list (pv 0) pe_int (fun _ _ => rfl)) (pa_cons (pv 1) pa_nil)))
          (pg_tup rfl (pgs_cons (pg_sub (pv 0) pe_int set_list) (pgs_cons (pg_name (i := 2) nd rfl (.inl rfl)) pgs_nil)))) (pss_one (ps_ret (pv 2)))) pss_nil)
      (pss_cons (ps_asg (pe_op op_add (pe_ix (r := rIxL K) ix_list (pv 0) pe_int (fun _ _ => rfl)) pe_int) (pg_sub (pv 0) pe_int set_list))
      (pss_cons (ps_set (i := 3) nd rfl (.inl rfl) (pe_op op_mod (pe_callTy call_int1 (by rfl) B.int bt_int (pa_cons (pe_op op_add (pe_ix (r := rIxL K) ix_list (pv 0) pe_int (fun _ _ => rfl)) (pe_op op_mul pe_int (pe_ix (r := rIxL K) ix_list (pv 0) pe_int (fun _ _ => rfl)))) pa_nil)) pe_int))
      (pss_cons (ps_asg (pe_op op_mod (pe_callTy call_int1 (by rfl) B.int bt_int (pa_cons (pe_op op_add (pe_op op_mul (pv 3) (pe_op op_add (pe_op op_mod (pe_callTy call_int1 (by rfl) B.int bt_int (pa_cons (pv 3) pa_nil)) pe_int) pe_int))
          (pe_op op_mul pe_int (pe_ix (r := rIxL K) ix_list (pv 0) pe_int (fun _ _ => rfl)))) pa_nil)) pe_int) (pg_sub (pv 0) pe_int set_list))
      (pss_one (ps_ret (pe_op op_mod (pe_callTy call_int1 (by rfl) B.int bt_int (pa_cons (pe_op op_fdiv (pe_ix (r := rIxL K) ix_list (pv 0) pe_int (fun _ _ => rfl)) pe_int) pa_nil)) (pv 1))))))), ?_⟩
    refine rd_seq ?_
    refine rd_ifs ?_
    refine rd_b ?_
    refine rd_op ?_
    refine rd_ixL 0 rfl hp rfl ?_
    refine ⟨_, _, rfl, rfl, _, rfl, ?_⟩
    by_cases hpos : 0 < s0
    · rw [decide_eq_true hpos]
      refine iteT ?_
      refine rd_seq ?_
      refine rd_asg ?_
      refine rd_cb ?_
      refine rd_cons ?_
      refine rd_ixL 0 rfl hp rfl ?_
      refine rd_c1 ?_
      refine ⟨_, rfl, _, _, rfl, ⟨h1, h2⟩, fun T hT => ?_⟩
      have npT : p ≠ T := ne_of_none hp hT
      refine ⟨T, _, rfl, SqT.of upd_same, rfl, _, _, rfl, ?_⟩
      refine ⟨_, rfl, p, _, 0, 0, rfl, rfl, by rw [upd_ne npT]; exact hp, rfl, ?_⟩
      refine ⟨_, _, rfl, ?_⟩
      refine ⟨rfl, _, rfl, ?_⟩
      exact q _ _ (ExB.set (exB (Ex.new hT))) ⟨_, _, _, upd_same⟩ (Int.emod_nonneg _ (by omega)) (Int.emod_lt_of_pos _ h1)
    · rw [decide_eq_false hpos]
      refine iteF (rd_next ?_)
      refine rd_seq ?_
      refine rd_asg ?_
      refine rd_op ?_
      refine rd_ixL 2 rfl hp rfl ?_
      refine ⟨_, _, rfl, rfl, ?_⟩
      refine ⟨_, rfl, p, _, 2, 2, rfl, rfl, hp, rfl, ?_⟩
      have hp1 : (upd H p (.lst [.int s0, .int s1, .int (s2 + 1)])) p = some (.lst [.int s0, .int s1, .int (s2 + 1)]) := upd_same
      refine rd_seq ?_
      refine rd_set ?_
      refine rd_op ?_
      refine rd_cb ?_
      refine rd_c1 ?_
      refine rd_op ?_
      refine rd_ixL 1 rfl hp1 rfl ?_
      refine rd_op ?_
      refine rd_c ?_
      refine rd_ixL 2 rfl hp1 rfl ?_
      refine ⟨_, _, rfl, rfl, .inl ⟨by decide, by decide⟩, _, _, rfl, rfl, ?_⟩
      refine .inl ⟨_, rfl, ?_⟩
      refine ⟨_, _, rfl, rfl, (show (0 : Int) < 2147483477 by decide), ?_⟩
      have hlt : (s1 + 70001 * (s2 + 1)) % 2147483477 < 2147483477 := Int.emod_lt_of_pos _ (by decide)
      have hge : 0 ≤ (s1 + 70001 * (s2 + 1)) % 2147483477 := Int.emod_nonneg _ (by decide)
      refine rd_seq ?_
      refine rd_asg ?_
      refine rd_op ?_
      refine rd_cb ?_
      refine rd_c1 ?_
      refine rd_op ?_
      refine rd_op ?_
      refine ⟨_, rfl, ?_⟩
      refine rd_op ?_
      refine rd_op ?_
      refine ⟨_, rfl, .inl ⟨_, rfl, ?_⟩⟩
      refine ⟨_, _, rfl, rfl, (show (0 : Int) < 4999 by decide), ?_⟩
      refine ⟨_, _, rfl, rfl, ?_⟩
      refine ⟨_, _, rfl, rfl, .inl ⟨by omega, by omega⟩, ?_⟩
      refine rd_op ?_
      refine rd_c ?_
      refine rd_ixL 2 rfl hp1 rfl ?_
      refine ⟨_, _, rfl, rfl, .inl ⟨by decide, by decide⟩, _, _, rfl, rfl, ?_⟩
      refine .inl ⟨_, rfl, ?_⟩
      refine ⟨_, _, rfl, rfl, (show (0 : Int) < 2147483477 by decide), ?_⟩
      refine ⟨_, rfl, p, _, 1, 1, rfl, rfl, hp1, rfl, ?_⟩
      refine rd_ret ?_
      refine rd_op ?_
      refine rd_cb ?_
      refine rd_c1 ?_
      refine rd_op ?_
      refine rd_ixL 1 rfl upd_same rfl ?_
      refine ⟨_, _, rfl, rfl, ⟨by decide, by decide⟩, .inl ⟨_, rfl, ?_⟩⟩
      refine ⟨_, rfl, _, _, rfl, rfl, h1, ?_⟩
      exact q _ _ (ExB.set (ExB.set (ExB.refl p H))) ⟨_, _, _, upd_same⟩ (Int.emod_nonneg _ (by omega)) (Int.emod_lt_of_pos _ h1)
theorem cal_draw {f : Addr} {fd : FuncData} (F : FnP K "_law_draw" sLDraw f fd) (B : Bl mg) (hm : mg "_law_draw" = some (.ref f)) : Cal P w K mg base 1 "_law_draw" ["_law_spring_here", "_law_high"] spDraw :=
  ⟨f, fd, ok_draw F B, hm, F.kp, F.bindsN fun _ _ _ _ _ _ us hl => match us, hl with | [_, _], _ => rfl⟩
/-! ### pick -/
def spPick : Sp := fun vs H Q _ => ∃ (p : Addr) (t : V) (ns : List Int), vs = [.ref p, t] ∧ SpA H p ∧ Ints H t ns ∧ 0 < ns.length ∧ ns.length < 1000 ∧ ∀ (H' : Hp) (k : Int), ExB p H H' → SpA H' p → k ∈ ns → Q (.int k) H'
theorem ok_pick {f : Addr} {fd : FuncData} (F : FnP K "_law_pick" sLPick f fd) (B : Bl mg) (C : Cal P w K mg base 1 "_law_draw" ["_law_spring_here", "_law_high"] spDraw) : FnOk P w K mg base CX0 2 f fd ["_law_spring_here", "_law_some"] spPick := by
  refine F.ok scLPick (fun vs H Q E h => ?_) (fun cdv A outer s H vs Q E hr h => ?_)
  · obtain ⟨p, t, ns, rfl, _⟩ := h
    rfl
  · obtain ⟨p, t, ns, rfl, hp, ht, h1, h2, q⟩ := h
    refine ⟨_, pss_one (ps_ret (pe_ix (r := rIxT K) ix_tup (pv 1) (pe_fn C hr (by decide) (by rfl) (pa_cons (pv 0) (pa_cons (pe_callB call_len_seq (by rfl) B.len PySem.boot_len (pa_cons (pv 1) pa_nil)) pa_nil))) (fun _ _ => rfl))), ?_⟩
    have ht0 := ht
    obtain ⟨a, rfl, ha⟩ := ht
    have hml : (ns.map V.int).length = ns.length := List.length_map _
    refine ⟨_, rfl, _, rfl, _, rfl, a, _, rfl, .inr (SqT.of ha), ?_⟩
    refine ⟨p, (((ns.map V.int).length : Nat) : Int), rfl, hp, by omega, by omega, fun H1 k e1 hp1 k1 k2 => ?_⟩
    rw [hml] at k2
    obtain ⟨m, rfl⟩ : ∃ m : Nat, k = (m : Int) := ⟨k.toNat, by omega⟩
    have e : ns[m]? = some ns[m] := List.getElem?_eq_getElem (by omega)
    refine ixT (ht0.tx (hp.tx e1)) (v := .int ns[m]) ?_ (q H1 _ e1 hp1 (List.getElem_mem _))
    rw [List.getElem?_map, e]
    rfl
theorem cal_pick {f : Addr} {fd : FuncData} (F : FnP K "_law_pick" sLPick f fd) (B : Bl mg) (C : Cal P w K mg base 1 "_law_draw" ["_law_spring_here", "_law_high"] spDraw) (hm : mg "_law_pick" = some (.ref f)) : Cal P w K mg base 2 "_law_pick" ["_law_spring_here", "_law_some"] spPick :=
  ⟨f, fd, ok_pick F B C, hm, F.kp, F.bindsN fun _ _ _ _ _ _ us hl => match us, hl with | [_, _], _ => rfl⟩
/-! ### size -/
def spSize : Sp := fun vs H Q _ => ∃ p : Addr, vs = [.ref p] ∧ SpA H p ∧ ∀ (H' : Hp) (m : Nat), ExB p H H' → SpA H' p → m ≤ 20 → Q (.int m) H'
theorem ok_size {f : Addr} {fd : FuncData} (F : FnP K "_law_size" sLSize f fd) (C : Cal P w K mg base 1 "_law_draw" ["_law_spring_here", "_law_high"] spDraw) (CP : Cal P w K mg base 2 "_law_pick" ["_law_spring_here", "_law_some"] spPick) : FnOk P w K mg base CX0 3 f fd ["_law_spring_here"] spSize := by
  refine F.ok scLSize (fun vs H Q E h => ?_) (fun cdv A outer s H vs Q E hr h => ?_)
  · obtain ⟨p, rfl, _⟩ := h
    rfl
  · obtain ⟨p, rfl, hp, q⟩ := h
    refine ⟨_, pss_cons (ps_if (pt_cmpR op_eq (pe_fn C hr (by decide) (by rfl) (pa_cons (pv 0) (pa_cons pe_int pa_nil))) pe_int (nomark _)) (pss_one (ps_ret (pe_op op_add pe_int (pe_fn C hr (by decide) (by rfl) (pa_cons (pv 0) (pa_cons pe_int pa_nil)))))) pss_nil)
      (pss_one (ps_ret (pe_fn CP hr (by decide) (by rfl) (pa_cons (pv 0) (pa_cons (pe_tup (pa_cons pe_int (pa_cons pe_int (pa_cons pe_int (pa_cons pe_int (pa_cons pe_int (pa_cons pe_int (pa_cons pe_int (pa_cons pe_int pa_nil))))))))) pa_nil))))), ?_⟩
    refine rd_seq ?_
    refine rd_ifs ?_
    refine rd_b ?_
    refine ⟨_, rfl, p, 24, rfl, hp, by decide, by decide, fun H1 k e1 hp1 k1 k2 => ?_⟩
    refine ⟨rfl, _, rfl, ?_⟩
    by_cases h23 : V.int k = V.int 23
    · rw [decide_eq_true h23]
      refine iteT ?_
      refine rd_ret ?_
      refine rd_op ?_
      refine rd_c ?_
      refine ⟨_, rfl, p, 15, rfl, hp1, by decide, by decide, fun H2 j e2 hp2 j1 j2 => ?_⟩
      refine ⟨_, _, rfl, rfl, ?_⟩
      have := q H2 (6 + j).toNat (e1.trans e2) hp2 (by omega)
      rw [show (((6 + j).toNat : Nat) : Int) = 6 + j by omega] at this
      exact this
    · rw [decide_eq_false h23]
      refine iteF (rd_next ?_)
      refine rd_ret ?_
      refine ⟨_, rfl, ?_⟩
      refine rd_c1 ?_
      refine ⟨by show 8 ≤ sizeLine; decide, fun T hT => ?_⟩
      refine ⟨p, _, [2, 3, 1, 2, 3, 0, 4, 5], rfl, hp1.upd (hp1.ne hT), ⟨T, rfl, upd_same⟩, by decide, by decide, fun H2 j e2 hp2 hj => ?_⟩
      have hb : 0 ≤ j ∧ j ≤ 5 := (show ∀ j ∈ [2, 3, 1, 2, 3, 0, 4, (5 : Int)], 0 ≤ j ∧ j ≤ 5 by decide) j hj
      have := q H2 j.toNat ((e1.trans (exB (Ex.new hT))).trans e2) hp2 (by omega)
      rw [show ((j.toNat : Nat) : Int) = j by omega] at this
      exact this
theorem cal_size {f : Addr} {fd : FuncData} (F : FnP K "_law_size" sLSize f fd) (C : Cal P w K mg base 1 "_law_draw" ["_law_spring_here", "_law_high"] spDraw) (CP : Cal P w K mg base 2 "_law_pick" ["_law_spring_here", "_law_some"] spPick) (hm : mg "_law_size" = some (.ref f)) :
    Cal P w K mg base 3 "_law_size" ["_law_spring_here"] spSize :=
  ⟨f, fd, ok_size F C CP, hm, F.kp, F.bindsN fun _ _ _ _ _ _ us hl => match us, hl with | [_], _ => rfl⟩
end
end K38
set_option maxHeartbeats 4000000
/-! Walks: the law's spots, bounds, tables. -/
namespace K38
open PySem PySem.Spec PyProof.Rows L2 RZ
open Evl (Ex)
section
variable {P : Program} {w : World} {K : PySem.W.Frag} {mg : Str → Option Value} {base : Heap}
/-! ### spots -/
def spSpots : Sp := fun vs H Q _ => ∃ (p : Addr) (m : Nat), vs = [.ref p, .int m] ∧ SpA H p ∧ m ≤ 20 ∧ ∀ (H' : Hp) (r : V) (ns : List Int), ExB p H H' → SpA H' p → Ints H' r ns → ns.length = m → BndL 1000001 ns → Q r H'
theorem bndL_app {B : Int} {l : List Int} {x : Int} (h : BndL B l) (hx : -B ≤ x ∧ x ≤ B) : BndL B (l ++ [x]) := fun y hy => by
  rcases List.mem_append.mp hy with h1 | h1
  · exact h y h1
  · rw [List.mem_singleton.mp h1]
    exact hx
theorem ok_spots {f : Addr} {fd : FuncData} (F : FnP K "_law_spots" sLSpots f fd) (B : Bl mg) (C : Cal P w K mg base 1 "_law_draw" ["_law_spring_here", "_law_high"] spDraw) : FnOk P w K mg base CX0 2 f fd ["_law_spring_here", "_law_size_here"] spSpots := by
  refine F.ok scLSpots (fun vs H Q E h => ?_) (fun cdv A outer s H vs Q E hr h => ?_)
  · obtain ⟨p, m, rfl, _⟩ := h
    rfl
  · obtain ⟨p, m, rfl, hp, hm, q⟩ := h
    have nd := scLSpots.nd
    refine ⟨_, PSs.nox (pss_cons (ps_set (i := 2) nd rfl (.inl rfl) (pe_lst pa_nil))
      (pss_cons (ps_for PassesOwn.never rfl (pi_range1 (by rfl) B.range (pa_cons (pv 1) pa_nil)) (pg_name (i := 3) nd rfl (.inl rfl))
        (pss_cons (ps_set (i := 4) nd rfl (.inl rfl) (pe_cmpR op_eq (pe_fn C hr (by decide) (by rfl) (pa_cons (pv 0) (pa_cons pe_int pa_nil))) pe_int (nomark _)))
        (pss_one (ps_expr (pe_bm PySem.F.plainAttrs_list PySem.F.slot_list_append PySem.F.type_list_append mt_append (pv 2)
          (pa_cons (pe_ifExp (pt_val (pv 4)) (pe_op op_sub (pe_fn C hr (by decide) (by rfl) (pa_cons (pv 0) (pa_cons pe_int pa_nil))) pe_int) (pe_op op_sub (pe_fn C hr (by decide) (by rfl) (pa_cons (pv 0) (pa_cons pe_int pa_nil))) pe_int)) pa_nil))))))
      (pss_one (ps_ret (pe_callTy call_tuple_of (by rfl) B.tuple bt_tuple (pa_cons (pv 2) pa_nil)))))), ?_⟩
    refine rd_seq ?_
    refine rd_set ?_
    refine ⟨Nat.zero_le _, fun l hl => ?_⟩
    have hpl : p ≠ l := hp.ne hl
    refine rd_seq ?_
    refine tfor (J := Itr 0 m) (H1 := upd H l (.lst [])) (fun R r => ⟨_, rfl, (m : Int), rfl, by omega, by omega, r⟩) walk_rng0
      (fun i σ H' => ∃ y3 y4, σ = [some (.ref p), some (.int m), some (.ref l), y3, y4] ∧ ExB p H H' ∧ SpA H' p ∧ ∃ ns : List Int, H' l = some (.lst (ns.map V.int)) ∧ ns.length = i ∧ BndL 1000001 ns)
      ⟨none, none, rfl, exB (Ex.new hl), hp.upd hpl, [], upd_same, rfl, fun x hx => by cases hx⟩ (fun _ _ _ _ _ => trivial) (fun i x σ H1 H2 hi hP hY => ?_) (fun σ H1 hP => ?_)
    · obtain ⟨rfl, rfl⟩ := hY
      obtain ⟨y3, y4, rfl, e1, hp1, ns, hns, hnl, hnb⟩ := hP
      refine rd_gn ?_
      refine rd_seq ?_
      refine rd_set ?_
      refine rd_op ?_
      refine ⟨_, rfl, p, 16, rfl, hp1, by decide, by decide, fun H3 k e3 hp3 k1 k2 => ?_⟩
      refine ⟨rfl, ?_⟩
      refine rd_drop ?_
      have h3l := e3 l _ hpl.symm hns
      refine ⟨_, rfl, .inl ⟨rfl, _, SqL.of h3l⟩, ?_⟩
      refine rd_c1 ?_
      refine rd_if ?_
      refine ⟨_, rfl, _, rfl, ?_⟩
      have sm : (ns.map V.int).length < sizeLine := by rw [List.length_map, hnl]; exact sz21 (by omega)
      have fin : ∀ (H4 : Hp) (x : Int), ExB p H3 H4 → SpA H4 p → (-1000001 ≤ x ∧ x ≤ 1000001) → ∀ a b : Option V, rAppend (.ref l) [.int x] H4 (fun _ H5 => ∃ z3 z4, [some (.ref p), some (.int m), some (.ref l), a, b] = [some (.ref p), some (.int m), some (.ref l), z3, z4] ∧ ExB p H H5 ∧ SpA H5 p ∧ ∃ ns : List Int, H5 l = some (.lst (ns.map V.int)) ∧ ns.length = i + 1 ∧ BndL 1000001 ns) := fun H4 x e4 hp4 hx a b => by
        refine ⟨l, _, .int x, rfl, rfl, e4 l _ hpl.symm h3l, sm, _, _, rfl, ((e1.trans e3).trans e4).mut hl, hp4.upd hpl, ns ++ [x], ?_, by rw [List.length_append, hnl]; rfl, bndL_app hnb hx⟩
        rw [upd_same, List.map_append]
        rfl
      by_cases hk : V.int k = V.int 15
      · rw [decide_eq_true hk]
        refine iteT ?_
        refine rd_op ?_
        refine ⟨_, rfl, p, 2000003, rfl, hp3, by decide, by decide, fun H4 j e4 hp4 j1 j2 => ?_⟩
        exact ⟨_, _, rfl, rfl, fin H4 _ e4 hp4 (by omega) _ _⟩
      · rw [decide_eq_false hk]
        refine iteF ?_
        refine rd_op ?_
        refine ⟨_, rfl, p, 9, rfl, hp3, by decide, by decide, fun H4 j e4 hp4 j1 j2 => ?_⟩
        exact ⟨_, _, rfl, rfl, fin H4 _ e4 hp4 (by omega) _ _⟩
    · obtain ⟨y3, y4, rfl, e1, hp1, ns, hns, hnl, hnb⟩ := hP
      refine rd_ret ?_
      refine rd_cb ?_
      refine rd_c1 ?_
      refine ⟨_, rfl, l, _, rfl, .inl ⟨SqL.of hns, fun t ht => ?_⟩⟩
      exact q _ _ ns (e1.trans (exB (Ex.new ht))) (hp1.upd (hp1.ne ht)) ⟨t, rfl, upd_same⟩ hnl hnb
theorem cal_spots {f : Addr} {fd : FuncData} (F : FnP K "_law_spots" sLSpots f fd) (B : Bl mg) (C : Cal P w K mg base 1 "_law_draw" ["_law_spring_here", "_law_high"] spDraw) (hm : mg "_law_spots" = some (.ref f)) : Cal P w K mg base 2 "_law_spots" ["_law_spring_here", "_law_size_here"] spSpots :=
  ⟨f, fd, ok_spots F B C, hm, F.kp, F.bindsN fun _ _ _ _ _ _ us hl => match us, hl with | [_, _], _ => rfl⟩
/-! ### bound -/
def spBound : Sp := fun vs H Q _ => ∃ (p : Addr) (way share gap : Int), vs = [.ref p, .int way, .int share, .int gap] ∧ SpA H p ∧ -2000002 ≤ gap ∧ gap ≤ 2000002 ∧ ∀ (H' : Hp) (b : Bd), ExB p H H' → SpA H' p → (∀ x, b = some x → -2000010 ≤ x ∧ x ≤ 2000010) → Q (bV b) H'
theorem ok_bound {f : Addr} {fd : FuncData} (F : FnP K "_law_bound" sLBound f fd) (C : Cal P w K mg base 1 "_law_draw" ["_law_spring_here", "_law_high"] spDraw) (CP : Cal P w K mg base 2 "_law_pick" ["_law_spring_here", "_law_some"] spPick) :
    FnOk P w K mg base CX0 3 f fd ["_law_spring_here", "_law_way", "_law_share", "_law_gap"] spBound := by
  refine F.ok scLBound (fun vs H Q E h => ?_) (fun cdv A outer s H vs Q E hr h => ?_)
  · obtain ⟨p, a, b, c, rfl, _⟩ := h
    rfl
  · obtain ⟨p, way, share, gap, rfl, hp, g1, g2, q⟩ := h
    refine ⟨_, pss_cons (ps_if (pt_cmpR op_lt (pe_fn C hr (by decide) (by rfl) (pa_cons (pv 0) (pa_cons pe_int pa_nil))) (pv 2) (nomark _)) (pss_one (ps_ret pe_non)) pss_nil)
      (pss_cons (ps_if (pt_cmpR op_lt (pv 1) pe_int (nomark _)) (pss_one (ps_ret (pe_op op_add (pv 3) (pe_fn CP hr (by decide) (by rfl) (pa_cons (pv 0) (pa_cons (pe_tup (pa_cons pe_int (pa_cons pe_int (pa_cons pe_int (pa_cons pe_int (pa_cons pe_int (pa_cons pe_int (pa_cons pe_int (pa_cons pe_int pa_nil))))))))) pa_nil)))))) pss_nil)
      (pss_cons (ps_if (pt_cmpR op_lt (pv 1) pe_int (nomark _)) (pss_one (ps_ret (pe_op op_add (pv 3) (pe_fn CP hr (by decide) (by rfl) (pa_cons (pv 0) (pa_cons (pe_tup (pa_cons pe_int (pa_cons pe_int (pa_cons pe_int (pa_cons pe_int (pa_cons (pe_un un_neg pe_int) (pa_cons pe_int (pa_cons pe_int (pa_cons pe_int pa_nil))))))))) pa_nil)))))) pss_nil)
      (pss_one (ps_ret (pe_op op_sub (pe_fn C hr (by decide) (by rfl) (pa_cons (pv 0) (pa_cons pe_int pa_nil))) pe_int))))), ?_⟩
    have pk : ∀ {H1 : Hp} (ns : List Int) {T : Addr}, ExB p H H1 → SpA H1 p → H1 T = none → 0 < ns.length → ns.length < 1000 → (∀ j ∈ ns, -1 ≤ j ∧ j ≤ 8) → spPick [.ref p, .ref T] (upd H1 T (.tup (ns.map V.int))) (fun y H2 => rI0 (fun i j => V.int (i + j)) (.int gap) y H2 Q) E0 := fun {H1} ns {T} e1 hp1 hT l1 l2 hb => by
      refine ⟨p, .ref T, ns, rfl, hp1.upd (hp1.ne hT), ⟨T, rfl, upd_same⟩, l1, l2, fun H2 j e2 hp2 hj => ?_⟩
      have := hb j hj
      exact ⟨_, _, rfl, rfl, q H2 (some (gap + j)) ((e1.trans (exB (Ex.new hT))).trans e2) hp2 fun x hx => by cases hx; omega⟩
    refine rd_seq ?_
    refine rd_ifs ?_
    refine rd_b ?_
    refine ⟨_, rfl, p, 4, rfl, hp, by decide, by decide, fun H1 k e1 hp1 k1 k2 => ?_⟩
    refine ⟨_, rfl, _, _, rfl, rfl, _, rfl, ?_⟩
    by_cases c1 : k < share
    · rw [decide_eq_true c1]
      exact iteT (q H1 none e1 hp1 fun x hx => by cases hx)
    · rw [decide_eq_false c1]
      refine iteF (rd_next ?_)
      refine rd_seq ?_
      refine rd_ifs ?_
      refine rd_b ?_
      refine ⟨_, rfl, _, _, rfl, rfl, _, rfl, ?_⟩
      by_cases c2 : way < 8
      · rw [decide_eq_true c2]
        refine iteT ?_
        refine rd_ret ?_
        refine rd_op ?_
        refine ⟨_, rfl, _, rfl, ?_⟩
        refine rd_c1 ?_
        exact ⟨by show 8 ≤ sizeLine; decide, fun T hT => pk [0, 1, 0, 2, 5, 0, 3, 1] e1 hp1 hT (by decide) (by decide) (by decide)⟩
      · rw [decide_eq_false c2]
        refine iteF (rd_next ?_)
        refine rd_seq ?_
        refine rd_ifs ?_
        refine rd_b ?_
        refine ⟨_, rfl, _, _, rfl, rfl, _, rfl, ?_⟩
        by_cases c3 : way < 11
        · rw [decide_eq_true c3]
          refine iteT ?_
          refine rd_ret ?_
          refine rd_op ?_
          refine ⟨_, rfl, _, rfl, ?_⟩
          refine rd_c1 ?_
          exact ⟨_, rfl, by show 8 ≤ sizeLine; decide, fun T hT => pk [0, 1, 3, 0, -1, 2, 0, 1] e1 hp1 hT (by decide) (by decide) (by decide)⟩
        · rw [decide_eq_false c3]
          refine iteF (rd_next ?_)
          refine rd_ret ?_
          refine rd_op ?_
          refine ⟨_, rfl, p, 11, rfl, hp1, by decide, by decide, fun H2 j e2 hp2 j1 j2 => ?_⟩
          exact ⟨_, _, rfl, rfl, q H2 (some (j - 4)) (e1.trans e2) hp2 fun x hx => by cases hx; omega⟩
theorem cal_bound {f : Addr} {fd : FuncData} (F : FnP K "_law_bound" sLBound f fd) (C : Cal P w K mg base 1 "_law_draw" ["_law_spring_here", "_law_high"] spDraw) (CP : Cal P w K mg base 2 "_law_pick" ["_law_spring_here", "_law_some"] spPick) (hm : mg "_law_bound" = some (.ref f)) :
    Cal P w K mg base 3 "_law_bound" ["_law_spring_here", "_law_way", "_law_share", "_law_gap"] spBound :=
  ⟨f, fd, ok_bound F C CP, hm, F.kp, F.bindsN fun _ _ _ _ _ _ us hl => match us, hl with | [_, _, _, _], _ => rfl⟩
end
end K38
set_option maxHeartbeats 4000000
/-! Walks: the law's tables of bounds; near spots; what is whole. -/
namespace K38
open PySem PySem.Spec PyProof.Rows L2 RZ
open Evl (Ex)
def vB : V → Bd
  | .int x => some x
  | _ => none
theorem vB_bV (b : Bd) : vB (bV b) = b := by cases b <;> rfl
section
variable {P : Program} {w : World} {K : PySem.W.Frag} {mg : Str → Option Value} {base : Heap}
/-! ### about -/
/-- a row that may stand at i -/
def RowAt (H : Hp) (m i : Nat) (y : V) : Prop := ∃ g : Nat → Bd, Row H y (m + 1) g ∧ g i = some 0 ∧ ∀ j, j < m + 1 → ∀ x, g j = some x → -2000010 ≤ x ∧ x ≤ 2000010
theorem RowAt.tx {H H' : Hp} {m i : Nat} {y : V} (e : Tx H H') (h : RowAt H m i y) : RowAt H' m i y := let ⟨g, a, b, c⟩ := h; ⟨g, a.tx e, b, c⟩
theorem mat_rows {H : Hp} {m : Nat} {v : V} {ys : List V} (hl : ys.length = m + 1) (ht : Tup H v ys) (h : ∀ i y, ys[i]? = some y → RowAt H m i y) : ∃ f : Mx, Mat H v (m + 1) f ∧ Dg (m + 1) f ∧ Bnd 2000010 (m + 1) f := by
  have h2 : ∀ i : Nat, ∃ g : Nat → Bd, ∀ y, ys[i]? = some y → Row H y (m + 1) g ∧ g i = some 0 ∧ ∀ j, j < m + 1 → ∀ x, g j = some x → -2000010 ≤ x ∧ x ≤ 2000010 := fun i => by
    cases e : ys[i]? with
    | none => exact ⟨fun _ => none, fun y q => by cases q⟩
    | some z =>
      obtain ⟨g, a, b, c⟩ := h i z e
      exact ⟨g, fun y q => by cases q; exact ⟨a, b, c⟩⟩
  obtain ⟨f, hf⟩ := Classical.axiomOfChoice h2
  have get : ∀ i, i < m + 1 → ∃ y, ys[i]? = some y := fun i hi => ⟨_, List.getElem?_eq_getElem (by omega)⟩
  refine ⟨f, mat_of hl ht fun i y e => (hf i y e).1, fun i hi => ?_, fun i j hi hj b e => ?_⟩
  · obtain ⟨y, e⟩ := get i hi
    exact (hf i y e).2.1
  · obtain ⟨y, e2⟩ := get i hi
    exact (hf i y e2).2.2 j hj b e
def spAbout : Sp := fun vs H Q _ => ∃ (p : Addr) (v : V) (ns : List Int), vs = [.ref p, .int ns.length, v] ∧ SpA H p ∧ Ints H v ns ∧ ns.length ≤ 20 ∧ BndL 1000001 ns ∧
  ∀ (H' : Hp) (r : V) (o : Option Mx), ExB p H H' → SpA H' p → MatO H' r (ns.length + 1) o → (∀ f, o = some f → Dg (ns.length + 1) f ∧ Bnd 2000010 (ns.length + 1) f) → Q r H'
theorem ok_about {f : Addr} {fd : FuncData} (F : FnP K "_law_about" sLAbout f fd) (B : Bl mg) (C : Cal P w K mg base 1 "_law_draw" ["_law_spring_here", "_law_high"] spDraw) (CB : Cal P w K mg base 3 "_law_bound" ["_law_spring_here", "_law_way", "_law_share", "_law_gap"] spBound) :
    FnOk P w K mg base CX0 4 f fd ["_law_spring_here", "_law_size_here", "_law_base"] spAbout := by
  refine F.ok scLAbout (fun vs H Q E h => ?_) (fun cdv A outer s H vs Q E hr h => ?_)
  · obtain ⟨p, v, ns, rfl, _⟩ := h
    rfl
  · obtain ⟨p, v, ns, rfl, hp, hv, hl, hb, q⟩ := h
    have nd := scLAbout.nd
    refine ⟨_, PSs.nox (pss_cons (ps_asg (pe_tup (pa_cons (pe_fn C hr (by decide) (by rfl) (pa_cons (pv 0) (pa_cons pe_int pa_nil))) (pa_cons (pe_fn C hr (by decide) (by rfl) (pa_cons (pv 0) (pa_cons pe_int pa_nil)))
          (pa_cons (pe_op op_catA (pe_tup (pa_cons pe_int pa_nil)) (pv 2)) (pa_cons (pe_lst pa_nil) pa_nil)))))
        (pg_tup rfl (pgs_cons (pg_name (i := 3) nd rfl (.inl rfl)) (pgs_cons (pg_name (i := 4) nd rfl (.inl rfl)) (pgs_cons (pg_name (i := 5) nd rfl (.inl rfl)) (pgs_cons (pg_name (i := 6) nd rfl (.inl rfl)) pgs_nil))))))
      (pss_cons (ps_if (pt_cmpR op_eq (pv 3) pe_int (nomark _)) (pss_one (ps_ret pe_non)) pss_nil)
      (pss_cons (ps_for PassesOwn.never rfl (pi_range1 (by rfl) B.range (pa_cons (pe_op op_add (pv 1) pe_int) pa_nil)) (pg_name (i := 7) nd rfl (.inl rfl))
        (pss_cons (ps_set (i := 8) nd rfl (.inl rfl) (pe_lst pa_nil))
        (pss_cons (ps_for PassesOwn.never rfl (pi_range1 (by rfl) B.range (pa_cons (pe_op op_add (pv 1) pe_int) pa_nil)) (pg_name (i := 9) nd rfl (.inl rfl))
          (pss_one (ps_expr (pe_bm PySem.F.plainAttrs_list PySem.F.slot_list_append PySem.F.type_list_append mt_append (pv 8) (pa_cons (pe_ifExp (pt_cmpR op_eq (pv 7) (pv 9) (nomark _)) pe_int
            (pe_fn CB hr (by decide) (by rfl) (pa_cons (pv 0) (pa_cons (pv 3) (pa_cons (pv 4) (pa_cons (pe_op op_sub (pe_ix (r := rIxT K) ix_tup (pv 5) (pv 7) (fun _ _ => rfl)) (pe_ix (r := rIxT K) ix_tup (pv 5) (pv 9) (fun _ _ => rfl))) pa_nil)))))) pa_nil)))))
        (pss_one (ps_expr (pe_bm PySem.F.plainAttrs_list PySem.F.slot_list_append PySem.F.type_list_append mt_append (pv 6) (pa_cons (pe_callTy call_tuple_of (by rfl) B.tuple bt_tuple (pa_cons (pv 8) pa_nil)) pa_nil)))))))
      (pss_one (ps_ret (pe_callTy call_tuple_of (by rfl) B.tuple bt_tuple (pa_cons (pv 6) pa_nil))))))), ?_⟩
    generalize hm : ns.length = m at q hl ⊢
    refine rd_seq ?_
    refine rd_asg ?_
    refine ⟨_, rfl, p, 13, rfl, hp, by decide, by decide, fun H1 way e1 hp1 k1 k2 => ?_⟩
    refine ⟨_, rfl, p, 4, rfl, hp1, by decide, by decide, fun H2 share e2 hp2 k3 k4 => ?_⟩
    refine ⟨by show 1 ≤ sizeLine; decide, fun T hT => ?_⟩
    refine ⟨_, rfl, ?_⟩
    have e12 := e1.trans e2
    have tx2 : Tx H H2 := hp.tx e12
    refine catA (xs := [.int 0]) (ys := ns.map V.int) ⟨T, rfl, upd_same⟩ ((Tup.tx tx2 hv).ex (Ex.new hT)) (by rw [List.length_map, hm]; exact Nat.le_of_lt (sz21 (show 1 + m ≤ 21 by omega))) fun H3 full e3 hfull => ?_
    refine ⟨Nat.zero_le _, fun L hL => ?_⟩
    refine ⟨by show 4 ≤ sizeLine; decide, fun T4 hT4 => ?_⟩
    refine ⟨T4, _, rfl, SqT.of upd_same, rfl, _, _, rfl, _, _, rfl, _, _, rfl, _, _, rfl, rfl, ?_⟩
    have eH3 : ExB p H H3 := (e12.trans (exB (Ex.new hT))).trans (exB e3)
    have hp3 : SpA H3 p := ((hp2.ex (Ex.new hT))).ex e3
    have hpL : p ≠ L := hp3.ne hL
    generalize hH4 : upd (upd H3 L (.lst [])) T4 (.tup [.int way, .int share, full, .ref L]) = H4
    have eH4 : Ex H3 H4 := by rw [← hH4]; exact (Ex.new hL).trans (Ex.new hT4)
    have nLT : L ≠ T4 := ne_of_none (show (upd H3 L (.lst [])) L = some (.lst []) from upd_same) hT4
    have hL4 : H4 L = some (.lst []) := by rw [← hH4, upd_ne nLT]; exact upd_same
    have hp4 : SpA H4 p := hp3.ex eH4
    have hf4 : Tup H4 full (.int 0 :: ns.map V.int) := hfull.ex eH4
    refine rd_seq ?_
    refine rd_ifs ?_
    refine rd_b ?_
    refine ⟨_, rfl, rfl, _, rfl, ?_⟩
    by_cases c1 : V.int way = V.int 12
    · rw [decide_eq_true c1]
      exact iteT (q H4 .non none (eH3.trans (exB eH4)) hp4 rfl fun f e => by cases e)
    · rw [decide_eq_false c1]
      refine iteF (rd_next ?_)
      refine rd_seq ?_
      have en : ((m : Int) + 1).toNat = m + 1 := by omega
      have rng : ∀ {R : It → Hp → Prop} {H' : Hp}, R (Itr 0 (m + 1)) H' → R (Itr 0 ((m : Int) + 1).toNat) H' := fun r => by rw [en]; exact r
      refine tfor (J := Itr 0 (m + 1)) (H1 := H4) (fun R r => ⟨_, rfl, _, _, rfl, rfl, (m : Int) + 1, rfl, by omega, by omega, rng r⟩) walk_rng0
        (fun i σ H' => ∃ y7 y8 y9, σ = [some (.ref p), some (.int m), some v, some (.int way), some (.int share), some full, some (.ref L), y7, y8, y9] ∧ ExB p H3 H' ∧ SpA H' p ∧ ∃ ys, H' L = some (.lst ys) ∧ ys.length = i ∧ ∀ k y, ys[k]? = some y → RowAt H' m k y)
        ⟨none, none, none, rfl, exB eH4, hp4, [], hL4, rfl, fun k y e => by cases e⟩ (fun _ _ _ _ _ => trivial) (fun i x σ H5 H6 hi hP hY => ?_) (fun σ H5 hP => ?_)
      · obtain ⟨rfl, rfl⟩ := hY
        obtain ⟨y7, y8, y9, rfl, e5, hp5, ys, hys, hyl, hyr⟩ := hP
        have hf5 : Tup H6 full (.int 0 :: ns.map V.int) := hfull.tx (hp3.tx e5)
        refine rd_gn ?_
        refine rd_seq ?_
        refine rd_set ?_
        refine ⟨Nat.zero_le _, fun l hl2 => ?_⟩
        have hpl : p ≠ l := hp5.ne hl2
        have nLl : L ≠ l := ne_of_none hys hl2
        refine rd_seq ?_
        refine tfor (J := Itr 0 (m + 1)) (H1 := upd H6 l (.lst [])) (fun R r => ⟨_, rfl, _, _, rfl, rfl, (m : Int) + 1, rfl, by omega, by omega, rng r⟩) walk_rng0
          (fun j σ H' => ∃ y9, σ = [some (.ref p), some (.int m), some v, some (.int way), some (.int share), some full, some (.ref L), some (.int i), some (.ref l), y9] ∧ ExB p H6 H' ∧ SpA H' p ∧ ∃ zs, H' l = some (.lst zs) ∧ zs.length = j ∧ ∀ k z, zs[k]? = some z → z = bV (vB z) ∧ (k = i → vB z = some 0) ∧ ∀ x, vB z = some x → -2000010 ≤ x ∧ x ≤ 2000010)
          ⟨y9, rfl, exB (Ex.new hl2), hp5.upd hpl, [], upd_same, rfl, fun k y e => by cases e⟩ (fun _ _ _ _ _ => trivial) (fun j x σ H7 H8 hj hP hY => ?_) (fun σ H7 hP => ?_)
        · obtain ⟨rfl, rfl⟩ := hY
          obtain ⟨y9, rfl, e7, hp7, zs, hzs, hzl, hzp⟩ := hP
          have hf7 : Tup H8 full (.int 0 :: ns.map V.int) := hf5.tx (hp5.tx e7)
          refine rd_gn ?_
          refine rd_drop ?_
          refine ⟨_, rfl, .inl ⟨rfl, _, SqL.of hzs⟩, ?_⟩
          refine rd_c1 ?_
          refine rd_if ?_
          refine rd_b ?_
          refine ⟨_, rfl, _, rfl, rfl, _, rfl, ?_⟩
          have fin : ∀ (H9 : Hp) (b : Bd), ExB p H8 H9 → SpA H9 p → (j = i → b = some 0) → (∀ x, b = some x → -2000010 ≤ x ∧ x ≤ 2000010) → ∀ y : Option V, rAppend (.ref l) [bV b] H9 (fun _ H' => ∃ y9, [some (.ref p), some (.int m), some v, some (.int way), some (.int share), some full, some (.ref L), some (.int i), some (.ref l), y] = [some (.ref p), some (.int m), some v, some (.int way), some (.int share), some full, some (.ref L), some (.int i), some (.ref l), y9] ∧ ExB p H6 H' ∧ SpA H' p ∧ ∃ zs, H' l = some (.lst zs) ∧ zs.length = j + 1 ∧ ∀ k z, zs[k]? = some z → z = bV (vB z) ∧ (k = i → vB z = some 0) ∧ ∀ x, vB z = some x → -2000010 ≤ x ∧ x ≤ 2000010) := fun H9 b e9 hp9 hb0 hbb y => by
            have sm : zs.length < sizeLine := by rw [hzl]; exact sz21 (by omega)
            refine ⟨l, zs, bV b, rfl, rfl, e9 l _ hpl.symm hzs, sm, _, rfl, (e7.trans e9).mut hl2, hp9.upd hpl, zs ++ [bV b], upd_same, by rw [List.length_append, hzl]; rfl, fun k z ez => ?_⟩
            by_cases hk : k < zs.length
            · rw [List.getElem?_append_left hk] at ez
              exact hzp k z ez
            · have hk2 : k = zs.length := by
                have := (List.getElem?_eq_some_iff.mp ez).1
                rw [List.length_append] at this
                have h1 : [bV b].length = 1 := rfl
                omega
              rw [hk2, List.getElem?_append_right (Nat.le_refl _), Nat.sub_self] at ez
              cases ez
              rw [vB_bV, hk2, hzl]
              exact ⟨rfl, hb0, hbb⟩
          by_cases hij : V.int (i : Int) = V.int (j : Int)
          · rw [decide_eq_true hij]
            exact iteT (fin H8 (some 0) (ExB.refl _ _) hp7 (fun _ => rfl) (fun x e => by cases e; omega) _)
          · rw [decide_eq_false hij]
            refine iteF ?_
            have gi := getD_bnd (by decide) (show BndL 1000001 (0 :: ns) from fun x hx => by
              rcases List.mem_cons.mp hx with h1 | h1
              · subst h1; omega
              · exact hb x h1)
            have b1 := gi i
            have b2 := gi j
            have v1 : vfn ns i = (0 :: ns).getD i 0 := rfl
            have v2 : vfn ns j = (0 :: ns).getD j 0 := rfl
            refine ⟨_, rfl, _, rfl, _, rfl, ?_⟩
            refine rd_c1 ?_
            refine rd_op ?_
            refine ⟨_, rfl, _, rfl, ixT hf7 (vfn_at (by omega)) ?_⟩
            refine ⟨_, rfl, _, rfl, ixT hf7 (vfn_at (by omega)) ?_⟩
            refine ⟨_, _, rfl, rfl, ?_⟩
            refine ⟨p, way, share, _, rfl, hp7, by omega, by omega, fun H9 b e9 hp9 hbb => ?_⟩
            exact fin H9 b e9 hp9 (fun e => absurd (by rw [e]) hij) hbb _
        · obtain ⟨y9, rfl, e7, hp7, zs, hzs, hzl, hzp⟩ := hP
          have hL7 := e7 L _ hpL.symm hys
          refine rd_drop ?_
          refine ⟨_, rfl, .inl ⟨rfl, _, SqL.of hL7⟩, ?_⟩
          refine rd_c1 ?_
          refine rd_cb ?_
          refine rd_c1 ?_
          refine ⟨_, rfl, l, _, rfl, .inl ⟨SqL.of hzs, fun t ht => ?_⟩⟩
          have nLt : L ≠ t := ne_of_none hL7 ht
          have t9 : Tx H7 (upd (upd H7 t (.tup zs)) L (.lst (ys ++ [.ref t]))) := (txN ht).trans (txL (by rw [upd_ne nLt]; exact hL7))
          refine ⟨L, ys, .ref t, rfl, rfl, by rw [upd_ne nLt]; exact hL7, by rw [hyl]; exact sz21 (by omega), ?_⟩
          refine ⟨_, _, _, rfl, ((e5.trans e7).trans (exB (Ex.new ht))).mut hL, (hp7.upd (hp7.ne ht)).upd hpL, ys ++ [.ref t], upd_same, by rw [List.length_append, hyl]; rfl, fun k y ey => ?_⟩
          by_cases hk : k < ys.length
          · rw [List.getElem?_append_left hk] at ey
            exact ((hyr k y ey).tx (hp5.tx e7)).tx t9
          · have hk2 : k = ys.length := by
              have := (List.getElem?_eq_some_iff.mp ey).1
              rw [List.length_append] at this
              have h1 : [V.ref t].length = 1 := rfl
              omega
            rw [hk2, List.getElem?_append_right (Nat.le_refl _), Nat.sub_self] at ey
            cases ey
            rw [hk2, hyl]
            have ez : zs = seqF (m + 1) fun j => bV (vB (zs.getD j .non)) := seqF_of hzl fun j z e => by
              rw [List.getD_eq_getElem?_getD, e]
              exact (hzp j z e).1
            have gz : ∀ j, j < m + 1 → zs[j]? = some (zs.getD j .non) := fun j hj => by
              rw [List.getD_eq_getElem?_getD, List.getElem?_eq_getElem (by omega)]
              rfl
            refine ⟨fun j => vB (zs.getD j .non), ⟨t, rfl, ?_⟩, ?_, fun j hj x ex => ?_⟩
            · rw [upd_ne nLt.symm, upd_same, ← ez]
            · exact (hzp i _ (gz i hi)).2.1 rfl
            · exact (hzp j _ (gz j hj)).2.2 x ex
      · obtain ⟨y7, y8, y9, rfl, e5, hp5, ys, hys, hyl, hyr⟩ := hP
        refine rd_ret ?_
        refine rd_cb ?_
        refine rd_c1 ?_
        refine ⟨_, rfl, L, _, rfl, .inl ⟨SqL.of hys, fun t ht => ?_⟩⟩
        obtain ⟨g, g1, g2, g3⟩ := mat_rows (H := upd H5 t (.tup ys)) hyl ⟨t, rfl, upd_same⟩ fun i y e => (hyr i y e).tx (txN ht)
        exact q _ _ (some g) ((eH3.trans e5).trans (exB (Ex.new ht))) (hp5.upd (hp5.ne ht)) g1 fun f e => by cases e; exact ⟨g2, g3⟩
theorem cal_about {f : Addr} {fd : FuncData} (F : FnP K "_law_about" sLAbout f fd) (B : Bl mg) (C : Cal P w K mg base 1 "_law_draw" ["_law_spring_here", "_law_high"] spDraw) (CB : Cal P w K mg base 3 "_law_bound" ["_law_spring_here", "_law_way", "_law_share", "_law_gap"] spBound)
    (hm : mg "_law_about" = some (.ref f)) : Cal P w K mg base 4 "_law_about" ["_law_spring_here", "_law_size_here", "_law_base"] spAbout :=
  ⟨f, fd, ok_about F B C CB, hm, F.kp, F.bindsN fun _ _ _ _ _ _ us hl => match us, hl with | [_, _, _], _ => rfl⟩
end
end K38
set_option maxHeartbeats 4000000
/-! Walks: near spots; what is whole, what are spots; what the law takes to hold. -/
namespace K38
open PySem PySem.Spec PyProof.Rows L2 RZ
open Evl (Ex)
theorem shapedT_ints (ns : List Int) : SeqAt.shaped (.tuple (ns.map PyData.int)) = true := by
  have h1 := PySem.W.depthAll_ints ns
  have h2 : PyData.depth (.tuple (ns.map PyData.int)) ≤ 64 := by simp only [PyData.depth]; omega
  show (PyData.canLay0 (.tuple (ns.map PyData.int)) && decide (PyData.depth (.tuple (ns.map PyData.int)) ≤ 64)) = true
  rw [Bool.and_eq_true]
  exact ⟨by simp only [PyData.canLay0]; exact PySem.W.canLayAll0_ints ns, decide_eq_true h2⟩
theorem eqvT_nil (ns : List Int) : PyData.eqv (.tuple (ns.map PyData.int)) (.tuple []) = ns.isEmpty := by
  cases ns with
  | nil => simp [PyData.eqv, PyData.eqvAll]
  | cons n r => simp [PyData.eqv, PyData.eqvAll]
theorem rd_nopart {σ : L2.St} {H : Hp} {Q : Option Int → Hp → Prop} (h : Q none H) : tNoPart σ H Q := h
section
variable {P : Program} {w : World} {K : PySem.W.Frag} {mg : Str → Option Value} {base : Heap}
/-! ### near_spots -/
def spNear : Sp := fun vs H Q _ => ∃ (p : Addr) (v : V) (ns : List Int), vs = [.ref p, v] ∧ SpA H p ∧ Ints H v ns ∧ ns.length ≤ 20 ∧ ∀ (H' : Hp) (r : V) (ms : List Int), ExB p H H' → SpA H' p → Ints H' r ms → ms.length = ns.length → Q r H'
theorem ok_near {f : Addr} {fd : FuncData} (F : FnP K "_law_near_spots" sLNearSpots f fd) (B : Bl mg) (C : Cal P w K mg base 1 "_law_draw" ["_law_spring_here", "_law_high"] spDraw) (CP : Cal P w K mg base 2 "_law_pick" ["_law_spring_here", "_law_some"] spPick) :
    FnOk P w K mg base CX0 3 f fd ["_law_spring_here", "_law_spots_here"] spNear := by
  refine F.ok scLNearSpots (fun vs H Q E h => ?_) (fun cdv A outer s H vs Q E hr h => ?_)
  · obtain ⟨p, v, ns, rfl, _⟩ := h
    rfl
  · obtain ⟨p, v, ns, rfl, hp, hv, hl, q⟩ := h
    have nd := scLNearSpots.nd
    have hun : A.units + 3 + 64 < cLine := hr.units
    refine ⟨_, pss_cons (ps_if (pt_cmpR (op_eqD hun) (pv 1) (pe_tup pa_nil) (nomark _)) (pss_one (ps_ret (pv 1))) pss_nil)
      (pss_cons (ps_set (i := 2) nd rfl (.inl rfl) (pe_fn C hr (by decide) (by rfl) (pa_cons (pv 0) (pa_cons (pe_callB call_len_seq (by rfl) B.len PySem.boot_len (pa_cons (pv 1) pa_nil)) pa_nil))))
      (pss_one (ps_ret (pe_op op_catA (pe_op op_catA (pe_slice sl_tupA (pv 1) po_none (po_some (pv 2))) (pe_tup (pa_cons (pe_op op_add (pe_ix (r := rIxT K) ix_tup (pv 1) (pv 2) (fun _ _ => rfl))
          (pe_fn CP hr (by decide) (by rfl) (pa_cons (pv 0) (pa_cons (pe_tup (pa_cons pe_int (pa_cons (pe_un un_neg pe_int) (pa_cons pe_int (pa_cons (pe_un un_neg pe_int) (pa_cons pe_int (pa_cons pe_int pa_nil))))))) pa_nil)))) pa_nil)))
        (pe_slice sl_tupA (pv 1) (po_some (pe_op op_add (pv 2) pe_int)) po_none))))), ?_⟩
    have hv0 := hv
    obtain ⟨a, rfl, ha⟩ := hv
    have hml : (ns.map V.int).length = ns.length := List.length_map _
    refine rd_seq ?_
    refine rd_ifs ?_
    refine rd_b ?_
    refine ⟨_, rfl, Nat.zero_le _, fun T hT => ?_⟩
    have e1 : Ex H (upd H T (.tup [])) := Ex.new hT
    refine ⟨.tuple (ns.map PyData.int), .tuple [], .tup (SqT.of (e1 _ _ ha)) (dp_ints K _ ns), .tup (SqT.of upd_same) .nil, shapedT_ints ns, shapedT_ints [], _, rfl, ?_⟩
    rw [eqvT_nil]
    cases hns : ns with
    | nil =>
      refine iteT ?_
      subst hns
      exact ⟨_, rfl, q _ _ [] (exB e1) (hp.ex e1) (hv0.tx (exT e1)) rfl⟩
    | cons n0 nr =>
      refine iteF (rd_next ?_)
      have hpos : 0 < ns.length := by rw [hns]; exact Nat.zero_lt_succ _
      refine rd_seq ?_
      refine rd_set ?_
      refine ⟨_, rfl, _, rfl, a, _, rfl, .inr (SqT.of (e1 _ _ ha)), ?_⟩
      refine ⟨p, _, rfl, hp.ex e1, by omega, by rw [hml]; omega, fun H2 k e2 hp2 k1 k2 => ?_⟩
      rw [hml] at k2
      obtain ⟨m, rfl⟩ : ∃ m : Nat, k = (m : Int) := ⟨k.toNat, by omega⟩
      have hm : m < ns.length := by omega
      have v2 : Ints H2 (.ref a) ns := (hv0.tx (exT e1)).tx ((hp.ex e1).tx e2)
      have at_ : (ns.map V.int)[m]? = some (V.int ns[m]) := by rw [List.getElem?_map, List.getElem?_eq_getElem hm]; rfl
      have big : ∀ {z : Nat}, z ≤ 21 → z ≤ sizeLine := fun h => Nat.le_of_lt (sz21 h)
      refine rd_ret ?_
      refine rd_op ?_
      refine rd_op ?_
      refine ⟨_, rfl, _, rfl, (m : Int), rfl, ?_⟩
      refine slA v2 fun H3 r3 e3 h3 => ?_
      rw [cutTake] at h3
      refine ⟨_, rfl, _, rfl, ixT (v2.tx (exT e3)) at_ ?_⟩
      refine ⟨_, rfl, _, rfl, _, rfl, by show 6 ≤ sizeLine; decide, fun T2 hT2 => ?_⟩
      have e4 : Ex H3 (upd H3 T2 (.tup [.int 1, .int (-1), .int 2, .int (-2), .int 0, .int 7])) := Ex.new hT2
      have hp4 := (hp2.ex e3).ex e4
      refine ⟨p, .ref T2, [1, -1, 2, -2, 0, 7], rfl, hp4, ⟨T2, rfl, upd_same⟩, by decide, by decide, fun H5 j e5 hp5 hj => ?_⟩
      refine ⟨_, _, rfl, rfl, by show 1 ≤ sizeLine; decide, fun T5 hT5 => ?_⟩
      have t5 := hp4.tx e5
      have e6 : Ex H5 (upd H5 T5 (.tup [.int (ns[m] + j)])) := Ex.new hT5
      refine catA (((h3.ex e4).tx t5).ex e6) (ys := [.int (ns[m] + j)]) ⟨T5, rfl, upd_same⟩ (by rw [List.length_take, hml]; exact big (show min m ns.length + 1 ≤ 21 by omega)) fun H7 r7 e7 h7 => ?_
      refine ⟨_, rfl, _, rfl, _, _, rfl, rfl, _, rfl, ?_⟩
      have v7 : Ints H7 (.ref a) ns := (((v2.tx (exT e3)).tx (exT e4)).tx t5).tx (exT (e6.trans e7))
      refine rd_nopart ?_
      refine slA v7 fun H8 r8 e8 h8 => ?_
      rw [show ((m : Int) + 1) = ((m + 1 : Nat) : Int) by omega, cutDrop] at h8
      refine catA (h7.ex e8) h8 (by rw [List.length_append, List.length_take, List.length_drop, hml]; exact big (show min m ns.length + 1 + (ns.length - (m + 1)) ≤ 21 by omega)) fun H9 r9 e9 h9 => ?_
      refine q H9 r9 (ns.take m ++ [ns[m] + j] ++ ns.drop (m + 1)) ?_ ?_ ?_ ?_
      · exact ((((((exB e1).trans e2).trans (exB e3)).trans (exB e4)).trans e5).trans (exB ((e6.trans e7).trans (e8.trans e9))))
      · exact hp5.ex ((e6.trans e7).trans (e8.trans e9))
      · unfold Ints
        rw [List.map_append, List.map_append, List.map_take, List.map_drop]
        exact h9
      · rw [List.length_append, List.length_append, List.length_take, List.length_drop]
        show min m ns.length + 1 + (ns.length - (m + 1)) = ns.length
        omega
theorem cal_near {f : Addr} {fd : FuncData} (F : FnP K "_law_near_spots" sLNearSpots f fd) (B : Bl mg) (C : Cal P w K mg base 1 "_law_draw" ["_law_spring_here", "_law_high"] spDraw) (CP : Cal P w K mg base 2 "_law_pick" ["_law_spring_here", "_law_some"] spPick) (hm : mg "_law_near_spots" = some (.ref f)) :
    Cal P w K mg base 3 "_law_near_spots" ["_law_spring_here", "_law_spots_here"] spNear :=
  ⟨f, fd, ok_near F B C CP, hm, F.kp, F.bindsN fun _ _ _ _ _ _ us hl => match us, hl with | [_, _], _ => rfl⟩
/-! ### is_whole -/
theorem ok_lWhole {f : Addr} {fd : FuncData} (F : FnP K "_law_is_whole" sLIsWhole f fd) (B : Bl mg) : FnOk P w K mg base CX0 1 f fd ["_law_thing"] spWhole := by
  refine F.ok scLIsWhole (fun vs H Q E h => ?_) (fun cdv A outer s H vs Q E hr h => ?_)
  · obtain ⟨i, rfl, _⟩ := h
    rfl
  · obtain ⟨i, rfl, q⟩ := h
    refine ⟨_, pss_one (ps_ret (pe_and (pe_callB call_isi (by rfl) B.isi bt_isi (pa_cons (pv 0) (pa_cons (pe_bltn (v := .ty "int") (by rfl) B.int bt_int rfl) pa_nil)))
      (pe_one (pe_not (pe_callB call_isi (by rfl) B.isi bt_isi (pa_cons (pv 0) (pa_cons (pe_bltn (v := .ty "bool") (by rfl) B.bool bt_bool rfl) pa_nil))))))), ?_⟩
    refine ⟨_, rfl, _, _, _, _, _, rfl, .ty _, isiInt, kit_ty kt1, true, rfl, ?_⟩
    refine ⟨_, rfl, _, _, _, _, _, rfl, .ty _, isiInt, kit_ty kt2, false, rfl, q⟩
theorem cal_lWhole {f : Addr} {fd : FuncData} (F : FnP K "_law_is_whole" sLIsWhole f fd) (B : Bl mg) (hm : mg "_law_is_whole" = some (.ref f)) : Cal P w K mg base 1 "_law_is_whole" ["_law_thing"] spWhole :=
  ⟨f, fd, ok_lWhole F B, hm, F.kp, F.bindsN fun _ _ _ _ _ _ us hl => match us, hl with | [_], _ => rfl⟩
/-! ### is_spots -/
def spIsSpots : Sp := fun vs H Q _ => ∃ (u : V) (ns : List Int), vs = [.int ns.length, u] ∧ Ints H u ns ∧ ns.length ≤ 20 ∧ ∀ H', Ex H H' → Q (.bl true) H'
theorem ok_isSpots {f : Addr} {fd : FuncData} (F : FnP K "_law_is_spots" sLIsSpots f fd) (B : Bl mg) (C : Cal P w K mg base 1 "_law_is_whole" ["_law_thing"] spWhole) : FnOk P w K mg base CX0 2 f fd ["_law_size_here", "_law_thing"] spIsSpots := by
  refine F.ok scLIsSpots (fun vs H Q E h => ?_) (fun cdv A outer s H vs Q E hr h => ?_)
  · obtain ⟨u, ns, rfl, _⟩ := h
    rfl
  · obtain ⟨u, ns, rfl, hu, hl, q⟩ := h
    have nd := scLIsSpots.nd
    refine ⟨_, pss_one (ps_ret (pe_and (pe_callB call_isi (by rfl) B.isi bt_isi (pa_cons (pv 1) (pa_cons (pe_bltn (v := .ty "tuple") (by rfl) B.tuple bt_tuple rfl) pa_nil)))
      (pe_and (pe_cmpR op_eq (pe_callB call_len_seq (by rfl) B.len PySem.boot_len (pa_cons (pv 1) pa_nil)) (pv 0) (nomark _))
      (pe_one (pe_callB (cr_all rfl) (by rfl) B.all bt_all (pa_cons (pe_lc (own := [("_law_each", 2)]) (g := gName 2) (tt := tYes) rfl nd (pi_tup (pv 1)) (blkOk_by (N := nLIsSpots) (sc := defScope sLIsSpots) (by decide +kernel))
          (fun _ _ _ _ _ => pg_name (i := 2) nd rfl (.inl rfl)) (fun _ _ _ _ _ => pts_nil) (fun _ _ _ _ _ => pe_fn C hr (by decide) (by rfl) (pa_cons (pv 2) pa_nil))) pa_nil)))))), ?_⟩
    have hu0 := hu
    obtain ⟨a, rfl, ha⟩ := hu
    have hml : (ns.map V.int).length = ns.length := List.length_map _
    refine ⟨_, rfl, _, _, _, _, _, rfl, .ty _, isiTup hu0, kit_ty kt4, true, rfl, ?_⟩
    refine iteT ?_
    refine rd_and ?_
    refine ⟨_, rfl, a, _, rfl, .inr (SqT.of ha), _, rfl, rfl, true, ?_, ?_⟩
    · rw [hml, decide_eq_true rfl]
    refine iteT ?_
    refine rd_cb ?_
    refine rd_c1 ?_
    refine tlc (fun R r => ⟨_, rfl, a, rfl, ⟨_, SqT.of ha⟩, r⟩) walk_tup (n := (ns.map V.int).length) (by rw [hml]; exact sz21 (by omega)) (fun _ y _ => y = .bl true) (fun _ _ _ _ _ _ e => e) (fun H1 e => SqT.of (e _ _ ha)) (fun i H1 x H2 _ _ y => yat_ex y) (fun i x H1 H2 hi e1 e2 y Qt k => ?_) (fun D ys H1 hD e hD2 hl hP => ?_)
    · obtain ⟨rfl, hx⟩ := y
      obtain ⟨_, rfl⟩ := getD_of hx
      exact ⟨rfl, _, rfl, _, rfl, k _ _ (Ex.refl _) rfl⟩
    · have e2 := bls_of (b := fun _ => true) hl hP
      subst e2
      refine ⟨D, _, rfl, SqL.of hD2, ?_⟩
      rw [all_seqF fun _ _ => rfl]
      exact q H1 e
theorem cal_isSpots {f : Addr} {fd : FuncData} (F : FnP K "_law_is_spots" sLIsSpots f fd) (B : Bl mg) (C : Cal P w K mg base 1 "_law_is_whole" ["_law_thing"] spWhole) (hm : mg "_law_is_spots" = some (.ref f)) : Cal P w K mg base 2 "_law_is_spots" ["_law_size_here", "_law_thing"] spIsSpots :=
  ⟨f, fd, ok_isSpots F B C, hm, F.kp, F.bindsN fun _ _ _ _ _ _ us hl => match us, hl with | [_, _], _ => rfl⟩
/-! ### holds -/
def spLHolds : Sp := fun vs H Q _ => ∃ (v u : V) (o : Option Mx) (ns : List Int), vs = [v, u] ∧ MatO H v (ns.length + 1) o ∧ Ints H u ns ∧ ns.length ≤ 20 ∧ ∀ H', Ex H H' → Q (.bl (holdO (ns.length + 1) (vfn ns) o)) H'
theorem ok_lHolds {f : Addr} {fd : FuncData} (F : FnP K "_law_holds" sLHolds f fd) (B : Bl mg) : FnOk P w K mg base CX0 1 f fd ["_law_wide", "_law_spots_here"] spLHolds := by
  refine F.ok scLHolds (fun vs H Q E h => ?_) (fun cdv A outer s H vs Q E hr h => ?_)
  · obtain ⟨v, u, o, ns, rfl, _⟩ := h
    rfl
  · obtain ⟨v, u, o, ns, rfl, hv, hu, hl, q⟩ := h
    have nd := scLHolds.nd
    refine ⟨_, PSs.nox (pss_cons (ps_if (pt_cmpR op_isN (pv 0) pe_non (nomark _)) (pss_one (ps_ret pe_bl)) pss_nil)
      (pss_cons (ps_set (i := 2) nd rfl (.inl rfl) (pe_op op_catA (pe_tup (pa_cons pe_int pa_nil)) (pv 1)))
      (pss_cons (ps_for PassesOwn.never rfl (pi_range1 (by rfl) B.range (pa_cons (pe_callB call_len_seq (by rfl) B.len PySem.boot_len (pa_cons (pv 2) pa_nil)) pa_nil)) (pg_name (i := 3) nd rfl (.inl rfl))
        (pss_one (ps_for PassesOwn.never rfl (pi_range1 (by rfl) B.range (pa_cons (pe_callB call_len_seq (by rfl) B.len PySem.boot_len (pa_cons (pv 2) pa_nil)) pa_nil)) (pg_name (i := 4) nd rfl (.inl rfl))
          (pss_cons (ps_set (i := 5) nd rfl (.inl rfl) (pe_ix (r := rIxT K) ix_tup (pe_ix (r := rIxT K) ix_tup (pv 0) (pv 3) (fun _ _ => rfl)) (pv 4) (fun _ _ => rfl)))
          (pss_one (ps_if (PW.pt (pw_and (pt_cmpR op_notN (pv 5) pe_non (nomark _)) (pw_and1 (pt_cmpR op_gt (pe_op op_sub (pe_ix (r := rIxT K) ix_tup (pv 2) (pv 3) (fun _ _ => rfl)) (pe_ix (r := rIxT K) ix_tup (pv 2) (pv 4) (fun _ _ => rfl))) (pv 5) (nomark _)))))
            (pss_one (ps_ret pe_bl)) pss_nil))))))
      (pss_one (ps_ret pe_bl))))), ?_⟩
    cases o with
    | none =>
      obtain rfl : v = .non := hv
      exact ⟨_, rfl, rfl, true, rfl, q H (Ex.refl H)⟩
    | some f =>
      generalize hm : ns.length = m at q hl hv
      obtain ⟨rs, hrs, hrow⟩ := hv
      have hrs0 := hrs
      obtain ⟨a, rfl, ha⟩ := hrs
      refine rd_seq ?_
      refine ⟨_, rfl, rfl, false, rfl, ?_⟩
      refine iteF (rd_next ?_)
      refine rd_seq ?_
      refine rd_set ?_
      refine rd_op ?_
      refine ⟨by show 1 ≤ sizeLine; decide, fun T hT => ?_⟩
      refine ⟨_, rfl, ?_⟩
      have e1 : Ex H (upd H T (.tup [.int 0])) := Ex.new hT
      refine catA (xs := [.int 0]) (ys := ns.map V.int) ⟨T, rfl, upd_same⟩ (Tup.ex e1 hu) (by rw [List.length_map, hm]; exact Nat.le_of_lt (sz21 (show 1 + m ≤ 21 by omega))) fun H1 full e2 hfull => ?_
      have e12 := e1.trans e2
      have hf0 := hfull
      obtain ⟨fa, rfl, hfa⟩ := hfull
      have flen : ([V.int 0] ++ ns.map V.int).length = m + 1 := by rw [List.length_append, List.length_map, hm]; show 1 + m = m + 1; omega
      have en : (((([V.int 0] ++ ns.map V.int).length : Nat) : Int)).toNat = m + 1 := by omega
      refine rd_seq ?_
      refine tfor (J := Itr 0 (m + 1)) (H1 := H1) (fun R r => ⟨_, rfl, fa, _, rfl, .inr (SqT.of hfa), _, rfl, by omega, by rw [flen]; omega, by rw [en]; exact r⟩) walk_rng0
        (fun i σ H' => ∃ y3 y4 y5, σ = [some (.ref a), some u, some (.ref fa), y3, y4, y5] ∧ H' = H1 ∧ ∀ a b, a < i → b < m + 1 → ∀ x, f a b = some x → vfn ns a - vfn ns b ≤ x)
        ⟨none, none, none, rfl, rfl, fun a b h => absurd h (Nat.not_lt_zero a)⟩ (fun _ _ _ _ _ => trivial) (fun i x σ H2 H3 hi hP hY => ?_) (fun σ H2 hP => ?_)
      · obtain ⟨rfl, rfl⟩ := hY
        obtain ⟨y3, y4, y5, rfl, rfl, hh⟩ := hP
        refine rd_gn ?_
        refine tfor (J := Itr 0 (m + 1)) (H1 := H3) (fun R r => ⟨_, rfl, fa, _, rfl, .inr (SqT.of hfa), _, rfl, by omega, by rw [flen]; omega, by rw [en]; exact r⟩) walk_rng0
          (fun j σ H' => ∃ y4 y5, σ = [some (.ref a), some u, some (.ref fa), some (.int i), y4, y5] ∧ H' = H3 ∧ ∀ b, b < j → ∀ x, f i b = some x → vfn ns i - vfn ns b ≤ x)
          ⟨y4, y5, rfl, rfl, fun b h => absurd h (Nat.not_lt_zero b)⟩ (fun _ _ _ _ _ => trivial) (fun j x σ H4 H5 hj hP hY => ?_) (fun σ H4 hP => ?_)
        · obtain ⟨rfl, rfl⟩ := hY
          obtain ⟨y4, y5, rfl, rfl, hb⟩ := hP
          refine rd_gn ?_
          refine rd_seq ?_
          refine rd_set ?_
          refine ⟨_, rfl, _, rfl, ixT (hrs0.ex e12) (seqF_get hi) ⟨_, rfl, ixT ((hrow i hi).tx (exT e12)) (seqF_get hj) ?_⟩⟩
          refine rd_ifs ?_
          have fin : ∀ y4 y5 : Option V, (∀ x, f i j = some x → vfn ns i - vfn ns j ≤ x) → ∃ z4 z5, [some (V.ref a), some u, some (.ref fa), some (.int i), y4, y5] = [some (V.ref a), some u, some (.ref fa), some (.int i), z4, z5] ∧ H5 = H5 ∧ ∀ b, b < j + 1 → ∀ x, f i b = some x → vfn ns i - vfn ns b ≤ x := fun y4 y5 hn => ⟨_, _, rfl, rfl, fun b hb1 x ex => by
            by_cases e : b = j
            · subst e; exact hn x ex
            · exact hb b (by omega) x ex⟩
          cases ef : f i j with
          | none =>
            refine ⟨_, rfl, rfl, false, rfl, ?_⟩
            refine iteF ?_
            exact fin _ _ fun x e => by rw [ef] at e; cases e
          | some b0 =>
            refine ⟨_, rfl, rfl, true, rfl, ?_⟩
            refine iteT ?_
            refine ⟨_, rfl, _, rfl, ixT hf0 (vfn_at (by omega)) ?_⟩
            refine ⟨_, rfl, _, rfl, ixT hf0 (vfn_at (by omega)) ?_⟩
            refine ⟨_, _, rfl, rfl, ?_⟩
            refine ⟨_, rfl, _, _, rfl, rfl, _, rfl, ?_⟩
            by_cases hlt : b0 < vfn ns i - vfn ns j
            · rw [decide_eq_true hlt]
              refine iteT ?_
              have hB : holdB (m + 1) f (vfn ns) = false := by
                cases eh : holdB (m + 1) f (vfn ns) with
                | false => rfl
                | true =>
                  have := holdB_iff.mp eh i j hi hj b0 ef
                  omega
              have := q H5 e12
              rw [show holdO (m + 1) (vfn ns) (some f) = false from hB] at this
              exact this
            · rw [decide_eq_false hlt]
              exact iteF (fin _ _ fun x e => by rw [ef] at e; cases e; omega)
        · obtain ⟨y4, y5, rfl, rfl, hb⟩ := hP
          refine ⟨_, _, _, rfl, rfl, fun a' b h1 h2 x ex => ?_⟩
          by_cases e : a' = i
          · subst e; exact hb b h2 x ex
          · exact hh a' b (by omega) h2 x ex
      · obtain ⟨y3, y4, y5, rfl, rfl, hh⟩ := hP
        have hB : holdB (m + 1) f (vfn ns) = true := holdB_iff.mpr fun i j hi hj b e => hh i j hi hj b e
        have := q H2 e12
        rw [show holdO (m + 1) (vfn ns) (some f) = true from hB] at this
        exact this
theorem cal_lHolds {f : Addr} {fd : FuncData} (F : FnP K "_law_holds" sLHolds f fd) (B : Bl mg) (hm : mg "_law_holds" = some (.ref f)) : Cal P w K mg base 1 "_law_holds" ["_law_wide", "_law_spots_here"] spLHolds :=
  ⟨f, fd, ok_lHolds F B, hm, F.kp, F.bindsN fun _ _ _ _ _ _ us hl => match us, hl with | [_, _], _ => rfl⟩
end
end K38
set_option maxHeartbeats 4000000
/-! Walk: what the law takes for a ring. -/
namespace K38
open PySem PySem.Spec PyProof.Rows L2 RZ
open Evl (Ex)
theorem rd_ot {t u : TT} {σ : L2.St} {H : Hp} {Q : Bool → Hp → Prop} (h : t σ H fun c H1 => if c = true then Q true H1 else u σ H1 Q) : tOr t u σ H Q := h
theorem rd_sl {r : V → Option Int → Option Int → Hp → VK → Prop} {te : TE} {tl th : TO} {σ : L2.St} {H : Hp} {Q : VK} (h : te σ H fun x H1 => tl σ H1 fun l H2 => th σ H2 fun u H3 => r x l u H3 Q) : tSl r te tl th σ H Q := h
/-- what a for asks of the walk that has come -/
def ForTail (g : TG) (tb : TS) (D : Ends) (σ : L2.St) (J : It) (H1 : Hp) : Prop := ∃ W : Nat → Nat → L2.St → Hp → Prop, (∃ m, W 0 m σ H1) ∧ ∀ i m σ H, W i m σ H →
  (J.stop i H ∧ D.nx σ H) ∨ (J.go i H ∧ ∃ N : L2.St → Hp → Prop, (∀ σ' H', N σ' H' → ∃ m', m' < m ∧ W (i + 1) m' σ' H') ∧ ∀ x H', J.yld i H x H' → g x σ H' fun σ2 H2 => tb { D with nx := N, ct := N, bk := D.nx } σ2 H2)
theorem rd_for {wi : TI} {g : TG} {tb : TS} {D : Ends} {σ : L2.St} {H : Hp} (h : wi σ H (ForTail g tb D σ)) : tFor wi g tb D σ H := h
theorem tail_for {J : It} {n : Nat} {G : Hp → Prop} {Y : Nat → Hp → V → Hp → Prop} {g : TG} {tb : TS} {nx : L2.St → Hp → Prop} {rt : VK} {bk ct : L2.St → Hp → Prop} {σ : L2.St} {H1 : Hp} (w : Walk J n G Y)
    (Pv : Nat → L2.St → Hp → Prop) (h0 : Pv 0 σ H1) (hG : ∀ i σ H, i ≤ n → Pv i σ H → G H)
    (hs : ∀ i x σ H H', i < n → Pv i σ H → Y i H x H' → g x σ H' fun σ2 H2 => tb (Ends.mk (Pv (i + 1)) rt nx (Pv (i + 1))) σ2 H2) (hd : ∀ σ H, Pv n σ H → nx σ H) : ForTail g tb (Ends.mk nx rt bk ct) σ J H1 :=
  for_it (D := Ends.mk nx rt bk ct) w Pv h0 hG hs hd
theorem sum_step (l : List Int) (i : Nat) (x : Int) (h : l[i]? = some x) : (l.take (i + 1)).sum = (l.take i).sum + x := by
  rw [List.take_add_one, h, List.sum_append]
  simp
section
variable {P : Program} {w : World} {K : PySem.W.Frag} {mg : Str → Option Value} {base : Heap}
def spIsRing : Sp := fun vs H Q _ => ∃ (m : Nat) (v t : V) (f : Mx) (l : List Nat), vs = [.int m, v, t] ∧ Mat H v (m + 1) f ∧ Tup H t (nV l) ∧ IsRing (m + 1) f l ∧ m ≤ 20 ∧ ∀ H', Ex H H' → Q (.bl true) H'
theorem ok_isRing {f : Addr} {fd : FuncData} (F : FnP K "_law_is_ring" sLIsRing f fd) (B : Bl mg) (C : Cal P w K mg base 1 "_law_is_whole" ["_law_thing"] spWhole) : FnOk P w K mg base CX0 2 f fd ["_law_size_here", "_law_wide", "_law_thing"] spIsRing := by
  refine F.ok scLIsRing (fun vs H Q E h => ?_) (fun cdv A outer s H vs Q E hr h => ?_)
  · obtain ⟨m, v, t, f, l, rfl, _⟩ := h
    rfl
  · obtain ⟨m, v, t, f, l, rfl, hv, ht, R, hm, q⟩ := h
    have nd := scLIsRing.nd
    refine ⟨_, PSs.nox (pss_cons (ps_if (PW.pt (pw_or (pt_not (pt_val (pe_callB call_isi (by rfl) B.isi bt_isi (pa_cons (pv 2) (pa_cons (pe_bltn (v := .ty "tuple") (by rfl) B.tuple bt_tuple rfl) pa_nil)))))
        (pw_or (pt_cmpR op_lt (pe_callB call_len_seq (by rfl) B.len PySem.boot_len (pa_cons (pv 2) pa_nil)) pe_int (nomark _))
        (pw_or1 (pt_not (pt_val (pe_callB (cr_all rfl) (by rfl) B.all bt_all (pa_cons (pe_lc (own := [("_law_each", 6)]) (g := gName 6) (tt := tYes) rfl nd (pi_tup (pv 2)) (blkOk_by (N := nLIsRing) (sc := defScope sLIsRing) (by decide +kernel))
          (fun _ _ _ _ _ => pg_name (i := 6) nd rfl (.inl rfl)) (fun _ _ _ _ _ => pts_nil) (fun _ _ _ _ _ => pe_fn C hr (by decide) (by rfl) (pa_cons (pv 6) pa_nil))) pa_nil)))))))) (pss_one (ps_ret pe_bl)) pss_nil)
      (pss_cons (ps_if (PW.pt (pw_or (pt_not (pt_val (pe_callB (cr_all rfl) (by rfl) B.all bt_all (pa_cons (pe_lc (own := [("_law_each", 6)]) (g := gName 6) (tt := tYes) rfl nd (pi_tup (pv 2)) (blkOk_by (N := nLIsRing) (sc := defScope sLIsRing) (by decide +kernel))
          (fun _ _ _ _ _ => pg_name (i := 6) nd rfl (.inl rfl)) (fun _ _ _ _ _ => pts_nil) (fun _ _ _ _ _ => pe_chain op_le op_le pe_int (pv 6) (pv 0))) pa_nil))))
        (pw_or1 (pt_cmpR op_ne (pe_lenSetT (by rfl) B.len (by rfl) B.set (pv 2)) (pe_callB call_len_seq (by rfl) B.len PySem.boot_len (pa_cons (pv 2) pa_nil)) (nomark _))))) (pss_one (ps_ret pe_bl)) pss_nil)
      (pss_cons (ps_set (i := 3) nd rfl (.inl rfl) pe_int)
      (pss_cons (ps_for PassesOwn.never rfl (pi_zipA (by rfl) B.zip (pa_cons (pv 2) (pa_cons (pe_op op_catA (pe_slice sl_tupA (pv 2) (po_some pe_int) po_none) (pe_slice sl_tupA (pv 2) po_none (po_some pe_int))) pa_nil)))
          (pg_tup rfl (pgs_cons (pg_name (i := 4) nd rfl (.inl rfl)) (pgs_cons (pg_name (i := 5) nd rfl (.inl rfl)) pgs_nil)))
        (pss_cons (ps_if (pt_cmpR op_isN (pe_ix (r := rIxT K) ix_tup (pe_ix (r := rIxT K) ix_tup (pv 1) (pv 4) (fun _ _ => rfl)) (pv 5) (fun _ _ => rfl)) pe_non (nomark _)) (pss_one (ps_ret pe_bl)) pss_nil)
        (pss_one (ps_set (i := 3) nd rfl (.inl rfl) (pe_op op_add (pv 3) (pe_ix (r := rIxT K) ix_tup (pe_ix (r := rIxT K) ix_tup (pv 1) (pv 4) (fun _ _ => rfl)) (pv 5) (fun _ _ => rfl)))))))
      (pss_one (ps_ret (pe_cmpR op_lt (pv 3) pe_int (nomark _)))))))), ?_⟩
    obtain ⟨rs, hrs, hrow⟩ := hv
    have ht0 := ht
    obtain ⟨a, rfl, ha⟩ := ht
    have hll : l.length ≤ 21 := Nat.le_trans (nodup_le R.nd R.lt) (by omega)
    have hnl : (nV l).length = l.length := nV_len l
    have ge2 := R.two
    refine rd_seq ?_
    refine rd_ifs ?_
    refine rd_ot ?_
    refine ⟨_, rfl, _, _, _, _, _, rfl, .ty _, isiTup ht0, kit_ty kt4, true, rfl, ?_⟩
    refine iteF ?_
    refine rd_ot ?_
    refine ⟨_, rfl, a, _, rfl, .inr (SqT.of ha), _, _, rfl, rfl, false, ?_, ?_⟩
    · rw [hnl]
      show V.bl (decide (((l.length : Nat) : Int) < 2)) = _
      rw [decide_eq_false (by omega)]
    refine iteF ?_
    refine rd_not ?_
    refine rd_b ?_
    refine rd_cb ?_
    refine rd_c1 ?_
    refine tlc (fun R r => ⟨_, rfl, a, rfl, ⟨_, SqT.of ha⟩, r⟩) walk_tup (n := (nV l).length) (by rw [hnl]; exact sz21 (by omega)) (fun _ y _ => y = .bl true) (fun _ _ _ _ _ _ e => e) (fun H1 e => SqT.of (e _ _ ha)) (fun i H1 x H2 _ _ y => yat_ex y) (fun i x H1 H2 hi e1 e2 y Qt k => ?_) (fun D ys H1 hD e1 hD2 hl hP => ?_)
    · obtain ⟨rfl, hx⟩ := y
      obtain ⟨z, _, rfl⟩ := nV_at hx
      exact ⟨rfl, _, rfl, _, rfl, k _ _ (Ex.refl _) rfl⟩
    · have e2 := bls_of (b := fun _ => true) hl hP
      subst e2
      refine ⟨D, _, rfl, SqL.of hD2, true, congrArg V.bl (all_seqF fun _ _ => rfl), ?_⟩
      refine iteF (rd_next ?_)
      have ha1 := e1 _ _ ha
      refine rd_seq ?_
      refine rd_ifs ?_
      refine rd_ot ?_
      refine rd_not ?_
      refine rd_b ?_
      refine rd_cb ?_
      refine rd_c1 ?_
      refine tlc (H1 := H1) (fun R r => ⟨_, rfl, a, rfl, ⟨_, SqT.of ha1⟩, r⟩) walk_tup (n := (nV l).length) (by rw [hnl]; exact sz21 (by omega)) (fun _ y _ => y = .bl true) (fun _ _ _ _ _ _ e => e) (fun H1 e => SqT.of (e _ _ ha1)) (fun i H1 x H2 _ _ y => yat_ex y) (fun i x H2 H3 hi e2 e3 y Qt k => ?_) (fun D2 ys H2 hD3 e2 hD4 hl hP => ?_)
      · obtain ⟨rfl, hx⟩ := y
        obtain ⟨z, hz, rfl⟩ := nV_at hx
        have hz2 := R.lt z (List.mem_of_getElem? hz)
        refine ⟨rfl, _, rfl, _, _, rfl, rfl, true, congrArg V.bl (decide_eq_true (by omega)), ?_⟩
        refine iteT ?_
        refine ⟨_, rfl, _, _, rfl, rfl, ?_⟩
        show Qt (V.bl (decide ((z : Int) ≤ (m : Int)))) _
        rw [decide_eq_true (show (z : Int) ≤ (m : Int) by omega)]
        exact k _ _ (Ex.refl _) rfl
      · have e3 := bls_of (b := fun _ => true) hl hP
        subst e3
        refine ⟨D2, _, rfl, SqL.of hD4, true, congrArg V.bl (all_seqF fun _ _ => rfl), ?_⟩
        refine iteF ?_
        have ha2 := e2 _ _ ha1
        have nd2 : (l.map fun (x : Nat) => (x : Int)).Nodup := List.Pairwise.map _ (fun x y hxy e => hxy (Int.natCast_inj.mp e)) R.nd
        refine ⟨_, rfl, a, l.map fun (x : Nat) => (x : Int), rfl, SqT.of (by rw [← nV_map]; exact ha2), nd2, by rw [List.length_map]; omega, ?_⟩
        refine ⟨_, rfl, a, _, rfl, .inr (SqT.of ha2), ?_⟩
        refine ⟨rfl, false, ?_, ?_⟩
        · rw [hnl, List.length_map, decide_eq_true rfl]
          rfl
        refine iteF (rd_next ?_)
        refine rd_seq ?_
        refine rd_set ?_
        refine rd_c ?_
        refine rd_seq ?_
        refine rd_for ?_
        refine ⟨_, rfl, ?_⟩
        refine rd_c1 ?_
        refine rd_op ?_
        refine rd_sl ?_
        refine ⟨_, rfl, _, rfl, ?_⟩
        refine rd_nopart ?_
        have tH2 : Tup H2 (.ref a) (nV l) := ⟨a, rfl, ha2⟩
        refine slA tH2 fun H3 r3 e3 h3 => ?_
        refine rd_sl ?_
        refine ⟨_, rfl, ?_⟩
        refine rd_nopart ?_
        refine ⟨_, rfl, ?_⟩
        refine slA (tH2.ex e3) fun H4 r4 e4 h4 => ?_
        rw [show (1 : Int) = ((1 : Nat) : Int) from rfl, cutDrop, nV_drop] at h3
        rw [show (1 : Int) = ((1 : Nat) : Int) from rfl, cutTake, nV_take] at h4
        refine catA (h3.ex e4) h4 (by rw [nV_len, nV_len, List.length_drop, List.length_take]; exact Nat.le_of_lt (sz21 (by omega))) fun H5 r5 e5 h5 => ?_
        rw [← nV_app] at h5
        obtain ⟨b, rfl, hb⟩ := h5
        have e35 := (e3.trans e4).trans e5
        have e05 := (e1.trans e2).trans e35
        have hlen : (l.drop 1 ++ l.take 1).length = l.length := by rw [List.length_append, List.length_drop, List.length_take]; omega
        have har : (around l).length = l.length := by unfold around; rw [List.length_zip, hlen]; omega
        have ha5 := e35 _ _ ha2
        refine ⟨a, b, nV l, nV (l.drop 1 ++ l.take 1), rfl, .inr ⟨SqT.of ha5, SqT.of hb, ?_⟩⟩
        refine tail_for (walk_zipT (xs := nV l) (ys := nV (l.drop 1 ++ l.take 1)) (n := l.length) hnl (by rw [nV_len, hlen]))
          (fun i σ H' => ∃ y4 y5 y6, σ = [some (.int m), some v, some (.ref a), some (.int ((((around l).map fun p => (f p.1 p.2).getD 0).take i).sum)), y4, y5, y6] ∧ Ex H5 H') ⟨none, none, none, rfl, Ex.refl H5⟩
          (fun i σ H' _ hP => by
            obtain ⟨_, _, _, _, e⟩ := hP
            exact ⟨SqT.of (e _ _ ha5), SqT.of (e _ _ hb)⟩) (fun i x σ H6 H7 hi hP hY => ?_) (fun σ H6 hP => ?_)
        · obtain ⟨y4, y5, y6, rfl, e6⟩ := hP
          obtain ⟨T, x1, x2, rfl, nT, rfl, h1, h2⟩ := hY
          obtain ⟨a1, ha1', rfl⟩ := nV_at h1
          obtain ⟨a2, ha2', rfl⟩ := nV_at h2
          have hp : (around l)[i]? = some (a1, a2) := by
            unfold around
            rw [List.getElem?_zip_eq_some]
            exact ⟨ha1', ha2'⟩
          have hmem := List.mem_of_getElem? hp
          have hm2 := around_mem hmem
          have l1 : a1 < m + 1 := R.lt _ hm2.1
          have l2 : a2 < m + 1 := R.lt _ hm2.2
          have eX := (e05.trans e6).trans (Ex.new (o := .tup [.int (a1 : Int), .int (a2 : Int)]) nT)
          refine ⟨T, _, rfl, SqT.of upd_same, rfl, _, _, rfl, _, _, rfl, rfl, ?_⟩
          have hsome := R.som _ hmem
          cases ef : f a1 a2 with
          | none => exact absurd ef hsome
          | some z =>
            refine rd_seq ?_
            refine ⟨_, rfl, _, rfl, ixT (hrs.ex eX) (seqF_get l1) ⟨_, rfl, ixT ((hrow a1 l1).tx (exT eX)) (seqF_get l2) ?_⟩⟩
            rw [ef]
            refine ⟨rfl, false, rfl, ?_⟩
            refine iteF (rd_next ?_)
            refine rd_set ?_
            refine ⟨_, rfl, _, rfl, _, rfl, ixT (hrs.ex eX) (seqF_get l1) ⟨_, rfl, ixT ((hrow a1 l1).tx (exT eX)) (seqF_get l2) ?_⟩⟩
            rw [ef]
            refine ⟨_, _, rfl, rfl, ?_⟩
            refine ⟨some (.int (a1 : Int)), some (.int (a2 : Int)), y6, ?_, e6.trans (Ex.new nT)⟩
            rw [sum_step _ i z (by rw [List.getElem?_map, hp]; show some ((f a1 a2).getD 0) = some z; rw [ef]; rfl)]
            rfl
        · obtain ⟨y4, y5, y6, rfl, e6⟩ := hP
          refine rd_ret ?_
          refine ⟨_, rfl, _, _, rfl, rfl, ?_⟩
          have hn := R.neg
          unfold rsum at hn
          rw [List.take_of_length_le (by rw [List.length_map, har]; exact Nat.le_refl _)]
          show Q (V.bl (decide (_ < (0 : Int)))) _
          rw [decide_eq_true hn]
          exact q H6 (e05.trans e6)
theorem cal_isRing {f : Addr} {fd : FuncData} (F : FnP K "_law_is_ring" sLIsRing f fd) (B : Bl mg) (C : Cal P w K mg base 1 "_law_is_whole" ["_law_thing"] spWhole) (hm : mg "_law_is_ring" = some (.ref f)) :
    Cal P w K mg base 2 "_law_is_ring" ["_law_size_here", "_law_wide", "_law_thing"] spIsRing :=
  ⟨f, fd, ok_isRing F B C, hm, F.kp, F.bindsN fun _ _ _ _ _ _ us hl => match us, hl with | [_, _, _], _ => rfl⟩
end
end K38
set_option maxHeartbeats 4000000
/-! Walk: the law's own closing, rows changed in place. -/
namespace K38
open PySem PySem.Spec PyProof.Rows L2 RZ
open Evl (Ex)
def rTupOf (K : PySem.W.Frag) : List V → Hp → VK → Prop := fun xs H Q => ∃ p ys, xs = [.ref p] ∧ ((SqL K H p ys ∧ ∀ l, H l = none → Q (.ref l) (upd H l (.tup ys))) ∨ (SqT K H p ys ∧ Q (.ref p) H))
theorem callTupOf {X : Cx} : CallR X (.type "tuple") (rTupOf X.K) := call_tuple_of
def rLstOf (K : PySem.W.Frag) : List V → Hp → VK → Prop := fun xs H Q => ∃ p ys, xs = [.ref p] ∧ (SqL K H p ys ∨ SqT K H p ys) ∧ ∀ l, H l = none → Q (.ref l) (upd H l (.lst ys))
theorem callLstOf {X : Cx} : CallR X (.type "list") (rLstOf X.K) := call_list_of
/-- at D a list of the rows at ad, lists that hold S -/
structure LM (H : Hp) (D : Addr) (n : Nat) (ad : List Addr) (S : Mx) : Prop where
  top : H D = some (.lst (ad.map V.ref))
  len : ad.length = n
  nd : ad.Nodup
  out : D ∉ ad
  row : ∀ i p, ad[i]? = some p → H p = some (.lst (seqF n fun j => bV (S i j)))
theorem LM.get {H : Hp} {D : Addr} {n : Nat} {ad : List Addr} {S : Mx} (L : LM H D n ad S) {i : Nat} (hi : i < n) : ∃ p, ad[i]? = some p ∧ (ad.map V.ref)[i]? = some (.ref p) ∧ H p = some (.lst (seqF n fun j => bV (S i j))) := by
  have e : ad[i]? = some (ad[i]'(by rw [L.len]; exact hi)) := List.getElem?_eq_getElem _
  exact ⟨_, e, by rw [List.getElem?_map, e]; rfl, L.row i _ e⟩
theorem LM.congr {H : Hp} {D : Addr} {n : Nat} {ad : List Addr} {S S' : Mx} (L : LM H D n ad S) (h : Eqn n S S') : LM H D n ad S' :=
  ⟨L.top, L.len, L.nd, L.out, fun i p e => by
    have hi : i < n := by
      have := (List.getElem?_eq_some_iff.mp e).1
      rw [L.len] at this
      exact this
    rw [L.row i p e, seqF_congr fun j hj => congrArg bV (h i j hi hj)]⟩
theorem LM.ex {H H' : Hp} {D : Addr} {n : Nat} {ad : List Addr} {S : Mx} (e : Ex H H') (L : LM H D n ad S) : LM H' D n ad S := ⟨e _ _ L.top, L.len, L.nd, L.out, fun i p q => e _ _ (L.row i p q)⟩
theorem seqF_set {α : Type} (n : Nat) (g : Nat → α) (j : Nat) (v : α) : (seqF n g).set j v = seqF n fun b => if b = j then v else g b := by
  refine seqF_of (by rw [List.length_set, seqF_len]) fun i y e => ?_
  rw [List.getElem?_set] at e
  by_cases h : j = i
  · rw [if_pos h] at e
    rw [if_pos h.symm]
    by_cases h2 : j < (seqF n g).length
    · rw [if_pos h2] at e
      exact (Option.some.inj e).symm
    · rw [if_neg h2] at e
      cases e
  · rw [if_neg h] at e
    rw [if_neg fun q => h q.symm]
    exact (seqF_at e).2
theorem LM.set {H : Hp} {D : Addr} {n : Nat} {ad : List Addr} {S : Mx} (L : LM H D n ad S) {i j : Nat} {p : Addr} {x : Bd} (hp : ad[i]? = some p) :
    LM (upd H p (.lst ((seqF n fun b => bV (S i b)).set j (bV x)))) D n ad (fun a b => if a = i ∧ b = j then x else S a b) := by
  have hm := List.mem_of_getElem? hp
  refine ⟨?_, L.len, L.nd, L.out, fun a q e => ?_⟩
  · rw [upd_ne (fun (h : D = p) => L.out (by rw [h]; exact hm))]
    exact L.top
  · by_cases h : a = i
    · subst h
      rw [hp] at e
      cases e
      rw [upd_same, seqF_set]
      congr 2
      refine seqF_congr fun b _ => ?_
      by_cases hb : b = j
      · rw [if_pos hb, if_pos ⟨rfl, hb⟩]
      · rw [if_neg hb, if_neg fun q => hb q.2]
    · have hne : q ≠ p := fun h2 => by
        subst h2
        have li := (List.getElem?_eq_some_iff.mp e).1
        exact h ((List.getElem?_inj li L.nd).mp (e.trans hp.symm))
      rw [upd_ne hne, L.row a q e]
      congr 2
      refine seqF_congr fun b _ => ?_
      rw [if_neg fun q => h q.1]
theorem nodup_app_oneA {l : List Addr} {x : Addr} (h : l.Nodup) (hx : x ∉ l) : (l ++ [x]).Nodup := by
  rw [List.nodup_append]
  exact ⟨h, by simp, fun a ha b hb e => hx (by rw [List.mem_singleton.mp hb] at e; exact e ▸ ha)⟩
/-- in the round of k: rows before i done, of row i the first j -/
def cur (R R' : Mx) (i j : Nat) : Mx := fun a b => if a < i ∨ (a = i ∧ b < j) then R' a b else R a b
theorem cur_next (R R' : Mx) (i j : Nat) : (fun a b => if a = i ∧ b = j then R' i j else cur R R' i j a b) = cur R R' i (j + 1) := by
  funext a b
  unfold cur
  by_cases h : a = i ∧ b = j
  · rw [if_pos h, if_pos (.inr ⟨h.1, by omega⟩), h.1, h.2]
  · rw [if_neg h]
    by_cases h2 : a < i ∨ (a = i ∧ b < j)
    · rw [if_pos h2, if_pos (by rcases h2 with h2 | h2; exact .inl h2; exact .inr ⟨h2.1, by omega⟩)]
    · rw [if_neg h2, if_neg fun q => h2 (by rcases q with q | q; exact .inl q; exact .inr ⟨q.1, by
        by_cases hb : b = j
        · exact absurd ⟨q.1, hb⟩ h
        · omega⟩)]
theorem cur_row {n : Nat} (R R' : Mx) (i : Nat) : Eqn n (cur R R' i n) (cur R R' (i + 1) 0) := fun a b ha hb => by
  unfold cur
  by_cases h : a < i ∨ (a = i ∧ b < n)
  · rw [if_pos h, if_pos (.inl (by omega))]
  · rw [if_neg h, if_neg fun q => h (by omega)]
theorem cur_zero {n : Nat} (R R' : Mx) : Eqn n R (cur R R' 0 0) := fun a b _ _ => by
  unfold cur
  rw [if_neg (by omega)]
theorem cur_all {n : Nat} (R R' : Mx) : Eqn n (cur R R' n 0) R' := fun a b ha _ => by
  unfold cur
  rw [if_pos (.inl ha)]
/-! comprehensions whose list is known as a whole -/
theorem tlc3 {wi : TI} {J : It} {n : Nat} {G : Hp → Prop} {Y : Nat → Hp → V → Hp → Prop} {g : TG} {te : TE} {vs : List Nat} {σ : L2.St} {H H1 : Hp} {Q : VK} (hw : ∀ R : It → Hp → Prop, R J H1 → wi σ H R) (w : Walk J n G Y) (hn : n < sizeLine) (Pv : Addr → List V → Hp → Prop)
    (h0 : ∀ D, H1 D = none → Pv D [] (upd H1 D (.lst []))) (hG : ∀ H, Ex H1 H → G H) (hY : ∀ i H x H', i < n → Ex H1 H → Y i H x H' → Ex H H')
    (turn : ∀ D i ys x H H', i < n → ys.length = i → Ex H1 H → H D = some (.lst ys) → Pv D ys H → Y i H x H' → ∀ Qt : VK, (∀ y H4, Ex H' H4 → H4 D = some (.lst ys) → Pv D (ys ++ [y]) (upd H4 D (.lst (ys ++ [y]))) → Qt y H4) → g x (wipe σ vs) H' fun σ2 H2 => wipe σ2 vs = wipe σ vs ∧ te σ2 H2 Qt)
    (done : ∀ D ys H, H1 D = none → Ex H1 H → H D = some (.lst ys) → ys.length = n → Pv D ys H → Q (.ref D) H) : tLc wi g tYes te vs σ H Q := by
  refine hw _ fun D hD => ?_
  refine lc_it w (fun i H => Ex H1 H ∧ ∃ ys, H D = some (.lst ys) ∧ ys.length = i ∧ Pv D ys H) ⟨Ex.new hD, [], upd_same, rfl, h0 D hD⟩ (fun i H _ p => hG H p.1) (fun i x H H' hi p y => ?_) (fun H p => ?_)
  · obtain ⟨e1, ys, hys, hl, hp⟩ := p
    have e2 := hY i H x H' hi e1 y
    refine turn D i ys x H H' hi hl e1 hys hp y _ fun z H4 e4 hD4 pz => ?_
    exact ⟨ys, hD4, by omega, ((e1.trans e2).trans e4).mut hD, ys ++ [z], upd_same, by rw [List.length_append, hl]; rfl, pz⟩
  · obtain ⟨e1, ys, hys, hl, hp⟩ := p
    exact done D ys H hD e1 hys hl hp
section
variable {P : Program} {w : World} {K : PySem.W.Frag} {mg : Str → Option Value} {base : Heap}
def spClosing : Sp := fun vs H Q _ => ∃ (m : Nat) (v : V) (o : Option Mx), vs = [.int m, v] ∧ MatO H v (m + 1) o ∧ (∀ f, o = some f → Dg (m + 1) f) ∧ m ≤ 20 ∧ ∀ H' r, Ex H H' → MatO H' r (m + 1) (o.bind (clo (m + 1))) → Q r H'
theorem ok_closing {f : Addr} {fd : FuncData} (F : FnP K "_law_closing" sLClosing f fd) (B : Bl mg) : FnOk P w K mg base CX0 1 f fd ["_law_size_here", "_law_wide"] spClosing := by
  refine F.ok scLClosing (fun vs H Q E h => ?_) (fun cdv A outer s H vs Q E hr h => ?_)
  · obtain ⟨m, v, o, rfl, _⟩ := h
    rfl
  · obtain ⟨m, v, o, rfl, hv, hg, hm, q⟩ := h
    have nd := scLClosing.nd
    refine ⟨_, PSs.nox (pss_cons (ps_if (pt_cmpR op_isN (pv 1) pe_non (nomark _)) (pss_one (ps_ret pe_non)) pss_nil)
      (pss_cons (ps_setLc (i := 2) (own := [("_law_line", 8)]) (g := gName 8) (tt := tYes) rfl nd rfl rfl (sw_true rfl rfl rfl (by decide +kernel)) (pi_tup (pv 1)) (blkOk_by (N := nLClosing) (sc := defScope sLClosing) (by decide +kernel))
          (fun _ _ _ _ _ => pg_name (i := 8) nd rfl (.inl rfl)) (fun _ _ _ _ _ => pts_nil) (fun _ _ _ _ _ => pe_callTy (r := rLstOf K) callLstOf (by rfl) B.list bt_list (pa_cons (pv 8) pa_nil)))
      (pss_cons (ps_for PassesOwn.never rfl (pi_range1 (by rfl) B.range (pa_cons (pe_op op_add (pv 0) pe_int) pa_nil)) (pg_name (i := 3) nd rfl (.inl rfl))
        (pss_one (ps_for PassesOwn.never rfl (pi_range1 (by rfl) B.range (pa_cons (pe_op op_add (pv 0) pe_int) pa_nil)) (pg_name (i := 4) nd rfl (.inl rfl))
          (pss_cons (ps_set (i := 5) nd rfl (.inl rfl) (pe_ix (r := rIxL K) ix_list (pe_ix (r := rIxL K) ix_list (pv 2) (pv 4) (fun _ _ => rfl)) (pv 3) (fun _ _ => rfl)))
          (pss_cons (ps_for PassesOwn.never rfl (pi_range1 (by rfl) B.range (pa_cons (pe_op op_add (pv 0) pe_int) pa_nil)) (pg_name (i := 6) nd rfl (.inl rfl))
            (pss_cons (ps_set (i := 7) nd rfl (.inl rfl) (pe_ix (r := rIxL K) ix_list (pe_ix (r := rIxL K) ix_list (pv 2) (pv 3) (fun _ _ => rfl)) (pv 6) (fun _ _ => rfl)))
            (pss_one (ps_if (PW.pt (pw_and (pt_cmpR op_notN (pv 5) pe_non (nomark _)) (pw_and1 (pt_cmpR op_notN (pv 7) pe_non (nomark _)))))
              (pss_one (ps_if (PW.pt (pw_or (pt_cmpR op_isN (pe_ix (r := rIxL K) ix_list (pe_ix (r := rIxL K) ix_list (pv 2) (pv 4) (fun _ _ => rfl)) (pv 6) (fun _ _ => rfl)) pe_non (nomark _))
                  (pw_or1 (pt_cmpR op_lt (pe_op op_add (pv 5) (pv 7)) (pe_ix (r := rIxL K) ix_list (pe_ix (r := rIxL K) ix_list (pv 2) (pv 4) (fun _ _ => rfl)) (pv 6) (fun _ _ => rfl)) (nomark _)))))
                (pss_one (ps_asg (pe_op op_add (pv 5) (pv 7)) (pg_sub (pe_ix (r := rIxL K) ix_list (pv 2) (pv 4) (fun _ _ => rfl)) (pv 6) set_list))) pss_nil)) pss_nil))))
          (pss_one (ps_if (pt_cmpR op_lt (pe_ix (r := rIxL K) ix_list (pe_ix (r := rIxL K) ix_list (pv 2) (pv 4) (fun _ _ => rfl)) (pv 4) (fun _ _ => rfl)) pe_int (nomark _)) (pss_one (ps_ret pe_non)) pss_nil)))))))
      (pss_one (ps_ret (pe_callTy call_tuple_of (by rfl) B.tuple bt_tuple (pa_cons (pe_lc (own := [("_law_line", 8)]) (g := gName 8) (tt := tYes) rfl nd (pi_list (pv 2)) (blkOk_by (N := nLClosing) (sc := defScope sLClosing) (by decide +kernel))
          (fun _ _ _ _ _ => pg_name (i := 8) nd rfl (.inl rfl)) (fun _ _ _ _ _ => pts_nil) (fun _ _ _ _ _ => pe_callTy (r := rTupOf K) callTupOf (by rfl) B.tuple bt_tuple (pa_cons (pv 8) pa_nil))) pa_nil))))))), ?_⟩
    cases o with
    | none =>
      obtain rfl : v = .non := hv
      exact ⟨_, rfl, rfl, true, rfl, q H _ (Ex.refl H) rfl⟩
    | some f =>
      have hg := hg f rfl
      obtain ⟨rs, hrs, hrow⟩ := hv
      obtain ⟨a, rfl, ha⟩ := hrs
      have big : ∀ {z : Nat}, z ≤ 21 → z ≤ sizeLine := fun h => Nat.le_of_lt (sz21 h)
      refine rd_seq ?_
      refine ⟨_, rfl, rfl, false, rfl, ?_⟩
      refine iteF (rd_next ?_)
      refine rd_seq ?_
      refine rd_set ?_
      refine tlc3 (H1 := H) (fun R r => ⟨_, rfl, a, rfl, ⟨_, SqT.of ha⟩, r⟩) walk_tup (n := (seqF (m + 1) rs).length) (by rw [seqF_len]; exact sz21 (by omega))
        (fun D ys H' => ∃ ad : List Addr, ys = ad.map V.ref ∧ ad.Nodup ∧ D ∉ ad ∧ ∀ i p, ad[i]? = some p → H p = none ∧ H' p = some (.lst (seqF (m + 1) fun j => bV (f i j))))
        (fun D _ => ⟨[], rfl, List.nodup_nil, List.not_mem_nil, fun i p e => by cases e⟩) (fun H1 e => SqT.of (e _ _ ha)) (fun i H1 x H2 _ _ y => yat_ex y) (fun D i ys x H1 H2 hi hl e1 hD hP y Qt k => ?_) (fun D ys H1 hD e1 hDl hl hP => ?_)
      · obtain ⟨rfl, hx⟩ := y
        obtain ⟨hi2, rfl⟩ := seqF_at hx
        obtain ⟨ad, rfl, nda, outa, hada⟩ := hP
        obtain ⟨b, eb, hb⟩ := (hrow i hi2).tx (exT e1)
        refine ⟨rfl, rs i, rfl, ?_⟩
        rw [eb]
        refine ⟨b, _, rfl, .inr (SqT.of hb), fun p hp => ?_⟩
        have nDp : D ≠ p := ne_of_none hD hp
        have hpo : p ∉ ad := fun h => by
          obtain ⟨i', hi', e'⟩ := List.getElem_of_mem h
          have := (hada i' p (by rw [List.getElem?_eq_getElem hi', e'])).2
          rw [hp] at this
          cases this
        have hpH : H p = none := by
          cases e : H p with
          | none => rfl
          | some o => rw [e1 _ _ e] at hp; cases hp
        refine k _ _ (Ex.new hp) (by rw [upd_ne nDp]; exact hD) ⟨ad ++ [p], by rw [List.map_append]; rfl, nodup_app_oneA nda hpo, fun h => ?_, fun i' p' e' => ?_⟩
        · rcases List.mem_append.mp h with h | h
          · exact outa h
          · exact nDp (List.mem_singleton.mp h)
        · by_cases hlt : i' < ad.length
          · rw [List.getElem?_append_left hlt] at e'
            have h2 := hada i' p' e'
            refine ⟨h2.1, ?_⟩
            rw [upd_ne (fun h => outa (by rw [← h]; exact List.mem_of_getElem? e')), upd_ne (fun h => hpo (by rw [← h]; exact List.mem_of_getElem? e'))]
            exact h2.2
          · have hi' : i' = ad.length := by
              have := (List.getElem?_eq_some_iff.mp e').1
              rw [List.length_append] at this
              have h1 : [p].length = 1 := rfl
              omega
            rw [hi', List.getElem?_append_right (Nat.le_refl _), Nat.sub_self] at e'
            cases e'
            refine ⟨hpH, ?_⟩
            rw [List.length_map] at hl
            rw [upd_ne nDp.symm, upd_same, hi', hl]
      · obtain ⟨ad, rfl, nda, outa, hada⟩ := hP
        rw [List.length_map, seqF_len] at hl
        have L0 : LM H1 D (m + 1) ad (rnd f 0) := ⟨hDl, hl, nda, outa, fun i p e => (hada i p e).2⟩
        have fr : ∀ i p, ad[i]? = some p → H p = none := fun i p e => (hada i p e).1
        refine rd_seq ?_
        have en : ((m : Int) + 1).toNat = m + 1 := by omega
        have rng : ∀ {R : It → Hp → Prop} {H' : Hp}, R (Itr 0 (m + 1)) H' → R (Itr 0 ((m : Int) + 1).toNat) H' := fun r => by rw [en]; exact r
        refine tfor (J := Itr 0 (m + 1)) (H1 := H1) (fun R r => ⟨_, rfl, _, _, rfl, rfl, (m : Int) + 1, rfl, by omega, by omega, rng r⟩) walk_rng0
          (fun k σ H' => ∃ y3 y4 y5 y6 y7 y8, σ = [some (.int m), some (.ref a), some (.ref D), y3, y4, y5, y6, y7, y8] ∧ Ex H H' ∧ LM H' D (m + 1) ad (rnd f k) ∧ Dg (m + 1) (rnd f k))
          ⟨_, _, _, _, _, _, rfl, e1, L0, hg⟩ (fun _ _ _ _ _ => trivial) (fun k x σ H2 H3 hk hP hY => ?_) (fun σ H2 hP => ?_)
        · obtain ⟨rfl, rfl⟩ := hY
          obtain ⟨y3, y4, y5, y6, y7, y8, rfl, e2, L2, hd⟩ := hP
          refine rd_gn ?_
          generalize hR : rnd f k = R at *
          have hR' : rnd f (k + 1) = stp R k := by rw [← hR]; rfl
          rw [hR']
          have hkk : R k k = some 0 := hd k hk
          refine tfor (J := Itr 0 (m + 1)) (H1 := H3) (fun R r => ⟨_, rfl, _, _, rfl, rfl, (m : Int) + 1, rfl, by omega, by omega, rng r⟩) walk_rng0
            (fun i σ H' => ∃ y4 y5 y6 y7, σ = [some (.int m), some (.ref a), some (.ref D), some (.int k), y4, y5, y6, y7, y8] ∧ Ex H H' ∧ LM H' D (m + 1) ad (cur R (stp R k) i 0) ∧ ∀ b, b < i → stp R k b b = some 0)
            ⟨_, _, _, _, rfl, e2, L2.congr (cur_zero R _), fun b hb => absurd hb (Nat.not_lt_zero b)⟩ (fun _ _ _ _ _ => trivial) (fun i x σ H4 H5 hi hP hY => ?_) (fun σ H4 hP => ?_)
          · obtain ⟨rfl, rfl⟩ := hY
            obtain ⟨y4, y5, y6, y7, rfl, e4, L4, hb⟩ := hP
            refine rd_gn ?_
            refine rd_seq ?_
            refine rd_set ?_
            obtain ⟨pi, hpi, hpv, hpr⟩ := L4.get hi
            refine ⟨_, rfl, _, rfl, ixL L4.top hpv ⟨_, rfl, ixL hpr (seqF_get hk) ?_⟩⟩
            have ea : cur R (stp R k) i 0 i k = R i k := by unfold cur; rw [if_neg (by omega)]
            rw [ea]
            refine rd_seq ?_
            refine tfor (J := Itr 0 (m + 1)) (H1 := H5) (fun R r => ⟨_, rfl, _, _, rfl, rfl, (m : Int) + 1, rfl, by omega, by omega, rng r⟩) walk_rng0
              (fun j σ H' => ∃ y6 y7, σ = [some (.int m), some (.ref a), some (.ref D), some (.int k), some (.int i), some (bV (R i k)), y6, y7, y8] ∧ Ex H H' ∧ LM H' D (m + 1) ad (cur R (stp R k) i j))
              ⟨_, _, rfl, e4, L4⟩ (fun _ _ _ _ _ => trivial) (fun j x σ H6 H7 hj hP hY => ?_) (fun σ H6 hP => ?_)
            · obtain ⟨rfl, rfl⟩ := hY
              obtain ⟨y6, y7, rfl, e6, L6⟩ := hP
              refine rd_gn ?_
              refine rd_seq ?_
              refine rd_set ?_
              obtain ⟨pk, hpk, hpkv, hpkr⟩ := L6.get hk
              refine ⟨_, rfl, _, rfl, ixL L6.top hpkv ⟨_, rfl, ixL hpkr (seqF_get hj) ?_⟩⟩
              have eb : cur R (stp R k) i j k j = R k j := by
                unfold cur
                by_cases h : k < i ∨ (k = i ∧ j < j)
                · rw [if_pos h, stp_row hkk]
                · rw [if_neg h]
              rw [eb]
              have ec : cur R (stp R k) i j i j = R i j := by unfold cur; rw [if_neg (by omega)]
              obtain ⟨p, hp, hpv2, hpr2⟩ := L6.get hi
              have keep : stp R k i j = R i j → ∀ y6 y7 : Option V, ∃ z6 z7, [some (.int m), some (.ref a), some (.ref D), some (.int k), some (.int i), some (bV (R i k)), y6, y7, y8] = [some (.int m), some (.ref a), some (.ref D), some (.int k), some (.int i), some (bV (R i k)), z6, z7, y8] ∧ Ex H H7 ∧ LM H7 D (m + 1) ad (cur R (stp R k) i (j + 1)) := fun e y6 y7 =>
                ⟨_, _, rfl, e6, L6.congr fun x y _ _ => by
                  rw [← cur_next]
                  show _ = if x = i ∧ y = j then _ else _
                  by_cases h : x = i ∧ y = j
                  · rw [if_pos h, e, h.1, h.2, ec]
                  · rw [if_neg h]⟩
              have gets : ∀ {Q : VK}, Q (bV (R i j)) H7 → rIxL K (.ref D) (.int (i : Int)) H7 (fun x H1 => rIxL K x (.int (j : Int)) H1 Q) := fun {Q} qq => ixL L6.top hpv2 (ixL hpr2 (seqF_get hj) (by rw [ec]; exact qq))
              refine rd_ifs ?_
              cases e1' : R i k with
              | none =>
                refine ⟨_, rfl, rfl, false, rfl, ?_⟩
                refine iteF ?_
                rw [e1'] at keep
                exact keep (by unfold stp; rw [e1']; exact ls_eq (le_none _)) _ _
              | some u1 =>
                refine ⟨_, rfl, rfl, true, rfl, ?_⟩
                refine iteT ?_
                rw [e1'] at keep
                cases e2' : R k j with
                | none =>
                  refine ⟨_, rfl, rfl, false, rfl, ?_⟩
                  refine iteF ?_
                  exact keep (by unfold stp; rw [e1', e2']; exact ls_eq (le_none _)) _ _
                | some u2 =>
                  refine ⟨_, rfl, rfl, true, rfl, ?_⟩
                  refine iteT ?_
                  refine rd_ifs ?_
                  have put : stp R k i j = some (u1 + u2) → ∀ y6 y7 : Option V, rSetL (.ref p) (.int (j : Int)) (.int (u1 + u2)) H7 (fun H' => ∃ z6 z7, [some (.int m), some (.ref a), some (.ref D), some (.int k), some (.int i), some (bV (some u1)), y6, y7, y8] = [some (.int m), some (.ref a), some (.ref D), some (.int k), some (.int i), some (bV (some u1)), z6, z7, y8] ∧ Ex H H' ∧ LM H' D (m + 1) ad (cur R (stp R k) i (j + 1))) := fun e y6 y7 => by
                    refine ⟨p, _, (j : Int), j, rfl, rfl, hpr2, ?_, _, _, rfl, e6.mut (fr i p hp), ?_⟩
                    · unfold ixN
                      rw [seqF_len, if_pos (by omega), if_pos (by omega)]
                      rfl
                    · rw [← cur_next, e]
                      exact L6.set (x := some (u1 + u2)) hp
                  refine rd_ot ?_
                  refine ⟨_, rfl, _, rfl, ?_⟩
                  cases e3' : R i j with
                  | none =>
                    refine ixL L6.top hpv2 ⟨_, rfl, ixL hpr2 (seqF_get hj) ?_⟩
                    rw [ec, e3']
                    refine ⟨rfl, true, rfl, ?_⟩
                    refine iteT ?_
                    refine iteT ?_
                    refine rd_asg ?_
                    refine ⟨_, rfl, _, rfl, u1, u2, rfl, rfl, ?_⟩
                    refine ⟨_, rfl, _, rfl, ixL L6.top hpv2 ⟨_, rfl, put (by unfold stp; rw [e1', e2', e3']; rfl) _ _⟩⟩
                  | some u3 =>
                    refine ixL L6.top hpv2 ⟨_, rfl, ixL hpr2 (seqF_get hj) ?_⟩
                    rw [ec, e3']
                    refine ⟨rfl, false, rfl, ?_⟩
                    refine iteF ?_
                    refine ⟨_, rfl, _, rfl, u1, u2, rfl, rfl, _, rfl, _, rfl, ixL L6.top hpv2 ⟨_, rfl, ixL hpr2 (seqF_get hj) ?_⟩⟩
                    rw [ec, e3']
                    refine ⟨_, _, rfl, rfl, _, rfl, ?_⟩
                    by_cases hlt : u1 + u2 < u3
                    · rw [decide_eq_true hlt]
                      refine iteT ?_
                      refine rd_asg ?_
                      refine ⟨_, rfl, _, rfl, u1, u2, rfl, rfl, ?_⟩
                      refine ⟨_, rfl, _, rfl, ixL L6.top hpv2 ⟨_, rfl, put ?_ _ _⟩⟩
                      unfold stp ls
                      rw [e1', e2', e3']
                      show (if decide (u3 ≤ u1 + u2) = true then some u3 else some (u1 + u2)) = _
                      rw [decide_eq_false (by omega)]
                      rfl
                    · rw [decide_eq_false hlt]
                      refine iteF ?_
                      refine keep ?_ _ _
                      unfold stp ls
                      rw [e1', e2', e3']
                      show (if decide (u3 ≤ u1 + u2) = true then some u3 else some (u1 + u2)) = _
                      rw [decide_eq_true (by omega)]
                      rfl
            · obtain ⟨y6, y7, rfl, e6, L6⟩ := hP
              have L6b := L6.congr (cur_row R (stp R k) i)
              obtain ⟨p, hp, hpv2, hpr2⟩ := L6b.get hi
              have ed : cur R (stp R k) (i + 1) 0 i i = stp R k i i := by unfold cur; rw [if_pos (.inl (Nat.lt_succ_self i))]
              refine rd_ifs ?_
              refine ⟨_, rfl, _, rfl, ixL L6b.top hpv2 ⟨_, rfl, ixL hpr2 (seqF_get hi) ?_⟩⟩
              rw [ed]
              obtain ⟨d, hdd, hd0⟩ := diag_or hg (k + 1) hi
              have hdd2 := hdd
              rw [hR'] at hdd
              rw [hdd]
              refine ⟨_, _, rfl, rfl, _, rfl, ?_⟩
              by_cases hneg : d < 0
              · rw [decide_eq_true hneg]
                refine iteT ?_
                refine q H6 .non e6 ?_
                show MatO H6 .non (m + 1) (clo (m + 1) f)
                have := neg_stays (m := m + 1) hk hi hdd2 hneg
                unfold clo
                rw [if_neg (by rw [this]; decide)]
                rfl
              · rw [decide_eq_false hneg]
                refine iteF ?_
                refine ⟨_, _, _, _, rfl, e6, L6b, fun b hb2 => ?_⟩
                by_cases e : b = i
                · rw [e, hdd, show d = 0 by omega]
                · exact hb b (by omega)
          · obtain ⟨y4, y5, y6, y7, rfl, e4, L4, hb⟩ := hP
            exact ⟨_, _, _, _, _, _, rfl, e4, L4.congr (cur_all R _), fun b hb2 => hb b hb2⟩
        · obtain ⟨y3, y4, y5, y6, y7, y8, rfl, e2, L2, hd⟩ := hP
          have hclo : clo (m + 1) f = some (rnd f (m + 1)) := by
            unfold clo
            rw [if_pos (okD_iff.mpr hd)]
          refine rd_ret ?_
          refine rd_cb ?_
          refine rd_c1 ?_
          have hml : (ad.map V.ref).length = m + 1 := by rw [List.length_map]; exact hl
          refine tlc (H1 := H2) (fun R r => ⟨_, rfl, D, rfl, ⟨_, SqL.of L2.top⟩, r⟩) walk_list (n := (ad.map V.ref).length) (by rw [hml]; exact sz21 (by omega)) (fun i y H => Row H y (m + 1) (rnd f (m + 1) i)) (fun _ _ _ _ _ t e => e.tx t) (fun H1 e => SqL.of (e _ _ L2.top)) (fun i H1 x H2 _ _ y => yat_ex y) (fun i x H3 H4 hi e3 e4 y Qt k => ?_) (fun D2 ys H3 hD3 e3 hD4 hl2 hP => ?_)
          · obtain ⟨rfl, hx⟩ := y
            rw [hml] at hi
            obtain ⟨p, hp, hpv, hpr⟩ := L2.get hi
            rw [hpv] at hx
            cases hx
            refine ⟨rfl, _, rfl, p, _, rfl, .inl ⟨SqL.of (e4 _ _ hpr), fun t ht => ?_⟩⟩
            exact k _ _ (Ex.new ht) ⟨t, rfl, upd_same⟩
          · refine ⟨D2, ys, rfl, .inl ⟨SqL.of hD4, fun t ht => ?_⟩⟩
            refine q _ _ ((e2.trans e3).trans (Ex.new ht)) ?_
            show MatO _ _ (m + 1) (clo (m + 1) f)
            rw [hclo]
            exact mat_of (hl2.trans hml) ⟨t, rfl, upd_same⟩ fun i y e => (hP i y e).tx (txN ht)
theorem cal_closing {f : Addr} {fd : FuncData} (F : FnP K "_law_closing" sLClosing f fd) (B : Bl mg) (hm : mg "_law_closing" = some (.ref f)) : Cal P w K mg base 1 "_law_closing" ["_law_size_here", "_law_wide"] spClosing :=
  ⟨f, fd, ok_closing F B, hm, F.kp, F.bindsN fun _ _ _ _ _ _ us hl => match us, hl with | [_, _], _ => rfl⟩
end
end K38
set_option maxHeartbeats 4000000
/-! Data that repr can show: their size; the data behind tables, rings, values. -/
namespace K38
open PySem PySem.Spec PyProof.Rows L2 RZ
open Evl (Ex)
/-- data that are short in all ways: depth at most D, weight at most W -/
structure Sm (D W : Nat) (d : PyData) : Prop where
  sh : d.showable = true
  nod : d.hasDict = false
  dep : d.depth ≤ D
  lv : d.leavesShort 70 = true
  wt : d.weight ≤ W
theorem Sm.mono {D D' W W' : Nat} {d : PyData} (h : Sm D W d) (hD : D ≤ D') (hW : W ≤ W') : Sm D' W' d := ⟨h.sh, h.nod, Nat.le_trans h.dep hD, h.lv, Nat.le_trans h.wt hW⟩
theorem sm_none {D W : Nat} : Sm D W .none := ⟨rfl, rfl, Nat.zero_le _, rfl, Nat.zero_le _⟩
theorem sm_bool {D W : Nat} (b : Bool) : Sm D W (.bool b) := ⟨rfl, rfl, Nat.zero_le _, rfl, Nat.zero_le _⟩
theorem sm_int {D W : Nat} {i : Int} (h1 : -(2 ^ 64) < i) (h2 : i < 2 ^ 64) (hW : 64 ≤ W) : Sm D W (.int i) := by
  have hn : i.natAbs < 2 ^ 64 := by omega
  have hl : i.natAbs.log2 < 64 := by
    by_cases h0 : i.natAbs = 0
    · rw [h0]; decide
    · exact (Nat.log2_lt h0).mpr hn
  refine ⟨?_, rfl, Nat.zero_le _, ?_, ?_⟩
  · show decide (i.natAbs.log2 < 1920) = true
    exact decide_eq_true (by omega)
  · show decide ((PyData.shown (.int i)).length ≤ 70) = true
    refine decide_eq_true ?_
    have := int_text_length_le (a := i) (k := 64) (by decide) hl
    show (Str.ofString (toString i)).length ≤ 70
    rw [PySem.ofString_length]
    omega
  · show (if i == 0 then 0 else i.natAbs.log2 + 1) ≤ W
    split <;> omega
theorem sm_all {D W : Nat} : ∀ {ds : List PyData}, (∀ d ∈ ds, Sm D W d) → PyData.showableAll ds = true ∧ PyData.hasDictAll ds = false ∧ PyData.depthAll ds ≤ D ∧ PyData.leavesShortAll 70 ds = true ∧ PyData.weightAll ds ≤ (W + 1) * ds.length
  | [], _ => ⟨rfl, rfl, Nat.zero_le _, rfl, Nat.zero_le _⟩
  | d :: ds, h => by
    obtain ⟨a, b, c, e, g⟩ := sm_all (ds := ds) fun x hx => h x (List.mem_cons_of_mem _ hx)
    have hd := h d List.mem_cons_self
    have d1 := hd.dep
    have w1 := hd.wt
    refine ⟨?_, ?_, ?_, ?_, ?_⟩
    · simp only [PyData.showableAll, hd.sh, a, Bool.and_self]
    · simp only [PyData.hasDictAll, hd.nod, b, Bool.or_self]
    · simp only [PyData.depthAll]; omega
    · simp only [PyData.leavesShortAll, hd.lv, e, Bool.and_self]
    · simp only [PyData.weightAll, List.length_cons, Nat.mul_add, Nat.mul_one]; omega
theorem sm_tup {D W W' : Nat} {ds : List PyData} (h : ∀ d ∈ ds, Sm D W d) (hW : (W + 1) * ds.length ≤ W') : Sm (D + 1) W' (.tuple ds) := by
  obtain ⟨a, b, c, e, g⟩ := sm_all h
  refine ⟨?_, ?_, ?_, ?_, ?_⟩
  · simp only [PyData.showable]; exact a
  · simp only [PyData.hasDict]; exact b
  · simp only [PyData.depth]; omega
  · simp only [PyData.leavesShort]; exact e
  · simp only [PyData.weight]; omega
theorem sm_lst {D W W' : Nat} {ds : List PyData} (h : ∀ d ∈ ds, Sm D W d) (hW : (W + 1) * ds.length ≤ W') : Sm (D + 1) W' (.list ds) := by
  obtain ⟨a, b, c, e, g⟩ := sm_all h
  refine ⟨?_, ?_, ?_, ?_, ?_⟩
  · simp only [PyData.showable]; exact a
  · simp only [PyData.hasDict]; exact b
  · simp only [PyData.depth]; omega
  · simp only [PyData.leavesShort]; exact e
  · simp only [PyData.weight]; omega
theorem Sm.size {D W : Nat} {d : PyData} (h : Sm D W d) (hW : W ≤ 100000) : d.shown.length ≤ sizeLine := by
  have q := PyData.shown_le 70 (by decide) d h.lv
  have w1 := h.wt
  rw [sizeLine_eq]
  omega
/-- repr of such data -/
theorem repr_sm {K : PySem.W.Frag} {H : Hp} {Q : VK} {a : Addr} {d : PyData} {W : Nat} (hd : Dp K H (.ref a) d) (h : Sm 20 W d) (hW : W ≤ 100000) (q : Q (.str d.shown) H) :
    ∃ a' d', [V.ref a] = [.ref a'] ∧ Dp K H (.ref a') d' ∧ d'.showable = true ∧ d'.hasDict = false ∧ d'.depth ≤ 20 ∧ d'.shown.length ≤ sizeLine ∧ Q (.str d'.shown) H :=
  ⟨a, d, rfl, hd, h.sh, h.nod, h.dep, h.size hW, q⟩
/-! ### the data -/
def dB : Bd → PyData
  | none => .none
  | some x => .int x
def dRow (n : Nat) (g : Nat → Bd) : PyData := .tuple (seqF n fun j => dB (g j))
def dMO (n : Nat) : Option Mx → PyData
  | none => .none
  | some f => .tuple (seqF n fun i => dRow n (f i))
def dInts (l : List Int) : PyData := .tuple (l.map PyData.int)
def dRing : Option (List Nat) → PyData
  | none => .none
  | some l => dInts (l.map fun (x : Nat) => (x : Int))
def dVal : Option (List Int) → PyData
  | none => .none
  | some l => dInts l
theorem dpAll_of {K : PySem.W.Frag} {H : Hp} : ∀ {xs : List V} {ds : List PyData}, xs.length = ds.length → (∀ (i : Nat) (x : V) (d : PyData), xs[i]? = some x → ds[i]? = some d → Dp K H x d) → DpAll K H xs ds
  | [], [], _, _ => .nil
  | x :: xs, d :: ds, hl, h => .cons (h 0 x d rfl rfl) (dpAll_of (Nat.succ.inj hl) fun i y e h1 h2 => h (i + 1) y e h1 h2)
theorem dp_seq {K : PySem.W.Frag} {H : Hp} {n : Nat} {g : Nat → V} {k : Nat → PyData} (h : ∀ i, i < n → Dp K H (g i) (k i)) : DpAll K H (seqF n g) (seqF n k) :=
  dpAll_of (by rw [seqF_len, seqF_len]) fun i x d h1 h2 => by
    obtain ⟨hi, rfl⟩ := seqF_at h1
    obtain ⟨_, rfl⟩ := seqF_at h2
    exact h i hi
theorem dp_bV {K : PySem.W.Frag} {H : Hp} (b : Bd) : Dp K H (bV b) (dB b) := by
  cases b with
  | none => exact .non
  | some x => exact .int x
theorem dp_row {K : PySem.W.Frag} {H : Hp} {v : V} {n : Nat} {g : Nat → Bd} (h : Row H v n g) : Dp K H v (dRow n g) := by
  obtain ⟨a, rfl, ha⟩ := h
  exact .tup (SqT.of ha) (dp_seq fun i _ => dp_bV (g i))
theorem dp_matO {K : PySem.W.Frag} {H : Hp} {v : V} {n : Nat} {o : Option Mx} (h : MatO H v n o) : Dp K H v (dMO n o) := by
  cases o with
  | none =>
    obtain rfl : v = .non := h
    exact .non
  | some f =>
    obtain ⟨rs, ⟨a, rfl, ha⟩, hrow⟩ := h
    exact .tup (SqT.of ha) (dp_seq fun i hi => dp_row (hrow i hi))
theorem dp_intsV {K : PySem.W.Frag} {H : Hp} {v : V} {l : List Int} (h : Ints H v l) : Dp K H v (dInts l) := by
  obtain ⟨a, rfl, ha⟩ := h
  exact .tup (SqT.of ha) (dp_ints K H l)
theorem dp_ring {K : PySem.W.Frag} {H : Hp} {v : V} {o : Option (List Nat)} (h : RingV H v o) : Dp K H v (dRing o) := by
  cases o with
  | none =>
    obtain rfl : v = .non := h
    exact .non
  | some l =>
    have h2 : Tup H v (nV l) := h
    rw [nV_map] at h2
    exact dp_intsV h2
theorem dp_val {K : PySem.W.Frag} {H : Hp} {v : V} {o : Option (List Int)} (h : ValV H v o) : Dp K H v (dVal o) := by
  cases o with
  | none =>
    obtain rfl : v = .non := h
    exact .non
  | some l => exact dp_intsV h
theorem seqF_mem {α : Type} {n : Nat} {g : Nat → α} {x : α} (h : x ∈ seqF n g) : ∃ i, i < n ∧ x = g i := by
  unfold seqF at h
  obtain ⟨i, hi, e⟩ := List.mem_map.mp h
  exact ⟨i, List.mem_range.mp hi, e.symm⟩
theorem sm_matO {n : Nat} {o : Option Mx} (hn : n ≤ 21) (h : ∀ f, o = some f → Bnd (2 ^ 60) n f) : Sm 2 30000 (dMO n o) := by
  cases o with
  | none => exact sm_none
  | some f =>
    have hb := h f rfl
    refine sm_tup (D := 1) (W := 1400) (fun d hd => ?_) (by rw [seqF_len]; omega)
    obtain ⟨i, hi, rfl⟩ := seqF_mem hd
    refine sm_tup (D := 0) (W := 64) (fun d hd => ?_) (by rw [seqF_len]; omega)
    obtain ⟨j, hj, rfl⟩ := seqF_mem hd
    cases e : f i j with
    | none => exact sm_none
    | some x =>
      have := hb i j hi hj x e
      exact sm_int (by omega) (by omega) (Nat.le_refl _)
theorem sm_ints {l : List Int} (hl : l.length ≤ 21) (h : BndL (2 ^ 60) l) : Sm 1 1400 (dInts l) := by
  refine sm_tup (D := 0) (W := 64) (fun d hd => ?_) (by rw [List.length_map]; omega)
  obtain ⟨x, hx, rfl⟩ := List.mem_map.mp hd
  have := h x hx
  exact sm_int (by omega) (by omega) (Nat.le_refl _)
theorem sm_ring {o : Option (List Nat)} (h : ∀ l, o = some l → l.length ≤ 21 ∧ ∀ x ∈ l, x < 100) : Sm 1 1400 (dRing o) := by
  cases o with
  | none => exact sm_none
  | some l =>
    obtain ⟨h1, h2⟩ := h l rfl
    refine sm_ints (by rw [List.length_map]; exact h1) fun x hx => ?_
    obtain ⟨y, hy, rfl⟩ := List.mem_map.mp hx
    have := h2 y hy
    omega
theorem sm_val {o : Option (List Int)} (h : ∀ l, o = some l → l.length ≤ 21 ∧ BndL (2 ^ 60) l) : Sm 1 1400 (dVal o) := by
  cases o with
  | none => exact sm_none
  | some l => exact sm_ints (h l rfl).1 (h l rfl).2
theorem dMO_congr {n : Nat} {f g : Mx} (h : Eqn n f g) : dMO n (some f) = dMO n (some g) := by
  show PyData.tuple _ = PyData.tuple _
  congr 1
  refine seqF_congr fun i hi => ?_
  show PyData.tuple _ = PyData.tuple _
  congr 1
  exact seqF_congr fun j hj => by rw [h i j hi hj]
end K38
set_option maxHeartbeats 4000000
/-! Walk: the law's spring. -/
namespace K38
open PySem PySem.Spec PyProof.Rows L2 RZ
open Evl (Ex)
theorem sqL_ex {K : PySem.W.Frag} {H H' : Hp} {a : Addr} {xs : List V} (e : Ex H H') (h : SqL K H a xs) : SqL K H' a xs := by
  rcases h with (h | ⟨o, h⟩) | h
  · exact .inl (.inl (e _ _ h))
  · exact .inl (.inr ⟨o, e _ _ h⟩)
  · exact .inr h
section
variable {P : Program} {w : World} {K : PySem.W.Frag} {mg : Str → Option Value} {base : Heap}
def spSpring (K : PySem.W.Frag) : Sp := fun vs H Q _ => ∃ (a : Addr) (t : Nat) (ns : List Int), vs = [.ref a, .int t] ∧ SqL K H a (ns.map V.int) ∧ ∀ (H' : Hp) (p : Addr), Ex H H' → H p = none → SpA H' p → Q (.ref p) H'
theorem ok_spring {f : Addr} {fd : FuncData} (F : FnP K "_law_spring" sLSpring f fd) (B : Bl mg) : FnOk P w K mg base CX0 1 f fd ["_law_script", "_law_turn"] (spSpring K) := by
  refine F.ok scLSpring (fun vs H Q E h => ?_) (fun cdv A outer s H vs Q E hr h => ?_)
  · obtain ⟨a, t, ns, rfl, _⟩ := h
    rfl
  · obtain ⟨a, t, ns, rfl, ha, q⟩ := h
    have nd := scLSpring.nd
    refine ⟨_, PSs.nox (pss_cons (ps_set (i := 2) nd rfl (.inl rfl) (pe_op op_add pe_int (pe_op op_mul pe_int (pv 1))))
      (pss_cons (ps_for PassesOwn.never rfl (pi_list (pe_slice sl_list (pv 0) po_none (po_some pe_int))) (pg_name (i := 3) nd rfl (.inl rfl))
        (pss_one (ps_set (i := 2) nd rfl (.inl rfl) (pe_op op_mod (pe_callTy call_int1 (by rfl) B.int bt_int (pa_cons (pe_op op_add (pe_op op_add (pe_op op_mul (pv 2) pe_int) (pe_op op_mod (pe_callTy call_int1 (by rfl) B.int bt_int (pa_cons (pv 3) pa_nil)) pe_int)) pe_int) pa_nil)) pe_int))))
      (pss_cons (ps_set (i := 4) nd rfl (.inl rfl) (pe_ifExp (pt_cmpR op_lt (pv 1) (pe_callB call_len_seq (by rfl) B.len PySem.boot_len (pa_cons (pv 0) pa_nil)) (nomark _))
        (pe_callTy call_int1 (by rfl) B.int bt_int (pa_cons (pe_ix (r := rIxL K) ix_list (pv 0) (pv 1) (fun _ _ => rfl)) pa_nil)) pe_int))
      (pss_cons (ps_set (i := 2) nd rfl (.inl rfl) (pe_op op_mod (pe_callTy call_int1 (by rfl) B.int bt_int (pa_cons (pe_op op_add (pe_op op_add (pe_op op_mul (pv 2) pe_int) (pe_op op_mul (pe_op op_mod (pe_callTy call_int1 (by rfl) B.int bt_int (pa_cons (pv 4) pa_nil)) pe_int) pe_int)) pe_int) pa_nil)) pe_int))
      (pss_one (ps_ret (pe_lst (pa_cons (pe_ifExp (PW.pt (pw_or (pt_cmpR op_lt (pv 4) pe_int (nomark _)) (pw_or1 (pt_cmpR op_ge (pv 4) (pe_op op_pow pe_int pe_int) (nomark _))))) (pe_callB call_abs (by rfl) B.abs bt_abs (pa_cons (pv 4) pa_nil)) pe_int)
        (pa_cons (pv 2) (pa_cons pe_int pa_nil)))))))))), ?_⟩
    refine rd_seq ?_
    refine rd_set ?_
    refine rd_op ?_
    refine rd_c ?_
    refine rd_op ?_
    refine rd_c ?_
    refine ⟨_, rfl, _, _, rfl, rfl, .inl ⟨by decide, by decide⟩, ?_⟩
    refine ⟨_, _, rfl, rfl, ?_⟩
    refine rd_seq ?_
    refine rd_for ?_
    refine ⟨_, rfl, _, rfl, a, _, rfl, ha, fun p1 hp1 => ?_⟩
    rw [show (8 : Int) = ((8 : Nat) : Int) from rfl, cutTake, ← List.map_take]
    have e1 : Ex H (upd H p1 (.lst ((ns.take 8).map V.int))) := Ex.new hp1
    refine ⟨p1, rfl, ⟨_, SqL.of upd_same⟩, ?_⟩
    refine tail_for (walk_list (K := K) (xs := (ns.take 8).map V.int)) (fun i σ H' => ∃ (mx : Int) (y3 : Option V), σ = [some (.ref a), some (.int t), some (.int mx), y3, none] ∧ H' = upd H p1 (.lst ((ns.take 8).map V.int))) ⟨_, _, rfl, rfl⟩
      (fun i σ H' _ hP => by
        obtain ⟨_, _, _, rfl⟩ := hP
        exact SqL.of upd_same) (fun i x σ H2 H3 hi hP hY => ?_) (fun σ H2 hP => ?_)
    · obtain ⟨rfl, hx⟩ := hY
      obtain ⟨mx, y3, rfl, rfl⟩ := hP
      obtain ⟨_, rfl⟩ := getD_of hx
      refine rd_gn ?_
      refine rd_set ?_
      refine rd_op ?_
      refine rd_cb ?_
      refine rd_c1 ?_
      refine rd_op ?_
      refine rd_op ?_
      refine rd_op ?_
      refine ⟨_, rfl, _, _, rfl, rfl, .inr ⟨by decide, by decide⟩, ?_⟩
      refine rd_op ?_
      refine rd_cb ?_
      refine rd_c1 ?_
      refine ⟨_, rfl, .inl ⟨_, rfl, ?_⟩⟩
      refine ⟨_, _, rfl, rfl, (show (0 : Int) < 2147482951 by decide), ?_⟩
      refine ⟨_, _, rfl, rfl, ?_⟩
      refine ⟨_, _, rfl, rfl, ?_⟩
      refine .inl ⟨_, rfl, ?_⟩
      refine ⟨_, _, rfl, rfl, (show (0 : Int) < 2147483477 by decide), ?_⟩
      exact ⟨_, _, rfl, rfl⟩
    · obtain ⟨mx, y3, rfl, rfl⟩ := hP
      have ha1 := sqL_ex e1 ha
      refine rd_seq ?_
      refine rd_set ?_
      have own : ∀ {Q : VK}, (∀ o : Int, Q (.int o) (upd H p1 (.lst ((ns.take 8).map V.int)))) →
          tIf (tTest (tOp (rI0 fun i j => .bl (decide (i < j))) (tVar 1) (tCB (fun xs H Q => ∃ p ys, xs = [.ref p] ∧ (SqL K H p ys ∨ SqT K H p ys) ∧ Q (.int ys.length) H) (tCons (tVar 0) tNil))))
            (tCB (fun xs H Q => (∃ i, xs = [.int i] ∧ Q (.int i) H) ∨ ∃ k, xs = [.bl k] ∧ Q (.int (if k then 1 else 0)) H) (tCons (tOp (rIxL K) (tVar 0) (tVar 1)) tNil)) (tC (.int 0))
            [some (.ref a), some (.int t), some (.int mx), y3, none] (upd H p1 (.lst ((ns.take 8).map V.int))) Q := fun {Q} hq => by
        refine rd_if ?_
        refine ⟨_, rfl, _, rfl, a, _, rfl, .inl ha1, _, _, rfl, rfl, _, rfl, ?_⟩
        by_cases hlt : (t : Int) < (((ns.map V.int).length : Nat) : Int)
        · rw [decide_eq_true hlt]
          refine iteT ?_
          refine ⟨_, rfl, _, rfl, ?_⟩
          have hl : t < (ns.map V.int).length := by omega
          have e : (ns.map V.int)[t]? = some (ns.map V.int)[t] := List.getElem?_eq_getElem hl
          obtain ⟨_, ev⟩ := getD_of e
          rw [ev] at e
          exact ⟨a, _, (t : Int), _, rfl, rfl, ha1, atI_nat e, .inl ⟨_, rfl, hq _⟩⟩
        · rw [decide_eq_false hlt]
          exact iteF (hq 0)
      refine own fun o => ?_
      refine rd_seq ?_
      refine rd_set ?_
      refine rd_op ?_
      refine rd_cb ?_
      refine rd_c1 ?_
      refine rd_op ?_
      refine rd_op ?_
      refine rd_op ?_
      refine ⟨_, rfl, _, _, rfl, rfl, .inr ⟨by decide, by decide⟩, ?_⟩
      refine rd_op ?_
      refine rd_op ?_
      refine rd_cb ?_
      refine rd_c1 ?_
      refine ⟨_, rfl, .inl ⟨_, rfl, ?_⟩⟩
      refine ⟨_, _, rfl, rfl, (show (0 : Int) < 2147482951 by decide), ?_⟩
      refine ⟨_, _, rfl, rfl, .inr ⟨by decide, by decide⟩, ?_⟩
      refine ⟨_, _, rfl, rfl, ?_⟩
      refine ⟨_, _, rfl, rfl, ?_⟩
      refine .inl ⟨_, rfl, ?_⟩
      refine ⟨_, _, rfl, rfl, (show (0 : Int) < 2147483477 by decide), ?_⟩
      refine rd_ret ?_
      have fin : ∀ (b c : Int), (3 : Nat) ≤ sizeLine ∧ ∀ p, (upd H p1 (.lst ((ns.take 8).map V.int))) p = none → Q (.ref p) (upd (upd H p1 (.lst ((ns.take 8).map V.int))) p (.lst [.int b, .int c, .int 0])) := fun b c => by
        refine ⟨by decide, fun p hp => q _ p (e1.trans (Ex.new hp)) ?_ ⟨_, _, _, upd_same⟩⟩
        cases e : H p with
        | none => rfl
        | some u => rw [e1 _ _ e] at hp; cases hp
      refine ⟨_, rfl, _, _, rfl, rfl, _, rfl, ?_⟩
      by_cases h1 : o < 0
      · rw [decide_eq_true h1]
        refine iteT ?_
        refine iteT ?_
        exact ⟨_, rfl, _, rfl, _, rfl, fin _ _⟩
      · rw [decide_eq_false h1]
        refine iteF ?_
        refine ⟨_, rfl, _, _, rfl, rfl, ⟨by decide, by decide, by decide⟩, _, _, rfl, rfl, _, rfl, ?_⟩
        by_cases h2 : (10 : Int) ^ (15 : Int).toNat ≤ o
        · rw [decide_eq_true h2]
          refine iteT ?_
          exact ⟨_, rfl, _, rfl, _, rfl, fin _ _⟩
        · rw [decide_eq_false h2]
          refine iteF ?_
          exact ⟨_, rfl, fin _ _⟩
theorem cal_spring {f : Addr} {fd : FuncData} (F : FnP K "_law_spring" sLSpring f fd) (B : Bl mg) (hm : mg "_law_spring" = some (.ref f)) : Cal P w K mg base 1 "_law_spring" ["_law_script", "_law_turn"] (spSpring K) :=
  ⟨f, fd, ok_spring F B, hm, F.kp, F.bindsN fun _ _ _ _ _ _ us hl => match us, hl with | [_, _], _ => rfl⟩
end
end K38
set_option maxHeartbeats 8000000
/-! Walk: one turn of the law. -/
namespace K38
open PySem PySem.Spec PyProof.Rows L2 RZ
open Evl (Ex)
/-! ### what the turn rests on, plainly -/
theorem bnd_clo {n : Nat} {f c : Mx} (h0 : Dg n f) (hn : n ≤ 21) (hb : Bnd 2000010 n f) (h : clo n f = some c) : Bnd (2 ^ 43) n c := by
  obtain ⟨_, rfl⟩ := clo_closed h0 h
  refine bnd_mono (bnd_rnd (by decide) hb n (Nat.le_refl n)) ?_
  have h1 : (2 : Int) ^ n ≤ 2 ^ 21 := by
    have := Nat.pow_le_pow_right (show 0 < 2 by decide) hn
    have h2 : ((2 ^ n : Nat) : Int) ≤ ((2 ^ 21 : Nat) : Int) := Int.ofNat_le.mpr this
    rw [Int.natCast_pow, Int.natCast_pow] at h2
    exact h2
  have h3 : (2 : Int) ^ n * 2000010 ≤ 2 ^ 21 * 2000010 := Int.mul_le_mul_of_nonneg_right h1 (by decide)
  exact Int.le_trans h3 (by decide)
theorem vals_short {m : Nat} {c : Mx} (hm : m ≤ 20) (hb : Bnd (2 ^ 43) (m + 1) c) : ((valsF c m).drop 1).length = m ∧ BndL (2 ^ 60) ((valsF c m).drop 1) := by
  refine ⟨by rw [List.length_drop, valsF_len]; rfl, fun x hx => ?_⟩
  have h := valsF_bnd (by decide) hb m (Nat.lt_succ_self m) x (List.mem_of_mem_drop hx)
  have h2 : (m : Int) * 2 ^ 43 ≤ 20 * 2 ^ 43 := Int.mul_le_mul_of_nonneg_right (by omega) (by decide)
  have h3 : (20 : Int) * 2 ^ 43 ≤ 2 ^ 60 := by decide
  generalize (m : Int) * 2 ^ 43 = z at h h2
  omega
theorem vals_hold2 {m : Nat} {f c : Mx} (h0 : Dg (m + 1) f) (h : clo (m + 1) f = some c) : holdB (m + 1) f (vfn ((valsF c m).drop 1)) = true := by
  obtain ⟨C, e⟩ := clo_closed h0 h
  have q := vals_hold C (Nat.succ_pos m)
  subst e
  exact holdB_iff.mpr (hold_iff.mp q)
theorem hold_same {m : Nat} {f c : Mx} (h0 : Dg (m + 1) f) (h : clo (m + 1) f = some c) (v : Nat → Int) : holdB (m + 1) c v = holdB (m + 1) f v := by
  obtain ⟨_, rfl⟩ := clo_closed h0 h
  exact holdB_eq hold_iff
/-- closed twice is closed once, as data -/
theorem clo2_data {n : Nat} {o : Option Mx} (hg : ∀ f, o = some f → Dg n f) : dMO n ((o.bind (clo n)).bind (clo n)) = dMO n (o.bind (clo n)) := by
  cases o with
  | none => rfl
  | some f =>
    show dMO n ((clo n f).bind (clo n)) = dMO n (clo n f)
    cases e : clo n f with
    | none => rfl
    | some c =>
      obtain ⟨c', e2, e3⟩ := clo_idem (clo_closed (hg f rfl) e).1
      show dMO n (clo n c) = _
      rw [e2]
      exact dMO_congr e3
theorem dp_t2 {K : PySem.W.Frag} {H : Hp} {a : Addr} {x y : V} {d e : PyData} (h : H a = some (.tup [x, y])) (h1 : Dp K H x d) (h2 : Dp K H y e) : Dp K H (.ref a) (.tuple [d, e]) := .tup (SqT.of h) (.cons h1 (.cons h2 .nil))
theorem dp_t3 {K : PySem.W.Frag} {H : Hp} {a : Addr} {x y z : V} {d e g : PyData} (h : H a = some (.tup [x, y, z])) (h1 : Dp K H x d) (h2 : Dp K H y e) (h3 : Dp K H z g) : Dp K H (.ref a) (.tuple [d, e, g]) := .tup (SqT.of h) (.cons h1 (.cons h2 (.cons h3 .nil)))
theorem sm_t3 {d : PyData} (h : Sm 2 30000 d) : Sm 20 90003 (.tuple [d, d, d]) := (sm_tup (D := 2) (W := 30000) (W' := 90003) (fun x hx => by
  simp only [List.mem_cons, List.not_mem_nil, or_false, or_self] at hx
  rw [hx]; exact h) (by show (30000 + 1) * 3 ≤ 90003; decide)).mono (by decide) (Nat.le_refl _)
theorem sm_t2 {d e : PyData} (h1 : Sm 1 1400 d) (h2 : Sm 1 1400 e) : Sm 20 3000 (.tuple [d, e]) := (sm_tup (D := 1) (W := 1400) (W' := 3000) (fun x hx => by
  simp only [List.mem_cons, List.not_mem_nil, or_false] at hx
  rcases hx with rfl | rfl
  · exact h1
  · exact h2) (by show (1400 + 1) * 2 ≤ 3000; decide)).mono (by decide) (Nat.le_refl _)
theorem dp_bls (K : PySem.W.Frag) (H : Hp) : ∀ bs : List Bool, DpAll K H (bs.map V.bl) (bs.map PyData.bool)
  | [] => .nil
  | b :: bs => .cons (.bl b) (dp_bls K H bs)
theorem sm_bls {bs : List Bool} (h : bs.length ≤ 100) : Sm 20 1000 (.list (bs.map PyData.bool)) := (sm_lst (D := 0) (W := 0) (W' := 1000) (fun x hx => by
  obtain ⟨b, _, rfl⟩ := List.mem_map.mp hx
  exact sm_bool b) (by rw [List.length_map]; omega)).mono (by decide) (Nat.le_refl _)
/-- a comprehension's truth values over known items -/
theorem bls_items {α : Type} {ys : List V} {l : List α} {b : α → Bool} (hl : ys.length = l.length) (h : ∀ (i : Nat) (y : V), ys[i]? = some y → ∀ x, l[i]? = some x → y = .bl (b x)) : ys = (l.map b).map V.bl := by
  refine List.ext_getElem? fun k => ?_
  rw [List.map_map, List.getElem?_map]
  by_cases hk : k < ys.length
  · obtain ⟨x, hx⟩ : ∃ x, l[k]? = some x := ⟨_, List.getElem?_eq_getElem (by omega)⟩
    have ez : ys[k]? = some ys[k] := List.getElem?_eq_getElem hk
    rw [ez, hx, h k _ ez x hx]
    rfl
  · rw [List.getElem?_eq_none (by omega), List.getElem?_eq_none (by omega)]
    rfl
/-! ### calls by keywords alone -/
abbrev gVK : List V → List V → List V := fun _ zs => [zs.getD 1 .non, zs.getD 0 .non]
abbrev gUK : List Value → List Value → List Value := fun _ ws => [ws.getD 1 .none, ws.getD 0 .none]
structure CalK (P : Program) (w : World) (K : PySem.W.Frag) (mg : Str → Option Value) (base : Heap) (k : Nat) (x : Str) (sp : Sp) : Prop where
  ex : ∃ (f : Addr) (fd : FuncData), FnOk P w K mg base CX0 k f fd ["many", "one"] sp ∧ mg x = some (.ref f) ∧ PySem.W.keepIn K (.ref f) = true ∧ KBn K fd ["many", "one"] 0 ["one", "many"] gUK gVK
theorem pe_fnK {X : Cx} {k j : Nat} {x : Str} {sp : Sp} {p pos : Pos} {kws : List Keyword} {tk : TA} (C : CalK X.prog X.w X.K X.mg X.base k x sp) (hr : Room j X.A) (hj : k ≤ j) (hg : Gl X x) (hkw : PK X kws tk)
    (hall : (backToKw pos (keywordEach kws X.env)).all (·.1.isSome) = true := by rfl) (hks : (backToKw pos (keywordEach kws X.env)).filterMap (·.1) = (["one", "many"] : List Str) := by rfl) (hdb : (x == ("__debug__" : Str)) = false := by decide)
    (hpl : ((backTo pos (starEach [] X.env)).any (·.1) || (backToKw pos (keywordEach kws X.env)).any (·.1.isNone)) = false := by rfl) :
    PE X (.Call (.Name x p) [] kws pos) (tCallN 0 2 sp gVK E0 tNil tk) := by
  obtain ⟨f, fd, F, hm, hk, hb⟩ := C.ex
  exact pe_callK0 (n := 0) F (hr.mono hj) hg hm hk hb pass0 hkw hall hks hdb hpl
section
variable {P : Program} {w : World} {K : PySem.W.Frag} {mg : Str → Option Value} {base : Heap}
theorem calK_of {x : Str} {st : Stmt} {sp : Sp} {k : Nat} {f : Addr} {fd : FuncData} (F : FnP K x st f fd) (O : FnOk P w K mg base CX0 k f fd ["many", "one"] sp) (hm : mg x = some (.ref f))
    (hb : ∀ (kV doc pm : Value) (an : Option Addr) (cdv ct u v : Value), bindArgs (PySem.W.fnOf x x (defArgs st) (defBody st) (defScope st) .none kV doc pm an cdv ct) ⟨[], [(("one" : Str), u), (("many" : Str), v)]⟩ = pure [(("many" : Str), v), (("one" : Str), u)]) : CalK P w K mg base k x sp :=
  ⟨f, fd, O, hm, F.kp, kb21 F hb⟩
end
end K38
set_option maxHeartbeats 8000000
/-! Walk: one turn of the law. -/
namespace K38
open PySem PySem.Spec PyProof.Rows L2 RZ
open Evl (Ex)
def rRepr (K : PySem.W.Frag) : List V → Hp → VK → Prop := fun xs H Q => ∃ a d, xs = [.ref a] ∧ Dp K H (.ref a) d ∧ d.showable = true ∧ d.hasDict = false ∧ d.depth ≤ 20 ∧ d.shown.length ≤ sizeLine ∧ Q (.str d.shown) H
theorem callRepr {X : Cx} (hgd : X.A.guards = some []) (hu : X.A.units + 64 < cLine) : CallR X (.builtin "repr") (rRepr X.K) := call_reprD hgd hu
theorem reprS {K : PySem.W.Frag} {H : Hp} {Q : VK} {a : Addr} {d : PyData} {W : Nat} (hd : Dp K H (.ref a) d) (h : Sm 20 W d) (hW : W ≤ 100000) (q : Q (.str d.shown) H) : rRepr K [.ref a] H Q :=
  ⟨a, d, rfl, hd, h.sh, h.nod, h.dep, h.size hW, q⟩
theorem neS (x : Str) : V.bl (!decide (V.str x = V.str x)) = V.bl false := by
  rw [decide_eq_true rfl]
  rfl
theorem rd_par {i j : Nat} {ta : TA} {nx : L2.St → Hp → Prop} {rt : VK} {bk ct : L2.St → Hp → Prop} {σ : L2.St} {H : Hp} (h : ta σ H fun vs H1 => ∃ v w, vs = [v, w] ∧ nx ((σ.set i (some v)).set j (some w)) H1) : tPar i j ta (Ends.mk nx rt bk ct) σ H := h
theorem RingV.tx {H H' : Hp} {v : V} {o : Option (List Nat)} (e : Tx H H') (h : RingV H v o) : RingV H' v o := by
  cases o with
  | none => exact h
  | some l => exact Tup.tx e h
theorem ValV.tx {H H' : Hp} {v : V} {o : Option (List Int)} (e : Tx H H') (h : ValV H v o) : ValV H' v o := by
  cases o with
  | none => exact h
  | some l => exact Ints.tx e h
theorem ring_short {m : Nat} {o : Option Mx} {l : List Nat} (hm : m ≤ 20) (hg : ∀ f, o = some f → Dg (m + 1) f) (h : ringO (m + 1) o = some l) : l.length ≤ 21 ∧ ∀ x ∈ l, x < 100 := by
  cases o with
  | none => cases h
  | some f =>
    have hf := hg f rfl
    have h2 : ringIn (m + 1) f = some l := h
    have R := ringIn_ok hf (Nat.succ_pos m)
    have hn : clo (m + 1) f = none := by
      cases e : clo (m + 1) f with
      | none => rfl
      | some c =>
        have := R.1 (by rw [e]; simp)
        rw [h2] at this
        cases this
    obtain ⟨l', h3, IR⟩ := R.2 hn
    rw [h2] at h3
    cases h3
    exact ⟨Nat.le_trans (nodup_le IR.nd IR.lt) (by omega), fun x hx => by have := IR.lt x hx; omega⟩
section
variable {P : Program} {w : World} {K : PySem.W.Frag} {mg : Str → Option Value} {base : Heap}
/-- the defs that a turn calls -/
structure Calls (P : Program) (w : World) (K : PySem.W.Frag) (mg : Str → Option Value) (base : Heap) : Prop where
  size : Cal P w K mg base 3 "_law_size" ["_law_spring_here"] spSize
  spots : Cal P w K mg base 2 "_law_spots" ["_law_spring_here", "_law_size_here"] spSpots
  about : Cal P w K mg base 4 "_law_about" ["_law_spring_here", "_law_size_here", "_law_base"] spAbout
  closing : Cal P w K mg base 1 "_law_closing" ["_law_size_here", "_law_wide"] spClosing
  near : Cal P w K mg base 3 "_law_near_spots" ["_law_spring_here", "_law_spots_here"] spNear
  isRing : Cal P w K mg base 2 "_law_is_ring" ["_law_size_here", "_law_wide", "_law_thing"] spIsRing
  isSpots : Cal P w K mg base 2 "_law_is_spots" ["_law_size_here", "_law_thing"] spIsSpots
  holds : Cal P w K mg base 1 "_law_holds" ["_law_wide", "_law_spots_here"] spLHolds
  closed : Cal P w K mg base 7 "closed_differences" ["many", "one"] spApiClosed
  closedK : CalK P w K mg base 7 "closed_differences" spApiClosed
  ring : Cal P w K mg base 7 "ring_of" ["many", "one"] spApiRing
  ringK : CalK P w K mg base 7 "ring_of" spApiRing
  vals : Cal P w K mg base 7 "some_values" ["many", "one"] spApiVals
  valsK : CalK P w K mg base 7 "some_values" spApiVals
  hold : Cal P w K mg base 7 "differences_hold" ["many", "one", "values"] spApiHold
def spRight : Sp := fun vs H Q _ => ∃ p : Addr, vs = [.ref p] ∧ SpA H p ∧ ∀ H', ExB p H H' → Q (.bl true) H'
theorem ok_right {f : Addr} {fd : FuncData} (F : FnP K "_law_right" sLRight f fd) (B : Bl mg) (C : Calls P w K mg base) : FnG P w K mg base 8 f fd ["_law_spring_here"] spRight := by
  refine okG F scLRight (fun vs H Q E h => ?_) (fun cdv A outer s H vs Q E hr hgd h => ?_)
  · obtain ⟨p, rfl, _⟩ := h
    rfl
  · obtain ⟨p, rfl, hp, q⟩ := h
    have nd := scLRight.nd
    have hun : A.units + 3 + 64 < cLine := hr.units
    refine ⟨_, PSs.nox (pss_cons (ps_set (i := 1) nd rfl (.inr rfl) (pe_fn C.size hr (by decide) (by rfl) (pa_cons (pv 0) pa_nil)))
      (pss_cons (ps_set (i := 2) nd rfl (.inl rfl) (pe_fn C.spots hr (by decide) (by rfl) (pa_cons (pv 0) (pa_cons (pv 1) pa_nil))))
      (pss_cons (ps_set (i := 3) nd rfl (.inr rfl) (pe_fn C.about hr (by decide) (by rfl) (pa_cons (pv 0) (pa_cons (pv 1) (pa_cons (pv 2) pa_nil)))))
      (pss_cons (ps_set (i := 4) nd rfl (.inr rfl) (pe_fn C.closing hr (by decide) (by rfl) (pa_cons (pv 1) (pa_cons (pv 3) pa_nil))))
      (pss_cons (ps_set (i := 5) nd rfl (.inl rfl) (pe_tup (pa_cons (pe_fn C.closed hr (by decide) (by rfl) (pa_cons (pv 1) (pa_cons (pv 3) pa_nil))) (pa_cons (pe_fnK C.closedK hr (by decide) (by rfl) (pk_cons (pv 3) (pk_cons (pv 1) pk_nil)))
        (pa_cons (pe_fn C.closed hr (by decide) (by rfl) (pa_cons (pv 1) (pa_cons (pv 4) pa_nil))) pa_nil)))))
      (pss_cons (ps_if (pt_cmpR op_ne (pe_callB (r := rRepr K) (callRepr hgd hun) (by rfl) B.repr bt_repr (pa_cons (pv 5) pa_nil)) (pe_callB (r := rRepr K) (callRepr hgd hun) (by rfl) B.repr bt_repr (pa_cons (pe_tup (pa_cons (pv 4) (pa_cons (pv 4) (pa_cons (pv 4) pa_nil)))) pa_nil)) (nomark _)) (pss_one (ps_ret pe_bl)) pss_nil)
      (pss_cons (ps_par (i := 6) (j := 7) rfl nd rfl rfl (by decide) rfl rfl (pa_cons (pe_fn C.ring hr (by decide) (by rfl) (pa_cons (pv 1) (pa_cons (pv 3) pa_nil))) (pa_cons (pe_fn C.vals hr (by decide) (by rfl) (pa_cons (pv 1) (pa_cons (pv 3) pa_nil))) pa_nil)) (by rfl))
      (pss_cons (ps_if (pt_cmpR op_ne (pe_callB (r := rRepr K) (callRepr hgd hun) (by rfl) B.repr bt_repr (pa_cons (pe_tup (pa_cons (pe_fnK C.ringK hr (by decide) (by rfl) (pk_cons (pv 3) (pk_cons (pv 1) pk_nil))) (pa_cons (pe_fnK C.valsK hr (by decide) (by rfl) (pk_cons (pv 3) (pk_cons (pv 1) pk_nil))) pa_nil))) pa_nil))
        (pe_callB (r := rRepr K) (callRepr hgd hun) (by rfl) B.repr bt_repr (pa_cons (pe_tup (pa_cons (pv 6) (pa_cons (pv 7) pa_nil))) pa_nil)) (nomark _)) (pss_one (ps_ret pe_bl)) pss_nil)
      (pss_cons (ps_if (PW.pt (pw_or (pt_cmpR op_notN (pv 4) pe_non (nomark _)) (pw_or1 (pt_cmpR op_isN (pv 3) pe_non (nomark _))))) (pss_one (ps_if (pt_cmpR op_notN (pv 6) pe_non (nomark _)) (pss_one (ps_ret pe_bl)) pss_nil))
        (pss_one (ps_if (pt_not (pt_val (pe_fn C.isRing hr (by decide) (by rfl) (pa_cons (pv 1) (pa_cons (pv 3) (pa_cons (pv 6) pa_nil)))))) (pss_one (ps_ret pe_bl)) pss_nil)))
      (pss_cons (ps_if (pt_cmpR op_isN (pv 4) pe_non (nomark _)) (pss_one (ps_ret (pe_cmpR op_isN (pv 7) pe_non (nomark _)))) pss_nil)
      (pss_cons (ps_if (PW.pt (pw_or (pt_not (pt_val (pe_fn C.isSpots hr (by decide) (by rfl) (pa_cons (pv 1) (pa_cons (pv 7) pa_nil))))) (pw_or (pt_not (pt_val (pe_fn C.holds hr (by decide) (by rfl) (pa_cons (pv 3) (pa_cons (pv 7) pa_nil)))))
        (pw_or1 (pt_cmpR op_notN (pe_fn C.ring hr (by decide) (by rfl) (pa_cons (pv 1) (pa_cons (pv 4) pa_nil))) pe_non (nomark _)))))) (pss_one (ps_ret pe_bl)) pss_nil)
      (pss_cons (ps_set (i := 8) nd rfl (.inl rfl) (pe_lst (pa_cons (pv 2) (pa_cons (pv 7) (pa_cons (pe_fn C.near hr (by decide) (by rfl) (pa_cons (pv 0) (pa_cons (pv 7) pa_nil))) (pa_cons (pe_fn C.near hr (by decide) (by rfl) (pa_cons (pv 0) (pa_cons (pv 2) pa_nil)))
        (pa_cons (pe_fn C.spots hr (by decide) (by rfl) (pa_cons (pv 0) (pa_cons (pv 1) pa_nil))) pa_nil)))))))
      (pss_cons (ps_setLc (i := 5) (own := [("_law_each", 9)]) (g := gName 9) (tt := tYes) rfl nd rfl rfl (sw_true rfl rfl rfl (by decide +kernel)) (pi_list (pv 8)) (blkOk_by (N := nLRight) (sc := defScope sLRight) (by decide +kernel))
          (fun _ _ _ _ _ => pg_name (i := 9) nd rfl (.inl rfl)) (fun _ _ _ _ _ => pts_nil) (fun _ _ _ _ _ => pe_fn C.hold hr (by decide) (by rfl) (pa_cons (pv 1) (pa_cons (pv 4) (pa_cons (pv 9) pa_nil)))))
      (pss_one (ps_ret (pe_cmpR op_eq (pe_callB (r := rRepr K) (callRepr hgd hun) (by rfl) B.repr bt_repr (pa_cons (pv 5) pa_nil)) (pe_callB (r := rRepr K) (callRepr hgd hun) (by rfl) B.repr bt_repr (pa_cons (pe_lc (own := [("_law_each", 9)]) (g := gName 9) (tt := tYes) rfl nd (pi_list (pv 8)) (blkOk_by (N := nLRight) (sc := defScope sLRight) (by decide +kernel))
          (fun _ _ _ _ _ => pg_name (i := 9) nd rfl (.inl rfl)) (fun _ _ _ _ _ => pts_nil) (fun _ _ _ _ _ => pe_fn C.holds hr (by decide) (by rfl) (pa_cons (pv 3) (pa_cons (pv 9) pa_nil)))) pa_nil)) (nomark _))))))))))))))))), ?_⟩
    refine rd_seq ?_
    refine rd_set ?_
    refine ⟨_, rfl, p, rfl, hp, fun H1 m e1 hp1 hm => ?_⟩
    refine rd_seq ?_
    refine rd_set ?_
    refine ⟨_, rfl, _, rfl, p, m, rfl, hp1, hm, fun H2 b nsb e2 hp2 hb hbl hbb => ?_⟩
    refine rd_seq ?_
    refine rd_set ?_
    refine ⟨_, rfl, _, rfl, _, rfl, p, b, nsb, congrArg (fun z : Nat => [V.ref p, V.int (z : Int), b]) hbl.symm, hp2, hb, by omega, hbb, fun H3 v o e3 hp3 hv ho => ?_⟩
    rw [hbl] at hv ho
    have hdg : ∀ f, o = some f → Dg (m + 1) f := fun f e => (ho f e).1
    have hbn : ∀ f, o = some f → Bnd 2000010 (m + 1) f := fun f e => (ho f e).2
    refine rd_seq ?_
    refine rd_set ?_
    refine ⟨_, rfl, _, rfl, m, v, o, rfl, hv, hdg, hm, fun H4 c e4 hc => ?_⟩
    have hdata := clo2_data hdg
    generalize hoc : o.bind (clo (m + 1)) = oc at hc hdata
    have hdgc : ∀ f, oc = some f → Dg (m + 1) f := fun f e => by
      cases o with
      | none => rw [← hoc] at e; cases e
      | some g => exact (clo_closed (hdg g rfl) (hoc.trans e)).1.dg
    have hbnc : ∀ f, oc = some f → Bnd (2 ^ 43) (m + 1) f := fun f e => by
      cases o with
      | none => rw [← hoc] at e; cases e
      | some g => exact bnd_clo (hdg g rfl) (by omega) (hbn g rfl) (hoc.trans e)
    have smc : Sm 2 30000 (dMO (m + 1) oc) := sm_matO (by omega) fun f e => bnd_mono (hbnc f e) (by decide)
    have smr : Sm 1 1400 (dRing (ringO (m + 1) o)) := sm_ring fun l e => ring_short hm hdg e
    have smv : Sm 1 1400 (dVal (valO (m + 1) oc)) := sm_val fun l e => by
      cases oc with
      | none => cases e
      | some g =>
        cases e
        obtain ⟨h1, h2⟩ := vals_short hm (hbnc g rfl)
        exact ⟨by show ((valsF g m).drop 1).length ≤ 21; omega, h2⟩
    refine rd_seq ?_
    refine rd_set ?_
    refine ⟨_, rfl, _, rfl, m, v, o, rfl, hv.tx (exT e4), hdg, hm, fun H5 c1 e5 hc1 => ?_⟩
    refine ⟨_, rfl, _, rfl, rfl, rfl, m, v, o, rfl, (hv.tx (exT e4)).tx (exT e5), hdg, hm, fun H6 c2 e6 hc2 => ?_⟩
    refine ⟨_, rfl, _, rfl, m, c, oc, rfl, (hc.tx (exT e5)).tx (exT e6), hdgc, hm, fun H7 c3 e7 hc3 => ?_⟩
    refine ⟨by show 3 ≤ sizeLine; decide, fun T1 hT1 => ?_⟩
    rw [hoc] at hc1 hc2
    have e8 : Ex H7 (upd H7 T1 (.tup [c1, c2, c3])) := Ex.new hT1
    have hT1b : (upd H7 T1 (.tup [c1, c2, c3])) T1 = some (.tup [c1, c2, c3]) := upd_same
    generalize hH8 : upd H7 T1 (.tup [c1, c2, c3]) = H8 at e8 hT1b
    refine rd_seq ?_
    refine rd_ifs ?_
    refine rd_b ?_
    refine rd_op ?_
    refine rd_cb ?_
    refine rd_c1 ?_
    refine ⟨_, rfl, ?_⟩
    have d3 : Dp K H8 c3 (dMO (m + 1) oc) := by
      have := dp_matO (K := K) (hc3.tx (exT e8))
      rw [hdata] at this
      exact this
    refine reprS (dp_t3 hT1b (dp_matO (hc1.tx (exT ((e6.trans e7).trans e8)))) (dp_matO (hc2.tx (exT (e7.trans e8)))) d3) (sm_t3 smc) (by decide) ?_
    refine rd_cb ?_
    refine rd_c1 ?_
    refine ⟨_, rfl, _, rfl, _, rfl, by show 3 ≤ sizeLine; decide, fun T2 hT2 => ?_⟩
    have e9 : Ex H8 (upd H8 T2 (.tup [c, c, c])) := Ex.new hT2
    have hT2b : (upd H8 T2 (.tup [c, c, c])) T2 = some (.tup [c, c, c]) := upd_same
    generalize hH9 : upd H8 T2 (.tup [c, c, c]) = H9 at e9 hT2b
    have e49 := (((e5.trans e6).trans e7).trans e8).trans e9
    have dc9 : Dp K H9 c (dMO (m + 1) oc) := dp_matO (hc.tx (exT e49))
    refine reprS (dp_t3 hT2b dc9 dc9 dc9) (sm_t3 smc) (by decide) ?_
    refine ⟨rfl, false, neS _, iteF (rd_next ?_)⟩
    have e39 := e4.trans e49
    have hv9 := hv.tx (exT e39)
    refine rd_seq ?_
    refine rd_par ?_
    refine ⟨_, rfl, _, rfl, m, v, o, rfl, hv9, hdg, hm, fun H10 r e10 hr10 => ?_⟩
    refine ⟨_, rfl, _, rfl, m, v, o, rfl, hv9.tx (exT e10), hdg, hm, fun H11 u e11 hu11 => ?_⟩
    refine ⟨_, _, rfl, ?_⟩
    rw [hoc] at hu11
    have hv11 := (hv9.tx (exT e10)).tx (exT e11)
    refine rd_seq ?_
    refine rd_ifs ?_
    refine rd_b ?_
    refine rd_op ?_
    refine rd_cb ?_
    refine rd_c1 ?_
    refine ⟨_, rfl, _, rfl, rfl, rfl, m, v, o, rfl, hv11, hdg, hm, fun H12 r2 e12 hr12 => ?_⟩
    refine ⟨_, rfl, _, rfl, rfl, rfl, m, v, o, rfl, hv11.tx (exT e12), hdg, hm, fun H13 u2 e13 hu13 => ?_⟩
    refine ⟨by show 2 ≤ sizeLine; decide, fun T3 hT3 => ?_⟩
    rw [hoc] at hu13
    have e14 : Ex H13 (upd H13 T3 (.tup [r2, u2])) := Ex.new hT3
    have hT3b : (upd H13 T3 (.tup [r2, u2])) T3 = some (.tup [r2, u2]) := upd_same
    generalize hH14 : upd H13 T3 (.tup [r2, u2]) = H14 at e14 hT3b
    refine reprS (dp_t2 hT3b (dp_ring (hr12.tx (exT (e13.trans e14)))) (dp_val (hu13.tx (exT e14)))) (sm_t2 smr smv) (by decide) ?_
    refine rd_cb ?_
    refine rd_c1 ?_
    refine ⟨_, rfl, _, rfl, by show 2 ≤ sizeLine; decide, fun T4 hT4 => ?_⟩
    have e15 : Ex H14 (upd H14 T4 (.tup [r, u])) := Ex.new hT4
    have hT4b : (upd H14 T4 (.tup [r, u])) T4 = some (.tup [r, u]) := upd_same
    generalize hH15 : upd H14 T4 (.tup [r, u]) = H15 at e15 hT4b
    have e11_15 := ((e12.trans e13).trans e14).trans e15
    have hr15 := hr10.tx (exT (e11.trans e11_15))
    have hu15 := hu11.tx (exT e11_15)
    refine reprS (dp_t2 hT4b (dp_ring hr15) (dp_val hu15)) (sm_t2 smr smv) (by decide) ?_
    refine ⟨rfl, false, neS _, iteF (rd_next ?_)⟩
    have e3_15 := ((e39.trans e10).trans e11).trans e11_15
    have hv15 := hv.tx (exT e3_15)
    have hc15 := hc.tx (exT (((e49.trans e10).trans e11).trans e11_15))
    have hp15 := hp3.ex e3_15
    have hb15 : Ints H15 b nsb := (hb.tx (hp2.tx e3)).tx (exT e3_15)
    have eB : ExB p H H15 := ((e1.trans e2).trans e3).trans (exB e3_15)
    refine rd_seq ?_
    refine rd_ifs ?_
    refine rd_ot ?_
    cases o with
    | none =>
      obtain rfl : v = .non := hv15
      have hoc2 : oc = none := hoc.symm
      subst hoc2
      obtain rfl : c = .non := hc15
      obtain rfl : r = .non := hr15
      obtain rfl : u = .non := hu15
      refine ⟨_, rfl, rfl, false, rfl, ?_⟩
      refine iteF ?_
      refine ⟨_, rfl, rfl, true, rfl, ?_⟩
      refine iteT ?_
      refine rd_ifs ?_
      refine ⟨_, rfl, rfl, false, rfl, ?_⟩
      refine iteF (rd_next ?_)
      refine rd_seq ?_
      refine rd_ifs ?_
      refine ⟨_, rfl, rfl, true, rfl, ?_⟩
      refine iteT ?_
      refine rd_ret ?_
      exact ⟨_, rfl, rfl, q _ eB⟩
    | some f =>
      have hf := hdg f rfl
      have hv0 := hv15
      obtain ⟨rs, ⟨va, rfl, hva⟩, hrow⟩ := hv15
      cases hclo : clo (m + 1) f with
      | none =>
        have hoc2 : oc = none := hoc.symm.trans hclo
        subst hoc2
        obtain rfl : c = .non := hc15
        obtain rfl : u = .non := hu15
        obtain ⟨l, hl, IR⟩ := (ringIn_ok hf (Nat.succ_pos m)).2 hclo
        rw [show ringO (m + 1) (some f) = some l from hl] at hr15
        refine ⟨_, rfl, rfl, false, rfl, ?_⟩
        refine iteF ?_
        refine ⟨_, rfl, rfl, false, rfl, ?_⟩
        refine iteF ?_
        refine rd_ifs ?_
        refine rd_not ?_
        refine ⟨_, rfl, _, rfl, _, rfl, m, _, r, f, l, rfl, hv0, hr15, IR, hm, fun H16 e16 => ⟨true, rfl, iteF (rd_next ?_)⟩⟩
        refine rd_seq ?_
        refine rd_ifs ?_
        refine ⟨_, rfl, rfl, true, rfl, ?_⟩
        refine iteT ?_
        refine rd_ret ?_
        exact ⟨_, rfl, rfl, q _ (eB.trans (exB e16))⟩
      | some cl =>
        have hoc2 : oc = some cl := hoc.symm.trans hclo
        subst hoc2
        have hc0 := hc15
        obtain ⟨rs2, ⟨ca, rfl, hca⟩, hrow2⟩ := hc15
        have hrn : ringO (m + 1) (some f) = none := (ringIn_ok hf (Nat.succ_pos m)).1 (by rw [hclo]; simp)
        rw [hrn] at hr15
        obtain rfl : r = .non := hr15
        have hcld := hdgc cl rfl
        refine ⟨_, rfl, rfl, true, rfl, ?_⟩
        refine iteT ?_
        refine iteT ?_
        refine rd_ifs ?_
        refine ⟨_, rfl, rfl, false, rfl, ?_⟩
        refine iteF (rd_next ?_)
        refine rd_seq ?_
        refine rd_ifs ?_
        refine ⟨_, rfl, rfl, false, rfl, ?_⟩
        refine iteF (rd_next ?_)
        obtain ⟨hll, hlb⟩ := vals_short hm (hbnc cl rfl)
        have hul : Ints H15 u ((valsF cl m).drop 1) := hu15
        have hvh := vals_hold2 hf hclo
        generalize (valsF cl m).drop 1 = l at hll hlb hul hvh
        refine rd_seq ?_
        refine rd_ifs ?_
        refine rd_ot ?_
        refine rd_not ?_
        refine rd_b ?_
        refine ⟨_, rfl, _, rfl, u, l, congrArg (fun z : Nat => [V.int (z : Int), u]) hll.symm, hul, by omega, fun H16 e16 => ⟨true, rfl, ?_⟩⟩
        refine iteF ?_
        refine rd_ot ?_
        refine rd_not ?_
        refine rd_b ?_
        refine ⟨_, rfl, _, rfl, .ref va, u, some f, l, rfl, by rw [hll]; exact hv0.tx (exT e16), hul.tx (exT e16), by omega, fun H17 e17 => ⟨true, ?_, ?_⟩⟩
        · rw [hll]
          exact congrArg V.bl hvh
        refine iteF ?_
        refine rd_b ?_
        refine rd_op ?_
        refine ⟨_, rfl, _, rfl, m, .ref ca, some cl, rfl, hc0.tx (exT (e16.trans e17)), hdgc, hm, fun H18 r3 e18 hr18 => ?_⟩
        have hrn2 : ringO (m + 1) (some cl) = none := (ringIn_ok hcld (Nat.succ_pos m)).1 (by
          obtain ⟨c', h, _⟩ := clo_idem (clo_closed hf hclo).1
          rw [h]; simp)
        rw [hrn2] at hr18
        obtain rfl : r3 = .non := hr18
        refine ⟨rfl, false, rfl, iteF (rd_next ?_)⟩
        have e15_18 := (e16.trans e17).trans e18
        have hp18 := hp15.ex e15_18
        refine rd_seq ?_
        refine rd_set ?_
        refine ⟨_, rfl, _, rfl, ?_⟩
        refine ⟨_, rfl, _, rfl, p, u, l, rfl, hp18, hul.tx (exT e15_18), by omega, fun H19 n1 m1 e19 hp19 hn1 hm1 => ?_⟩
        have t19 := hp18.tx e19
        refine ⟨_, rfl, _, rfl, p, b, nsb, rfl, hp19, (hb15.tx (exT e15_18)).tx t19, by omega, fun H20 n2 m2 e20 hp20 hn2 hm2 => ?_⟩
        have t20 := hp19.tx e20
        refine ⟨_, rfl, _, rfl, p, m, rfl, hp20, hm, fun H21 n3 m3 e21 hp21 hn3 hm3 _ => ?_⟩
        have t21 := hp20.tx e21
        refine ⟨by show 5 ≤ sizeLine; decide, fun L hL => ?_⟩
        have e22 : Ex H21 (upd H21 L (.lst [b, u, n1, n2, n3])) := Ex.new hL
        have hL22 : (upd H21 L (.lst [b, u, n1, n2, n3])) L = some (.lst [b, u, n1, n2, n3]) := upd_same
        generalize hH22 : upd H21 L (.lst [b, u, n1, n2, n3]) = H22 at e22 hL22
        have t18_22 : Tx H18 H22 := ((t19.trans t20).trans t21).trans (exT e22)
        have t15_22 : Tx H15 H22 := (exT e15_18).trans t18_22
        have hv22 := hv0.tx t15_22
        have hc22 := hc0.tx t15_22
        have eB22 : ExB p H H22 := (((eB.trans (exB e15_18)).trans e19).trans e20).trans (e21.trans (exB e22))
        have item : ∀ (i : Nat) (x : V), [b, u, n1, n2, n3][i]? = some x → ∃ ms, [nsb, l, m1, m2, m3][i]? = some ms ∧ Ints H22 x ms ∧ ms.length = m := fun i x hx => by
          rcases i with _ | _ | _ | _ | _ | i
          · cases hx; exact ⟨nsb, rfl, hb15.tx t15_22, hbl⟩
          · cases hx; exact ⟨l, rfl, hul.tx t15_22, hll⟩
          · cases hx; exact ⟨m1, rfl, ((hn1.tx t20).tx t21).tx (exT e22), hm1.trans hll⟩
          · cases hx; exact ⟨m2, rfl, (hn2.tx t21).tx (exT e22), hm2.trans hbl⟩
          · cases hx; exact ⟨m3, rfl, hn3.tx (exT e22), hm3⟩
          · cases hx
        refine rd_seq ?_
        refine rd_set ?_
        refine tlc (H1 := H22) (fun R r => ⟨_, rfl, L, rfl, ⟨_, SqL.of hL22⟩, r⟩) (walk_list (K := K)) (n := ([b, u, n1, n2, n3] : List V).length) (show 5 < sizeLine by decide) (fun i y _ => ∀ ms, [nsb, l, m1, m2, m3][i]? = some ms → y = .bl (holdB (m + 1) cl (vfn ms)))
          (fun _ _ _ _ _ _ e => e) (fun H1 e => SqL.of (e _ _ hL22)) (fun i H1 x H2 _ _ y => yat_ex y) (fun i x H23 H24 hi e23 e24 y Qt k => ?_) (fun D ys H23 hD e23 hD2 hl2 hP => ?_)
        · obtain ⟨rfl, hx⟩ := y
          obtain ⟨ms, hms, hIn, hml⟩ := item i x hx
          refine ⟨rfl, _, rfl, _, rfl, _, rfl, .ref ca, x, some cl, ms, congrArg (fun z : Nat => [V.int (z : Int), V.ref ca, x]) hml.symm, ?_, ?_, hIn.tx (exT e24), by omega, fun H25 e25 => k _ _ e25 fun ms2 h2 => ?_⟩
          · rw [hml]; exact hc22.tx (exT e24)
          · rw [hml]; exact hdgc
          · rw [hms] at h2
            cases h2
            rw [hml]
            rfl
        · have ey := bls_items (l := [nsb, l, m1, m2, m3]) (b := fun ms => holdB (m + 1) cl (vfn ms)) (hl2.trans rfl) hP
          subst ey
          refine rd_ret ?_
          refine rd_op ?_
          refine rd_cb ?_
          refine rd_c1 ?_
          refine ⟨_, rfl, ?_⟩
          refine reprS (.lst (SqL.of hD2) (dp_bls K H23 _)) (sm_bls (show 5 ≤ 100 by decide)) (by decide) ?_
          refine rd_cb ?_
          refine rd_c1 ?_
          have hL23 := e23 _ _ hL22
          refine tlc (H1 := H23) (fun R r => ⟨_, rfl, L, rfl, ⟨_, SqL.of hL23⟩, r⟩) (walk_list (K := K)) (n := ([b, u, n1, n2, n3] : List V).length) (show 5 < sizeLine by decide) (fun i y _ => ∀ ms, [nsb, l, m1, m2, m3][i]? = some ms → y = .bl (holdB (m + 1) cl (vfn ms)))
            (fun _ _ _ _ _ _ e => e) (fun H1 e => SqL.of (e _ _ hL23)) (fun i H1 x H2 _ _ y => yat_ex y) (fun i x H24 H25 hi e24 e25 y Qt k => ?_) (fun D2 ys H24 hD4 e24 hD3 hl3 hP2 => ?_)
          · obtain ⟨rfl, hx⟩ := y
            obtain ⟨ms, hms, hIn, hml⟩ := item i x hx
            refine ⟨rfl, _, rfl, _, rfl, .ref va, x, some f, ms, rfl, ?_, hIn.tx (exT (e23.trans e25)), by omega, fun H26 e26 => k _ _ e26 fun ms2 h2 => ?_⟩
            · rw [hml]; exact hv22.tx (exT (e23.trans e25))
            · rw [hms] at h2
              cases h2
              rw [hml, hold_same hf hclo]
              rfl
          · have ey := bls_items (l := [nsb, l, m1, m2, m3]) (b := fun ms => holdB (m + 1) cl (vfn ms)) (hl3.trans rfl) hP2
            subst ey
            refine reprS (.lst (SqL.of hD3) (dp_bls K H24 _)) (sm_bls (show 5 ≤ 100 by decide)) (by decide) ?_
            refine ⟨rfl, ?_⟩
            rw [decide_eq_true rfl]
            exact q H24 (eB22.trans (exB (e23.trans e24)))
end
end K38
set_option maxHeartbeats 4000000
/-! Walk: the law; its call behind the top. -/
namespace K38
open PySem PySem.Spec PyProof.Rows L2 RZ
open Evl (Ex)
section
variable {P : Program} {w : World} {K : PySem.W.Frag} {mg : Str → Option Value} {base : Heap}
def spLaw (K : PySem.W.Frag) : Sp := fun vs H Q _ => ∃ (a : Addr) (ns : List Int), vs = [.ref a] ∧ SqL K H a (ns.map V.int) ∧ ∀ H', Q (.bl true) H'
theorem ok_law {f fR : Addr} {fd fdR : FuncData} (F : FnP K "law" sLaw f fd) (B : Bl mg) (C : Cal P w K mg base 1 "_law_spring" ["_law_script", "_law_turn"] (spSpring K)) (R : FnG P w K mg base 8 fR fdR ["_law_spring_here"] spRight) (hm : mg "_law_right" = some (.ref fR))
    (hk : PySem.W.keepIn K (.ref fR) = true) (hb : Binds K fdR ["_law_spring_here"] []) : FnG P w K mg base 9 f fd ["_law_script"] (spLaw K) := by
  refine okG F scLaw (fun vs H Q E h => ?_) (fun cdv A outer s H vs Q E hr hgd h => ?_)
  · obtain ⟨a, ns, rfl, _⟩ := h
    rfl
  · obtain ⟨a, ns, rfl, ha, q⟩ := h
    have nd := scLaw.nd
    refine ⟨_, PSs.nox (pss_one (ps_ret (pe_callB (cr_all rfl) (by rfl) B.all bt_all (pa_cons (pe_lc (own := [("_law_turn", 1)]) (g := gName 1) (tt := tYes) rfl nd
      (pi_range1 (by rfl) B.range (pa_cons (pe_callB (call_max2 rfl) (by rfl) B.max bt_max (pa_cons pe_int (pa_cons (pe_callB (call_min2 rfl) (by rfl) B.min bt_min (pa_cons (pe_callB call_len_seq (by rfl) B.len PySem.boot_len (pa_cons (pv 0) pa_nil)) (pa_cons pe_int pa_nil))) pa_nil))) pa_nil))
      (blkOk_by (N := nLaw) (sc := defScope sLaw) (by decide +kernel)) (fun _ _ _ _ _ => pg_name (i := 1) nd rfl (.inl rfl)) (fun _ _ _ _ _ => pts_nil)
      (fun _ _ _ _ _ => pe_callG (E := E0) R hr hgd (by rfl) hm hk hb (pa_cons (pe_fn C hr (by decide) (by rfl) (pa_cons (pv 0) (pa_cons (pv 1) pa_nil))) pa_nil))) pa_nil)))), ?_⟩
    refine rd_ret ?_
    refine rd_cb ?_
    refine rd_c1 ?_
    obtain ⟨y, hy⟩ : ∃ y : Int, y = (if (if (3 : Int) < (((ns.map V.int).length : Nat) : Int) then 3 else (((ns.map V.int).length : Nat) : Int)) > 2 then (if (3 : Int) < (((ns.map V.int).length : Nat) : Int) then 3 else (((ns.map V.int).length : Nat) : Int)) else 2) := ⟨_, rfl⟩
    have hy1 : 2 ≤ y ∧ y ≤ 3 := by rw [hy]; split <;> split at * <;> omega
    refine tlc (J := Itr 0 y.toNat) (H1 := H) (fun R r => ⟨_, rfl, a, _, rfl, .inl ha, _, _, rfl, _, _, rfl, y, congrArg (fun z => [V.int z]) hy.symm, by omega, by omega, r⟩) walk_rng0 (n := y.toNat) (sz21 (by omega)) (fun _ y _ => y = .bl true)
      (fun _ _ _ _ _ _ e => e) (fun H1 e => trivial) (fun i H1 x H2 _ _ y => by rw [y.1]; exact Ex.refl _) (fun i x H1 H2 hi e1 e2 y Qt k => ?_) (fun D ys H1 hD e hD2 hl hP => ?_)
    · obtain ⟨rfl, rfl⟩ := y
      refine ⟨rfl, _, rfl, _, rfl, a, i, ns, rfl, sqL_ex e2 ha, fun H3 p e3 np sp3 => ⟨p, rfl, sp3, fun H4 e4 => k _ H4 (fun b o hb => e4 b o (by rintro rfl; rw [np] at hb; cases hb) (e3 b o hb)) rfl⟩⟩
    · have e2 := bls_of (b := fun _ => true) hl hP
      subst e2
      refine ⟨D, _, rfl, SqL.of hD2, ?_⟩
      rw [all_seqF fun _ _ => rfl]
      exact q H1
end
end K38
set_option maxHeartbeats 4000000
/-! The call of a law whose promise rests on the guards of the caller's stack. -/
namespace K38
open PySem PySem.Spec PyProof.Rows L2
/-- the call, from a heap of which at most the script is tracked, frozen -/
theorem lawG_at {P : Program} {w : World} {K : PySem.W.Frag} {mg mb : Str → Option Value} {k : Nat} {fa a : Addr} {fd : FuncData} {x : Str} {sp : Sp} {s₁ : Shared} {vs : List Value} {ns : List Int} {H : Hp} {ob : Obj}
    (hH : ∀ b u, H b = some u → b = a ∧ u = .frz ob (.lst (ns.map V.int)) ∧ K.lookup a = none) (hob : s₁.heap.get? a = some ob) (hdt : ∃ n, ob.data = .seq vs.toArray n) (hok : HOk P w H s₁.heap)
    (KX : K.In s₁.heap) (hns : s₁.heap.Ns mainGlobals mg) (hb : s₁.heap.Ns builtinsNs mb) (hbb : ∀ x : Str, x ≠ "__name__" → mb x = bootBuiltins x) (hlim : s₁.heap.NoLimit) (hg : s₁.gens = #[]) (hr : Room k callerA)
    (F : ∀ base : Heap, K.In base → base.Ns mainGlobals mg → FnG P w K mg base k fa fd [x] sp) (hbind : ∀ (s : Shared) (u : Value), BindsTo s fd ⟨[u], []⟩ [(x, u)]) (hsp : sp [.ref a] H (fun v _ => v = .bl true) fun _ _ _ => False) :
    codeAny (model P w) callerA (.call (.ref fa) ⟨[.ref a], []⟩) (fun r s' => r = .ok (.ret (.bool true)) ∧ OldK s₁.heap s'.heap ∧ s'.os = s₁.os ∧ AllBare s'.gens) s₁ := by
  have un : ∀ {b : Addr} {o : Obj}, s₁.heap.get? b = some o → (b = a → K.lookup a ≠ none) ∨ b ≠ a ∨ (∀ n, o.data ≠ .seq vs.toArray n) → H b = none := fun {b o} e h => by
    cases q : H b with
    | none => rfl
    | some u =>
      obtain ⟨h1, _, h3⟩ := hH b u q
      rcases h with h | h | h
      · exact absurd h3 (h h1)
      · exact absurd h1 h
      · subst h1
        rw [hob] at e
        cases e
        obtain ⟨n, hn⟩ := hdt
        exact absurd hn (h n)
  have dic : ∀ {b : Addr} {m : Str → Option Value}, s₁.heap.Ns b m → (hidT s₁.heap H).Ns b m := fun {b m} ⟨o, es, ep, e, d, r⟩ => ⟨o, es, ep, hidT_get e (un e (.inr (.inr fun n => by rw [d]; exact fun z => by cases z))), d, r⟩
  have kin : K.In (hidT s₁.heap H) := fun b o e => hidT_get (KX b o e) (un (KX b o e) (.inl fun h z => by subst h; rw [z] at e; cases e))
  have md : Mod K mg (hidT s₁.heap H) := ⟨kin, dic hns, ⟨mb, dic hb, hbb⟩, let ⟨mc, h1, h2⟩ := hlim; ⟨mc, dic h1, h2⟩⟩
  have env : Env0 P w K mg (hidT s₁.heap H) callerA [] s₁ H := ⟨rfl, md, fun b o e => of_hidT e, Nat.le_of_eq (hidT_size _ _), trivial, fun b h => absurd h List.not_mem_nil, hok, .of_eq hg⟩
  refine codeAny_mono ((F _ kin (dic hns)).run callerA [] s₁ H ⟨[.ref a], []⟩ [.ref a] [.ref a] _ _ hr rfl env (hbind s₁ (.ref a)) (.cons rfl .nil) hsp) fun r s' h => ?_
  cases r with
  | error e => exact False.elim h
  | ok fl =>
    cases fl with
    | next => exact False.elim h
    | brk => exact False.elim h
    | cont => exact False.elim h
    | ret u =>
      obtain ⟨v, H', os, bare, old, ok', r', q⟩ := h
      obtain rfl : v = .bl true := q
      obtain rfl : u = Value.bool true := r'
      refine ⟨rfl, OldK.of_keep fun b o e => ?_, os, bare⟩
      cases q : H b with
      | none => exact old.keep b o e q (fun z => absurd z List.not_mem_nil) (by simp)
      | some u =>
        obtain ⟨_, rfl, _⟩ := hH b u q
        obtain ⟨e2, _⟩ := ok' b _ (old.frzs b ob _ q)
        obtain ⟨e1, _⟩ := hok b _ q
        rw [e] at e1
        cases e1
        exact e2
/-- a law of one list of ints, over a head by facts; the def's promise may rest on the guards -/
theorem endG {l : PySem.W.OpenLaw} {n k : Nat} {q : Program} {loose : List Str} {XP : (Str → Option Value) → Heap → Prop} {YP : World → Heap → Prop} {d : DefRec} {x : Str} (hn : l.most = some n) (hn2 : n ≤ sizeLine) (hdf : d.params.defaults = []) (hr : Room k callerA)
    (F : ∀ (w : World) (mg : Str → Option Value) (fa : Addr) (h : Heap), YP w h → h.Ns mainGlobals mg → mg d.name = some (.ref fa) →
      ∃ (K : PySem.W.Frag) (fd : FuncData) (sp : Sp), K.In h ∧ (∀ (s : Shared) (u : Value), BindsTo s fd ⟨[u], []⟩ [(x, u)]) ∧
        (∀ (H : Hp) (a : Addr) (ns : List Int), SqL K H a (ns.map V.int) → sp [.ref a] H (fun v _ => v = .bl true) fun _ _ _ => False) ∧ ∀ base : Heap, K.In base → base.Ns mainGlobals mg → FnG l.prog w K mg base k fa fd [x] sp) :
    PySem.W.WalkO q loose XP YP l.row.toRowW d [] (fun f vs => PySem.call f vs) := by
  refine Att.attach_call hn hdf fun w s₀ s₁ mg mb fa o pm cd doc a vs ns G Y ho hd hcd hmg hobj hints hlen hg => ?_
  obtain ⟨K, fd, sp, KX, hb, hsp, hF⟩ := F w mg fa _ Y G.T.g hmg
  have rv := vals_ints hints
  have hz : (ns.map V.int).length ≤ sizeLine := by rw [List.length_map]; omega
  cases hk : K.lookup a with
  | some u =>
    have e := KX a u hk
    rw [hobj] at e
    cases e
    refine lawG_at (H := fun _ => none) (ns := ns) (fun b u z => by cases z) hobj ⟨_, rfl⟩ (fun b u z => by cases z) KX G.T.g G.T.b G.T.builtins G.T.nolimit hg hr hF hb (hsp _ a ns (.inr ⟨_, vs.toArray, _, hk, rfl, rfl, rfl, ?_, by simpa using rv⟩))
    rw [List.size_toArray, hints.length]
    omega
  | none =>
    have at_ : ∀ (b : Addr) (u : HO), (if b = a then some (HO.frz { cls := .type "list", data := .seq vs.toArray } (.lst (ns.map V.int))) else none) = some u → b = a ∧ u = .frz { cls := .type "list", data := .seq vs.toArray } (.lst (ns.map V.int)) := fun b u z => by
      by_cases h : b = a
      · rw [if_pos h] at z
        exact ⟨h, (Option.some.inj z).symm⟩
      · rw [if_neg h] at z
        cases z
    refine lawG_at (H := fun b => if b = a then some (.frz { cls := .type "list", data := .seq vs.toArray } (.lst (ns.map V.int))) else none) (fun b u z => ⟨(at_ b u z).1, (at_ b u z).2, hk⟩) hobj ⟨_, rfl⟩ (fun b u z => ?_) KX G.T.g G.T.b G.T.builtins G.T.nolimit hg hr hF hb
      (hsp _ a ns (.inl (.inr ⟨_, if_pos rfl⟩)))
    obtain ⟨rfl, rfl⟩ := at_ b u z
    exact ⟨hobj, hz, vs, _, rv, hobj⟩
end K38
set_option maxHeartbeats 0
namespace K38
open PySem PySem.Spec PyProof.Rows L2
def dIsWhole : He.DefD := ⟨("is_whole", none), "is_whole", "is_whole", defArgs sIsWhole, defBody sIsWhole, defScope sIsWhole, [], []⟩
def dIsBetween : He.DefD := ⟨("is_between", none), "is_between", "is_between", defArgs sIsBetween, defBody sIsBetween, defScope sIsBetween, [], []⟩
def dIsEnd : He.DefD := ⟨("is_end", none), "is_end", "is_end", defArgs sIsEnd, defBody sIsEnd, defScope sIsEnd, [], []⟩
def dIsHighWithin : He.DefD := ⟨("is_high_within", none), "is_high_within", "is_high_within", defArgs sIsHighWithin, defBody sIsHighWithin, defScope sIsHighWithin, [], []⟩
def dIsBoundRow : He.DefD := ⟨("is_bound_row", none), "is_bound_row", "is_bound_row", defArgs sIsBoundRow, defBody sIsBoundRow, defScope sIsBoundRow, [], []⟩
def dAreDifferences : He.DefD := ⟨("are_differences", none), "are_differences", "are_differences", defArgs sAreDifferences, defBody sAreDifferences, defScope sAreDifferences, [], []⟩
def dIsWithinBound : He.DefD := ⟨("is_within_bound", none), "is_within_bound", "is_within_bound", defArgs sIsWithinBound, defBody sIsWithinBound, defScope sIsWithinBound, [], []⟩
def dHoldDifferences : He.DefD := ⟨("hold_differences", none), "hold_differences", "hold_differences", defArgs sHoldDifferences, defBody sHoldDifferences, defScope sHoldDifferences, [], []⟩
def dPlus : He.DefD := ⟨("plus", none), "plus", "plus", defArgs sPlus, defBody sPlus, defScope sPlus, [], []⟩
def dLesser : He.DefD := ⟨("lesser", none), "lesser", "lesser", defArgs sLesser, defBody sLesser, defScope sLesser, [], []⟩
def dRowThrough : He.DefD := ⟨("row_through", none), "row_through", "row_through", defArgs sRowThrough, defBody sRowThrough, defScope sRowThrough, [], []⟩
def dClosedBy : He.DefD := ⟨("closed_by", none), "closed_by", "closed_by", defArgs sClosedBy, defBody sClosedBy, defScope sClosedBy, [], []⟩
def dWalkThrough : He.DefD := ⟨("walk_through", none), "walk_through", "walk_through", defArgs sWalkThrough, defBody sWalkThrough, defScope sWalkThrough, [], []⟩
def dSumRound : He.DefD := ⟨("sum_round", none), "sum_round", "sum_round", defArgs sSumRound, defBody sSumRound, defScope sSumRound, [], []⟩
def dRingOn : He.DefD := ⟨("ring_on", none), "ring_on", "ring_on", defArgs sRingOn, defBody sRingOn, defScope sRingOn, [], []⟩
def dRingIn : He.DefD := ⟨("ring_in", none), "ring_in", "ring_in", defArgs sRingIn, defBody sRingIn, defScope sRingIn, [], []⟩
def dChosenNumber : He.DefD := ⟨("chosen_number", none), "chosen_number", "chosen_number", defArgs sChosenNumber, defBody sChosenNumber, defScope sChosenNumber, [], []⟩
def dValuesHeldBy : He.DefD := ⟨("values_held_by", none), "values_held_by", "values_held_by", defArgs sValuesHeldBy, defBody sValuesHeldBy, defScope sValuesHeldBy, [], []⟩
def dCheckSize : He.DefD := ⟨("check_size", none), "check_size", "check_size", defArgs sCheckSize, defBody sCheckSize, defScope sCheckSize, [], []⟩
def dCheckValuesOf : He.DefD := ⟨("check_values_of", none), "check_values_of", "check_values_of", defArgs sCheckValuesOf, defBody sCheckValuesOf, defScope sCheckValuesOf, [], []⟩
def dCheckDifferences : He.DefD := ⟨("check_differences", none), "check_differences", "check_differences", defArgs sCheckDifferences, defBody sCheckDifferences, defScope sCheckDifferences, [], []⟩
def dCheckSizedDifferences : He.DefD := ⟨("check_sized_differences", none), "check_sized_differences", "check_sized_differences", defArgs sCheckSizedDifferences, defBody sCheckSizedDifferences, defScope sCheckSizedDifferences, [], []⟩
def dDifferencesHold : He.DefD := ⟨("differences_hold", none), "differences_hold", "differences_hold", defArgs sDifferencesHold, defBody sDifferencesHold, defScope sDifferencesHold, [], []⟩
def dClosedDifferences : He.DefD := ⟨("closed_differences", none), "closed_differences", "closed_differences", defArgs sClosedDifferences, defBody sClosedDifferences, defScope sClosedDifferences, [], []⟩
def dRingOf : He.DefD := ⟨("ring_of", none), "ring_of", "ring_of", defArgs sRingOf, defBody sRingOf, defScope sRingOf, [], []⟩
def dSomeValues : He.DefD := ⟨("some_values", none), "some_values", "some_values", defArgs sSomeValues, defBody sSomeValues, defScope sSomeValues, [], []⟩
def dLSpring : He.DefD := ⟨("_law_spring", none), "_law_spring", "_law_spring", defArgs sLSpring, defBody sLSpring, defScope sLSpring, [], []⟩
def dLDraw : He.DefD := ⟨("_law_draw", none), "_law_draw", "_law_draw", defArgs sLDraw, defBody sLDraw, defScope sLDraw, [], []⟩
def dLPick : He.DefD := ⟨("_law_pick", none), "_law_pick", "_law_pick", defArgs sLPick, defBody sLPick, defScope sLPick, [], []⟩
def dLSize : He.DefD := ⟨("_law_size", none), "_law_size", "_law_size", defArgs sLSize, defBody sLSize, defScope sLSize, [], []⟩
def dLSpots : He.DefD := ⟨("_law_spots", none), "_law_spots", "_law_spots", defArgs sLSpots, defBody sLSpots, defScope sLSpots, [], []⟩
def dLBound : He.DefD := ⟨("_law_bound", none), "_law_bound", "_law_bound", defArgs sLBound, defBody sLBound, defScope sLBound, [], []⟩
def dLAbout : He.DefD := ⟨("_law_about", none), "_law_about", "_law_about", defArgs sLAbout, defBody sLAbout, defScope sLAbout, [], []⟩
def dLNearSpots : He.DefD := ⟨("_law_near_spots", none), "_law_near_spots", "_law_near_spots", defArgs sLNearSpots, defBody sLNearSpots, defScope sLNearSpots, [], []⟩
def dLIsWhole : He.DefD := ⟨("_law_is_whole", none), "_law_is_whole", "_law_is_whole", defArgs sLIsWhole, defBody sLIsWhole, defScope sLIsWhole, [], []⟩
def dLIsSpots : He.DefD := ⟨("_law_is_spots", none), "_law_is_spots", "_law_is_spots", defArgs sLIsSpots, defBody sLIsSpots, defScope sLIsSpots, [], []⟩
def dLHolds : He.DefD := ⟨("_law_holds", none), "_law_holds", "_law_holds", defArgs sLHolds, defBody sLHolds, defScope sLHolds, [], []⟩
def dLClosing : He.DefD := ⟨("_law_closing", none), "_law_closing", "_law_closing", defArgs sLClosing, defBody sLClosing, defScope sLClosing, [], []⟩
def dLIsRing : He.DefD := ⟨("_law_is_ring", none), "_law_is_ring", "_law_is_ring", defArgs sLIsRing, defBody sLIsRing, defScope sLIsRing, [], []⟩
def dLRight : He.DefD := ⟨("_law_right", none), "_law_right", "_law_right", defArgs sLRight, defBody sLRight, defScope sLRight, [], []⟩
def dLaw : He.DefD := ⟨("law", none), "law", "law", defArgs sLaw, defBody sLaw, defScope sLaw, [], []⟩
def fn1 : List He.DefD := [dIsWhole, dIsBetween, dIsEnd, dIsHighWithin, dIsBoundRow, dAreDifferences, dIsWithinBound, dHoldDifferences, dPlus, dLesser, dRowThrough, dClosedBy, dWalkThrough, dSumRound, dRingOn, dRingIn, dChosenNumber, dValuesHeldBy, dCheckSize, dCheckValuesOf]
def fn2 : List He.DefD := [dCheckDifferences, dCheckSizedDifferences, dDifferencesHold, dClosedDifferences, dRingOf, dSomeValues, dLSpring, dLDraw, dLPick, dLSize, dLSpots, dLBound, dLAbout, dLNearSpots, dLIsWhole, dLIsSpots, dLHolds, dLClosing, dLIsRing, dLRight, dLaw]
def fn : List He.DefD := fn1 ++ fn2
def fa1 : List He.Fa := [.glo "is_whole", .glo "is_between", .glo "is_end", .glo "is_high_within", .glo "is_bound_row", .glo "are_differences", .glo "is_within_bound", .glo "hold_differences", .glo "plus", .glo "lesser", .glo "row_through", .glo "closed_by", .glo "walk_through", .glo "sum_round", .glo "ring_on", .glo "ring_in", .glo "chosen_number", .glo "values_held_by", .glo "check_size", .glo "check_values_of"]
def fa2 : List He.Fa := [.glo "check_differences", .glo "check_sized_differences", .glo "differences_hold", .glo "closed_differences", .glo "ring_of", .glo "some_values", .glo "_law_spring", .glo "_law_draw", .glo "_law_pick", .glo "_law_size", .glo "_law_spots", .glo "_law_bound", .glo "_law_about", .glo "_law_near_spots", .glo "_law_is_whole", .glo "_law_is_spots", .glo "_law_holds", .glo "_law_closing", .glo "_law_is_ring", .glo "_law_right", .glo "law"]
def fa3 : List He.Fa := [.free "isinstance", .free "int", .free "bool", .free "tuple", .free "len", .free "all", .free "enumerate", .free "range", .free "any", .free "zip", .free "sum", .free "max", .free "min", .free "abs", .free "divmod", .free "repr", .free "list", .free "set", .int "MOST_SLOTS" 20]
def fa : List He.Fa := fa1 ++ fa2 ++ fa3
def loose1 : List Str := ["is_whole", "is_between", "is_end", "is_high_within", "is_bound_row", "are_differences", "is_within_bound", "hold_differences", "plus", "lesser", "row_through", "closed_by", "walk_through", "sum_round", "ring_on", "ring_in", "chosen_number", "values_held_by", "LookError", "InvalidValues", "InvalidSize", "InvalidDifferences", "MOST_SLOTS", "check_size", "check_values_of"]
def loose2 : List Str := ["check_differences", "check_sized_differences", "differences_hold", "closed_differences", "ring_of", "some_values", "_law_spring", "_law_draw", "_law_pick", "_law_size", "_law_spots", "_law_bound", "_law_about", "_law_near_spots", "_law_is_whole", "_law_is_spots", "_law_holds", "_law_closing", "_law_is_ring", "_law_right"]
def loose : List Str := loose1 ++ loose2
abbrev R : PySem.W.OpenRow := PySem.W.OpenLaw.row PySem.Challenge.rw_soundlooks_k38_whole_closings_rings_and
abbrev hk : PySem.W.Hook := He.hookD 4 fa fn
def ob (s : PySem.W.SharedT) : He.AlD := He.obsDG 4 fa fn (HandSHeadRun.getT s)
theorem ob_eq (s : PySem.W.SharedT) : ob s = hk.obs s.abs := He.obsDG_eq (HandSHeadRun.getT_eq s)
theorem run (w : World) : HandSHeadRun.RunEq R (PySem.W.view R.prog [52]) hk ob 8000 loose w := by
  intro os
  kernel_rfl
end K38
set_option maxHeartbeats 0
/-! The facts of the head by names, each def's promise in turn, the row. Printed by gen_end.py. -/
namespace K38
open PySem PySem.Spec PyProof.Rows L2 RZ
theorem bl_of {K : PySem.W.Frag} {h : Heap} {mg : Str → Option Value} (X : K.In h) (G : h.Ns mainGlobals mg) (c : He.SaysD fa fn K) : Bl mg :=
  ⟨He.free_ok X G (c.fact 41 (f := .free "isinstance") rfl), He.free_ok X G (c.fact 42 (f := .free "int") rfl), He.free_ok X G (c.fact 43 (f := .free "bool") rfl), He.free_ok X G (c.fact 44 (f := .free "tuple") rfl), He.free_ok X G (c.fact 45 (f := .free "len") rfl), He.free_ok X G (c.fact 46 (f := .free "all") rfl), He.free_ok X G (c.fact 47 (f := .free "enumerate") rfl), He.free_ok X G (c.fact 48 (f := .free "range") rfl), He.free_ok X G (c.fact 49 (f := .free "any") rfl), He.free_ok X G (c.fact 50 (f := .free "zip") rfl), He.free_ok X G (c.fact 51 (f := .free "sum") rfl), He.free_ok X G (c.fact 52 (f := .free "max") rfl), He.free_ok X G (c.fact 53 (f := .free "min") rfl), He.free_ok X G (c.fact 54 (f := .free "abs") rfl), He.free_ok X G (c.fact 55 (f := .free "divmod") rfl), He.free_ok X G (c.fact 56 (f := .free "repr") rfl), He.free_ok X G (c.fact 57 (f := .free "list") rfl), He.free_ok X G (c.fact 58 (f := .free "set") rfl), He.int_ok X G (c.fact 59 (f := .int "MOST_SLOTS" 20) rfl)⟩
theorem facts {P : Program} {w : World} {K : PySem.W.Frag} {h : Heap} {mg : Str → Option Value} {f : Addr} (X : K.In h) (G : h.Ns mainGlobals mg) (hfa : mg ("law" : Str) = some (.ref f)) (c : He.SaysD fa fn K) :
    ∃ fd : FuncData, (∀ (s : Shared) (v : Value), BindsTo s fd ⟨[v], []⟩ [("_law_script", v)]) ∧ ∀ base : Heap, K.In base → base.Ns mainGlobals mg → FnG P w K mg base 9 f fd ["_law_script"] (spLaw K) := by
  have B := bl_of X G c
  obtain ⟨d_is_whole, F_is_whole⟩ := c.def_ 0 (d := dIsWhole) rfl
  obtain ⟨d_is_between, F_is_between⟩ := c.def_ 1 (d := dIsBetween) rfl
  obtain ⟨d_is_end, F_is_end⟩ := c.def_ 2 (d := dIsEnd) rfl
  obtain ⟨d_is_high_within, F_is_high_within⟩ := c.def_ 3 (d := dIsHighWithin) rfl
  obtain ⟨d_is_within_bound, F_is_within_bound⟩ := c.def_ 6 (d := dIsWithinBound) rfl
  obtain ⟨d_plus, F_plus⟩ := c.def_ 8 (d := dPlus) rfl
  obtain ⟨d_lesser, F_lesser⟩ := c.def_ 9 (d := dLesser) rfl
  obtain ⟨d_is_bound_row, F_is_bound_row⟩ := c.def_ 4 (d := dIsBoundRow) rfl
  obtain ⟨d_are_differences, F_are_differences⟩ := c.def_ 5 (d := dAreDifferences) rfl
  obtain ⟨d_row_through, F_row_through⟩ := c.def_ 10 (d := dRowThrough) rfl
  obtain ⟨d_closed_by, F_closed_by⟩ := c.def_ 11 (d := dClosedBy) rfl
  obtain ⟨d_hold_differences, F_hold_differences⟩ := c.def_ 7 (d := dHoldDifferences) rfl
  obtain ⟨d_walk_through, F_walk_through⟩ := c.def_ 12 (d := dWalkThrough) rfl
  obtain ⟨d_sum_round, F_sum_round⟩ := c.def_ 13 (d := dSumRound) rfl
  obtain ⟨d_ring_on, F_ring_on⟩ := c.def_ 14 (d := dRingOn) rfl
  obtain ⟨d_ring_in, F_ring_in⟩ := c.def_ 15 (d := dRingIn) rfl
  obtain ⟨d_chosen_number, F_chosen_number⟩ := c.def_ 16 (d := dChosenNumber) rfl
  obtain ⟨d_values_held_by, F_values_held_by⟩ := c.def_ 17 (d := dValuesHeldBy) rfl
  obtain ⟨d_check_size, F_check_size⟩ := c.def_ 18 (d := dCheckSize) rfl
  obtain ⟨d_check_values_of, F_check_values_of⟩ := c.def_ 19 (d := dCheckValuesOf) rfl
  obtain ⟨d_check_differences, F_check_differences⟩ := c.def_ 20 (d := dCheckDifferences) rfl
  obtain ⟨d_check_sized_differences, F_check_sized_differences⟩ := c.def_ 21 (d := dCheckSizedDifferences) rfl
  obtain ⟨d_closed_differences, F_closed_differences⟩ := c.def_ 23 (d := dClosedDifferences) rfl
  obtain ⟨d_ring_of, F_ring_of⟩ := c.def_ 24 (d := dRingOf) rfl
  obtain ⟨d_some_values, F_some_values⟩ := c.def_ 25 (d := dSomeValues) rfl
  obtain ⟨d_differences_hold, F_differences_hold⟩ := c.def_ 22 (d := dDifferencesHold) rfl
  obtain ⟨d__law_draw, F__law_draw⟩ := c.def_ 27 (d := dLDraw) rfl
  obtain ⟨d__law_pick, F__law_pick⟩ := c.def_ 28 (d := dLPick) rfl
  obtain ⟨d__law_size, F__law_size⟩ := c.def_ 29 (d := dLSize) rfl
  obtain ⟨d__law_spots, F__law_spots⟩ := c.def_ 30 (d := dLSpots) rfl
  obtain ⟨d__law_bound, F__law_bound⟩ := c.def_ 31 (d := dLBound) rfl
  obtain ⟨d__law_about, F__law_about⟩ := c.def_ 32 (d := dLAbout) rfl
  obtain ⟨d__law_near_spots, F__law_near_spots⟩ := c.def_ 33 (d := dLNearSpots) rfl
  obtain ⟨d__law_is_whole, F__law_is_whole⟩ := c.def_ 34 (d := dLIsWhole) rfl
  obtain ⟨d__law_is_spots, F__law_is_spots⟩ := c.def_ 35 (d := dLIsSpots) rfl
  obtain ⟨d__law_holds, F__law_holds⟩ := c.def_ 36 (d := dLHolds) rfl
  obtain ⟨d__law_is_ring, F__law_is_ring⟩ := c.def_ 38 (d := dLIsRing) rfl
  obtain ⟨d__law_closing, F__law_closing⟩ := c.def_ 37 (d := dLClosing) rfl
  obtain ⟨d__law_spring, F__law_spring⟩ := c.def_ 26 (d := dLSpring) rfl
  obtain ⟨d__law_right, F__law_right⟩ := c.def_ 39 (d := dLRight) rfl
  obtain ⟨d_law, F_law⟩ := c.def_ 40 (d := dLaw) rfl
  have m_is_whole := He.glo_ok X G (c.fact 0 (f := .glo "is_whole") rfl)
  have m_is_between := He.glo_ok X G (c.fact 1 (f := .glo "is_between") rfl)
  have m_is_end := He.glo_ok X G (c.fact 2 (f := .glo "is_end") rfl)
  have m_is_high_within := He.glo_ok X G (c.fact 3 (f := .glo "is_high_within") rfl)
  have m_is_within_bound := He.glo_ok X G (c.fact 6 (f := .glo "is_within_bound") rfl)
  have m_plus := He.glo_ok X G (c.fact 8 (f := .glo "plus") rfl)
  have m_lesser := He.glo_ok X G (c.fact 9 (f := .glo "lesser") rfl)
  have m_is_bound_row := He.glo_ok X G (c.fact 4 (f := .glo "is_bound_row") rfl)
  have m_are_differences := He.glo_ok X G (c.fact 5 (f := .glo "are_differences") rfl)
  have m_row_through := He.glo_ok X G (c.fact 10 (f := .glo "row_through") rfl)
  have m_closed_by := He.glo_ok X G (c.fact 11 (f := .glo "closed_by") rfl)
  have m_hold_differences := He.glo_ok X G (c.fact 7 (f := .glo "hold_differences") rfl)
  have m_walk_through := He.glo_ok X G (c.fact 12 (f := .glo "walk_through") rfl)
  have m_sum_round := He.glo_ok X G (c.fact 13 (f := .glo "sum_round") rfl)
  have m_ring_on := He.glo_ok X G (c.fact 14 (f := .glo "ring_on") rfl)
  have m_ring_in := He.glo_ok X G (c.fact 15 (f := .glo "ring_in") rfl)
  have m_chosen_number := He.glo_ok X G (c.fact 16 (f := .glo "chosen_number") rfl)
  have m_values_held_by := He.glo_ok X G (c.fact 17 (f := .glo "values_held_by") rfl)
  have m_check_size := He.glo_ok X G (c.fact 18 (f := .glo "check_size") rfl)
  have m_check_values_of := He.glo_ok X G (c.fact 19 (f := .glo "check_values_of") rfl)
  have m_check_differences := He.glo_ok X G (c.fact 20 (f := .glo "check_differences") rfl)
  have m_check_sized_differences := He.glo_ok X G (c.fact 21 (f := .glo "check_sized_differences") rfl)
  have m_closed_differences := He.glo_ok X G (c.fact 23 (f := .glo "closed_differences") rfl)
  have m_ring_of := He.glo_ok X G (c.fact 24 (f := .glo "ring_of") rfl)
  have m_some_values := He.glo_ok X G (c.fact 25 (f := .glo "some_values") rfl)
  have m_differences_hold := He.glo_ok X G (c.fact 22 (f := .glo "differences_hold") rfl)
  have m__law_draw := He.glo_ok X G (c.fact 27 (f := .glo "_law_draw") rfl)
  have m__law_pick := He.glo_ok X G (c.fact 28 (f := .glo "_law_pick") rfl)
  have m__law_size := He.glo_ok X G (c.fact 29 (f := .glo "_law_size") rfl)
  have m__law_spots := He.glo_ok X G (c.fact 30 (f := .glo "_law_spots") rfl)
  have m__law_bound := He.glo_ok X G (c.fact 31 (f := .glo "_law_bound") rfl)
  have m__law_about := He.glo_ok X G (c.fact 32 (f := .glo "_law_about") rfl)
  have m__law_near_spots := He.glo_ok X G (c.fact 33 (f := .glo "_law_near_spots") rfl)
  have m__law_is_whole := He.glo_ok X G (c.fact 34 (f := .glo "_law_is_whole") rfl)
  have m__law_is_spots := He.glo_ok X G (c.fact 35 (f := .glo "_law_is_spots") rfl)
  have m__law_holds := He.glo_ok X G (c.fact 36 (f := .glo "_law_holds") rfl)
  have m__law_is_ring := He.glo_ok X G (c.fact 38 (f := .glo "_law_is_ring") rfl)
  have m__law_closing := He.glo_ok X G (c.fact 37 (f := .glo "_law_closing") rfl)
  have m__law_spring := He.glo_ok X G (c.fact 26 (f := .glo "_law_spring") rfl)
  have m__law_right := He.glo_ok X G (c.fact 39 (f := .glo "_law_right") rfl)
  have e := hfa.symm.trans (He.glo_ok X G (c.fact 40 (f := .glo "law") rfl))
  cases e
  have b := FunD.bindsA (ps := ["_law_script"]) F_law fun _ _ _ _ _ _ us hl => match us, hl with | [_], _ => rfl
  refine ⟨d_law, fun s v => b s [v] rfl, fun base _ _ => ?_⟩
  have c_is_whole := cal_isWhole (P := P) (w := w) (base := base) F_is_whole B m_is_whole
  have c_is_between := cal_isBetween (P := P) (w := w) (base := base) F_is_between c_is_whole m_is_between
  have c_is_end := cal_isEnd (P := P) (w := w) (base := base) F_is_end c_is_whole m_is_end
  have c_is_high_within := cal_isHighWithin (P := P) (w := w) (base := base) F_is_high_within m_is_high_within
  have c_is_within_bound := cal_isWithinBound (P := P) (w := w) (base := base) F_is_within_bound m_is_within_bound
  have c_plus := cal_plus (P := P) (w := w) (base := base) F_plus m_plus
  have c_lesser := cal_lesser (P := P) (w := w) (base := base) F_lesser c_is_high_within m_lesser
  have c_is_bound_row := cal_isBoundRow (P := P) (w := w) (base := base) F_is_bound_row B c_is_end m_is_bound_row
  have c_are_differences := cal_areDifferences (P := P) (w := w) (base := base) F_are_differences B c_is_bound_row m_are_differences
  have c_row_through := cal_rowThrough (P := P) (w := w) (base := base) F_row_through B c_lesser c_plus m_row_through
  have c_closed_by := cal_closedBy (P := P) (w := w) (base := base) F_closed_by B c_row_through m_closed_by
  have c_hold_differences := cal_holdDifferences (P := P) (w := w) (base := base) F_hold_differences B c_is_within_bound m_hold_differences
  have c_walk_through := cal_walkThrough (P := P) (w := w) (base := base) F_walk_through B c_plus c_is_high_within m_walk_through
  have c_sum_round := cal_sumRound (P := P) (w := w) (base := base) F_sum_round B m_sum_round
  have c_ring_on := cal_ringOn (P := P) (w := w) (base := base) F_ring_on B c_sum_round m_ring_on
  have c_ring_in := cal_ringIn (P := P) (w := w) (base := base) F_ring_in B c_walk_through c_ring_on m_ring_in
  have c_chosen_number := cal_chosenNumber (P := P) (w := w) (base := base) F_chosen_number B m_chosen_number
  have c_values_held_by := cal_valuesHeldBy (P := P) (w := w) (base := base) F_values_held_by B c_chosen_number m_values_held_by
  have c_check_size := cal_checkSize (P := P) (w := w) (base := base) F_check_size B c_is_between m_check_size
  have c_check_values_of := cal_checkValuesOf (P := P) (w := w) (base := base) F_check_values_of B c_is_whole m_check_values_of
  have c_check_differences := cal_checkDifferences (P := P) (w := w) (base := base) F_check_differences c_are_differences m_check_differences
  have c_check_sized_differences := cal_checkSized (P := P) (w := w) (base := base) F_check_sized_differences c_check_size c_check_differences m_check_sized_differences
  have c_closed_differences := cal_closedDifferences (P := P) (w := w) (base := base) F_closed_differences c_check_sized_differences c_closed_by m_closed_differences
  have c_ring_of := cal_ringOf (P := P) (w := w) (base := base) F_ring_of c_check_sized_differences c_ring_in m_ring_of
  have c_some_values := cal_someValues (P := P) (w := w) (base := base) F_some_values c_check_sized_differences c_closed_by c_values_held_by m_some_values
  have c_differences_hold := cal_differencesHold (P := P) (w := w) (base := base) F_differences_hold c_check_sized_differences c_check_values_of c_hold_differences m_differences_hold
  have c__law_draw := cal_draw (P := P) (w := w) (base := base) F__law_draw B m__law_draw
  have c__law_pick := cal_pick (P := P) (w := w) (base := base) F__law_pick B c__law_draw m__law_pick
  have c__law_size := cal_size (P := P) (w := w) (base := base) F__law_size c__law_draw c__law_pick m__law_size
  have c__law_spots := cal_spots (P := P) (w := w) (base := base) F__law_spots B c__law_draw m__law_spots
  have c__law_bound := cal_bound (P := P) (w := w) (base := base) F__law_bound c__law_draw c__law_pick m__law_bound
  have c__law_about := cal_about (P := P) (w := w) (base := base) F__law_about B c__law_draw c__law_bound m__law_about
  have c__law_near_spots := cal_near (P := P) (w := w) (base := base) F__law_near_spots B c__law_draw c__law_pick m__law_near_spots
  have c__law_is_whole := cal_lWhole (P := P) (w := w) (base := base) F__law_is_whole B m__law_is_whole
  have c__law_is_spots := cal_isSpots (P := P) (w := w) (base := base) F__law_is_spots B c__law_is_whole m__law_is_spots
  have c__law_holds := cal_lHolds (P := P) (w := w) (base := base) F__law_holds B m__law_holds
  have c__law_is_ring := cal_isRing (P := P) (w := w) (base := base) F__law_is_ring B c__law_is_whole m__law_is_ring
  have c__law_closing := cal_closing (P := P) (w := w) (base := base) F__law_closing B m__law_closing
  have c__law_spring := cal_spring (P := P) (w := w) (base := base) F__law_spring B m__law_spring
  have k_closed_differences := calK_of (st := sClosedDifferences) F_closed_differences (ok_closedDifferences (P := P) (w := w) (base := base) F_closed_differences c_check_sized_differences c_closed_by) m_closed_differences fun _ _ _ _ _ _ _ _ => rfl
  have k_ring_of := calK_of (st := sRingOf) F_ring_of (ok_ringOf (P := P) (w := w) (base := base) F_ring_of c_check_sized_differences c_ring_in) m_ring_of fun _ _ _ _ _ _ _ _ => rfl
  have k_some_values := calK_of (st := sSomeValues) F_some_values (ok_someValues (P := P) (w := w) (base := base) F_some_values c_check_sized_differences c_closed_by c_values_held_by) m_some_values fun _ _ _ _ _ _ _ _ => rfl
  have C : Calls P w K mg base := ⟨c__law_size, c__law_spots, c__law_about, c__law_closing, c__law_near_spots, c__law_is_ring, c__law_is_spots, c__law_holds, c_closed_differences, k_closed_differences, c_ring_of, k_ring_of, c_some_values, k_some_values, c_differences_hold⟩
  have R := ok_right (P := P) (w := w) (base := base) F__law_right B C
  exact ok_law F_law B c__law_spring R m__law_right F__law_right.kp (F__law_right.bindsN fun _ _ _ _ _ _ us hl => match us, hl with | [_], _ => rfl)
end K38
set_option maxHeartbeats 0
open PySem PySem.W PySem.Calls PyProof.Rows
theorem PySem.Challenge.cw_soundlooks_k38_whole_closings_rings_and_holds : PySem.Challenge.rw_soundlooks_k38_whole_closings_rings_and.Holds := by
  w_on; o_law
  refine HandSHeadRun.head_any (r := OpenLaw.row PySem.Challenge.rw_soundlooks_k38_whole_closings_rings_and) (q := view (OpenLaw.row PySem.Challenge.rw_soundlooks_k38_whole_closings_rings_and).prog [52]) (H := K38.hk) (ob := K38.ob) (M := 8000) (loose := K38.loose) (d := HandSHeadRun.topDef (OpenLaw.row PySem.Challenge.rw_soundlooks_k38_whole_closings_rings_and).prog 52) (kwd := []) K38.ob_eq
    (by kernel_rfl) (fun s => by kernel_rfl) K38.run (by kernel_rfl) (by kernel_rfl) (by kernel_rfl) (by rfl) (by first | assumption | decide +kernel) (by decide +kernel) ⟨rfl, rfl, rfl, rfl, rfl, by decide +kernel⟩ ?hw ?hc
  case hw => w_witness2
  case hc =>
    refine K38.endG (l := PySem.Challenge.rw_soundlooks_k38_whole_closings_rings_and) (n := 63) (k := 9) (x := "_law_script") rfl (by decide) (by kernel_rfl) ⟨rfl, by decide, by decide⟩ ?F
    intro w mg fa h Y G hmg0
    obtain ⟨K, KX, c⟩ := Y
    have hmg : mg ("law" : PySem.Str) = some (.ref fa) := by
      have e : (HandSHeadRun.topDef (OpenLaw.row PySem.Challenge.rw_soundlooks_k38_whole_closings_rings_and).prog 52).name = ("law" : PySem.Str) := by kernel_rfl
      rw [← e]
      exact hmg0
    obtain ⟨fd, hb, hF⟩ := K38.facts (P := (PySem.Challenge.rw_soundlooks_k38_whole_closings_rings_and).prog) (w := w) KX G hmg c
    exact ⟨K, fd, K38.spLaw K, KX, hb, fun H a ns hS => ⟨a, ns, rfl, hS, fun _ => rfl⟩, hF⟩
