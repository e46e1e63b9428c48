import PyProof.Rows.All
import Wide.All
import OpenK.AllK
import Wide.FinOn
import KE.KStateDown
import KE.KMinKey
import KE.KUnpackStar
import HandS.ForMost
import HandS.Deep
import HandS.IsInst
import HandS.Wide
import HandS.Conv
import HandS.TupAny
import HandS.Style
import HandS.Flow
import HandS.Zip
import HandS.Walk
import HandS.ExcOwn
import HandS.SortKw
import HandS.Defaults
import HandS.Lambda
import HandS.WordsDict
import HandS.HeadWalk
import HandS.HeadHook1
import HandS.HeadHook2
import HandS.HeadHook3
import HandS.HeadHook4
import HandS.Head0
import HandS.Head1
import HandS.Head2
import PySem.Challenge.RW_signbook_k31_whole_priced_tasks
set_option Elab.async false
set_option linter.all false
set_option maxRecDepth 100000
set_option maxHeartbeats 4000000
namespace K31
/-! finite sums of rationals -/
def sm : Nat → (Nat → Rat) → Rat
  | 0, _ => 0
  | n + 1, f => sm n f + f n
theorem sm_congr {f g : Nat → Rat} : ∀ {n : Nat}, (∀ i, i < n → f i = g i) → sm n f = sm n g
  | 0, _ => rfl
  | n + 1, h => by
    show sm n f + f n = sm n g + g n
    rw [sm_congr fun i hi => h i (by omega), h n (by omega)]
theorem sm_zero {f : Nat → Rat} : ∀ {n : Nat}, (∀ i, i < n → f i = 0) → sm n f = 0
  | 0, _ => rfl
  | n + 1, h => by
    show sm n f + f n = 0
    rw [sm_zero fun i hi => h i (by omega), h n (by omega)]
    grind
theorem sm_add (f g : Nat → Rat) : ∀ n : Nat, sm n (fun i => f i + g i) = sm n f + sm n g
  | 0 => by show (0 : Rat) = 0 + 0; grind
  | n + 1 => by
    show sm n (fun i => f i + g i) + (f n + g n) = (sm n f + f n) + (sm n g + g n)
    rw [sm_add f g n]; grind
theorem sm_sub (f g : Nat → Rat) : ∀ n : Nat, sm n (fun i => f i - g i) = sm n f - sm n g
  | 0 => by show (0 : Rat) = 0 - 0; grind
  | n + 1 => by
    show sm n (fun i => f i - g i) + (f n - g n) = (sm n f + f n) - (sm n g + g n)
    rw [sm_sub f g n]; grind
theorem sm_neg (f : Nat → Rat) : ∀ n : Nat, sm n (fun i => - f i) = - sm n f
  | 0 => by show (0 : Rat) = -0; grind
  | n + 1 => by
    show sm n (fun i => - f i) + (- f n) = - (sm n f + f n)
    rw [sm_neg f n]; grind
theorem sm_mul (c : Rat) (f : Nat → Rat) : ∀ n : Nat, sm n (fun i => c * f i) = c * sm n f
  | 0 => by show (0 : Rat) = c * 0; grind
  | n + 1 => by
    show sm n (fun i => c * f i) + c * f n = c * (sm n f + f n)
    rw [sm_mul c f n]; grind
theorem sm_mulr (c : Rat) (f : Nat → Rat) (n : Nat) : sm n (fun i => f i * c) = sm n f * c := by
  rw [Rat.mul_comm, ← sm_mul]
  exact sm_congr fun i _ => Rat.mul_comm _ _
theorem sm_swap (f : Nat → Nat → Rat) (m : Nat) : ∀ n : Nat, sm n (fun j => sm m fun i => f i j) = sm m (fun i => sm n fun j => f i j)
  | 0 => (sm_zero fun _ _ => rfl).symm
  | n + 1 => by
    show sm n (fun j => sm m fun i => f i j) + sm m (fun i => f i n) = sm m (fun i => sm n (fun j => f i j) + f i n)
    rw [sm_swap f m n, sm_add]
theorem sm_one {f : Nat → Rat} {k : Nat} : ∀ {n : Nat}, k < n → (∀ i, i < n → i ≠ k → f i = 0) → sm n f = f k
  | 0, h, _ => absurd h (Nat.not_lt_zero _)
  | n + 1, h, z => by
    show sm n f + f n = f k
    by_cases e : k = n
    · subst e
      rw [sm_zero fun i hi => z i (by omega) (by omega)]; grind
    · rw [sm_one (k := k) (by omega) fun i hi hn => z i (by omega) hn, z n (by omega) (by omega)]; grind
theorem sm_pick {a : Nat} {g : Nat → Rat} {n : Nat} (h : a < n) : sm n (fun k => if a = k then g k else 0) = g a := by
  rw [sm_one (k := a) h fun i _ hn => if_neg fun e => hn e.symm, if_pos rfl]
theorem sm_nonneg {f : Nat → Rat} : ∀ {n : Nat}, (∀ i, i < n → 0 ≤ f i) → 0 ≤ sm n f
  | 0, _ => by show (0 : Rat) ≤ 0; grind
  | n + 1, h => by
    have h1 := sm_nonneg (n := n) fun i hi => h i (by omega)
    have h2 := h n (by omega)
    show 0 ≤ sm n f + f n
    grind
theorem sm_le {f g : Nat → Rat} : ∀ {n : Nat}, (∀ i, i < n → f i ≤ g i) → sm n f ≤ sm n g
  | 0, _ => by show (0 : Rat) ≤ 0; grind
  | n + 1, h => by
    have h1 := sm_le (n := n) fun i hi => h i (by omega)
    have h2 := h n (by omega)
    show sm n f + f n ≤ sm n g + g n
    grind
theorem sm_app (f : Nat → Rat) (n : Nat) : ∀ m : Nat, sm (n + m) f = sm n f + sm m (fun i => f (n + i))
  | 0 => by show sm n f = sm n f + 0; grind
  | m + 1 => by
    show sm (n + m) f + f (n + m) = sm n f + (sm m (fun i => f (n + i)) + f (n + m))
    rw [sm_app f n m]; grind
/-- one term taken out -/
theorem sm_out {f : Nat → Rat} {c n : Nat} (h : c < n) : sm n f = f c + sm n (fun j => if j = c then 0 else f j) := by
  have e : sm n f = sm n (fun j => (if c = j then f j else 0) + (if j = c then 0 else f j)) := sm_congr fun j _ => by
    by_cases q : j = c
    · rw [if_pos q, if_pos q.symm]; grind
    · rw [if_neg q, if_neg fun z => q z.symm]; grind
  rw [e, sm_add, sm_pick h]
end K31
namespace K31
/-! the tableau: basic number B i = b i - sum over j of A i j * (free number F j); the aim: v + sum of c j * (free number F j) -/
structure Tab where
  A : Nat → Nat → Rat
  b : Nat → Rat
  c : Nat → Rat
  v : Rat
  B : Nat → Nat
  F : Nat → Nat
def Tab.start (n : Nat) (A0 : Nat → Nat → Rat) (b0 c0 : Nat → Rat) : Tab := ⟨A0, b0, c0, 0, fun i => n + i, fun j => j⟩
/-- the turned row -/
def Tab.rowA (T : Tab) (r c : Nat) (j : Nat) : Rat := if j = c then 1 / T.A r c else T.A r j * (1 / T.A r c)
def Tab.rowB (T : Tab) (r c : Nat) : Rat := T.b r * (1 / T.A r c)
/-- entries less so much of the turned row -/
def Tab.les (T : Tab) (r c : Nat) (e : Nat → Rat) (share : Rat) (j : Nat) : Rat := if j = c then 0 - share * T.rowA r c c else e j - share * T.rowA r c j
def Tab.turn (T : Tab) (r c : Nat) : Tab where
  A := fun i => if i = r then T.rowA r c else T.les r c (T.A i) (T.A i c)
  b := fun i => if i = r then T.rowB r c else T.b i - T.A i c * T.rowB r c
  c := T.les r c T.c (T.c c)
  v := T.v + T.c c * T.rowB r c
  B := fun i => if i = r then T.F c else T.B i
  F := fun j => if j = c then T.B r else T.F j
/-- the numbers' places: each of the m + n numbers stands just once -/
structure Lab (m n : Nat) (T : Tab) : Prop where
  bl : ∀ i, i < m → T.B i < n + m
  fl : ∀ j, j < n → T.F j < n + m
  bi : ∀ i k, i < m → k < m → T.B i = T.B k → i = k
  fi : ∀ i k, i < n → k < n → T.F i = T.F k → i = k
  ne : ∀ i j, i < m → j < n → T.B i ≠ T.F j
  al : ∀ k, k < n + m → (∃ i, i < m ∧ T.B i = k) ∨ ∃ j, j < n ∧ T.F j = k
theorem Lab.start (m n : Nat) (A0 : Nat → Nat → Rat) (b0 c0 : Nat → Rat) : Lab m n (Tab.start n A0 b0 c0) where
  bl := fun i h => by show n + i < n + m; omega
  fl := fun j h => by show j < n + m; omega
  bi := fun i k _ _ e => by have e : n + i = n + k := e; omega
  fi := fun i k _ _ e => e
  ne := fun i j _ h e => by have e : n + i = j := e; omega
  al := fun k h => by
    by_cases q : k < n
    · exact .inr ⟨k, q, rfl⟩
    · exact .inl ⟨k - n, by omega, by show n + (k - n) = k; omega⟩
theorem Lab.turn {m n r c : Nat} {T : Tab} (L : Lab m n T) (hr : r < m) (hc : c < n) : Lab m n (T.turn r c) where
  bl := fun i h => by
    show (if i = r then T.F c else T.B i) < n + m
    split
    · exact L.fl c hc
    · exact L.bl i h
  fl := fun j h => by
    show (if j = c then T.B r else T.F j) < n + m
    split
    · exact L.bl r hr
    · exact L.fl j h
  bi := fun i k hi hk e => by
    have e : (if i = r then T.F c else T.B i) = (if k = r then T.F c else T.B k) := e
    by_cases h1 : i = r
    · by_cases h2 : k = r
      · rw [h1, h2]
      · rw [if_pos h1, if_neg h2] at e
        exact absurd e.symm (L.ne k c hk hc)
    · by_cases h2 : k = r
      · rw [if_neg h1, if_pos h2] at e
        exact absurd e (L.ne i c hi hc)
      · rw [if_neg h1, if_neg h2] at e
        exact L.bi i k hi hk e
  fi := fun i k hi hk e => by
    have e : (if i = c then T.B r else T.F i) = (if k = c then T.B r else T.F k) := e
    by_cases h1 : i = c
    · by_cases h2 : k = c
      · rw [h1, h2]
      · rw [if_pos h1, if_neg h2] at e
        exact absurd e (L.ne r k hr hk)
    · by_cases h2 : k = c
      · rw [if_neg h1, if_pos h2] at e
        exact absurd e.symm (L.ne r i hr hi)
      · rw [if_neg h1, if_neg h2] at e
        exact L.fi i k hi hk e
  ne := fun i j hi hj e => by
    have e : (if i = r then T.F c else T.B i) = (if j = c then T.B r else T.F j) := e
    by_cases h1 : i = r
    · by_cases h2 : j = c
      · rw [if_pos h1, if_pos h2] at e
        exact L.ne r c hr hc e.symm
      · rw [if_pos h1, if_neg h2] at e
        exact h2 (L.fi c j hc hj e).symm
    · by_cases h2 : j = c
      · rw [if_neg h1, if_pos h2] at e
        exact h1 (L.bi i r hi hr e)
      · rw [if_neg h1, if_neg h2] at e
        exact L.ne i j hi hj e
  al := fun k hk => by
    rcases L.al k hk with ⟨i, hi, e⟩ | ⟨j, hj, e⟩
    · by_cases h1 : i = r
      · exact .inr ⟨c, hc, by show (if c = c then T.B r else T.F c) = k; rw [if_pos rfl, ← h1, e]⟩
      · exact .inl ⟨i, hi, by show (if i = r then T.F c else T.B i) = k; rw [if_neg h1, e]⟩
    · by_cases h1 : j = c
      · exact .inl ⟨r, hr, by show (if r = r then T.F c else T.B r) = k; rw [if_pos rfl, ← h1, e]⟩
      · exact .inr ⟨j, hj, by show (if j = c then T.B r else T.F j) = k; rw [if_neg h1, e]⟩
/-- what solves the rows -/
def Sol (m n : Nat) (T : Tab) (z : Nat → Rat) : Prop := ∀ i, i < m → z (T.B i) + sm n (fun j => T.A i j * z (T.F j)) = T.b i
/-- the aim -/
def Tab.obj (n : Nat) (T : Tab) (z : Nat → Rat) : Rat := T.v + sm n (fun j => T.c j * z (T.F j))
/-- a row's sum with one free number apart -/
theorem row_out {n c : Nat} {T : Tab} {e : Nat → Rat} {z : Nat → Rat} (hc : c < n) :
    sm n (fun j => e j * z (T.F j)) = e c * z (T.F c) + sm n (fun j => if j = c then 0 else e j * z (T.F j)) := sm_out hc
theorem rowA_sum {n r c : Nat} {T : Tab} {z : Nat → Rat} (hc : c < n) :
    sm n (fun j => T.rowA r c j * z ((T.turn r c).F j)) = (1 / T.A r c) * z (T.B r) + (1 / T.A r c) * sm n (fun j => if j = c then 0 else T.A r j * z (T.F j)) := by
  rw [sm_out hc, ← sm_mul]
  have e1 : T.rowA r c c * z ((T.turn r c).F c) = (1 / T.A r c) * z (T.B r) := by
    show (if c = c then _ else _) * z (if c = c then T.B r else T.F c) = _
    rw [if_pos rfl, if_pos rfl]
  rw [e1]
  congr 1
  refine sm_congr fun j _ => ?_
  by_cases q : j = c
  · rw [if_pos q, if_pos q]; grind
  · rw [if_neg q, if_neg q]
    show (if j = c then _ else T.A r j * (1 / T.A r c)) * z (if j = c then T.B r else T.F j) = _
    rw [if_neg q, if_neg q]; grind
theorem les_sum {n r c : Nat} {T : Tab} {z : Nat → Rat} (hc : c < n) (e : Nat → Rat) (share : Rat) :
    sm n (fun j => T.les r c e share j * z ((T.turn r c).F j)) = sm n (fun j => if j = c then 0 else e j * z (T.F j)) - share * sm n (fun j => T.rowA r c j * z ((T.turn r c).F j)) := by
  rw [← sm_mul, ← sm_sub]
  refine sm_congr fun j _ => ?_
  by_cases q : j = c
  · rw [if_pos q]
    show (if j = c then 0 - share * T.rowA r c c else _) * _ = _
    rw [if_pos q, q]; grind
  · rw [if_neg q]
    show (if j = c then _ else e j - share * T.rowA r c j) * z (if j = c then T.B r else T.F j) = _ - share * (_ * z (if j = c then T.B r else T.F j))
    rw [if_neg q, if_neg q]; grind
theorem inv_mul {p : Rat} (h : p ≠ 0) : p * (1 / p) = 1 := by grind
theorem sol_turn {m n r c : Nat} {T : Tab} {z : Nat → Rat} (hr : r < m) (hc : c < n) (hp : T.A r c ≠ 0) : Sol m n (T.turn r c) z ↔ Sol m n T z := by
  have hi := inv_mul hp
  have rB : ∀ i, (T.turn r c).B i = if i = r then T.F c else T.B i := fun _ => rfl
  have rb : ∀ i, (T.turn r c).b i = if i = r then T.rowB r c else T.b i - T.A i c * T.rowB r c := fun _ => rfl
  have rA : ∀ i, (T.turn r c).A i = if i = r then T.rowA r c else T.les r c (T.A i) (T.A i c) := fun _ => rfl
  have eb : T.rowB r c = T.b r * (1 / T.A r c) := rfl
  have er := row_out (T := T) (e := T.A r) (z := z) hc
  have es := rowA_sum (T := T) (r := r) (z := z) hc
  constructor
  · intro h
    have hr' := h r hr
    rw [rB, rb, rA, if_pos rfl, if_pos rfl, if_pos rfl, es, eb] at hr'
    intro i hi'
    by_cases q : i = r
    · subst q
      rw [er]
      generalize sm n (fun j => if j = c then 0 else T.A i j * z (T.F j)) = S at *
      generalize (1 / T.A i c) = p at *
      have h2 : T.A i c * (z (T.F c) + (p * z (T.B i) + p * S)) = T.A i c * (T.b i * p) := by rw [hr']
      grind
    · have h1 := h i hi'
      rw [rB, rb, rA, if_neg q, if_neg q, if_neg q, les_sum hc] at h1
      rw [row_out (T := T) (e := T.A i) (z := z) hc]
      rw [es, eb] at h1
      generalize sm n (fun j => if j = c then 0 else T.A i j * z (T.F j)) = S at *
      generalize sm n (fun j => if j = c then 0 else T.A r j * z (T.F j)) = S' at *
      generalize (1 / T.A r c) = p at *
      have h2 : T.A i c * (z (T.F c) + (p * z (T.B r) + p * S')) = T.A i c * (T.b r * p) := by rw [hr']
      grind
  · intro h
    have hr' := h r hr
    rw [er] at hr'
    have key : z (T.F c) + (1 / T.A r c * z (T.B r) + 1 / T.A r c * sm n (fun j => if j = c then 0 else T.A r j * z (T.F j))) = T.b r * (1 / T.A r c) := by
      generalize sm n (fun j => if j = c then 0 else T.A r j * z (T.F j)) = S' at *
      generalize (1 / T.A r c) = p at *
      have h2 : p * (z (T.B r) + (T.A r c * z (T.F c) + S')) = p * T.b r := by rw [hr']
      grind
    intro i hi'
    by_cases q : i = r
    · subst q
      rw [rB, rb, rA, if_pos rfl, if_pos rfl, if_pos rfl, es, eb]
      exact key
    · have h1 := h i hi'
      rw [rB, rb, rA, if_neg q, if_neg q, if_neg q, les_sum hc, es, eb]
      rw [row_out (T := T) (e := T.A i) (z := z) hc] at h1
      generalize sm n (fun j => if j = c then 0 else T.A i j * z (T.F j)) = S at *
      generalize sm n (fun j => if j = c then 0 else T.A r j * z (T.F j)) = S' at *
      generalize (1 / T.A r c) = p at *
      have h2 : T.A i c * (z (T.F c) + (p * z (T.B r) + p * S')) = T.A i c * (T.b r * p) := by rw [key]
      grind
theorem obj_turn {m n r c : Nat} {T : Tab} {z : Nat → Rat} (hr : r < m) (hc : c < n) (hp : T.A r c ≠ 0) (h : Sol m n T z) : (T.turn r c).obj n z = T.obj n z := by
  have h' := (sol_turn hr hc hp).mpr h r hr
  have rB : (T.turn r c).B r = if r = r then T.F c else T.B r := rfl
  have rb : (T.turn r c).b r = if r = r then T.rowB r c else T.b r - T.A r c * T.rowB r c := rfl
  have rA : (T.turn r c).A r = if r = r then T.rowA r c else T.les r c (T.A r) (T.A r c) := rfl
  rw [rB, rb, rA, if_pos rfl, if_pos rfl, if_pos rfl] at h'
  show T.v + T.c c * T.rowB r c + sm n (fun j => T.les r c T.c (T.c c) j * z ((T.turn r c).F j)) = T.v + sm n (fun j => T.c j * z (T.F j))
  rw [les_sum hc, row_out (T := T) (e := T.c) (z := z) hc]
  generalize sm n (fun j => T.rowA r c j * z ((T.turn r c).F j)) = S at *
  generalize sm n (fun j => if j = c then 0 else T.c j * z (T.F j)) = S' at *
  have h2 : T.c c * (z (T.F c) + S) = T.c c * T.rowB r c := by rw [h']
  grind
/-- the numbers that are b at the basic places and 0 at the free ones -/
def Tab.bs (m : Nat) (T : Tab) (k : Nat) : Rat := sm m (fun i => if T.B i = k then T.b i else 0)
theorem bs_B {m n : Nat} {T : Tab} (L : Lab m n T) {i : Nat} (hi : i < m) : T.bs m (T.B i) = T.b i := by
  show sm m (fun k => if T.B k = T.B i then T.b k else 0) = T.b i
  rw [sm_one (k := i) hi fun k hk q => if_neg fun e => q (L.bi k i hk hi e), if_pos rfl]
theorem bs_F {m n : Nat} {T : Tab} (L : Lab m n T) {j : Nat} (hj : j < n) : T.bs m (T.F j) = 0 :=
  sm_zero fun i hi => if_neg (L.ne i j hi hj)
theorem bs_sol {m n : Nat} {T : Tab} (L : Lab m n T) : Sol m n T (T.bs m) := fun i hi => by
  rw [bs_B L hi, sm_zero fun j hj => by rw [bs_F L hj]; grind]
  grind
/-- two tableaux of one task -/
structure Eqv (m n : Nat) (T U : Tab) : Prop where
  sol : ∀ z, Sol m n T z ↔ Sol m n U z
  obj : ∀ z, Sol m n T z → T.obj n z = U.obj n z
theorem Eqv.refl {m n : Nat} {T : Tab} : Eqv m n T T := ⟨fun _ => Iff.rfl, fun _ _ => rfl⟩
theorem Eqv.symm {m n : Nat} {T U : Tab} (e : Eqv m n T U) : Eqv m n U T := ⟨fun z => (e.sol z).symm, fun z h => (e.obj z ((e.sol z).mpr h)).symm⟩
theorem Eqv.trans {m n : Nat} {T U W : Tab} (e : Eqv m n T U) (f : Eqv m n U W) : Eqv m n T W := ⟨fun z => (e.sol z).trans (f.sol z), fun z h => (e.obj z h).trans (f.obj z ((e.sol z).mp h))⟩
theorem Eqv.turn {m n r c : Nat} {T : Tab} (hr : r < m) (hc : c < n) (hp : T.A r c ≠ 0) : Eqv m n (T.turn r c) T :=
  ⟨fun _ => sol_turn hr hc hp, fun _ h => obj_turn hr hc hp ((sol_turn hr hc hp).mp h)⟩
end K31
namespace K31
/-! what a last tableau shows -/
/-- numbers by their places -/
def spd (cnt : Nat) (lab : Nat → Nat) (val : Nat → Rat) (k : Nat) : Rat := sm cnt (fun j => if lab j = k then val j else 0)
theorem spd_sum {cnt N : Nat} {lab : Nat → Nat} {val z : Nat → Rat} (h : ∀ j, j < cnt → lab j < N) : sm N (fun k => spd cnt lab val k * z k) = sm cnt (fun j => val j * z (lab j)) := by
  have e : sm N (fun k => spd cnt lab val k * z k) = sm N (fun k => sm cnt fun j => if lab j = k then val j * z k else 0) := sm_congr fun k _ => by
    show sm cnt _ * z k = _
    rw [← sm_mulr]
    refine sm_congr fun j _ => ?_
    by_cases q : lab j = k
    · rw [if_pos q, if_pos q]
    · rw [if_neg q, if_neg q]; grind
  rw [e, sm_swap]
  exact sm_congr fun j hj => sm_pick (g := fun k => val j * z k) (h j hj)
theorem spd_at {cnt : Nat} {lab : Nat → Nat} {val : Nat → Rat} (inj : ∀ i j, i < cnt → j < cnt → lab i = lab j → i = j) {j : Nat} (hj : j < cnt) : spd cnt lab val (lab j) = val j := by
  show sm cnt _ = _
  rw [sm_one (k := j) hj fun i hi q => if_neg fun e => q (inj i j hi hj e), if_pos rfl]
theorem spd_off {cnt : Nat} {lab : Nat → Nat} {val : Nat → Rat} {k : Nat} (h : ∀ j, j < cnt → lab j ≠ k) : spd cnt lab val k = 0 := sm_zero fun j hj => if_neg (h j hj)
theorem spd_pos {cnt : Nat} {lab : Nat → Nat} {val : Nat → Rat} {k : Nat} (h : ∀ j, j < cnt → 0 ≤ val j) : 0 ≤ spd cnt lab val k := sm_nonneg fun j hj => by
  by_cases q : lab j = k
  · rw [if_pos q]; exact h j hj
  · rw [if_neg q]; grind
section
variable {m n : Nat} {A0 : Nat → Nat → Rat} {b0 c0 : Nat → Rat} {T : Tab}
/-- all numbers, by those of the columns -/
def zx (n : Nat) (A0 : Nat → Nat → Rat) (b0 x : Nat → Rat) (k : Nat) : Rat := if k < n then x k else b0 (k - n) - sm n (fun j => A0 (k - n) j * x j)
theorem zx_lo {x : Nat → Rat} {k : Nat} (h : k < n) : zx n A0 b0 x k = x k := if_pos h
theorem zx_hi {x : Nat → Rat} (i : Nat) : zx n A0 b0 x (n + i) = b0 i - sm n (fun j => A0 i j * x j) := by
  show (if n + i < n then _ else _) = _
  rw [if_neg (by omega), show n + i - n = i by omega]
theorem zx_sol (x : Nat → Rat) : Sol m n (Tab.start n A0 b0 c0) (zx n A0 b0 x) := fun i hi => by
  show zx n A0 b0 x (n + i) + sm n (fun j => A0 i j * zx n A0 b0 x j) = b0 i
  rw [zx_hi, sm_congr (f := fun j => A0 i j * zx n A0 b0 x j) (g := fun j => A0 i j * x j) fun j hj => by rw [zx_lo hj]]
  grind
theorem sol_hi {z : Nat → Rat} (h : Sol m n (Tab.start n A0 b0 c0) z) {i : Nat} (hi : i < m) : z (n + i) + sm n (fun j => A0 i j * z j) = b0 i := h i hi
theorem dual_of {g q : Nat → Rat} {h : Rat} (k : ∀ z, Sol m n (Tab.start n A0 b0 c0) z → sm (n + m) (fun k => g k * z k) = h + sm n (fun j => q j * z j)) :
    sm m (fun i => g (n + i) * b0 i) = h ∧ ∀ j, j < n → sm m (fun i => g (n + i) * A0 i j) = g j - q j := by
  have all : ∀ x : Nat → Rat, sm n (fun j => g j * x j) + sm m (fun i => g (n + i) * (b0 i - sm n (fun j => A0 i j * x j))) = h + sm n (fun j => q j * x j) := fun x => by
    have e := k _ (zx_sol (c0 := c0) x)
    rw [sm_app] at e
    rw [sm_congr (g := fun j => g j * x j) fun j hj => by rw [zx_lo hj], sm_congr (f := fun i => g (n + i) * zx n A0 b0 x (n + i)) (g := fun i => g (n + i) * (b0 i - sm n (fun j => A0 i j * x j))) fun i _ => by rw [zx_hi],
      sm_congr (f := fun j => q j * zx n A0 b0 x j) (g := fun j => q j * x j) fun j hj => by rw [zx_lo hj]] at e
    exact e
  have h1 : sm m (fun i => g (n + i) * b0 i) = h := by
    have e := all fun _ => 0
    rw [sm_zero (f := fun j => g j * 0) fun j _ => by grind, sm_zero (f := fun j => q j * 0) fun j _ => by grind,
      sm_congr (f := fun i => g (n + i) * (b0 i - sm n (fun j => A0 i j * 0))) (g := fun i => g (n + i) * b0 i) fun i _ => by rw [sm_zero (f := fun j => A0 i j * 0) fun j _ => by grind]; grind] at e
    grind
  refine ⟨h1, fun j hj => ?_⟩
  have e := all fun l => if j = l then 1 else 0
  have pk : ∀ f : Nat → Rat, sm n (fun l => f l * (if j = l then 1 else 0)) = f j := fun f => by
    rw [sm_congr (g := fun l => if j = l then f l else 0) fun l _ => by split <;> grind]
    exact sm_pick hj
  rw [pk, pk, sm_congr (f := fun i => g (n + i) * (b0 i - sm n (fun l => A0 i l * (if j = l then 1 else 0)))) (g := fun i => g (n + i) * b0 i - g (n + i) * A0 i j) fun i _ => by rw [pk]; grind, sm_sub, h1] at e
  grind
/-- the three words, as papers -/
structure Feas (m n : Nat) (A0 : Nat → Nat → Rat) (b0 x : Nat → Rat) : Prop where
  pos : ∀ j, j < n → 0 ≤ x j
  keeps : ∀ i, i < m → sm n (fun j => A0 i j * x j) ≤ b0 i
structure Dual (m n : Nat) (A0 : Nat → Nat → Rat) (c0 y : Nat → Rat) : Prop where
  pos : ∀ i, i < m → 0 ≤ y i
  keeps : ∀ j, j < n → c0 j ≤ sm m (fun i => A0 i j * y i)
structure IsBest (m n : Nat) (A0 : Nat → Nat → Rat) (b0 c0 : Nat → Rat) (v : Rat) (x y : Nat → Rat) : Prop where
  fx : Feas m n A0 b0 x
  fy : Dual m n A0 c0 y
  vx : sm n (fun j => c0 j * x j) = v
  vy : sm m (fun i => b0 i * y i) = v
structure IsOpen (m n : Nat) (A0 : Nat → Nat → Rat) (b0 c0 : Nat → Rat) (x w : Nat → Rat) : Prop where
  fx : Feas m n A0 b0 x
  fw : Feas m n A0 (fun _ => 0) w
  up : 0 < sm n (fun j => c0 j * w j)
structure IsNone (m n : Nat) (A0 : Nat → Nat → Rat) (b0 y : Nat → Rat) : Prop where
  fy : Dual m n A0 (fun _ => 0) y
  dn : sm m (fun i => b0 i * y i) < 0
theorem feas_of (L : Lab m n T) (E : Eqv m n T (Tab.start n A0 b0 c0)) (hb : ∀ i, i < m → 0 ≤ T.b i) : Feas m n A0 b0 (spd m T.B T.b) := by
  have s0 : Sol m n (Tab.start n A0 b0 c0) (spd m T.B T.b) := (E.sol _).mp (bs_sol L)
  refine ⟨fun j _ => spd_pos hb, fun i hi => ?_⟩
  have e := sol_hi s0 hi
  have p : 0 ≤ spd m T.B T.b (n + i) := spd_pos hb
  grind
theorem obj0 (z : Nat → Rat) : (Tab.start n A0 b0 c0).obj n z = sm n (fun j => c0 j * z j) := by
  show (0 : Rat) + sm n (fun j => c0 j * z j) = _
  grind
theorem best_of (L : Lab m n T) (E : Eqv m n T (Tab.start n A0 b0 c0)) (hb : ∀ i, i < m → 0 ≤ T.b i) (hc : ∀ j, j < n → T.c j ≤ 0) :
    IsBest m n A0 b0 c0 T.v (spd m T.B T.b) (fun i => spd n T.F (fun j => 0 - T.c j) (n + i)) := by
  have s1 : Sol m n T (spd m T.B T.b) := bs_sol L
  have neg : ∀ j, j < n → 0 ≤ 0 - T.c j := fun j hj => by have := hc j hj; grind
  obtain ⟨d1, d2⟩ := dual_of (g := spd n T.F (fun j => 0 - T.c j)) (q := fun j => - c0 j) (h := T.v) (m := m) (n := n) (A0 := A0) (b0 := b0) (c0 := c0) fun z hz => by
    have hz' := (E.sol z).mpr hz
    have o := E.obj z hz'
    rw [obj0] at o
    have o : T.v + sm n (fun j => T.c j * z (T.F j)) = sm n (fun j => c0 j * z j) := o
    rw [spd_sum L.fl, sm_congr (f := fun j => (0 - T.c j) * z (T.F j)) (g := fun j => - (T.c j * z (T.F j))) fun j _ => by grind, sm_neg, sm_congr (f := fun j => - c0 j * z j) (g := fun j => - (c0 j * z j)) fun j _ => by grind, sm_neg]
    grind
  refine ⟨feas_of L E hb, ⟨fun i _ => spd_pos neg, fun j hj => ?_⟩, ?_, ?_⟩
  · have e := d2 j hj
    have p : 0 ≤ spd n T.F (fun j => 0 - T.c j) j := spd_pos neg
    rw [sm_congr (g := fun i => spd n T.F (fun j => 0 - T.c j) (n + i) * A0 i j) fun i _ => Rat.mul_comm _ _, e]
    grind
  · have o := E.obj _ s1
    rw [obj0] at o
    have o : T.v + sm n (fun j => T.c j * spd m T.B T.b (T.F j)) = _ := o
    rw [sm_zero (f := fun j => T.c j * spd m T.B T.b (T.F j)) fun j hj => by rw [show spd m T.B T.b (T.F j) = 0 from bs_F L hj]; grind] at o
    grind
  · rw [← d1]
    exact sm_congr fun i _ => Rat.mul_comm _ _
theorem none_of (L : Lab m n T) (E : Eqv m n T (Tab.start n A0 b0 c0)) {r : Nat} (hr : r < m) (hb : T.b r < 0) (hA : ∀ j, j < n → 0 ≤ T.A r j) :
    IsNone m n A0 b0 (fun i => spd n T.F (T.A r) (n + i) + if T.B r = n + i then 1 else 0) := by
  have one : ∀ k : Nat, (0 : Rat) ≤ if T.B r = k then 1 else 0 := fun k => by split <;> grind
  obtain ⟨d1, d2⟩ := dual_of (g := fun k => spd n T.F (T.A r) k + if T.B r = k then 1 else 0) (q := fun _ => 0) (h := T.b r) (m := m) (n := n) (A0 := A0) (b0 := b0) (c0 := c0) fun z hz => by
    have hz' := (E.sol z).mpr hz r hr
    rw [sm_congr (g := fun k => spd n T.F (T.A r) k * z k + (if T.B r = k then z k else 0)) fun k _ => by split <;> grind, sm_add, spd_sum L.fl, sm_pick (g := z) (L.bl r hr), sm_zero (f := fun j => 0 * z j) fun j _ => by grind]
    grind
  refine ⟨⟨fun i _ => ?_, fun j hj => ?_⟩, ?_⟩
  · have p : 0 ≤ spd n T.F (T.A r) (n + i) := spd_pos hA
    have q := one (n + i)
    grind
  · have e := d2 j hj
    have p : 0 ≤ spd n T.F (T.A r) j := spd_pos hA
    have q := one j
    rw [sm_congr (g := fun i => (spd n T.F (T.A r) (n + i) + if T.B r = n + i then 1 else 0) * A0 i j) fun i _ => Rat.mul_comm _ _, e]
    grind
  · rw [sm_congr (g := fun i => (spd n T.F (T.A r) (n + i) + if T.B r = n + i then 1 else 0) * b0 i) fun i _ => Rat.mul_comm _ _, d1]
    exact hb
/-- the way of a column -/
def wayZ (m : Nat) (T : Tab) (c k : Nat) : Rat := spd m T.B (fun i => 0 - T.A i c) k + if T.F c = k then 1 else 0
theorem way_B (L : Lab m n T) {c i : Nat} (hc : c < n) (hi : i < m) : wayZ m T c (T.B i) = 0 - T.A i c := by
  show spd m T.B _ (T.B i) + (if T.F c = T.B i then 1 else 0) = _
  rw [spd_at L.bi hi, if_neg fun e => L.ne i c hi hc e.symm]; grind
theorem way_F (L : Lab m n T) {c j : Nat} (hc : c < n) (hj : j < n) : wayZ m T c (T.F j) = if j = c then 1 else 0 := by
  show spd m T.B _ (T.F j) + (if T.F c = T.F j then 1 else 0) = _
  rw [spd_off fun i hi => L.ne i j hi hj]
  by_cases q : j = c
  · rw [if_pos q, if_pos (by rw [q])]; grind
  · rw [if_neg q, if_neg fun e => q (L.fi c j hc hj e).symm]; grind
theorem way_sum (L : Lab m n T) {c : Nat} (hc : c < n) (e : Nat → Rat) : sm n (fun j => e j * wayZ m T c (T.F j)) = e c := by
  rw [sm_congr (g := fun j => if c = j then e j else 0) fun j hj => by
    rw [way_F L hc hj]
    by_cases q : j = c
    · rw [if_pos q, if_pos q.symm]; grind
    · rw [if_neg q, if_neg fun z => q z.symm]; grind]
  exact sm_pick hc
theorem way_sol (L : Lab m n T) {c : Nat} (hc : c < n) : Sol m n T (fun k => T.bs m k + wayZ m T c k) := fun i hi => by
  show T.bs m (T.B i) + wayZ m T c (T.B i) + sm n (fun j => T.A i j * (T.bs m (T.F j) + wayZ m T c (T.F j))) = T.b i
  rw [bs_B L hi, way_B L hc hi, sm_congr (g := fun j => T.A i j * wayZ m T c (T.F j)) fun j hj => by rw [bs_F L hj]; grind, way_sum L hc]
  grind
theorem way_obj (L : Lab m n T) {c : Nat} (hc : c < n) : T.obj n (fun k => T.bs m k + wayZ m T c k) = T.obj n (T.bs m) + T.c c := by
  show T.v + sm n (fun j => T.c j * (T.bs m (T.F j) + wayZ m T c (T.F j))) = T.v + sm n (fun j => T.c j * T.bs m (T.F j)) + T.c c
  rw [sm_congr (f := fun j => T.c j * (T.bs m (T.F j) + wayZ m T c (T.F j))) (g := fun j => T.c j * T.bs m (T.F j) + T.c j * wayZ m T c (T.F j)) fun j _ => by grind, sm_add, way_sum L hc]
  grind
theorem open_of (L : Lab m n T) (E : Eqv m n T (Tab.start n A0 b0 c0)) (hb : ∀ i, i < m → 0 ≤ T.b i) {c : Nat} (hc : c < n) (hg : 0 < T.c c) (hA : ∀ i, i < m → T.A i c ≤ 0) :
    IsOpen m n A0 b0 c0 (spd m T.B T.b) (wayZ m T c) := by
  have neg : ∀ i, i < m → 0 ≤ 0 - T.A i c := fun i hi => by have := hA i hi; grind
  have pos : ∀ k, 0 ≤ wayZ m T c k := fun k => by
    have p : 0 ≤ spd m T.B (fun i => 0 - T.A i c) k := spd_pos neg
    show 0 ≤ spd m T.B _ k + (if T.F c = k then 1 else 0)
    split <;> grind
  have s0 : Sol m n (Tab.start n A0 b0 c0) (spd m T.B T.b) := (E.sol _).mp (bs_sol L)
  have s1 := (E.sol _).mp (way_sol L hc)
  refine ⟨feas_of L E hb, ⟨fun j _ => pos j, fun i hi => ?_⟩, ?_⟩
  · have e0 := sol_hi s0 hi
    have e1 := sol_hi s1 hi
    have e1 : spd m T.B T.b (n + i) + wayZ m T c (n + i) + sm n (fun j => A0 i j * (spd m T.B T.b j + wayZ m T c j)) = b0 i := e1
    rw [sm_congr (f := fun j => A0 i j * (spd m T.B T.b j + wayZ m T c j)) (g := fun j => A0 i j * spd m T.B T.b j + A0 i j * wayZ m T c j) fun j _ => by grind, sm_add] at e1
    have p := pos (n + i)
    grind
  · have o0 := E.obj _ (bs_sol L)
    have o1 := E.obj _ (way_sol L hc)
    rw [way_obj L hc, o0, obj0, obj0] at o1
    rw [sm_congr (f := fun j => c0 j * (T.bs m j + wayZ m T c j)) (g := fun j => c0 j * T.bs m j + c0 j * wayZ m T c j) fun j _ => by grind, sm_add] at o1
    grind
/-! ### the two tasks -/
/-- the worth of what is within is at most what the prices make of the bounds -/
theorem weak {x y : Nat → Rat} (hx : Feas m n A0 b0 x) (hy : Dual m n A0 c0 y) : sm n (fun j => c0 j * x j) ≤ sm m (fun i => b0 i * y i) := by
  have h1 : sm n (fun j => c0 j * x j) ≤ sm n (fun j => sm m fun i => A0 i j * y i * x j) := sm_le fun j hj => by
    rw [sm_mulr]
    have a := hx.pos j hj
    have b := hy.keeps j hj
    exact Rat.mul_le_mul_of_nonneg_right b a
  have h2 : sm n (fun j => sm m fun i => A0 i j * y i * x j) ≤ sm m (fun i => b0 i * y i) := by
    rw [sm_swap]
    refine sm_le fun i hi => ?_
    rw [sm_congr (g := fun j => A0 i j * x j * y i) fun j _ => by grind, sm_mulr]
    exact Rat.mul_le_mul_of_nonneg_right (hx.keeps i hi) (hy.pos i hi)
  exact Rat.le_trans h1 h2
end
end K31
namespace K31
/-! Bland: the least numbers never come back to the same basic places -/
/-- the number x is basic -/
def Bas (m : Nat) (T : Tab) (x : Nat) : Prop := ∃ i, i < m ∧ T.B i = x
theorem Bas.not_free {m n : Nat} {T : Tab} (L : Lab m n T) {x j : Nat} (hj : j < n) (e : T.F j = x) : ¬ Bas m T x := fun ⟨i, hi, e2⟩ => L.ne i j hi hj (e2.trans e.symm)
theorem free_of {m n : Nat} {T : Tab} (L : Lab m n T) {x : Nat} (hx : x < n + m) (h : ¬ Bas m T x) : ∃ j, j < n ∧ T.F j = x := by
  rcases L.al x hx with h1 | h1
  · exact absurd h1 h
  · exact h1
/-- a turn of one of the two rules, at a place -/
structure SetR (m n : Nat) (T : Tab) (r c : Nat) : Prop where
  hr : r < m
  hc : c < n
  b : T.b r < 0
  a : T.A r c < 0
  lb : ∀ i, i < m → T.b i < 0 → T.B r ≤ T.B i
  lf : ∀ j, j < n → T.A r j < 0 → T.F c ≤ T.F j
structure CliR (m n : Nat) (T : Tab) (r c : Nat) : Prop where
  hr : r < m
  hc : c < n
  g : 0 < T.c c
  a : 0 < T.A r c
  lf : ∀ j, j < n → 0 < T.c j → T.F c ≤ T.F j
  lr : ∀ i, i < m → 0 < T.A i c → T.b r / T.A r c < T.b i / T.A i c ∨ (T.b r / T.A r c = T.b i / T.A i c ∧ T.B r ≤ T.B i)
/-- a walk of turns -/
structure Wlk (m n : Nat) (f : Nat → Tab) (r c : Nat → Nat) (p q : Nat) : Prop where
  lab : ∀ k, p ≤ k → k ≤ q → Lab m n (f k)
  eqv : ∀ k, p ≤ k → k ≤ q → Eqv m n (f k) (f p)
  step : ∀ k, p ≤ k → k < q → r k < m ∧ c k < n ∧ (f k).A (r k) (c k) ≠ 0 ∧ f (k + 1) = (f k).turn (r k) (c k)
section
variable {m n p q : Nat} {f : Nat → Tab} {r c : Nat → Nat}
theorem bas_turn {T : Tab} {r c : Nat} (hr : r < m) {x : Nat} : Bas m (T.turn r c) x ↔ x = T.F c ∨ ∃ i, i < m ∧ i ≠ r ∧ T.B i = x := by
  constructor
  · rintro ⟨i, hi, e⟩
    have e : (if i = r then T.F c else T.B i) = x := e
    by_cases q : i = r
    · rw [if_pos q] at e; exact .inl e.symm
    · rw [if_neg q] at e; exact .inr ⟨i, hi, q, e⟩
  · rintro (e | ⟨i, hi, q, e⟩)
    · exact ⟨r, hr, by show (if r = r then T.F c else T.B r) = x; rw [if_pos rfl, e]⟩
    · exact ⟨i, hi, by show (if i = r then T.F c else T.B i) = x; rw [if_neg q, e]⟩
/-- who isn't turned out stays in -/
theorem stay_in (W : Wlk m n f r c p q) {x a b : Nat} (ha : p ≤ a) (hab : a ≤ b) (hb : b ≤ q) (no : ∀ k, a ≤ k → k < b → (f k).B (r k) ≠ x) (h : Bas m (f a) x) : Bas m (f b) x := by
  obtain ⟨d, rfl⟩ : ∃ d, b = a + d := ⟨b - a, by omega⟩
  induction d with
  | zero => exact h
  | succ d ih =>
    have h1 := ih (by omega) (by omega) fun k h1 h2 => no k h1 (by omega)
    obtain ⟨hr, _, _, e⟩ := W.step (a + d) (by omega) (by omega)
    show Bas m (f (a + d + 1)) x
    rw [e, bas_turn hr]
    obtain ⟨i, hi, e2⟩ := h1
    refine .inr ⟨i, hi, fun z => ?_, e2⟩
    rw [z] at e2
    exact no (a + d) (by omega) (by omega) e2
theorem stay_out (W : Wlk m n f r c p q) {x a b : Nat} (ha : p ≤ a) (hab : a ≤ b) (hb : b ≤ q) (no : ∀ k, a ≤ k → k < b → (f k).F (c k) ≠ x) (h : ¬ Bas m (f a) x) : ¬ Bas m (f b) x := by
  obtain ⟨d, rfl⟩ : ∃ d, b = a + d := ⟨b - a, by omega⟩
  induction d with
  | zero => exact h
  | succ d ih =>
    have h1 := ih (by omega) (by omega) fun k h1 h2 => no k h1 (by omega)
    obtain ⟨hr, _, _, e⟩ := W.step (a + d) (by omega) (by omega)
    show ¬ Bas m (f (a + d + 1)) x
    rw [e, bas_turn hr]
    rintro (e2 | ⟨i, hi, _, e2⟩)
    · exact no (a + d) (by omega) (by omega) e2.symm
    · exact h1 ⟨i, hi, e2⟩
theorem comes_in (W : Wlk m n f r c p q) (same : ∀ x, Bas m (f p) x ↔ Bas m (f q) x) {x a b : Nat} (ha : p ≤ a) (haq : a ≤ q) (hb : p ≤ b) (hbq : b ≤ q) (h1 : Bas m (f a) x) (h2 : ¬ Bas m (f b) x) : ∃ k, p ≤ k ∧ k < q ∧ (f k).F (c k) = x := by
  refine Classical.byContradiction fun hn => ?_
  have no : ∀ k, p ≤ k → k < q → (f k).F (c k) ≠ x := fun k h3 h4 e => hn ⟨k, h3, h4, e⟩
  by_cases hab : b ≤ a
  · exact stay_out W hb hab haq (fun k h3 h4 => no k (by omega) (by omega)) h2 h1
  · have h3 := stay_out W hb hbq (Nat.le_refl q) (fun k h3 h4 => no k (by omega) (by omega)) h2
    have h4 : ¬ Bas m (f p) x := fun z => h3 ((same x).mp z)
    exact stay_out W (Nat.le_refl p) ha haq (fun k h5 h6 => no k h5 (by omega)) h4 h1
theorem goes_out (W : Wlk m n f r c p q) (same : ∀ x, Bas m (f p) x ↔ Bas m (f q) x) {x a b : Nat} (ha : p ≤ a) (haq : a ≤ q) (hb : p ≤ b) (hbq : b ≤ q) (h1 : Bas m (f a) x) (h2 : ¬ Bas m (f b) x) : ∃ k, p ≤ k ∧ k < q ∧ (f k).B (r k) = x := by
  refine Classical.byContradiction fun hn => ?_
  have no : ∀ k, p ≤ k → k < q → (f k).B (r k) ≠ x := fun k h3 h4 e => hn ⟨k, h3, h4, e⟩
  by_cases hab : a ≤ b
  · exact h2 (stay_in W ha hab hbq (fun k h3 h4 => no k (by omega) (by omega)) h1)
  · have h3 := stay_in W ha haq (Nat.le_refl q) (fun k h3 h4 => no k (by omega) (by omega)) h1
    have h4 : Bas m (f p) x := (same x).mpr h3
    exact h2 (stay_in W (Nat.le_refl p) hb hbq (fun k h5 h6 => no k h5 (by omega)) h4)
theorem has_max (g : Nat → Nat) {p q : Nat} (h : p < q) : ∃ k, p ≤ k ∧ k < q ∧ ∀ j, p ≤ j → j < q → g j ≤ g k := by
  obtain ⟨d, rfl⟩ : ∃ d, q = p + d + 1 := ⟨q - p - 1, by omega⟩
  clear h
  induction d with
  | zero => exact ⟨p, Nat.le_refl _, by omega, fun j h1 h2 => by rw [show j = p by omega]; exact Nat.le_refl _⟩
  | succ d ih =>
    obtain ⟨k, h1, h2, h3⟩ := ih
    by_cases h : g k ≤ g (p + d + 1)
    · refine ⟨p + d + 1, by omega, by omega, fun j h4 h5 => ?_⟩
      by_cases e : j = p + d + 1
      · rw [e]; exact Nat.le_refl _
      · exact Nat.le_trans (h3 j h4 (by omega)) h
    · refine ⟨k, h1, by omega, fun j h4 h5 => ?_⟩
      by_cases e : j = p + d + 1
      · rw [e]; omega
      · exact h3 j h4 (by omega)
theorem F_in {k : Nat} (W : Wlk m n f r c p q) (h1 : p ≤ k) (h2 : k < q) : Bas m (f (k + 1)) ((f k).F (c k)) ∧ ¬ Bas m (f k) ((f k).F (c k)) := by
  obtain ⟨hr, hc, _, e⟩ := W.step k h1 h2
  refine ⟨?_, Bas.not_free (W.lab k h1 (by omega)) hc rfl⟩
  rw [e, bas_turn hr]
  exact .inl rfl
theorem B_out {k : Nat} (W : Wlk m n f r c p q) (h1 : p ≤ k) (h2 : k < q) : Bas m (f k) ((f k).B (r k)) ∧ ¬ Bas m (f (k + 1)) ((f k).B (r k)) := by
  obtain ⟨hr, hc, _, e⟩ := W.step k h1 h2
  refine ⟨⟨_, hr, rfl⟩, ?_⟩
  rw [e, bas_turn hr]
  have L := W.lab k h1 (by omega)
  rintro (e2 | ⟨i, hi, hn, e2⟩)
  · exact L.ne _ _ hr hc e2
  · exact hn (L.bi i _ hi hr e2)
/-- the greatest number that comes in: where it comes in, where it goes out; whatever is basic at one turn and free at another is no greater -/
theorem fickle (W : Wlk m n f r c p q) (h : p < q) (same : ∀ x, Bas m (f p) x ↔ Bas m (f q) x) : ∃ k l, p ≤ k ∧ k < q ∧ p ≤ l ∧ l < q ∧ (f l).B (r l) = (f k).F (c k) ∧
    ∀ x a b, p ≤ a → a ≤ q → p ≤ b → b ≤ q → Bas m (f a) x → ¬ Bas m (f b) x → x ≤ (f k).F (c k) := by
  obtain ⟨k, h1, h2, h3⟩ := has_max (fun k => (f k).F (c k)) h
  obtain ⟨i1, i2⟩ := F_in W h1 h2
  obtain ⟨l, l1, l2, l3⟩ := goes_out W same (a := k + 1) (b := k) (by omega) (by omega) h1 (by omega) i1 i2
  refine ⟨k, l, h1, h2, l1, l2, l3, fun x a b a1 a2 b1 b2 x1 x2 => ?_⟩
  obtain ⟨j, j1, j2, j3⟩ := comes_in W same a1 a2 b1 b2 x1 x2
  rw [← j3]
  exact h3 j j1 j2
theorem eqv_two (W : Wlk m n f r c p q) {a b : Nat} (ha : p ≤ a) (haq : a ≤ q) (hb : p ≤ b) (hbq : b ≤ q) : Eqv m n (f a) (f b) := (W.eqv a ha haq).trans (W.eqv b hb hbq).symm
theorem bs_free (L : Lab m n T) {x : Nat} (h : ¬ Bas m T x) : T.bs m x = 0 := sm_zero fun i hi => if_neg fun e => h ⟨i, hi, e⟩
theorem mul_nn {a b : Rat} (ha : 0 ≤ a) (hb : 0 ≤ b) : 0 ≤ a * b := Rat.mul_nonneg ha hb
theorem no_settle (W : Wlk m n f r c p q) (h : p < q) (same : ∀ x, Bas m (f p) x ↔ Bas m (f q) x) (R : ∀ k, p ≤ k → k < q → SetR m n (f k) (r k) (c k)) : False := by
  obtain ⟨k, l, k1, k2, l1, l2, t, mx⟩ := fickle W h same
  have Lk := W.lab k k1 (by omega)
  have Ll := W.lab l l1 (by omega)
  have Rk := R k k1 k2
  have Rl := R l l1 l2
  have row := (eqv_two W l1 (by omega) k1 (by omega)).sol _ |>.mp (bs_sol Ll) _ Rk.hr
  -- what is in at l and no greater than the greatest is not below nought there, but the greatest one itself
  have pos : ∀ x, x < (f k).F (c k) → 0 ≤ (f l).bs m x := fun x hx => by
    by_cases hb : Bas m (f l) x
    · obtain ⟨i, hi, e⟩ := hb
      rw [← e, bs_B Ll hi]
      refine Classical.byContradiction fun hn => ?_
      have := Rl.lb i hi (by grind)
      omega
    · rw [bs_free Ll hb]; grind
  have s1 : 0 ≤ (f l).bs m ((f k).B (r k)) := by
    obtain ⟨o1, o2⟩ := B_out W k1 k2
    have le := mx _ k (k + 1) k1 (by omega) (by omega) (by omega) o1 o2
    exact pos _ (Nat.lt_of_le_of_ne le (Lk.ne _ _ Rk.hr Rk.hc))
  have s2 : 0 ≤ sm n (fun j => (f k).A (r k) j * (f l).bs m ((f k).F j)) := sm_nonneg fun j hj => by
    by_cases hb : Bas m (f l) ((f k).F j)
    · have le := mx _ l k l1 (by omega) k1 (by omega) hb (Bas.not_free Lk hj rfl)
      by_cases e : (f k).F j = (f k).F (c k)
      · have ej := Lk.fi j _ hj Rk.hc e
        rw [ej, ← t, bs_B Ll Rl.hr]
        have a1 := Rk.a
        have a2 := Rl.b
        have := mul_nn (a := -(f k).A (r k) (c k)) (b := -(f l).b (r l)) (by grind) (by grind)
        grind
      · have lt : (f k).F j < (f k).F (c k) := by omega
        refine mul_nn ?_ (pos _ lt)
        refine Classical.byContradiction fun hn => ?_
        have := Rk.lf j hj (by grind)
        omega
    · rw [bs_free Ll hb]; grind
  have := Rk.b
  grind
/-- the aim at the numbers of a tableau -/
theorem obj_bs (L : Lab m n T) : T.obj n (T.bs m) = T.v := by
  show T.v + sm n (fun j => T.c j * T.bs m (T.F j)) = T.v
  rw [sm_zero fun j hj => by rw [bs_F L hj]; grind]
  grind
/-- a solution that is 0 at the free places is the tableau's own -/
theorem bs_only (L : Lab m n T) {z : Nat → Rat} (hz : Sol m n T z) (h0 : ∀ j, j < n → z (T.F j) = 0) {i : Nat} (hi : i < m) : z (T.B i) = T.b i := by
  have e := hz i hi
  rw [sm_zero fun j hj => by rw [h0 j hj]; grind] at e
  grind
theorem bs_same {T U : Tab} (L : Lab m n T) (M : Lab m n U) (E : Eqv m n T U) (same : ∀ x, Bas m T x ↔ Bas m U x) {x : Nat} (hx : x < n + m) : T.bs m x = U.bs m x := by
  by_cases h : Bas m U x
  · obtain ⟨i, hi, e⟩ := h
    have e2 := bs_only M ((E.sol _).mp (bs_sol L)) (fun j hj => bs_free L fun z => Bas.not_free M hj rfl ((same _).mp z)) hi
    rw [← e, bs_B M hi, e2]
  · rw [bs_free M h, bs_free L fun z => h ((same x).mp z)]
theorem v_same {T U : Tab} (L : Lab m n T) (M : Lab m n U) (E : Eqv m n T U) (same : ∀ x, Bas m T x ↔ Bas m U x) : T.v = U.v := by
  have e := E.obj _ (bs_sol L)
  rw [obj_bs L] at e
  rw [e]
  show U.v + sm n (fun j => U.c j * T.bs m (U.F j)) = U.v
  rw [sm_zero fun j hj => by rw [bs_free L fun z => Bas.not_free M hj rfl ((same _).mp z)]; grind]
  grind
theorem inv_nn {b : Rat} (hb : 0 < b) : 0 ≤ 1 / b := by
  refine Classical.byContradiction fun hn => ?_
  have h1 := mul_nn (a := b) (b := -(1 / b)) (by grind) (by grind)
  have h2 := inv_mul (p := b) (by grind)
  grind
theorem div_nn {a b : Rat} (ha : 0 ≤ a) (hb : 0 < b) : 0 ≤ a * (1 / b) := mul_nn ha (inv_nn hb)
theorem div_def' (a b : Rat) : a / b = a * (1 / b) := by grind
/-- what a climb keeps -/
theorem cli_b {T : Tab} {r c : Nat} (R : CliR m n T r c) (hb : ∀ i, i < m → 0 ≤ T.b i) : ∀ i, i < m → 0 ≤ (T.turn r c).b i := fun i hi => by
  show 0 ≤ (if i = r then T.rowB r c else T.b i - T.A i c * T.rowB r c)
  have h0 : 0 ≤ T.rowB r c := div_nn (hb r R.hr) R.a
  by_cases q : i = r
  · rw [if_pos q]; exact h0
  · rw [if_neg q]
    by_cases ha : 0 < T.A i c
    · have h1 : T.rowB r c ≤ T.b i * (1 / T.A i c) := by
        show T.b r * (1 / T.A r c) ≤ _
        rw [← div_def', ← div_def']
        rcases R.lr i hi ha with z | z
        · grind
        · grind
      have h2 := mul_nn (a := T.A i c) (b := T.b i * (1 / T.A i c) - T.rowB r c) (by grind) (by grind)
      have h3 := inv_mul (p := T.A i c) (by grind)
      have h4 : T.A i c * (T.b i * (1 / T.A i c)) = T.b i := by grind
      grind
    · have h1 := hb i hi
      have h2 := mul_nn (a := - T.A i c) (b := T.rowB r c) (by grind) h0
      grind
theorem no_climb (W : Wlk m n f r c p q) (h : p < q) (same : ∀ x, Bas m (f p) x ↔ Bas m (f q) x) (R : ∀ k, p ≤ k → k < q → CliR m n (f k) (r k) (c k)) (hb : ∀ i, i < m → 0 ≤ (f p).b i) : False := by
  -- what is had stays from nought on
  have nn : ∀ d, p + d ≤ q → ∀ i, i < m → 0 ≤ (f (p + d)).b i := fun d => by
    induction d with
    | zero => intro _; exact hb
    | succ d ih =>
      intro hd
      obtain ⟨_, _, _, e⟩ := W.step (p + d) (by omega) (by omega)
      show ∀ i, i < m → 0 ≤ (f (p + d + 1)).b i
      rw [e]
      exact cli_b (R _ (by omega) (by omega)) (ih (by omega))
  have nn' : ∀ k, p ≤ k → k ≤ q → ∀ i, i < m → 0 ≤ (f k).b i := fun k h1 h2 => by
    have := nn (k - p) (by omega)
    rw [show p + (k - p) = k by omega] at this
    exact this
  have vstep : ∀ k, p ≤ k → k < q → (f (k + 1)).v = (f k).v + (f k).c (c k) * (f k).rowB (r k) (c k) := fun k h1 h2 => by
    obtain ⟨_, _, _, e⟩ := W.step k h1 h2
    rw [e]; rfl
  have gain : ∀ k, p ≤ k → k < q → 0 ≤ (f k).c (c k) * (f k).rowB (r k) (c k) := fun k h1 h2 => by
    have Rk := R k h1 h2
    have g := Rk.g
    exact mul_nn (by grind) (div_nn (nn' k h1 (by omega) _ Rk.hr) Rk.a)
  have up : ∀ d a, p ≤ a → a + d ≤ q → (f a).v ≤ (f (a + d)).v := fun d => by
    induction d with
    | zero => intro a _ _; exact Rat.le_refl
    | succ d ih =>
      intro a h1 h2
      have e1 := ih a h1 (by omega)
      have e2 := vstep (a + d) (by omega) (by omega)
      have e3 := gain (a + d) (by omega) (by omega)
      show (f a).v ≤ (f (a + d + 1)).v
      grind
  have vq : (f p).v = (f q).v := v_same (W.lab p (Nat.le_refl _) (by omega)) (W.lab q (by omega) (Nat.le_refl _)) (eqv_two W (Nat.le_refl _) (by omega) (by omega) (Nat.le_refl _)) same
  -- so nothing is gained
  have b0 : ∀ k, p ≤ k → k < q → (f k).b (r k) = 0 := fun k h1 h2 => by
    have Rk := R k h1 h2
    have e1 := up (k - p) p (Nat.le_refl _) (by omega)
    rw [show p + (k - p) = k by omega] at e1
    have e2 := up (q - (k + 1)) (k + 1) (by omega) (by omega)
    rw [show k + 1 + (q - (k + 1)) = q by omega] at e2
    have e3 := vstep k h1 h2
    have e4 := gain k h1 h2
    have e5 : (f k).c (c k) * (f k).rowB (r k) (c k) = 0 := by grind
    have e6 : (f k).rowB (r k) (c k) = 0 := by
      rcases Rat.mul_eq_zero.mp e5 with z | z
      · have := Rk.g; grind
      · exact z
    have e7 : (f k).b (r k) * (1 / (f k).A (r k) (c k)) = 0 := e6
    have e8 := inv_mul (p := (f k).A (r k) (c k)) (by have := Rk.a; grind)
    have e9 : (f k).b (r k) * (1 / (f k).A (r k) (c k)) * (f k).A (r k) (c k) = 0 := by rw [e7]; grind
    grind
  -- so the numbers stay
  have bstep : ∀ k, p ≤ k → k < q → ∀ x, x < n + m → (f (k + 1)).bs m x = (f k).bs m x := fun k h1 h2 x hx => by
    obtain ⟨hr, hc, _, e⟩ := W.step k h1 h2
    have L := W.lab k h1 (by omega)
    have M := W.lab (k + 1) (by omega) (by omega)
    have s : Sol m n (f (k + 1)) ((f k).bs m) := (eqv_two W h1 (by omega) (by omega) (by omega)).sol _ |>.mp (bs_sol L)
    have z : ∀ j, j < n → (f k).bs m ((f (k + 1)).F j) = 0 := fun j hj => by
      rw [e]
      show (f k).bs m (if j = c k then (f k).B (r k) else (f k).F j) = 0
      split
      · rw [bs_B L hr, b0 k h1 h2]
      · exact bs_F L hj
    by_cases hb : Bas m (f (k + 1)) x
    · obtain ⟨i, hi, e2⟩ := hb
      rw [← e2, bs_B M hi, bs_only M s z hi]
    · obtain ⟨j, hj, e2⟩ := free_of M hx hb
      rw [← e2, bs_F M hj, z j hj]
  have bsame : ∀ d, p + d ≤ q → ∀ x, x < n + m → (f (p + d)).bs m x = (f p).bs m x := fun d => by
    induction d with
    | zero => intro _ _ _; rfl
    | succ d ih => intro hd x hx; rw [show p + (d + 1) = p + d + 1 by omega, bstep _ (by omega) (by omega) x hx, ih (by omega) x hx]
  have bsame' : ∀ k, p ≤ k → k ≤ q → ∀ x, x < n + m → (f k).bs m x = (f p).bs m x := fun k h1 h2 x hx => by
    have := bsame (k - p) (by omega) x hx
    rwa [show p + (k - p) = k by omega] at this
  obtain ⟨k, l, k1, k2, l1, l2, t, mx⟩ := fickle W h same
  have Lk := W.lab k k1 (by omega)
  have Ll := W.lab l l1 (by omega)
  have Rk := R k k1 k2
  have Rl := R l l1 l2
  have E := eqv_two W l1 (Nat.le_of_lt l2) k1 (Nat.le_of_lt k2)
  have o0 := E.obj _ (bs_sol Ll)
  have o1 := E.obj _ (way_sol Ll Rl.hc)
  rw [way_obj Ll Rl.hc, o0] at o1
  have o1 : (f k).v + sm n (fun j => (f k).c j * (f l).bs m ((f k).F j)) + (f l).c (c l) = (f k).v + sm n (fun j => (f k).c j * ((f l).bs m ((f k).F j) + wayZ m (f l) (c l) ((f k).F j))) := o1
  rw [sm_congr (f := fun j => (f k).c j * ((f l).bs m ((f k).F j) + wayZ m (f l) (c l) ((f k).F j))) (g := fun j => (f k).c j * (f l).bs m ((f k).F j) + (f k).c j * wayZ m (f l) (c l) ((f k).F j)) fun j _ => by grind, sm_add] at o1
  have key : sm n (fun j => (f k).c j * wayZ m (f l) (c l) ((f k).F j)) ≤ 0 := by
    rw [← sm_zero (n := n) (f := fun _ => 0) fun _ _ => rfl]
    refine sm_le fun j hj => ?_
    have small : (f k).F j < (f k).F (c k) → (f k).c j ≤ 0 := fun lt => by
      refine Classical.byContradiction fun hn => ?_
      have := Rk.lf j hj (by grind)
      omega
    by_cases hb : Bas m (f l) ((f k).F j)
    · have le := mx _ l k l1 (by omega) k1 (by omega) hb (Bas.not_free Lk hj rfl)
      obtain ⟨i, hi, e⟩ := hb
      rw [← e, way_B Ll Rl.hc hi]
      by_cases ej : (f k).F j = (f k).F (c k)
      · have e2 := Lk.fi j _ hj Rk.hc ej
        have e3 := Ll.bi i _ hi Rl.hr (by rw [e, ej, ← t])
        rw [e2, e3]
        have a1 := Rk.g
        have a2 := Rl.a
        have := mul_nn (a := (f k).c (c k)) (b := (f l).A (r l) (c l)) (by grind) (by grind)
        grind
      · have c0 := small (by omega)
        have a0 : (f l).A i (c l) ≤ 0 := by
          refine Classical.byContradiction fun hn => ?_
          have ha : 0 < (f l).A i (c l) := by grind
          have z1 := b0 l l1 l2
          have z2 : (f l).b i = 0 := by
            rw [← bs_B Ll hi, bsame' l l1 (by omega) _ (Ll.bl i hi), ← bsame' k k1 (by omega) _ (Ll.bl i hi), e, bs_F Lk hj]
          rcases Rl.lr i hi ha with z | ⟨_, z⟩
          · rw [z1, z2, div_def', div_def'] at z
            grind
          · rw [e, t] at z
            omega
        have := mul_nn (a := -(f k).c j) (b := -(f l).A i (c l)) (by grind) (by grind)
        grind
    · obtain ⟨j2, hj2, e⟩ := free_of Ll (Lk.fl j hj) hb
      rw [← e, way_F Ll Rl.hc hj2]
      by_cases q : j2 = c l
      · rw [if_pos q]
        obtain ⟨i1, i2⟩ := F_in W l1 l2
        have le := mx _ (l + 1) l (by omega) (by omega) l1 (by omega) i1 i2
        have ne : (f l).F (c l) ≠ (f k).F (c k) := by
          rw [← t]
          exact fun z => Ll.ne _ _ Rl.hr Rl.hc z.symm
        have := small (by rw [← e, q]; omega)
        grind
      · rw [if_neg q]; grind
  have g := Rl.g
  grind
/-! ### so a walk is short -/
theorem pigeon : ∀ (N : Nat) (g : Nat → Nat), (∀ k, k ≤ N → g k < N) → ∃ p q, p < q ∧ q ≤ N ∧ g p = g q
  | 0, g, h => absurd (h 0 (Nat.le_refl _)) (by omega)
  | N + 1, g, h => by
    by_cases hx : ∃ k, k ≤ N ∧ g k = g (N + 1)
    · obtain ⟨k, h1, h2⟩ := hx
      exact ⟨k, N + 1, by omega, Nat.le_refl _, h2⟩
    · have ne : ∀ k, k ≤ N → g k ≠ g (N + 1) := fun k h1 e => hx ⟨k, h1, e⟩
      obtain ⟨p, q, h1, h2, h3⟩ := pigeon N (fun k => if g k < g (N + 1) then g k else g k - 1) fun k hk => by
        have a := h k (by omega)
        have b := h (N + 1) (Nat.le_refl _)
        have c := ne k hk
        show (if g k < g (N + 1) then g k else g k - 1) < N
        split <;> omega
      refine ⟨p, q, h1, by omega, ?_⟩
      have a := ne p (by omega)
      have b := ne q (by omega)
      have h3 : (if g p < g (N + 1) then g p else g p - 1) = (if g q < g (N + 1) then g q else g q - 1) := h3
      split at h3 <;> split at h3 <;> omega
/-- the basic numbers, as one number -/
def codeB (N : Nat) : Nat → (Nat → Nat) → Nat
  | 0, _ => 0
  | m + 1, B => codeB N m B * N + B m
theorem codeB_lt {N : Nat} {B : Nat → Nat} : ∀ {m : Nat}, (∀ i, i < m → B i < N) → codeB N m B < N ^ m
  | 0, _ => by show 0 < 1; decide
  | m + 1, h => by
    have h1 := codeB_lt (m := m) fun i hi => h i (by omega)
    have h2 := h m (by omega)
    show codeB N m B * N + B m < N ^ m * N
    have h3 : (codeB N m B + 1) * N ≤ N ^ m * N := Nat.mul_le_mul_right _ h1
    rw [Nat.add_mul] at h3
    omega
theorem codeB_inj {N : Nat} {B C : Nat → Nat} : ∀ {m : Nat}, (∀ i, i < m → B i < N) → (∀ i, i < m → C i < N) → codeB N m B = codeB N m C → ∀ i, i < m → B i = C i
  | 0, _, _, _, i, hi => absurd hi (Nat.not_lt_zero _)
  | m + 1, h, k, e, i, hi => by
    have h2 := h m (by omega)
    have k2 := k m (by omega)
    have e : codeB N m B * N + B m = codeB N m C * N + C m := e
    have e1 : B m = C m := by
      have := congrArg (· % N) e
      simp only [Nat.mul_comm _ N, Nat.mul_add_mod, Nat.mod_eq_of_lt h2, Nat.mod_eq_of_lt k2] at this
      exact this
    have e2 : codeB N m B = codeB N m C := by
      have hN : 0 < N := by omega
      exact Nat.eq_of_mul_eq_mul_right hN (by omega)
    by_cases q : i = m
    · rw [q, e1]
    · exact codeB_inj (m := m) (fun i hi => h i (by omega)) (fun i hi => k i (by omega)) e2 i (by omega)
/-- turns by a rule, counted -/
inductive Run (m n : Nat) (R : Tab → Nat → Nat → Prop) (T0 : Tab) : Nat → Tab → Prop
  | zero : Run m n R T0 0 T0
  | succ {k r c : Nat} {T : Tab} : Run m n R T0 k T → r < m → c < n → T.A r c ≠ 0 → R T r c → Run m n R T0 (k + 1) (T.turn r c)
theorem Run.lab {R : Tab → Nat → Nat → Prop} {T0 T : Tab} {k : Nat} (h : Run m n R T0 k T) (L : Lab m n T0) : Lab m n T := by
  induction h with
  | zero => exact L
  | succ _ hr hc _ _ ih => exact ih.turn hr hc
theorem Run.eqv {R : Tab → Nat → Nat → Prop} {T0 T : Tab} {k : Nat} (h : Run m n R T0 k T) : Eqv m n T T0 := by
  induction h with
  | zero => exact .refl
  | succ _ hr hc hp _ ih => exact (Eqv.turn hr hc hp).trans ih
theorem Run.seq {R : Tab → Nat → Nat → Prop} {T0 T : Tab} {k : Nat} (h : Run m n R T0 k T) : ∃ (f : Nat → Tab) (r c : Nat → Nat), f 0 = T0 ∧ f k = T ∧ (∀ i, i ≤ k → Run m n R T0 i (f i)) ∧
    ∀ i, i < k → r i < m ∧ c i < n ∧ (f i).A (r i) (c i) ≠ 0 ∧ R (f i) (r i) (c i) ∧ f (i + 1) = (f i).turn (r i) (c i) := by
  induction h with
  | zero => exact ⟨fun _ => T0, fun _ => 0, fun _ => 0, rfl, rfl, fun i hi => by rw [show i = 0 by omega]; exact .zero, fun i hi => absurd hi (Nat.not_lt_zero _)⟩
  | @succ k r0 c0 T hT hr hc hp hR ih =>
    obtain ⟨f, r, c, h0, hk, hrun, hs⟩ := ih
    refine ⟨fun i => if i ≤ k then f i else T.turn r0 c0, fun i => if i < k then r i else r0, fun i => if i < k then c i else c0, ?_, ?_, fun i hi => ?_, fun i hi => ?_⟩
    · show (if 0 ≤ k then f 0 else _) = T0
      rw [if_pos (by omega), h0]
    · show (if k + 1 ≤ k then _ else _) = _
      rw [if_neg (by omega)]
    · show Run m n R T0 i (if i ≤ k then f i else T.turn r0 c0)
      by_cases q : i ≤ k
      · rw [if_pos q]; exact hrun i q
      · rw [if_neg q, show i = k + 1 by omega]; exact .succ hT hr hc hp hR
    · by_cases q : i < k
      · obtain ⟨a1, a2, a3, a4, a5⟩ := hs i q
        simp only [if_pos q, if_pos (show i ≤ k by omega), if_pos (show i + 1 ≤ k by omega)]
        exact ⟨a1, a2, a3, a4, a5⟩
      · have e : i = k := by omega
        subst e
        simp only [if_neg q, if_pos (Nat.le_refl i), if_neg (show ¬ i + 1 ≤ i by omega), hk]
        exact ⟨hr, hc, hp, hR, trivial⟩
theorem Run.short {R : Tab → Nat → Nat → Prop} {T0 T : Tab} {k : Nat} (h : Run m n R T0 k T) (L : Lab m n T0)
    (no : ∀ (f : Nat → Tab) (r c : Nat → Nat) (p q : Nat), Wlk m n f r c p q → p < q → (∀ x, Bas m (f p) x ↔ Bas m (f q) x) → (∀ k, p ≤ k → k < q → R (f k) (r k) (c k)) → Run m n R T0 p (f p) → False) : k < (n + m) ^ m := by
  refine Classical.byContradiction fun hn => ?_
  obtain ⟨f, r, c, h0, hk, hrun, hs⟩ := h.seq
  have lab : ∀ i, i ≤ k → Lab m n (f i) := fun i hi => (hrun i hi).lab L
  obtain ⟨p, q, h1, h2, h3⟩ := pigeon ((n + m) ^ m) (fun i => codeB (n + m) m (f i).B) fun i hi => codeB_lt (lab i (by omega)).bl
  have e := codeB_inj (lab p (by omega)).bl (lab q (by omega)).bl h3
  refine no f r c p q ⟨fun i _ hi => lab i (by omega), fun i _ hi => ((hrun i (by omega)).eqv).trans (hrun p (by omega)).eqv.symm, fun i _ hi => ?_⟩ h1 (fun x => ⟨fun ⟨i, hi, e2⟩ => ⟨i, hi, (e i hi).symm.trans e2⟩, fun ⟨i, hi, e2⟩ => ⟨i, hi, (e i hi).trans e2⟩⟩) (fun i _ hi => (hs i (by omega)).2.2.2.1) (hrun p (by omega))
  obtain ⟨a1, a2, a3, a4, a5⟩ := hs i (by omega)
  exact ⟨a1, a2, a3, a5⟩
theorem settle_short {T0 T : Tab} {k : Nat} (h : Run m n (SetR m n) T0 k T) (L : Lab m n T0) : k < (n + m) ^ m :=
  h.short L fun f r c p q W h1 same hR _ => no_settle W h1 same hR
theorem Run.pos {T0 T : Tab} {k : Nat} (h : Run m n (CliR m n) T0 k T) (hb : ∀ i, i < m → 0 ≤ T0.b i) : ∀ i, i < m → 0 ≤ T.b i := by
  induction h with
  | zero => exact hb
  | succ _ _ _ _ hR ih => exact cli_b hR ih
theorem climb_short {T0 T : Tab} {k : Nat} (h : Run m n (CliR m n) T0 k T) (L : Lab m n T0) (hb : ∀ i, i < m → 0 ≤ T0.b i) : k < (n + m) ^ m :=
  h.short L fun f r c p q W h1 same hR hr => no_climb W h1 same hR (hr.pos hb)
end
end K31
namespace K31
/-! the sizes of a tableau's numbers: all over one whole number -/
def piv (M : Nat → Nat → Rat) (r c : Nat) (i j : Nat) : Rat :=
  if i = r then (if j = c then 1 / M r c else M r j * (1 / M r c)) else (if j = c then 0 - M i c * (1 / M r c) else M i j - M i c * (M r j * (1 / M r c)))
/-- with the bounds as a last column, the gains as a last row -/
def Tab.E (m n : Nat) (T : Tab) (i j : Nat) : Rat := if i < m then (if j < n then T.A i j else T.b i) else (if j < n then T.c j else 0 - T.v)
theorem E_turn {m n r c : Nat} {T : Tab} (hr : r < m) (hc : c < n) (i j : Nat) (hi : i ≤ m) (hj : j ≤ n) : (T.turn r c).E m n i j = piv (T.E m n) r c i j := by
  have e0 : T.E m n r c = T.A r c := by show (if r < m then (if c < n then _ else _) else _) = _; rw [if_pos hr, if_pos hc]
  unfold piv
  rw [e0]
  by_cases h1 : i < m
  · have e1 : ∀ j, T.E m n i j = if j < n then T.A i j else T.b i := fun j => if_pos h1
    have e3 : ∀ j, T.E m n r j = if j < n then T.A r j else T.b r := fun j => if_pos hr
    have e2 : (T.turn r c).E m n i j = if j < n then (T.turn r c).A i j else (T.turn r c).b i := if_pos h1
    rw [e1, e1, e2, e3, if_pos hc]
    show (if j < n then (if i = r then T.rowA r c else T.les r c (T.A i) (T.A i c)) j else (if i = r then T.rowB r c else T.b i - T.A i c * T.rowB r c)) = _
    by_cases q : i = r
    · rw [if_pos q, if_pos q, if_pos q]
      by_cases h2 : j < n
      · rw [if_pos h2, if_pos h2]; rfl
      · rw [if_neg h2, if_neg h2, if_neg (show ¬ j = c by omega)]; rfl
    · rw [if_neg q, if_neg q, if_neg q]
      by_cases h2 : j < n
      · rw [if_pos h2, if_pos h2, if_pos h2]
        show (if j = c then 0 - T.A i c * (if c = c then _ else _) else T.A i j - T.A i c * (if j = c then _ else _)) = _
        by_cases h3 : j = c
        · rw [if_pos h3, if_pos h3, if_pos rfl]
        · rw [if_neg h3, if_neg h3, if_neg h3]
      · rw [if_neg h2, if_neg h2, if_neg h2, if_neg (show ¬ j = c by omega)]; rfl
  · have q : ¬ i = r := by omega
    rw [if_neg q]
    have e1 : ∀ j, T.E m n i j = if j < n then T.c j else 0 - T.v := fun j => if_neg h1
    have e3 : ∀ j, T.E m n r j = if j < n then T.A r j else T.b r := fun j => if_pos hr
    have e2 : (T.turn r c).E m n i j = if j < n then (T.turn r c).c j else 0 - (T.turn r c).v := if_neg h1
    rw [e1, e1, e2, e3, if_pos hc]
    show (if j < n then T.les r c T.c (T.c c) j else 0 - (T.v + T.c c * T.rowB r c)) = _
    by_cases h2 : j < n
    · rw [if_pos h2, if_pos h2, if_pos h2]
      show (if j = c then 0 - T.c c * (if c = c then _ else _) else T.c j - T.c c * (if j = c then _ else _)) = _
      by_cases h3 : j = c
      · rw [if_pos h3, if_pos h3, if_pos rfl]
      · rw [if_neg h3, if_neg h3, if_neg h3]
    · rw [if_neg h2, if_neg h2, if_neg h2, if_neg (show ¬ j = c by omega)]
      show 0 - (T.v + T.c c * (T.b r * (1 / T.A r c))) = _
      grind
theorem piv_piv {M : Nat → Nat → Rat} {r c : Nat} (h : M r c ≠ 0) (i j : Nat) : piv (piv M r c) r c i j = M i j := by
  have hi := inv_mul h
  have h2 : 1 / (1 / M r c) = M r c := by grind
  have e0 : piv M r c r c = 1 / M r c := by unfold piv; rw [if_pos rfl, if_pos rfl]
  have e1 : ∀ j, j ≠ c → piv M r c r j = M r j * (1 / M r c) := fun j q => by unfold piv; rw [if_pos rfl, if_neg q]
  have e2 : ∀ i, i ≠ r → piv M r c i c = 0 - M i c * (1 / M r c) := fun i q => by unfold piv; rw [if_neg q, if_pos rfl]
  have e3 : ∀ i j, i ≠ r → j ≠ c → piv M r c i j = M i j - M i c * (M r j * (1 / M r c)) := fun i j q q2 => by unfold piv; rw [if_neg q, if_neg q2]
  show (if i = r then (if j = c then 1 / piv M r c r c else piv M r c r j * (1 / piv M r c r c)) else (if j = c then 0 - piv M r c i c * (1 / piv M r c r c) else piv M r c i j - piv M r c i c * (piv M r c r j * (1 / piv M r c r c)))) = M i j
  rw [e0, h2]
  by_cases q : i = r
  · subst q
    rw [if_pos rfl]
    by_cases q2 : j = c
    · subst q2; rw [if_pos rfl]
    · rw [if_neg q2, e1 j q2]
      generalize 1 / M i c = x at *
      grind
  · rw [if_neg q, e2 i q]
    by_cases q2 : j = c
    · subst q2; rw [if_pos rfl]
      generalize 1 / M r j = x at *
      grind
    · rw [if_neg q2, e3 i j q q2, e1 j q2]
      generalize 1 / M r c = x at *
      grind
theorem piv_congr {M N : Nat → Nat → Rat} {m n r c : Nat} (hr : r ≤ m) (hc : c ≤ n) (h : ∀ i j, i ≤ m → j ≤ n → M i j = N i j) (i j : Nat) (hi : i ≤ m) (hj : j ≤ n) : piv M r c i j = piv N r c i j := by
  unfold piv
  rw [h r c hr hc, h r j hr hj, h i c hi hc, h i j hi hj]
/-- all over one whole number, all no greater than S -/
def Bd (m n S : Nat) (M : Nat → Nat → Rat) : Prop := ∃ D : Int, D ≠ 0 ∧ D.natAbs ≤ S ∧ ∀ i j, i ≤ m → j ≤ n → ∃ N : Int, N.natAbs ≤ S ∧ M i j * (D : Rat) = (N : Rat)
theorem Bd.mono {m n S S' : Nat} {M : Nat → Nat → Rat} (h : Bd m n S M) (hs : S ≤ S') : Bd m n S' M := by
  obtain ⟨D, h1, h2, h3⟩ := h
  exact ⟨D, h1, Nat.le_trans h2 hs, fun i j hi hj => let ⟨N, a, b⟩ := h3 i j hi hj; ⟨N, Nat.le_trans a hs, b⟩⟩
theorem Bd.congr {m n S : Nat} {M N : Nat → Nat → Rat} (h : Bd m n S M) (e : ∀ i j, i ≤ m → j ≤ n → N i j = M i j) : Bd m n S N := by
  obtain ⟨D, h1, h2, h3⟩ := h
  exact ⟨D, h1, h2, fun i j hi hj => let ⟨N, a, b⟩ := h3 i j hi hj; ⟨N, a, by rw [e i j hi hj]; exact b⟩⟩
theorem ab_mul {x y : Int} {A B : Nat} (hx : x.natAbs ≤ A) (hy : y.natAbs ≤ B) : (x * y).natAbs ≤ A * B := by
  rw [Int.natAbs_mul]; exact Nat.mul_le_mul hx hy
theorem ab_sub {x y : Int} {A B : Nat} (hx : x.natAbs ≤ A) (hy : y.natAbs ≤ B) : (x - y).natAbs ≤ A + B := by omega
theorem ab_add {x y : Int} {A B : Nat} (hx : x.natAbs ≤ A) (hy : y.natAbs ≤ B) : (x + y).natAbs ≤ A + B := by omega
theorem ab_neg {x : Int} {A : Nat} (hx : x.natAbs ≤ A) : (-x).natAbs ≤ A := by omega
theorem cast_ne {D : Int} (h : D ≠ 0) : (D : Rat) ≠ 0 := fun e => h (Rat.intCast_inj.mp e)
theorem bd_one {m n S r c : Nat} {M : Nat → Nat → Rat} (h : Bd m n S M) (hr : r ≤ m) (hc : c ≤ n) (hp : M r c ≠ 0) : Bd m n (2 * (S * S)) (piv M r c) := by
  obtain ⟨D, h1, h2, h3⟩ := h
  obtain ⟨P, p1, p2⟩ := h3 r c hr hc
  have hi := inv_mul hp
  have hD := cast_ne h1
  have hP : P ≠ 0 := fun e => by
    subst e
    have e2 : M r c * (D : Rat) = 0 := p2
    rcases Rat.mul_eq_zero.mp e2 with z | z
    · exact hp z
    · exact hD z
  refine ⟨D * P, Int.mul_ne_zero h1 hP, Nat.le_trans (ab_mul h2 p1) (by omega), fun i j hi' hj => ?_⟩
  unfold piv
  rw [Rat.intCast_mul, ← p2]
  by_cases q : i = r
  · rw [if_pos q]
    by_cases q2 : j = c
    · rw [if_pos q2]
      refine ⟨D * D, Nat.le_trans (ab_mul h2 h2) (by omega), ?_⟩
      rw [Rat.intCast_mul]
      generalize 1 / M r c = x at *
      grind
    · rw [if_neg q2]
      obtain ⟨N, n1, n2⟩ := h3 r j hr hj
      refine ⟨N * D, Nat.le_trans (ab_mul n1 h2) (by omega), ?_⟩
      rw [Rat.intCast_mul, ← n2]
      generalize 1 / M r c = x at *
      grind
  · rw [if_neg q]
    obtain ⟨K, k1, k2⟩ := h3 i c hi' hc
    by_cases q2 : j = c
    · rw [if_pos q2]
      refine ⟨-(K * D), Nat.le_trans (ab_neg (ab_mul k1 h2)) (by omega), ?_⟩
      rw [Rat.intCast_neg, Rat.intCast_mul, ← k2]
      generalize 1 / M r c = x at *
      grind
    · rw [if_neg q2]
      obtain ⟨N, n1, n2⟩ := h3 r j hr hj
      obtain ⟨O, o1, o2⟩ := h3 i j hi' hj
      refine ⟨O * P - K * N, Nat.le_trans (ab_sub (ab_mul o1 p1) (ab_mul k1 n1)) (by omega), ?_⟩
      rw [Rat.intCast_sub, Rat.intCast_mul, Rat.intCast_mul, ← p2, ← k2, ← n2, ← o2]
      generalize 1 / M r c = x at *
      grind
theorem bd_two {m n S r c s d : Nat} {M : Nat → Nat → Rat} (h : Bd m n S M) (hr : r ≤ m) (hc : c ≤ n) (hs : s ≤ m) (hd : d ≤ n) (rs : s ≠ r) (cd : d ≠ c) (hp : M r c ≠ 0) (hq : piv M r c s d ≠ 0) :
    Bd m n (6 * (S * S * S)) (piv (piv M r c) s d) := by
  obtain ⟨D, h1, h2, h3⟩ := h
  have hD := cast_ne h1
  obtain ⟨N11, a11, e11⟩ := h3 r c hr hc
  obtain ⟨N12, a12, e12⟩ := h3 r d hr hd
  obtain ⟨N21, a21, e21⟩ := h3 s c hs hc
  obtain ⟨N22, a22, e22⟩ := h3 s d hs hd
  have hi := inv_mul hp
  have p0 : piv M r c r c = 1 / M r c := by unfold piv; rw [if_pos rfl, if_pos rfl]
  have p1 : ∀ j, j ≠ c → piv M r c r j = M r j * (1 / M r c) := fun j q => by unfold piv; rw [if_pos rfl, if_neg q]
  have p2 : ∀ i, i ≠ r → piv M r c i c = 0 - M i c * (1 / M r c) := fun i q => by unfold piv; rw [if_neg q, if_pos rfl]
  have p3 : ∀ i j, i ≠ r → j ≠ c → piv M r c i j = M i j - M i c * (M r j * (1 / M r c)) := fun i j q q2 => by unfold piv; rw [if_neg q, if_neg q2]
  have hj := inv_mul hq
  have eQ := p3 s d rs cd
  have hS : S * S * S ≤ 6 * (S * S * S) := by omega
  have big : ∀ {a b z : Int}, a.natAbs ≤ S → b.natAbs ≤ S → z.natAbs ≤ S → (a * b * z).natAbs ≤ S * S * S := fun ha hb hz => ab_mul (ab_mul ha hb) hz
  have hM : (N11 * N22 - N21 * N12 : Int) ≠ 0 := fun e => by
    have e2 : ((N11 * N22 - N21 * N12 : Int) : Rat) = 0 := by rw [e]; rfl
    rw [Rat.intCast_sub, Rat.intCast_mul, Rat.intCast_mul, ← e11, ← e12, ← e21, ← e22] at e2
    have e3 : M r c * (D : Rat) * (D : Rat) * piv M r c s d = 0 := by
      rw [eQ]
      generalize 1 / M r c = x at *
      grind
    rcases Rat.mul_eq_zero.mp e3 with z | z
    · rcases Rat.mul_eq_zero.mp z with z | z
      · rcases Rat.mul_eq_zero.mp z with z | z
        · exact hp z
        · exact hD z
      · exact hD z
    · exact hq z
  refine ⟨D * (N11 * N22 - N21 * N12), Int.mul_ne_zero h1 hM, ?_, fun i j hi' hj' => ?_⟩
  · have e : D * (N11 * N22 - N21 * N12) = D * N11 * N22 - D * N21 * N12 := by grind
    rw [e]
    exact Nat.le_trans (ab_sub (big h2 a11 a22) (big h2 a21 a12)) (by omega)
  rw [Rat.intCast_mul, Rat.intCast_sub, Rat.intCast_mul, Rat.intCast_mul, ← e11, ← e12, ← e21, ← e22]
  show ∃ N : Int, _ ∧ (if i = s then (if j = d then 1 / piv M r c s d else piv M r c s j * (1 / piv M r c s d)) else (if j = d then 0 - piv M r c i d * (1 / piv M r c s d) else piv M r c i j - piv M r c i d * (piv M r c s j * (1 / piv M r c s d)))) * _ = _
  generalize hy : 1 / piv M r c s d = y at *
  generalize hx : 1 / M r c = x at *
  rw [eQ] at hj
  by_cases q : i = s
  · rw [if_pos q]
    by_cases q2 : j = d
    · rw [if_pos q2]
      refine ⟨D * D * N11, Nat.le_trans (big h2 h2 a11) hS, ?_⟩
      rw [Rat.intCast_mul, Rat.intCast_mul, ← e11]
      grind
    · rw [if_neg q2]
      by_cases q3 : j = c
      · rw [q3, p2 s rs]
        refine ⟨-(D * D * N21), Nat.le_trans (ab_neg (big h2 h2 a21)) hS, ?_⟩
        rw [Rat.intCast_neg, Rat.intCast_mul, Rat.intCast_mul, ← e21]
        grind
      · rw [p3 s j rs q3]
        obtain ⟨N1, b1, f1⟩ := h3 r j hr hj'
        obtain ⟨N2, b2, f2⟩ := h3 s j hs hj'
        refine ⟨D * N11 * N2 - D * N21 * N1, Nat.le_trans (ab_sub (big h2 a11 b2) (big h2 a21 b1)) (by omega), ?_⟩
        rw [Rat.intCast_sub, Rat.intCast_mul, Rat.intCast_mul, Rat.intCast_mul, Rat.intCast_mul, ← e11, ← e21, ← f1, ← f2]
        grind
  · rw [if_neg q]
    by_cases q0 : i = r
    · rw [q0]
      by_cases q2 : j = d
      · rw [if_pos q2, p1 d cd]
        refine ⟨-(D * D * N12), Nat.le_trans (ab_neg (big h2 h2 a12)) hS, ?_⟩
        rw [Rat.intCast_neg, Rat.intCast_mul, Rat.intCast_mul, ← e12]
        grind
      · rw [if_neg q2, p1 d cd]
        by_cases q3 : j = c
        · rw [q3, p0, p2 s rs]
          refine ⟨D * D * N22, Nat.le_trans (big h2 h2 a22) hS, ?_⟩
          rw [Rat.intCast_mul, Rat.intCast_mul, ← e22]
          grind
        · rw [p1 j q3, p3 s j rs q3]
          obtain ⟨N1, b1, f1⟩ := h3 r j hr hj'
          obtain ⟨N2, b2, f2⟩ := h3 s j hs hj'
          refine ⟨D * N22 * N1 - D * N12 * N2, Nat.le_trans (ab_sub (big h2 a22 b1) (big h2 a12 b2)) (by omega), ?_⟩
          rw [Rat.intCast_sub, Rat.intCast_mul, Rat.intCast_mul, Rat.intCast_mul, Rat.intCast_mul, ← e22, ← e12, ← f1, ← f2]
          grind
    · obtain ⟨K1, k1, g1⟩ := h3 i c hi' hc
      obtain ⟨K2, k2, g2⟩ := h3 i d hi' hd
      rw [p3 i d q0 cd]
      by_cases q2 : j = d
      · rw [if_pos q2]
        refine ⟨-(D * N11 * K2 - D * N12 * K1), Nat.le_trans (ab_neg (ab_sub (big h2 a11 k2) (big h2 a12 k1))) (by omega), ?_⟩
        rw [Rat.intCast_neg, Rat.intCast_sub, Rat.intCast_mul, Rat.intCast_mul, Rat.intCast_mul, Rat.intCast_mul, ← e11, ← e12, ← g1, ← g2]
        grind
      · rw [if_neg q2]
        by_cases q3 : j = c
        · rw [q3, p2 i q0, p2 s rs]
          refine ⟨D * N21 * K2 - D * N22 * K1, Nat.le_trans (ab_sub (big h2 a21 k2) (big h2 a22 k1)) (by omega), ?_⟩
          rw [Rat.intCast_sub, Rat.intCast_mul, Rat.intCast_mul, Rat.intCast_mul, Rat.intCast_mul, ← e21, ← e22, ← g1, ← g2]
          grind
        · rw [p3 i j q0 q3, p3 s j rs q3]
          obtain ⟨N1, b1, f1⟩ := h3 r j hr hj'
          obtain ⟨N2, b2, f2⟩ := h3 s j hs hj'
          obtain ⟨O, o1, g3⟩ := h3 i j hi' hj'
          refine ⟨(N11 * N22 * O - N22 * K1 * N1) - (N21 * N12 * O - K2 * N21 * N1) - (N11 * K2 * N2 - K1 * N12 * N2), Nat.le_trans (ab_sub (ab_sub (ab_sub (big a11 a22 o1) (big a22 k1 b1)) (ab_sub (big a21 a12 o1) (big k2 a21 b1))) (ab_sub (big a11 k2 b2) (big k1 a12 b2))) (by omega), ?_⟩
          simp only [Rat.intCast_sub, Rat.intCast_mul]
          rw [← e11, ← e12, ← e21, ← e22, ← g1, ← g2, ← g3, ← f1, ← f2]
          grind
end K31
namespace K31
/-! any tableau of a task lies few turns from the first one -/
def sz6 : Nat → Nat → Nat
  | S, 0 => S
  | S, 1 => 2 * (S * S)
  | S, d + 2 => 6 * (sz6 S d * sz6 S d * sz6 S d)
/-- how many columns' numbers are basic -/
def cols (n : Nat) : Nat → (Nat → Nat) → Nat
  | 0, _ => 0
  | m + 1, B => cols n m B + if B m < n then 1 else 0
theorem cols_le {n : Nat} {B : Nat → Nat} : ∀ m, cols n m B ≤ m
  | 0 => Nat.le_refl _
  | m + 1 => by
    have := cols_le (n := n) (B := B) m
    show cols n m B + (if B m < n then 1 else 0) ≤ m + 1
    split <;> omega
theorem cols_zero {n : Nat} {B : Nat → Nat} : ∀ {m}, cols n m B = 0 → ∀ i, i < m → n ≤ B i
  | 0, _, i, hi => absurd hi (Nat.not_lt_zero _)
  | m + 1, h, i, hi => by
    have h : cols n m B + (if B m < n then 1 else 0) = 0 := h
    by_cases q : i = m
    · subst q
      split at h <;> omega
    · exact cols_zero (m := m) (by omega) i (by omega)
theorem cols_pos {n : Nat} {B : Nat → Nat} : ∀ {m}, cols n m B ≠ 0 → ∃ i, i < m ∧ B i < n
  | 0, h => absurd rfl h
  | m + 1, h => by
    by_cases q : B m < n
    · exact ⟨m, by omega, q⟩
    · have h : cols n m B + (if B m < n then 1 else 0) ≠ 0 := h
      rw [if_neg q] at h
      obtain ⟨i, h1, h2⟩ := cols_pos (m := m) (by omega)
      exact ⟨i, by omega, h2⟩
theorem cols_set {n r x : Nat} {B : Nat → Nat} (hx : n ≤ x) (hB : B r < n) : ∀ {m}, r < m → cols n m (fun i => if i = r then x else B i) + 1 = cols n m B
  | 0, h => absurd h (Nat.not_lt_zero _)
  | m + 1, h => by
    show cols n m (fun i => if i = r then x else B i) + (if (if m = r then x else B m) < n then 1 else 0) + 1 = cols n m B + (if B m < n then 1 else 0)
    by_cases q : m = r
    · subst q
      rw [if_pos rfl, if_pos hB, if_neg (by omega)]
      have e : ∀ k, k ≤ m → cols n k (fun i => if i = m then x else B i) = cols n k B := fun k => by
        induction k with
        | zero => intro _; rfl
        | succ k ih =>
          intro hk
          show cols n k _ + (if (if k = m then x else B k) < n then 1 else 0) = cols n k B + (if B k < n then 1 else 0)
          rw [ih (by omega), if_neg (show ¬ k = m by omega)]
      rw [e m (Nat.le_refl _)]
    · rw [if_neg q]
      have := cols_set (B := B) hx hB (m := m) (by omega)
      omega
section
variable {m n : Nat} {A0 : Nat → Nat → Rat} {b0 c0 : Nat → Rat} {T : Tab}
/-- what a row says of the columns' numbers -/
theorem row_all (E : Eqv m n T (Tab.start n A0 b0 c0)) {i : Nat} (hi : i < m) (x : Nat → Rat) : zx n A0 b0 x (T.B i) + sm n (fun j => T.A i j * zx n A0 b0 x (T.F j)) = T.b i := (E.sol _).mpr (zx_sol x) i hi
theorem free_lo (L : Lab m n T) (h : ∀ i, i < m → n ≤ T.B i) : ∀ j, j < n → T.F j < n := by
  -- the places from n on are all taken by the basic ones
  intro j hj
  refine Classical.byContradiction fun hn => ?_
  have g : ∀ i, i ≤ m → (if i < m then T.B i - n else T.F j - n) < m := fun i _ => by
    have h1 := L.fl j hj
    split
    · rename_i q
      have := L.bl i q
      have := h i q
      omega
    · omega
  obtain ⟨p, q, h1, h2, h3⟩ := pigeon m (fun i => if i < m then T.B i - n else T.F j - n) g
  have h3 : (if p < m then T.B p - n else T.F j - n) = (if q < m then T.B q - n else T.F j - n) := h3
  rw [if_pos (by omega)] at h3
  have hp := h p (by omega)
  by_cases hq : q < m
  · rw [if_pos hq] at h3
    have := h q hq
    have := L.bi p q (by omega) hq (by omega)
    omega
  · rw [if_neg hq] at h3
    exact L.ne p j (by omega) hj (by omega)
/-- no columns' number is basic: the first tableau in another order -/
theorem bd_first {S : Nat} (L : Lab m n T) (E : Eqv m n T (Tab.start n A0 b0 c0)) (hA : ∀ i j, i < m → j < n → ∃ N : Int, A0 i j = (N : Rat) ∧ N.natAbs ≤ S) (hb : ∀ i, i < m → ∃ N : Int, b0 i = (N : Rat) ∧ N.natAbs ≤ S) (hc : ∀ j, j < n → ∃ N : Int, c0 j = (N : Rat) ∧ N.natAbs ≤ S) (h1 : 1 ≤ S)
    (h : ∀ i, i < m → n ≤ T.B i) : Bd m n S (T.E m n) := by
  have lo := free_lo L h
  have zF : ∀ (x : Nat → Rat) j, j < n → zx n A0 b0 x (T.F j) = x (T.F j) := fun x j hj => zx_lo (lo j hj)
  have zB : ∀ (x : Nat → Rat) i, i < m → zx n A0 b0 x (T.B i) = b0 (T.B i - n) - sm n (fun j => A0 (T.B i - n) j * x j) := fun x i hi => by
    have := zx_hi (n := n) (A0 := A0) (b0 := b0) (x := x) (T.B i - n)
    rwa [show n + (T.B i - n) = T.B i by have := h i hi; omega] at this
  have row := fun i (hi : i < m) (x : Nat → Rat) => row_all E hi x
  have rb : ∀ i, i < m → T.b i = b0 (T.B i - n) := fun i hi => by
    have e := row i hi fun _ => 0
    rw [zB _ i hi, sm_zero (f := fun j => A0 (T.B i - n) j * 0) fun j _ => by grind, sm_zero (f := fun j => T.A i j * zx n A0 b0 (fun _ => 0) (T.F j)) fun j hj => by rw [zF _ j hj]; grind] at e
    grind
  have one : ∀ (f : Nat → Rat) l, l < n → sm n (fun j => f j * (if T.F l = T.F j then 1 else 0)) = f l := fun f l hl => by
    rw [sm_congr (g := fun j => if l = j then f j else 0) fun j hj => by
      by_cases q : l = j
      · rw [if_pos q, if_pos (by rw [q])]; grind
      · rw [if_neg q, if_neg fun z => q (L.fi l j hl hj z)]; grind]
    exact sm_pick hl
  have one0 : ∀ (f : Nat → Rat) l, l < n → sm n (fun j => f j * (if T.F l = j then 1 else 0)) = f (T.F l) := fun f l hl => by
    rw [sm_congr (g := fun j => if T.F l = j then f j else 0) fun j _ => by split <;> grind]
    exact sm_pick (lo l hl)
  have rA : ∀ i l, i < m → l < n → T.A i l = A0 (T.B i - n) (T.F l) := fun i l hi hl => by
    have e := row i hi fun k => if T.F l = k then 1 else 0
    rw [zB _ i hi, one0 _ l hl, sm_congr (f := fun j => T.A i j * zx n A0 b0 (fun k => if T.F l = k then 1 else 0) (T.F j)) (g := fun j => T.A i j * (if T.F l = T.F j then 1 else 0)) fun j hj => by rw [zF _ j hj], one _ l hl, rb i hi] at e
    grind
  have aim : ∀ x : Nat → Rat, T.v + sm n (fun j => T.c j * x (T.F j)) = sm n (fun j => c0 j * x j) := fun x => by
    have s := zx_sol (m := m) (n := n) (A0 := A0) (b0 := b0) (c0 := c0) x
    have e := E.obj _ ((E.sol _).mpr s)
    rw [obj0] at e
    have e : T.v + sm n (fun j => T.c j * zx n A0 b0 x (T.F j)) = sm n (fun j => c0 j * zx n A0 b0 x j) := e
    rw [sm_congr (f := fun j => T.c j * zx n A0 b0 x (T.F j)) (g := fun j => T.c j * x (T.F j)) fun j hj => by rw [zF _ j hj], sm_congr (f := fun j => c0 j * zx n A0 b0 x j) (g := fun j => c0 j * x j) fun j hj => by rw [zx_lo hj]] at e
    exact e
  have rv : T.v = 0 := by
    have e := aim fun _ => 0
    rw [sm_zero (f := fun j => T.c j * 0) fun j _ => by grind, sm_zero (f := fun j => c0 j * 0) fun j _ => by grind] at e
    grind
  have rc : ∀ l, l < n → T.c l = c0 (T.F l) := fun l hl => by
    have e := aim fun k => if T.F l = k then 1 else 0
    rw [one _ l hl, one0 _ l hl, rv] at e
    grind
  have inB : ∀ i, i < m → T.B i - n < m := fun i hi => by have := L.bl i hi; omega
  have fin : ∀ q : Rat, (∃ N : Int, q = (N : Rat) ∧ N.natAbs ≤ S) → ∃ N : Int, N.natAbs ≤ S ∧ q * ((1 : Int) : Rat) = (N : Rat) := fun q ⟨N, e, b⟩ => ⟨N, b, by rw [e]; exact Rat.mul_one _⟩
  refine ⟨1, by decide, h1, fun i j hi hj => fin _ ?_⟩
  show ∃ N : Int, (if i < m then (if j < n then T.A i j else T.b i) else (if j < n then T.c j else 0 - T.v)) = (N : Rat) ∧ _
  by_cases q1 : i < m
  · rw [if_pos q1]
    by_cases q2 : j < n
    · rw [if_pos q2, rA i j q1 q2]
      exact hA _ _ (inB i q1) (lo j q2)
    · rw [if_neg q2, rb i q1]
      exact hb _ (inB i q1)
  · rw [if_neg q1]
    by_cases q2 : j < n
    · rw [if_pos q2, rc j q2]
      exact hc _ (lo j q2)
    · rw [if_neg q2, rv]
      exact ⟨0, by rw [Rat.intCast_zero]; grind, by show 0 ≤ S; omega⟩
/-- a turn back to the first one -/
theorem back_turn (L : Lab m n T) (E : Eqv m n T (Tab.start n A0 b0 c0)) (h : cols n m T.B ≠ 0) : ∃ r c, r < m ∧ c < n ∧ T.A r c ≠ 0 ∧ T.B r < n ∧ n ≤ T.F c := by
  obtain ⟨r, hr, hB⟩ := cols_pos h
  refine Classical.byContradiction fun hn => ?_
  have z : ∀ j, j < n → T.F j < n ∨ T.A r j = 0 := fun j hj => by
    by_cases q : T.F j < n
    · exact .inl q
    · exact .inr (Classical.byContradiction fun hA => hn ⟨r, j, hr, hj, hA, hB, by omega⟩)
  have e0 := row_all E hr fun _ => 0
  have e1 := row_all E hr fun k => if k = T.B r then 1 else 0
  rw [zx_lo hB, sm_zero fun j hj => by
    rcases z j hj with q | q
    · rw [zx_lo q]; grind
    · rw [q]; grind] at e0
  rw [zx_lo hB, if_pos rfl, sm_zero fun j hj => by
    rcases z j hj with q | q
    · rw [zx_lo q, if_neg fun e => L.ne r j hr hj e.symm]; grind
    · rw [q]; grind] at e1
  grind
theorem turn_ne {r c : Nat} (h : T.A r c ≠ 0) : (T.turn r c).A r c ≠ 0 := by
  show (if r = r then T.rowA r c else _) c ≠ 0
  rw [if_pos rfl]
  show (if c = c then 1 / T.A r c else _) ≠ 0
  rw [if_pos rfl]
  have := inv_mul h
  intro e
  rw [e] at this
  grind
theorem E_at {r c : Nat} (hr : r < m) (hc : c < n) : T.E m n r c = T.A r c := by show (if r < m then (if c < n then _ else _) else _) = _; rw [if_pos hr, if_pos hc]
/-- turned back at the place -/
theorem E_back {r c : Nat} (hr : r < m) (hc : c < n) (hp : T.A r c ≠ 0) (i j : Nat) (hi : i ≤ m) (hj : j ≤ n) : T.E m n i j = piv ((T.turn r c).E m n) r c i j := by
  rw [piv_congr (m := m) (n := n) (by omega) (by omega) (fun i j hi hj => E_turn hr hc i j hi hj) i j hi hj, piv_piv]
  rw [E_at hr hc]; exact hp
theorem bd_all {S : Nat} (hA : ∀ i j, i < m → j < n → ∃ N : Int, A0 i j = (N : Rat) ∧ N.natAbs ≤ S) (hb : ∀ i, i < m → ∃ N : Int, b0 i = (N : Rat) ∧ N.natAbs ≤ S) (hc : ∀ j, j < n → ∃ N : Int, c0 j = (N : Rat) ∧ N.natAbs ≤ S) (h1 : 1 ≤ S) :
    ∀ d (T : Tab), Lab m n T → Eqv m n T (Tab.start n A0 b0 c0) → cols n m T.B = d → Bd m n (sz6 S d) (T.E m n)
  | 0, T, L, E, h => bd_first L E hA hb hc h1 (cols_zero h)
  | 1, T, L, E, h => by
    obtain ⟨r, c, hr, hc', hp, hB, hF⟩ := back_turn L E (by omega)
    have h2 := cols_set (n := n) (B := T.B) hF hB hr
    have ih := bd_all hA hb hc h1 0 (T.turn r c) (L.turn hr hc') ((Eqv.turn hr hc' hp).trans E) (by show cols n m (fun i => if i = r then T.F c else T.B i) = 0; omega)
    exact (bd_one ih (r := r) (c := c) (by omega) (by omega) (by rw [E_at hr hc']; exact turn_ne hp)).congr fun i j hi hj => E_back hr hc' hp i j hi hj
  | d + 2, T, L, E, h => by
    obtain ⟨r, c, hr, hc', hp, hB, hF⟩ := back_turn L E (by omega)
    have h2 := cols_set (n := n) (B := T.B) hF hB hr
    have L1 := L.turn hr hc'
    have E1 := (Eqv.turn hr hc' hp).trans E
    have c1 : cols n m (T.turn r c).B + 1 = cols n m T.B := h2
    obtain ⟨s, e, hs, he, hp2, hB2, hF2⟩ := back_turn L1 E1 (by omega)
    have h3 := cols_set (n := n) (B := (T.turn r c).B) hF2 hB2 hs
    have c2 : cols n m ((T.turn r c).turn s e).B + 1 = cols n m (T.turn r c).B := h3
    have ih := bd_all hA hb hc h1 d ((T.turn r c).turn s e) (L1.turn hs he) ((Eqv.turn hs he hp2).trans E1) (by omega)
    have ns : s ≠ r := fun q => by
      have e2 : (if s = r then T.F c else T.B s) < n := hB2
      rw [if_pos q] at e2
      omega
    have ne : e ≠ c := fun q => by
      have e2 : n ≤ (if e = c then T.B r else T.F e) := hF2
      rw [if_pos q] at e2
      omega
    have b1 : ∀ i j, i ≤ m → j ≤ n → (T.turn r c).E m n i j = piv (((T.turn r c).turn s e).E m n) s e i j := fun i j hi hj => E_back hs he hp2 i j hi hj
    refine (bd_two ih (r := s) (c := e) (s := r) (d := c) (by omega) (by omega) (by omega) (by omega) ns.symm ne.symm (by rw [E_at hs he]; exact turn_ne hp2) (by rw [← b1 r c (by omega) (by omega), E_at hr hc']; exact turn_ne hp)).congr fun i j hi hj => ?_
    rw [E_back hr hc' hp i j hi hj]
    exact piv_congr (m := m) (n := n) (by omega) (by omega) b1 i j hi hj
/-! ### sizes of fractions -/
/-- both parts below 2 ^ k -/
def Sz (k : Nat) (q : Rat) : Prop := q.den < 2 ^ k ∧ q.num.natAbs < 2 ^ k
theorem over {q : Rat} {D N : Int} (hD : D ≠ 0) (h : q * (D : Rat) = (N : Rat)) : (q.den : Int) ∣ D ∧ q.den ≤ D.natAbs ∧ q.num.natAbs ≤ N.natAbs := by
  have e : q.num * D = N * q.den := by
    have h1 : (q.num : Rat) / (q.den : Rat) = q := (Rat.mkRat_eq_div q.num q.den).symm.trans (Rat.mkRat_self q)
    have h2 : (q.den : Rat) ≠ 0 := fun z => q.den_nz (Rat.natCast_inj.mp z)
    have h3 : (q.num : Rat) = q * (q.den : Rat) := by
      have := Rat.div_mul_cancel (a := (q.num : Rat)) h2
      rw [h1] at this
      exact this.symm
    have h4 : ((q.num * D : Int) : Rat) = ((N * q.den : Int) : Rat) := by
      rw [Rat.intCast_mul, Rat.intCast_mul, h3, ← h, Rat.intCast_natCast]
      grind
    exact Rat.intCast_inj.mp h4
  have e2 : q.num.natAbs * D.natAbs = N.natAbs * q.den := by
    have := congrArg Int.natAbs e
    rw [Int.natAbs_mul, Int.natAbs_mul] at this
    exact this
  have d1 : q.den ∣ D.natAbs := q.reduced.symm.dvd_of_dvd_mul_left ⟨N.natAbs, by rw [e2, Nat.mul_comm]⟩
  have d2 : q.num.natAbs ∣ N.natAbs := q.reduced.dvd_of_dvd_mul_right ⟨D.natAbs, e2.symm⟩
  have pD : 0 < D.natAbs := by omega
  refine ⟨Int.ofNat_dvd_left.mpr d1, Nat.le_of_dvd pD d1, ?_⟩
  by_cases z : N.natAbs = 0
  · rw [z, Nat.zero_mul] at e2
    rcases Nat.mul_eq_zero.mp e2 with y | y
    · omega
    · omega
  · exact Nat.le_of_dvd (by omega) d2
end
end K31
namespace K31
/-! fractions as the program reckons them -/
theorem sz_mono {a b : Nat} {q : Rat} (h : Sz a q) (hab : a ≤ b) : Sz b q :=
  have : 2 ^ a ≤ 2 ^ b := Nat.pow_le_pow_right (by decide) hab
  ⟨Nat.lt_of_lt_of_le h.1 this, Nat.lt_of_lt_of_le h.2 this⟩
/-- the parts by the program's road: the sign to the top, divided by the greatest divisor -/
theorem divInt_parts (t b : Int) (hb : b ≠ 0) : (Rat.divInt t b).num = (if b < 0 then 0 - t else t) / (Int.gcd (if b < 0 then 0 - t else t) (if b < 0 then 0 - b else b) : Int) ∧
    ((Rat.divInt t b).den : Int) = (if b < 0 then 0 - b else b) / (Int.gcd (if b < 0 then 0 - t else t) (if b < 0 then 0 - b else b) : Int) := by
  rw [Rat.num_divInt, Rat.den_divInt, if_neg hb]
  by_cases h : b < 0
  · rw [if_pos h, if_pos h]
    have g : Int.gcd (0 - t) (0 - b) = Int.gcd b t := by
      rw [Int.zero_sub, Int.zero_sub, Int.gcd_neg, Int.neg_gcd, Int.gcd_comm]
    rw [g, Int.sign_eq_neg_one_of_neg h]
    refine ⟨by rw [Int.neg_one_mul, Int.zero_sub], ?_⟩
    rw [Int.natCast_ediv]
    congr 1
    omega
  · rw [if_neg h, if_neg h, Int.gcd_comm t b, Int.sign_eq_one_of_pos (by omega)]
    refine ⟨by rw [Int.one_mul], ?_⟩
    rw [Int.natCast_ediv]
    congr 1
    omega
theorem add_divInt (x y : Rat) : x + y = Rat.divInt (x.num * y.den + y.num * x.den) (x.den * y.den) := by
  rw [Rat.add_def', ← Rat.divInt_ofNat, Int.natCast_mul]
theorem sub_divInt (x y : Rat) : x - y = Rat.divInt (x.num * y.den - y.num * x.den) (x.den * y.den) := by
  rw [Rat.sub_def', ← Rat.divInt_ofNat, Int.natCast_mul]
theorem mul_divInt (x y : Rat) : x * y = Rat.divInt (x.num * y.num) (x.den * y.den) := by
  rw [Rat.mul_def', ← Rat.divInt_ofNat, Int.natCast_mul]
theorem div_divInt (x y : Rat) : x / y = Rat.divInt (x.num * y.den) (x.den * y.num) := by
  rw [Rat.div_def, Rat.inv_def]
  have e : x = Rat.divInt x.num x.den := (Rat.num_divInt_den x).symm
  rw [show x * Rat.divInt y.den y.num = Rat.divInt x.num x.den * Rat.divInt y.den y.num by rw [← e], Rat.divInt_mul_divInt]
/-! sizes -/
theorem divInt_sz {t b : Int} {k : Nat} (hb : b ≠ 0) (h1 : b.natAbs < 2 ^ k) (h2 : t.natAbs < 2 ^ k) : Sz k (Rat.divInt t b) := by
  obtain ⟨_, e2, e3⟩ := over (q := Rat.divInt t b) (D := b) (N := t) hb (by
    rw [Rat.divInt_eq_div]
    exact Rat.div_mul_cancel (cast_ne hb))
  exact ⟨Nat.lt_of_le_of_lt e2 h1, Nat.lt_of_le_of_lt e3 h2⟩
theorem nm_lt {x y : Int} {a b : Nat} (hx : x.natAbs < 2 ^ a) (hy : y.natAbs < 2 ^ b) : (x * y).natAbs < 2 ^ (a + b) := by
  rw [Int.natAbs_mul, Nat.pow_add]
  exact Nat.mul_lt_mul'' hx hy
theorem den_ne (q : Rat) : (q.den : Int) ≠ 0 := fun e => q.den_nz (Int.ofNat_eq_zero.mp e)
theorem den_lt {k : Nat} {q : Rat} (h : Sz k q) : ((q.den : Int)).natAbs < 2 ^ k := by rw [Int.natAbs_natCast]; exact h.1
theorem den_mul_ne (x y : Rat) : ((x.den : Int) * (y.den : Int)) ≠ 0 := Int.mul_ne_zero (den_ne x) (den_ne y)
theorem two_pow_le {a b : Nat} (h : a ≤ b) : 2 ^ a ≤ 2 ^ b := Nat.pow_le_pow_right (by decide) h
theorem sz_mul {a b : Nat} {x y : Rat} (hx : Sz a x) (hy : Sz b y) : Sz (a + b) (x * y) := by
  rw [mul_divInt]
  exact divInt_sz (den_mul_ne x y) (nm_lt (den_lt hx) (den_lt hy)) (nm_lt hx.2 hy.2)
theorem sum_lt {x y z u : Int} {a b : Nat} (h1 : x.natAbs < 2 ^ a) (h2 : y.natAbs < 2 ^ b) (h3 : z.natAbs < 2 ^ b) (h4 : u.natAbs < 2 ^ a) : (x * y + z * u).natAbs < 2 ^ (a + b + 1) ∧ (x * y - z * u).natAbs < 2 ^ (a + b + 1) := by
  have p := nm_lt h1 h2
  have q := nm_lt h3 h4
  rw [Nat.add_comm b a] at q
  have e : 2 ^ (a + b + 1) = 2 ^ (a + b) + 2 ^ (a + b) := by rw [Nat.pow_succ]; omega
  rw [e]
  exact ⟨by omega, by omega⟩
theorem sz_add {a b : Nat} {x y : Rat} (hx : Sz a x) (hy : Sz b y) : Sz (a + b + 1) (x + y) := by
  rw [add_divInt]
  refine divInt_sz (den_mul_ne x y) (Nat.lt_of_lt_of_le (nm_lt (den_lt hx) (den_lt hy)) (two_pow_le (by omega))) (sum_lt hx.2 (den_lt hy) hy.2 (den_lt hx)).1
theorem sz_sub {a b : Nat} {x y : Rat} (hx : Sz a x) (hy : Sz b y) : Sz (a + b + 1) (x - y) := by
  rw [sub_divInt]
  refine divInt_sz (den_mul_ne x y) (Nat.lt_of_lt_of_le (nm_lt (den_lt hx) (den_lt hy)) (two_pow_le (by omega))) (sum_lt hx.2 (den_lt hy) hy.2 (den_lt hx)).2
theorem num_ne {q : Rat} (h : q ≠ 0) : q.num ≠ 0 := fun e => h (Rat.num_eq_zero.mp e)
theorem sz_div {a b : Nat} {x y : Rat} (hx : Sz a x) (hy : Sz b y) (h0 : y ≠ 0) : Sz (a + b) (x / y) := by
  rw [div_divInt]
  exact divInt_sz (Int.mul_ne_zero (den_ne x) (num_ne h0)) (nm_lt (den_lt hx) hy.2) (nm_lt hx.2 (den_lt hy))
end K31
namespace K31
/-! fractions over one bottom; sums of entries times fractions -/
def OverD (k n : Nat) (f : Nat → Rat) : Prop := ∃ D : Int, D ≠ 0 ∧ D.natAbs < 2 ^ k ∧ ∀ j, j < n → ∃ N : Int, N.natAbs < 2 ^ k ∧ f j * (D : Rat) = (N : Rat)
theorem sz_over {k : Nat} {q : Rat} {D N : Int} (hD : D ≠ 0) (h1 : D.natAbs < 2 ^ k) (h2 : N.natAbs < 2 ^ k) (h : q * (D : Rat) = (N : Rat)) : Sz k q := by
  obtain ⟨_, e2, e3⟩ := over hD h
  exact ⟨Nat.lt_of_le_of_lt e2 h1, Nat.lt_of_le_of_lt e3 h2⟩
theorem OverD.sz {k n : Nat} {f : Nat → Rat} (h : OverD k n f) : ∀ j, j < n → Sz k (f j) := fun j hj => by
  obtain ⟨D, h1, h2, h3⟩ := h
  obtain ⟨N, n1, n2⟩ := h3 j hj
  exact sz_over h1 h2 n1 n2
theorem OverD.sum {k c n : Nat} {f : Nat → Rat} {e : Nat → Int} (h : OverD k n f) (he : ∀ j, j < n → (e j).natAbs < 2 ^ c) (hn : n ≤ 8) : ∀ i, i ≤ n → Sz (k + c + 4) (sm i (fun j => (e j : Rat) * f j)) := by
  obtain ⟨D, h1, h2, h3⟩ := h
  have key : ∀ i, i ≤ n → ∃ N : Int, N.natAbs ≤ i * 2 ^ (c + k) ∧ sm i (fun j => (e j : Rat) * f j) * (D : Rat) = (N : Rat) := fun i => by
    induction i with
    | zero => exact fun _ => ⟨0, by simp, by show (0 : Rat) * _ = _; rw [Rat.zero_mul]; rfl⟩
    | succ i ih =>
      intro hi
      obtain ⟨N, n1, n2⟩ := ih (by omega)
      obtain ⟨M, m1, m2⟩ := h3 i (by omega)
      refine ⟨N + e i * M, ?_, ?_⟩
      · have p := nm_lt (he i (by omega)) m1
        rw [Nat.add_mul, Nat.one_mul]
        omega
      · show (sm i (fun j => (e j : Rat) * f j) + (e i : Rat) * f i) * (D : Rat) = _
        rw [Rat.add_mul, n2, Rat.mul_assoc, m2, Rat.intCast_add, Rat.intCast_mul]
  intro i hi
  obtain ⟨N, n1, n2⟩ := key i hi
  refine sz_over h1 (Nat.lt_of_lt_of_le h2 (two_pow_le (by omega))) ?_ n2
  have e1 : 2 ^ (k + c + 4) = 16 * 2 ^ (c + k) := by rw [Nat.pow_add, Nat.add_comm k c, Nat.mul_comm]
  rw [e1]
  have p : 0 < 2 ^ (c + k) := Nat.pow_pos (by decide)
  have := Nat.mul_le_mul_right (2 ^ (c + k)) (show i ≤ 8 by omega)
  omega
theorem int_sz {c : Nat} {i : Int} (h : i.natAbs < 2 ^ c) (hc : 1 ≤ c) : Sz c (i : Rat) := by
  refine ⟨?_, h⟩
  show 1 < 2 ^ c
  have := two_pow_le hc
  omega
/-! tables -/
def gd (ns : List Int) (j : Nat) : Int := ns.getD j 0
def ent (tb : List (List Int)) (i j : Nat) : Int := gd (tb.getD i []) j
structure TabOk (m n : Nat) (tb : List (List Int)) : Prop where
  len : tb.length = m
  m1 : 1 ≤ m
  m8 : m ≤ 8
  n1 : 1 ≤ n
  n8 : n ≤ 8
  row : ∀ r ∈ tb, r.length = n
theorem TabOk.at {m n : Nat} {tb : List (List Int)} (h : TabOk m n tb) {i : Nat} (hi : i < m) : ∃ r, tb[i]? = some r ∧ r.length = n ∧ ∀ j, gd r j = ent tb i j := by
  have hl : i < tb.length := by rw [h.len]; exact hi
  refine ⟨tb[i], List.getElem?_eq_getElem hl, h.row _ (List.getElem_mem hl), fun j => ?_⟩
  show gd tb[i] j = gd (tb.getD i []) j
  rw [List.getD_eq_getElem?_getD, List.getElem?_eq_getElem hl]
  rfl
theorem gd_at {ns : List Int} {j : Nat} (h : j < ns.length) : ns[j]? = some (gd ns j) := by
  show _ = some (ns.getD j 0)
  rw [List.getD_eq_getElem?_getD, List.getElem?_eq_getElem h]
  rfl
def colsOf (n : Nat) (tb : List (List Int)) : List (List Int) := (List.range n).map fun j => tb.map fun r => gd r j
end K31
namespace K31
/-! a task and its priced one: the words, the values, the sizes -/
abbrev vA (tb : List (List Int)) : Nat → Nat → Rat := fun i j => ((ent tb i j : Int) : Rat)
abbrev vL (ns : List Int) : Nat → Rat := fun i => ((gd ns i : Int) : Rat)
structure TaskOk (m n : Nat) (tb : List (List Int)) (bs gs : List Int) : Prop where
  ok : TabOk m n tb
  m6 : m ≤ 6
  n6 : n ≤ 6
  lb : bs.length = m
  lg : gs.length = n
  et : ∀ i j, i < m → j < n → (ent tb i j).natAbs ≤ 10 ^ 30
  eb : ∀ i, i < m → (gd bs i).natAbs ≤ 10 ^ 30
  eg : ∀ j, j < n → (gd gs j).natAbs ≤ 10 ^ 30
theorem sz6_lt : ∀ d, d ≤ 6 → sz6 (10 ^ 30) d < 2 ^ 2740
  | 0, _ => by decide +kernel
  | 1, _ => by decide +kernel
  | 2, _ => by decide +kernel
  | 3, _ => by decide +kernel
  | 4, _ => by decide +kernel
  | 5, _ => by decide +kernel
  | 6, _ => by decide +kernel
  | d + 7, h => absurd h (by omega)
/-- one bottom below all entries of a tableau -/
structure Over (k m n : Nat) (U : Tab) (D : Int) : Prop where
  d0 : D ≠ 0
  dk : D.natAbs < 2 ^ k
  A : ∀ i j, i < m → j < n → ∃ N : Int, N.natAbs < 2 ^ k ∧ U.A i j * (D : Rat) = (N : Rat)
  b : ∀ i, i < m → ∃ N : Int, N.natAbs < 2 ^ k ∧ U.b i * (D : Rat) = (N : Rat)
  c : ∀ j, j < n → ∃ N : Int, N.natAbs < 2 ^ k ∧ U.c j * (D : Rat) = (N : Rat)
  v : ∃ N : Int, N.natAbs < 2 ^ k ∧ U.v * (D : Rat) = (N : Rat)
theorem TaskOk.over {m n : Nat} {tb : List (List Int)} {bs gs : List Int} {U : Tab} (h : TaskOk m n tb bs gs) (L : Lab m n U) (E : Eqv m n U (Tab.start n (vA tb) (vL bs) (vL gs))) : ∃ D, Over 2740 m n U D := by
  obtain ⟨D, d0, dS, hE⟩ := bd_all (S := 10 ^ 30) (fun i j hi hj => ⟨ent tb i j, rfl, h.et i j hi hj⟩) (fun i hi => ⟨gd bs i, rfl, h.eb i hi⟩) (fun j hj => ⟨gd gs j, rfl, h.eg j hj⟩) (by decide) _ U L E rfl
  have lt := sz6_lt (cols n m U.B) (Nat.le_trans (cols_le m) h.m6)
  have fin : ∀ q : Rat, (∃ N : Int, N.natAbs ≤ sz6 (10 ^ 30) (cols n m U.B) ∧ q * (D : Rat) = (N : Rat)) → ∃ N : Int, N.natAbs < 2 ^ 2740 ∧ q * (D : Rat) = (N : Rat) := fun q ⟨N, h1, h2⟩ => ⟨N, Nat.lt_of_le_of_lt h1 lt, h2⟩
  refine ⟨D, d0, Nat.lt_of_le_of_lt dS lt, fun i j hi hj => ?_, fun i hi => ?_, fun j hj => ?_, ?_⟩
  · have := fin _ (hE i j (by omega) (by omega))
    rwa [show U.E m n i j = U.A i j by show (if i < m then (if j < n then _ else _) else _) = _; rw [if_pos hi, if_pos hj]] at this
  · have := fin _ (hE i n (by omega) (by omega))
    rwa [show U.E m n i n = U.b i by show (if i < m then (if n < n then _ else _) else _) = _; rw [if_pos hi, if_neg (by omega)]] at this
  · have := fin _ (hE m j (by omega) (by omega))
    rwa [show U.E m n m j = U.c j by show (if m < m then _ else (if j < n then _ else _)) = _; rw [if_neg (by omega), if_pos hj]] at this
  · obtain ⟨N, h1, h2⟩ := fin _ (hE m n (by omega) (by omega))
    rw [show U.E m n m n = 0 - U.v by show (if m < m then _ else (if n < n then _ else _)) = _; rw [if_neg (by omega), if_neg (by omega)]] at h2
    refine ⟨-N, by omega, ?_⟩
    rw [Rat.intCast_neg, ← h2]
    grind
theorem Over.xs {k m n : Nat} {U : Tab} {D : Int} (h : Over k m n U D) (L : Lab m n U) : OverD k n (spd m U.B U.b) := ⟨D, h.d0, h.dk, fun j hj => by
  by_cases q : ∃ i, i < m ∧ U.B i = j
  · obtain ⟨i, hi, rfl⟩ := q
    rw [spd_at (fun a b ha hb e => L.bi a b ha hb e) hi]
    exact h.b i hi
  · rw [spd_off fun i hi e => q ⟨i, hi, e⟩]
    exact ⟨0, Nat.pow_pos (by decide), by rw [Rat.zero_mul]; rfl⟩⟩
theorem Over.ys {k m n : Nat} {U : Tab} {D : Int} (h : Over k m n U D) (L : Lab m n U) : OverD k m (fun i => spd n U.F (fun j => 0 - U.c j) (n + i)) := ⟨D, h.d0, h.dk, fun i hi => by
  show ∃ N : Int, N.natAbs < 2 ^ k ∧ spd n U.F (fun j => 0 - U.c j) (n + i) * (D : Rat) = (N : Rat)
  by_cases q : ∃ j, j < n ∧ U.F j = n + i
  · obtain ⟨j, hj, e⟩ := q
    rw [← e, spd_at (fun a b ha hb e => L.fi a b ha hb e) hj]
    obtain ⟨N, h1, h2⟩ := h.c j hj
    refine ⟨-N, by omega, ?_⟩
    rw [Rat.intCast_neg, ← h2]
    grind
  · rw [spd_off fun j hj e => q ⟨j, hj, e⟩]
    exact ⟨0, Nat.pow_pos (by decide), by rw [Rat.zero_mul]; rfl⟩⟩
/-! ### the priced task -/
section
variable {m n : Nat} {A A' : Nat → Nat → Rat} {b c b' c' : Nat → Rat}
structure Turned (m n : Nat) (A A' : Nat → Nat → Rat) (b c b' c' : Nat → Rat) : Prop where
  hA : ∀ i j, i < m → j < n → A' j i = - A i j
  hb : ∀ j, j < n → b' j = - c j
  hc : ∀ i, i < m → c' i = - b i
theorem Turned.dual (h : Turned m n A A' b c b' c') {y : Nat → Rat} (f : Feas n m A' b' y) : Dual m n A c y := ⟨f.pos, fun j hj => by
  have := f.keeps j hj
  rw [h.hb j hj, sm_congr (g := fun i => - (A i j * y i)) fun i hi => by rw [h.hA i j hi hj]; grind, sm_neg] at this
  grind⟩
theorem Turned.feas (h : Turned m n A A' b c b' c') {x : Nat → Rat} (f : Dual n m A' c' x) : Feas m n A b x := ⟨f.pos, fun i hi => by
  have := f.keeps i hi
  rw [h.hc i hi, sm_congr (g := fun j => - (A i j * x j)) fun j hj => by rw [h.hA i j hi hj]; grind, sm_neg] at this
  grind⟩
theorem Turned.dual0 (h : Turned m n A A' b c b' c') {y : Nat → Rat} (f : Feas n m A' (fun _ => 0) y) : Dual m n A (fun _ => 0) y := ⟨f.pos, fun j hj => by
  have := f.keeps j hj
  rw [sm_congr (g := fun i => - (A i j * y i)) fun i hi => by rw [h.hA i j hi hj]; grind, sm_neg] at this
  grind⟩
theorem Turned.feas0 (h : Turned m n A A' b c b' c') {x : Nat → Rat} (f : Dual n m A' (fun _ => 0) x) : Feas m n A (fun _ => 0) x := ⟨f.pos, fun i hi => by
  have := f.keeps i hi
  rw [sm_congr (g := fun j => - (A i j * x j)) fun j hj => by rw [h.hA i j hi hj]; grind, sm_neg] at this
  grind⟩
theorem Turned.sumc (h : Turned m n A A' b c b' c') (y : Nat → Rat) : sm m (fun i => c' i * y i) = - sm m (fun i => b i * y i) := by
  rw [sm_congr (g := fun i => - (b i * y i)) fun i hi => by rw [h.hc i hi]; grind, sm_neg]
theorem Turned.sumb (h : Turned m n A A' b c b' c') (x : Nat → Rat) : sm n (fun j => b' j * x j) = - sm n (fun j => c j * x j) := by
  rw [sm_congr (g := fun j => - (c j * x j)) fun j hj => by rw [h.hb j hj]; grind, sm_neg]
/-- no ray where there are prices; no proof of none where there is a way -/
theorem no_ray {w y : Nat → Rat} (hw : Feas m n A (fun _ => 0) w) (hy : Dual m n A c y) : sm n (fun j => c j * w j) ≤ 0 := by
  have := weak hw hy
  rwa [sm_zero (f := fun i => 0 * y i) fun i _ => by grind] at this
theorem no_none {x y : Nat → Rat} (hx : Feas m n A b x) (hy : Dual m n A (fun _ => 0) y) : 0 ≤ sm m (fun i => b i * y i) := by
  have := weak hx hy
  rwa [sm_zero (f := fun j => 0 * x j) fun i _ => by grind] at this
variable (h : Turned m n A A' b c b' c') {v v' : Rat} {x y w x' y' w' : Nat → Rat}
include h in
theorem best_none (p : IsBest m n A b c v x y) (q : IsNone n m A' b' y') : False := by
  have := no_ray (h.feas0 q.fy) p.fy
  have e := q.dn
  rw [h.sumb] at e
  grind
include h in
theorem best_open (p : IsBest m n A b c v x y) (q : IsOpen n m A' b' c' x' w') : False := by
  have := no_none p.fx (h.dual0 q.fw)
  have e := q.up
  rw [h.sumc] at e
  grind
include h in
theorem best_best (p : IsBest m n A b c v x y) (q : IsBest n m A' b' c' v' x' y') : v' = - v := by
  have h1 := weak p.fx (h.dual q.fx)
  have h2 := weak (h.feas q.fy) p.fy
  have e1 := q.vx
  have e2 := q.vy
  rw [h.sumc] at e1
  rw [h.sumb] at e2
  rw [p.vx] at h1
  rw [p.vy] at h2
  grind
include h in
theorem open_best (p : IsOpen m n A b c x w) (q : IsBest n m A' b' c' v' x' y') : False := by
  have := no_ray p.fw (h.dual q.fx)
  have e := p.up
  grind
include h in
theorem open_open (p : IsOpen m n A b c x w) (q : IsOpen n m A' b' c' x' w') : False := by
  have := no_none p.fx (h.dual0 q.fw)
  have e := q.up
  rw [h.sumc] at e
  grind
include h in
theorem none_best (p : IsNone m n A b y) (q : IsBest n m A' b' c' v' x' y') : False := by
  have := no_none (h.feas q.fy) p.fy
  have e := p.dn
  grind
end
end K31
namespace K31
/-! ends of arcs that join all places -/
structure Cross (many : Nat) (ends : List (Nat × Nat)) : Prop where
  le : ∀ e ∈ ends, e.1 ≤ many ∧ e.2 ≤ many
  ex : ∀ F : Nat → Bool, (∃ a, a ≤ many ∧ F a = true) → (∃ b, b ≤ many ∧ F b = false) → ∃ e ∈ ends, F e.1 ≠ F e.2
theorem Cross.perm {many : Nat} {l l' : List (Nat × Nat)} (h : Cross many l) (p : l'.Perm l) : Cross many l' :=
  ⟨fun e he => h.le e (p.mem_iff.mp he), fun F a b => let ⟨e, he, hn⟩ := h.ex F a b; ⟨e, p.mem_iff.mpr he, hn⟩⟩
/-- each place but the first is tied to one before it -/
theorem cross_of {many : Nat} {ns : List Nat} {ends : List (Nat × Nat)} (hp : ns.Perm (List.range (many + 1))) (hl : ends.length = many)
    (h : ∀ k, k < many → ∃ r x y, r ≤ k ∧ ns[r]? = some x ∧ ns[k + 1]? = some y ∧ (ends[k]? = some (x, y) ∨ ends[k]? = some (y, x))) : Cross many ends := by
  have ln : ns.length = many + 1 := by rw [hp.length_eq, List.length_range]
  have mem : ∀ x, x ∈ ns ↔ x ≤ many := fun x => by rw [hp.mem_iff, List.mem_range]; omega
  refine ⟨fun e he => ?_, fun F ⟨a, ha, fa⟩ ⟨b, hb, fb⟩ => ?_⟩
  · obtain ⟨k, hk, rfl⟩ := List.getElem_of_mem he
    obtain ⟨r, x, y, hr, h1, h2, h3⟩ := h k (by omega)
    have hx := (mem x).mp (List.mem_of_getElem? h1)
    have hy := (mem y).mp (List.mem_of_getElem? h2)
    rw [List.getElem?_eq_getElem hk] at h3
    rcases h3 with h3 | h3
    · rw [Option.some.inj h3]; exact ⟨hx, hy⟩
    · rw [Option.some.inj h3]; exact ⟨hy, hx⟩
  · refine Classical.byContradiction fun hno => ?_
    have same : ∀ e ∈ ends, F e.1 = F e.2 := fun e he => Classical.byContradiction fun q => hno ⟨e, he, q⟩
    obtain ⟨x0, h0⟩ : ∃ x0, ns[0]? = some x0 := ⟨_, List.getElem?_eq_getElem (by omega)⟩
    have all : ∀ k, k ≤ many → ∀ j, j ≤ k → ∀ x, ns[j]? = some x → F x = F x0 := fun k => by
      induction k with
      | zero =>
        intro _ j hj x hx
        have : j = 0 := by omega
        subst this
        rw [h0] at hx
        rw [Option.some.inj hx]
      | succ k ih =>
        intro hk j hj x hx
        by_cases q : j ≤ k
        · exact ih (by omega) j q x hx
        · have : j = k + 1 := by omega
          subst this
          obtain ⟨r, u, v, hr, h1, h2, h3⟩ := h k (by omega)
          rw [h2] at hx
          cases hx
          have hu := ih (by omega) r hr u h1
          rcases h3 with h3 | h3
          · rw [← hu]; exact (same _ (List.mem_of_getElem? h3)).symm
          · rw [← hu]; exact same _ (List.mem_of_getElem? h3)
    have val : ∀ x, x ≤ many → F x = F x0 := fun x hx => by
      obtain ⟨j, hj, e⟩ := List.getElem_of_mem ((mem x).mpr hx)
      exact all many (Nat.le_refl _) j (by omega) x (by rw [← e]; exact List.getElem?_eq_getElem hj)
    rw [val a ha] at fa
    rw [val b hb, fa] at fb
    cases fb
theorem perm_map {α β : Type} {f : α → β} : ∀ {es : List β} {fs : List β}, es.Perm fs → ∀ {l : List α}, fs = l.map f → ∃ l' : List α, es = l'.map f ∧ l'.Perm l := by
  intro es fs h
  induction h with
  | nil => exact fun {l} e => ⟨[], rfl, by cases l with | nil => exact .nil | cons a l => cases e⟩
  | cons x p ih =>
    intro l e
    cases l with
    | nil => cases e
    | cons a l =>
      injection e with e1 e2
      obtain ⟨l', h1, h2⟩ := ih e2
      exact ⟨a :: l', by rw [h1, e1]; rfl, h2.cons a⟩
  | swap x y p =>
    intro l e
    cases l with
    | nil => cases e
    | cons a l =>
      injection e with e1 e2
      cases l with
      | nil => cases e2
      | cons b l =>
        injection e2 with e3 e4
        exact ⟨b :: a :: l, by rw [e1, e3, e4]; rfl, .swap _ _ _⟩
  | trans p q ih1 ih2 =>
    intro l e
    obtain ⟨l1, h1, h2⟩ := ih2 e
    obtain ⟨l2, h3, h4⟩ := ih1 h1
    exact ⟨l2, h3, h4.trans h2⟩
end K31
namespace K31
/-! the least bottom of some fractions -/
def lcF (f : Nat → Rat) : Nat → Nat
  | 0 => 1
  | i + 1 => Nat.lcm (lcF f i) (f i).den
theorem lcF_pos {f : Nat → Rat} : ∀ i, 0 < lcF f i
  | 0 => by show 0 < 1; decide
  | i + 1 => Nat.lcm_pos (lcF_pos i) (Nat.pos_of_ne_zero (f i).den_nz)
theorem lcF_dvd {f : Nat → Rat} : ∀ {i j : Nat}, j < i → (f j).den ∣ lcF f i
  | i + 1, j, h => by
    by_cases q : j = i
    · subst q; exact Nat.dvd_lcm_right _ _
    · exact Nat.dvd_trans (lcF_dvd (show j < i by omega)) (Nat.dvd_lcm_left _ _)
theorem lcF_to {f : Nat → Rat} {D : Nat} : ∀ {i : Nat}, (∀ j, j < i → (f j).den ∣ D) → lcF f i ∣ D
  | 0, _ => Nat.one_dvd D
  | i + 1, h => Nat.lcm_dvd (lcF_to fun j hj => h j (by omega)) (h i (by omega))
theorem OverD.lc {k n : Nat} {f : Nat → Rat} (h : OverD k n f) : ∀ i, i ≤ n → lcF f i < 2 ^ k := fun i hi => by
  obtain ⟨D, h1, h2, h3⟩ := h
  have d : lcF f i ∣ D.natAbs := lcF_to fun j hj => by
    obtain ⟨N, _, n2⟩ := h3 j (by omega)
    exact Int.ofNat_dvd_left.mp (over h1 n2).1
  exact Nat.lt_of_le_of_lt (Nat.le_of_dvd (by omega) d) h2
def topF (f : Nat → Rat) (n j : Nat) : Int := (f j).num * ((lcF f n / (f j).den : Nat) : Int)
theorem topF_eq {f : Nat → Rat} {n j : Nat} (h : j < n) : f j * ((lcF f n : Nat) : Rat) = ((topF f n j : Int) : Rat) := by
  obtain ⟨c, hc⟩ := lcF_dvd (f := f) h
  have e : lcF f n / (f j).den = c := by rw [hc]; exact Nat.mul_div_cancel_left c (Nat.pos_of_ne_zero (f j).den_nz)
  unfold topF
  rw [e, hc]
  have h1 : (f j) * ((f j).den : Rat) = ((f j).num : Rat) := by
    have h2 : ((f j).den : Rat) ≠ 0 := fun z => (f j).den_nz (Rat.natCast_inj.mp z)
    have h3 : ((f j).num : Rat) / ((f j).den : Rat) = f j := (Rat.mkRat_eq_div (f j).num (f j).den).symm.trans (Rat.mkRat_self (f j))
    have := Rat.div_mul_cancel (a := ((f j).num : Rat)) h2
    rwa [h3] at this
  rw [Rat.natCast_mul, ← Rat.mul_assoc, h1, Rat.intCast_mul, Rat.intCast_natCast]
theorem OverD.top {k n j : Nat} {f : Nat → Rat} (h : OverD k n f) (hj : j < n) : (topF f n j).natAbs < 2 ^ k := by
  obtain ⟨D, h1, h2, h3⟩ := h
  have d : lcF f n ∣ D.natAbs := lcF_to fun j hj => by
    obtain ⟨N, _, n2⟩ := h3 j hj
    exact Int.ofNat_dvd_left.mp (over h1 n2).1
  obtain ⟨N, n1, n2⟩ := h3 j hj
  obtain ⟨c, hc⟩ := d
  have e := topF_eq (f := f) hj
  -- |top| * c = |N|
  have e2 : ((topF f n j).natAbs : Nat) * c = N.natAbs := by
    have key : f j * ((D.natAbs : Nat) : Rat) = ((topF f n j * (c : Int) : Int) : Rat) := by
      rw [hc, Rat.natCast_mul, ← Rat.mul_assoc, e, Rat.intCast_mul, Rat.intCast_natCast]
    rcases Int.natAbs_eq D with q | q
    · have k2 : f j * (D : Rat) = ((topF f n j * (c : Int) : Int) : Rat) := by
        rw [q, Rat.intCast_natCast]; exact key
      rw [n2] at k2
      have := Rat.intCast_inj.mp k2
      rw [this, Int.natAbs_mul, Int.natAbs_natCast]
    · have k2 : f j * (D : Rat) = ((-(topF f n j * (c : Int)) : Int) : Rat) := by
        rw [q, Rat.intCast_neg, Rat.intCast_neg, Rat.intCast_natCast, ← key]
        grind
      rw [n2] at k2
      have := Rat.intCast_inj.mp k2
      rw [this, Int.natAbs_neg, Int.natAbs_mul, Int.natAbs_natCast]
  have c0 : 0 < c := by
    rcases Nat.eq_zero_or_pos c with z | z
    · rw [z, Nat.mul_zero] at hc; omega
    · exact z
  have : (topF f n j).natAbs ≤ N.natAbs := by rw [← e2]; exact Nat.le_mul_of_pos_right _ c0
  omega
/-- sums over the tops -/
def smI (n : Nat) (g : Nat → Int) : Int := match n with
  | 0 => 0
  | n + 1 => smI n g + g n
theorem smI_top {f : Nat → Rat} {n : Nat} (e : Nat → Int) : ∀ {i : Nat}, i ≤ n → sm i (fun j => (e j : Rat) * f j) * ((lcF f n : Nat) : Rat) = ((smI i (fun j => e j * topF f n j) : Int) : Rat)
  | 0, _ => by show (0 : Rat) * _ = _; rw [Rat.zero_mul]; rfl
  | i + 1, h => by
    show (sm i (fun j => (e j : Rat) * f j) + (e i : Rat) * f i) * _ = ((smI i (fun j => e j * topF f n j) + e i * topF f n i : Int) : Rat)
    rw [Rat.add_mul, smI_top e (by omega), Rat.mul_assoc, topF_eq (by omega), Rat.intCast_add, Rat.intCast_mul]
theorem smI_bd {g : Nat → Int} {B : Nat} : ∀ {i : Nat}, (∀ j, j < i → (g j).natAbs ≤ B) → (smI i g).natAbs ≤ i * B
  | 0, _ => by simp [smI]
  | i + 1, h => by
    have h1 := smI_bd (g := g) (B := B) (i := i) fun j hj => h j (by omega)
    have h2 := h i (by omega)
    show (smI i g + g i).natAbs ≤ (i + 1) * B
    rw [Nat.add_mul, Nat.one_mul]
    omega
end K31
namespace K31
open PySem PySem.Spec PyProof.Rows L2
def top (i : Nat) : Stmt := PySem.Challenge.pw_signbook_k31_whole_priced_tasks.main.body.getD i (.Pass ⟨0, 0, 0, 0⟩)
abbrev s_common : Stmt := top 8
abbrev s_is_whole : Stmt := top 9
abbrev s_is_fraction : Stmt := top 10
abbrev s_lowest : Stmt := top 11
abbrev s_plus : Stmt := top 12
abbrev s_minus : Stmt := top 13
abbrev s_times : Stmt := top 14
abbrev s_divided : Stmt := top 15
abbrev s_under : Stmt := top 16
abbrev s_total : Stmt := top 17
abbrev s_is_table : Stmt := top 20
abbrev s_check_table : Stmt := top 21
abbrev s_columns_of : Stmt := top 22
abbrev s_check_wholes : Stmt := top 24
abbrev s_check_task : Stmt := top 25
abbrev s_are_from_nought : Stmt := top 26
abbrev s_weighed : Stmt := top 27
abbrev s_is_above : Stmt := top 28
abbrev s_keeps : Stmt := top 29
abbrev m___init__ : Stmt := inClass (top 30) 0
abbrev m_turn : Stmt := inClass (top 30) 1
abbrev m_less : Stmt := inClass (top 30) 2
abbrev m_settle : Stmt := inClass (top 30) 3
abbrev m_climb : Stmt := inClass (top 30) 4
abbrev m_first_met : Stmt := inClass (top 30) 5
abbrev m_spread_out : Stmt := inClass (top 30) 6
abbrev m_xs : Stmt := inClass (top 30) 7
abbrev m_prices : Stmt := inClass (top 30) 8
abbrev m_shown : Stmt := inClass (top 30) 9
abbrev m_way : Stmt := inClass (top 30) 10
abbrev s_best : Stmt := top 31
abbrev s_are_prices : Stmt := top 32
abbrev s_is_best : Stmt := top 33
abbrev s_is_open : Stmt := top 34
abbrev s_is_answer : Stmt := top 35
abbrev s_priced : Stmt := top 36
abbrev s__law_source_of : Stmt := top 38
abbrev s__law_next : Stmt := top 39
abbrev s__law_one : Stmt := top 40
abbrev s__law_cell_at : Stmt := top 41
abbrev s__law_mixed : Stmt := top 42
abbrev s__law_ends : Stmt := top 43
abbrev s__law_net : Stmt := top 44
abbrev s__law_net_drawn : Stmt := top 45
abbrev s__law_stretches : Stmt := top 46
abbrev s__law_swung : Stmt := top 47
abbrev s__law_table : Stmt := top 48
abbrev s__law_divisor : Stmt := top 49
abbrev s__law_lowest : Stmt := top 50
abbrev s__law_common : Stmt := top 51
abbrev s__law_is_number : Stmt := top 52
abbrev s__law_is_fraction : Stmt := top 53
abbrev s__law_are_fractions : Stmt := top 54
abbrev s__law_positive : Stmt := top 55
abbrev s__law_sums : Stmt := top 56
abbrev s__law_keeps : Stmt := top 57
abbrev s__law_worth : Stmt := top 58
abbrev s__law_columns : Stmt := top 59
abbrev s__law_prices : Stmt := top 60
abbrev s__law_best_right : Stmt := top 61
abbrev s__law_open_right : Stmt := top 62
abbrev s__law_right : Stmt := top 63
abbrev s__law_task : Stmt := top 64
abbrev s__law_spent : Stmt := top 65
abbrev s__law_priced : Stmt := top 66
abbrev s_law : Stmt := top 67
def d_s_common : He.DefD := ⟨("common", none), "common", "common", defArgs s_common, defBody s_common, defScope s_common, [], []⟩
def d_s_is_whole : He.DefD := ⟨("is_whole", none), "is_whole", "is_whole", defArgs s_is_whole, defBody s_is_whole, defScope s_is_whole, [], []⟩
def d_s_is_fraction : He.DefD := ⟨("is_fraction", none), "is_fraction", "is_fraction", defArgs s_is_fraction, defBody s_is_fraction, defScope s_is_fraction, [], []⟩
def d_s_lowest : He.DefD := ⟨("lowest", none), "lowest", "lowest", defArgs s_lowest, defBody s_lowest, defScope s_lowest, [], []⟩
def d_s_plus : He.DefD := ⟨("plus", none), "plus", "plus", defArgs s_plus, defBody s_plus, defScope s_plus, [], []⟩
def d_s_minus : He.DefD := ⟨("minus", none), "minus", "minus", defArgs s_minus, defBody s_minus, defScope s_minus, [], []⟩
def d_s_times : He.DefD := ⟨("times", none), "times", "times", defArgs s_times, defBody s_times, defScope s_times, [], []⟩
def d_s_divided : He.DefD := ⟨("divided", none), "divided", "divided", defArgs s_divided, defBody s_divided, defScope s_divided, [], []⟩
def d_s_under : He.DefD := ⟨("under", none), "under", "under", defArgs s_under, defBody s_under, defScope s_under, [], []⟩
def d_s_total : He.DefD := ⟨("total", none), "total", "total", defArgs s_total, defBody s_total, defScope s_total, [], []⟩
def d_s_is_table : He.DefD := ⟨("is_table", none), "is_table", "is_table", defArgs s_is_table, defBody s_is_table, defScope s_is_table, [], []⟩
def d_s_check_table : He.DefD := ⟨("check_table", none), "check_table", "check_table", defArgs s_check_table, defBody s_check_table, defScope s_check_table, [], []⟩
def d_s_columns_of : He.DefD := ⟨("columns_of", none), "columns_of", "columns_of", defArgs s_columns_of, defBody s_columns_of, defScope s_columns_of, [], []⟩
def d_s_check_wholes : He.DefD := ⟨("check_wholes", none), "check_wholes", "check_wholes", defArgs s_check_wholes, defBody s_check_wholes, defScope s_check_wholes, [], []⟩
def d_s_check_task : He.DefD := ⟨("check_task", none), "check_task", "check_task", defArgs s_check_task, defBody s_check_task, defScope s_check_task, [], []⟩
def d_s_are_from_nought : He.DefD := ⟨("are_from_nought", none), "are_from_nought", "are_from_nought", defArgs s_are_from_nought, defBody s_are_from_nought, defScope s_are_from_nought, [], []⟩
def d_s_weighed : He.DefD := ⟨("weighed", none), "weighed", "weighed", defArgs s_weighed, defBody s_weighed, defScope s_weighed, [], []⟩
def d_s_is_above : He.DefD := ⟨("is_above", none), "is_above", "is_above", defArgs s_is_above, defBody s_is_above, defScope s_is_above, [], []⟩
def d_s_keeps : He.DefD := ⟨("keeps", none), "keeps", "keeps", defArgs s_keeps, defBody s_keeps, defScope s_keeps, [], []⟩
def d_m___init__ : He.DefD := ⟨("Board", some "__init__"), "__init__", "Board.__init__", defArgs m___init__, defBody m___init__, defScope m___init__, [], []⟩
def d_m_turn : He.DefD := ⟨("Board", some "turn"), "turn", "Board.turn", defArgs m_turn, defBody m_turn, defScope m_turn, [], []⟩
def d_m_less : He.DefD := ⟨("Board", some "less"), "less", "Board.less", defArgs m_less, defBody m_less, defScope m_less, [], []⟩
def d_m_settle : He.DefD := ⟨("Board", some "settle"), "settle", "Board.settle", defArgs m_settle, defBody m_settle, defScope m_settle, [], []⟩
def d_m_climb : He.DefD := ⟨("Board", some "climb"), "climb", "Board.climb", defArgs m_climb, defBody m_climb, defScope m_climb, [], []⟩
def d_m_first_met : He.DefD := ⟨("Board", some "first_met"), "first_met", "Board.first_met", defArgs m_first_met, defBody m_first_met, defScope m_first_met, [], []⟩
def d_m_spread_out : He.DefD := ⟨("Board", some "spread_out"), "spread_out", "Board.spread_out", defArgs m_spread_out, defBody m_spread_out, defScope m_spread_out, [], []⟩
def d_m_xs : He.DefD := ⟨("Board", some "xs"), "xs", "Board.xs", defArgs m_xs, defBody m_xs, defScope m_xs, [], []⟩
def d_m_prices : He.DefD := ⟨("Board", some "prices"), "prices", "Board.prices", defArgs m_prices, defBody m_prices, defScope m_prices, [], []⟩
def d_m_shown : He.DefD := ⟨("Board", some "shown"), "shown", "Board.shown", defArgs m_shown, defBody m_shown, defScope m_shown, [], []⟩
def d_m_way : He.DefD := ⟨("Board", some "way"), "way", "Board.way", defArgs m_way, defBody m_way, defScope m_way, [], []⟩
def d_s_best : He.DefD := ⟨("best", none), "best", "best", defArgs s_best, defBody s_best, defScope s_best, [], []⟩
def d_s_are_prices : He.DefD := ⟨("are_prices", none), "are_prices", "are_prices", defArgs s_are_prices, defBody s_are_prices, defScope s_are_prices, [], []⟩
def d_s_is_best : He.DefD := ⟨("is_best", none), "is_best", "is_best", defArgs s_is_best, defBody s_is_best, defScope s_is_best, [], []⟩
def d_s_is_open : He.DefD := ⟨("is_open", none), "is_open", "is_open", defArgs s_is_open, defBody s_is_open, defScope s_is_open, [], []⟩
def d_s_is_answer : He.DefD := ⟨("is_answer", none), "is_answer", "is_answer", defArgs s_is_answer, defBody s_is_answer, defScope s_is_answer, [], []⟩
def d_s_priced : He.DefD := ⟨("priced", none), "priced", "priced", defArgs s_priced, defBody s_priced, defScope s_priced, [], []⟩
def d_s__law_source_of : He.DefD := ⟨("_law_source_of", none), "_law_source_of", "_law_source_of", defArgs s__law_source_of, defBody s__law_source_of, defScope s__law_source_of, [], []⟩
def d_s__law_next : He.DefD := ⟨("_law_next", none), "_law_next", "_law_next", defArgs s__law_next, defBody s__law_next, defScope s__law_next, [], []⟩
def d_s__law_one : He.DefD := ⟨("_law_one", none), "_law_one", "_law_one", defArgs s__law_one, defBody s__law_one, defScope s__law_one, [], []⟩
def d_s__law_cell_at : He.DefD := ⟨("_law_cell_at", none), "_law_cell_at", "_law_cell_at", defArgs s__law_cell_at, defBody s__law_cell_at, defScope s__law_cell_at, [], []⟩
def d_s__law_mixed : He.DefD := ⟨("_law_mixed", none), "_law_mixed", "_law_mixed", defArgs s__law_mixed, defBody s__law_mixed, defScope s__law_mixed, [], []⟩
def d_s__law_ends : He.DefD := ⟨("_law_ends", none), "_law_ends", "_law_ends", defArgs s__law_ends, defBody s__law_ends, defScope s__law_ends, [], []⟩
def d_s__law_net : He.DefD := ⟨("_law_net", none), "_law_net", "_law_net", defArgs s__law_net, defBody s__law_net, defScope s__law_net, [], []⟩
def d_s__law_net_drawn : He.DefD := ⟨("_law_net_drawn", none), "_law_net_drawn", "_law_net_drawn", defArgs s__law_net_drawn, defBody s__law_net_drawn, defScope s__law_net_drawn, [], []⟩
def d_s__law_stretches : He.DefD := ⟨("_law_stretches", none), "_law_stretches", "_law_stretches", defArgs s__law_stretches, defBody s__law_stretches, defScope s__law_stretches, [], []⟩
def d_s__law_swung : He.DefD := ⟨("_law_swung", none), "_law_swung", "_law_swung", defArgs s__law_swung, defBody s__law_swung, defScope s__law_swung, [], []⟩
def d_s__law_table : He.DefD := ⟨("_law_table", none), "_law_table", "_law_table", defArgs s__law_table, defBody s__law_table, defScope s__law_table, [], []⟩
def d_s__law_divisor : He.DefD := ⟨("_law_divisor", none), "_law_divisor", "_law_divisor", defArgs s__law_divisor, defBody s__law_divisor, defScope s__law_divisor, [], []⟩
def d_s__law_lowest : He.DefD := ⟨("_law_lowest", none), "_law_lowest", "_law_lowest", defArgs s__law_lowest, defBody s__law_lowest, defScope s__law_lowest, [], []⟩
def d_s__law_common : He.DefD := ⟨("_law_common", none), "_law_common", "_law_common", defArgs s__law_common, defBody s__law_common, defScope s__law_common, [], []⟩
def d_s__law_is_number : He.DefD := ⟨("_law_is_number", none), "_law_is_number", "_law_is_number", defArgs s__law_is_number, defBody s__law_is_number, defScope s__law_is_number, [], []⟩
def d_s__law_is_fraction : He.DefD := ⟨("_law_is_fraction", none), "_law_is_fraction", "_law_is_fraction", defArgs s__law_is_fraction, defBody s__law_is_fraction, defScope s__law_is_fraction, [], []⟩
def d_s__law_are_fractions : He.DefD := ⟨("_law_are_fractions", none), "_law_are_fractions", "_law_are_fractions", defArgs s__law_are_fractions, defBody s__law_are_fractions, defScope s__law_are_fractions, [], []⟩
def d_s__law_positive : He.DefD := ⟨("_law_positive", none), "_law_positive", "_law_positive", defArgs s__law_positive, defBody s__law_positive, defScope s__law_positive, [], []⟩
def d_s__law_sums : He.DefD := ⟨("_law_sums", none), "_law_sums", "_law_sums", defArgs s__law_sums, defBody s__law_sums, defScope s__law_sums, [], []⟩
def d_s__law_keeps : He.DefD := ⟨("_law_keeps", none), "_law_keeps", "_law_keeps", defArgs s__law_keeps, defBody s__law_keeps, defScope s__law_keeps, [], []⟩
def d_s__law_worth : He.DefD := ⟨("_law_worth", none), "_law_worth", "_law_worth", defArgs s__law_worth, defBody s__law_worth, defScope s__law_worth, [], []⟩
def d_s__law_columns : He.DefD := ⟨("_law_columns", none), "_law_columns", "_law_columns", defArgs s__law_columns, defBody s__law_columns, defScope s__law_columns, [], []⟩
def d_s__law_prices : He.DefD := ⟨("_law_prices", none), "_law_prices", "_law_prices", defArgs s__law_prices, defBody s__law_prices, defScope s__law_prices, [], []⟩
def d_s__law_best_right : He.DefD := ⟨("_law_best_right", none), "_law_best_right", "_law_best_right", defArgs s__law_best_right, defBody s__law_best_right, defScope s__law_best_right, [], []⟩
def d_s__law_open_right : He.DefD := ⟨("_law_open_right", none), "_law_open_right", "_law_open_right", defArgs s__law_open_right, defBody s__law_open_right, defScope s__law_open_right, [], []⟩
def d_s__law_right : He.DefD := ⟨("_law_right", none), "_law_right", "_law_right", defArgs s__law_right, defBody s__law_right, defScope s__law_right, [], []⟩
def d_s__law_task : He.DefD := ⟨("_law_task", none), "_law_task", "_law_task", defArgs s__law_task, defBody s__law_task, defScope s__law_task, [], []⟩
def d_s__law_spent : He.DefD := ⟨("_law_spent", none), "_law_spent", "_law_spent", defArgs s__law_spent, defBody s__law_spent, defScope s__law_spent, [], []⟩
def d_s__law_priced : He.DefD := ⟨("_law_priced", none), "_law_priced", "_law_priced", defArgs s__law_priced, defBody s__law_priced, defScope s__law_priced, [], []⟩
def d_s_law : He.DefD := ⟨("law", none), "law", "law", defArgs s_law, defBody s_law, defScope s_law, [], []⟩
def fn : List He.DefD := [d_s_common, d_s_is_whole, d_s_is_fraction, d_s_lowest, d_s_plus, d_s_minus, d_s_times, d_s_divided, d_s_under, d_s_total, d_s_is_table, d_s_check_table, d_s_columns_of, d_s_check_wholes, d_s_check_task, d_s_are_from_nought, d_s_weighed, d_s_is_above, d_s_keeps, d_m___init__, d_m_turn, d_m_less, d_m_settle, d_m_climb, d_m_first_met, d_m_spread_out, d_m_xs, d_m_prices, d_m_shown, d_m_way, d_s_best, d_s_are_prices, d_s_is_best, d_s_is_open, d_s_is_answer, d_s_priced, d_s__law_source_of, d_s__law_next, d_s__law_one, d_s__law_cell_at, d_s__law_mixed, d_s__law_ends, d_s__law_net, d_s__law_net_drawn, d_s__law_stretches, d_s__law_swung, d_s__law_table, d_s__law_divisor, d_s__law_lowest, d_s__law_common, d_s__law_is_number, d_s__law_is_fraction, d_s__law_are_fractions, d_s__law_positive, d_s__law_sums, d_s__law_keeps, d_s__law_worth, d_s__law_columns, d_s__law_prices, d_s__law_best_right, d_s__law_open_right, d_s__law_right, d_s__law_task, d_s__law_spent, d_s__law_priced, d_s_law]
def fa : List He.Fa := [.glo "common", .glo "is_whole", .glo "is_fraction", .glo "lowest", .glo "plus", .glo "minus", .glo "times", .glo "divided", .glo "under", .glo "total", .glo "is_table", .glo "check_table", .glo "columns_of", .glo "check_wholes", .glo "check_task", .glo "are_from_nought", .glo "weighed", .glo "is_above", .glo "keeps", .glo "best", .glo "are_prices", .glo "is_best", .glo "is_open", .glo "is_answer", .glo "priced", .glo "_law_source_of", .glo "_law_next", .glo "_law_one", .glo "_law_cell_at", .glo "_law_mixed", .glo "_law_ends", .glo "_law_net", .glo "_law_net_drawn", .glo "_law_stretches", .glo "_law_swung", .glo "_law_table", .glo "_law_divisor", .glo "_law_lowest", .glo "_law_common", .glo "_law_is_number", .glo "_law_is_fraction", .glo "_law_are_fractions", .glo "_law_positive", .glo "_law_sums", .glo "_law_keeps", .glo "_law_worth", .glo "_law_columns", .glo "_law_prices", .glo "_law_best_right", .glo "_law_open_right", .glo "_law_right", .glo "_law_task", .glo "_law_spent", .glo "_law_priced", .glo "law", .glo "Board", .free "abs", .free "isinstance", .free "int", .free "bool", .free "list", .free "tuple", .free "str", .free "len", .free "all", .free "any", .free "range", .free "min", .free "zip", .free "enumerate", .free "sum", .free "repr", .int "MOST_PLACES" 8, .cls "Board", .mkr "Board", .meth "Board" "__init__", .meth "Board" "turn", .meth "Board" "less", .meth "Board" "settle", .meth "Board" "climb", .meth "Board" "first_met", .meth "Board" "spread_out", .meth "Board" "xs", .meth "Board" "prices", .meth "Board" "shown", .meth "Board" "way", .noat "Board" "wide", .noat "Board" "free", .noat "Board" "basic", .noat "Board" "rows", .noat "Board" "has", .noat "Board" "gains", .noat "Board" "value", .glo "NOUGHT", .glo "ONE"]
def tf : List He.Defn := [("Board", some "settle"), ("Board", some "climb")]
def ex (K : PySem.W.Frag) : Bool := He.tupB K "NOUGHT" [.int 0, .int 1] && He.tupB K "ONE" [.int 1, .int 1] && decide ((He.cT K ("Board", some "settle")).2 ≠ (He.cT K ("Board", some "climb")).2)
def names0 : List PySem.Str := ["SignError", "NoFraction", "BadTable", "NoList", "NOUGHT", "ONE", "common", "is_whole", "is_fraction", "lowest", "plus", "minus"]
def names1 : List PySem.Str := ["times", "divided", "under", "total", "MOST_PLACES", "is_table", "check_table", "columns_of", "check_wholes", "check_task", "are_from_nought", "weighed"]
def names2 : List PySem.Str := ["is_above", "keeps", "Board", "best", "are_prices", "is_best", "is_open", "is_answer", "priced", "_law_source_of", "_law_next", "_law_one"]
def names3 : List PySem.Str := ["_law_cell_at", "_law_mixed", "_law_ends", "_law_net", "_law_net_drawn", "_law_stretches", "_law_swung", "_law_table", "_law_divisor", "_law_lowest", "_law_common", "_law_is_number"]
def names4 : List PySem.Str := ["_law_is_fraction", "_law_are_fractions", "_law_positive", "_law_sums", "_law_keeps", "_law_worth", "_law_columns", "_law_prices", "_law_best_right", "_law_open_right", "_law_right", "_law_task"]
def names5 : List PySem.Str := ["_law_spent", "_law_priced"]
def names : List PySem.Str := names0 ++ names1 ++ names2 ++ names3 ++ names4 ++ names5
end K31
namespace K31
open PySem PySem.Spec PyProof.Rows L2
set_option maxHeartbeats 0
abbrev R : PySem.W.OpenRow := PySem.W.OpenLaw.row PySem.Challenge.rw_signbook_k31_whole_priced_tasks
abbrev hk : PySem.W.Hook := He.hookX 6 fa fn [] tf ex
def ob (s : PySem.W.SharedT) : He.AlX := He.obsX 6 fa fn [] tf ex (HandSHeadRun.getT s)
theorem ob_eq (s : PySem.W.SharedT) : ob s = hk.obs s.abs := He.obsX_eq (HandSHeadRun.getT_eq s)
theorem run (w : World) : HandSHeadRun.RunEq R (PySem.W.view R.prog [67]) hk ob 6000 names w := by
  intro os
  kernel_rfl
end K31
namespace K31
open PySem PySem.Spec PyProof.Rows L2
/-! ### the heap with some addresses hidden -/
def hid (S : List Addr) (H : Hp) : Hp := fun b => if b ∈ S then none else H b
theorem hid_in {S : List Addr} {H : Hp} {b : Addr} (h : b ∈ S) : hid S H b = none := if_pos h
theorem hid_out {S : List Addr} {H : Hp} {b : Addr} (h : b ∉ S) : hid S H b = H b := if_neg h
theorem hid_nil {H : Hp} : hid [] H = H := by funext b; exact if_neg (by simp)
theorem hid_le {S : List Addr} {H : Hp} : Same (hid S H) H := fun b o e => by
  by_cases h : b ∈ S
  · rw [hid_in h] at e; cases e
  · rw [hid_out h] at e; exact e
theorem hid_of {S : List Addr} {H : Hp} {b : Addr} {o : HO} (h : hid S H b = some o) : b ∉ S ∧ H b = some o := by
  by_cases q : b ∈ S
  · rw [hid_in q] at h; cases h
  · rw [hid_out q] at h; exact ⟨q, h⟩
theorem same_hid {S : List Addr} {H H' : Hp} (s : Same H H') : Same (hid S H) (hid S H') := fun b o e => by
  obtain ⟨h1, h2⟩ := hid_of e
  rw [hid_out h1]; exact s b o h2
theorem hid_upd_in {S : List Addr} {H : Hp} {a : Addr} {o : HO} (h : a ∈ S) : hid S (upd H a o) = hid S H := by
  funext b
  by_cases q : b ∈ S
  · rw [hid_in q, hid_in q]
  · rw [hid_out q, hid_out q, upd_ne (a := a) (b := b) fun e => q (by rw [e]; exact h)]
theorem hid_upd_out {S : List Addr} {H : Hp} {a : Addr} {o : HO} (h : a ∉ S) : hid S (upd H a o) = upd (hid S H) a o := by
  funext b
  by_cases q : b ∈ S
  · rw [hid_in q, upd_ne (a := a) (b := b) fun e => h (by rw [← e]; exact q), hid_in q]
  · rw [hid_out q]
    by_cases e : b = a
    · subst e; rw [upd_same, upd_same]
    · rw [upd_ne e, upd_ne e, hid_out q]
end K31
namespace L2
open PySem PySem.Spec PyProof.Rows
/-- a new object -/
theorem Same.new {H : Hp} {p : Addr} {o : HO} (h : H p = none) : Same H (upd H p o) := fun b u e => by
  rw [upd_ne (ne_of_none e h)]; exact e
theorem Same.put {H H' : Hp} {p : Addr} {o : HO} (s : Same H H') (h : H p = none) : Same H (upd H' p o) := fun b u e => by
  rw [upd_ne (ne_of_none e h)]; exact s b u e
end L2
namespace K31
open PySem PySem.Spec PyProof.Rows L2
theorem hid_cons {a : Addr} {S : List Addr} {H : Hp} : Same (hid (a :: S) H) (hid S H) := fun b o e => by
  obtain ⟨h1, h2⟩ := hid_of e
  rw [hid_out fun q => h1 (List.mem_cons_of_mem _ q)]; exact h2
/-- what is hidden is there -/
def There (S : List Addr) (H : Hp) : Prop := ∀ a ∈ S, ∃ o, H a = some o ∧ ∀ ps, o ≠ .tbl ps
theorem There.nil {H : Hp} : There [] H := fun _ h => nomatch h
theorem There.same {S : List Addr} {H H' : Hp} (t : There S H) (s : Same H H') : There S H' := fun a h => let ⟨o, e, n⟩ := t a h; ⟨o, s _ _ e, n⟩
theorem There.cons {S : List Addr} {H : Hp} {a : Addr} {o : HO} (h : H a = some o) (t : There S H) (nt : ∀ ps, o ≠ .tbl ps := by intro _ q; cases q) : There (a :: S) H := fun b hb => by
  rcases List.mem_cons.mp hb with e | e
  · rw [e]; exact ⟨o, h, nt⟩
  · exact t b e
theorem There.upd {S : List Addr} {H : Hp} {a : Addr} {o : HO} (t : There S H) (nt : ∀ ps, o ≠ .tbl ps := by intro _ q; cases q) : There S (upd H a o) := fun b hb => by
  by_cases e : b = a
  · rw [e, upd_same]; exact ⟨o, rfl, nt⟩
  · rw [upd_ne e]; exact t b hb
theorem There.new {S : List Addr} {H : Hp} {p : Addr} (t : There S H) (h : H p = none) : p ∉ S := fun q => by
  obtain ⟨o, e, _⟩ := t p q
  rw [h] at e
  cases e
/-! ### data -/
theorem sqT_same {K : PySem.W.Frag} {H H' : Hp} {a : Addr} {xs : List V} (e : Same H H') (h : SqT K H a xs) : SqT K H' a xs := by
  rcases h with (h | ⟨o, h⟩) | h
  · exact .inl (.inl (e _ _ h))
  · exact .inl (.inr ⟨o, e _ _ h⟩)
  · exact .inr h
mutual
theorem dp_same {K : PySem.W.Frag} {H H' : Hp} (e : Same H H') : ∀ {v : V} (d : PyData), Dp K H v d → Dp K H' v d
  | _, .none, h => by cases h; exact .non
  | _, .bool b, h => by cases h; exact .bl b
  | _, .int i, h => by cases h; exact .int i
  | _, .str x, h => by cases h; exact .str x
  | _, .list ds, h => by
    cases h with
    | lst h1 h2 => exact .lst (e.seq h1) (dpAll_same e ds h2)
  | _, .tuple ds, h => by
    cases h with
    | tup h1 h2 => exact .tup (sqT_same e h1) (dpAll_same e ds h2)
  | _, .dict _, h => by cases h
theorem dpAll_same {K : PySem.W.Frag} {H H' : Hp} (e : Same H H') : ∀ {vs : List V} (ds : List PyData), DpAll K H vs ds → DpAll K H' vs ds
  | _, [], h => by cases h; exact .nil
  | _, d :: ds, h => by
    cases h with
    | cons h1 h2 => exact .cons (dp_same e d h1) (dpAll_same e ds h2)
end
end K31
namespace L2
open PySem PySem.Spec PyProof.Rows
section
variable {K : PySem.W.Frag} {H H' : Hp} {v : V} {vs : List V} {d : PyData} {ds : List PyData} {S : List Addr}
theorem Dp.same (h : Dp K H v d) (e : Same H H') : Dp K H' v d := K31.dp_same e d h
theorem DpAll.same (h : DpAll K H vs ds) (e : Same H H') : DpAll K H' vs ds := K31.dpAll_same e ds h
theorem Dp.hs (h : Dp K (K31.hid S H) v d) (e : Same H H') : Dp K (K31.hid S H') v d := h.same (K31.same_hid e)
theorem DpAll.hs (h : DpAll K (K31.hid S H) vs ds) (e : Same H H') : DpAll K (K31.hid S H') vs ds := h.same (K31.same_hid e)
theorem Dp.up (h : Dp K (K31.hid S H) v d) : Dp K H v d := h.same K31.hid_le
theorem DpAll.length : ∀ {vs : List V} {ds : List PyData}, DpAll K H vs ds → vs.length = ds.length
  | _, _, .nil => rfl
  | _, _, .cons _ h => congrArg (· + 1) (DpAll.length h)
theorem DpAll.at : ∀ {vs : List V} {ds : List PyData} {i : Nat} {d : PyData}, DpAll K H vs ds → ds[i]? = some d → ∃ v, vs[i]? = some v ∧ Dp K H v d
  | _, _, _, _, .nil, e => by simp at e
  | _, _, 0, _, .cons h _, e => by simp at e; subst e; exact ⟨_, rfl, h⟩
  | _, _, i + 1, d, .cons _ h, e => by
    obtain ⟨v, h1, h2⟩ := DpAll.at (i := i) (d := d) h (by simpa using e)
    exact ⟨v, by simpa using h1, h2⟩
theorem DpAll.of : ∀ {vs : List V} {ds : List PyData}, vs.length = ds.length → (∀ (i : Nat) (d : PyData), ds[i]? = some d → ∃ v : V, vs[i]? = some v ∧ Dp K H v d) → DpAll K H vs ds
  | [], [], _, _ => .nil
  | [], _ :: _, e, _ => by simp at e
  | _ :: _, [], e, _ => by simp at e
  | v :: vs, d :: ds, e, h => by
    obtain ⟨w, h1, h2⟩ := h 0 d rfl
    have : v = w := by simpa using h1
    subst this
    refine .cons h2 (DpAll.of (by simpa using e) fun i d' q => ?_)
    obtain ⟨u, h3, h4⟩ := h (i + 1) d' (by simpa using q)
    exact ⟨u, by simpa using h3, h4⟩
theorem DpAll.app : ∀ {vs ws : List V} {ds es : List PyData}, DpAll K H vs ds → DpAll K H ws es → DpAll K H (vs ++ ws) (ds ++ es)
  | _, _, _, _, .nil, h => h
  | _, _, _, _, .cons a h, g => .cons a (DpAll.app h g)
theorem DpAll.snoc (h : DpAll K H vs ds) (g : Dp K H v d) : DpAll K H (vs ++ [v]) (ds ++ [d]) := DpAll.app h (.cons g .nil)
theorem DpAll.set : ∀ {vs : List V} {ds : List PyData} {v : V} {d : PyData} (i : Nat), DpAll K H vs ds → Dp K H v d → DpAll K H (vs.set i v) (ds.set i d)
  | _, _, _, _, _, .nil, _ => .nil
  | _, _, _, _, 0, .cons _ h, g => .cons g h
  | _, _, _, _, i + 1, .cons a h, g => .cons a (DpAll.set i h g)
theorem DpAll.one (h : DpAll K H vs [d]) : ∃ v, vs = [v] ∧ Dp K H v d := by
  cases h with
  | cons a h => cases h; exact ⟨_, rfl, a⟩
theorem DpAll.ints : ∀ {vs : List V} {ns : List Int}, DpAll K H vs (ns.map PyData.int) → vs = ns.map V.int
  | _, [], h => by cases h; rfl
  | _, n :: ns, h => by
    cases h with
    | cons a h => cases a; rw [DpAll.ints h]; rfl
theorem DpAll.bls : ∀ {vs : List V} {ns : List Bool}, DpAll K H vs (ns.map PyData.bool) → vs = ns.map V.bl
  | _, [], h => by cases h; rfl
  | _, n :: ns, h => by
    cases h with
    | cons a h => cases a; rw [DpAll.bls h]; rfl
end
end L2
namespace K31
open PySem PySem.Spec PyProof.Rows L2
section
variable {K : PySem.W.Frag} {H H' : Hp} {v : V} {vs : List V} {d : PyData} {ds : List PyData} {S : List Addr} {ns : List Int}
theorem dpAll_ints : ∀ ns : List Int, DpAll K H (ns.map V.int) (ns.map PyData.int)
  | [] => .nil
  | n :: ns => .cons (.int n) (dpAll_ints ns)
theorem dpl (h : Dp K H v (.list ds)) : ∃ a xs, v = .ref a ∧ SqL K H a xs ∧ DpAll K H xs ds := by
  cases h with
  | lst h1 h2 => exact ⟨_, _, rfl, h1, h2⟩
theorem dpt (h : Dp K H v (.tuple ds)) : ∃ a xs, v = .ref a ∧ SqT K H a xs ∧ DpAll K H xs ds := by
  cases h with
  | tup h1 h2 => exact ⟨_, _, rfl, h1, h2⟩
/-- whole numbers -/
def li (ns : List Int) : PyData := .list (ns.map PyData.int)
/-- a table -/
def lt (tb : List (List Int)) : PyData := .list (tb.map li)
/-- a fraction -/
def fr (q : Rat) : PyData := .tuple [.int q.num, .int (q.den : Int)]
def lf (qs : List Rat) : PyData := .list (qs.map fr)
theorem dp_li (h : Dp K H v (li ns)) : ∃ a, v = .ref a ∧ SqL K H a (ns.map V.int) := by
  obtain ⟨a, xs, rfl, h1, h2⟩ := dpl h
  rw [DpAll.ints h2] at h1
  exact ⟨a, rfl, h1⟩
theorem li_dp {a : Addr} {ns : List Int} (h : SqL K H a (ns.map V.int)) : Dp K H (.ref a) (li ns) := .lst h (dpAll_ints ns)
theorem dp_fr {q : Rat} (h : Dp K H v (fr q)) : ∃ a, v = .ref a ∧ SqT K H a [.int q.num, .int (q.den : Int)] := by
  obtain ⟨a, xs, rfl, h1, h2⟩ := dpt h
  cases h2 with
  | cons a1 h2 =>
    cases h2 with
    | cons a2 h2 => cases a1; cases a2; cases h2; exact ⟨a, rfl, h1⟩
theorem fr_dp {a : Addr} {q : Rat} (h : SqT K H a [.int q.num, .int (q.den : Int)]) : Dp K H (.ref a) (fr q) := .tup h (.cons (.int _) (.cons (.int _) .nil))
theorem dp_int {i : Int} (h : Dp K H v (.int i)) : v = .int i := by cases h; rfl
theorem dp_bl {i : Bool} (h : Dp K H v (.bool i)) : v = .bl i := by cases h; rfl
theorem dp_str {i : Str} (h : Dp K H v (.str i)) : v = .str i := by cases h; rfl
theorem tyx_list (h : Dp K H v (.list ds)) : TyX K H v (.type "list") := by
  obtain ⟨a, xs, rfl, h1, _⟩ := dpl h
  rcases h1 with (h | ⟨o, h⟩) | ⟨o, _, _, h, c, _⟩
  · exact .base (.lst h)
  · exact .base (.frz h)
  · exact .kList h c
theorem tyx_tup (h : Dp K H v (.tuple ds)) : TyX K H v (.type "tuple") := by
  obtain ⟨a, xs, rfl, h1, _⟩ := dpt h
  rcases h1 with (h | ⟨o, h⟩) | ⟨o, _, _, h, c, _⟩
  · exact .base (.tup h)
  · exact .fTuple h
  · exact .kTuple h c
end
/-! ### a def that may be called -/
structure Cal (P : Program) (w : World) (K : PySem.W.Frag) (mg : Str → Option Value) (base : Heap) (k : Nat) (x : Str) (ps : List Str) (sp : Sp) : Prop where
  ex : ∃ fd, FnOk P w K mg base CX0 k (He.ga K x) fd ps sp ∧ Binds K fd ps []
  g : mg x = some (.ref (He.ga K x))
  kp : PySem.W.keepIn K (.ref (He.ga K x)) = true
theorem Cal.mono {P : Program} {w : World} {K : PySem.W.Frag} {mg : Str → Option Value} {base : Heap} {k j : Nat} {x : Str} {ps : List Str} {sp : Sp} (C : Cal P w K mg base k x ps sp) (h : k ≤ j) : Cal P w K mg base j x ps sp :=
  let ⟨fd, F, b⟩ := C.ex
  ⟨⟨fd, F.mono h, b⟩, C.g, C.kp⟩
theorem pe_cal {X : Cx} {k : Nat} {x : Str} {ps : List Str} {sp : Sp} {p pos : Pos} {e : Expr} {es : List Expr} {t : TA} (C : Cal X.prog X.w X.K X.mg X.base k x ps sp) (hr : Room k X.A) (ha : PA X (e :: es) t) (hg : Gl X x := by rfl)
    (hdb : (x == ("__debug__" : Str)) = false := by decide) (he : starEach (e :: es) X.env = (false, eval e X.env) :: starEach es X.env := by rfl) (hpl : (backTo pos (starEach es X.env)).any (·.1) = false := by rfl) :
    PE X (.Call (.Name x p) (e :: es) [] pos) (tCall sp [] E0 t) := by
  obtain ⟨fd, F, b⟩ := C.ex
  exact pe_call F hr hg C.g C.kp b .nil pass0 ha hdb he hpl
/-! ### names in short -/
section
variable {X : Cx}
theorem pgn (i : Nat) {x : Str} {pos : Pos} (hN : X.N.Nodup) (hi : X.N[i]? = some x := by rfl) (hx : Loc X.env.scope x := by first | exact Or.inl rfl | exact Or.inr rfl) (hf : X.fn x = true ∨ X.env.scope.names.lookup x = some .local := by first | exact .inl rfl | exact .inr rfl) : PG X (.Name x pos) (gName i) := pg_name hN hi hx hf
theorem sset (i : Nat) {x : Str} {e : Expr} {te : TE} {pos pos' : Pos} (hN : X.N.Nodup) (he : PE X e te) (hi : X.N[i]? = some x := by rfl) (hx : Loc X.env.scope x := by first | exact Or.inl rfl | exact Or.inr rfl) (hs : swapsWith e (some (.Name x pos')) pos.line X.env = pure false := by rfl)
    (hf : X.fn x = true ∨ X.env.scope.names.lookup x = some .local := by first | exact .inl rfl | exact .inr rfl) : PS X (.Assign [.Name x pos'] e pos) (tAsg te (gName i)) := ps_set hN hi hx he hs hf
end
end K31
namespace K31
open PySem PySem.Spec PyProof.Rows L2
/-- what the head tells -/
structure Txt (K : PySem.W.Frag) (mg : Str → Option Value) : Prop where
  F_s_common : ∃ fd, FunD K "common" "common" (defArgs s_common) (defBody s_common) (defScope s_common) [] [] (He.ga K "common") fd
  g_common : mg "common" = some (.ref (He.ga K "common"))
  F_s_is_whole : ∃ fd, FunD K "is_whole" "is_whole" (defArgs s_is_whole) (defBody s_is_whole) (defScope s_is_whole) [] [] (He.ga K "is_whole") fd
  g_is_whole : mg "is_whole" = some (.ref (He.ga K "is_whole"))
  F_s_is_fraction : ∃ fd, FunD K "is_fraction" "is_fraction" (defArgs s_is_fraction) (defBody s_is_fraction) (defScope s_is_fraction) [] [] (He.ga K "is_fraction") fd
  g_is_fraction : mg "is_fraction" = some (.ref (He.ga K "is_fraction"))
  F_s_lowest : ∃ fd, FunD K "lowest" "lowest" (defArgs s_lowest) (defBody s_lowest) (defScope s_lowest) [] [] (He.ga K "lowest") fd
  g_lowest : mg "lowest" = some (.ref (He.ga K "lowest"))
  F_s_plus : ∃ fd, FunD K "plus" "plus" (defArgs s_plus) (defBody s_plus) (defScope s_plus) [] [] (He.ga K "plus") fd
  g_plus : mg "plus" = some (.ref (He.ga K "plus"))
  F_s_minus : ∃ fd, FunD K "minus" "minus" (defArgs s_minus) (defBody s_minus) (defScope s_minus) [] [] (He.ga K "minus") fd
  g_minus : mg "minus" = some (.ref (He.ga K "minus"))
  F_s_times : ∃ fd, FunD K "times" "times" (defArgs s_times) (defBody s_times) (defScope s_times) [] [] (He.ga K "times") fd
  g_times : mg "times" = some (.ref (He.ga K "times"))
  F_s_divided : ∃ fd, FunD K "divided" "divided" (defArgs s_divided) (defBody s_divided) (defScope s_divided) [] [] (He.ga K "divided") fd
  g_divided : mg "divided" = some (.ref (He.ga K "divided"))
  F_s_under : ∃ fd, FunD K "under" "under" (defArgs s_under) (defBody s_under) (defScope s_under) [] [] (He.ga K "under") fd
  g_under : mg "under" = some (.ref (He.ga K "under"))
  F_s_total : ∃ fd, FunD K "total" "total" (defArgs s_total) (defBody s_total) (defScope s_total) [] [] (He.ga K "total") fd
  g_total : mg "total" = some (.ref (He.ga K "total"))
  F_s_is_table : ∃ fd, FunD K "is_table" "is_table" (defArgs s_is_table) (defBody s_is_table) (defScope s_is_table) [] [] (He.ga K "is_table") fd
  g_is_table : mg "is_table" = some (.ref (He.ga K "is_table"))
  F_s_check_table : ∃ fd, FunD K "check_table" "check_table" (defArgs s_check_table) (defBody s_check_table) (defScope s_check_table) [] [] (He.ga K "check_table") fd
  g_check_table : mg "check_table" = some (.ref (He.ga K "check_table"))
  F_s_columns_of : ∃ fd, FunD K "columns_of" "columns_of" (defArgs s_columns_of) (defBody s_columns_of) (defScope s_columns_of) [] [] (He.ga K "columns_of") fd
  g_columns_of : mg "columns_of" = some (.ref (He.ga K "columns_of"))
  F_s_check_wholes : ∃ fd, FunD K "check_wholes" "check_wholes" (defArgs s_check_wholes) (defBody s_check_wholes) (defScope s_check_wholes) [] [] (He.ga K "check_wholes") fd
  g_check_wholes : mg "check_wholes" = some (.ref (He.ga K "check_wholes"))
  F_s_check_task : ∃ fd, FunD K "check_task" "check_task" (defArgs s_check_task) (defBody s_check_task) (defScope s_check_task) [] [] (He.ga K "check_task") fd
  g_check_task : mg "check_task" = some (.ref (He.ga K "check_task"))
  F_s_are_from_nought : ∃ fd, FunD K "are_from_nought" "are_from_nought" (defArgs s_are_from_nought) (defBody s_are_from_nought) (defScope s_are_from_nought) [] [] (He.ga K "are_from_nought") fd
  g_are_from_nought : mg "are_from_nought" = some (.ref (He.ga K "are_from_nought"))
  F_s_weighed : ∃ fd, FunD K "weighed" "weighed" (defArgs s_weighed) (defBody s_weighed) (defScope s_weighed) [] [] (He.ga K "weighed") fd
  g_weighed : mg "weighed" = some (.ref (He.ga K "weighed"))
  F_s_is_above : ∃ fd, FunD K "is_above" "is_above" (defArgs s_is_above) (defBody s_is_above) (defScope s_is_above) [] [] (He.ga K "is_above") fd
  g_is_above : mg "is_above" = some (.ref (He.ga K "is_above"))
  F_s_keeps : ∃ fd, FunD K "keeps" "keeps" (defArgs s_keeps) (defBody s_keeps) (defScope s_keeps) [] [] (He.ga K "keeps") fd
  g_keeps : mg "keeps" = some (.ref (He.ga K "keeps"))
  F_m___init__ : ∃ fd, FunD K "__init__" "Board.__init__" (defArgs m___init__) (defBody m___init__) (defScope m___init__) [] [] (He.ma K (He.ga K "Board") "__init__") fd
  F_m_turn : ∃ fd, FunD K "turn" "Board.turn" (defArgs m_turn) (defBody m_turn) (defScope m_turn) [] [] (He.ma K (He.ga K "Board") "turn") fd
  F_m_less : ∃ fd, FunD K "less" "Board.less" (defArgs m_less) (defBody m_less) (defScope m_less) [] [] (He.ma K (He.ga K "Board") "less") fd
  F_m_settle : ∃ fd, FunD K "settle" "Board.settle" (defArgs m_settle) (defBody m_settle) (defScope m_settle) [] [] (He.ma K (He.ga K "Board") "settle") fd
  F_m_climb : ∃ fd, FunD K "climb" "Board.climb" (defArgs m_climb) (defBody m_climb) (defScope m_climb) [] [] (He.ma K (He.ga K "Board") "climb") fd
  F_m_first_met : ∃ fd, FunD K "first_met" "Board.first_met" (defArgs m_first_met) (defBody m_first_met) (defScope m_first_met) [] [] (He.ma K (He.ga K "Board") "first_met") fd
  F_m_spread_out : ∃ fd, FunD K "spread_out" "Board.spread_out" (defArgs m_spread_out) (defBody m_spread_out) (defScope m_spread_out) [] [] (He.ma K (He.ga K "Board") "spread_out") fd
  F_m_xs : ∃ fd, FunD K "xs" "Board.xs" (defArgs m_xs) (defBody m_xs) (defScope m_xs) [] [] (He.ma K (He.ga K "Board") "xs") fd
  F_m_prices : ∃ fd, FunD K "prices" "Board.prices" (defArgs m_prices) (defBody m_prices) (defScope m_prices) [] [] (He.ma K (He.ga K "Board") "prices") fd
  F_m_shown : ∃ fd, FunD K "shown" "Board.shown" (defArgs m_shown) (defBody m_shown) (defScope m_shown) [] [] (He.ma K (He.ga K "Board") "shown") fd
  F_m_way : ∃ fd, FunD K "way" "Board.way" (defArgs m_way) (defBody m_way) (defScope m_way) [] [] (He.ma K (He.ga K "Board") "way") fd
  F_s_best : ∃ fd, FunD K "best" "best" (defArgs s_best) (defBody s_best) (defScope s_best) [] [] (He.ga K "best") fd
  g_best : mg "best" = some (.ref (He.ga K "best"))
  F_s_are_prices : ∃ fd, FunD K "are_prices" "are_prices" (defArgs s_are_prices) (defBody s_are_prices) (defScope s_are_prices) [] [] (He.ga K "are_prices") fd
  g_are_prices : mg "are_prices" = some (.ref (He.ga K "are_prices"))
  F_s_is_best : ∃ fd, FunD K "is_best" "is_best" (defArgs s_is_best) (defBody s_is_best) (defScope s_is_best) [] [] (He.ga K "is_best") fd
  g_is_best : mg "is_best" = some (.ref (He.ga K "is_best"))
  F_s_is_open : ∃ fd, FunD K "is_open" "is_open" (defArgs s_is_open) (defBody s_is_open) (defScope s_is_open) [] [] (He.ga K "is_open") fd
  g_is_open : mg "is_open" = some (.ref (He.ga K "is_open"))
  F_s_is_answer : ∃ fd, FunD K "is_answer" "is_answer" (defArgs s_is_answer) (defBody s_is_answer) (defScope s_is_answer) [] [] (He.ga K "is_answer") fd
  g_is_answer : mg "is_answer" = some (.ref (He.ga K "is_answer"))
  F_s_priced : ∃ fd, FunD K "priced" "priced" (defArgs s_priced) (defBody s_priced) (defScope s_priced) [] [] (He.ga K "priced") fd
  g_priced : mg "priced" = some (.ref (He.ga K "priced"))
  F_s__law_source_of : ∃ fd, FunD K "_law_source_of" "_law_source_of" (defArgs s__law_source_of) (defBody s__law_source_of) (defScope s__law_source_of) [] [] (He.ga K "_law_source_of") fd
  g__law_source_of : mg "_law_source_of" = some (.ref (He.ga K "_law_source_of"))
  F_s__law_next : ∃ fd, FunD K "_law_next" "_law_next" (defArgs s__law_next) (defBody s__law_next) (defScope s__law_next) [] [] (He.ga K "_law_next") fd
  g__law_next : mg "_law_next" = some (.ref (He.ga K "_law_next"))
  F_s__law_one : ∃ fd, FunD K "_law_one" "_law_one" (defArgs s__law_one) (defBody s__law_one) (defScope s__law_one) [] [] (He.ga K "_law_one") fd
  g__law_one : mg "_law_one" = some (.ref (He.ga K "_law_one"))
  F_s__law_cell_at : ∃ fd, FunD K "_law_cell_at" "_law_cell_at" (defArgs s__law_cell_at) (defBody s__law_cell_at) (defScope s__law_cell_at) [] [] (He.ga K "_law_cell_at") fd
  g__law_cell_at : mg "_law_cell_at" = some (.ref (He.ga K "_law_cell_at"))
  F_s__law_mixed : ∃ fd, FunD K "_law_mixed" "_law_mixed" (defArgs s__law_mixed) (defBody s__law_mixed) (defScope s__law_mixed) [] [] (He.ga K "_law_mixed") fd
  g__law_mixed : mg "_law_mixed" = some (.ref (He.ga K "_law_mixed"))
  F_s__law_ends : ∃ fd, FunD K "_law_ends" "_law_ends" (defArgs s__law_ends) (defBody s__law_ends) (defScope s__law_ends) [] [] (He.ga K "_law_ends") fd
  g__law_ends : mg "_law_ends" = some (.ref (He.ga K "_law_ends"))
  F_s__law_net : ∃ fd, FunD K "_law_net" "_law_net" (defArgs s__law_net) (defBody s__law_net) (defScope s__law_net) [] [] (He.ga K "_law_net") fd
  g__law_net : mg "_law_net" = some (.ref (He.ga K "_law_net"))
  F_s__law_net_drawn : ∃ fd, FunD K "_law_net_drawn" "_law_net_drawn" (defArgs s__law_net_drawn) (defBody s__law_net_drawn) (defScope s__law_net_drawn) [] [] (He.ga K "_law_net_drawn") fd
  g__law_net_drawn : mg "_law_net_drawn" = some (.ref (He.ga K "_law_net_drawn"))
  F_s__law_stretches : ∃ fd, FunD K "_law_stretches" "_law_stretches" (defArgs s__law_stretches) (defBody s__law_stretches) (defScope s__law_stretches) [] [] (He.ga K "_law_stretches") fd
  g__law_stretches : mg "_law_stretches" = some (.ref (He.ga K "_law_stretches"))
  F_s__law_swung : ∃ fd, FunD K "_law_swung" "_law_swung" (defArgs s__law_swung) (defBody s__law_swung) (defScope s__law_swung) [] [] (He.ga K "_law_swung") fd
  g__law_swung : mg "_law_swung" = some (.ref (He.ga K "_law_swung"))
  F_s__law_table : ∃ fd, FunD K "_law_table" "_law_table" (defArgs s__law_table) (defBody s__law_table) (defScope s__law_table) [] [] (He.ga K "_law_table") fd
  g__law_table : mg "_law_table" = some (.ref (He.ga K "_law_table"))
  F_s__law_divisor : ∃ fd, FunD K "_law_divisor" "_law_divisor" (defArgs s__law_divisor) (defBody s__law_divisor) (defScope s__law_divisor) [] [] (He.ga K "_law_divisor") fd
  g__law_divisor : mg "_law_divisor" = some (.ref (He.ga K "_law_divisor"))
  F_s__law_lowest : ∃ fd, FunD K "_law_lowest" "_law_lowest" (defArgs s__law_lowest) (defBody s__law_lowest) (defScope s__law_lowest) [] [] (He.ga K "_law_lowest") fd
  g__law_lowest : mg "_law_lowest" = some (.ref (He.ga K "_law_lowest"))
  F_s__law_common : ∃ fd, FunD K "_law_common" "_law_common" (defArgs s__law_common) (defBody s__law_common) (defScope s__law_common) [] [] (He.ga K "_law_common") fd
  g__law_common : mg "_law_common" = some (.ref (He.ga K "_law_common"))
  F_s__law_is_number : ∃ fd, FunD K "_law_is_number" "_law_is_number" (defArgs s__law_is_number) (defBody s__law_is_number) (defScope s__law_is_number) [] [] (He.ga K "_law_is_number") fd
  g__law_is_number : mg "_law_is_number" = some (.ref (He.ga K "_law_is_number"))
  F_s__law_is_fraction : ∃ fd, FunD K "_law_is_fraction" "_law_is_fraction" (defArgs s__law_is_fraction) (defBody s__law_is_fraction) (defScope s__law_is_fraction) [] [] (He.ga K "_law_is_fraction") fd
  g__law_is_fraction : mg "_law_is_fraction" = some (.ref (He.ga K "_law_is_fraction"))
  F_s__law_are_fractions : ∃ fd, FunD K "_law_are_fractions" "_law_are_fractions" (defArgs s__law_are_fractions) (defBody s__law_are_fractions) (defScope s__law_are_fractions) [] [] (He.ga K "_law_are_fractions") fd
  g__law_are_fractions : mg "_law_are_fractions" = some (.ref (He.ga K "_law_are_fractions"))
  F_s__law_positive : ∃ fd, FunD K "_law_positive" "_law_positive" (defArgs s__law_positive) (defBody s__law_positive) (defScope s__law_positive) [] [] (He.ga K "_law_positive") fd
  g__law_positive : mg "_law_positive" = some (.ref (He.ga K "_law_positive"))
  F_s__law_sums : ∃ fd, FunD K "_law_sums" "_law_sums" (defArgs s__law_sums) (defBody s__law_sums) (defScope s__law_sums) [] [] (He.ga K "_law_sums") fd
  g__law_sums : mg "_law_sums" = some (.ref (He.ga K "_law_sums"))
  F_s__law_keeps : ∃ fd, FunD K "_law_keeps" "_law_keeps" (defArgs s__law_keeps) (defBody s__law_keeps) (defScope s__law_keeps) [] [] (He.ga K "_law_keeps") fd
  g__law_keeps : mg "_law_keeps" = some (.ref (He.ga K "_law_keeps"))
  F_s__law_worth : ∃ fd, FunD K "_law_worth" "_law_worth" (defArgs s__law_worth) (defBody s__law_worth) (defScope s__law_worth) [] [] (He.ga K "_law_worth") fd
  g__law_worth : mg "_law_worth" = some (.ref (He.ga K "_law_worth"))
  F_s__law_columns : ∃ fd, FunD K "_law_columns" "_law_columns" (defArgs s__law_columns) (defBody s__law_columns) (defScope s__law_columns) [] [] (He.ga K "_law_columns") fd
  g__law_columns : mg "_law_columns" = some (.ref (He.ga K "_law_columns"))
  F_s__law_prices : ∃ fd, FunD K "_law_prices" "_law_prices" (defArgs s__law_prices) (defBody s__law_prices) (defScope s__law_prices) [] [] (He.ga K "_law_prices") fd
  g__law_prices : mg "_law_prices" = some (.ref (He.ga K "_law_prices"))
  F_s__law_best_right : ∃ fd, FunD K "_law_best_right" "_law_best_right" (defArgs s__law_best_right) (defBody s__law_best_right) (defScope s__law_best_right) [] [] (He.ga K "_law_best_right") fd
  g__law_best_right : mg "_law_best_right" = some (.ref (He.ga K "_law_best_right"))
  F_s__law_open_right : ∃ fd, FunD K "_law_open_right" "_law_open_right" (defArgs s__law_open_right) (defBody s__law_open_right) (defScope s__law_open_right) [] [] (He.ga K "_law_open_right") fd
  g__law_open_right : mg "_law_open_right" = some (.ref (He.ga K "_law_open_right"))
  F_s__law_right : ∃ fd, FunD K "_law_right" "_law_right" (defArgs s__law_right) (defBody s__law_right) (defScope s__law_right) [] [] (He.ga K "_law_right") fd
  g__law_right : mg "_law_right" = some (.ref (He.ga K "_law_right"))
  F_s__law_task : ∃ fd, FunD K "_law_task" "_law_task" (defArgs s__law_task) (defBody s__law_task) (defScope s__law_task) [] [] (He.ga K "_law_task") fd
  g__law_task : mg "_law_task" = some (.ref (He.ga K "_law_task"))
  F_s__law_spent : ∃ fd, FunD K "_law_spent" "_law_spent" (defArgs s__law_spent) (defBody s__law_spent) (defScope s__law_spent) [] [] (He.ga K "_law_spent") fd
  g__law_spent : mg "_law_spent" = some (.ref (He.ga K "_law_spent"))
  F_s__law_priced : ∃ fd, FunD K "_law_priced" "_law_priced" (defArgs s__law_priced) (defBody s__law_priced) (defScope s__law_priced) [] [] (He.ga K "_law_priced") fd
  g__law_priced : mg "_law_priced" = some (.ref (He.ga K "_law_priced"))
  F_s_law : ∃ fd, FunD K "law" "law" (defArgs s_law) (defBody s_law) (defScope s_law) [] [] (He.ga K "law") fd
  g_law : mg "law" = some (.ref (He.ga K "law"))
  g_Board : mg "Board" = some (.ref (He.ga K "Board"))
  f_abs : mg "abs" = none
  f_isinstance : mg "isinstance" = none
  f_int : mg "int" = none
  f_bool : mg "bool" = none
  f_list : mg "list" = none
  f_tuple : mg "tuple" = none
  f_str : mg "str" = none
  f_len : mg "len" = none
  f_all : mg "all" = none
  f_any : mg "any" = none
  f_range : mg "range" = none
  f_min : mg "min" = none
  f_zip : mg "zip" = none
  f_enumerate : mg "enumerate" = none
  f_sum : mg "sum" = none
  f_repr : mg "repr" = none
  most : ∃ t, mg "MOST_PLACES" = some (.int 8 t)
  cls : Cls K (He.ga K "Board")
  mkr : Mk K (He.ga K "Board") (He.ma K (He.ga K "Board") "__init__")
  m___init__ : Meth K (He.ga K "Board") "__init__" (He.ma K (He.ga K "Board") "__init__")
  m_turn : Meth K (He.ga K "Board") "turn" (He.ma K (He.ga K "Board") "turn")
  m_less : Meth K (He.ga K "Board") "less" (He.ma K (He.ga K "Board") "less")
  m_settle : Meth K (He.ga K "Board") "settle" (He.ma K (He.ga K "Board") "settle")
  m_climb : Meth K (He.ga K "Board") "climb" (He.ma K (He.ga K "Board") "climb")
  m_first_met : Meth K (He.ga K "Board") "first_met" (He.ma K (He.ga K "Board") "first_met")
  m_spread_out : Meth K (He.ga K "Board") "spread_out" (He.ma K (He.ga K "Board") "spread_out")
  m_xs : Meth K (He.ga K "Board") "xs" (He.ma K (He.ga K "Board") "xs")
  m_prices : Meth K (He.ga K "Board") "prices" (He.ma K (He.ga K "Board") "prices")
  m_shown : Meth K (He.ga K "Board") "shown" (He.ma K (He.ga K "Board") "shown")
  m_way : Meth K (He.ga K "Board") "way" (He.ma K (He.ga K "Board") "way")
  a_wide : NoAttr K (He.ga K "Board") "wide"
  a_free : NoAttr K (He.ga K "Board") "free"
  a_basic : NoAttr K (He.ga K "Board") "basic"
  a_rows : NoAttr K (He.ga K "Board") "rows"
  a_has : NoAttr K (He.ga K "Board") "has"
  a_gains : NoAttr K (He.ga K "Board") "gains"
  a_value : NoAttr K (He.ga K "Board") "value"
  g_NOUGHT : mg "NOUGHT" = some (.ref (He.ga K "NOUGHT"))
  g_ONE : mg "ONE" = some (.ref (He.ga K "ONE"))
  nought : ∀ H, SqT K H (He.ga K "NOUGHT") [.int 0, .int 1]
  one : ∀ H, SqT K H (He.ga K "ONE") [.int 1, .int 1]
  two : (He.cT K ("Board", some "settle")).2 ≠ (He.cT K ("Board", some "climb")).2
theorem txt_of {K : PySem.W.Frag} {h : Heap} {mg : Str → Option Value} (X : K.In h) (G : h.Ns mainGlobals mg) (c : He.SaysD fa fn K) (e : ex K = true) : Txt K mg where
  F_s_common := c.def_ 0 (d := d_s_common) rfl
  F_s_is_whole := c.def_ 1 (d := d_s_is_whole) rfl
  F_s_is_fraction := c.def_ 2 (d := d_s_is_fraction) rfl
  F_s_lowest := c.def_ 3 (d := d_s_lowest) rfl
  F_s_plus := c.def_ 4 (d := d_s_plus) rfl
  F_s_minus := c.def_ 5 (d := d_s_minus) rfl
  F_s_times := c.def_ 6 (d := d_s_times) rfl
  F_s_divided := c.def_ 7 (d := d_s_divided) rfl
  F_s_under := c.def_ 8 (d := d_s_under) rfl
  F_s_total := c.def_ 9 (d := d_s_total) rfl
  F_s_is_table := c.def_ 10 (d := d_s_is_table) rfl
  F_s_check_table := c.def_ 11 (d := d_s_check_table) rfl
  F_s_columns_of := c.def_ 12 (d := d_s_columns_of) rfl
  F_s_check_wholes := c.def_ 13 (d := d_s_check_wholes) rfl
  F_s_check_task := c.def_ 14 (d := d_s_check_task) rfl
  F_s_are_from_nought := c.def_ 15 (d := d_s_are_from_nought) rfl
  F_s_weighed := c.def_ 16 (d := d_s_weighed) rfl
  F_s_is_above := c.def_ 17 (d := d_s_is_above) rfl
  F_s_keeps := c.def_ 18 (d := d_s_keeps) rfl
  F_m___init__ := c.def_ 19 (d := d_m___init__) rfl
  F_m_turn := c.def_ 20 (d := d_m_turn) rfl
  F_m_less := c.def_ 21 (d := d_m_less) rfl
  F_m_settle := c.def_ 22 (d := d_m_settle) rfl
  F_m_climb := c.def_ 23 (d := d_m_climb) rfl
  F_m_first_met := c.def_ 24 (d := d_m_first_met) rfl
  F_m_spread_out := c.def_ 25 (d := d_m_spread_out) rfl
  F_m_xs := c.def_ 26 (d := d_m_xs) rfl
  F_m_prices := c.def_ 27 (d := d_m_prices) rfl
  F_m_shown := c.def_ 28 (d := d_m_shown) rfl
  F_m_way := c.def_ 29 (d := d_m_way) rfl
  F_s_best := c.def_ 30 (d := d_s_best) rfl
  F_s_are_prices := c.def_ 31 (d := d_s_are_prices) rfl
  F_s_is_best := c.def_ 32 (d := d_s_is_best) rfl
  F_s_is_open := c.def_ 33 (d := d_s_is_open) rfl
  F_s_is_answer := c.def_ 34 (d := d_s_is_answer) rfl
  F_s_priced := c.def_ 35 (d := d_s_priced) rfl
  F_s__law_source_of := c.def_ 36 (d := d_s__law_source_of) rfl
  F_s__law_next := c.def_ 37 (d := d_s__law_next) rfl
  F_s__law_one := c.def_ 38 (d := d_s__law_one) rfl
  F_s__law_cell_at := c.def_ 39 (d := d_s__law_cell_at) rfl
  F_s__law_mixed := c.def_ 40 (d := d_s__law_mixed) rfl
  F_s__law_ends := c.def_ 41 (d := d_s__law_ends) rfl
  F_s__law_net := c.def_ 42 (d := d_s__law_net) rfl
  F_s__law_net_drawn := c.def_ 43 (d := d_s__law_net_drawn) rfl
  F_s__law_stretches := c.def_ 44 (d := d_s__law_stretches) rfl
  F_s__law_swung := c.def_ 45 (d := d_s__law_swung) rfl
  F_s__law_table := c.def_ 46 (d := d_s__law_table) rfl
  F_s__law_divisor := c.def_ 47 (d := d_s__law_divisor) rfl
  F_s__law_lowest := c.def_ 48 (d := d_s__law_lowest) rfl
  F_s__law_common := c.def_ 49 (d := d_s__law_common) rfl
  F_s__law_is_number := c.def_ 50 (d := d_s__law_is_number) rfl
  F_s__law_is_fraction := c.def_ 51 (d := d_s__law_is_fraction) rfl
  F_s__law_are_fractions := c.def_ 52 (d := d_s__law_are_fractions) rfl
  F_s__law_positive := c.def_ 53 (d := d_s__law_positive) rfl
  F_s__law_sums := c.def_ 54 (d := d_s__law_sums) rfl
  F_s__law_keeps := c.def_ 55 (d := d_s__law_keeps) rfl
  F_s__law_worth := c.def_ 56 (d := d_s__law_worth) rfl
  F_s__law_columns := c.def_ 57 (d := d_s__law_columns) rfl
  F_s__law_prices := c.def_ 58 (d := d_s__law_prices) rfl
  F_s__law_best_right := c.def_ 59 (d := d_s__law_best_right) rfl
  F_s__law_open_right := c.def_ 60 (d := d_s__law_open_right) rfl
  F_s__law_right := c.def_ 61 (d := d_s__law_right) rfl
  F_s__law_task := c.def_ 62 (d := d_s__law_task) rfl
  F_s__law_spent := c.def_ 63 (d := d_s__law_spent) rfl
  F_s__law_priced := c.def_ 64 (d := d_s__law_priced) rfl
  F_s_law := c.def_ 65 (d := d_s_law) rfl
  g_common := He.glo_ok X G (c.fact 0 (f := .glo "common") rfl)
  g_is_whole := He.glo_ok X G (c.fact 1 (f := .glo "is_whole") rfl)
  g_is_fraction := He.glo_ok X G (c.fact 2 (f := .glo "is_fraction") rfl)
  g_lowest := He.glo_ok X G (c.fact 3 (f := .glo "lowest") rfl)
  g_plus := He.glo_ok X G (c.fact 4 (f := .glo "plus") rfl)
  g_minus := He.glo_ok X G (c.fact 5 (f := .glo "minus") rfl)
  g_times := He.glo_ok X G (c.fact 6 (f := .glo "times") rfl)
  g_divided := He.glo_ok X G (c.fact 7 (f := .glo "divided") rfl)
  g_under := He.glo_ok X G (c.fact 8 (f := .glo "under") rfl)
  g_total := He.glo_ok X G (c.fact 9 (f := .glo "total") rfl)
  g_is_table := He.glo_ok X G (c.fact 10 (f := .glo "is_table") rfl)
  g_check_table := He.glo_ok X G (c.fact 11 (f := .glo "check_table") rfl)
  g_columns_of := He.glo_ok X G (c.fact 12 (f := .glo "columns_of") rfl)
  g_check_wholes := He.glo_ok X G (c.fact 13 (f := .glo "check_wholes") rfl)
  g_check_task := He.glo_ok X G (c.fact 14 (f := .glo "check_task") rfl)
  g_are_from_nought := He.glo_ok X G (c.fact 15 (f := .glo "are_from_nought") rfl)
  g_weighed := He.glo_ok X G (c.fact 16 (f := .glo "weighed") rfl)
  g_is_above := He.glo_ok X G (c.fact 17 (f := .glo "is_above") rfl)
  g_keeps := He.glo_ok X G (c.fact 18 (f := .glo "keeps") rfl)
  g_best := He.glo_ok X G (c.fact 19 (f := .glo "best") rfl)
  g_are_prices := He.glo_ok X G (c.fact 20 (f := .glo "are_prices") rfl)
  g_is_best := He.glo_ok X G (c.fact 21 (f := .glo "is_best") rfl)
  g_is_open := He.glo_ok X G (c.fact 22 (f := .glo "is_open") rfl)
  g_is_answer := He.glo_ok X G (c.fact 23 (f := .glo "is_answer") rfl)
  g_priced := He.glo_ok X G (c.fact 24 (f := .glo "priced") rfl)
  g__law_source_of := He.glo_ok X G (c.fact 25 (f := .glo "_law_source_of") rfl)
  g__law_next := He.glo_ok X G (c.fact 26 (f := .glo "_law_next") rfl)
  g__law_one := He.glo_ok X G (c.fact 27 (f := .glo "_law_one") rfl)
  g__law_cell_at := He.glo_ok X G (c.fact 28 (f := .glo "_law_cell_at") rfl)
  g__law_mixed := He.glo_ok X G (c.fact 29 (f := .glo "_law_mixed") rfl)
  g__law_ends := He.glo_ok X G (c.fact 30 (f := .glo "_law_ends") rfl)
  g__law_net := He.glo_ok X G (c.fact 31 (f := .glo "_law_net") rfl)
  g__law_net_drawn := He.glo_ok X G (c.fact 32 (f := .glo "_law_net_drawn") rfl)
  g__law_stretches := He.glo_ok X G (c.fact 33 (f := .glo "_law_stretches") rfl)
  g__law_swung := He.glo_ok X G (c.fact 34 (f := .glo "_law_swung") rfl)
  g__law_table := He.glo_ok X G (c.fact 35 (f := .glo "_law_table") rfl)
  g__law_divisor := He.glo_ok X G (c.fact 36 (f := .glo "_law_divisor") rfl)
  g__law_lowest := He.glo_ok X G (c.fact 37 (f := .glo "_law_lowest") rfl)
  g__law_common := He.glo_ok X G (c.fact 38 (f := .glo "_law_common") rfl)
  g__law_is_number := He.glo_ok X G (c.fact 39 (f := .glo "_law_is_number") rfl)
  g__law_is_fraction := He.glo_ok X G (c.fact 40 (f := .glo "_law_is_fraction") rfl)
  g__law_are_fractions := He.glo_ok X G (c.fact 41 (f := .glo "_law_are_fractions") rfl)
  g__law_positive := He.glo_ok X G (c.fact 42 (f := .glo "_law_positive") rfl)
  g__law_sums := He.glo_ok X G (c.fact 43 (f := .glo "_law_sums") rfl)
  g__law_keeps := He.glo_ok X G (c.fact 44 (f := .glo "_law_keeps") rfl)
  g__law_worth := He.glo_ok X G (c.fact 45 (f := .glo "_law_worth") rfl)
  g__law_columns := He.glo_ok X G (c.fact 46 (f := .glo "_law_columns") rfl)
  g__law_prices := He.glo_ok X G (c.fact 47 (f := .glo "_law_prices") rfl)
  g__law_best_right := He.glo_ok X G (c.fact 48 (f := .glo "_law_best_right") rfl)
  g__law_open_right := He.glo_ok X G (c.fact 49 (f := .glo "_law_open_right") rfl)
  g__law_right := He.glo_ok X G (c.fact 50 (f := .glo "_law_right") rfl)
  g__law_task := He.glo_ok X G (c.fact 51 (f := .glo "_law_task") rfl)
  g__law_spent := He.glo_ok X G (c.fact 52 (f := .glo "_law_spent") rfl)
  g__law_priced := He.glo_ok X G (c.fact 53 (f := .glo "_law_priced") rfl)
  g_law := He.glo_ok X G (c.fact 54 (f := .glo "law") rfl)
  g_Board := He.glo_ok X G (c.fact 55 (f := .glo "Board") rfl)
  f_abs := He.free_ok X G (c.fact 56 (f := .free "abs") rfl)
  f_isinstance := He.free_ok X G (c.fact 57 (f := .free "isinstance") rfl)
  f_int := He.free_ok X G (c.fact 58 (f := .free "int") rfl)
  f_bool := He.free_ok X G (c.fact 59 (f := .free "bool") rfl)
  f_list := He.free_ok X G (c.fact 60 (f := .free "list") rfl)
  f_tuple := He.free_ok X G (c.fact 61 (f := .free "tuple") rfl)
  f_str := He.free_ok X G (c.fact 62 (f := .free "str") rfl)
  f_len := He.free_ok X G (c.fact 63 (f := .free "len") rfl)
  f_all := He.free_ok X G (c.fact 64 (f := .free "all") rfl)
  f_any := He.free_ok X G (c.fact 65 (f := .free "any") rfl)
  f_range := He.free_ok X G (c.fact 66 (f := .free "range") rfl)
  f_min := He.free_ok X G (c.fact 67 (f := .free "min") rfl)
  f_zip := He.free_ok X G (c.fact 68 (f := .free "zip") rfl)
  f_enumerate := He.free_ok X G (c.fact 69 (f := .free "enumerate") rfl)
  f_sum := He.free_ok X G (c.fact 70 (f := .free "sum") rfl)
  f_repr := He.free_ok X G (c.fact 71 (f := .free "repr") rfl)
  most := He.int_ok X G (c.fact 72 (f := .int "MOST_PLACES" 8) rfl)
  cls := He.cls_ok (c.fact 73 (f := .cls "Board") rfl)
  mkr := He.mkr_ok (c.fact 74 (f := .mkr "Board") rfl)
  m___init__ := He.meth_ok (c.fact 75 (f := .meth "Board" "__init__") rfl)
  m_turn := He.meth_ok (c.fact 76 (f := .meth "Board" "turn") rfl)
  m_less := He.meth_ok (c.fact 77 (f := .meth "Board" "less") rfl)
  m_settle := He.meth_ok (c.fact 78 (f := .meth "Board" "settle") rfl)
  m_climb := He.meth_ok (c.fact 79 (f := .meth "Board" "climb") rfl)
  m_first_met := He.meth_ok (c.fact 80 (f := .meth "Board" "first_met") rfl)
  m_spread_out := He.meth_ok (c.fact 81 (f := .meth "Board" "spread_out") rfl)
  m_xs := He.meth_ok (c.fact 82 (f := .meth "Board" "xs") rfl)
  m_prices := He.meth_ok (c.fact 83 (f := .meth "Board" "prices") rfl)
  m_shown := He.meth_ok (c.fact 84 (f := .meth "Board" "shown") rfl)
  m_way := He.meth_ok (c.fact 85 (f := .meth "Board" "way") rfl)
  a_wide := He.noat_ok (c.fact 86 (f := .noat "Board" "wide") rfl)
  a_free := He.noat_ok (c.fact 87 (f := .noat "Board" "free") rfl)
  a_basic := He.noat_ok (c.fact 88 (f := .noat "Board" "basic") rfl)
  a_rows := He.noat_ok (c.fact 89 (f := .noat "Board" "rows") rfl)
  a_has := He.noat_ok (c.fact 90 (f := .noat "Board" "has") rfl)
  a_gains := He.noat_ok (c.fact 91 (f := .noat "Board" "gains") rfl)
  a_value := He.noat_ok (c.fact 92 (f := .noat "Board" "value") rfl)
  g_NOUGHT := He.glo_ok X G (c.fact 93 (f := .glo "NOUGHT") rfl)
  g_ONE := He.glo_ok X G (c.fact 94 (f := .glo "ONE") rfl)
  nought := fun H => He.tupB_ok (vs := [.int 0, .int 1]) (He.ba (He.ba e).1).1 H
  one := fun H => He.tupB_ok (vs := [.int 1, .int 1]) (He.ba (He.ba e).1).2 H
  two := of_decide_eq_true (He.ba e).2
end K31
namespace K31
open PySem PySem.Spec PyProof.Rows L2
/-! ### comprehensions that make data -/
section
variable {K : PySem.W.Frag} {J : It} {n : Nat} {G : Hp → Prop} {Y : Nat → Hp → V → Hp → Prop}
theorem lc_data (w : Walk J n G Y) {g : TG} {te : TE} {vs : List Nat} {σ : L2.St} {H1 : Hp} {D : Addr} {Qd : Hp → Prop} (S : List Addr) (ds : Nat → PyData) (hD : H1 D = none) (hn : n ≤ 1000) (th : There S H1) (hG : ∀ H, Same H1 H → G H)
    (hs : ∀ i x H H', i < n → Same H1 H → There (D :: S) H → Y i H x H' → Same H H' ∧ ∀ Q' : VK, (∀ y H4, Same H' H4 → Dp K (hid (D :: S) H4) y (ds i) → Q' y H4) → g x (wipe σ vs) H' fun σ2 H2 => wipe σ2 vs = wipe σ vs ∧ te σ2 H2 Q')
    (hd : ∀ H', Same H1 H' → (∃ acc, H' D = some (.lst acc) ∧ DpAll K (hid (D :: S) H') acc ((List.range n).map ds)) → Dp K (hid S H') (.ref D) (.list ((List.range n).map ds)) → Qd H') :
    ∃ W : Nat → Nat → Hp → Prop, (∃ m, W 0 m (upd H1 D (.lst []))) ∧ ∀ i m H, W i m H →
      (J.stop i H ∧ Qd H) ∨ (J.go i H ∧ ∃ Nx : Hp → Prop, (∀ H', Nx H' → ∃ m', m' < m ∧ W (i + 1) m' H') ∧ ∀ x H', J.yld i H x H' → g x (wipe σ vs) H' fun σ2 H2 => wipe σ2 vs = wipe σ vs ∧ tYes σ2 H2 fun b H3 =>
        if b = true then te σ2 H3 fun y H4 => ∃ acc, H4 D = some (.lst acc) ∧ acc.length < sizeLine ∧ Nx (upd H4 D (.lst (acc ++ [y]))) else Nx H3) := by
  have dS : D ∉ S := th.new hD
  refine lc_it w (g := g) (tt := tYes) (te := te) (vs := vs) (σ := σ) (H1 := H1) (D := D) (Qd := Qd) (fun i H => Same H1 H ∧ ∃ acc, H D = some (.lst acc) ∧ DpAll K (hid (D :: S) H) acc ((List.range i).map ds)) ⟨Same.new hD, [], upd_same, .nil⟩ (fun i H _ p => hG H p.1) ?_ ?_
  · rintro i x H H' hi ⟨s1, acc, ha, hdp⟩ y
    obtain ⟨sH, q⟩ := hs i x H H' hi s1 (.cons ha (th.same s1)) y
    refine q (fun y H4 => ∃ acc, H4 D = some (.lst acc) ∧ acc.length < sizeLine ∧ (Same H1 (upd H4 D (.lst (acc ++ [y]))) ∧ ∃ acc', upd H4 D (.lst (acc ++ [y])) D = some (.lst acc') ∧ DpAll K (hid (D :: S) (upd H4 D (.lst (acc ++ [y])))) acc' ((List.range (i + 1)).map ds))) ?_
    · intro y H4 s4 hy
      have s5 := sH.trans s4
      have hl : acc.length = i := by have := hdp.length; rw [List.length_map, List.length_range] at this; exact this
      refine ⟨acc, s5 _ _ ha, small1000 (by omega), (s1.trans s5).put hD, _, upd_same, ?_⟩
      rw [hid_upd_in (List.mem_cons_self ..), List.range_succ, List.map_append]
      exact (hdp.hs s5).snoc hy
  · rintro H' ⟨s1, acc, ha, hdp⟩
    refine hd H' s1 ⟨acc, ha, hdp⟩ (.lst (SqL.of ?_) (hdp.same hid_cons))
    rw [hid_out dS]; exact ha
/-- a comprehension over range(n) with a test on the number itself -/
theorem lc_filter {lo : Int} {n k : Nat} {tt : TT} {vs : List Nat} {σ : L2.St} {H1 : Hp} {D : Addr} {Qd : Hp → Prop} (p : Nat → Bool) (hD : H1 D = none) (hn : n ≤ 1000) (hk : k < σ.length) (hv : ∀ x, wipe ((wipe σ vs).set k x) vs = wipe σ vs)
    (hs : ∀ i H, i < n → Same H1 H → ∀ Qt : Bool → Hp → Prop, (∀ H', Same H H' → Qt (p i) H') → tt ((wipe σ vs).set k (some (.int (lo + i)))) H Qt)
    (hd : ∀ H', Same H1 H' → H' D = some (.lst (((List.range n).filter p).map fun i : Nat => V.int (lo + i))) → Qd H') :
    ∃ W : Nat → Nat → Hp → Prop, (∃ m, W 0 m (upd H1 D (.lst []))) ∧ ∀ i m H, W i m H →
      ((Itr lo n).stop i H ∧ Qd H) ∨ ((Itr lo n).go i H ∧ ∃ Nx : Hp → Prop, (∀ H', Nx H' → ∃ m', m' < m ∧ W (i + 1) m' H') ∧ ∀ x H', (Itr lo n).yld i H x H' → gName k x (wipe σ vs) H' fun σ2 H2 => wipe σ2 vs = wipe σ vs ∧ tt σ2 H2 fun b H3 =>
        if b = true then tVar k σ2 H3 fun y H4 => ∃ acc, H4 D = some (.lst acc) ∧ acc.length < sizeLine ∧ Nx (upd H4 D (.lst (acc ++ [y]))) else Nx H3) := by
  refine lc_it (walk_range (lo := lo) (n := n)) (g := gName k) (tt := tt) (te := tVar k) (vs := vs) (σ := σ) (H1 := H1) (D := D) (Qd := Qd) (fun i H => Same H1 H ∧ H D = some (.lst (((List.range i).filter p).map fun i : Nat => V.int (lo + i)))) ⟨Same.new hD, upd_same⟩ (fun _ _ _ _ => trivial) ?_ (fun H' h => hd H' h.1 h.2)
  rintro i x H H' hi ⟨s1, ha⟩ ⟨rfl, rfl⟩
  refine ⟨hv _, hs i _ hi s1 _ fun H3 s3 => ?_⟩
  have e : (List.range (i + 1)).filter p = (List.range i).filter p ++ if p i = true then [i] else [] := by
    rw [List.range_succ, List.filter_append]
    congr 1
    by_cases q : p i = true
    · rw [if_pos q, List.filter_cons_of_pos q]; rfl
    · rw [if_neg q, List.filter_cons_of_neg q]; rfl
  have hl : (((List.range i).filter p).map fun i : Nat => V.int (lo + i)).length ≤ i := by
    rw [List.length_map]
    exact Nat.le_trans (List.length_filter_le _ _) (Nat.le_of_eq List.length_range)
  by_cases q : p i = true
  · rw [if_pos q]
    have hkk : k < (wipe σ vs).length := by rw [wipe_length]; exact hk
    refine ⟨_, List.getElem?_set_self hkk, _, s3 _ _ ha, small1000 (by omega), (s1.trans s3).put hD, ?_⟩
    rw [upd_same, e, if_pos q, List.map_append]
    rfl
  · rw [if_neg q]
    refine ⟨s1.trans s3, ?_⟩
    rw [s3 _ _ ha, e, if_neg q, List.append_nil]
end
end K31
namespace K31
open PySem PySem.Spec PyProof.Rows L2
section
variable {P : Program} {w : World} {K : PySem.W.Frag} {mg : Str → Option Value} {base : Heap}
theorem cal_mk {x : Str} {N ps : List Str} {st : Stmt} {k : Nat} {sp : Sp} (F : ∃ fd, FunD K x x (defArgs st) (defBody st) (defScope st) [] [] (He.ga K x) fd) (g : mg x = some (.ref (He.ga K x))) (S : FnScope N ps (defScope st))
    (hb : ∀ (kV doc pm : Value) (an : Option Addr) (cdv ct : Value) (us : List Value), us.length = ps.length → bindArgs (PySem.W.fnOf x x (defArgs st) (defBody st) (defScope st) .none kV doc pm an cdv ct) ⟨us, []⟩ = pure (ps.zip us))
    (len : ∀ vs H Q E, sp vs H Q E → vs.length = ps.length)
    (hbody : ∀ (cdv : Value) (A : Around) (outer : List Env) (s : Shared) (H : Hp) (vs : List V) (Q : VK) (E : XK), Room k (A.deeper (envOfC x (defScope st) s.heap.objs.size (He.ga K x) cdv)) → sp vs H Q E →
      ∃ t, PSs (cxOf CX0 P w K mg base N x (defScope st) (He.ga K x) cdv A outer s H E).nox (defBody st) t ∧ t { nx := fun _ H' => Q .non H', rt := Q } (L2.start N vs) H) : Cal P w K mg base (k + 1) x ps sp := by
  obtain ⟨fd, F⟩ := F
  refine ⟨⟨fd, F.ok S len fun cdv A outer s H vs Q E hr h => ?_, F.bindsN hb⟩, g, F.kp⟩
  obtain ⟨t, h1, h2⟩ := hbody cdv A outer s H vs Q E hr h
  exact ⟨t, h1.nox, h2⟩
/-- a def that reckons data of data, and changes nothing -/
def puSp (K : PySem.W.Frag) (R : List PyData → PyData → Prop) : Sp := fun vs H Q _ => ∃ (S : List Addr) (ds : List PyData) (r : PyData), There S H ∧ DpAll K (hid S H) vs ds ∧ R ds r ∧ ∀ H' v, Same H H' → Dp K (hid S H') v r → Q v H'
theorem cal_pu {x : Str} {N ps : List Str} {st : Stmt} {k : Nat} {R : List PyData → PyData → Prop} (F : ∃ fd, FunD K x x (defArgs st) (defBody st) (defScope st) [] [] (He.ga K x) fd) (g : mg x = some (.ref (He.ga K x))) (S : FnScope N ps (defScope st))
    (hb : ∀ (kV doc pm : Value) (an : Option Addr) (cdv ct : Value) (us : List Value), us.length = ps.length → bindArgs (PySem.W.fnOf x x (defArgs st) (defBody st) (defScope st) .none kV doc pm an cdv ct) ⟨us, []⟩ = pure (ps.zip us))
    (hR : ∀ ds r, R ds r → ds.length = ps.length)
    (hbody : ∀ (cdv : Value) (A : Around) (outer : List Env) (s : Shared) (H : Hp) (vs : List V) (Q : VK) (E : XK), Room k (A.deeper (envOfC x (defScope st) s.heap.objs.size (He.ga K x) cdv)) → ∀ (S : List Addr) (ds : List PyData) (r : PyData), There S H → DpAll K (hid S H) vs ds → R ds r → (∀ H' v, Same H H' → Dp K (hid S H') v r → Q v H') →
      ∃ t, PSs (cxOf CX0 P w K mg base N x (defScope st) (He.ga K x) cdv A outer s H E).nox (defBody st) t ∧ t { nx := fun _ H' => Q .non H', rt := Q } (L2.start N vs) H) : Cal P w K mg base (k + 1) x ps (puSp K R) :=
  cal_mk F g S hb (fun vs H Q E ⟨S, ds, r, _, h, q, _⟩ => h.length.trans (hR ds r q)) fun cdv A outer s H vs Q E hr ⟨S, ds, r, h1, h2, h3, h4⟩ => hbody cdv A outer s H vs Q E hr S ds r h1 h2 h3 h4
end
section
variable {K : PySem.W.Frag} {H : Hp} {vs : List V} {a b c d : PyData}
theorem dp1 (h : DpAll K H vs [a]) : ∃ v, vs = [v] ∧ Dp K H v a := h.one
theorem dp2 (h : DpAll K H vs [a, b]) : ∃ v w, vs = [v, w] ∧ Dp K H v a ∧ Dp K H w b := by
  cases h with
  | cons h1 h =>
    obtain ⟨w, rfl, h2⟩ := dp1 h
    exact ⟨_, w, rfl, h1, h2⟩
theorem dp3 (h : DpAll K H vs [a, b, c]) : ∃ v w x, vs = [v, w, x] ∧ Dp K H v a ∧ Dp K H w b ∧ Dp K H x c := by
  cases h with
  | cons h1 h =>
    obtain ⟨w, x, rfl, h2, h3⟩ := dp2 h
    exact ⟨_, w, x, rfl, h1, h2, h3⟩
theorem dp4 (h : DpAll K H vs [a, b, c, d]) : ∃ v w x y, vs = [v, w, x, y] ∧ Dp K H v a ∧ Dp K H w b ∧ Dp K H x c ∧ Dp K H y d := by
  cases h with
  | cons h1 h =>
    obtain ⟨w, x, y, rfl, h2, h3, h4⟩ := dp3 h
    exact ⟨_, w, x, y, rfl, h1, h2, h3, h4⟩
end
section
variable {X : Cx} {tg : Expr}
theorem ix_listK (K : PySem.W.Frag) (h : X.K = K := by rfl) : IxR X (rIxL K) := by subst h; exact ix_list
theorem ix_tupK (K : PySem.W.Frag) (h : X.K = K := by rfl) : IxR X (rIxT K) := by subst h; exact ix_tup
theorem pi_listK (K : PySem.W.Frag) {l : Expr} {tl : TE} (hl : PE X l tl) (h : X.K = K := by rfl) : PI X tg l (iList K tl) := by subst h; exact pi_list hl
theorem pi_tupK (K : PySem.W.Frag) {l : Expr} {tl : TE} (hl : PE X l tl) (h : X.K = K := by rfl) : PI X tg l (iTup K tl) := by subst h; exact pi_tup hl
theorem lenK (K : PySem.W.Frag) (h : X.K = K := by rfl) : CallR X (.builtin "len") (fun xs H Q => ∃ p ys, xs = [.ref p] ∧ (SqL K H p ys ∨ SqT K H p ys) ∧ Q (.int ys.length) H) := by subst h; exact call_len_seq
theorem sumK (K : PySem.W.Frag) (hc : X.calm = true) (h : X.K = K := by rfl) : CallR X (.builtin "sum") (rSum K) := by subst h; exact cr_sum hc
theorem allK (K : PySem.W.Frag) (hc : X.calm = true) (h : X.K = K := by rfl) : CallR X (.builtin "all") (rAll K) := by subst h; exact cr_all hc
theorem anyK (K : PySem.W.Frag) (hc : X.calm = true) (h : X.K = K := by rfl) : CallR X (.builtin "any") (rAny K) := by subst h; exact cr_any hc
theorem isiK (K : PySem.W.Frag) (h : X.K = K := by rfl) : CallR X (.builtin "isinstance") (rIsi K) := by subst h; exact call_isi
theorem pi_zipK (K : PySem.W.Frag) {e e2 : Expr} {ta : TA} {p pos tpos : Pos} {elts : List Expr} {kk : Nat} (hm : X.mg "zip" = none) (ha : PA X [e, e2] ta) (hg : Gl X "zip" := by rfl) (h : X.K = K := by rfl)
    (hs : starEach [e, e2] X.env = (false, eval e X.env) :: starEach [e2] X.env := by rfl) (hpl : (backTo pos (starEach [e2] X.env)).any (·.1) = false := by rfl) : PI X (.Tuple elts kk tpos) (.Call (.Name "zip" p) [e, e2] [] pos) (iZip K ta) := by subst h; exact pi_zip hg hm ha hs hpl
theorem pg_tupK (K : PySem.W.Frag) {es : List Expr} {k : Nat} {t : TGs} {n : Nat} {pos : Pos} (hc : X.calm = true) (h : PGs X es t) (hk : X.K = K := by rfl)
    (hn : (assignEach es X.env).length = n := by rfl) (hst : (assignEach es X.env).findIdx? (·.1) = none := by rfl) : PG X (.Tuple es k pos) (gTup K n t) := by subst hk; exact pg_tup hc h hn hst
end
end K31
namespace K31
open PySem PySem.Spec PyProof.Rows L2
section
variable {P : Program} {w : World} {K : PySem.W.Frag} {mg : Str → Option Value} {base : Heap}
/-! ### common: the greatest common divisor -/
def rCommon (ds : List PyData) (r : PyData) : Prop := ∃ a b : Int, ds = [.int a, .int b] ∧ r = .int (Int.gcd a b)
theorem abs_if (a : Int) : (if a < 0 then -a else a) = (a.natAbs : Int) := by split <;> omega
abbrev N_common : List Str := ["one", "other"]
theorem sc_common : FnScope N_common ["one", "other"] (defScope s_common) := ⟨rfl, rfl, rfl, by decide +kernel, rfl, by decide +kernel, by decide +kernel⟩
theorem c_common (T : Txt K mg) : Cal P w K mg base 1 "common" ["one", "other"] (puSp K rCommon) := by
  refine cal_pu T.F_s_common T.g_common sc_common (fun _ _ _ _ _ _ us hl => match us, hl with | [_, _], _ => rfl) (fun ds r ⟨a, b, e, _⟩ => by rw [e]; rfl) fun cdv A outer s H vs Q E hr S ds r hS hd hR kq => ?_
  obtain ⟨a, b, rfl, rfl⟩ := hR
  obtain ⟨v, u, rfl, h1, h2⟩ := dp2 hd
  cases dp_int h1
  cases dp_int h2
  refine ⟨_, (pss_cons (sset 0 sc_common.nd (pe_callB call_abs (by rfl) T.f_abs (by decide +kernel) (pa_cons (pv 0) pa_nil)))
 (pss_cons (sset 1 sc_common.nd (pe_callB call_abs (by rfl) T.f_abs (by decide +kernel) (pa_cons (pv 1) pa_nil)))
 (pss_cons (ps_while PassesOwn.never (pt_cmpR op_gt (pv 1) pe_int (nomark _))
  (pss_one (ps_par (i := 0) (j := 1) rfl sc_common.nd rfl rfl (by decide) rfl rfl (pa_cons (pv 1) (pa_cons (pe_op op_modN (pv 0) (pv 1)) pa_nil)) (by rfl))))
 (pss_one (ps_ret (pv 0)))))), ?_⟩
  refine ⟨_, rfl, a, rfl, _, rfl, b, rfl, ?_⟩
  rw [abs_if, abs_if]
  refine while_by (fun σ H' => H' = H ∧ ∃ x y : Nat, σ = [some (.int x), some (.int y)] ∧ Nat.gcd x y = Int.gcd a b) (fun σ _ => match σ with | [_, some (.int y)] => y.natAbs | _ => 0) ⟨rfl, _, _, rfl, rfl⟩ ?_ ?_
  · rintro σ H' ⟨rfl, x, y, rfl, e⟩
    refine ⟨_, rfl, _, _, rfl, rfl, _, rfl, ?_⟩
    by_cases hy : (0 : Int) < (y : Int)
    · rw [decide_eq_true hy]
      refine iteT ?_
      refine ⟨_, rfl, _, rfl, _, rfl, _, _, rfl, rfl, (by omega), ?_⟩
      refine ⟨_, _, rfl, ⟨rfl, y, x % y, ?_, ?_⟩, ?_⟩
      · show [some (V.int y), some (V.int (Int.fmod x y))] = _
        rw [Int.fmod_eq_emod_of_nonneg _ (by omega), ← Int.natCast_emod]
      · rw [← e, Nat.gcd_comm x y, Nat.gcd_rec y x, Nat.gcd_comm]
      · show (Int.fmod x y).natAbs < ((y : Int)).natAbs
        rw [Int.fmod_eq_emod_of_nonneg _ (by omega), ← Int.natCast_emod]
        have := Nat.mod_lt x (show 0 < y by omega)
        omega
    · rw [decide_eq_false hy]
      refine iteF ?_
      have y0 : y = 0 := by omega
      subst y0
      refine ⟨_, rfl, kq _ _ (Same.refl _) ?_⟩
      rw [← e, Nat.gcd_zero_right]
      exact .int _
  · rintro σ H' Q1 Q2 hq ⟨v, e, i, j, h1, h2, k, h3, h4⟩
    exact ⟨v, e, i, j, h1, h2, k, h3, hq _ _ h4⟩
/-! ### is_whole, of a whole number -/
def rIsWhole (ds : List PyData) (r : PyData) : Prop := ∃ a : Int, ds = [.int a] ∧ r = .bool true
theorem kit_int_int {K : PySem.W.Frag} : PySem.W.kitOne K (.type "int") (.type "int") = some true := kit_ty (by decide +kernel)
theorem kit_int_bool {K : PySem.W.Frag} : PySem.W.kitOne K (.type "int") (.type "bool") = some false := kit_ty (by decide +kernel)
theorem kit_list_list {K : PySem.W.Frag} : PySem.W.kitOne K (.type "list") (.type "list") = some true := kit_ty (by decide +kernel)
theorem kit_tup_tup {K : PySem.W.Frag} : PySem.W.kitOne K (.type "tuple") (.type "tuple") = some true := kit_ty (by decide +kernel)
theorem kit_str_str {K : PySem.W.Frag} : PySem.W.kitOne K (.type "str") (.type "str") = some true := kit_ty (by decide +kernel)
theorem kit_str_list {K : PySem.W.Frag} : PySem.W.kitOne K (.type "str") (.type "list") = some false := kit_ty (by decide +kernel)
abbrev N_is_whole : List Str := ["thing"]
theorem sc_is_whole : FnScope N_is_whole ["thing"] (defScope s_is_whole) := ⟨rfl, rfl, rfl, by decide +kernel, rfl, by decide +kernel, by decide +kernel⟩
theorem c_is_whole (T : Txt K mg) : Cal P w K mg base 1 "is_whole" ["thing"] (puSp K rIsWhole) := by
  refine cal_pu T.F_s_is_whole T.g_is_whole sc_is_whole (fun _ _ _ _ _ _ us hl => match us, hl with | [_], _ => rfl) (fun ds r ⟨a, e, _⟩ => by rw [e]; rfl) fun cdv A outer s H vs Q E hr S ds r hS hd hR kq => ?_
  obtain ⟨a, rfl, rfl⟩ := hR
  obtain ⟨v, rfl, h1⟩ := dp1 hd
  cases dp_int h1
  refine ⟨_, (pss_one (ps_ret (pe_and (pe_callB (isiK K) (by rfl) T.f_isinstance (by decide +kernel) (pa_cons (pv 0) (pa_cons (pe_bltn (v := .ty "int") (by rfl) T.f_int (by decide +kernel) rfl) pa_nil))) (pe_one (pe_not (pe_callB (isiK K) (by rfl) T.f_isinstance (by decide +kernel) (pa_cons (pv 0) (pa_cons (pe_bltn (v := .ty "bool") (by rfl) T.f_bool (by decide +kernel) rfl) pa_nil)))))))), ?_⟩
  refine ⟨_, rfl, _, _, _, _, _, rfl, .ty "int", .base (.int a), kit_int_int, true, rfl, iteT ?_⟩
  refine ⟨_, rfl, _, _, _, _, _, rfl, .ty "bool", .base (.int a), kit_int_bool, false, rfl, ?_⟩
  exact kq _ _ (Same.refl _) (.bl true)
/-! ### is_fraction, of a fraction -/
def rIsFraction (ds : List PyData) (r : PyData) : Prop := ∃ q : Rat, ds = [fr q] ∧ r = .bool true
abbrev N_is_fraction : List Str := ["thing", "top", "bottom"]
theorem sc_is_fraction : FnScope N_is_fraction ["thing"] (defScope s_is_fraction) := ⟨rfl, rfl, rfl, by decide +kernel, rfl, by decide +kernel, by decide +kernel⟩
theorem c_is_fraction (T : Txt K mg) : Cal P w K mg base 2 "is_fraction" ["thing"] (puSp K rIsFraction) := by
  refine cal_pu T.F_s_is_fraction T.g_is_fraction sc_is_fraction (fun _ _ _ _ _ _ us hl => match us, hl with | [_], _ => rfl) (fun ds r ⟨a, e, _⟩ => by rw [e]; rfl) fun cdv A outer s H vs Q E hr S ds r hS hd hR kq => ?_
  obtain ⟨q, rfl, rfl⟩ := hR
  obtain ⟨v, rfl, h1⟩ := dp1 hd
  have h1' := h1.up
  obtain ⟨a, rfl, h2⟩ := dp_fr h1'
  refine ⟨_, (pss_cons (ps_if (PW.pt (pw_or (pt_not (pt_val (pe_callB (isiK K) (by rfl) T.f_isinstance (by decide +kernel) (pa_cons (pv 0) (pa_cons (pe_bltn (v := .ty "tuple") (by rfl) T.f_tuple (by decide +kernel) rfl) pa_nil))))) (pw_or1 (pt_cmpR op_ne (pe_callB (lenK K) (by rfl) T.f_len (by decide +kernel) (pa_cons (pv 0) pa_nil)) pe_int (nomark _)))))
  (pss_one (ps_ret pe_bl))
  pss_nil)
 (pss_cons (ps_asg (pv 0) (pg_tupK (n := 2) K rfl (pgs_cons (pgn 1 sc_is_fraction.nd) (pgs_cons (pgn 2 sc_is_fraction.nd) pgs_nil))))
 (pss_one (ps_ret (pe_and (pe_cal (c_is_whole T) (hr.mono (by decide)) (pa_cons (pv 1) pa_nil)) (pe_and (pe_cal (c_is_whole T) (hr.mono (by decide)) (pa_cons (pv 2) pa_nil)) (pe_and (pe_cmpR op_gt (pv 2) pe_int (nomark _)) (pe_one (pe_cmpR op_eq (pe_cal (c_common T) (hr.mono (by decide)) (pa_cons (pv 1) (pa_cons (pv 2) pa_nil))) pe_int (nomark _)))))))))), ?_⟩
  refine ⟨_, rfl, _, _, _, _, _, rfl, .ty "tuple", tyx_tup h1', kit_tup_tup, true, rfl, iteF ?_⟩
  refine ⟨_, rfl, _, _, rfl, .inr h2, rfl, _, rfl, iteF ?_⟩
  refine ⟨_, rfl, _, _, rfl, h2, rfl, _, _, rfl, _, _, rfl, rfl, ?_⟩
  refine ⟨_, rfl, [], _, _, .nil, .cons (.int _) .nil, ⟨_, rfl, rfl⟩, fun H2 v2 s2 e2 => ?_⟩
  cases dp_bl e2
  refine ⟨_, rfl, iteT ?_⟩
  refine ⟨_, rfl, [], _, _, .nil, .cons (.int _) .nil, ⟨_, rfl, rfl⟩, fun H3 v3 s3 e3 => ?_⟩
  cases dp_bl e3
  refine ⟨_, rfl, iteT ?_⟩
  refine ⟨_, rfl, _, _, rfl, rfl, _, rfl, ?_⟩
  rw [decide_eq_true (show (0 : Int) < (q.den : Int) from Int.natCast_pos.mpr q.den_pos)]
  refine iteT ?_
  refine ⟨_, rfl, _, rfl, [], _, _, .nil, .cons (.int _) (.cons (.int _) .nil), ⟨_, _, rfl, rfl⟩, fun H4 v4 s4 e4 => ?_⟩
  cases dp_int e4
  refine ⟨rfl, ?_⟩
  have g1 : Int.gcd q.num (q.den : Int) = 1 := q.reduced
  rw [g1]
  exact kq _ _ ((s2.trans s3).trans s4) (.bl true)
end
end K31
namespace K31
open PySem PySem.Spec PyProof.Rows L2
section
variable {P : Program} {w : World} {K : PySem.W.Frag} {mg : Str → Option Value} {base : Heap}
/-! ### lowest -/
def rLowest (ds : List PyData) (r : PyData) : Prop := ∃ t b : Int, ds = [.int t, .int b] ∧ b ≠ 0 ∧ b.natAbs < 2 ^ 9000 ∧ r = fr (Rat.divInt t b)
theorem div_ok {t b : Int} (hb : 0 < b) (h9 : b.natAbs < 2 ^ 9000) : CDivW t (Int.gcd t b : Int) := by
  have h0 : 0 < Int.gcd t b := Int.gcd_pos_of_ne_zero_right t (by omega)
  refine wide_div (b := 9000) (by omega) ?_ (by decide) (Nat.le_refl _)
  rw [Int.natAbs_natCast]
  have h1 : Int.gcd t b ∣ b.natAbs := Int.natAbs_dvd_natAbs.mpr (Int.gcd_dvd_right t b)
  exact Nat.lt_of_le_of_lt (Nat.le_of_dvd (by omega) h1) h9
abbrev N_lowest : List Str := ["top", "bottom", "share"]
theorem sc_lowest : FnScope N_lowest ["top", "bottom"] (defScope s_lowest) := ⟨rfl, rfl, rfl, by decide +kernel, rfl, by decide +kernel, by decide +kernel⟩
theorem c_lowest (T : Txt K mg) : Cal P w K mg base 2 "lowest" ["top", "bottom"] (puSp K rLowest) := by
  refine cal_pu T.F_s_lowest T.g_lowest sc_lowest (fun _ _ _ _ _ _ us hl => match us, hl with | [_, _], _ => rfl) (fun ds r ⟨a, b, e, _⟩ => by rw [e]; rfl) fun cdv A outer s H vs Q E hr S ds r hS hd hR kq => ?_
  obtain ⟨t, b, rfl, hb, h9, rfl⟩ := hR
  obtain ⟨v, u, rfl, h1, h2⟩ := dp2 hd
  cases dp_int h1
  cases dp_int h2
  refine ⟨_, (pss_cons (ps_if (pt_cmpR op_lt (pv 1) pe_int (nomark _))
  (pss_cons (sset 0 sc_lowest.nd (pe_op op_sub pe_int (pv 0)))
 (pss_one (sset 1 sc_lowest.nd (pe_op op_sub pe_int (pv 1)))))
  pss_nil)
 (pss_cons (sset 2 sc_lowest.nd (pe_cal (c_common T) (hr.mono (by decide)) (pa_cons (pv 0) (pa_cons (pv 1) pa_nil))))
 (pss_one (ps_ret (pe_tup (pa_cons (pe_op op_fdivW (pv 0) (pv 2)) (pa_cons (pe_op op_fdivW (pv 1) (pv 2)) pa_nil))))))), ?_⟩
  obtain ⟨e1, e2⟩ := divInt_parts t b hb
  have go : ∀ (t' b' : Int), 0 < b' → b'.natAbs < 2 ^ 9000 → (Rat.divInt t b).num = t' / (Int.gcd t' b' : Int) → ((Rat.divInt t b).den : Int) = b' / (Int.gcd t' b' : Int) → ∀ H2 v2, Same H H2 → Dp K (hid [] H2) v2 (.int (Int.gcd t' b')) →
      tRet (tTup (tCons (tOp (rI CDivW fun i j => .int (i / j)) (tVar 0) (tVar 2)) (tCons (tOp (rI CDivW fun i j => .int (i / j)) (tVar 1) (tVar 2)) tNil))) { nx := fun _ H' => Q .non H', rt := Q } [some (.int t'), some (.int b'), some v2] H2 := by
    intro t' b' hb' h9' e1 e2 H2 v2 s2 d2
    cases dp_int d2
    refine ⟨_, rfl, _, rfl, _, _, rfl, rfl, div_ok hb' h9', _, rfl, _, rfl, _, _, rfl, rfl, ?_, by show 2 ≤ sizeLine; decide, fun p hp => ?_⟩
    · have := div_ok (t := t') hb' h9'
      exact ⟨this.1, this.2⟩
    · refine kq _ _ (s2.put (s2.free hp)) ?_
      have pS := (hS.same s2).new hp
      refine fr_dp (SqT.of ?_)
      rw [hid_upd_out pS, upd_same, e1, e2]
  refine ⟨_, rfl, _, _, rfl, rfl, _, rfl, ?_⟩
  by_cases hn : b < 0
  · rw [decide_eq_true hn]
    refine iteT ?_
    rw [if_pos hn, if_pos hn] at e1 e2
    refine ⟨_, rfl, _, _, rfl, rfl, _, rfl, _, _, rfl, rfl, ?_⟩
    refine ⟨_, rfl, _, rfl, [], _, _, .nil, .cons (.int _) (.cons (.int _) .nil), ⟨_, _, rfl, rfl⟩, fun H2 v2 s2 d2 => ?_⟩
    exact go (0 - t) (0 - b) (by omega) (by omega) e1 e2 H2 v2 s2 d2
  · rw [decide_eq_false hn]
    refine iteF ?_
    rw [if_neg hn, if_neg hn] at e1 e2
    refine ⟨_, rfl, _, rfl, [], _, _, .nil, .cons (.int _) (.cons (.int _) .nil), ⟨_, _, rfl, rfl⟩, fun H2 v2 s2 d2 => ?_⟩
    exact go t b (by omega) h9 e1 e2 H2 v2 s2 d2
/-! ### plus, minus, times, divided, under -/
def rPlus (ds : List PyData) (r : PyData) : Prop := ∃ (x y : Rat) (a b : Nat), ds = [fr x, fr y] ∧ Sz a x ∧ Sz b y ∧ a + b ≤ 9000 ∧ r = fr (x + y)
def rMinus (ds : List PyData) (r : PyData) : Prop := ∃ (x y : Rat) (a b : Nat), ds = [fr x, fr y] ∧ Sz a x ∧ Sz b y ∧ a + b ≤ 9000 ∧ r = fr (x - y)
def rTimes (ds : List PyData) (r : PyData) : Prop := ∃ (x y : Rat) (a b : Nat), ds = [fr x, fr y] ∧ Sz a x ∧ Sz b y ∧ a + b ≤ 9000 ∧ r = fr (x * y)
def rDivided (ds : List PyData) (r : PyData) : Prop := ∃ (x y : Rat) (a b : Nat), ds = [fr x, fr y] ∧ Sz a x ∧ Sz b y ∧ a + b ≤ 9000 ∧ y ≠ 0 ∧ r = fr (x / y)
def rUnder (ds : List PyData) (r : PyData) : Prop := ∃ (x y : Rat) (a b : Nat), ds = [fr x, fr y] ∧ Sz a x ∧ Sz b y ∧ a + b ≤ 20000 ∧ r = .bool (decide (x < y))
theorem mul_ok {i j : Int} {a b : Nat} (hi : i.natAbs < 2 ^ a) (hj : j.natAbs < 2 ^ b) (h : a + b ≤ 30000) : CMulW i j := wide_mul (a := a + 1) (b := b + 1) (Nat.lt_of_lt_of_le hi (two_pow_le (by omega))) (Nat.lt_of_lt_of_le hj (two_pow_le (by omega))) (by omega) (by omega) (by omega)
theorem nine {z : Int} {a b : Nat} (h : z.natAbs < 2 ^ (a + b)) (hab : a + b ≤ 9000) : z.natAbs < 2 ^ 9000 := Nat.lt_of_lt_of_le h (two_pow_le hab)
abbrev N_plus : List Str := ["one", "other"]
theorem sc_plus : FnScope N_plus ["one", "other"] (defScope s_plus) := ⟨rfl, rfl, rfl, by decide +kernel, rfl, by decide +kernel, by decide +kernel⟩
theorem c_plus (T : Txt K mg) : Cal P w K mg base 3 "plus" ["one", "other"] (puSp K rPlus) := by
  refine cal_pu T.F_s_plus T.g_plus sc_plus (fun _ _ _ _ _ _ us hl => match us, hl with | [_, _], _ => rfl) (fun ds r ⟨a, b, _, _, e, _⟩ => by rw [e]; rfl) fun cdv A outer s H vs Q E hr S ds r hS hd hR kq => ?_
  obtain ⟨x, y, a, b, rfl, hx, hy, hab, rfl⟩ := hR
  obtain ⟨v, u, rfl, h1, h2⟩ := dp2 hd
  obtain ⟨p, rfl, f1⟩ := dp_fr h1.up
  obtain ⟨q, rfl, f2⟩ := dp_fr h2.up
  refine ⟨_, (pss_one (ps_ret (pe_cal (c_lowest T) (hr.mono (by decide)) (pa_cons (pe_op op_add (pe_op op_mulW (pe_ix (ix_tupK K) (pv 0) pe_int (fun _ _ => rfl)) (pe_ix (ix_tupK K) (pv 1) pe_int (fun _ _ => rfl))) (pe_op op_mulW (pe_ix (ix_tupK K) (pv 1) pe_int (fun _ _ => rfl)) (pe_ix (ix_tupK K) (pv 0) pe_int (fun _ _ => rfl)))) (pa_cons (pe_op op_mulW (pe_ix (ix_tupK K) (pv 0) pe_int (fun _ _ => rfl)) (pe_ix (ix_tupK K) (pv 1) pe_int (fun _ _ => rfl))) pa_nil))))), ?_⟩
  refine ⟨_, rfl, _, _, _, _, rfl, rfl, f1, rfl, _, rfl, _, _, _, _, rfl, rfl, f2, rfl, _, _, rfl, rfl, mul_ok hx.2 (den_lt hy) (by omega), ?_⟩
  refine ⟨_, rfl, _, _, _, _, rfl, rfl, f2, rfl, _, rfl, _, _, _, _, rfl, rfl, f1, rfl, _, _, rfl, rfl, mul_ok hy.2 (den_lt hx) (by omega), _, _, rfl, rfl, ?_⟩
  refine ⟨_, rfl, _, _, _, _, rfl, rfl, f1, rfl, _, rfl, _, _, _, _, rfl, rfl, f2, rfl, _, _, rfl, rfl, mul_ok (den_lt hx) (den_lt hy) (by omega), ?_⟩
  exact ⟨S, _, _, hS, .cons (.int _) (.cons (.int _) .nil), ⟨_, _, rfl, den_mul_ne x y, nine (nm_lt (den_lt hx) (den_lt hy)) hab, congrArg fr (add_divInt x y)⟩, kq⟩
abbrev N_minus : List Str := ["one", "other"]
theorem sc_minus : FnScope N_minus ["one", "other"] (defScope s_minus) := ⟨rfl, rfl, rfl, by decide +kernel, rfl, by decide +kernel, by decide +kernel⟩
theorem c_minus (T : Txt K mg) : Cal P w K mg base 3 "minus" ["one", "other"] (puSp K rMinus) := by
  refine cal_pu T.F_s_minus T.g_minus sc_minus (fun _ _ _ _ _ _ us hl => match us, hl with | [_, _], _ => rfl) (fun ds r ⟨a, b, _, _, e, _⟩ => by rw [e]; rfl) fun cdv A outer s H vs Q E hr S ds r hS hd hR kq => ?_
  obtain ⟨x, y, a, b, rfl, hx, hy, hab, rfl⟩ := hR
  obtain ⟨v, u, rfl, h1, h2⟩ := dp2 hd
  obtain ⟨p, rfl, f1⟩ := dp_fr h1.up
  obtain ⟨q, rfl, f2⟩ := dp_fr h2.up
  refine ⟨_, (pss_one (ps_ret (pe_cal (c_lowest T) (hr.mono (by decide)) (pa_cons (pe_op op_sub (pe_op op_mulW (pe_ix (ix_tupK K) (pv 0) pe_int (fun _ _ => rfl)) (pe_ix (ix_tupK K) (pv 1) pe_int (fun _ _ => rfl))) (pe_op op_mulW (pe_ix (ix_tupK K) (pv 1) pe_int (fun _ _ => rfl)) (pe_ix (ix_tupK K) (pv 0) pe_int (fun _ _ => rfl)))) (pa_cons (pe_op op_mulW (pe_ix (ix_tupK K) (pv 0) pe_int (fun _ _ => rfl)) (pe_ix (ix_tupK K) (pv 1) pe_int (fun _ _ => rfl))) pa_nil))))), ?_⟩
  refine ⟨_, rfl, _, _, _, _, rfl, rfl, f1, rfl, _, rfl, _, _, _, _, rfl, rfl, f2, rfl, _, _, rfl, rfl, mul_ok hx.2 (den_lt hy) (by omega), ?_⟩
  refine ⟨_, rfl, _, _, _, _, rfl, rfl, f2, rfl, _, rfl, _, _, _, _, rfl, rfl, f1, rfl, _, _, rfl, rfl, mul_ok hy.2 (den_lt hx) (by omega), _, _, rfl, rfl, ?_⟩
  refine ⟨_, rfl, _, _, _, _, rfl, rfl, f1, rfl, _, rfl, _, _, _, _, rfl, rfl, f2, rfl, _, _, rfl, rfl, mul_ok (den_lt hx) (den_lt hy) (by omega), ?_⟩
  exact ⟨S, _, _, hS, .cons (.int _) (.cons (.int _) .nil), ⟨_, _, rfl, den_mul_ne x y, nine (nm_lt (den_lt hx) (den_lt hy)) hab, congrArg fr (sub_divInt x y)⟩, kq⟩
abbrev N_times : List Str := ["one", "other"]
theorem sc_times : FnScope N_times ["one", "other"] (defScope s_times) := ⟨rfl, rfl, rfl, by decide +kernel, rfl, by decide +kernel, by decide +kernel⟩
theorem c_times (T : Txt K mg) : Cal P w K mg base 3 "times" ["one", "other"] (puSp K rTimes) := by
  refine cal_pu T.F_s_times T.g_times sc_times (fun _ _ _ _ _ _ us hl => match us, hl with | [_, _], _ => rfl) (fun ds r ⟨a, b, _, _, e, _⟩ => by rw [e]; rfl) fun cdv A outer s H vs Q E hr S ds r hS hd hR kq => ?_
  obtain ⟨x, y, a, b, rfl, hx, hy, hab, rfl⟩ := hR
  obtain ⟨v, u, rfl, h1, h2⟩ := dp2 hd
  obtain ⟨p, rfl, f1⟩ := dp_fr h1.up
  obtain ⟨q, rfl, f2⟩ := dp_fr h2.up
  refine ⟨_, (pss_one (ps_ret (pe_cal (c_lowest T) (hr.mono (by decide)) (pa_cons (pe_op op_mulW (pe_ix (ix_tupK K) (pv 0) pe_int (fun _ _ => rfl)) (pe_ix (ix_tupK K) (pv 1) pe_int (fun _ _ => rfl))) (pa_cons (pe_op op_mulW (pe_ix (ix_tupK K) (pv 0) pe_int (fun _ _ => rfl)) (pe_ix (ix_tupK K) (pv 1) pe_int (fun _ _ => rfl))) pa_nil))))), ?_⟩
  refine ⟨_, rfl, _, _, _, _, rfl, rfl, f1, rfl, _, rfl, _, _, _, _, rfl, rfl, f2, rfl, _, _, rfl, rfl, mul_ok hx.2 hy.2 (by omega), ?_⟩
  refine ⟨_, rfl, _, _, _, _, rfl, rfl, f1, rfl, _, rfl, _, _, _, _, rfl, rfl, f2, rfl, _, _, rfl, rfl, mul_ok (den_lt hx) (den_lt hy) (by omega), ?_⟩
  exact ⟨S, _, _, hS, .cons (.int _) (.cons (.int _) .nil), ⟨_, _, rfl, den_mul_ne x y, nine (nm_lt (den_lt hx) (den_lt hy)) hab, congrArg fr (mul_divInt x y)⟩, kq⟩
abbrev N_divided : List Str := ["one", "other"]
theorem sc_divided : FnScope N_divided ["one", "other"] (defScope s_divided) := ⟨rfl, rfl, rfl, by decide +kernel, rfl, by decide +kernel, by decide +kernel⟩
theorem c_divided (T : Txt K mg) : Cal P w K mg base 3 "divided" ["one", "other"] (puSp K rDivided) := by
  refine cal_pu T.F_s_divided T.g_divided sc_divided (fun _ _ _ _ _ _ us hl => match us, hl with | [_, _], _ => rfl) (fun ds r ⟨a, b, _, _, e, _⟩ => by rw [e]; rfl) fun cdv A outer s H vs Q E hr S ds r hS hd hR kq => ?_
  obtain ⟨x, y, a, b, rfl, hx, hy, hab, h0, rfl⟩ := hR
  obtain ⟨v, u, rfl, h1, h2⟩ := dp2 hd
  obtain ⟨p, rfl, f1⟩ := dp_fr h1.up
  obtain ⟨q, rfl, f2⟩ := dp_fr h2.up
  refine ⟨_, (pss_cons (ps_if (pt_cmpR op_eq (pe_ix (ix_tupK K) (pv 1) pe_int (fun _ _ => rfl)) pe_int (nomark _))
  (pss_one ps_never)
  pss_nil)
 (pss_one (ps_ret (pe_cal (c_lowest T) (hr.mono (by decide)) (pa_cons (pe_op op_mulW (pe_ix (ix_tupK K) (pv 0) pe_int (fun _ _ => rfl)) (pe_ix (ix_tupK K) (pv 1) pe_int (fun _ _ => rfl))) (pa_cons (pe_op op_mulW (pe_ix (ix_tupK K) (pv 0) pe_int (fun _ _ => rfl)) (pe_ix (ix_tupK K) (pv 1) pe_int (fun _ _ => rfl))) pa_nil)))))), ?_⟩
  refine ⟨_, rfl, _, _, _, _, rfl, rfl, f2, rfl, rfl, _, rfl, ?_⟩
  rw [decide_eq_false (show ¬ V.int y.num = V.int 0 from fun e => num_ne h0 (by injection e))]
  refine iteF ?_
  refine ⟨_, rfl, _, _, _, _, rfl, rfl, f1, rfl, _, rfl, _, _, _, _, rfl, rfl, f2, rfl, _, _, rfl, rfl, mul_ok hx.2 (den_lt hy) (by omega), ?_⟩
  refine ⟨_, rfl, _, _, _, _, rfl, rfl, f1, rfl, _, rfl, _, _, _, _, rfl, rfl, f2, rfl, _, _, rfl, rfl, mul_ok (den_lt hx) hy.2 (by omega), ?_⟩
  exact ⟨S, _, _, hS, .cons (.int _) (.cons (.int _) .nil), ⟨_, _, rfl, Int.mul_ne_zero (den_ne x) (num_ne h0), nine (nm_lt (den_lt hx) hy.2) hab, congrArg fr (div_divInt x y)⟩, kq⟩
abbrev N_under : List Str := ["one", "other"]
theorem sc_under : FnScope N_under ["one", "other"] (defScope s_under) := ⟨rfl, rfl, rfl, by decide +kernel, rfl, by decide +kernel, by decide +kernel⟩
theorem c_under (T : Txt K mg) : Cal P w K mg base 1 "under" ["one", "other"] (puSp K rUnder) := by
  refine cal_pu T.F_s_under T.g_under sc_under (fun _ _ _ _ _ _ us hl => match us, hl with | [_, _], _ => rfl) (fun ds r ⟨a, b, _, _, e, _⟩ => by rw [e]; rfl) fun cdv A outer s H vs Q E hr S ds r hS hd hR kq => ?_
  obtain ⟨x, y, a, b, rfl, hx, hy, hab, rfl⟩ := hR
  obtain ⟨v, u, rfl, h1, h2⟩ := dp2 hd
  obtain ⟨p, rfl, f1⟩ := dp_fr h1.up
  obtain ⟨q, rfl, f2⟩ := dp_fr h2.up
  refine ⟨_, (pss_one (ps_ret (pe_cmpR op_lt (pe_op op_mulW (pe_ix (ix_tupK K) (pv 0) pe_int (fun _ _ => rfl)) (pe_ix (ix_tupK K) (pv 1) pe_int (fun _ _ => rfl))) (pe_op op_mulW (pe_ix (ix_tupK K) (pv 1) pe_int (fun _ _ => rfl)) (pe_ix (ix_tupK K) (pv 0) pe_int (fun _ _ => rfl))) (nomark _)))), ?_⟩
  refine ⟨_, rfl, _, _, _, _, rfl, rfl, f1, rfl, _, rfl, _, _, _, _, rfl, rfl, f2, rfl, _, _, rfl, rfl, mul_ok hx.2 (den_lt hy) (by omega), ?_⟩
  refine ⟨_, rfl, _, _, _, _, rfl, rfl, f2, rfl, _, rfl, _, _, _, _, rfl, rfl, f1, rfl, _, _, rfl, rfl, mul_ok hy.2 (den_lt hx) (by omega), _, _, rfl, rfl, ?_⟩
  refine kq _ _ (Same.refl _) ?_
  rw [show decide (x < y) = decide (x.num * (y.den : Int) < y.num * (x.den : Int)) from decide_eq_decide.mpr (Rat.lt_iff x y)]
  exact .bl _
end
end K31
namespace K31
open PySem PySem.Spec PyProof.Rows L2
section
variable {P : Program} {w : World} {K : PySem.W.Frag} {mg : Str → Option Value} {base : Heap}
/-! ### total, columns_of, weighed -/
/-- n fractions -/
def lfn (n : Nat) (f : Nat → Rat) : PyData := .list ((List.range n).map fun i => fr (f i))
theorem lfn_at {n : Nat} {f : Nat → Rat} {i : Nat} (h : i < n) : ((List.range n).map fun i => fr (f i))[i]? = some (fr (f i)) := by
  rw [List.getElem?_map, List.getElem?_range h]; rfl
theorem range_at {β : Type} {n : Nat} {f : Nat → β} {i : Nat} (h : i < n) : ((List.range n).map f)[i]? = some (f i) := by
  rw [List.getElem?_map, List.getElem?_range h]; rfl
def rTotal (ds : List PyData) (r : PyData) : Prop := ∃ (n : Nat) (f : Nat → Rat) (a b : Nat), ds = [lfn n f] ∧ n ≤ 1000 ∧ (∀ i, i < n → Sz a (f i)) ∧ (∀ i, i ≤ n → Sz b (sm i f)) ∧ a + b ≤ 9000 ∧ r = fr (sm n f)
theorem nought_dp (T : Txt K mg) {H : Hp} : Dp K H (.ref (He.ga K "NOUGHT")) (fr 0) := fr_dp (T.nought H)
theorem one_dp (T : Txt K mg) {H : Hp} : Dp K H (.ref (He.ga K "ONE")) (fr 1) := fr_dp (T.one H)
abbrev N_total : List Str := ["values", "found", "value"]
theorem sc_total : FnScope N_total ["values"] (defScope s_total) := ⟨rfl, rfl, rfl, by decide +kernel, rfl, by decide +kernel, by decide +kernel⟩
theorem c_total (T : Txt K mg) : Cal P w K mg base 4 "total" ["values"] (puSp K rTotal) := by
  refine cal_pu T.F_s_total T.g_total sc_total (fun _ _ _ _ _ _ us hl => match us, hl with | [_], _ => rfl) (fun ds r ⟨_, _, _, _, e, _⟩ => by rw [e]; rfl) fun cdv A outer s H vs Q E hr S ds r hS hd hR kq => ?_
  obtain ⟨n, f, a, b, rfl, hn, hf, hs, hab, rfl⟩ := hR
  obtain ⟨v, rfl, h1⟩ := dp1 hd
  obtain ⟨l, xs, rfl, hl, hx⟩ := dpl h1
  have hln : xs.length = n := by have := hx.length; rw [List.length_map, List.length_range] at this; exact this
  refine ⟨_, (pss_cons (sset 1 sc_total.nd (pe_glob (v := .ref (He.ga K "NOUGHT")) rfl T.g_NOUGHT rfl))
 (pss_cons (ps_for PassesOwn.never rfl (pi_listK K (pv 0)) (pgn 2 sc_total.nd)
  (pss_one (sset 1 sc_total.nd (pe_cal (c_plus T) (hr.mono (by decide)) (pa_cons (pv 1) (pa_cons (pv 2) pa_nil))))))
 (pss_one (ps_ret (pv 1))))), ?_⟩
  refine ⟨_, rfl, l, rfl, ⟨xs, hid_le.seq hl⟩, for_it (walk_list (K := K) (a := l) (xs := xs)) (fun i σ H' => Same H H' ∧ ∃ v o, σ = [some (.ref l), some v, o] ∧ Dp K (hid S H') v (fr (sm i f))) ⟨Same.refl _, _, _, rfl, nought_dp T⟩ (fun i σ H' _ p => (hid_le.trans p.1).seq hl) ?_ ?_⟩
  · rintro i x σ H1 H2 hi ⟨s1, v, o, rfl, dv⟩ ⟨rfl, hx1⟩
    rw [hln] at hi
    obtain ⟨x', hx2, dx⟩ := hx.at (lfn_at hi)
    rw [hx1] at hx2
    cases hx2
    refine ⟨_, rfl, _, rfl, S, _, _, hS.same s1, .cons dv (.cons (dx.hs s1) .nil), ⟨_, _, b, a, rfl, hs i (by omega), hf i hi, by omega, rfl⟩, fun H3 v3 s3 d3 => ?_⟩
    exact ⟨s1.trans s3, _, _, rfl, d3⟩
  · rintro σ H' ⟨s1, v, o, rfl, dv⟩
    rw [hln] at dv
    exact ⟨_, rfl, kq _ _ s1 dv⟩
def rColumns (ds : List PyData) (r : PyData) : Prop := ∃ (m n : Nat) (tb : List (List Int)), ds = [lt tb] ∧ TabOk m n tb ∧ r = lt (colsOf n tb)
theorem lt_at {tb : List (List Int)} {i : Nat} {r : List Int} (h : tb[i]? = some r) : (tb.map li)[i]? = some (li r) := by rw [List.getElem?_map, h]; rfl
abbrev N_columns_of : List Str := ["table", "row", "j"]
theorem sc_columns_of : FnScope N_columns_of ["table"] (defScope s_columns_of) := ⟨rfl, rfl, rfl, by decide +kernel, rfl, by decide +kernel, by decide +kernel⟩
theorem c_columns_of (T : Txt K mg) : Cal P w K mg base 1 "columns_of" ["table"] (puSp K rColumns) := by
  refine cal_pu T.F_s_columns_of T.g_columns_of sc_columns_of (fun _ _ _ _ _ _ us hl => match us, hl with | [_], _ => rfl) (fun ds r ⟨_, _, _, e, _⟩ => by rw [e]; rfl) fun cdv A outer s H vs Q E hr S ds r hS hd hR kq => ?_
  obtain ⟨m, n, tb, rfl, ok, rfl⟩ := hR
  obtain ⟨v, rfl, h1⟩ := dp1 hd
  obtain ⟨l, xs, rfl, hl, hx⟩ := dpl h1
  have hln : xs.length = m := by have := hx.length; rw [List.length_map, ok.len] at this; exact this
  obtain ⟨r0, t0, l0, _⟩ := ok.at (show 0 < m from ok.m1)
  obtain ⟨x0, hx0, d0⟩ := hx.at (lt_at t0)
  obtain ⟨a0, rfl, hs0⟩ := dp_li d0
  refine ⟨_, (pss_one (ps_ret (pe_lc (own := [("j", 2)]) rfl sc_columns_of.nd (pi_range1 rfl T.f_range (pa_cons (pe_callB (lenK K) (by rfl) T.f_len (by decide +kernel) (pa_cons (pe_ix (ix_listK K) (pv 0) pe_int (fun _ _ => rfl)) pa_nil)) pa_nil)) (blkOk_by (own := [("j", 2)]) (by kernel_rfl)) (fun _ _ _ _ _ => (pgn 2 sc_columns_of.nd)) (fun _ _ _ _ _ => pts_nil) (fun _ _ _ _ _ => (by exact (pe_lc (own := [("row", 1)]) rfl sc_columns_of.nd (pi_listK K (pv 0)) (blkOk_by (own := [("row", 1)]) (by kernel_rfl)) (fun _ _ _ _ _ => (pgn 1 sc_columns_of.nd)) (fun _ _ _ _ _ => pts_nil) (fun _ _ _ _ _ => (pe_ix (ix_listK K) (pv 1) (pv 2) (fun _ _ => rfl))))))))), ?_⟩
  refine ⟨_, rfl, _, _, _, _, rfl, rfl, hid_le.seq hl, atI_nat (j := 0) hx0, _, _, rfl, .inl (hid_le.seq hs0), _, rfl, (by omega), (by rw [List.length_map, l0]; have := ok.n8; omega), fun D hD => ?_⟩
  rw [List.length_map, l0, Int.toNat_natCast]
  refine lc_data (K := K) walk_range S (fun j => li (tb.map fun r => gd r j)) hD (by have := ok.n8; omega) hS (fun _ _ => trivial) ?_ ?_
  · rintro j x H1 H2 hj s1 th ⟨rfl, rfl⟩
    refine ⟨Same.refl _, fun Q' hQ => ⟨rfl, ?_⟩⟩
    refine ⟨_, rfl, l, rfl, ⟨xs, (hid_le.trans s1).seq hl⟩, fun D2 hD2 => ?_⟩
    refine lc_data (K := K) (walk_list (xs := xs)) (D :: S) (fun i => .int (gd (tb.getD i []) j)) hD2 (by have := ok.m8; omega) th (fun H3 s3 => ((hid_le.trans s1).trans s3).seq hl) ?_ ?_
    · rintro i x H3 H4 hi s3 th3 ⟨rfl, hx3⟩
      refine ⟨Same.refl _, fun Q2 hQ2 => ⟨rfl, ?_⟩⟩
      rw [hln] at hi
      obtain ⟨r, tr, lr, er⟩ := ok.at hi
      obtain ⟨x', hx4, dx⟩ := hx.at (lt_at tr)
      rw [hx3] at hx4
      cases hx4
      obtain ⟨ar, rfl, hsr⟩ := dp_li dx
      have hg : (r.map V.int)[j]? = some (V.int (gd r j)) := by rw [List.getElem?_map, gd_at (by omega)]; rfl
      refine ⟨_, rfl, _, rfl, _, _, _, _, rfl, (show V.int (0 + (j : Int)) = V.int (j : Int) by rw [Int.zero_add]), ((hid_le.trans s1).trans s3).seq hsr, atI_nat hg, hQ2 _ _ (Same.refl _) ?_⟩
      rw [er j]
      exact .int _
    · intro H3 s3 _ d3
      refine hQ _ _ s3 ?_
      have e : (List.range xs.length).map (fun i => PyData.int (gd (tb.getD i []) j)) = (tb.map fun r => gd r j).map PyData.int := by
        refine List.ext_getElem? fun i => ?_
        by_cases hi : i < m
        · obtain ⟨r, tr, lr, er⟩ := ok.at hi
          rw [range_at (by omega), List.getElem?_map, List.getElem?_map, tr]
          show some (PyData.int (ent tb i j)) = some (PyData.int (gd r j))
          rw [er]
        · rw [List.getElem?_eq_none (by rw [List.length_map, List.length_range]; omega), List.getElem?_eq_none (by rw [List.length_map, List.length_map, ok.len]; omega)]
      rw [e] at d3
      exact d3
  · intro H' s1 _ d1
    refine kq _ _ s1 ?_
    have e : (List.range n).map (fun j => li (tb.map fun r => gd r j)) = (colsOf n tb).map li := by
      unfold colsOf
      rw [List.map_map]
      rfl
    rw [e] at d1
    exact d1
end
end K31
namespace K31
open PySem PySem.Spec PyProof.Rows L2
section
variable {P : Program} {w : World} {K : PySem.W.Frag} {mg : Str → Option Value} {base : Heap}
theorem bT {p : Prop} [Decidable p] (h : p) : V.bl (decide p) = V.bl true := by rw [decide_eq_true h]
theorem bF {p : Prop} [Decidable p] (h : ¬ p) : V.bl (decide p) = V.bl false := by rw [decide_eq_false h]
theorem bN {p : Prop} [Decidable p] (h : p) : V.bl (!decide p) = V.bl false := by rw [decide_eq_true h]; rfl
/-! ### is_table, check_table, check_wholes, check_task -/
def rIsTable (ds : List PyData) (r : PyData) : Prop := ∃ (m n : Nat) (tb : List (List Int)), ds = [lt tb] ∧ TabOk m n tb ∧ r = .bool true
abbrev N_is_table : List Str := ["thing", "row", "entry"]
theorem sc_is_table : FnScope N_is_table ["thing"] (defScope s_is_table) := ⟨rfl, rfl, rfl, by decide +kernel, rfl, by decide +kernel, by decide +kernel⟩
theorem c_is_table (T : Txt K mg) : Cal P w K mg base 2 "is_table" ["thing"] (puSp K rIsTable) := by
  obtain ⟨tm, hmost⟩ := T.most
  refine cal_pu T.F_s_is_table T.g_is_table sc_is_table (fun _ _ _ _ _ _ us hl => match us, hl with | [_], _ => rfl) (fun ds r ⟨_, _, _, e, _⟩ => by rw [e]; rfl) fun cdv A outer s H vs Q E hr S ds r hS hd hR kq => ?_
  obtain ⟨m, n, tb, rfl, ok, rfl⟩ := hR
  obtain ⟨v, rfl, h1⟩ := dp1 hd
  have h1' := h1.up
  obtain ⟨l, xs, rfl, hl, hx⟩ := dpl h1'
  have hln : xs.length = m := by have := hx.length; rw [List.length_map, ok.len] at this; exact this
  have m1 := ok.m1
  have m8 := ok.m8
  have n1 := ok.n1
  have n8 := ok.n8
  have row : ∀ i x, i < m → xs[i]? = some x → ∃ (a : Addr) (r : List Int), x = .ref a ∧ SqL K H a (r.map V.int) ∧ r.length = n ∧ Dp K H (.ref a) (li r) := fun i x hi e => by
    obtain ⟨r, tr, lr, _⟩ := ok.at hi
    obtain ⟨x', hx', dx⟩ := hx.at (lt_at tr)
    rw [e] at hx'
    cases hx'
    obtain ⟨a, rfl, hs⟩ := dp_li dx
    exact ⟨a, r, rfl, hs, lr, dx⟩
  obtain ⟨x0, hx0⟩ : ∃ x0, xs[0]? = some x0 := ⟨_, List.getElem?_eq_getElem (by omega)⟩
  obtain ⟨a0, r0, rfl, hs0, l0, _⟩ := row 0 x0 (by omega) hx0
  refine ⟨_, (pss_cons (ps_if (PW.pt (pw_or (pt_not (pt_val (pe_callB (isiK K) (by rfl) T.f_isinstance (by decide +kernel) (pa_cons (pv 0) (pa_cons (pe_bltn (v := .ty "list") (by rfl) T.f_list (by decide +kernel) rfl) pa_nil))))) (pw_or1 (pt_not (pt_chain op_le op_le pe_int (pe_callB (lenK K) (by rfl) T.f_len (by decide +kernel) (pa_cons (pv 0) pa_nil)) (pe_glob (v := .int 8) rfl hmost ⟨_, rfl⟩))))))
  (pss_one (ps_ret pe_bl))
  pss_nil)
 (pss_cons (ps_for PassesOwn.never rfl (pi_listK K (pv 0)) (pgn 1 sc_is_table.nd)
  (pss_one (ps_if (PW.pt (pw_or (pt_not (pt_val (pe_callB (isiK K) (by rfl) T.f_isinstance (by decide +kernel) (pa_cons (pv 1) (pa_cons (pe_bltn (v := .ty "list") (by rfl) T.f_list (by decide +kernel) rfl) pa_nil))))) (pw_or (pt_not (pt_chain op_le op_le pe_int (pe_callB (lenK K) (by rfl) T.f_len (by decide +kernel) (pa_cons (pv 1) pa_nil)) (pe_glob (v := .int 8) rfl hmost ⟨_, rfl⟩))) (pw_or1 (pt_cmpR op_ne (pe_callB (lenK K) (by rfl) T.f_len (by decide +kernel) (pa_cons (pv 1) pa_nil)) (pe_callB (lenK K) (by rfl) T.f_len (by decide +kernel) (pa_cons (pe_ix (ix_listK K) (pv 0) pe_int (fun _ _ => rfl)) pa_nil)) (nomark _))))))
  (pss_one (ps_ret pe_bl))
  pss_nil)))
 (pss_one (ps_ret (pe_callB (allK K rfl) (by rfl) T.f_all (by decide +kernel) (pa_cons (pe_lc2 (own := [("row", 1), ("entry", 2)]) (vs1 := [2]) rfl sc_is_table.nd (pi_listK K (pv 0)) (blkOk_by (own := [("row", 1), ("entry", 2)]) (by kernel_rfl)) (by decide) (fun _ _ _ _ _ => (pgn 1 sc_is_table.nd)) (fun _ _ _ _ _ => pts_nil) (fun _ _ _ _ _ => (pi_listK K (pv 1))) (fun _ _ _ _ _ => (pgn 2 sc_is_table.nd)) (fun _ _ _ _ _ => pts_nil) (fun _ _ _ _ _ => (pe_cal (c_is_whole T) (hr.mono (by decide)) (pa_cons (pv 2) pa_nil)))) pa_nil)))))), ?_⟩
  refine ⟨_, rfl, _, _, _, _, _, rfl, .ty "list", tyx_list h1', kit_list_list, true, rfl, iteF ?_⟩
  refine ⟨_, rfl, _, _, rfl, .inl hl, _, _, rfl, rfl, true, bT (by omega), iteT ?_⟩
  refine ⟨_, _, rfl, rfl, true, bT (by omega), iteF ?_⟩
  refine ⟨_, rfl, l, rfl, ⟨xs, hl⟩, for_it (walk_list (K := K) (a := l) (xs := xs)) (fun i σ H' => Same H H' ∧ ∃ o o', σ = [some (.ref l), o, o']) ⟨Same.refl _, _, _, rfl⟩ (fun i σ H' _ p => p.1.seq hl) ?_ ?_⟩
  · rintro i x σ H1 H2 hi ⟨s1, o, o', rfl⟩ ⟨rfl, hxi⟩
    obtain ⟨a, r, rfl, hs, lr, dx⟩ := row i x (by omega) hxi
    refine ⟨_, rfl, _, _, _, _, _, rfl, .ty "list", tyx_list (dx.same s1), kit_list_list, true, rfl, iteF ?_⟩
    refine ⟨_, rfl, _, _, rfl, .inl (s1.seq hs), _, _, rfl, rfl, true, bT (by rw [List.length_map]; omega), iteT ?_⟩
    refine ⟨_, _, rfl, rfl, true, bT (by rw [List.length_map]; omega), iteF ?_⟩
    refine ⟨_, rfl, _, _, rfl, .inl (s1.seq hs), _, rfl, _, _, _, _, rfl, rfl, s1.seq hl, atI_nat (j := 0) hx0, _, _, rfl, .inl (s1.seq hs0), rfl, false, bN (by rw [List.length_map, List.length_map, lr, l0]), iteF ?_⟩
    exact ⟨s1, _, _, rfl⟩
  · rintro σ H1 ⟨s1, o, o', rfl⟩
    refine ⟨_, rfl, l, rfl, ⟨xs, s1.seq hl⟩, fun D hD => ?_⟩
    have fin : ∀ H2 k, Same H1 H2 → H2 D = some (.lst (List.replicate k (V.bl true))) → rAll K [V.ref D] H2 Q := fun H2 k s2 e => by
      refine ⟨D, List.replicate k true, rfl, SqL.of (by rw [List.map_replicate]; exact e), ?_⟩
      have : (List.replicate k true).all id = true := by simp
      rw [this]
      exact kq _ _ (s1.trans s2) (.bl true)
    refine ⟨fun i μ H2 => μ = m - i ∧ i ≤ m ∧ Same H1 H2 ∧ ∃ k, k ≤ 8 * i ∧ H2 D = some (.lst (List.replicate k (V.bl true))), ⟨m, by omega, by omega, Same.new hD, 0, by omega, upd_same⟩, ?_⟩
    rintro i μ H2 ⟨rfl, him, s2, k, hk, hDk⟩
    by_cases hlt : i < m
    · have hi : i < xs.length := by omega
      obtain ⟨a, r, ea, hs, lr, dx⟩ := row i xs[i] hlt (List.getElem?_eq_getElem hi)
      refine .inr ⟨⟨xs, xs[i], (s1.trans s2).seq hl, List.getElem?_eq_getElem hi⟩, fun H3 => Same H1 H3 ∧ ∃ k, k ≤ 8 * (i + 1) ∧ H3 D = some (.lst (List.replicate k (V.bl true))), fun H3 h3 => ⟨m - (i + 1), by omega, rfl, by omega, h3⟩, fun x H3 y => ?_⟩
      obtain ⟨rfl, y⟩ := y
      have ex := y xs ((s1.trans s2).seq hl)
      rw [List.getElem?_eq_getElem hi] at ex
      cases ex
      rw [ea]
      refine ⟨rfl, ?_⟩
      refine ⟨_, rfl, a, rfl, ⟨_, (s1.trans s2).seq hs⟩, fun j ν H4 => ν = n - j ∧ j ≤ n ∧ Same H1 H4 ∧ ∃ k, k ≤ 8 * i + j ∧ H4 D = some (.lst (List.replicate k (V.bl true))), ⟨n, by omega, by omega, s2, k, by omega, hDk⟩, ?_⟩
      rintro j ν H4 ⟨rfl, hjn, s4, k4, hk4, hD4⟩
      by_cases hj : j < n
      · have hjr : j < r.length := by omega
        refine .inr ⟨⟨_, .int (gd r j), (s1.trans s4).seq hs, by rw [List.getElem?_map, gd_at hjr]; rfl⟩, fun H5 => Same H1 H5 ∧ ∃ k, k ≤ 8 * i + (j + 1) ∧ H5 D = some (.lst (List.replicate k (V.bl true))), fun H5 h5 => ⟨n - (j + 1), by omega, rfl, by omega, h5⟩, fun z H5 y5 => ?_⟩
        obtain ⟨rfl, y5⟩ := y5
        have ez := y5 _ ((s1.trans s4).seq hs)
        rw [List.getElem?_map, gd_at hjr] at ez
        cases ez
        refine ⟨rfl, ?_⟩
        refine ⟨_, rfl, [], _, _, .nil, .cons (.int _) .nil, ⟨_, rfl, rfl⟩, fun H6 v6 s6 d6 => ?_⟩
        cases dp_bl d6
        refine ⟨_, s6 _ _ hD4, by rw [List.length_replicate]; exact small1000 (by omega), (s4.trans s6).put hD, k4 + 1, by omega, ?_⟩
        rw [upd_same, List.replicate_succ']
      · exact .inl ⟨⟨_, (s1.trans s4).seq hs, by rw [List.length_map]; omega⟩, s4, k4, by omega, hD4⟩
    · exact .inl ⟨⟨xs, (s1.trans s2).seq hl, by omega⟩, fin H2 k s2 hDk⟩
end
end K31
namespace K31
open PySem PySem.Spec PyProof.Rows L2
section
variable {P : Program} {w : World} {K : PySem.W.Frag} {mg : Str → Option Value} {base : Heap}
def rCheckTable (ds : List PyData) (r : PyData) : Prop := ∃ (m n : Nat) (tb : List (List Int)), ds = [lt tb] ∧ TabOk m n tb ∧ r = .none
abbrev N_check_table : List Str := ["thing"]
theorem sc_check_table : FnScope N_check_table ["thing"] (defScope s_check_table) := ⟨rfl, rfl, rfl, by decide +kernel, rfl, by decide +kernel, by decide +kernel⟩
theorem c_check_table (T : Txt K mg) : Cal P w K mg base 3 "check_table" ["thing"] (puSp K rCheckTable) := by
  refine cal_pu T.F_s_check_table T.g_check_table sc_check_table (fun _ _ _ _ _ _ us hl => match us, hl with | [_], _ => rfl) (fun ds r ⟨_, _, _, e, _⟩ => by rw [e]; rfl) fun cdv A outer s H vs Q E hr S ds r hS hd hR kq => ?_
  obtain ⟨m, n, tb, rfl, ok, rfl⟩ := hR
  obtain ⟨v, rfl, h1⟩ := dp1 hd
  refine ⟨_, (pss_one (ps_if (pt_not (pt_val (pe_cal (c_is_table T) (hr.mono (by decide)) (pa_cons (pv 0) pa_nil))))
  (pss_one ps_never)
  pss_nil)), ?_⟩
  refine ⟨_, rfl, S, _, _, hS, .cons h1 .nil, ⟨m, n, tb, rfl, ok, rfl⟩, fun H2 v2 s2 d2 => ?_⟩
  cases dp_bl d2
  exact ⟨true, rfl, iteF (kq _ _ s2 .non)⟩
def rCheckWholes (ds : List PyData) (r : PyData) : Prop := ∃ (ns : List Int) (x : Str), ds = [li ns, .int ns.length, .str x] ∧ ns.length ≤ 1000 ∧ r = .none
abbrev N_check_wholes : List Str := ["thing", "many", "word", "one"]
theorem sc_check_wholes : FnScope N_check_wholes ["thing", "many", "word"] (defScope s_check_wholes) := ⟨rfl, rfl, rfl, by decide +kernel, rfl, by decide +kernel, by decide +kernel⟩
theorem c_check_wholes (T : Txt K mg) : Cal P w K mg base 2 "check_wholes" ["thing", "many", "word"] (puSp K rCheckWholes) := by
  refine cal_pu T.F_s_check_wholes T.g_check_wholes sc_check_wholes (fun _ _ _ _ _ _ us hl => match us, hl with | [_, _, _], _ => rfl) (fun ds r ⟨_, _, e, _⟩ => by rw [e]; rfl) fun cdv A outer s H vs Q E hr S ds r hS hd hR kq => ?_
  obtain ⟨ns, x, rfl, hn, rfl⟩ := hR
  obtain ⟨v, v2, v3, rfl, h1, h2, h3⟩ := dp3 hd
  cases dp_int h2
  cases dp_str h3
  have h1' := h1.up
  obtain ⟨l, rfl, hl⟩ := dp_li h1'
  refine ⟨_, (pss_one (ps_if (PW.pt (pw_or (pt_not (pt_val (pe_callB (isiK K) (by rfl) T.f_isinstance (by decide +kernel) (pa_cons (pv 0) (pa_cons (pe_bltn (v := .ty "list") (by rfl) T.f_list (by decide +kernel) rfl) pa_nil))))) (pw_or (pt_cmpR op_ne (pe_callB (lenK K) (by rfl) T.f_len (by decide +kernel) (pa_cons (pv 0) pa_nil)) (pv 1) (nomark _)) (pw_or1 (pt_not (pt_val (pe_callB (allK K rfl) (by rfl) T.f_all (by decide +kernel) (pa_cons (pe_lc (own := [("one", 3)]) rfl sc_check_wholes.nd (pi_listK K (pv 0)) (blkOk_by (own := [("one", 3)]) (by kernel_rfl)) (fun _ _ _ _ _ => (pgn 3 sc_check_wholes.nd)) (fun _ _ _ _ _ => pts_nil) (fun _ _ _ _ _ => (pe_cal (c_is_whole T) (hr.mono (by decide)) (pa_cons (pv 3) pa_nil)))) pa_nil))))))))
  (pss_one ps_never)
  pss_nil)), ?_⟩
  refine ⟨_, rfl, _, _, _, _, _, rfl, .ty "list", tyx_list h1', kit_list_list, true, rfl, iteF ?_⟩
  refine ⟨_, rfl, _, _, rfl, .inl hl, _, rfl, rfl, false, bN (by rw [List.length_map]), iteF ?_⟩
  refine ⟨_, rfl, l, rfl, ⟨_, hl⟩, fun D hD => ?_⟩
  refine lc_data (K := K) (walk_list (xs := ns.map V.int)) S (fun _ => .bool true) hD (by rw [List.length_map]; omega) hS (fun H2 s2 => s2.seq hl) ?_ ?_
  · rintro i y H2 H3 hi s2 th ⟨rfl, hy⟩
    refine ⟨Same.refl _, fun Q' hQ => ⟨rfl, ?_⟩⟩
    rw [List.getElem?_map] at hy
    cases e : ns[i]? with
    | none => rw [e] at hy; cases hy
    | some z =>
      rw [e] at hy
      cases hy
      exact ⟨_, rfl, D :: S, _, _, th, .cons (.int _) .nil, ⟨_, rfl, rfl⟩, fun H4 v4 s4 d4 => hQ _ _ s4 d4⟩
  · intro H2 s2 ⟨acc, ha, hdp⟩ _
    have hdp' : DpAll K (hid (D :: S) H2) acc (((List.range (ns.map V.int).length).map fun _ => true).map PyData.bool) := by rw [List.map_map]; exact hdp
    rw [hdp'.bls] at ha
    refine ⟨D, _, rfl, SqL.of ha, true, ?_, iteF (kq _ _ s2 .non)⟩
    congr 1
    rw [List.all_map]
    exact List.all_eq_true.mpr fun _ _ => rfl
def rCheckTask (ds : List PyData) (r : PyData) : Prop := ∃ (m n : Nat) (tb : List (List Int)) (bs gs : List Int), ds = [lt tb, li bs, li gs] ∧ TabOk m n tb ∧ bs.length = m ∧ gs.length = n ∧ r = .none
abbrev N_check_task : List Str := ["table", "bounds", "gains"]
theorem sc_check_task : FnScope N_check_task ["table", "bounds", "gains"] (defScope s_check_task) := ⟨rfl, rfl, rfl, by decide +kernel, rfl, by decide +kernel, by decide +kernel⟩
theorem c_check_task (T : Txt K mg) : Cal P w K mg base 4 "check_task" ["table", "bounds", "gains"] (puSp K rCheckTask) := by
  refine cal_pu T.F_s_check_task T.g_check_task sc_check_task (fun _ _ _ _ _ _ us hl => match us, hl with | [_, _, _], _ => rfl) (fun ds r ⟨_, _, _, _, _, e, _⟩ => by rw [e]; rfl) fun cdv A outer s H vs Q E hr S ds r hS hd hR kq => ?_
  obtain ⟨m, n, tb, bs, gs, rfl, ok, hb, hg, rfl⟩ := hR
  obtain ⟨v, v2, v3, rfl, h1, h2, h3⟩ := dp3 hd
  have m8 := ok.m8
  have n8 := ok.n8
  refine ⟨_, (pss_cons (ps_expr (pe_cal (c_check_table T) (hr.mono (by decide)) (pa_cons (pv 0) pa_nil)))
 (pss_cons (ps_expr (pe_cal (c_check_wholes T) (hr.mono (by decide)) (pa_cons (pv 1) (pa_cons (pe_callB (lenK K) (by rfl) T.f_len (by decide +kernel) (pa_cons (pv 0) pa_nil)) (pa_cons pe_str pa_nil)))))
 (pss_one (ps_expr (pe_cal (c_check_wholes T) (hr.mono (by decide)) (pa_cons (pv 2) (pa_cons (pe_callB (lenK K) (by rfl) T.f_len (by decide +kernel) (pa_cons (pe_ix (ix_listK K) (pv 0) pe_int (fun _ _ => rfl)) pa_nil)) (pa_cons pe_str pa_nil)))))))), ?_⟩
  refine ⟨_, rfl, S, _, _, hS, .cons h1 .nil, ⟨m, n, tb, rfl, ok, rfl⟩, fun H2 w2 s2 d2 => ?_⟩
  obtain ⟨l, xs, rfl, hl, hx⟩ := dpl (h1.hs s2).up
  have hln : xs.length = m := by have := hx.length; rw [List.length_map, ok.len] at this; exact this
  refine ⟨_, rfl, _, rfl, _, _, rfl, .inl hl, S, _, _, hS.same s2, .cons (h2.hs s2) (.cons (.int _) (.cons (.str _) .nil)), ⟨bs, _, by rw [hln, hb], by omega, rfl⟩, fun H3 w3 s3 d3 => ?_⟩
  obtain ⟨r0, t0, l0, _⟩ := ok.at (show 0 < m from ok.m1)
  obtain ⟨x0, hx0, d0⟩ := hx.at (lt_at t0)
  obtain ⟨a0, rfl, hs0⟩ := dp_li d0
  refine ⟨_, rfl, _, rfl, _, _, _, _, rfl, rfl, s3.seq hl, atI_nat (j := 0) hx0, _, _, rfl, .inl (s3.seq hs0), S, _, _, (hS.same s2).same s3, .cons ((h3.hs s2).hs s3) (.cons (.int _) (.cons (.str _) .nil)), ⟨gs, _, by rw [List.length_map, l0, hg], by omega, rfl⟩, fun H4 w4 s4 d4 => ?_⟩
  exact kq _ _ ((s2.trans s3).trans s4) .non
/-! ### are_from_nought, weighed, is_above, keeps -/
def rNought (ds : List PyData) (r : PyData) : Prop := ∃ (n : Nat) (f : Nat → Rat), ds = [lfn n f, .int n] ∧ n ≤ 1000 ∧ (∀ i, i < n → 0 ≤ f i) ∧ r = .bool true
theorem lfn_len {n : Nat} {f : Nat → Rat} {H : Hp} {xs : List V} (h : DpAll K H xs ((List.range n).map fun i => fr (f i))) : xs.length = n := by
  have := h.length
  rw [List.length_map, List.length_range] at this
  exact this
abbrev N_are_from_nought : List Str := ["thing", "many", "one"]
theorem sc_are_from_nought : FnScope N_are_from_nought ["thing", "many"] (defScope s_are_from_nought) := ⟨rfl, rfl, rfl, by decide +kernel, rfl, by decide +kernel, by decide +kernel⟩
theorem c_are_from_nought (T : Txt K mg) : Cal P w K mg base 3 "are_from_nought" ["thing", "many"] (puSp K rNought) := by
  refine cal_pu T.F_s_are_from_nought T.g_are_from_nought sc_are_from_nought (fun _ _ _ _ _ _ us hl => match us, hl with | [_, _], _ => rfl) (fun ds r ⟨_, _, e, _⟩ => by rw [e]; rfl) fun cdv A outer s H vs Q E hr S ds r hS hd hR kq => ?_
  obtain ⟨n, f, rfl, hn, hf, rfl⟩ := hR
  obtain ⟨v, v2, rfl, h1, h2⟩ := dp2 hd
  cases dp_int h2
  have h1' := h1.up
  obtain ⟨l, xs, rfl, hl, hx⟩ := dpl h1
  have hln := lfn_len hx
  refine ⟨_, (pss_cons (ps_if (PW.pt (pw_or (pt_not (pt_val (pe_callB (isiK K) (by rfl) T.f_isinstance (by decide +kernel) (pa_cons (pv 0) (pa_cons (pe_bltn (v := .ty "list") (by rfl) T.f_list (by decide +kernel) rfl) pa_nil))))) (pw_or1 (pt_cmpR op_ne (pe_callB (lenK K) (by rfl) T.f_len (by decide +kernel) (pa_cons (pv 0) pa_nil)) (pv 1) (nomark _)))))
  (pss_one (ps_ret pe_bl))
  pss_nil)
 (pss_one (ps_ret (pe_callB (allK K rfl) (by rfl) T.f_all (by decide +kernel) (pa_cons (pe_lc (own := [("one", 2)]) rfl sc_are_from_nought.nd (pi_listK K (pv 0)) (blkOk_by (own := [("one", 2)]) (by kernel_rfl)) (fun _ _ _ _ _ => (pgn 2 sc_are_from_nought.nd)) (fun _ _ _ _ _ => pts_nil) (fun _ _ _ _ _ => (pe_and (pe_cal (c_is_fraction T) (hr.mono (by decide)) (pa_cons (pv 2) pa_nil)) (pe_one (pe_cmpR op_ge (pe_ix (ix_tupK K) (pv 2) pe_int (fun _ _ => rfl)) pe_int (nomark _)))))) pa_nil))))), ?_⟩
  refine ⟨_, rfl, _, _, _, _, _, rfl, .ty "list", tyx_list h1', kit_list_list, true, rfl, iteF ?_⟩
  refine ⟨_, rfl, _, _, rfl, .inl (hid_le.seq hl), _, rfl, rfl, false, bN (by rw [hln]), iteF ?_⟩
  refine ⟨_, rfl, l, rfl, ⟨_, hid_le.seq hl⟩, fun D hD => ?_⟩
  refine lc_data (K := K) (walk_list (xs := xs)) S (fun _ => .bool true) hD (by omega) hS (fun H2 s2 => (hid_le.trans s2).seq hl) ?_ ?_
  · rintro i y H2 H3 hi s2 th ⟨rfl, hy⟩
    refine ⟨Same.refl _, fun Q' hQ => ⟨rfl, ?_⟩⟩
    rw [hln] at hi
    obtain ⟨y', hy', dy⟩ := hx.at (lfn_at hi)
    rw [hy] at hy'
    cases hy'
    have dy2 : Dp K H3 y (fr (f i)) := (dy.hs s2).up
    refine ⟨_, rfl, [], _, _, .nil, .cons (by rw [hid_nil]; exact dy2) .nil, ⟨_, rfl, rfl⟩, fun H4 v4 s4 d4 => ?_⟩
    cases dp_bl d4
    obtain ⟨a, rfl, ha⟩ := dp_fr (dy2.same s4)
    refine ⟨true, rfl, iteT ?_⟩
    refine ⟨_, rfl, _, _, _, _, rfl, rfl, ha, rfl, _, _, rfl, rfl, ?_⟩
    refine hQ _ _ s4 ?_
    show Dp K _ (V.bl (decide ((0 : Int) ≤ (f i).num))) _
    rw [decide_eq_true (Rat.num_nonneg.mpr (hf i hi))]
    exact .bl true
  · intro H2 s2 ⟨acc, ha, hdp⟩ _
    have hdp' : DpAll K (hid (D :: S) H2) acc (((List.range xs.length).map fun _ => true).map PyData.bool) := by rw [List.map_map]; exact hdp
    rw [hdp'.bls] at ha
    refine ⟨D, _, rfl, SqL.of ha, ?_⟩
    rw [show ((List.range xs.length).map fun _ => true).all id = true by rw [List.all_map]; exact List.all_eq_true.mpr fun _ _ => rfl]
    exact kq _ _ s2 (.bl true)
def wsum (n : Nat) (ns : List Int) (f : Nat → Rat) : Rat := sm n (fun j => (gd ns j : Rat) * f j)
def rWeighed (ds : List PyData) (r : PyData) : Prop := ∃ (ns : List Int) (n : Nat) (f : Nat → Rat) (k c : Nat), ds = [li ns, lfn n f] ∧ ns.length = n ∧ OverD k n f ∧ (∀ j, j < n → (gd ns j).natAbs < 2 ^ c) ∧ 1 ≤ c ∧ n ≤ 8 ∧ 2 * (k + c) + 4 ≤ 9000 ∧ r = fr (wsum n ns f)
abbrev N_weighed : List Str := ["entries", "xs", "entry", "x"]
theorem sc_weighed : FnScope N_weighed ["entries", "xs"] (defScope s_weighed) := ⟨rfl, rfl, rfl, by decide +kernel, rfl, by decide +kernel, by decide +kernel⟩
theorem c_weighed (T : Txt K mg) : Cal P w K mg base 5 "weighed" ["entries", "xs"] (puSp K rWeighed) := by
  refine cal_pu T.F_s_weighed T.g_weighed sc_weighed (fun _ _ _ _ _ _ us hl => match us, hl with | [_, _], _ => rfl) (fun ds r ⟨_, _, _, _, _, e, _⟩ => by rw [e]; rfl) fun cdv A outer s H vs Q E hr S ds r hS hd hR kq => ?_
  obtain ⟨ns, n, f, k, c, rfl, hl, hf, hc, c1, n8, hk, rfl⟩ := hR
  obtain ⟨v, v2, rfl, h1, h2⟩ := dp2 hd
  obtain ⟨l, rfl, h3⟩ := dp_li h1.up
  obtain ⟨l2, xs, rfl, h4, hx⟩ := dpl h2
  have hln := lfn_len hx
  refine ⟨_, (pss_one (ps_ret (pe_cal (c_total T) (hr.mono (by decide)) (pa_cons (pe_lc (own := [("entry", 2), ("x", 3)]) rfl sc_weighed.nd (pi_zipK K T.f_zip (pa_cons (pv 0) (pa_cons (pv 1) pa_nil))) (blkOk_by (own := [("entry", 2), ("x", 3)]) (by kernel_rfl)) (fun _ _ _ _ _ => (pg_tupK (n := 2) K rfl (pgs_cons (pgn 2 sc_weighed.nd) (pgs_cons (pgn 3 sc_weighed.nd) pgs_nil)))) (fun _ _ _ _ _ => pts_nil) (fun _ _ _ _ _ => (pe_cal (c_times T) (hr.mono (by decide)) (pa_cons (pe_tup (pa_cons (pv 2) (pa_cons pe_int pa_nil))) (pa_cons (pv 3) pa_nil))))) pa_nil)))), ?_⟩
  refine ⟨_, rfl, _, rfl, l, l2, _, _, rfl, h3, hid_le.seq h4, fun D hD => ?_⟩
  refine lc_data (K := K) (walk_zip (n := n) (by rw [List.length_map, hl, hln, Nat.min_self])) S (fun j => fr ((gd ns j : Rat) * f j)) hD (by omega) hS (fun H2 s2 => ⟨s2.seq h3, (hid_le.trans s2).seq h4⟩) ?_ ?_
  · rintro i y H2 H3 hi s2 th ⟨Tp, x, z, rfl, hT, rfl, ex, ez⟩
    have sT : Same H2 (upd H2 Tp (.tup [x, z])) := Same.new hT
    refine ⟨sT, fun Q' hQ => ?_⟩
    have ex : (ns.map V.int)[i]? = some x := ex
    have ez : xs[i]? = some z := ez
    rw [List.getElem?_map, gd_at (by omega)] at ex
    cases ex
    obtain ⟨z', hz', dz⟩ := hx.at (lfn_at hi)
    rw [ez] at hz'
    cases hz'
    refine ⟨Tp, _, rfl, SqT.of upd_same, rfl, _, _, rfl, _, _, rfl, rfl, rfl, ?_⟩
    refine ⟨_, rfl, by show 2 ≤ sizeLine; decide, fun p hp => ?_⟩
    have th2 := (th.same sT).new hp
    have s3 : Same (upd H2 Tp (.tup [.int (gd ns i), z])) (upd (upd H2 Tp (.tup [.int (gd ns i), z])) p (.tup [.int (gd ns i), .int 1])) := Same.new hp
    have dz2 : Dp K (hid (D :: S) (upd (upd H2 Tp (.tup [.int (gd ns i), z])) p (.tup [.int (gd ns i), .int 1]))) z (fr (f i)) := by
      refine dz.same fun b o e => ?_
      obtain ⟨h5, h6⟩ := hid_of e
      have h7 := s3 _ _ (sT _ _ (s2 _ _ h6))
      rw [hid_out fun q => ?_]
      · exact h7
      · rcases List.mem_cons.mp q with q | q
        · rw [q, hD] at h6; cases h6
        · exact h5 q
    refine ⟨_, rfl, D :: S, _, _, (th.same sT).same s3, .cons (fr_dp (q := ((gd ns i : Int) : Rat)) (SqT.of (by rw [hid_out th2, upd_same]; rfl))) (.cons dz2 .nil), ⟨_, _, c, k, rfl, int_sz (hc i hi) c1, hf.sz i hi, by omega, rfl⟩, fun H5 v5 s5 d5 => ?_⟩
    exact hQ _ _ (s3.trans s5) d5
  · intro H2 s2 _ d2
    refine ⟨S, _, _, hS.same s2, .cons d2 .nil, ⟨n, _, c + k, k + c + 4, rfl, by omega, fun i hi => sz_mul (int_sz (hc i hi) c1) (hf.sz i hi), hf.sum hc n8, by omega, rfl⟩, fun H3 v3 s3 d3 => ?_⟩
    exact kq _ _ (s2.trans s3) d3
def rAbove (ds : List PyData) (r : PyData) : Prop := ∃ (x y : Rat) (a b : Nat), ds = [fr x, fr y] ∧ Sz a x ∧ Sz b y ∧ a + b ≤ 20000 ∧ r = .bool (decide (y < x))
abbrev N_is_above : List Str := ["one", "other"]
theorem sc_is_above : FnScope N_is_above ["one", "other"] (defScope s_is_above) := ⟨rfl, rfl, rfl, by decide +kernel, rfl, by decide +kernel, by decide +kernel⟩
theorem c_is_above (T : Txt K mg) : Cal P w K mg base 2 "is_above" ["one", "other"] (puSp K rAbove) := by
  refine cal_pu T.F_s_is_above T.g_is_above sc_is_above (fun _ _ _ _ _ _ us hl => match us, hl with | [_, _], _ => rfl) (fun ds r ⟨a, b, _, _, e, _⟩ => by rw [e]; rfl) fun cdv A outer s H vs Q E hr S ds r hS hd hR kq => ?_
  obtain ⟨x, y, a, b, rfl, hx, hy, hab, rfl⟩ := hR
  obtain ⟨v, u, rfl, h1, h2⟩ := dp2 hd
  refine ⟨_, (pss_one (ps_ret (pe_cal (c_under T) (hr.mono (by decide)) (pa_cons (pv 1) (pa_cons (pv 0) pa_nil))))), ?_⟩
  exact ⟨_, rfl, _, rfl, S, _, _, hS, .cons h2 (.cons h1 .nil), ⟨_, _, b, a, rfl, hy, hx, by omega, rfl⟩, kq⟩
end
end K31
namespace K31
open PySem PySem.Spec PyProof.Rows L2
section
variable {P : Program} {w : World} {K : PySem.W.Frag} {mg : Str → Option Value} {base : Heap}
/-- what each row's or column's sum asks of sizes -/
structure SumOk (k c n : Nat) (ns : List Int) (f : Nat → Rat) : Prop where
  len : ns.length = n
  over : OverD k n f
  ent : ∀ j, j < n → (gd ns j).natAbs < 2 ^ c
  c1 : 1 ≤ c
  n8 : n ≤ 8
  kc : 2 * (k + c) + 4 ≤ 9000
theorem SumOk.rel {k c n : Nat} {ns : List Int} {f : Nat → Rat} (h : SumOk k c n ns f) : rWeighed [li ns, lfn n f] (fr (wsum n ns f)) := ⟨ns, n, f, k, c, rfl, h.len, h.over, h.ent, h.c1, h.n8, h.kc, rfl⟩
theorem SumOk.sz {k c n : Nat} {ns : List Int} {f : Nat → Rat} (h : SumOk k c n ns f) : Sz (k + c + 4) (wsum n ns f) := h.over.sum h.ent h.n8 n (Nat.le_refl _)
theorem lt_len {tb : List (List Int)} {H : Hp} {xs : List V} (h : DpAll K H xs (tb.map li)) : xs.length = tb.length := by
  have := h.length
  rw [List.length_map] at this
  exact this
/-- data behind a new object -/
theorem dp_new {H H' : Hp} {S : List Addr} {v : V} {d : PyData} {D : Addr} (h : Dp K (hid S H) v d) (hD : H D = none) (s : Same H H') : Dp K (hid (D :: S) H') v d := h.same fun b o e => by
  obtain ⟨h5, h6⟩ := hid_of e
  rw [hid_out fun q => ?_]
  · exact s _ _ h6
  · rcases List.mem_cons.mp q with q | q
    · rw [q, hD] at h6; cases h6
    · exact h5 q
def rKeeps (ds : List PyData) (r : PyData) : Prop := ∃ (tb : List (List Int)) (bs : List Int) (n k c : Nat) (f : Nat → Rat), ds = [lt tb, li bs, lfn n f] ∧ bs.length = tb.length ∧ tb.length ≤ 8 ∧ (∀ i row, tb[i]? = some row → SumOk k c n row f ∧ (gd bs i).natAbs < 2 ^ c ∧ wsum n row f ≤ (gd bs i : Rat)) ∧ r = .bool true
abbrev N_keeps : List Str := ["table", "bounds", "xs", "row", "bound"]
theorem sc_keeps : FnScope N_keeps ["table", "bounds", "xs"] (defScope s_keeps) := ⟨rfl, rfl, rfl, by decide +kernel, rfl, by decide +kernel, by decide +kernel⟩
theorem c_keeps (T : Txt K mg) : Cal P w K mg base 6 "keeps" ["table", "bounds", "xs"] (puSp K rKeeps) := by
  refine cal_pu T.F_s_keeps T.g_keeps sc_keeps (fun _ _ _ _ _ _ us hl => match us, hl with | [_, _, _], _ => rfl) (fun ds r ⟨_, _, _, _, _, _, e, _⟩ => by rw [e]; rfl) fun cdv A outer s H vs Q E hr S ds r hS hd hR kq => ?_
  obtain ⟨tb, bs, n, k, c, f, rfl, hb, h8, hk, rfl⟩ := hR
  obtain ⟨v, v2, v3, rfl, h1, h2, h3⟩ := dp3 hd
  obtain ⟨l, xs, rfl, hl, hx⟩ := dpl h1
  obtain ⟨l2, rfl, h4⟩ := dp_li h2.up
  have hln := lt_len hx
  refine ⟨_, (pss_one (ps_ret (pe_not (pe_callB (anyK K rfl) (by rfl) T.f_any (by decide +kernel) (pa_cons (pe_lc (own := [("row", 3), ("bound", 4)]) rfl sc_keeps.nd (pi_zipK K T.f_zip (pa_cons (pv 0) (pa_cons (pv 1) pa_nil))) (blkOk_by (own := [("row", 3), ("bound", 4)]) (by kernel_rfl)) (fun _ _ _ _ _ => (pg_tupK (n := 2) K rfl (pgs_cons (pgn 3 sc_keeps.nd) (pgs_cons (pgn 4 sc_keeps.nd) pgs_nil)))) (fun _ _ _ _ _ => pts_nil) (fun _ _ _ _ _ => (pe_cal (c_is_above T) (hr.mono (by decide)) (pa_cons (pe_cal (c_weighed T) (hr.mono (by decide)) (pa_cons (pv 3) (pa_cons (pv 2) pa_nil))) (pa_cons (pe_tup (pa_cons (pv 4) (pa_cons pe_int pa_nil))) pa_nil))))) pa_nil))))), ?_⟩
  refine ⟨_, rfl, _, rfl, l, l2, _, _, rfl, hid_le.seq hl, h4, fun D hD => ?_⟩
  refine lc_data (K := K) (walk_zip (n := tb.length) (by rw [List.length_map, hb, hln, Nat.min_self])) S (fun _ => .bool false) hD (by omega) hS (fun H2 s2 => ⟨(hid_le.trans s2).seq hl, s2.seq h4⟩) ?_ ?_
  · rintro i y H2 H3 hi s2 th ⟨Tp, x, z, rfl, hT, rfl, ex, ez⟩
    have ex : xs[i]? = some x := ex
    have ez : (bs.map V.int)[i]? = some z := ez
    have sT : Same H2 (upd H2 Tp (.tup [x, z])) := Same.new hT
    refine ⟨sT, fun Q' hQ => ?_⟩
    rw [List.getElem?_map, gd_at (by omega)] at ez
    cases ez
    obtain ⟨row, hrow⟩ : ∃ row, tb[i]? = some row := ⟨_, List.getElem?_eq_getElem hi⟩
    obtain ⟨ok, hbi, hle⟩ := hk i row hrow
    obtain ⟨x', hx', dx⟩ := hx.at (lt_at hrow)
    rw [ex] at hx'
    cases hx'
    refine ⟨Tp, _, rfl, SqT.of upd_same, rfl, _, _, rfl, _, _, rfl, rfl, rfl, ?_⟩
    have th1 := th.same sT
    refine ⟨_, rfl, _, rfl, D :: S, _, _, th1, .cons (dp_new dx hD (s2.trans sT)) (.cons (dp_new h3 hD (s2.trans sT)) .nil), ok.rel, fun H4 v4 s4 d4 => ?_⟩
    refine ⟨_, rfl, by show 2 ≤ sizeLine; decide, fun p hp => ?_⟩
    have th4 := th1.same s4
    refine ⟨D :: S, _, _, th4.upd, .cons (d4.hs (Same.new hp)) (.cons (fr_dp (q := ((gd bs i : Int) : Rat)) (SqT.of (by rw [hid_out (th4.new hp), upd_same]; rfl))) .nil), ⟨_, _, k + c + 4, c, rfl, ok.sz, int_sz hbi ok.c1, by have := ok.kc; omega, rfl⟩, fun H5 v5 s5 d5 => ?_⟩
    refine hQ _ _ ((s4.trans (Same.new hp)).trans s5) ?_
    rw [decide_eq_false (Rat.not_lt.mpr hle)] at d5
    exact d5
  · intro H2 s2 ⟨acc, ha, hdp⟩ _
    have hdp' : DpAll K (hid (D :: S) H2) acc (((List.range tb.length).map fun _ => false).map PyData.bool) := by rw [List.map_map]; exact hdp
    rw [hdp'.bls] at ha
    refine ⟨D, _, rfl, SqL.of ha, false, ?_, kq _ _ s2 (.bl true)⟩
    congr 1
    rw [List.any_map]
    exact List.any_eq_false.mpr fun _ _ => Bool.false_ne_true
def rArePrices (ds : List PyData) (r : PyData) : Prop := ∃ (m n : Nat) (tb : List (List Int)) (ls : List Int) (k c : Nat) (f : Nat → Rat), ds = [lt tb, lfn m f, li ls] ∧ TabOk m n tb ∧ ls.length = n ∧ (∀ i, i < m → 0 ≤ f i) ∧
  (∀ j col, (colsOf n tb)[j]? = some col → SumOk k c m col f ∧ (gd ls j).natAbs < 2 ^ c ∧ (gd ls j : Rat) ≤ wsum m col f) ∧ r = .bool true
abbrev N_are_prices : List Str := ["table", "thing", "least", "column", "one"]
theorem sc_are_prices : FnScope N_are_prices ["table", "thing", "least"] (defScope s_are_prices) := ⟨rfl, rfl, rfl, by decide +kernel, rfl, by decide +kernel, by decide +kernel⟩
theorem c_are_prices (T : Txt K mg) : Cal P w K mg base 6 "are_prices" ["table", "thing", "least"] (puSp K rArePrices) := by
  refine cal_pu T.F_s_are_prices T.g_are_prices sc_are_prices (fun _ _ _ _ _ _ us hl => match us, hl with | [_, _, _], _ => rfl) (fun ds r ⟨_, _, _, _, _, _, _, e, _⟩ => by rw [e]; rfl) fun cdv A outer s H vs Q E hr S ds r hS hd hR kq => ?_
  obtain ⟨m, n, tb, ls, k, c, f, rfl, ok, hls, hf, hk, rfl⟩ := hR
  obtain ⟨v, v2, v3, rfl, h1, h2, h3⟩ := dp3 hd
  obtain ⟨l, xs, rfl, hl, hx⟩ := dpl h1
  have hln := lt_len hx
  have m8 := ok.m8
  have n8 := ok.n8
  refine ⟨_, (pss_cons (ps_if (pt_not (pt_val (pe_cal (c_are_from_nought T) (hr.mono (by decide)) (pa_cons (pv 1) (pa_cons (pe_callB (lenK K) (by rfl) T.f_len (by decide +kernel) (pa_cons (pv 0) pa_nil)) pa_nil)))))
  (pss_one (ps_ret pe_bl))
  pss_nil)
 (pss_one (ps_ret (pe_not (pe_callB (anyK K rfl) (by rfl) T.f_any (by decide +kernel) (pa_cons (pe_lc (own := [("column", 3), ("one", 4)]) rfl sc_are_prices.nd (pi_zipK K T.f_zip (pa_cons (pe_cal (c_columns_of T) (hr.mono (by decide)) (pa_cons (pv 0) pa_nil)) (pa_cons (pv 2) pa_nil))) (blkOk_by (own := [("column", 3), ("one", 4)]) (by kernel_rfl)) (fun _ _ _ _ _ => (pg_tupK (n := 2) K rfl (pgs_cons (pgn 3 sc_are_prices.nd) (pgs_cons (pgn 4 sc_are_prices.nd) pgs_nil)))) (fun _ _ _ _ _ => pts_nil) (fun _ _ _ _ _ => (pe_cal (c_under T) (hr.mono (by decide)) (pa_cons (pe_cal (c_weighed T) (hr.mono (by decide)) (pa_cons (pv 3) (pa_cons (pv 1) pa_nil))) (pa_cons (pe_tup (pa_cons (pv 4) (pa_cons pe_int pa_nil))) pa_nil))))) pa_nil)))))), ?_⟩
  refine ⟨_, rfl, _, rfl, _, _, rfl, .inl (hid_le.seq hl), S, _, _, hS, .cons h2 (.cons (.int _) .nil), ⟨m, f, by rw [hln, ok.len], by omega, hf, rfl⟩, fun H2 w2 s2 d2 => ?_⟩
  cases dp_bl d2
  refine ⟨true, rfl, iteF ?_⟩
  refine ⟨_, rfl, S, _, _, hS.same s2, .cons (h1.hs s2) .nil, ⟨m, n, tb, rfl, ok, rfl⟩, fun H3 w3 s3 d3 => ?_⟩
  obtain ⟨l3, ys, rfl, hl3, hy⟩ := dpl d3
  obtain ⟨l4, rfl, h4⟩ := dp_li ((h3.hs s2).hs s3).up
  have hcn : (colsOf n tb).length = n := by unfold colsOf; rw [List.length_map, List.length_range]
  have hyn : ys.length = n := by rw [lt_len hy, hcn]
  refine ⟨_, rfl, l3, l4, _, _, rfl, hid_le.seq hl3, h4, fun D hD => ?_⟩
  have hS3 := (hS.same s2).same s3
  refine lc_data (K := K) (walk_zip (n := n) (by rw [List.length_map, hls, hyn, Nat.min_self])) S (fun _ => .bool false) hD (by omega) hS3 (fun H4 s4 => ⟨(hid_le.trans s4).seq hl3, s4.seq h4⟩) ?_ ?_
  · rintro i y H4 H5 hi s4 th ⟨Tp, x, z, rfl, hT, rfl, ex, ez⟩
    have ex : ys[i]? = some x := ex
    have ez : (ls.map V.int)[i]? = some z := ez
    have sT : Same H4 (upd H4 Tp (.tup [x, z])) := Same.new hT
    refine ⟨sT, fun Q' hQ => ?_⟩
    rw [List.getElem?_map, gd_at (by omega)] at ez
    cases ez
    obtain ⟨col, hcol⟩ : ∃ col, (colsOf n tb)[i]? = some col := ⟨_, List.getElem?_eq_getElem (by omega)⟩
    obtain ⟨okc, hbi, hle⟩ := hk i col hcol
    obtain ⟨x', hx', dx⟩ := hy.at (lt_at hcol)
    rw [ex] at hx'
    cases hx'
    refine ⟨Tp, _, rfl, SqT.of upd_same, rfl, _, _, rfl, _, _, rfl, rfl, rfl, ?_⟩
    have th1 := th.same sT
    refine ⟨_, rfl, _, rfl, D :: S, _, _, th1, .cons (dp_new dx hD (s4.trans sT)) (.cons (dp_new ((h2.hs s2).hs s3) hD (s4.trans sT)) .nil), okc.rel, fun H6 v6 s6 d6 => ?_⟩
    refine ⟨_, rfl, by show 2 ≤ sizeLine; decide, fun p hp => ?_⟩
    have th6 := th1.same s6
    refine ⟨D :: S, _, _, th6.upd, .cons (d6.hs (Same.new hp)) (.cons (fr_dp (q := ((gd ls i : Int) : Rat)) (SqT.of (by rw [hid_out (th6.new hp), upd_same]; rfl))) .nil), ⟨_, _, k + c + 4, c, rfl, okc.sz, int_sz hbi okc.c1, by have := okc.kc; omega, rfl⟩, fun H7 v7 s7 d7 => ?_⟩
    refine hQ _ _ ((s6.trans (Same.new hp)).trans s7) ?_
    rw [decide_eq_false (Rat.not_lt.mpr hle)] at d7
    exact d7
  · intro H4 s4 ⟨acc, ha, hdp⟩ _
    have hdp' : DpAll K (hid (D :: S) H4) acc (((List.range n).map fun _ => false).map PyData.bool) := by rw [List.map_map]; exact hdp
    rw [hdp'.bls] at ha
    refine ⟨D, _, rfl, SqL.of ha, false, ?_, kq _ _ ((s2.trans s3).trans s4) (.bl true)⟩
    congr 1
    rw [List.any_map]
    exact List.any_eq_false.mpr fun _ _ => Bool.false_ne_true
/-! ### is_best, of what is right -/
theorem fr_shaped (q : Rat) : SeqAt.shaped (fr q) = true := by
  show (PyData.canLay0 (.tuple [.int q.num, .int (q.den : Int)]) && decide (PyData.depth (.tuple [.int q.num, .int (q.den : Int)]) ≤ 64)) = true
  rfl
theorem fr_eqv (q : Rat) : PyData.eqv (fr q) (fr q) = true := by
  show (q.num == q.num && (((q.den : Int)) == (q.den : Int) && true)) = true
  simp
structure BestOk (k c m n : Nat) (tb : List (List Int)) (bs gs : List Int) (v : Rat) (x y : Nat → Rat) : Prop where
  ok : TabOk m n tb
  lb : bs.length = m
  lg : gs.length = n
  xp : ∀ j, j < n → 0 ≤ x j
  yp : ∀ i, i < m → 0 ≤ y i
  rows : ∀ i row, tb[i]? = some row → SumOk k c n row x ∧ (gd bs i).natAbs < 2 ^ c ∧ wsum n row x ≤ (gd bs i : Rat)
  cols : ∀ j col, (colsOf n tb)[j]? = some col → SumOk k c m col y ∧ (gd gs j).natAbs < 2 ^ c ∧ (gd gs j : Rat) ≤ wsum m col y
  sx : SumOk k c n gs x
  sy : SumOk k c m bs y
  vx : wsum n gs x = v
  vy : wsum m bs y = v
def rIsBest (ds : List PyData) (r : PyData) : Prop := ∃ (k c m n : Nat) (tb : List (List Int)) (bs gs : List Int) (v : Rat) (x y : Nat → Rat), ds = [lt tb, li bs, li gs, fr v, lfn n x, lfn m y] ∧ BestOk k c m n tb bs gs v x y ∧ r = .bool true
theorem dp6 {H : Hp} {vs : List V} {a b c d e f : PyData} (h : DpAll K H vs [a, b, c, d, e, f]) : ∃ v1 v2 v3 v4 v5 v6, vs = [v1, v2, v3, v4, v5, v6] ∧ Dp K H v1 a ∧ Dp K H v2 b ∧ Dp K H v3 c ∧ Dp K H v4 d ∧ Dp K H v5 e ∧ Dp K H v6 f := by
  cases h with
  | cons h1 h =>
    cases h with
    | cons h2 h =>
      obtain ⟨v3, v4, v5, v6, rfl, h3, h4, h5, h6⟩ := dp4 h
      exact ⟨_, _, v3, v4, v5, v6, rfl, h1, h2, h3, h4, h5, h6⟩
abbrev N_is_best : List Str := ["table", "bounds", "gains", "value", "xs", "prices"]
theorem sc_is_best : FnScope N_is_best ["table", "bounds", "gains", "value", "xs", "prices"] (defScope s_is_best) := ⟨rfl, rfl, rfl, by decide +kernel, rfl, by decide +kernel, by decide +kernel⟩
theorem c_is_best (T : Txt K mg) : Cal P w K mg base 7 "is_best" ["table", "bounds", "gains", "value", "xs", "prices"] (puSp K rIsBest) := by
  refine cal_pu T.F_s_is_best T.g_is_best sc_is_best (fun _ _ _ _ _ _ us hl => match us, hl with | [_, _, _, _, _, _], _ => rfl) (fun ds r ⟨_, _, _, _, _, _, _, _, _, _, e, _⟩ => by rw [e]; rfl) fun cdv A outer s H vs Q E hr S ds r hS hd hR kq => ?_
  obtain ⟨k, c, m, n, tb, bs, gs, v, x, y, rfl, B, rfl⟩ := hR
  obtain ⟨v1, v2, v3, v4, v5, v6, rfl, h1, h2, h3, h4, h5, h6⟩ := dp6 hd
  obtain ⟨l3, rfl, hl3⟩ := dp_li h3.up
  have m8 := B.ok.m8
  have n8 := B.ok.n8
  refine ⟨_, (pss_cons (ps_if (PW.pt (pw_or (pt_not (pt_val (pe_cal (c_is_fraction T) (hr.mono (by decide)) (pa_cons (pv 3) pa_nil)))) (pw_or (pt_not (pt_val (pe_cal (c_are_from_nought T) (hr.mono (by decide)) (pa_cons (pv 4) (pa_cons (pe_callB (lenK K) (by rfl) T.f_len (by decide +kernel) (pa_cons (pv 2) pa_nil)) pa_nil))))) (pw_or1 (pt_not (pt_val (pe_cal (c_keeps T) (hr.mono (by decide)) (pa_cons (pv 0) (pa_cons (pv 1) (pa_cons (pv 4) pa_nil))))))))))
  (pss_one (ps_ret pe_bl))
  pss_nil)
 (pss_cons (ps_if (pt_not (pt_val (pe_cal (c_are_prices T) (hr.mono (by decide)) (pa_cons (pv 0) (pa_cons (pv 5) (pa_cons (pv 2) pa_nil))))))
  (pss_one (ps_ret pe_bl))
  pss_nil)
 (pss_one (ps_ret (pe_and (pe_cmpR (op_eqD hr.units) (pe_cal (c_weighed T) (hr.mono (by decide)) (pa_cons (pv 2) (pa_cons (pv 4) pa_nil))) (pv 3) (nomark _)) (pe_one (pe_cmpR (op_eqD hr.units) (pe_cal (c_weighed T) (hr.mono (by decide)) (pa_cons (pv 1) (pa_cons (pv 5) pa_nil))) (pv 3) (nomark _)))))))), ?_⟩
  refine ⟨_, rfl, S, _, _, hS, .cons h4 .nil, ⟨v, rfl, rfl⟩, fun H2 w2 s2 d2 => ?_⟩
  cases dp_bl d2
  refine ⟨true, rfl, iteF ?_⟩
  refine ⟨_, rfl, _, rfl, _, _, rfl, .inl (s2.seq hl3), S, _, _, hS.same s2, .cons (h5.hs s2) (.cons (.int _) .nil), ⟨n, x, by rw [List.length_map, B.lg], by omega, B.xp, rfl⟩, fun H3 w3 s3 d3 => ?_⟩
  cases dp_bl d3
  have t3 := s2.trans s3
  refine ⟨true, rfl, iteF ?_⟩
  refine ⟨_, rfl, _, rfl, _, rfl, S, _, _, hS.same t3, .cons (h1.hs t3) (.cons (h2.hs t3) (.cons (h5.hs t3) .nil)), ⟨tb, bs, n, k, c, x, rfl, by rw [B.lb, B.ok.len], by rw [B.ok.len]; omega, B.rows, rfl⟩, fun H4 w4 s4 d4 => ?_⟩
  cases dp_bl d4
  have t4 := t3.trans s4
  refine ⟨true, rfl, iteF ?_⟩
  refine ⟨_, rfl, _, rfl, _, rfl, S, _, _, hS.same t4, .cons (h1.hs t4) (.cons (h6.hs t4) (.cons (h3.hs t4) .nil)), ⟨m, n, tb, gs, k, c, y, rfl, B.ok, B.lg, B.yp, B.cols, rfl⟩, fun H5 w5 s5 d5 => ?_⟩
  cases dp_bl d5
  have t5 := t4.trans s5
  refine ⟨true, rfl, iteF ?_⟩
  refine ⟨_, rfl, _, rfl, S, _, _, hS.same t5, .cons (h3.hs t5) (.cons (h5.hs t5) .nil), B.sx.rel, fun H6 w6 s6 d6 => ?_⟩
  have t6 := t5.trans s6
  refine ⟨_, rfl, fr v, fr v, by have := d6.up; rw [B.vx] at this; exact this, (h4.hs t6).up, fr_shaped v, fr_shaped v, ?_⟩
  rw [fr_eqv]
  refine ⟨true, rfl, iteT ?_⟩
  refine ⟨_, rfl, _, rfl, S, _, _, hS.same t6, .cons (h2.hs t6) (.cons (h6.hs t6) .nil), B.sy.rel, fun H7 w7 s7 d7 => ?_⟩
  have t7 := t6.trans s7
  refine ⟨_, rfl, fr v, fr v, by have := d7.up; rw [B.vy] at this; exact this, (h4.hs t7).up, fr_shaped v, fr_shaped v, ?_⟩
  rw [fr_eqv]
  exact kq _ _ t7 (.bl true)
end
end K31
namespace K31
open PySem PySem.Spec PyProof.Rows L2
section
variable {X : Cx} {pins : List (Addr × Obj)} {σ : L2.St} {H : Hp} {s : Shared} {h' : Heap} {m : Str → Option Value}
/-- all objects but the frame's are kept, the frame's names are the same -/
theorem inv_all {tk : Nat} (I : Inv X pins σ H s) (F : Fr X.base X.env.locals s.heap m) (F' : Fr X.base X.env.locals h' m) (k : ∀ b o, b ≠ X.env.locals → s.heap.get? b = some o → h'.get? b = some o) : Inv X pins σ H { s with heap := h', toks := tk } := by
  refine I.step (g' := s.gens) (d' := s.drawn) (ch := []) (fun _ z => nomatch z) (fun b o hL _ _ e _ => k b o hL e) (fun b o hL _ _ e _ => ⟨o.slots, k b o hL e⟩) (fun _ _ _ _ n => n) (fun b o _ e => ?_) (fun _ _ e => e) (fun _ _ _ e => e) (fun b ps e => ⟨#[], by rw [e]; simp⟩) (fun m' hm => ?_) (fun a o e => ?_) I.bare
  · by_cases hb : b = X.env.locals
    · obtain ⟨ob, _, _, ho, _⟩ := F'.ns
      exact ⟨ob, by rw [hb]; exact ho⟩
    · exact ⟨o, k b o hb e⟩
  · rw [hm.eq_nsMap.trans F.ns.eq_nsMap.symm]; exact F'.ns
  · refine (I.hok a o e).stay (fun b u hb q => k b u (fun z => ?_) q) (fun _ q => q) fun _ _ q => q
    rcases hb with hb | hb
    · rw [← hb, z, I.free] at e; cases e
    · rw [z, I.free] at hb; cases hb
/-- a new object that the heap has got meanwhile is tracked -/
theorem inv_trk {D : Addr} {o : HO} (I : Inv X pins σ H s) (hn : H D = none) (hL : D ≠ X.env.locals) (h0 : X.s_0.heap.get? D = none) (new : ObjOk X.prog X.w (upd H D o) s.heap D o) (hf : D ∉ X.fs) (hc : ∀ x c, X.env.cells.lookup x = some c → c ≠ D) (hp : ∀ p ∈ X.pn ++ pins, p.1 ≠ D) : Inv X pins σ (upd H D o) s where
  ok := I.ok
  os := I.os
  bare := I.bare
  base := ⟨fun b u e n hb hx => I.base.keep b u e n hb hx, fun b u e n hb hx => I.base.slot b u e n hb hx, fun b u e n hx => by
      rw [upd_ne fun z => by rw [z, h0] at e; cases e]; exact I.base.free b u e n hx, I.base.there, fun b xs e => by
      have e2 := I.base.tups b xs e
      rw [upd_ne (ne_of_none e2 hn)]; exact e2, fun b ob u e => by
      have e2 := I.base.frzs b ob u e
      rw [upd_ne (ne_of_none e2 hn)]; exact e2, fun b ps e => by
      obtain ⟨more, e2⟩ := I.base.tbls b ps e
      exact ⟨more, by rw [upd_ne (ne_of_none e2 hn)]; exact e2⟩⟩
  loc := I.loc
  cell := I.cell
  free := by rw [upd_ne hL.symm]; exact I.free
  freeC := fun x c e => by rw [upd_ne (hc x c e)]; exact I.freeC x c e
  pin := fun p hp' => by
    obtain ⟨a, b, c, d⟩ := I.pin p hp'
    exact ⟨a, by rw [upd_ne (hp p hp')]; exact b, c, d⟩
  hok := fun b u e => by
    by_cases hb : b = D
    · subst hb; rw [upd_same] at e; cases e; exact new
    · rw [upd_ne hb] at e
      exact (I.hok b u e).stay (fun c v _ q => q) (fun c q => by rw [upd_ne (ne_of_none q hn)]; exact q) fun c xs q => by rw [upd_ne (ne_of_none q hn)]; exact q
  len := I.len
/-- the other objects, for the library's rules -/
theorem news_kept (I : Inv X pins σ H s) (F' : Fr X.base X.env.locals h' m) (N' : News X.base X.env.locals h' (allNews X.base s.heap X.env.locals)) : ∀ b o, b ≠ X.env.locals → s.heap.get? b = some o → h'.get? b = some o := fun b o hL e => by
  cases q : X.base.get? b with
  | some u =>
    have := I.bk b u q
    rw [e] at this
    cases this
    exact F'.keep b _ q
  | none => exact (N' (b, o) (mem_allNews hL q e)).1
/-- a, *b = a tuple -/
def gStar (K : PySem.W.Frag) (i j : Nat) : TG := fun v σ H Q => ∃ a x xs, v = .ref a ∧ SqT K H a (x :: xs) ∧ xs.length ≤ 1000 ∧ ∀ D, H D = none → Q ((σ.set i (some x)).set j (some (.ref D))) (upd H D (.lst xs))
theorem pg_star {i j : Nat} {x y : Str} {px py ps pos : Pos} {k : Nat} (hc : X.calm = true) (hex : X.ex = []) (hN : X.N.Nodup) (hi : X.N[i]? = some x) (hj : X.N[j]? = some y) (hx : X.env.scope.names.lookup x = some .local) (hy : X.env.scope.names.lookup y = some .local) :
    PG X (.Tuple [.Name x px, .Starred (.Name y py) ps] k pos) (gStar X.K i j) := by
  refine ⟨fun pins s σ H v u Q I r h => ?_⟩
  obtain ⟨a, z, xs, rfl, hq, hl, h⟩ := h
  cases r
  obtain ⟨its, rv, ht, hz⟩ := I.tuple hq
  obtain ⟨m, F⟩ := I.fr
  cases rv with
  | @cons _ u0 _ us r0 rr =>
    have lus : us.length = xs.length := rr.length.symm
    refine PySem.W.kun_assignT (n := 2) (i := 1) (first := [u0]) (mids := us) (lasts := []) F news_all ht (I.ok.hd hc) rfl rfl (by decide) (by simp) (by simp; omega) rfl (by simp) (by simp) fun D h' tk F' N' lt => ?_
    have eD := N' (D, _) (List.mem_cons_self ..)
    have kp := news_kept I F' fun p hp => N' p (List.mem_cons_of_mem _ hp)
    have I1 : Inv X pins σ H { s with heap := h', toks := tk } := inv_all I F F' kp
    have newD : ∀ b o, b ≠ X.env.locals → s.heap.get? b = some o → b ≠ D := fun b o hL e z => by
      cases q : X.base.get? b with
      | some u =>
        rw [z, eD.2.2] at q; cases q
      | none => exact Nat.lt_irrefl _ (z ▸ lt (b, o) (mem_allNews hL q e))
    have hnD : H D = none := by
      cases q : H D with
      | none => rfl
      | some o =>
        have h1 := I.hok.lt q
        obtain ⟨ob, hob⟩ : ∃ ob, s.heap.get? D = some ob := by
          have h2 := I.hok D o q
          exact objOk_get h2
        exact (newD D ob eD.2.1 hob rfl).elim
    have noD : ∀ o, s.heap.get? D ≠ some o := fun o e => newD D o eD.2.1 e rfl
    have h0 : X.s_0.heap.get? D = none := by
      cases q : X.s_0.heap.get? D with
      | none => rfl
      | some o =>
        obtain ⟨o', e⟩ := I.base.there D o q (by rw [hex]; exact fun z => nomatch z)
        exact (noD o' e).elim
    have I2 : Inv X pins σ (upd H D (.lst xs)) { s with heap := h', toks := tk } := by
      refine inv_trk I1 hnD eD.2.1 h0 ⟨Nat.le_of_lt (small1000 hl), us, 0, rr, eD.1⟩ (fun hb => ?_) (fun x c e z => ?_) fun p hp z => ?_
      · obtain ⟨_, o, ho, _⟩ := I.ok.funs.mem hb
        rw [h0] at ho; cases ho
      · obtain ⟨v, o, ho, _⟩ := I.cell x c e
        rw [z] at ho
        exact noD o ho
      · have q := (I.pin p hp).1
        rw [z] at q
        exact noD _ q
    show wpAny _ _ (assignInOrder [assign (.Name x px) X.env, assign (.Name y py) X.env] [u0, .ref D]) _ _ _
    refine assignInOrder_cons (wpAny_assign_Name (store_ok I2 hN hi (.inl hx) r0 (fun s3 I3 => ?_) (.inr hx)))
    refine assignInOrder_cons (wpAny_assign_Name (store_ok I3 hN hj (.inl hy) (v := .ref D) rfl (fun s4 I4 => assignInOrder_nil ⟨_, _, I4, h D hnD⟩) (.inr hy)))
end
end K31
namespace K31
open PySem PySem.Spec PyProof.Rows L2 LamX
/-! min(xs, key=lambda i: self.F[i]) -/
def keyAt (ks : List Int) (n : Int) : Int := ks.getD n.toNat 0
/-- what it asks: a list of places, self an instance whose F is a list of numbers, the places lie in it -/
def mkNext (K : PySem.W.Frag) (T : List (Addr × Str)) (is : Nat) (F : Str) (σ : L2.St) (Q : VK) : V → Hp → Prop := fun x H1 => ∃ (a : Addr) (ns : List Int) (p C dx : Addr) (fs : List (Str × V)) (lb : Addr) (ks : List Int), x = .ref a ∧ SqL K H1 a (ns.map V.int) ∧ 0 < ns.length ∧ ks.length ≤ 1000 ∧
  Tabs T H1 ∧ σ[is]? = some (some (.ref p)) ∧ H1 p = some (.ins C dx fs) ∧ Cls K C ∧ NoAttr K C F ∧ fs.lookup F = some (.ref lb) ∧ SqL K H1 lb (ks.map V.int) ∧ (∀ n ∈ ns, 0 ≤ n ∧ n < ks.length) ∧
  ∀ H2 M, ExtN H1 H2 → Tabs T H2 → M ∈ ns → (∀ n ∈ ns, keyAt ks M ≤ keyAt ks n) → Q (.int M) H2
def tMinKey (K : PySem.W.Frag) (T : List (Addr × Str)) (is : Nat) (F : Str) (te : TE) : TE := fun σ H Q => te σ H fun x H1 => ∃ y, [x] = [y] ∧ mkNext K T is F σ Q y H1
theorem sq_ext {K : PySem.W.Frag} {H H' : Hp} {a : Addr} {xs : List V} (e : ExtN H H') (h : SqL K H a xs) : SqL K H' a xs := by
  rcases h with (h | ⟨o, h⟩) | h
  · exact .inl (.inl (e _ _ h fun _ q => nomatch q))
  · exact .inl (.inr ⟨o, e _ _ h fun _ q => nomatch q⟩)
  · exact .inr h
section
variable {X : Cx}
theorem pe_minkey {T : List (Addr × Str)} {is : Nat} {F iv : Str} {te : TE} {e : Expr} {params : Arguments} {scope : Scope} {c P : Addr} {k : Nat} {p pos kpos lpos p1 p2 p3 p4 : Pos} (he : PA X [e] (tCons te tNil)) (hm : X.mg "min" = none) (TB : TabB X.base X.mg c P) (hcode : X.env.code = .ref c)
    (hmT : (P, X.env.qual ++ "<lambda>") ∈ T) (hu : ∀ q ∈ T, q.1 = P → q.2 = X.env.qual ++ "<lambda>") (hr : Room (k + 2) X.A) (hsc : scope = ⟨.function, [(iv, .local), ("self", .free)], false, false, []⟩) (hself : X.env.scope.names.lookup (Str.ofString "self") = some NameKind.cell) (hN : X.N[is]? = some (Str.ofString "self"))
    (hiv : iv ≠ "self") (hd : (iv == ("__debug__" : Str)) = false) (hdef : defaultsOf params X.env = ([], []))
    (hbind : ∀ (v : Value) (q : Str) (body : Expr) (cl : List (Str × Addr)) (pm cv ctv : Value), bindArgs (PySem.W.kla_fn "<lambda>" q params body scope cl pm cv ctv) ⟨[v], []⟩ = pure [(iv, v)])
    (hg : Gl X "min" := by rfl) (hst : backTo pos (starEach [e] X.env) = (false, eval e X.env) :: backTo pos (starEach [] X.env) := by rfl) (hpl : (backTo pos (starEach [e] X.env)).any (·.1) = false := by rfl) (hcalm : X.calm = true := by rfl) (hbase : ∀ env, attributeBase (.Name "self" p1) F env (eval (.Name "self" p1) env) = eval (.Name "self" p1) env := by intro _; rfl) :
    PE X (.Call (.Name "min" p) [e] [⟨some "key", .Lambda params (.Subscript (.Attribute (.Name "self" p1) F p2) (.Name iv p3) p4) scope lpos, kpos⟩] pos) (tMinKey X.K T is F te) := by
  refine ⟨fun pins s σ H Q I h => ?_⟩
  refine wpAny_Call_Name_kw (ld_blt I hg hm (show bootBuiltins "min" = some (.builtin "min") by decide +kernel) ?_)
  refine PyProof.Rows.callWith_kw ?_ hst hpl rfl rfl
  refine thn (he.run pos pins s σ H (fun vs H1 => ∃ x, vs = [x] ∧ mkNext X.K T is F σ Q x H1) I ?_) fun us s1 hus => ?_
  · exact h
  obtain ⟨vs, H1, I1, r1, x, rfl, a, ns, sp, C, dx, fs, lb, ks, rfl, ha, hne, hz, hT, hs, hp, cC, nF, lF, hlb, hin, q⟩ := hus
  obtain ⟨u0, rfl, ru⟩ := vals1 r1
  cases ru
  show wpAny (model X.prog X.w) X.A (evalAll [(do let v ← eval (.Lambda params (.Subscript (.Attribute (.Name "self" p1) F p2) (.Name iv p3) p4) scope lpos) X.env; standAt pos; pure v)]) _ _ s1
  refine wpAny_evalAll_cons (wpAny_bind (lam_make2 I1 TB hcode hmT hu hT hdef (fun y hy e => ?_) fun f c' pm ctv H2 s2 I2 eN T2 hf hfn hfr hco => ?_))
  · rw [hsc] at hy
    rcases List.mem_cons.mp hy with z | hy
    · rw [z] at e; cases e
    · rcases List.mem_cons.mp hy with z | hy
      · rw [z]; exact I1.ok.has _ (.inl hself)
      · cases hy
  refine wpAny_bind (wpAny_standAt (wpAny_pure (wpAny_evalAll_nil ?_)))
  show wpAny (model X.prog X.w) X.A (call (.builtin "min") [.ref a] [(Str.ofString "key", .ref f)]) _ _ s2
  have ha2 := sq_ext eN ha
  have hp2 := eN _ _ hp fun _ q => nomatch q
  have hlb2 := sq_ext eN hlb
  obtain ⟨its, rv, pl, hlen⟩ := I2.list ha2
  obtain ⟨m, F2⟩ := I2.fr
  have noL : ∀ {b : Addr} {o : Obj}, s2.heap.get? b = some o → (∀ es ep, o.data ≠ .dict es ep) → b ≠ X.env.locals := fun {b o} e nd z => by
    obtain ⟨ob, es, ep, e1, d1, _⟩ := F2.ns
    rw [z, e1] at e
    cases e
    exact nd es ep d1
  have fL : f ≠ X.env.locals := noL hf fun _ _ z => nomatch z
  refine kmk_min_letter (ns := ns) (keyAt ks) (I2.ok.hd hcalm) F2 news_all (fun h F' N' => ?_) rv.ints hne (fun n t h tk own hn F' N' => ?_) fun M t h tk F' N' hM hmin => ?_
  · obtain ⟨o, n0, e1, c1, d0, dt⟩ := pl
    exact ⟨o, news_kept I2 F' N' a o (noL e1 fun _ _ z => by rw [dt] at z; cases z) e1, c1, n0, dt⟩
  · have kp := news_kept I2 F' fun q hq => N' q (List.mem_append_left _ hq)
    have I3 : Inv X pins σ H2 { s2 with heap := h, toks := tk } := inv_all I2 F2 F' kp
    obtain ⟨⟨oc, ovs, ot, ho1, ho2, ho3⟩, _, _⟩ := I3.hok c' _ hco
    have hf3 := kp f _ fL hf
    obtain ⟨h0, h1⟩ := hin n hn
    -- self's cell
    obtain ⟨m3, hn3, hl3⟩ := I3.loc
    have hv : Vis X.env.scope (Str.ofString "self") := .inr (.inl hself)
    obtain ⟨us, rs, lk⟩ := hl3 is _ _ hN hs hv
    cases rs
    have kc : X.env.kindOf (Str.ofString "self") = some .cell := hself
    obtain ⟨cc, hcc, hcell⟩ : ∃ cc, X.env.cells.lookup (Str.ofString "self") = some cc ∧ h.IsCell cc (some (.ref sp)) := by
      rcases lk with ⟨z, _⟩ | ⟨_, cc, z1, z2⟩
      · rw [kc] at z; cases z
      · exact ⟨cc, z1, z2⟩
    have clo : cloFrom X.env.cells scope.names [] = [(Str.ofString "self", cc)] := by
      rw [hsc]
      show [(Str.ofString "self", (X.env.cells.lookup (Str.ofString "self")).getD 0)] = _
      rw [hcc]
      rfl
    refine wpAny_call (PySem.W.kla_callFunE (by have := hr.dp; show X.A.depth < _; omega) hf3 rfl (by rw [hsc]) (by rw [hsc]) rfl ⟨c', oc, ovs, ot, rfl, ho1, ho2, ho3⟩ ?_)
    rw [hbind]
    refine wpAny_pure (wpAny_newFunctionEnv (fun y hy => ?_) (fun y hy => ?_) (fun h₁ hns hsb => ⟨I3.nolimit.fresh _ hsb, ?_⟩) (by rw [hsc]))
    · rw [hsc] at hy
      rcases List.mem_cons.mp hy with z | hy
      · rw [z]; exact fun z => nomatch z
      · rcases List.mem_cons.mp hy with z | hy
        · rw [z]; exact fun z => nomatch z
        · cases hy
    · rcases List.mem_cons.mp hy with z | hy
      · rw [z, hsc]
        show List.lookup iv [(iv, NameKind.local), (Str.ofString "self", NameKind.free)] = _
        simp
      · cases hy
    have kp1 : ∀ b o, h.get? b = some o → h₁.get? b = some o := fun b o e => hsb.extBut b o (Nat.ne_of_lt (Heap.lt_size e)) (Heap.get?_push_of_some _ e)
    have I4 : Inv X pins σ H2 { s2 with heap := h₁, toks := tk } := I3.kept (h' := h₁) (t' := tk) kp1
    obtain ⟨mA, O, rA, _⟩ := ins_get I4.hok hp2
    obtain ⟨uF, eF, rF⟩ := RelO.some_of (v := V.ref lb) (o := mA F) (by rw [← lF]; exact rA F)
    cases rF
    obtain ⟨its2, rv2, pl2, _⟩ := I4.list hlb2
    have hx : (ks.map V.int)[n.toNat]? = some (V.int (keyAt ks n)) := by
      rw [List.getElem?_map]
      show Option.map V.int _ = some (V.int (ks.getD n.toNat 0))
      rw [List.getD_eq_getElem?_getD, List.getElem?_eq_getElem (show n.toNat < ks.length by omega)]
      rfl
    obtain ⟨uk, ek, rk⟩ := rv2.get hx
    obtain ⟨tkk, rfl⟩ := rk
    show codeAny (model X.prog X.w) X.A.in1 (.expr _ (lamEnv X scope h.objs.size f c')) _ _
    refine PySem.W.kla_codeExpr ?_
    have kk : (lamEnv X scope h.objs.size f c').scope.kind = .function := by show scope.kind = _; rw [hsc]
    have lk1 : scope.names.lookup iv = some NameKind.local := by
      rw [hsc]
      exact List.lookup_cons_self
    have lk2 : scope.names.lookup (Str.ofString "self") = some NameKind.free := by
      rw [hsc]
      show List.lookup (Str.ofString "self") ((iv, NameKind.local) :: [(Str.ofString "self", NameKind.free)]) = _
      rw [List.lookup_cons, beq_eq_false_iff_ne.mpr (Ne.symm hiv)]
      exact List.lookup_cons_self
    have ck : (cloFrom X.env.cells scope.names []).lookup (Str.ofString "self") = some cc := by
      rw [clo]
      exact List.lookup_cons_self
    have hcell1 : h₁.IsCell cc (some (.ref sp)) := let ⟨o, e1, e2⟩ := hcell; ⟨o, kp1 _ _ e1, e2⟩
    refine Subscript_ (attr_of (hbase _) (wpAny_Name (wpAny_loadName_free kk lk2 ck hcell1 ?_ (by decide)) (by decide)))
    refine get_map (mA := mA) I4.kIn O (cC.get F) cC.hd nF eF (handed_of (v := V.ref lb) (u := .ref lb) rfl) ?_
    refine wpAny_Name (wpAny_loadName_local kk lk1 hns (show List.lookup iv ([(iv, Value.int n t)].reverse) = some (Value.int n t) from List.lookup_cons_self) ?_) hd
    refine item_listR pl2.isList h0 (by omega) (by simpa using ek) ?_
    exact ⟨h₁, _, tkk, rfl, rfl, ⟨let ⟨o, es, ep, e, r⟩ := F'.ns; ⟨o, es, ep, kp1 _ _ e, r⟩, fun b o e => kp1 _ _ (F'.keep b o e), F'.above⟩, fun q hq => ⟨kp1 _ _ (N' q hq).1, (N' q hq).2⟩⟩
  · exact ⟨.int M, H2, inv_all I2 F2 F' (news_kept I2 F' N'), ⟨t, rfl⟩, q H2 M eN T2 hM hmin⟩
end
end K31
namespace K31
open PySem PySem.Spec PyProof.Rows L2
/-! shapes of data -/
def SH (k : Nat) (d : PyData) : Prop := d.canLay0 = true ∧ d.depth ≤ k
theorem SH.mono {k j : Nat} {d : PyData} (h : SH k d) (kj : k ≤ j) : SH j d := ⟨h.1, Nat.le_trans h.2 kj⟩
theorem SH.shaped {k : Nat} {d : PyData} (h : SH k d) (hk : k ≤ 64) : SeqAt.shaped d = true := by
  unfold SeqAt.shaped
  rw [h.1, decide_eq_true (Nat.le_trans h.2 hk)]
  rfl
theorem sh_all {k : Nat} : ∀ {ds : List PyData}, (∀ d ∈ ds, SH k d) → PyData.canLayAll0 ds = true ∧ PyData.depthAll ds ≤ k
  | [], _ => ⟨rfl, by show 0 ≤ k; omega⟩
  | d :: ds, h => by
    obtain ⟨h1, h2⟩ := sh_all (ds := ds) fun e he => h e (List.mem_cons_of_mem _ he)
    obtain ⟨h3, h4⟩ := h d (List.mem_cons_self ..)
    refine ⟨?_, ?_⟩
    · show (d.canLay0 && PyData.canLayAll0 ds) = true
      rw [h3, h1]; rfl
    · simp only [PyData.depthAll]
      omega
theorem sh_list {k : Nat} {ds : List PyData} (h : ∀ d ∈ ds, SH k d) : SH (k + 1) (.list ds) := by
  obtain ⟨h1, h2⟩ := sh_all h
  refine ⟨h1, ?_⟩
  simp only [PyData.depth]
  omega
theorem sh_tup {k : Nat} {ds : List PyData} (h : ∀ d ∈ ds, SH k d) : SH (k + 1) (.tuple ds) := by
  obtain ⟨h1, h2⟩ := sh_all h
  refine ⟨h1, ?_⟩
  simp only [PyData.depth]
  omega
theorem sh_int (i : Int) : SH 0 (.int i) := ⟨rfl, by simp only [PyData.depth]; omega⟩
theorem sh_str {x : Str} (h : (PyData.str x).canLay0 = true) : SH 0 (.str x) := ⟨h, by simp only [PyData.depth]; omega⟩
theorem sh_li (ns : List Int) : SH 1 (li ns) := sh_list fun d hd => by
  obtain ⟨n, _, rfl⟩ := List.mem_map.mp hd
  exact sh_int n
theorem sh_lt (tb : List (List Int)) : SH 2 (lt tb) := sh_list fun d hd => by
  obtain ⟨n, _, rfl⟩ := List.mem_map.mp hd
  exact sh_li n
theorem sh_fr (q : Rat) : SH 1 (fr q) := sh_tup fun d hd => by
  rcases List.mem_cons.mp hd with e | hd
  · rw [e]; exact sh_int _
  · rw [List.mem_singleton.mp hd]; exact sh_int _
theorem sh_lfn (n : Nat) (f : Nat → Rat) : SH 2 (lfn n f) := sh_list fun d hd => by
  obtain ⟨i, _, rfl⟩ := List.mem_map.mp hd
  exact sh_fr _
section
variable {P : Program} {w : World} {K : PySem.W.Frag} {mg : Str → Option Value} {base : Heap}
def bestD (n m : Nat) (v : Rat) (x y : Nat → Rat) : PyData := .tuple [.str "best", fr v, lfn n x, lfn m y]
theorem sh_best (n m : Nat) (v : Rat) (x y : Nat → Rat) : SH 3 (bestD n m v x y) := sh_tup fun d hd => by
  simp only [List.mem_cons, List.not_mem_nil, or_false] at hd
  rcases hd with e | e | e | e
  · rw [e]; exact (sh_str (by decide +kernel)).mono (by decide)
  · rw [e]; exact (sh_fr v).mono (by decide)
  · rw [e]; exact sh_lfn _ _
  · rw [e]; exact sh_lfn _ _
def rIsAnswer (ds : List PyData) (r : PyData) : Prop := ∃ (k c m n : Nat) (tb : List (List Int)) (bs gs : List Int) (v : Rat) (x y : Nat → Rat), ds = [lt tb, li bs, li gs, bestD n m v x y] ∧ BestOk k c m n tb bs gs v x y ∧ r = .bool true
abbrev N_is_answer : List Str := ["table", "bounds", "gains", "answer", "word", "told"]
theorem sc_is_answer : FnScope N_is_answer ["table", "bounds", "gains", "answer"] (defScope s_is_answer) := ⟨rfl, rfl, rfl, by decide +kernel, rfl, by decide +kernel, by decide +kernel⟩
theorem c_is_answer (T : Txt K mg) : Cal P w K mg base 8 "is_answer" ["table", "bounds", "gains", "answer"] (puSp K rIsAnswer) := by
  refine cal_pu T.F_s_is_answer T.g_is_answer sc_is_answer (fun _ _ _ _ _ _ us hl => match us, hl with | [_, _, _, _], _ => rfl) (fun ds r ⟨_, _, _, _, _, _, _, _, _, _, e, _⟩ => by rw [e]; rfl) fun cdv A outer s H vs Q E hr S ds r hS hd hR kq => ?_
  obtain ⟨k, c, m, n, tb, bs, gs, v, x, y, rfl, B, rfl⟩ := hR
  obtain ⟨v1, v2, v3, v4, rfl, h1, h2, h3, h4⟩ := dp4 hd
  refine ⟨_, (pss_cons (ps_expr (pe_cal (c_check_task T) (hr.mono (by decide)) (pa_cons (pv 0) (pa_cons (pv 1) (pa_cons (pv 2) pa_nil)))))
 (pss_cons (ps_if (PW.pt (pw_or (pt_not (pt_val (pe_callB (isiK K) (by rfl) T.f_isinstance (by decide +kernel) (pa_cons (pv 3) (pa_cons (pe_bltn (v := .ty "tuple") (by rfl) T.f_tuple (by decide +kernel) rfl) pa_nil))))) (pw_or (pt_cmpR (op_eqD hr.units) (pv 3) (pe_tup pa_nil) (nomark _)) (pw_or1 (pt_not (pt_val (pe_callB (isiK K) (by rfl) T.f_isinstance (by decide +kernel) (pa_cons (pe_ix (ix_tupK K) (pv 3) pe_int (fun _ _ => rfl)) (pa_cons (pe_bltn (v := .ty "str") (by rfl) T.f_str (by decide +kernel) rfl) pa_nil)))))))))
  (pss_one (ps_ret pe_bl))
  pss_nil)
 (pss_cons (ps_asg (pv 3) (pg_star (i := 4) (j := 5) rfl rfl sc_is_answer.nd rfl rfl rfl rfl))
 (pss_cons (ps_if (PW.pt (pw_and (pt_cmpR op_eq (pv 4) pe_str (nomark _)) (pw_and1 (pt_cmpR op_eq (pe_callB (lenK K) (by rfl) T.f_len (by decide +kernel) (pa_cons (pv 5) pa_nil)) pe_int (nomark _)))))
  (pss_one (ps_ret (pe_cal (c_is_best T) (hr.mono (by decide)) (pa_cons (pv 0) (pa_cons (pv 1) (pa_cons (pv 2) (pa_cons (pe_ix (ix_listK K) (pv 5) pe_int (fun _ _ => rfl)) (pa_cons (pe_ix (ix_listK K) (pv 5) pe_int (fun _ _ => rfl)) (pa_cons (pe_ix (ix_listK K) (pv 5) pe_int (fun _ _ => rfl)) pa_nil)))))))))
  pss_nil)
 pss_never)))), ?_⟩
  refine ⟨_, rfl, _, rfl, _, rfl, S, _, _, hS, .cons h1 (.cons h2 (.cons h3 .nil)), ⟨m, n, tb, bs, gs, rfl, B.ok, B.lb, B.lg, rfl⟩, fun H2 w2 s2 d2 => ?_⟩
  have h4' := h4.hs s2
  refine ⟨_, rfl, _, _, _, _, _, rfl, .ty "tuple", tyx_tup h4'.up, kit_tup_tup, true, rfl, iteF ?_⟩
  refine ⟨_, rfl, Nat.zero_le _, fun p hp => ?_⟩
  have s3 : Same H2 (upd H2 p (.tup [])) := Same.new hp
  refine ⟨bestD n m v x y, .tuple [], (h4'.hs s3).up, .tup (SqT.of upd_same) .nil, (sh_best n m v x y).shaped (by decide), (sh_tup (k := 0) (ds := []) fun _ h => absurd h List.not_mem_nil).shaped (by decide), false, rfl, iteF ?_⟩
  obtain ⟨a, xs, rfl, ha, hx⟩ := dpt (h4'.hs s3)
  obtain ⟨x1, x2, x3, x4, rfl, e1, e2, e3, e4⟩ := dp4 hx
  cases dp_str e1
  refine ⟨_, rfl, _, _, _, _, rfl, rfl, sqT_same hid_le ha, rfl, _, _, _, _, _, rfl, .ty "str", .base (.str _), kit_str_str, true, rfl, iteF ?_⟩
  refine ⟨_, rfl, a, _, _, rfl, sqT_same hid_le ha, by show 3 ≤ 1000; decide, fun D hD => ?_⟩
  have s4 : Same (upd H2 p (.tup [])) (upd (upd H2 p (.tup [])) D (.lst [x2, x3, x4])) := Same.new hD
  refine ⟨_, rfl, rfl, true, bT rfl, iteT ?_⟩
  refine ⟨_, rfl, _, _, rfl, .inl (SqL.of upd_same), rfl, true, bT rfl, iteT ?_⟩
  have t4 := (s2.trans s3).trans s4
  refine ⟨_, rfl, _, rfl, _, rfl, _, rfl, _, _, _, _, rfl, rfl, SqL.of upd_same, rfl, _, rfl, _, _, _, _, rfl, rfl, SqL.of upd_same, rfl, _, rfl, _, _, _, _, rfl, rfl, SqL.of upd_same, rfl, ?_⟩
  exact ⟨S, _, _, hS.same t4, .cons (h1.hs t4) (.cons (h2.hs t4) (.cons (h3.hs t4) (.cons (e2.hs s4) (.cons (e3.hs s4) (.cons (e4.hs s4) .nil))))), ⟨k, c, m, n, tb, bs, gs, v, x, y, rfl, B, rfl⟩, fun H5 v5 s5 d5 => kq _ _ (t4.trans s5) d5⟩
/-! ### priced: three new lists -/
def negT (tb : List (List Int)) : List (List Int) := tb.map fun r => r.map fun e => 0 - e
def neg (ns : List Int) : List Int := ns.map fun e => 0 - e
def pricedT (n : Nat) (tb : List (List Int)) : List (List Int) := negT (colsOf n tb)
def spPriced (K : PySem.W.Frag) : Sp := fun vs H Q _ => ∃ (S : List Addr) (m n : Nat) (tb : List (List Int)) (bs gs : List Int), There S H ∧ DpAll K (hid S H) vs [lt tb, li bs, li gs] ∧ TabOk m n tb ∧ bs.length = m ∧ gs.length = n ∧
  ∀ H' p l1 l2 l3 xs, Same H H' → H p = none → H l1 = none → H l2 = none → H l3 = none → l1 ≠ l2 → l1 ≠ l3 → l2 ≠ l3 → H' p = some (.tup [.ref l1, .ref l2, .ref l3]) → H' l1 = some (.lst xs) → DpAll K (hid (l3 :: l2 :: l1 :: S) H') xs ((pricedT n tb).map li) →
    H' l2 = some (.lst ((neg gs).map V.int)) → H' l3 = some (.lst ((neg bs).map V.int)) → Q (.ref p) H'
theorem dpAll_new {H H' : Hp} {S : List Addr} {vs : List V} {ds : List PyData} {D : Addr} (h : DpAll K (hid S H) vs ds) (hD : H D = none) (s : Same H H') : DpAll K (hid (D :: S) H') vs ds := h.same fun b o e => by
  obtain ⟨h5, h6⟩ := hid_of e
  rw [hid_out fun q => ?_]
  · exact s _ _ h6
  · rcases List.mem_cons.mp q with q | q
    · rw [q, hD] at h6; cases h6
    · exact h5 q
theorem neg_at {ns : List Int} {i : Nat} {x : V} (hx : (ns.map V.int)[i]? = some x) : x = .int (gd ns i) := by
  rw [List.getElem?_map] at hx
  cases e : ns[i]? with
  | none => rw [e] at hx; cases hx
  | some z =>
    rw [e] at hx
    cases hx
    have h := (List.getElem?_eq_some_iff.mp e).1
    rw [gd_at h] at e
    cases e
    rfl
theorem neg_map (ns : List Int) : (List.range (ns.map V.int).length).map (fun i => PyData.int (0 - gd ns i)) = (neg ns).map PyData.int := by
  refine List.ext_getElem? fun i => ?_
  by_cases hi : i < ns.length
  · rw [range_at (by rw [List.length_map]; exact hi), List.getElem?_map]
    unfold neg
    rw [List.getElem?_map, gd_at hi]
    rfl
  · rw [List.getElem?_eq_none (by rw [List.length_map, List.length_range, List.length_map]; omega), List.getElem?_eq_none (by unfold neg; rw [List.length_map, List.length_map]; omega)]
abbrev N_priced : List Str := ["table", "bounds", "gains", "other", "entry", "column", "gain", "bound"]
theorem sc_priced : FnScope N_priced ["table", "bounds", "gains"] (defScope s_priced) := ⟨rfl, rfl, rfl, by decide +kernel, rfl, by decide +kernel, by decide +kernel⟩
theorem c_priced (T : Txt K mg) : Cal P w K mg base 5 "priced" ["table", "bounds", "gains"] (spPriced K) := by
  refine cal_mk T.F_s_priced T.g_priced sc_priced (fun _ _ _ _ _ _ us hl => match us, hl with | [_, _, _], _ => rfl) (fun vs H Q E ⟨_, _, _, _, _, _, _, h, _⟩ => h.length) fun cdv A outer s H vs Q E hr h => ?_
  obtain ⟨S, m, n, tb, bs, gs, hS, hd, ok, hb, hg, kq⟩ := h
  obtain ⟨v1, v2, v3, rfl, h1, h2, h3⟩ := dp3 hd
  have m8 := ok.m8
  have n8 := ok.n8
  obtain ⟨lb, rfl, hlb⟩ := dp_li h2.up
  obtain ⟨lg, rfl, hlg⟩ := dp_li h3.up
  have hcn : (colsOf n tb).length = n := by unfold colsOf; rw [List.length_map, List.length_range]
  refine ⟨_, (pss_cons (ps_expr (pe_cal (c_check_task T) (hr.mono (by decide)) (pa_cons (pv 0) (pa_cons (pv 1) (pa_cons (pv 2) pa_nil)))))
 (pss_cons (ps_setLc (i := 3) (own := [("column", 5)]) rfl sc_priced.nd rfl rfl (sw_true rfl rfl rfl (by decide +kernel)) (pi_listK K (pe_cal (c_columns_of T) (hr.mono (by decide)) (pa_cons (pv 0) pa_nil))) (blkOk_by (own := [("column", 5)]) (by kernel_rfl)) (fun _ _ _ _ _ => (pgn 5 sc_priced.nd)) (fun _ _ _ _ _ => pts_nil) (fun _ _ _ _ _ => (by exact (pe_lc (own := [("entry", 4)]) rfl sc_priced.nd (pi_listK K (pv 5)) (blkOk_by (own := [("entry", 4)]) (by kernel_rfl)) (fun _ _ _ _ _ => (pgn 4 sc_priced.nd)) (fun _ _ _ _ _ => pts_nil) (fun _ _ _ _ _ => (pe_op op_sub pe_int (pv 4)))))))
 (pss_one (ps_ret (pe_tup (pa_cons (pv 3) (pa_cons (pe_lc (own := [("gain", 6)]) rfl sc_priced.nd (pi_listK K (pv 2)) (blkOk_by (own := [("gain", 6)]) (by kernel_rfl)) (fun _ _ _ _ _ => (pgn 6 sc_priced.nd)) (fun _ _ _ _ _ => pts_nil) (fun _ _ _ _ _ => (pe_op op_sub pe_int (pv 6)))) (pa_cons (pe_lc (own := [("bound", 7)]) rfl sc_priced.nd (pi_listK K (pv 1)) (blkOk_by (own := [("bound", 7)]) (by kernel_rfl)) (fun _ _ _ _ _ => (pgn 7 sc_priced.nd)) (fun _ _ _ _ _ => pts_nil) (fun _ _ _ _ _ => (pe_op op_sub pe_int (pv 7)))) pa_nil)))))))), ?_⟩
  refine ⟨_, rfl, _, rfl, _, rfl, S, _, _, hS, .cons h1 (.cons h2 (.cons h3 .nil)), ⟨m, n, tb, bs, gs, rfl, ok, hb, hg, rfl⟩, fun H2 w2 s2 d2 => ?_⟩
  refine ⟨_, rfl, S, _, _, hS.same s2, .cons (h1.hs s2) .nil, ⟨m, n, tb, rfl, ok, rfl⟩, fun H3 w3 s3 d3 => ?_⟩
  have t3 := s2.trans s3
  obtain ⟨l3, ys, rfl, hl3, hy⟩ := dpl d3
  have hyn : ys.length = n := by rw [lt_len hy, hcn]
  refine ⟨l3, rfl, ⟨ys, hid_le.seq hl3⟩, fun D1 hD1 => ?_⟩
  refine lc_data (K := K) (walk_list (xs := ys)) S (fun j => li (neg ((colsOf n tb).getD j []))) hD1 (by omega) (hS.same t3) (fun H4 s4 => (hid_le.trans s4).seq hl3) ?_ ?_
  · rintro j x H4 H5 hj s4 th ⟨rfl, hx⟩
    refine ⟨Same.refl _, fun Q' hQ => ⟨rfl, ?_⟩⟩
    obtain ⟨col, hcol⟩ : ∃ col, (colsOf n tb)[j]? = some col := ⟨_, List.getElem?_eq_getElem (by omega)⟩
    have ecol : (colsOf n tb).getD j [] = col := by rw [List.getD_eq_getElem?_getD, hcol]; rfl
    obtain ⟨x', hx', dx⟩ := hy.at (lt_at hcol)
    rw [hx] at hx'
    cases hx'
    obtain ⟨lc, rfl, hlc⟩ := dp_li (dx.hs s4).up
    have lcol : col.length ≤ 8 := by
      have hm : col ∈ colsOf n tb := List.mem_of_getElem? hcol
      unfold colsOf at hm
      obtain ⟨j', _, rfl⟩ := List.mem_map.mp hm
      rw [List.length_map, ok.len]
      exact m8
    refine ⟨_, rfl, lc, rfl, ⟨_, hlc⟩, fun D hD => ?_⟩
    refine lc_data (K := K) (walk_list (xs := col.map V.int)) (D1 :: S) (fun i => .int (0 - gd col i)) hD (by rw [List.length_map]; omega) th (fun H6 s6 => s6.seq hlc) ?_ ?_
    · rintro i z H6 H7 hi s6 th6 ⟨rfl, hz⟩
      refine ⟨Same.refl _, fun Q2 hQ2 => ⟨rfl, ?_⟩⟩
      cases neg_at hz
      exact ⟨_, rfl, _, _, rfl, rfl, hQ2 _ _ (Same.refl _) (.int _)⟩
    · intro H6 s6 _ d6
      refine hQ _ _ s6 ?_
      rw [ecol]
      rw [neg_map] at d6
      exact d6
  · intro H4 s4 ⟨acc, ha, hdp⟩ _
    have t4 := t3.trans s4
    have hacc : DpAll K (hid (D1 :: S) H4) acc ((pricedT n tb).map li) := by
      have e : (List.range ys.length).map (fun j => li (neg ((colsOf n tb).getD j []))) = (pricedT n tb).map li := by
        refine List.ext_getElem? fun i => ?_
        by_cases hi : i < n
        · rw [range_at (by omega), List.getElem?_map]
          unfold pricedT negT
          rw [List.getElem?_map, List.getD_eq_getElem?_getD, List.getElem?_eq_getElem (show i < (colsOf n tb).length by omega)]
          rfl
        · rw [List.getElem?_eq_none (by rw [List.length_map, List.length_range]; omega), List.getElem?_eq_none (by unfold pricedT negT; rw [List.length_map, List.length_map]; omega)]
      rw [← e]
      exact hdp
    refine ⟨_, rfl, _, rfl, lg, rfl, ⟨_, t4.seq hlg⟩, fun D2 hD2 => ?_⟩
    refine lc_data (K := K) (walk_list (xs := gs.map V.int)) [] (fun i => .int (0 - gd gs i)) hD2 (by rw [List.length_map]; omega) There.nil (fun H6 s6 => (t4.trans s6).seq hlg) ?_ ?_
    · rintro i z H6 H7 hi s6 th6 ⟨rfl, hz⟩
      refine ⟨Same.refl _, fun Q2 hQ2 => ⟨rfl, ?_⟩⟩
      cases neg_at hz
      exact ⟨_, rfl, _, _, rfl, rfl, hQ2 _ _ (Same.refl _) (.int _)⟩
    · intro H6 s6 ⟨acc2, ha2, hdp2⟩ _
      rw [neg_map] at hdp2
      rw [hdp2.ints] at ha2
      have t6 := t4.trans s6
      refine ⟨_, rfl, lb, rfl, ⟨_, t6.seq hlb⟩, fun D3 hD3 => ?_⟩
      refine lc_data (K := K) (walk_list (xs := bs.map V.int)) [] (fun i => .int (0 - gd bs i)) hD3 (by rw [List.length_map]; omega) There.nil (fun H8 s8 => (t6.trans s8).seq hlb) ?_ ?_
      · rintro i z H8 H9 hi s8 th8 ⟨rfl, hz⟩
        refine ⟨Same.refl _, fun Q2 hQ2 => ⟨rfl, ?_⟩⟩
        cases neg_at hz
        exact ⟨_, rfl, _, _, rfl, rfl, hQ2 _ _ (Same.refl _) (.int _)⟩
      · intro H8 s8 ⟨acc3, ha3, hdp3⟩ _
        rw [neg_map] at hdp3
        rw [hdp3.ints] at ha3
        have t8 := t6.trans s8
        refine ⟨by show 3 ≤ sizeLine; decide, fun p hp => ?_⟩
        have s9 : Same H8 (upd H8 p (.tup [.ref D1, .ref D2, .ref D3])) := Same.new hp
        have n1 := t3.free hD1
        have n12 : D1 ≠ D2 := ne_of_none ha hD2
        have n13 : D1 ≠ D3 := ne_of_none (s6 _ _ ha) hD3
        have n23 : D2 ≠ D3 := ne_of_none ha2 hD3
        exact kq _ p D1 D2 D3 acc (t8.trans s9) (t8.free hp) n1 (t4.free hD2) (t6.free hD3) n12 n13 n23 upd_same (s9 _ _ (s8 _ _ (s6 _ _ ha))) (dpAll_new (dpAll_new hacc hD2 s6) hD3 (s8.trans s9)) (s9 _ _ (s8 _ _ ha2)) (s9 _ _ ha3)
end
end K31
namespace K31
open PySem PySem.Spec PyProof.Rows L2
/-! ### the board's fields -/
def bfs (n : Nat) (lf lb lr lh lg : Addr) (vv : V) : List (Str × V) := [(("wide" : Str), .int n), (("free" : Str), .ref lf), (("basic" : Str), .ref lb), (("rows" : Str), .ref lr), (("has" : Str), .ref lh), (("gains" : Str), .ref lg), (("value" : Str), vv)]
section
variable (n : Nat) (lf lb lr lh lg : Addr) (vv : V)
theorem bfs_wide : (bfs n lf lb lr lh lg vv).lookup ("wide" : Str) = some (.int n) := by kernel_rfl
theorem bfs_free : (bfs n lf lb lr lh lg vv).lookup ("free" : Str) = some (.ref lf) := by kernel_rfl
theorem bfs_basic : (bfs n lf lb lr lh lg vv).lookup ("basic" : Str) = some (.ref lb) := by kernel_rfl
theorem bfs_rows : (bfs n lf lb lr lh lg vv).lookup ("rows" : Str) = some (.ref lr) := by kernel_rfl
theorem bfs_has : (bfs n lf lb lr lh lg vv).lookup ("has" : Str) = some (.ref lh) := by kernel_rfl
theorem bfs_gains : (bfs n lf lb lr lh lg vv).lookup ("gains" : Str) = some (.ref lg) := by kernel_rfl
theorem bfs_value : (bfs n lf lb lr lh lg vv).lookup ("value" : Str) = some vv := by kernel_rfl
theorem bfs_setg (a : Addr) : putF ("gains" : Str) (.ref a) (bfs n lf lb lr lh lg vv) = bfs n lf lb lr lh a vv := by kernel_rfl
theorem bfs_setv (v : V) : putF ("value" : Str) v (bfs n lf lb lr lh lg vv) = bfs n lf lb lr lh lg v := by kernel_rfl
theorem bfs_turn : (bfs n lf lb lr lh lg vv).lookup ("turn" : Str) = none := by kernel_rfl
theorem bfs_less : (bfs n lf lb lr lh lg vv).lookup ("less" : Str) = none := by kernel_rfl
theorem bfs_settle : (bfs n lf lb lr lh lg vv).lookup ("settle" : Str) = none := by kernel_rfl
theorem bfs_climb : (bfs n lf lb lr lh lg vv).lookup ("climb" : Str) = none := by kernel_rfl
theorem bfs_first : (bfs n lf lb lr lh lg vv).lookup ("first_met" : Str) = none := by kernel_rfl
theorem bfs_spread : (bfs n lf lb lr lh lg vv).lookup ("spread_out" : Str) = none := by kernel_rfl
theorem bfs_xs : (bfs n lf lb lr lh lg vv).lookup ("xs" : Str) = none := by kernel_rfl
theorem bfs_prices : (bfs n lf lb lr lh lg vv).lookup ("prices" : Str) = none := by kernel_rfl
theorem bfs_shown : (bfs n lf lb lr lh lg vv).lookup ("shown" : Str) = none := by kernel_rfl
theorem bfs_way : (bfs n lf lb lr lh lg vv).lookup ("way" : Str) = none := by kernel_rfl
theorem bfs_len : (bfs n lf lb lr lh lg vv).length < 1000 := by show 7 < 1000; decide
end
structure BA where
  p : Addr
  dx : Addr
  lf : Addr
  lb : Addr
  lr : Addr
  lh : Addr
def BA.S (a : BA) : List Addr := [a.p, a.lf, a.lb, a.lr, a.lh]
def intsN (n : Nat) (f : Nat → Nat) : List V := (List.range n).map fun j => V.int (f j)
theorem intsN_at {n j : Nat} {f : Nat → Nat} (h : j < n) : (intsN n f)[j]? = some (.int (f j)) := range_at h
theorem intsN_len {n : Nat} {f : Nat → Nat} : (intsN n f).length = n := by unfold intsN; rw [List.length_map, List.length_range]
theorem intsN_set {n j x : Nat} {f : Nat → Nat} : (intsN n f).set j (.int x) = intsN n (fun i => if i = j then x else f i) := by
  refine List.ext_getElem? fun i => ?_
  rw [List.getElem?_set]
  by_cases hi : i < n
  · rw [intsN_at hi, intsN_at hi, intsN_len]
    by_cases e : j = i
    · rw [if_pos e, if_pos (by omega), if_pos e.symm]
    · rw [if_neg e, if_neg (Ne.symm e)]
  · rw [List.getElem?_eq_none (l := intsN n f) (by rw [intsN_len]; omega), List.getElem?_eq_none (l := intsN n fun i => if i = j then x else f i) (by rw [intsN_len]; omega), intsN_len]
    split
    · rw [if_neg (by omega)]
    · rfl
/-- the board at a: what its parts hold; S hides it -/
structure Brd (K : PySem.W.Frag) (S : List Addr) (a : BA) (m n : Nat) (T : Tab) (H : Hp) (lg : Addr) (vv : V) (rows has : List V) : Prop where
  nd : a.S.Nodup
  sub : ∀ x ∈ a.S, x ∈ S
  th : There S H
  ins : H a.p = some (.ins (He.ga K "Board") a.dx (bfs n a.lf a.lb a.lr a.lh lg vv))
  free : H a.lf = some (.lst (intsN n T.F))
  basic : H a.lb = some (.lst (intsN m T.B))
  hrows : H a.lr = some (.lst rows)
  hhas : H a.lh = some (.lst has)
  drows : DpAll K (hid S H) rows ((List.range m).map fun i => lfn n (T.A i))
  dhas : DpAll K (hid S H) has ((List.range m).map fun i => fr (T.b i))
  dgains : Dp K (hid S H) (.ref lg) (lfn n T.c)
  dval : Dp K (hid S H) vv (fr T.v)
section
variable {K : PySem.W.Frag} {S : List Addr} {a : BA} {m n : Nat} {T : Tab} {H H' : Hp} {lg : Addr} {vv : V} {rows has : List V}
theorem Brd.p (B : Brd K S a m n T H lg vv rows has) : a.p ∈ S := B.sub _ (by simp [BA.S])
theorem Brd.lf (B : Brd K S a m n T H lg vv rows has) : a.lf ∈ S := B.sub _ (by simp [BA.S])
theorem Brd.lb (B : Brd K S a m n T H lg vv rows has) : a.lb ∈ S := B.sub _ (by simp [BA.S])
theorem Brd.lr (B : Brd K S a m n T H lg vv rows has) : a.lr ∈ S := B.sub _ (by simp [BA.S])
theorem Brd.lh (B : Brd K S a m n T H lg vv rows has) : a.lh ∈ S := B.sub _ (by simp [BA.S])
theorem Brd.ne (B : Brd K S a m n T H lg vv rows has) : a.p ≠ a.lf ∧ a.p ≠ a.lb ∧ a.p ≠ a.lr ∧ a.p ≠ a.lh ∧ a.lf ≠ a.lb ∧ a.lf ≠ a.lr ∧ a.lf ≠ a.lh ∧ a.lb ≠ a.lr ∧ a.lb ≠ a.lh ∧ a.lr ≠ a.lh := by
  have h := B.nd
  simp only [BA.S, List.nodup_cons, List.mem_cons, List.not_mem_nil, or_false, not_or] at h
  obtain ⟨⟨h1, h2, h3, h4⟩, ⟨h5, h6, h7⟩, ⟨h8, h9⟩, h10, _⟩ := h
  exact ⟨h1, h2, h3, h4, h5, h6, h7, h8, h9, h10⟩
theorem Brd.same (B : Brd K S a m n T H lg vv rows has) (s : Same H H') : Brd K S a m n T H' lg vv rows has where
  nd := B.nd
  sub := B.sub
  th := B.th.same s
  ins := s _ _ B.ins
  free := s _ _ B.free
  basic := s _ _ B.basic
  hrows := s _ _ B.hrows
  hhas := s _ _ B.hhas
  drows := B.drows.hs s
  dhas := B.dhas.hs s
  dgains := B.dgains.hs s
  dval := B.dval.hs s
theorem Brd.sqB (B : Brd K S a m n T H lg vv rows has) : SqL K H a.lb (intsN m T.B) := SqL.of B.basic
theorem Brd.sqF (B : Brd K S a m n T H lg vv rows has) : SqL K H a.lf (intsN n T.F) := SqL.of B.free
theorem Brd.sqR (B : Brd K S a m n T H lg vv rows has) : SqL K H a.lr rows := SqL.of B.hrows
theorem Brd.sqH (B : Brd K S a m n T H lg vv rows has) : SqL K H a.lh has := SqL.of B.hhas
theorem Brd.lrows (B : Brd K S a m n T H lg vv rows has) : rows.length = m := by have := B.drows.length; rw [List.length_map, List.length_range] at this; exact this
theorem Brd.lhas (B : Brd K S a m n T H lg vv rows has) : has.length = m := by have := B.dhas.length; rw [List.length_map, List.length_range] at this; exact this
/-- row i -/
theorem Brd.row (B : Brd K S a m n T H lg vv rows has) {i : Nat} (hi : i < m) : ∃ (x : Addr) (es : List V), rows[i]? = some (.ref x) ∧ SqL K (hid S H) x es ∧ es.length = n ∧ DpAll K (hid S H) es ((List.range n).map fun j => fr (T.A i j)) := by
  obtain ⟨v, e, d⟩ := B.drows.at (range_at (f := fun i => lfn n (T.A i)) hi)
  obtain ⟨x, es, rfl, h1, h2⟩ := dpl d
  exact ⟨x, es, e, h1, by have := h2.length; rw [List.length_map, List.length_range] at this; exact this, h2⟩
/-- an entry -/
theorem ent_at {es : List V} {f : Nat → Rat} {j : Nat} (d : DpAll K (hid S H) es ((List.range n).map fun j => fr (f j))) (hj : j < n) : ∃ v, es[j]? = some v ∧ Dp K (hid S H) v (fr (f j)) := d.at (range_at (f := fun j => fr (f j)) hj)
theorem fr_num {v : V} {q : Rat} (d : Dp K (hid S H) v (fr q)) : ∃ x, v = .ref x ∧ SqT K (hid S H) x [.int q.num, .int (q.den : Int)] := dp_fr d
theorem range_set {β : Type} {n r : Nat} {x : β} {f g : Nat → β} (hr : g r = x) (h : ∀ i, i < n → i ≠ r → g i = f i) : ((List.range n).map f).set r x = (List.range n).map g := by
  refine List.ext_getElem? fun i => ?_
  rw [List.getElem?_set]
  by_cases hi : i < n
  · rw [range_at hi, range_at hi, List.length_map, List.length_range]
    by_cases e : r = i
    · subst e; rw [if_pos rfl, if_pos hi, hr]
    · rw [if_neg e, h i hi (Ne.symm e)]
  · rw [List.getElem?_eq_none (l := (List.range n).map f) (by simp; omega), List.getElem?_eq_none (l := (List.range n).map g) (by simp; omega), List.length_map, List.length_range]
    split
    · rw [if_neg (by omega)]
    · rfl
/-- has[r] = v -/
theorem Brd.setH (B : Brd K S a m n T H lg vv rows has) {r : Nat} {v : V} {q : Rat} (d : Dp K (hid S H) v (fr q)) : Brd K S a m n { T with b := fun i => if i = r then q else T.b i } (upd H a.lh (.lst (has.set r v))) lg vv rows (has.set r v) := by
  obtain ⟨h1, h2, h3, h4, h5, h6, h7, h8, h9, h10⟩ := B.ne
  have e : hid S (upd H a.lh (.lst (has.set r v))) = hid S H := hid_upd_in B.lh
  refine ⟨(B.nd), (B.sub), (B.th.upd), (by rw [upd_ne h4]; exact B.ins), (by rw [upd_ne h7]; exact B.free), (by rw [upd_ne h9]; exact B.basic), (by rw [upd_ne h10]; exact B.hrows), (upd_same), (by rw [e]; exact B.drows), (by
      rw [e]
      have := B.dhas.set r d
      rw [range_set (g := fun i => fr (if i = r then q else T.b i)) (by show fr (if r = r then q else T.b r) = _; rw [if_pos rfl]) (fun i _ q => by show fr (if i = r then _ else _) = _; rw [if_neg q])] at this
      exact this), (by rw [e]; exact B.dgains), (by rw [e]; exact B.dval)⟩
/-- rows[r] = v -/
theorem Brd.setR (B : Brd K S a m n T H lg vv rows has) {r : Nat} {v : V} {f : Nat → Rat} (d : Dp K (hid S H) v (lfn n f)) : Brd K S a m n { T with A := fun i => if i = r then f else T.A i } (upd H a.lr (.lst (rows.set r v))) lg vv (rows.set r v) has := by
  obtain ⟨h1, h2, h3, h4, h5, h6, h7, h8, h9, h10⟩ := B.ne
  have e : hid S (upd H a.lr (.lst (rows.set r v))) = hid S H := hid_upd_in B.lr
  refine ⟨(B.nd), (B.sub), (B.th.upd), (by rw [upd_ne h3]; exact B.ins), (by rw [upd_ne h6]; exact B.free), (by rw [upd_ne h8]; exact B.basic), (upd_same), (by rw [upd_ne (Ne.symm h10)]; exact B.hhas), (by
      rw [e]
      have := B.drows.set r d
      rw [range_set (g := fun i => lfn n ((fun i => if i = r then f else T.A i) i)) (by show lfn n (if r = r then f else T.A r) = _; rw [if_pos rfl]) (fun i _ q => by show lfn n (if i = r then _ else _) = _; rw [if_neg q])] at this
      exact this), (by rw [e]; exact B.dhas), (by rw [e]; exact B.dgains), (by rw [e]; exact B.dval)⟩
/-- self.value = v -/
theorem Brd.setV (B : Brd K S a m n T H lg vv rows has) {v : V} {q : Rat} (d : Dp K (hid S H) v (fr q)) : Brd K S a m n { T with v := q } (upd H a.p (.ins (He.ga K "Board") a.dx (bfs n a.lf a.lb a.lr a.lh lg v))) lg v rows has := by
  obtain ⟨h1, h2, h3, h4, h5, h6, h7, h8, h9, h10⟩ := B.ne
  have e : hid S (upd H a.p (.ins (He.ga K "Board") a.dx (bfs n a.lf a.lb a.lr a.lh lg v))) = hid S H := hid_upd_in B.p
  refine ⟨(B.nd), (B.sub), (B.th.upd), (upd_same), (by rw [upd_ne (Ne.symm h1)]; exact B.free), (by rw [upd_ne (Ne.symm h2)]; exact B.basic), (by rw [upd_ne (Ne.symm h3)]; exact B.hrows), (by rw [upd_ne (Ne.symm h4)]; exact B.hhas), (by rw [e]; exact B.drows), (by rw [e]; exact B.dhas), (by rw [e]; exact B.dgains), (by rw [e]; exact d)⟩
/-- self.gains = v -/
theorem Brd.setG (B : Brd K S a m n T H lg vv rows has) {l : Addr} {f : Nat → Rat} (d : Dp K (hid S H) (.ref l) (lfn n f)) : Brd K S a m n { T with c := f } (upd H a.p (.ins (He.ga K "Board") a.dx (bfs n a.lf a.lb a.lr a.lh l vv))) l vv rows has := by
  obtain ⟨h1, h2, h3, h4, h5, h6, h7, h8, h9, h10⟩ := B.ne
  have e : hid S (upd H a.p (.ins (He.ga K "Board") a.dx (bfs n a.lf a.lb a.lr a.lh l vv))) = hid S H := hid_upd_in B.p
  refine ⟨(B.nd), (B.sub), (B.th.upd), (upd_same), (by rw [upd_ne (Ne.symm h1)]; exact B.free), (by rw [upd_ne (Ne.symm h2)]; exact B.basic), (by rw [upd_ne (Ne.symm h3)]; exact B.hrows), (by rw [upd_ne (Ne.symm h4)]; exact B.hhas), (by rw [e]; exact B.drows), (by rw [e]; exact B.dhas), (by rw [e]; exact d), (by rw [e]; exact B.dval)⟩
/-- basic[r], free[c] = x, y -/
theorem Brd.setBF (B : Brd K S a m n T H lg vv rows has) {r c x y : Nat} : Brd K S a m n { T with B := fun i => if i = r then x else T.B i, F := fun j => if j = c then y else T.F j } (upd (upd H a.lb (.lst ((intsN m T.B).set r (.int x)))) a.lf (.lst ((intsN n T.F).set c (.int y)))) lg vv rows has := by
  obtain ⟨h1, h2, h3, h4, h5, h6, h7, h8, h9, h10⟩ := B.ne
  have e : hid S (upd (upd H a.lb (.lst ((intsN m T.B).set r (.int x)))) a.lf (.lst ((intsN n T.F).set c (.int y)))) = hid S H := by rw [hid_upd_in B.lf, hid_upd_in B.lb]
  refine ⟨(B.nd), (B.sub), (B.th.upd.upd), (by rw [upd_ne h1, upd_ne h2]; exact B.ins), (by rw [upd_same, intsN_set]), (by rw [upd_ne (Ne.symm h5), upd_same, intsN_set]), (by rw [upd_ne (Ne.symm h6), upd_ne (Ne.symm h8)]; exact B.hrows), (by rw [upd_ne (Ne.symm h7), upd_ne (Ne.symm h9)]; exact B.hhas), (by rw [e]; exact B.drows), (by rw [e]; exact B.dhas), (by rw [e]; exact B.dgains), (by rw [e]; exact B.dval)⟩
end
/-! ### methods -/
structure MCal (P : Program) (w : World) (K : PySem.W.Frag) (mg : Str → Option Value) (base : Heap) (k : Nat) (x : Str) (ps : List Str) (sp : Sp) : Prop where
  ex : ∃ fd, FnOk P w K mg base CX0 k (He.ma K (He.ga K "Board") x) fd ps sp ∧ Binds K fd ps []
  cls : Cls K (He.ga K "Board")
  m : Meth K (He.ga K "Board") x (He.ma K (He.ga K "Board") x)
section
variable {P : Program} {w : World} {K : PySem.W.Frag} {mg : Str → Option Value} {base : Heap}
theorem mcal_mk {x q : Str} {N ps : List Str} {st : Stmt} {k : Nat} {sp : Sp} (F : ∃ fd, FunD K x q (defArgs st) (defBody st) (defScope st) [] [] (He.ma K (He.ga K "Board") x) fd) (cls : Cls K (He.ga K "Board")) (m : Meth K (He.ga K "Board") x (He.ma K (He.ga K "Board") x)) (S : FnScope N ps (defScope st))
    (hb : ∀ (kV doc pm : Value) (an : Option Addr) (cdv ct : Value) (us : List Value), us.length = ps.length → bindArgs (PySem.W.fnOf x q (defArgs st) (defBody st) (defScope st) .none kV doc pm an cdv ct) ⟨us, []⟩ = pure (ps.zip us))
    (len : ∀ vs H Q E, sp vs H Q E → vs.length = ps.length)
    (hbody : ∀ (cdv : Value) (A : Around) (outer : List Env) (s : Shared) (H : Hp) (vs : List V) (Q : VK) (E : XK), Room k (A.deeper (envOfC q (defScope st) s.heap.objs.size (He.ma K (He.ga K "Board") x) cdv)) → sp vs H Q E →
      ∃ t, PSs (cxOf CX0 P w K mg base N q (defScope st) (He.ma K (He.ga K "Board") x) cdv A outer s H E).nox (defBody st) t ∧ t { nx := fun _ H' => Q .non H', rt := Q } (L2.start N vs) H) : MCal P w K mg base (k + 1) x ps sp := by
  obtain ⟨fd, F⟩ := F
  refine ⟨⟨fd, F.ok S len fun cdv A outer s H vs Q E hr h => ?_, F.bindsN hb⟩, cls, m⟩
  obtain ⟨t, h1, h2⟩ := hbody cdv A outer s H vs Q E hr h
  exact ⟨t, h1.nox, h2⟩
end
section
variable {X : Cx} {k : Nat} {m : Str} {ps : List Str} {sp : Sp} {apos pos : Pos} {e o : Expr} {es : List Expr} {ta : TE} {t : TA}
theorem pe_mcal {pl : Sem Bool} (C : MCal X.prog X.w X.K X.mg X.base k m ps sp) (he : PE X o ta) (hr : Room k X.A) (ha : PA X (e :: es) t)
    (hst : starEach (e :: es) X.env = (false, eval e X.env) :: starEach es X.env := by rfl) (hpl : (backTo pos (starEach es X.env)).any (·.1) = false := by rfl)
    (ht : eval (.Call (.Attribute o m apos) (e :: es) [] pos) X.env = (do
      let ov ← eval o X.env
      standAt apos.atName
      let (f, first) ← holding [ov] (getMethod ov m pl)
      callWith pos f first (backTo pos (starEach (e :: es) X.env)) (backToKw pos (keywordEach [] X.env))) := by rfl) :
    PE X (.Call (.Attribute o m apos) (e :: es) [] pos) (tMeth (He.ga X.K "Board") m sp [] E0 ta t) := by
  obtain ⟨fd, F, b⟩ := C.ex
  exact pe_meth he C.cls C.m F hr b .nil pass0 ha hst hpl ht
theorem pe_mcal0 {pl : Sem Bool} (C : MCal X.prog X.w X.K X.mg X.base k m ps sp) (he : PE X o ta) (hr : Room k X.A)
    (ht : eval (.Call (.Attribute o m apos) [] [] pos) X.env = (do
      let ov ← eval o X.env
      standAt apos.atName
      let (f, first) ← holding [ov] (getMethod ov m pl)
      callWith pos f first (backTo pos (starEach [] X.env)) (backToKw pos (keywordEach [] X.env))) := by rfl) :
    PE X (.Call (.Attribute o m apos) [] [] pos) (tMeth (He.ga X.K "Board") m sp [] E0 ta tNil) := by
  obtain ⟨fd, F, b⟩ := C.ex
  exact pe_meth0 he C.cls C.m F hr b .nil pass0 ht
theorem pe_fldK (K : PySem.W.Frag) {f : Str} (he : PE X o ta) (hb : attributeBase o f X.env (eval o X.env) = eval o X.env := by rfl) (h : X.K = K := by rfl) : PE X (.Attribute o f pos) (tFld K ta f) := by subst h; exact pe_fld he hb
end
end K31
namespace K31
open PySem PySem.Spec PyProof.Rows L2
section
variable {P : Program} {w : World} {K : PySem.W.Frag} {mg : Str → Option Value} {base : Heap}
/-- a value that was there before D is not at D -/
theorem dp_past {H H' : Hp} {S : List Addr} {v : V} {d : PyData} {D : Addr} (h : Dp K (hid S H) v d) (hD : H D = none) (s : Same H H') : Dp K (hid (D :: S) H') v d := h.same fun b o e => by
  obtain ⟨h5, h6⟩ := hid_of e
  rw [hid_out fun q => ?_]
  · exact s _ _ h6
  · rcases List.mem_cons.mp q with q | q
    · rw [q, hD] at h6; cases h6
    · exact h5 q
theorem dpAll_past {H H' : Hp} {S : List Addr} {vs : List V} {ds : List PyData} {D : Addr} (h : DpAll K (hid S H) vs ds) (hD : H D = none) (s : Same H H') : DpAll K (hid (D :: S) H') vs ds := h.same fun b o e => by
  obtain ⟨h5, h6⟩ := hid_of e
  rw [hid_out fun q => ?_]
  · exact s _ _ h6
  · rcases List.mem_cons.mp q with q | q
    · rw [q, hD] at h6; cases h6
    · exact h5 q
/-! reading the board -/
section
variable {S : List Addr} {a : BA} {m n : Nat} {U : Tab} {H : Hp} {lg : Addr} {vv : V} {rows has : List V} {σ : L2.St} {Q : VK} {k ki kj i j : Nat}
theorem rdRows (T : Txt K mg) (B : Brd K S a m n U H lg vv rows has) (hs : σ[k]? = some (some (.ref a.p))) (q : Q (.ref a.lr) H) : tFld K (tVar k) (Str.ofString "rows") σ H Q := ⟨_, hs, a.p, _, _, _, _, rfl, B.ins, T.cls, T.a_rows, bfs_rows .., q⟩
theorem rdHas (T : Txt K mg) (B : Brd K S a m n U H lg vv rows has) (hs : σ[k]? = some (some (.ref a.p))) (q : Q (.ref a.lh) H) : tFld K (tVar k) (Str.ofString "has") σ H Q := ⟨_, hs, a.p, _, _, _, _, rfl, B.ins, T.cls, T.a_has, bfs_has .., q⟩
theorem rdGains (T : Txt K mg) (B : Brd K S a m n U H lg vv rows has) (hs : σ[k]? = some (some (.ref a.p))) (q : Q (.ref lg) H) : tFld K (tVar k) (Str.ofString "gains") σ H Q := ⟨_, hs, a.p, _, _, _, _, rfl, B.ins, T.cls, T.a_gains, bfs_gains .., q⟩
theorem rdBasic (T : Txt K mg) (B : Brd K S a m n U H lg vv rows has) (hs : σ[k]? = some (some (.ref a.p))) (q : Q (.ref a.lb) H) : tFld K (tVar k) (Str.ofString "basic") σ H Q := ⟨_, hs, a.p, _, _, _, _, rfl, B.ins, T.cls, T.a_basic, bfs_basic .., q⟩
theorem rdFree (T : Txt K mg) (B : Brd K S a m n U H lg vv rows has) (hs : σ[k]? = some (some (.ref a.p))) (q : Q (.ref a.lf) H) : tFld K (tVar k) (Str.ofString "free") σ H Q := ⟨_, hs, a.p, _, _, _, _, rfl, B.ins, T.cls, T.a_free, bfs_free .., q⟩
theorem rdWide (T : Txt K mg) (B : Brd K S a m n U H lg vv rows has) (hs : σ[k]? = some (some (.ref a.p))) (q : Q (.int n) H) : tFld K (tVar k) (Str.ofString "wide") σ H Q := ⟨_, hs, a.p, _, _, _, _, rfl, B.ins, T.cls, T.a_wide, bfs_wide .., q⟩
theorem rdValue (T : Txt K mg) (B : Brd K S a m n U H lg vv rows has) (hs : σ[k]? = some (some (.ref a.p))) (q : Q vv H) : tFld K (tVar k) (Str.ofString "value") σ H Q := ⟨_, hs, a.p, _, _, _, _, rfl, B.ins, T.cls, T.a_value, bfs_value .., q⟩
theorem rdRow (T : Txt K mg) (B : Brd K S a m n U H lg vv rows has) (hi : i < m) (hs : σ[k]? = some (some (.ref a.p))) (hki : σ[ki]? = some (some (.int i)))
    (q : ∀ x es, rows[i]? = some (.ref x) → SqL K (hid S H) x es → es.length = n → DpAll K (hid S H) es ((List.range n).map fun j => fr (U.A i j)) → Q (.ref x) H) : tOp (rIxL K) (tFld K (tVar k) (Str.ofString "rows")) (tVar ki) σ H Q := by
  obtain ⟨x, es, e1, e2, e3, e4⟩ := B.row hi
  exact rdRows T B hs ⟨_, hki, _, _, _, _, rfl, rfl, B.sqR, atI_nat e1, q x es e1 e2 e3 e4⟩
theorem rdA (T : Txt K mg) (B : Brd K S a m n U H lg vv rows has) (hi : i < m) (hj : j < n) (hs : σ[k]? = some (some (.ref a.p))) (hki : σ[ki]? = some (some (.int i))) (hkj : σ[kj]? = some (some (.int j)))
    (q : ∀ v, Dp K (hid S H) v (fr (U.A i j)) → Q v H) : tOp (rIxL K) (tOp (rIxL K) (tFld K (tVar k) (Str.ofString "rows")) (tVar ki)) (tVar kj) σ H Q := by
  refine rdRow T B hi hs hki fun x es e1 e2 e3 e4 => ?_
  obtain ⟨v, h1, h2⟩ := ent_at e4 hj
  exact ⟨_, hkj, _, _, _, _, rfl, rfl, hid_le.seq e2, atI_nat h1, q v h2⟩
theorem rdH (T : Txt K mg) (B : Brd K S a m n U H lg vv rows has) (hi : i < m) (hs : σ[k]? = some (some (.ref a.p))) (hki : σ[ki]? = some (some (.int i)))
    (q : ∀ v, Dp K (hid S H) v (fr (U.b i)) → Q v H) : tOp (rIxL K) (tFld K (tVar k) (Str.ofString "has")) (tVar ki) σ H Q := by
  obtain ⟨v, e, d⟩ := B.dhas.at (range_at (f := fun i => fr (U.b i)) hi)
  exact rdHas T B hs ⟨_, hki, _, _, _, _, rfl, rfl, B.sqH, atI_nat e, q v d⟩
theorem rdC (T : Txt K mg) (B : Brd K S a m n U H lg vv rows has) (hj : j < n) (hs : σ[k]? = some (some (.ref a.p))) (hkj : σ[kj]? = some (some (.int j)))
    (q : ∀ v, Dp K (hid S H) v (fr (U.c j)) → Q v H) : tOp (rIxL K) (tFld K (tVar k) (Str.ofString "gains")) (tVar kj) σ H Q := by
  obtain ⟨x, xs, e, h1, h2⟩ := dpl B.dgains
  cases e
  obtain ⟨v, h3, h4⟩ := ent_at h2 hj
  exact rdGains T B hs ⟨_, hkj, _, _, _, _, rfl, rfl, hid_le.seq h1, atI_nat h3, q v h4⟩
theorem rdB (T : Txt K mg) (B : Brd K S a m n U H lg vv rows has) (hi : i < m) (hs : σ[k]? = some (some (.ref a.p))) (hki : σ[ki]? = some (some (.int i)))
    (q : Q (.int (U.B i)) H) : tOp (rIxL K) (tFld K (tVar k) (Str.ofString "basic")) (tVar ki) σ H Q := rdBasic T B hs ⟨_, hki, _, _, _, _, rfl, rfl, B.sqB, atI_nat (intsN_at hi), q⟩
theorem rdF (T : Txt K mg) (B : Brd K S a m n U H lg vv rows has) (hj : j < n) (hs : σ[k]? = some (some (.ref a.p))) (hkj : σ[kj]? = some (some (.int j)))
    (q : Q (.int (U.F j)) H) : tOp (rIxL K) (tFld K (tVar k) (Str.ofString "free")) (tVar kj) σ H Q := rdFree T B hs ⟨_, hkj, _, _, _, _, rfl, rfl, B.sqF, atI_nat (intsN_at hj), q⟩
end
theorem ixN_nat' {n j : Nat} (hj : j < n) : ixN n (j : Int) = some j := by
  unfold ixN
  rw [if_pos (by omega), if_pos (by omega)]
  simp
theorem Brd.past {S : List Addr} {a : BA} {m n : Nat} {U : Tab} {H H' : Hp} {lg : Addr} {vv : V} {rows has : List V} {D : Addr} {o : HO} (B : Brd K S a m n U H lg vv rows has) (hD : H D = none) (s : Same H H') (h : H' D = some o) (nt : ∀ ps, o ≠ .tbl ps := by intro _ q; cases q) : Brd K (D :: S) a m n U H' lg vv rows has where
  nd := B.nd
  sub := fun x h => List.mem_cons_of_mem _ (B.sub x h)
  th := .cons h (B.th.same s) nt
  ins := s _ _ B.ins
  free := s _ _ B.free
  basic := s _ _ B.basic
  hrows := s _ _ B.hrows
  hhas := s _ _ B.hhas
  drows := dpAll_past B.drows hD s
  dhas := dpAll_past B.dhas hD s
  dgains := dp_past B.dgains hD s
  dval := dp_past B.dval hD s
def lesOf (U : Tab) (r c : Nat) (e : Nat → Rat) (q : Rat) (j : Nat) : Rat := if j = c then 0 - q * U.A r c else e j - q * U.A r j
def spLess (K : PySem.W.Frag) : Sp := fun vs H Q _ => ∃ (S : List Addr) (a : BA) (m n r c k : Nat) (U : Tab) (lg : Addr) (vv : V) (rows has : List V) (e : Nat → Rat) (q : Rat) (ve vq : V), vs = [.ref a.p, ve, .int r, .int c, vq] ∧ Brd K S a m n U H lg vv rows has ∧ r < m ∧ c < n ∧ n ≤ 8 ∧ m ≤ 8 ∧
  Dp K (hid S H) ve (lfn n e) ∧ Dp K (hid S H) vq (fr q) ∧ Sz k q ∧ (∀ j, j < n → Sz k (e j)) ∧ (∀ j, j < n → Sz k (U.A r j)) ∧ 3 * k ≤ 9000 ∧ 1 ≤ k ∧
  ∀ H' l, Same H H' → Dp K (hid S H') (.ref l) (lfn n (lesOf U r c e q)) → Q (.ref l) H'
theorem sz0 : Sz 1 (0 : Rat) := ⟨by decide, by decide⟩
abbrev N_less : List Str := ["self", "entries", "row", "column", "share", "found", "entry", "other"]
theorem sc_less : FnScope N_less ["self", "entries", "row", "column", "share"] (defScope m_less) := ⟨rfl, rfl, rfl, by decide +kernel, rfl, by decide +kernel, by decide +kernel⟩
theorem c_m_less (T : Txt K mg) : MCal P w K mg base 4 "less" ["self", "entries", "row", "column", "share"] (spLess K) := by
  refine mcal_mk T.F_m_less T.cls T.m_less sc_less (fun _ _ _ _ _ _ us hl => match us, hl with | [_, _, _, _, _], _ => rfl) (fun vs H Q E ⟨S, a, m, n, r, c, k, U, lg, vv, rows, has, e, q, ve, vq, h, _⟩ => by rw [h]; rfl) fun cdv A outer s H vs Q E hr ⟨S, a, m, n, r, c, k, U, lg, vv, rows, has, e, q, ve, vq, h1, B, hrm, hcn, hn, hm, de, dq, zq, ze, zU, hk, k1, kq⟩ => ?_
  subst h1
  obtain ⟨le, xs, rfl, hxs, dxs⟩ := dpl de
  have lxs := lfn_len dxs
  refine ⟨_, (pss_cons (ps_setLc (i := 5) (own := [("entry", 6), ("other", 7)]) rfl sc_less.nd rfl rfl (sw_true rfl rfl rfl (by decide +kernel)) (pi_zipK K T.f_zip (pa_cons (pv 1) (pa_cons (pe_ix (ix_listK K) (pe_fldK K (pv 0)) (pv 2) (fun _ _ => rfl)) pa_nil))) (blkOk_by (own := [("entry", 6), ("other", 7)]) (by kernel_rfl)) (fun _ _ _ _ _ => (pg_tupK (n := 2) K rfl (pgs_cons (pgn 6 sc_less.nd) (pgs_cons (pgn 7 sc_less.nd) pgs_nil)))) (fun _ _ _ _ _ => pts_nil) (fun _ _ _ _ _ => (pe_cal (c_minus T) (hr.mono (by decide)) (pa_cons (pv 6) (pa_cons (pe_cal (c_times T) (hr.mono (by decide)) (pa_cons (pv 4) (pa_cons (pv 7) pa_nil))) pa_nil)))))
 (pss_cons (ps_asg (pe_cal (c_minus T) (hr.mono (by decide)) (pa_cons (pe_glob (v := .ref (He.ga K "NOUGHT")) rfl T.g_NOUGHT rfl) (pa_cons (pe_cal (c_times T) (hr.mono (by decide)) (pa_cons (pv 4) (pa_cons (pe_ix (ix_listK K) (pe_ix (ix_listK K) (pe_fldK K (pv 0)) (pv 2) (fun _ _ => rfl)) (pv 3) (fun _ _ => rfl)) pa_nil))) pa_nil))) (pg_sub (pv 5) (pv 3) set_list))
 (pss_one (ps_ret (pv 5))))), ?_⟩
  refine ⟨_, rfl, ?_⟩
  refine rdRow T B hrm rfl rfl fun rx es hrx hes les des => ?_
  refine ⟨le, rx, xs, es, rfl, hid_le.seq hxs, hid_le.seq hes, fun D hD => ?_⟩
  have dS : D ∉ S := B.th.new hD
  refine lc_data (K := K) (walk_zip (n := n) (by rw [lxs, les, Nat.min_self])) S (fun j => fr (e j - q * U.A r j)) hD (by omega) B.th (fun H2 s2 => ⟨(hid_le.trans s2).seq hxs, (hid_le.trans s2).seq hes⟩) ?_ ?_
  · rintro i y H2 H3 hi s2 th ⟨Tp, x, z, rfl, hT, rfl, ex, ez⟩
    have sT : Same H2 (upd H2 Tp (.tup [x, z])) := Same.new hT
    refine ⟨sT, fun Q' hQ => ?_⟩
    have ex : xs[i]? = some x := ex
    have ez : es[i]? = some z := ez
    obtain ⟨x', hx', dx⟩ := ent_at dxs hi
    rw [ex] at hx'
    cases hx'
    obtain ⟨z', hz', dz⟩ := ent_at des hi
    rw [ez] at hz'
    cases hz'
    refine ⟨Tp, _, rfl, SqT.of upd_same, rfl, _, _, rfl, _, _, rfl, rfl, rfl, ?_⟩
    refine ⟨_, rfl, _, rfl, _, rfl, D :: S, _, _, th.same sT, .cons (dp_past dq hD (s2.trans sT)) (.cons (dp_past dz hD (s2.trans sT)) .nil), ⟨_, _, k, k, rfl, zq, zU i hi, by omega, rfl⟩, fun H5 v5 s5 d5 => ?_⟩
    refine ⟨D :: S, _, _, (th.same sT).same s5, .cons ((dp_past dx hD (s2.trans sT)).hs s5) (.cons d5 .nil), ⟨_, _, k, k + k, rfl, ze i hi, sz_mul zq (zU i hi), by omega, rfl⟩, fun H6 v6 s6 d6 => ?_⟩
    exact hQ _ _ (s5.trans s6) d6
  · intro H2 s2 ⟨acc, hacc, dacc⟩ d2
    have B2 := B.past hD s2 hacc
    refine ⟨_, rfl, ?_⟩
    refine rdA T B2 hrm hcn rfl rfl rfl fun x dx => ?_
    refine ⟨D :: S, _, _, B2.th, .cons (dp_past dq hD s2) (.cons dx .nil), ⟨_, _, k, k, rfl, zq, zU c hcn, by omega, rfl⟩, fun H5 v5 s5 d5 => ?_⟩
    refine ⟨D :: S, _, _, B2.th.same s5, .cons (nought_dp T) (.cons d5 .nil), ⟨_, _, 1, k + k, rfl, sz0, sz_mul zq (zU c hcn), by omega, rfl⟩, fun H6 v6 s6 d6 => ?_⟩
    have s56 := s5.trans s6
    have e6 : hid (D :: S) (upd H6 D (.lst (acc.set c v6))) = hid (D :: S) H6 := hid_upd_in (List.mem_cons_self ..)
    refine ⟨_, rfl, _, rfl, D, acc, c, c, rfl, rfl, s56 _ _ hacc, ixN_nat' (by have := lfn_len dacc; omega), _, rfl, ?_⟩
    have d7 := (dacc.hs s56).set c d6
    refine kq _ D ((s2.trans s56).put hD) (.lst (xs := acc.set c v6) (SqL.of ?_) ?_)
    · rw [hid_out dS, upd_same]
    · rw [range_set (g := fun j => fr (lesOf U r c e q j)) (by show fr (if c = c then _ else _) = _; rw [if_pos rfl]) (fun j _ hne => by show fr (if j = c then _ else _) = _; rw [if_neg hne])] at d7
      rw [← e6] at d7
      exact d7.same hid_cons
end
end K31
namespace K31
open PySem PySem.Spec PyProof.Rows L2
structure TSz (k m n : Nat) (T : Tab) : Prop where
  A : ∀ i j, i < m → j < n → Sz k (T.A i j)
  b : ∀ i, i < m → Sz k (T.b i)
  c : ∀ j, j < n → Sz k (T.c j)
  v : Sz k T.v
theorem lfn_congr {n : Nat} {f g : Nat → Rat} (h : ∀ j, j < n → f j = g j) : lfn n f = lfn n g := by
  unfold lfn
  congr 1
  exact List.map_congr_left fun i hi => by rw [h i (List.mem_range.mp hi)]
theorem intsN_congr {n : Nat} {f g : Nat → Nat} (h : ∀ j, j < n → f j = g j) : intsN n f = intsN n g := by
  unfold intsN
  exact List.map_congr_left fun i hi => by rw [h i (List.mem_range.mp hi)]
structure TEq (m n : Nat) (T U : Tab) : Prop where
  A : ∀ i j, i < m → j < n → T.A i j = U.A i j
  b : ∀ i, i < m → T.b i = U.b i
  c : ∀ j, j < n → T.c j = U.c j
  v : T.v = U.v
  B : ∀ i, i < m → T.B i = U.B i
  F : ∀ j, j < n → T.F j = U.F j
section
variable {P : Program} {w : World} {K : PySem.W.Frag} {mg : Str → Option Value} {base : Heap}
section
variable {S : List Addr} {a : BA} {m n : Nat} {T U : Tab} {H H' : Hp} {lg : Addr} {vv : V} {rows has : List V}
theorem Brd.congr (B : Brd K S a m n T H lg vv rows has) (e : TEq m n T U) : Brd K S a m n U H lg vv rows has where
  nd := B.nd
  sub := B.sub
  th := B.th
  ins := B.ins
  free := by rw [← intsN_congr e.F]; exact B.free
  basic := by rw [← intsN_congr e.B]; exact B.basic
  hrows := B.hrows
  hhas := B.hhas
  drows := by
    rw [← List.map_congr_left (f := fun i => lfn n (T.A i)) fun i hi => lfn_congr fun j hj => e.A i j (List.mem_range.mp hi) hj]
    exact B.drows
  dhas := by
    rw [← List.map_congr_left (f := fun i => fr (T.b i)) fun i hi => by rw [e.b i (List.mem_range.mp hi)]]
    exact B.dhas
  dgains := by rw [← lfn_congr e.c]; exact B.dgains
  dval := by rw [← e.v]; exact B.dval
theorem bM {p : Prop} [Decidable p] (h : ¬ p) : V.bl (!decide p) = V.bl true := by rw [decide_eq_false h]; rfl
theorem gSub_i {to ti : TE} {t : TSet} {v : V} {σ : L2.St} {H : Hp} {Q : L2.St → Hp → Prop} (h : to σ H fun o H1 => ti σ H1 fun i H2 => t o i v H2 fun H3 => Q σ H3) : gSub to ti t v σ H Q := h
theorem tOp_i {rd : V → V → Hp → VK → Prop} {ta tb : TE} {σ : L2.St} {H : Hp} {Q : VK} (h : ta σ H fun x H1 => tb σ H1 fun y H2 => rd x y H2 Q) : tOp rd ta tb σ H Q := h
theorem sFld_i {ta tv : TE} {f : Str} {D : Ends} {σ : L2.St} {H : Hp} (h : tv σ H fun y H1 => ta σ H1 fun x H2 => ∃ a C dx fs, x = .ref a ∧ H2 a = some (.ins C dx fs) ∧ Cls K C ∧ NoAttr K C f ∧ fs.length < 1000 ∧ D.nx σ (upd H2 a (.ins C dx (putF f y fs)))) : sFld K ta tv f D σ H := h
theorem tCall_i {sp : Sp} {dvs : List V} {E : XK} {t : TA} {σ : L2.St} {H : Hp} {Q : VK} (h : t σ H fun vs H1 => sp (vs ++ dvs) H1 Q E) : tCall sp dvs E t σ H Q := h
theorem tCons_i {t : TE} {ts : TA} {σ : L2.St} {H : Hp} {Q : List V → Hp → Prop} (h : t σ H fun x H1 => ts σ H1 fun xs H2 => Q (x :: xs) H2) : tCons t ts σ H Q := h
/-- what a.S hides may change -/
theorem same_up {S R : List Addr} {H H' : Hp} (s : Same (hid S H) (hid S H')) (h : ∀ x ∈ S, x ∈ R) : Same (hid R H) (hid R H') := fun b o e => by
  obtain ⟨h1, h2⟩ := hid_of e
  have h3 : b ∉ S := fun q => h1 (h b q)
  have := s b o (by rw [hid_out h3]; exact h2)
  rw [hid_out h3] at this
  rw [hid_out h1]
  exact this
theorem same_at {S : List Addr} {H H' : Hp} {b : Addr} {o : HO} (s : Same (hid S H) (hid S H')) (h : b ∉ S) (e : H b = some o) : H' b = some o := by
  have := s b o (by rw [hid_out h]; exact e)
  rwa [hid_out h] at this
theorem Brd.newRow {H4 : Hp} {D : Addr} {o : HO} {acc' : List V} {r : Nat} {f : Nat → Rat} (B : Brd K S a m n T H lg vv rows has) (hD : H D = none) (s : Same H H4) (hacc : H4 D = some o) (nt : ∀ ps, o ≠ .tbl ps) (d : DpAll K (hid (D :: S) H4) acc' ((List.range n).map fun j => fr (f j))) :
    Brd K S a m n { T with A := fun i => if i = r then f else T.A i } (upd (upd H4 a.lr (.lst (rows.set r (.ref D)))) D (.lst acc')) lg vv (rows.set r (.ref D)) has := by
  have dS : D ∉ S := B.th.new hD
  have C := B.past hD s hacc nt
  obtain ⟨h1, h2, h3, h4, h5, h6, h7, h8, h9, h10⟩ := B.ne
  have e : hid (D :: S) (upd (upd H4 a.lr (.lst (rows.set r (.ref D)))) D (.lst acc')) = hid (D :: S) H4 := by rw [hid_upd_in (List.mem_cons_self ..), hid_upd_in C.lr]
  have up : Same (hid (D :: S) H4) (hid S (upd (upd H4 a.lr (.lst (rows.set r (.ref D)))) D (.lst acc'))) := by rw [← e]; exact hid_cons
  have nD : ∀ x ∈ S, x ≠ D := fun x h q => dS (q ▸ h)
  refine ⟨B.nd, B.sub, (B.th.same s).upd.upd, (by rw [upd_ne (nD _ B.p), upd_ne h3]; exact C.ins), (by rw [upd_ne (nD _ B.lf), upd_ne h6]; exact C.free), (by rw [upd_ne (nD _ B.lb), upd_ne h8]; exact C.basic), (by rw [upd_ne (nD _ B.lr), upd_same]), (by rw [upd_ne (nD _ B.lh), upd_ne (Ne.symm h10)]; exact C.hhas), ?_, C.dhas.same up, C.dgains.same up, C.dval.same up⟩
  have := (C.drows.same up).set r (show Dp K (hid S (upd (upd H4 a.lr (.lst (rows.set r (.ref D)))) D (.lst acc'))) (.ref D) (lfn n f) from .lst (SqL.of (by rw [hid_out dS, upd_same])) (d.same up))
  rw [range_set (g := fun i => lfn n ((fun i => if i = r then f else T.A i) i)) (by show lfn n (if r = r then f else T.A r) = _; rw [if_pos rfl]) (fun i _ q => by show lfn n (if i = r then _ else _) = _; rw [if_neg q])] at this
  exact this
/-- the turn of a row and of so many others -/
def midT (T : Tab) (r c t : Nat) : Tab := { T with
  A := fun i => if i = r then T.rowA r c else if i < t then T.les r c (T.A i) (T.A i c) else T.A i
  b := fun i => if i = r then T.rowB r c else if i < t then T.b i - T.A i c * T.rowB r c else T.b i }
def spTurn (K : PySem.W.Frag) : Sp := fun vs H Q _ => ∃ (S : List Addr) (a : BA) (m n r c k : Nat) (T : Tab) (lg : Addr) (vv : V) (rows has : List V), vs = [.ref a.p, .int r, .int c] ∧ Brd K S a m n T H lg vv rows has ∧ r < m ∧ c < n ∧ n ≤ 8 ∧ m ≤ 8 ∧
  T.A r c ≠ 0 ∧ TSz k m n T ∧ TSz k m n (T.turn r c) ∧ 3 * k ≤ 9000 ∧ 1 ≤ k ∧
  ∀ H' lg' vv' rows' has', Brd K S a m n (T.turn r c) H' lg' vv' rows' has' → Same (hid a.S H) (hid a.S H') → Q .non H'
abbrev N_turn : List Str := ["self", "row", "column", "pivot", "entry", "i", "share"]
theorem sc_turn : FnScope N_turn ["self", "row", "column"] (defScope m_turn) := ⟨rfl, rfl, rfl, by decide +kernel, rfl, by decide +kernel, by decide +kernel⟩
theorem c_m_turn (T : Txt K mg) : MCal P w K mg base 5 "turn" ["self", "row", "column"] (spTurn K) := by
  refine mcal_mk T.F_m_turn T.cls T.m_turn sc_turn (fun _ _ _ _ _ _ us hl => match us, hl with | [_, _, _], _ => rfl) (fun vs H Q E ⟨S, a, m, n, r, c, k, U, lg, vv, rows, has, h, _⟩ => by rw [h]; rfl) fun cdv A outer s H vs Q E hr ⟨S, a, m, n, r, c, k, U, lg, vv, rows, has, h1, B, hrm, hcn, hn, hm, h0, zT, zU, hk, k1, kq⟩ => ?_
  subst h1
  refine ⟨_, (pss_cons (sset 3 sc_turn.nd (pe_cal (c_divided T) (hr.mono (by decide)) (pa_cons (pe_glob (v := .ref (He.ga K "ONE")) rfl T.g_ONE rfl) (pa_cons (pe_ix (ix_listK K) (pe_ix (ix_listK K) (pe_fldK K (pv 0)) (pv 1) (fun _ _ => rfl)) (pv 2) (fun _ _ => rfl)) pa_nil))))
 (pss_cons (ps_asg (pe_cal (c_times T) (hr.mono (by decide)) (pa_cons (pe_ix (ix_listK K) (pe_fldK K (pv 0)) (pv 1) (fun _ _ => rfl)) (pa_cons (pv 3) pa_nil))) (pg_sub (pe_fldK K (pv 0)) (pv 1) set_list))
 (pss_cons (ps_asg (pe_lc (own := [("entry", 4)]) rfl sc_turn.nd (pi_listK K (pe_ix (ix_listK K) (pe_fldK K (pv 0)) (pv 1) (fun _ _ => rfl))) (blkOk_by (own := [("entry", 4)]) (by kernel_rfl)) (fun _ _ _ _ _ => (pgn 4 sc_turn.nd)) (fun _ _ _ _ _ => pts_nil) (fun _ _ _ _ _ => (pe_cal (c_times T) (hr.mono (by decide)) (pa_cons (pv 4) (pa_cons (pv 3) pa_nil))))) (pg_sub (pe_fldK K (pv 0)) (pv 1) set_list))
 (pss_cons (ps_asg (pv 3) (pg_sub (pe_ix (ix_listK K) (pe_fldK K (pv 0)) (pv 1) (fun _ _ => rfl)) (pv 2) set_list))
 (pss_cons (ps_for PassesOwn.never rfl (pi_range1 rfl T.f_range (pa_cons (pe_callB (lenK K) (by rfl) T.f_len (by decide +kernel) (pa_cons (pe_fldK K (pv 0)) pa_nil)) pa_nil)) (pgn 5 sc_turn.nd)
  (pss_one (ps_if (pt_cmpR op_ne (pv 5) (pv 1) (nomark _))
  (pss_cons (sset 6 sc_turn.nd (pe_ix (ix_listK K) (pe_ix (ix_listK K) (pe_fldK K (pv 0)) (pv 5) (fun _ _ => rfl)) (pv 2) (fun _ _ => rfl)))
 (pss_cons (ps_asg (pe_cal (c_minus T) (hr.mono (by decide)) (pa_cons (pe_ix (ix_listK K) (pe_fldK K (pv 0)) (pv 5) (fun _ _ => rfl)) (pa_cons (pe_cal (c_times T) (hr.mono (by decide)) (pa_cons (pv 6) (pa_cons (pe_ix (ix_listK K) (pe_fldK K (pv 0)) (pv 1) (fun _ _ => rfl)) pa_nil))) pa_nil))) (pg_sub (pe_fldK K (pv 0)) (pv 5) set_list))
 (pss_one (ps_asg (pe_mcal (c_m_less T) (pv 0) (hr.mono (by decide)) (pa_cons (pe_ix (ix_listK K) (pe_fldK K (pv 0)) (pv 5) (fun _ _ => rfl)) (pa_cons (pv 1) (pa_cons (pv 2) (pa_cons (pv 6) pa_nil))))) (pg_sub (pe_fldK K (pv 0)) (pv 5) set_list)))))
  pss_nil)))
 (pss_cons (sset 6 sc_turn.nd (pe_ix (ix_listK K) (pe_fldK K (pv 0)) (pv 2) (fun _ _ => rfl)))
 (pss_cons (ps_fld (pv 0) (pe_cal (c_plus T) (hr.mono (by decide)) (pa_cons (pe_fldK K (pv 0)) (pa_cons (pe_cal (c_times T) (hr.mono (by decide)) (pa_cons (pv 6) (pa_cons (pe_ix (ix_listK K) (pe_fldK K (pv 0)) (pv 1) (fun _ _ => rfl)) pa_nil))) pa_nil))) rfl)
 (pss_cons (ps_fld (pv 0) (pe_mcal (c_m_less T) (pv 0) (hr.mono (by decide)) (pa_cons (pe_fldK K (pv 0)) (pa_cons (pv 1) (pa_cons (pv 2) (pa_cons (pv 6) pa_nil))))) rfl)
 (pss_one (ps_asg (pe_tup (pa_cons (pe_ix (ix_listK K) (pe_fldK K (pv 0)) (pv 2) (fun _ _ => rfl)) (pa_cons (pe_ix (ix_listK K) (pe_fldK K (pv 0)) (pv 1) (fun _ _ => rfl)) pa_nil))) (pg_tupK (n := 2) K rfl (pgs_cons (pg_sub (pe_fldK K (pv 0)) (pv 1) set_list) (pgs_cons (pg_sub (pe_fldK K (pv 0)) (pv 2) set_list) pgs_nil))))))))))))), ?_⟩
  -- pivot
  refine rdA T B hrm hcn rfl rfl rfl fun x dx => ?_
  refine ⟨S, _, _, B.th, .cons (one_dp T) (.cons dx .nil), ⟨_, _, 1, k, rfl, ⟨by decide, by decide⟩, zT.A r c hrm hcn, by omega, h0, rfl⟩, fun H1 v1 s1 d1 => ?_⟩
  have B1 := B.same s1
  -- has[row]
  refine rdH T B1 hrm rfl rfl fun x2 dx2 => ?_
  refine ⟨_, rfl, S, _, _, B1.th, .cons dx2 (.cons d1 .nil), ⟨_, _, k, k + 1, rfl, zT.b r hrm, ?_, by omega, rfl⟩, fun H2 v2 s2 d2 => ?_⟩
  · have := zU.A r c hrm hcn
    rw [show (U.turn r c).A r c = 1 / U.A r c by show (if r = r then U.rowA r c else _) c = _; rw [if_pos rfl]; exact if_pos rfl] at this
    exact sz_mono this (by omega)
  have szp : Sz k (1 / U.A r c) := by
    have := zU.A r c hrm hcn
    rwa [show (U.turn r c).A r c = 1 / U.A r c by show (if r = r then U.rowA r c else _) c = _; rw [if_pos rfl]; exact if_pos rfl] at this
  have zrA : ∀ j, j < n → Sz k (U.rowA r c j) := fun j hj => by
    have := zU.A r j hrm hj
    rwa [show (U.turn r c).A r = U.rowA r c from if_pos rfl] at this
  have zrB : Sz k (U.rowB r c) := by
    have := zU.b r hrm
    rwa [show (U.turn r c).b r = U.rowB r c from if_pos rfl] at this
  have B2 := B1.same s2
  refine rdHas T B2 rfl ?_
  refine ⟨_, rfl, _, _, _, r, rfl, rfl, B2.hhas, ixN_nat' (by rw [B2.lhas]; exact hrm), ?_⟩
  have B3 := B2.setH (r := r) d2
  have d13 := d1.hs s2
  have e3 : hid S (upd H2 a.lh (.lst (has.set r v2))) = hid S H2 := hid_upd_in B.lh
  rw [← e3] at d13
  -- rows[row]
  refine rdRow T B3 hrm rfl rfl fun rx es hrx hes les des => ?_
  refine ⟨rx, rfl, ⟨es, hid_le.seq hes⟩, fun D hD => ?_⟩
  have dS : D ∉ S := B3.th.new hD
  refine lc_data (K := K) (walk_list (xs := es)) S (fun j => fr (U.A r j * (1 / U.A r c))) hD (by omega) B3.th (fun H4 s4 => (hid_le.trans s4).seq hes) ?_ ?_
  · rintro i y H4 H5 hi s4 th ⟨rfl, hy⟩
    refine ⟨Same.refl _, fun Q' hQ => ⟨rfl, ?_⟩⟩
    rw [les] at hi
    obtain ⟨y', hy', dy⟩ := ent_at des hi
    rw [hy] at hy'
    cases hy'
    exact ⟨_, rfl, _, rfl, D :: S, _, _, th, .cons (dp_past dy hD s4) (.cons (dp_past d13 hD s4) .nil), ⟨_, _, k, k, rfl, zT.A r i hrm hi, szp, by omega, rfl⟩, fun H6 v6 s6 d6 => hQ _ _ s6 d6⟩
  rw [les]
  intro H4 s4 ⟨acc, hacc, dacc⟩ d4
  have B4 := B3.same s4
  refine rdRows T B4 rfl ?_
  refine ⟨_, rfl, _, _, _, r, rfl, rfl, B4.hrows, ixN_nat' (by rw [B4.lrows]; exact hrm), ?_⟩
  have B5 := B4.setR (r := r) d4
  -- rows[row][column]
  refine ⟨_, rfl, ?_⟩
  refine gSub_i (tOp_i (rdRows T B5 rfl ?_))
  refine ⟨_, rfl, _, _, _, _, rfl, rfl, B5.sqR, atI_nat (v := .ref D) (List.getElem?_set_self (by rw [B4.lrows]; exact hrm)), ?_⟩
  have hDr : D ≠ a.lr := fun e => dS (e ▸ B.lr)
  refine ⟨_, rfl, D, acc, c, c, rfl, rfl, (by rw [upd_ne hDr]; exact hacc), ixN_nat' (by rw [lfn_len dacc]; exact hcn), ?_⟩
  have B6 := B3.newRow (r := r) (f := U.rowA r c) hD s4 hacc (fun _ q => nomatch q) (acc' := acc.set c v1) (by
    have := dacc.set c (dp_past d13 hD s4)
    rw [range_set (g := fun j => fr (U.rowA r c j)) (by show fr (if c = c then _ else _) = _; rw [if_pos rfl]) (fun j _ hne => by show fr (if j = c then _ else _) = _; rw [if_neg hne])] at this
    exact this)
  have S6 : Same (hid a.S H) (hid a.S (upd (upd H4 a.lr (.lst (rows.set r (.ref D)))) D (.lst (acc.set c v1)))) := by
    refine (same_hid (s1.trans s2)).trans ?_
    rw [← hid_upd_in (S := a.S) (H := H2) (a := a.lh) (o := .lst (has.set r v2)) (by simp [BA.S])]
    intro b o e
    obtain ⟨h1, h2⟩ := hid_of e
    rw [hid_out h1, upd_ne (ne_of_none h2 hD), upd_ne fun q => h1 (by rw [q]; simp [BA.S])]
    exact s4 _ _ h2
  have d16 : Dp K (hid S (upd (upd H4 a.lr (.lst (rows.set r (.ref D)))) D (.lst (acc.set c v1)))) v1 (fr (1 / U.A r c)) := by
    have e6 : hid (D :: S) (upd (upd H4 a.lr (.lst (rows.set r (.ref D)))) D (.lst (acc.set c v1))) = hid (D :: S) H4 := by rw [hid_upd_in (List.mem_cons_self ..), hid_upd_in (List.mem_cons_of_mem _ B.lr)]
    have := dp_past d13 hD s4
    rw [← e6] at this
    exact this.same hid_cons
  clear hes des dx dx2 d13 d4 d1 d2 e3
  refine rdRows T B6 rfl ?_
  refine ⟨_, _, rfl, .inl B6.sqR, _, rfl, by omega, by rw [B6.lrows]; omega, ?_⟩
  rw [B6.lrows, Int.toNat_natCast]
  refine for_it walk_range (fun i σ H' => ∃ o4 o5 o6, σ = [some (.ref a.p), some (.int r), some (.int c), some v1, o4, o5, o6] ∧ ∃ lg vv rows has, Brd K S a m n (midT U r c i) H' lg vv rows has ∧ Same (hid a.S H) (hid a.S H')) ⟨_, _, _, rfl, _, _, _, _, B6.congr ⟨fun i j _ _ => rfl, fun i _ => rfl, fun _ _ => rfl, rfl, fun _ _ => rfl, fun _ _ => rfl⟩, S6⟩ (fun _ _ _ _ _ => trivial) ?_ ?_
  · rintro i x σ H7 H8 hi ⟨o4, o5, o6, rfl, lg, vv, rows, has, B7, S7⟩ ⟨rfl, rfl⟩
    have z0 : (fun i : Nat => V.int (0 + (i : Int))) i = V.int i := by show V.int (0 + (i : Int)) = _; rw [Int.zero_add]
    rw [z0]
    refine ⟨_, rfl, _, rfl, rfl, ?_⟩
    by_cases hir : i = r
    · refine ⟨false, bN (by rw [hir]), iteF ?_⟩
      refine ⟨_, _, _, rfl, _, _, _, _, B7.congr ⟨fun t j _ _ => ?_, fun t _ => ?_, fun _ _ => rfl, rfl, fun _ _ => rfl, fun _ _ => rfl⟩, S7⟩
      · show (if t = r then U.rowA r c else if t < i then U.les r c (U.A t) (U.A t c) else U.A t) j = (if t = r then U.rowA r c else if t < i + 1 then U.les r c (U.A t) (U.A t c) else U.A t) j
        by_cases h : t = r
        · rw [if_pos h, if_pos h]
        · rw [if_neg h, if_neg h]
          by_cases h2 : t < i
          · rw [if_pos h2, if_pos (by omega)]
          · rw [if_neg h2, if_neg (by omega)]
      · show (if t = r then _ else if t < i then _ else _) = (if t = r then _ else if t < i + 1 then _ else _ : Rat)
        by_cases h : t = r
        · rw [if_pos h, if_pos h]
        · rw [if_neg h, if_neg h]
          by_cases h2 : t < i
          · rw [if_pos h2, if_pos (by omega)]
          · rw [if_neg h2, if_neg (by omega)]
    refine ⟨true, bM (fun e => hir (by injection e with e; omega)), iteT ?_⟩
    have eA : (midT U r c i).A i = U.A i := by show (if i = r then _ else if i < i then _ else _) = _; rw [if_neg hir, if_neg (by omega)]
    have eb : (midT U r c i).b i = U.b i := by show (if i = r then _ else if i < i then _ else _) = _; rw [if_neg hir, if_neg (by omega)]
    have rA : (midT U r c i).A r = U.rowA r c := if_pos rfl
    have rb : (midT U r c i).b r = U.rowB r c := if_pos rfl
    refine rdA T B7 hi hcn rfl rfl rfl fun x dx => ?_
    rw [eA] at dx
    refine rdH T B7 hi rfl rfl fun x2 dx2 => ?_
    rw [eb] at dx2
    refine ⟨_, rfl, ?_⟩
    refine rdH T B7 hrm rfl rfl fun x3 dx3 => ?_
    rw [rb] at dx3
    refine ⟨S, _, _, B7.th, .cons dx (.cons dx3 .nil), ⟨_, _, k, k, rfl, zT.A i c hi hcn, zrB, by omega, rfl⟩, fun H9 v9 s9 d9 => ?_⟩
    refine ⟨S, _, _, B7.th.same s9, .cons (dx2.hs s9) (.cons d9 .nil), ⟨_, _, k, k + k, rfl, zT.b i hi, sz_mul (zT.A i c hi hcn) zrB, by omega, rfl⟩, fun H10 v10 s10 d10 => ?_⟩
    have B10 := B7.same (s9.trans s10)
    have dx' := dx.hs (s9.trans s10)
    refine rdHas T B10 rfl ?_
    refine ⟨_, rfl, _, _, _, i, rfl, rfl, B10.hhas, ixN_nat' (by rw [B10.lhas]; exact hi), ?_⟩
    have B11 := B10.setH (r := i) d10
    rw [← hid_upd_in (S := S) (H := H10) (a := a.lh) (o := .lst (has.set i v10)) B.lh] at dx'
    refine ⟨_, rfl, a.p, _, _, rfl, B11.ins, bfs_less .., ?_⟩
    refine rdRow T B11 hi rfl rfl fun rx es hrx hes les des => ?_
    have B11r : Dp K (hid S (upd H10 a.lh (.lst (has.set i v10)))) (.ref rx) (lfn n (U.A i)) := by
      rw [← eA]
      exact .lst hes des
    refine ⟨_, rfl, _, rfl, _, rfl, S, a, m, n, r, c, k, _, lg, vv, _, _, U.A i, U.A i c, _, _, rfl, B11, hrm, hcn, hn, hm, B11r, dx', zT.A i c hi hcn, fun j hj => zT.A i j hi hj, fun j hj => ?_, hk, k1, fun H12 l s12 d12 => ?_⟩
    · rw [show (midT U r c i).A r = U.rowA r c from rA]
      exact zrA j hj
    have B12 := B11.same s12
    refine rdRows T B12 rfl ?_
    refine ⟨_, rfl, _, _, _, i, rfl, rfl, B12.hrows, ixN_nat' (by rw [B12.lrows]; exact hi), ?_⟩
    refine ⟨_, _, _, rfl, _, _, _, _, (B12.setR (r := i) d12).congr ⟨fun t j _ _ => ?_, fun t _ => ?_, fun _ _ => rfl, rfl, fun _ _ => rfl, fun _ _ => rfl⟩, ?_⟩
    · show (if t = i then lesOf _ r c (U.A i) (U.A i c) else if t = r then U.rowA r c else if t < i then U.les r c (U.A t) (U.A t c) else U.A t) j = (if t = r then U.rowA r c else if t < i + 1 then U.les r c (U.A t) (U.A t c) else U.A t) j
      by_cases h : t = i
      · rw [if_pos h, h, if_neg hir, if_pos (by omega)]
        show (if j = c then 0 - U.A i c * (midT U r c i).A r c else U.A i j - U.A i c * (midT U r c i).A r j) = _
        rw [rA]
        rfl
      · rw [if_neg h]
        by_cases h3 : t = r
        · rw [if_pos h3, if_pos h3]
        · rw [if_neg h3, if_neg h3]
          by_cases h2 : t < i
          · rw [if_pos h2, if_pos (by omega)]
          · rw [if_neg h2, if_neg (by omega)]
    · show (if t = i then U.b i - U.A i c * U.rowB r c else if t = r then _ else if t < i then _ else _) = (if t = r then _ else if t < i + 1 then _ else _ : Rat)
      by_cases h : t = i
      · rw [if_pos h, h, if_neg hir, if_pos (by omega)]
      · rw [if_neg h]
        by_cases h3 : t = r
        · rw [if_pos h3, if_pos h3]
        · rw [if_neg h3, if_neg h3]
          by_cases h2 : t < i
          · rw [if_pos h2, if_pos (by omega)]
          · rw [if_neg h2, if_neg (by omega)]
    · refine S7.trans ((same_hid (s9.trans s10)).trans ?_)
      rw [hid_upd_in (show a.lr ∈ a.S by simp [BA.S]), ← hid_upd_in (S := a.S) (H := H10) (a := a.lh) (o := .lst (has.set i v10)) (by simp [BA.S])]
      exact same_hid s12
  · rintro σ H7 ⟨o4, o5, o6, rfl, lg, vv, rows, has, B7, S7⟩
    have rb : (midT U r c m).b r = U.rowB r c := if_pos rfl
    have rA : (midT U r c m).A r = U.rowA r c := if_pos rfl
    refine rdC T B7 hcn rfl rfl fun x dx => ?_
    refine sFld_i (tCall_i (tCons_i (rdValue T B7 rfl ?_)))
    refine ⟨_, rfl, ?_⟩
    refine rdH T B7 hrm rfl rfl fun x3 dx3 => ?_
    rw [rb] at dx3
    refine ⟨S, _, _, B7.th, .cons dx (.cons dx3 .nil), ⟨_, _, k, k, rfl, zT.c c hcn, zrB, by omega, rfl⟩, fun H9 v9 s9 d9 => ?_⟩
    refine ⟨S, _, _, B7.th.same s9, .cons (B7.dval.hs s9) (.cons d9 .nil), ⟨_, _, k, k + k, rfl, zT.v, sz_mul (zT.c c hcn) zrB, by omega, rfl⟩, fun H10 v10 s10 d10 => ?_⟩
    have B10 := B7.same (s9.trans s10)
    have dx' := dx.hs (s9.trans s10)
    refine ⟨_, rfl, a.p, _, _, _, rfl, B10.ins, T.cls, T.a_value, bfs_len .., ?_⟩
    rw [bfs_setv]
    have B11 := B10.setV d10
    rw [← hid_upd_in (S := S) (H := H10) (a := a.p) (o := .ins (He.ga K "Board") a.dx (bfs n a.lf a.lb a.lr a.lh lg v10)) B.p] at dx'
    refine ⟨_, rfl, a.p, _, _, rfl, B11.ins, bfs_less .., ?_⟩
    refine rdGains T B11 rfl ?_
    refine ⟨_, rfl, _, rfl, _, rfl, S, a, m, n, r, c, k, _, lg, _, _, _, U.c, U.c c, _, _, rfl, B11, hrm, hcn, hn, hm, B11.dgains, dx', zT.c c hcn, fun j hj => zT.c j hj, fun j hj => ?_, hk, k1, fun H12 l s12 d12 => ?_⟩
    · rw [show (midT U r c m).A r = U.rowA r c from rA]
      exact zrA j hj
    have B12 := B11.same s12
    refine ⟨_, rfl, a.p, _, _, _, rfl, B12.ins, T.cls, T.a_gains, bfs_len .., ?_⟩
    rw [bfs_setg]
    have B13 := B12.setG d12
    refine rdF T B13 hcn rfl rfl ?_
    refine rdB T B13 hrm rfl rfl ?_
    refine ⟨by show 2 ≤ sizeLine; decide, fun p hp => ?_⟩
    have B14 := B13.same (Same.new (o := .tup [.int (U.F c), .int (U.B r)]) hp)
    obtain ⟨h1, h2, h3, h4, h5, h6, h7, h8, h9, h10⟩ := B14.ne
    refine ⟨p, _, rfl, SqT.of upd_same, rfl, _, _, rfl, ?_⟩
    refine gSub_i (rdBasic T B14 rfl ?_)
    refine ⟨_, rfl, _, _, _, r, rfl, rfl, B14.basic, ixN_nat' (by rw [intsN_len]; exact hrm), ?_⟩
    refine ⟨_, _, rfl, ?_⟩
    refine ⟨_, rfl, a.p, _, _, _, _, rfl, (by rw [upd_ne h2]; exact B14.ins), T.cls, T.a_free, bfs_free .., ?_⟩
    refine ⟨_, rfl, _, _, _, c, rfl, rfl, (by rw [upd_ne h5]; exact B14.free), ixN_nat' (by rw [intsN_len]; exact hcn), ?_⟩
    refine ⟨rfl, ?_⟩
    refine kq _ _ _ _ _ ((B14.setBF (r := r) (c := c) (x := U.F c) (y := U.B r)).congr ⟨fun i j hi _ => ?_, fun i hi => ?_, fun j _ => ?_, rfl, fun _ _ => rfl, fun _ _ => rfl⟩) ?_
    · show (if i = r then U.rowA r c else if i < m then U.les r c (U.A i) (U.A i c) else U.A i) j = (if i = r then U.rowA r c else U.les r c (U.A i) (U.A i c)) j
      rw [if_pos hi]
    · show (if i = r then U.rowB r c else if i < m then U.b i - U.A i c * U.rowB r c else U.b i) = (if i = r then U.rowB r c else U.b i - U.A i c * U.rowB r c)
      rw [if_pos hi]
    · show (if j = c then 0 - U.c c * (midT U r c m).A r c else U.c j - U.c c * (midT U r c m).A r j) = _
      rw [rA]
      rfl
    · refine S7.trans ((same_hid (s9.trans s10)).trans ?_)
      rw [hid_upd_in (show a.lf ∈ a.S by simp [BA.S]), hid_upd_in (show a.lb ∈ a.S by simp [BA.S])]
      refine Same.trans ?_ (same_hid (Same.new hp))
      rw [hid_upd_in (show a.p ∈ a.S by simp [BA.S]), ← hid_upd_in (S := a.S) (H := H10) (a := a.p) (o := .ins (He.ga K "Board") a.dx (bfs n a.lf a.lb a.lr a.lh lg v10)) (by simp [BA.S])]
      exact same_hid s12
end
end
end K31
namespace K31
open PySem PySem.Spec PyProof.Rows L2
section
variable {P : Program} {w : World} {K : PySem.W.Frag} {mg : Str → Option Value} {base : Heap}
theorem fr_eq (x y : Rat) : PyData.eqv (fr x) (fr y) = decide (x = y) := by
  by_cases h : x = y
  · rw [h, fr_eqv, decide_eq_true rfl]
  · rw [decide_eq_false h]
    show (x.num == y.num && ((x.den : Int) == (y.den : Int) && true)) = false
    by_cases h1 : x.num = y.num
    · have h2 : (x.den : Int) ≠ (y.den : Int) := fun e => h (Rat.ext h1 (by omega))
      rw [beq_eq_false_iff_ne.mpr h2]
      simp
    · rw [beq_eq_false_iff_ne.mpr h1]
      rfl
def natsV (ns : List Nat) : List V := ns.map fun i : Nat => V.int (i : Int)
theorem cut1 {i0 : Nat} {ms : List Nat} : cutV (natsV (i0 :: ms)) (some 1) none = natsV ms := by
  unfold cutV HT.sIx natsV
  simp
  exact List.take_of_length_le (by simp)
theorem tTest_i {t : TE} {σ : L2.St} {H : Hp} {Q : Bool → Hp → Prop} (h : t σ H fun x H' => ∃ k, x = .bl k ∧ Q k H') : tTest t σ H Q := h
/-- i before j by the rule of the climb -/
def leMet (T : Tab) (c j i : Nat) : Prop := T.b j / T.A j c < T.b i / T.A i c ∨ (T.b j / T.A j c = T.b i / T.A i c ∧ T.B j ≤ T.B i)
theorem leMet_refl (T : Tab) (c i : Nat) : leMet T c i i := .inr ⟨rfl, Nat.le_refl _⟩
theorem leMet_trans {T : Tab} {c i j l : Nat} (h : leMet T c i j) (g : leMet T c j l) : leMet T c i l := by
  unfold leMet at *
  rcases h with h | ⟨h1, h2⟩
  · rcases g with g | ⟨g1, g2⟩
    · exact .inl (by grind)
    · exact .inl (by rw [← g1]; exact h)
  · rcases g with g | ⟨g1, g2⟩
    · exact .inl (by rw [h1]; exact g)
    · exact .inr ⟨h1.trans g1, Nat.le_trans h2 g2⟩
def spMet (K : PySem.W.Frag) : Sp := fun vs H Q _ => ∃ (S : List Addr) (a : BA) (m n c k : Nat) (T : Tab) (lg : Addr) (vv : V) (rows has : List V) (l : Addr) (ns : List Nat), vs = [.ref a.p, .ref l, .int c] ∧ Brd K S a m n T H lg vv rows has ∧ c < n ∧ n ≤ 8 ∧ m ≤ 8 ∧ SqL K H l (natsV ns) ∧ ns ≠ [] ∧ ns.length ≤ 8 ∧
  (∀ i ∈ ns, i < m ∧ T.A i c ≠ 0) ∧ TSz k m n T ∧ 4 * k ≤ 20000 ∧ k + k ≤ 9000 ∧ ∀ H' r, Same H H' → r ∈ ns → (∀ i ∈ ns, leMet T c r i) → Q (.int (r : Nat)) H'
abbrev N_first_met : List Str := ["self", "rows", "column", "found", "i", "mine", "best"]
theorem sc_first_met : FnScope N_first_met ["self", "rows", "column"] (defScope m_first_met) := ⟨rfl, rfl, rfl, by decide +kernel, rfl, by decide +kernel, by decide +kernel⟩
theorem c_m_first_met (T : Txt K mg) : MCal P w K mg base 4 "first_met" ["self", "rows", "column"] (spMet K) := by
  refine mcal_mk T.F_m_first_met T.cls T.m_first_met sc_first_met (fun _ _ _ _ _ _ us hl => match us, hl with | [_, _, _], _ => rfl) (fun vs H Q E ⟨S, a, m, n, c, k, U, lg, vv, rows, has, l, ns, h, _⟩ => by rw [h]; rfl) fun cdv A outer s H vs Q E hr ⟨S, a, m, n, c, k, U, lg, vv, rows, has, l, ns, h1, B, hcn, hn, hm, hl, hne, h8, hns, zT, hk, hk2, kq⟩ => ?_
  subst h1
  obtain ⟨i0, ms, rfl⟩ : ∃ i0 ms, ns = i0 :: ms := by
    cases ns with
    | nil => exact absurd rfl hne
    | cons i0 ms => exact ⟨i0, ms, rfl⟩
  refine ⟨_, (pss_cons (sset 3 sc_first_met.nd (pe_ix (ix_listK K) (pv 1) pe_int (fun _ _ => rfl)))
 (pss_cons (ps_for PassesOwn.never rfl (pi_listK K (pe_slice sl_list (pv 1) (po_some pe_int) po_none)) (pgn 4 sc_first_met.nd)
  (pss_cons (sset 5 sc_first_met.nd (pe_cal (c_divided T) (hr.mono (by decide)) (pa_cons (pe_ix (ix_listK K) (pe_fldK K (pv 0)) (pv 4) (fun _ _ => rfl)) (pa_cons (pe_ix (ix_listK K) (pe_ix (ix_listK K) (pe_fldK K (pv 0)) (pv 4) (fun _ _ => rfl)) (pv 2) (fun _ _ => rfl)) pa_nil))))
 (pss_cons (sset 6 sc_first_met.nd (pe_cal (c_divided T) (hr.mono (by decide)) (pa_cons (pe_ix (ix_listK K) (pe_fldK K (pv 0)) (pv 3) (fun _ _ => rfl)) (pa_cons (pe_ix (ix_listK K) (pe_ix (ix_listK K) (pe_fldK K (pv 0)) (pv 3) (fun _ _ => rfl)) (pv 2) (fun _ _ => rfl)) pa_nil))))
 (pss_one (ps_if (PW.pt (pw_or (pt_val (pe_cal (c_under T) (hr.mono (by decide)) (pa_cons (pv 5) (pa_cons (pv 6) pa_nil)))) (pw_or1 (PW.pt (pw_and (pt_cmpR (op_eqD hr.units) (pv 5) (pv 6) (nomark _)) (pw_and1 (pt_cmpR op_lt (pe_ix (ix_listK K) (pe_fldK K (pv 0)) (pv 4) (fun _ _ => rfl)) (pe_ix (ix_listK K) (pe_fldK K (pv 0)) (pv 3) (fun _ _ => rfl)) (nomark _))))))))
  (pss_one (sset 3 sc_first_met.nd (pv 4)))
  pss_nil)))))
 (pss_one (ps_ret (pv 3))))), ?_⟩
  refine ⟨_, rfl, _, _, _, _, rfl, rfl, hl, atI_nat (j := 0) (v := .int i0) rfl, ?_⟩
  refine ⟨_, rfl, 1, rfl, l, _, rfl, hl, fun q hq => ?_⟩
  have sq : Same H (upd H q (.lst (cutV (natsV (i0 :: ms)) (some 1) none))) := Same.new hq
  rw [show cutV (natsV (i0 :: ms)) (some 1) none = natsV ms from cut1] at sq ⊢
  have hlm : (natsV ms).length = ms.length := by unfold natsV; rw [List.length_map]
  refine ⟨q, rfl, ⟨_, SqL.of upd_same⟩, for_it (walk_list (K := K) (a := q) (xs := natsV ms)) (fun i σ H' => Same (upd H q (.lst (natsV ms))) H' ∧ ∃ (f : Nat) (o4 o5 o6 : Option V), σ = [some (.ref a.p), some (.ref l), some (.int c), some (.int f), o4, o5, o6] ∧ f ∈ i0 :: ms ∧ leMet U c f i0 ∧ ∀ j, j < i → ∀ z, ms[j]? = some z → leMet U c f z) ⟨Same.refl _, i0, _, _, _, rfl, List.mem_cons_self .., leMet_refl .., fun j hj => absurd hj (Nat.not_lt_zero _)⟩ (fun i σ H' _ p => SqL.of (p.1 _ _ upd_same)) ?_ ?_⟩
  · rintro t x σ H1 H2 ht ⟨s1, f, o4, o5, o6, rfl, hf, hf0, hall⟩ ⟨rfl, hx⟩
    rw [hlm] at ht
    have hmt : ms[t]? = some ms[t] := List.getElem?_eq_getElem ht
    have : x = .int (ms[t] : Nat) := by
      have e : (natsV ms)[t]? = some (V.int (ms[t] : Nat)) := by unfold natsV; rw [List.getElem?_map, hmt]; rfl
      rw [e] at hx
      cases hx
      rfl
    subst this
    have hin : ms[t] ∈ i0 :: ms := List.mem_cons_of_mem _ (List.getElem_mem ht)
    generalize ms[t] = i at *
    obtain ⟨hi, hpi⟩ := hns i hin
    obtain ⟨hfm, hpf⟩ := hns f hf
    have B1 := B.same (sq.trans s1)
    refine rdH T B1 hi rfl rfl fun y1 d1 => ?_
    refine rdA T B1 hi hcn rfl rfl rfl fun y2 d2 => ?_
    refine ⟨S, _, _, B1.th, .cons d1 (.cons d2 .nil), ⟨_, _, k, k, rfl, zT.b i hi, zT.A i c hi hcn, hk2, hpi, rfl⟩, fun H3 v3 s3 d3 => ?_⟩
    have B3 := B1.same s3
    refine rdH T B3 hfm rfl rfl fun y1 d4 => ?_
    refine rdA T B3 hfm hcn rfl rfl rfl fun y2 d5 => ?_
    refine ⟨S, _, _, B3.th, .cons d4 (.cons d5 .nil), ⟨_, _, k, k, rfl, zT.b f hfm, zT.A f c hfm hcn, hk2, hpf, rfl⟩, fun H4 v4 s4 d6 => ?_⟩
    have d3' := d3.hs s4
    have B4 := B3.same s4
    refine ⟨_, rfl, _, rfl, S, _, _, B4.th, .cons d3' (.cons d6 .nil), ⟨_, _, k + k, k + k, rfl, sz_div (zT.b i hi) (zT.A i c hi hcn) hpi, sz_div (zT.b f hfm) (zT.A f c hfm hcn) hpf, by omega, rfl⟩, fun H5 v5 s5 d7 => ?_⟩
    cases dp_bl d7
    have B5 := B4.same s5
    have sN : Same (upd H q (.lst (natsV ms))) H5 := s1.trans (s3.trans (s4.trans s5))
    have take : leMet U c i f → ∀ j, j < t + 1 → ∀ z, ms[j]? = some z → leMet U c i z := fun g j hj z hz => by
      by_cases e : j < t
      · exact leMet_trans g (hall j e z hz)
      · have : j = t := by omega
        subst this
        rw [hmt] at hz
        cases hz
        exact leMet_refl ..
    have keep : leMet U c f i → ∀ j, j < t + 1 → ∀ z, ms[j]? = some z → leMet U c f z := fun g j hj z hz => by
      by_cases e : j < t
      · exact hall j e z hz
      · have : j = t := by omega
        subst this
        rw [hmt] at hz
        cases hz
        exact g
    by_cases hlt : U.b i / U.A i c < U.b f / U.A f c
    · rw [decide_eq_true hlt]
      refine ⟨true, rfl, iteT ?_⟩
      exact ⟨_, rfl, sN, i, _, _, _, rfl, hin, leMet_trans (.inl hlt) hf0, take (.inl hlt)⟩
    · rw [decide_eq_false hlt]
      refine ⟨false, rfl, iteF ?_⟩
      refine ⟨_, rfl, _, rfl, _, _, (d3'.hs s5).up, (d6.hs s5).up, fr_shaped _, fr_shaped _, ?_⟩
      rw [fr_eq]
      by_cases heq : U.b i / U.A i c = U.b f / U.A f c
      · rw [decide_eq_true heq]
        refine ⟨true, rfl, iteT ?_⟩
        refine tTest_i (tOp_i (rdB T B5 hi rfl rfl ?_))
        refine rdB T B5 hfm rfl rfl ?_
        refine ⟨_, _, rfl, rfl, ?_⟩
        by_cases hb : ((U.B i : Nat) : Int) < (U.B f : Nat)
        · refine ⟨true, bT hb, iteT ?_⟩
          have g : leMet U c i f := .inr ⟨heq, by omega⟩
          exact ⟨_, rfl, sN, i, _, _, _, rfl, hin, leMet_trans g hf0, take g⟩
        · refine ⟨false, bF hb, iteF ?_⟩
          exact ⟨sN, f, _, _, _, rfl, hf, hf0, keep (.inr ⟨heq.symm, by omega⟩)⟩
      · rw [decide_eq_false heq]
        refine ⟨false, rfl, iteF (iteF ?_)⟩
        exact ⟨sN, f, _, _, _, rfl, hf, hf0, keep (.inl (by grind))⟩
  · rintro σ H1 ⟨s1, f, o4, o5, o6, rfl, hf, hf0, hall⟩
    refine ⟨_, rfl, kq _ _ (sq.trans s1) hf fun i hi => ?_⟩
    rcases List.mem_cons.mp hi with e | e
    · rw [e]; exact hf0
    · obtain ⟨j, hj, ej⟩ := List.getElem_of_mem e
      exact hall j (by rw [hlm]; exact hj) i (by rw [← ej]; exact List.getElem?_eq_getElem hj)
end
end K31
namespace K31
open PySem PySem.Spec PyProof.Rows L2
section
variable {P : Program} {w : World} {K : PySem.W.Frag} {mg : Str → Option Value} {base : Heap}
def spSpread (K : PySem.W.Frag) : Sp := fun vs H Q _ => ∃ (S : List Addr) (x0 : V) (lp ln : Addr) (cnt first many : Nat) (lab : Nat → Nat) (val : Nat → Rat) (xs : List V), vs = [x0, .ref lp, .ref ln, .int first, .int many] ∧ There S H ∧ SqL K H lp (intsN cnt lab) ∧ SqL K H ln xs ∧
  DpAll K (hid S H) xs ((List.range cnt).map fun j => fr (val j)) ∧ cnt ≤ 8 ∧ many ≤ 8 ∧ (∀ i j, i < cnt → j < cnt → lab i = lab j → i = j) ∧
  ∀ H' l ys, Same H H' → H l = none → H' l = some (.lst ys) → DpAll K (hid (l :: S) H') ys ((List.range many).map fun k => fr (spd cnt lab val (first + k))) → Q (.ref l) H'
theorem rep_one {x : V} : ∀ n, (List.replicate n [x]).flatten = List.replicate n x
  | 0 => rfl
  | n + 1 => by rw [List.replicate_succ, List.flatten_cons, rep_one n, List.replicate_succ]; rfl
abbrev N_spread_out : List Str := ["self", "places", "numbers", "first", "many", "found", "place", "number"]
theorem sc_spread_out : FnScope N_spread_out ["self", "places", "numbers", "first", "many"] (defScope m_spread_out) := ⟨rfl, rfl, rfl, by decide +kernel, rfl, by decide +kernel, by decide +kernel⟩
theorem c_m_spread_out (T : Txt K mg) : MCal P w K mg base 1 "spread_out" ["self", "places", "numbers", "first", "many"] (spSpread K) := by
  refine mcal_mk T.F_m_spread_out T.cls T.m_spread_out sc_spread_out (fun _ _ _ _ _ _ us hl => match us, hl with | [_, _, _, _, _], _ => rfl) (fun vs H Q E ⟨S, x0, lp, ln, cnt, first, many, lab, val, xs, h, _⟩ => by rw [h]; rfl) fun cdv A outer s H vs Q E hr ⟨S, x0, lp, ln, cnt, first, many, lab, val, xs, h1, hS, hlp, hln, dxs, hcn, hmn, inj, kq⟩ => ?_
  subst h1
  refine ⟨_, (pss_cons (sset 5 sc_spread_out.nd (pe_op op_rep (pe_lst (pa_cons (pe_glob (v := .ref (He.ga K "NOUGHT")) rfl T.g_NOUGHT rfl) pa_nil)) (pv 4)))
 (pss_cons (ps_for PassesOwn.never rfl (pi_zipK K T.f_zip (pa_cons (pv 1) (pa_cons (pv 2) pa_nil))) (pg_tupK (n := 2) K rfl (pgs_cons (pgn 6 sc_spread_out.nd) (pgs_cons (pgn 7 sc_spread_out.nd) pgs_nil)))
  (pss_one (ps_if (pt_chain op_le op_lt (pv 3) (pv 6) (pe_op op_add (pv 3) (pv 4)))
  (pss_one (ps_asg (pv 7) (pg_sub (pv 5) (pe_op op_sub (pv 6) (pv 3)) set_list)))
  pss_nil)))
 (pss_one (ps_ret (pv 5))))), ?_⟩
  have lxs := lfn_len dxs
  refine ⟨by show 1 ≤ sizeLine; decide, fun p hp => ?_⟩
  have sp : Same H (upd H p (.lst [.ref (He.ga K "NOUGHT")])) := Same.new hp
  refine ⟨_, rfl, p, many, _, rfl, rfl, upd_same, by omega, by omega, (by show 1 * (many : Int).toNat ≤ sizeLine; rw [Int.toNat_natCast]; exact Nat.le_trans (show 1 * many ≤ 8 by omega) (by decide)), fun l hl => ?_⟩
  have hl0 : H l = none := by
    by_cases e : l = p
    · rw [e, upd_same] at hl; cases hl
    · rwa [upd_ne e] at hl
  have sl := sp.trans (Same.new (o := .lst (List.replicate (many : Int).toNat [V.ref (He.ga K "NOUGHT")]).flatten) hl)
  have lS : l ∉ S := hS.new hl0
  refine ⟨_, rfl, _, rfl, lp, ln, _, _, rfl, sl.seq hlp, sl.seq hln, ?_⟩
  refine for_it (walk_zip (n := cnt) (by rw [intsN_len, lxs, Nat.min_self])) (fun t σ H' => Same H H' ∧ ∃ (ys : List V) (o6 o7 : Option V), σ = [some x0, some (.ref lp), some (.ref ln), some (.int first), some (.int many), some (.ref l), o6, o7] ∧ H' l = some (.lst ys) ∧ DpAll K (hid (l :: S) H') ys ((List.range many).map fun k => fr (spd t lab val (first + k)))) ⟨sl, _, _, _, rfl, upd_same, ?_⟩ (fun t σ H' _ p => ⟨p.1.seq hlp, p.1.seq hln⟩) ?_ ?_
  · refine DpAll.of ?_ fun i d e => ?_
    · rw [Int.toNat_natCast]; simp
    · have hi : i < many := by
        by_cases q : i < many
        · exact q
        · rw [List.getElem?_eq_none (by simp; omega)] at e; cases e
      rw [range_at hi] at e
      cases e
      refine ⟨.ref (He.ga K "NOUGHT"), ?_, nought_dp T⟩
      rw [Int.toNat_natCast, rep_one, List.getElem?_replicate, if_pos hi]
  · rintro t x σ H1 H2 ht ⟨s1, ys, o6, o7, rfl, hy, dy⟩ ⟨Tp, x, z, rfl, hT, rfl, ex, ez⟩
    have sT : Same H1 (upd H1 Tp (.tup [x, z])) := Same.new hT
    have ex : (intsN cnt lab)[t]? = some x := ex
    have ez : xs[t]? = some z := ez
    rw [intsN_at ht] at ex
    cases ex
    obtain ⟨z', hz', dz⟩ := ent_at dxs ht
    rw [ez] at hz'
    cases hz'
    have hTl : l ≠ Tp := ne_of_none hy hT
    refine ⟨Tp, _, rfl, SqT.of upd_same, rfl, _, _, rfl, _, _, rfl, rfl, ?_⟩
    refine ⟨_, rfl, _, rfl, _, _, rfl, rfl, _, rfl, ?_⟩
    have dz2 : Dp K (hid (l :: S) (upd H1 Tp (.tup [.int (lab t), z]))) z (fr (val t)) := dp_past dz hl0 (s1.trans sT)
    have dy2 := dy.hs (S := l :: S) sT
    have hy2 : upd H1 Tp (.tup [.int (lab t), z]) l = some (.lst ys) := sT _ _ hy
    by_cases h1 : first ≤ lab t
    · rw [decide_eq_true (show (first : Int) ≤ (lab t : Int) by omega)]
      refine iteT ?_
      refine ⟨_, rfl, _, rfl, _, _, rfl, rfl, _, _, rfl, rfl, ?_⟩
      by_cases h2 : lab t < first + many
      · refine ⟨true, bT (by omega), iteT ?_⟩
        obtain ⟨k, hk⟩ : ∃ k, lab t = first + k := ⟨lab t - first, by omega⟩
        refine ⟨_, rfl, _, rfl, _, rfl, _, rfl, _, _, rfl, rfl, ?_⟩
        refine ⟨l, ys, _, k, rfl, rfl, hy2, by rw [show ((lab t : Nat) : Int) - (first : Int) = (k : Int) by omega]; exact ixN_nat' (by rw [lfn_len dy2]; omega), ?_⟩
        refine ⟨(s1.trans sT).put hl0, _, _, _, rfl, upd_same, ?_⟩
        rw [hid_upd_in (List.mem_cons_self ..)]
        have := dy2.set k dz2
        rw [range_set (g := fun k => fr (spd (t + 1) lab val (first + k))) ?_ fun j hj hne => ?_] at this
        · exact this
        · show fr (spd t lab val (first + k) + (if lab t = first + k then val t else 0)) = _
          rw [if_pos hk, show spd t lab val (first + k) = 0 from sm_zero fun j hj => if_neg fun e => by have := inj j t (by omega) ht (e.trans hk.symm); omega, Rat.zero_add]
        · show fr (spd t lab val (first + j) + (if lab t = first + j then val t else 0)) = _
          rw [if_neg (by omega), Rat.add_zero]
      · refine ⟨false, bF (by omega), iteF ?_⟩
        refine ⟨s1.trans sT, _, _, _, rfl, hy2, ?_⟩
        rw [← List.map_congr_left (f := fun k => fr (spd t lab val (first + k))) fun k hk => ?_]
        · exact dy2
        · have := List.mem_range.mp hk
          show _ = fr (spd t lab val (first + k) + (if lab t = first + k then val t else 0))
          rw [if_neg (by omega), Rat.add_zero]
    · rw [decide_eq_false (show ¬ (first : Int) ≤ (lab t : Int) by omega)]
      refine iteF ?_
      refine ⟨false, rfl, iteF ?_⟩
      refine ⟨s1.trans sT, _, _, _, rfl, hy2, ?_⟩
      rw [← List.map_congr_left (f := fun k => fr (spd t lab val (first + k))) fun k hk => ?_]
      · exact dy2
      · show _ = fr (spd t lab val (first + k) + (if lab t = first + k then val t else 0))
        rw [if_neg (by omega), Rat.add_zero]
  · rintro σ H1 ⟨s1, ys, o6, o7, rfl, hy, dy⟩
    exact ⟨_, rfl, kq _ _ _ s1 hl0 hy dy⟩
end
end K31
namespace K31
open PySem PySem.Spec PyProof.Rows L2
section
variable {P : Program} {w : World} {K : PySem.W.Frag} {mg : Str → Option Value} {base : Heap}
theorem tMeth_i {C : Addr} {m : Str} {sp : Sp} {dvs : List V} {E : XK} {ta : TE} {t : TA} {σ : L2.St} {H : Hp} {Q : VK} (h : ta σ H fun x H1 => ∃ a dx fs, x = .ref a ∧ H1 a = some (.ins C dx fs) ∧ fs.lookup m = none ∧ t σ H1 fun vs H2 => sp (x :: (vs ++ dvs)) H2 Q E) : tMeth C m sp dvs E ta t σ H Q := h
theorem tC_i {v : V} {σ : L2.St} {H : Hp} {Q : VK} (h : Q v H) : tC v σ H Q := h
/-- a list of fractions at an address that is not hidden -/
theorem lst_seen {S : List Addr} {H : Hp} {l : Addr} {ys : List V} {n : Nat} {f : Nat → Rat} (hS : l ∉ S) (h : H l = some (.lst ys)) (d : DpAll K (hid (l :: S) H) ys ((List.range n).map fun k => fr (f k))) : Dp K (hid S H) (.ref l) (lfn n f) := .lst (SqL.of (by rw [hid_out hS]; exact h)) (d.same hid_cons)
def spXs (K : PySem.W.Frag) : Sp := fun vs H Q _ => ∃ (S : List Addr) (a : BA) (m n : Nat) (T : Tab) (lg : Addr) (vv : V) (rows has : List V), vs = [.ref a.p] ∧ Brd K S a m n T H lg vv rows has ∧ n ≤ 8 ∧ m ≤ 8 ∧ Lab m n T ∧
  ∀ H' l, Same H H' → Dp K (hid S H') (.ref l) (lfn n (spd m T.B T.b)) → Q (.ref l) H'
abbrev N_xs : List Str := ["self"]
theorem sc_xs : FnScope N_xs ["self"] (defScope m_xs) := ⟨rfl, rfl, rfl, by decide +kernel, rfl, by decide +kernel, by decide +kernel⟩
theorem c_m_xs (T : Txt K mg) : MCal P w K mg base 2 "xs" ["self"] (spXs K) := by
  refine mcal_mk T.F_m_xs T.cls T.m_xs sc_xs (fun _ _ _ _ _ _ us hl => match us, hl with | [_], _ => rfl) (fun vs H Q E ⟨S, a, m, n, U, lg, vv, rows, has, h, _⟩ => by rw [h]; rfl) fun cdv A outer s H vs Q E hr ⟨S, a, m, n, U, lg, vv, rows, has, h1, B, hn, hm, L, kq⟩ => ?_
  subst h1
  refine ⟨_, (pss_one (ps_ret (pe_mcal (c_m_spread_out T) (pv 0) (hr.mono (by decide)) (pa_cons (pe_fldK K (pv 0)) (pa_cons (pe_fldK K (pv 0)) (pa_cons pe_int (pa_cons (pe_fldK K (pv 0)) pa_nil))))))), ?_⟩
  refine ⟨_, rfl, a.p, _, _, rfl, B.ins, bfs_spread .., ?_⟩
  refine tCons_i (rdBasic T B rfl ?_)
  refine tCons_i (rdHas T B rfl ?_)
  refine tCons_i (tC_i (tCons_i (rdWide T B rfl ?_)))
  refine ⟨S, _, a.lb, a.lh, m, 0, n, U.B, U.b, has, rfl, B.th, B.sqB, B.sqH, B.dhas, hm, hn, fun i j hi hj => L.bi i j hi hj, fun H' l ys s hl hy dy => kq _ _ s (lst_seen (B.th.new hl) hy ?_)⟩
  refine cast ?_ dy
  congr 1
  exact List.map_congr_left fun k _ => by rw [Nat.zero_add]
def spPrc (K : PySem.W.Frag) : Sp := fun vs H Q _ => ∃ (S : List Addr) (a : BA) (m n k : Nat) (T : Tab) (lg : Addr) (vv : V) (rows has : List V), vs = [.ref a.p] ∧ Brd K S a m n T H lg vv rows has ∧ n ≤ 8 ∧ m ≤ 8 ∧ Lab m n T ∧ TSz k m n T ∧ k ≤ 8000 ∧
  ∀ H' l, Same H H' → Dp K (hid S H') (.ref l) (lfn m (fun i => spd n T.F (fun j => 0 - T.c j) (n + i))) → Q (.ref l) H'
abbrev N_prices : List Str := ["self", "asked", "gain"]
theorem sc_prices : FnScope N_prices ["self"] (defScope m_prices) := ⟨rfl, rfl, rfl, by decide +kernel, rfl, by decide +kernel, by decide +kernel⟩
theorem c_m_prices (T : Txt K mg) : MCal P w K mg base 4 "prices" ["self"] (spPrc K) := by
  refine mcal_mk T.F_m_prices T.cls T.m_prices sc_prices (fun _ _ _ _ _ _ us hl => match us, hl with | [_], _ => rfl) (fun vs H Q E ⟨S, a, m, n, k, U, lg, vv, rows, has, h, _⟩ => by rw [h]; rfl) fun cdv A outer s H vs Q E hr ⟨S, a, m, n, k, U, lg, vv, rows, has, h1, B, hn, hm, L, zT, hk, kq⟩ => ?_
  subst h1
  obtain ⟨lg', xs, e, hxs, dxs⟩ := dpl B.dgains
  cases e
  have lxs := lfn_len dxs
  refine ⟨_, (pss_cons (ps_setLc (i := 1) (own := [("gain", 2)]) rfl sc_prices.nd rfl rfl (sw_true rfl rfl rfl (by decide +kernel)) (pi_listK K (pe_fldK K (pv 0))) (blkOk_by (own := [("gain", 2)]) (by kernel_rfl)) (fun _ _ _ _ _ => (pgn 2 sc_prices.nd)) (fun _ _ _ _ _ => pts_nil) (fun _ _ _ _ _ => (pe_cal (c_minus T) (hr.mono (by decide)) (pa_cons (pe_glob (v := .ref (He.ga K "NOUGHT")) rfl T.g_NOUGHT rfl) (pa_cons (pv 2) pa_nil)))))
 (pss_one (ps_ret (pe_mcal (c_m_spread_out T) (pv 0) (hr.mono (by decide)) (pa_cons (pe_fldK K (pv 0)) (pa_cons (pv 1) (pa_cons (pe_fldK K (pv 0)) (pa_cons (pe_callB (lenK K) (by rfl) T.f_len (by decide +kernel) (pa_cons (pe_fldK K (pv 0)) pa_nil)) pa_nil)))))))), ?_⟩
  refine ⟨_, rfl, a.p, _, _, _, _, rfl, B.ins, T.cls, T.a_gains, bfs_gains .., ?_⟩
  refine ⟨lg, rfl, ⟨xs, hid_le.seq hxs⟩, fun D hD => ?_⟩
  refine lc_data (K := K) (walk_list (xs := xs)) S (fun j => fr (0 - U.c j)) hD (by omega) B.th (fun H2 s2 => (hid_le.trans s2).seq hxs) ?_ ?_
  · rintro i y H2 H3 hi s2 th ⟨rfl, hy⟩
    rw [lxs] at hi
    refine ⟨Same.refl _, fun Q' hQ => ⟨rfl, ?_⟩⟩
    obtain ⟨y', hy', dy⟩ := ent_at dxs hi
    rw [hy] at hy'
    cases hy'
    exact ⟨_, rfl, D :: S, _, _, th, .cons (nought_dp T) (.cons (dp_past dy hD s2) .nil), ⟨_, _, 1, k, rfl, sz0, zT.c i hi, by omega, rfl⟩, fun H5 v5 s5 d5 => hQ _ _ s5 d5⟩
  rw [lxs]
  intro H2 s2 ⟨acc, hacc, dacc⟩ d2
  have B2 := B.past hD s2 hacc
  refine ⟨_, rfl, a.p, _, _, rfl, B2.ins, bfs_spread .., ?_⟩
  refine tCons_i (rdFree T B2 rfl ?_)
  refine ⟨_, rfl, ?_⟩
  refine tCons_i (rdWide T B2 rfl ?_)
  refine rdRows T B2 rfl ?_
  refine ⟨_, _, rfl, .inl B2.sqR, ?_⟩
  rw [B2.lrows]
  refine ⟨D :: S, _, a.lf, D, n, n, m, U.F, (fun j => 0 - U.c j), acc, rfl, B2.th, B2.sqF, SqL.of hacc, dacc, hn, hm, fun i j hi hj => L.fi i j hi hj, fun H' l ys s hl hy dy => kq _ _ (s2.trans s) (lst_seen (fun q => (B2.th.new hl) (List.mem_cons_of_mem _ q)) hy ?_)⟩
  refine dy.same fun b o e => ?_
  obtain ⟨h1, h2⟩ := hid_of e
  rw [hid_out fun q => ?_]
  · exact h2
  · rcases List.mem_cons.mp q with q | q
    · exact h1 (by rw [q]; exact List.mem_cons_self ..)
    · exact h1 (List.mem_cons_of_mem _ (List.mem_cons_of_mem _ q))
def spShown (K : PySem.W.Frag) : Sp := fun vs H Q _ => ∃ (S : List Addr) (a : BA) (m n r : Nat) (T : Tab) (lg : Addr) (vv : V) (rows has : List V), vs = [.ref a.p, .int r] ∧ Brd K S a m n T H lg vv rows has ∧ r < m ∧ n ≤ 8 ∧ m ≤ 8 ∧ Lab m n T ∧
  ∀ H' v, Same H H' → Q v H'
abbrev N_shown : List Str := ["self", "row", "found"]
theorem sc_shown : FnScope N_shown ["self", "row"] (defScope m_shown) := ⟨rfl, rfl, rfl, by decide +kernel, rfl, by decide +kernel, by decide +kernel⟩
theorem c_m_shown (T : Txt K mg) : MCal P w K mg base 2 "shown" ["self", "row"] (spShown K) := by
  refine mcal_mk T.F_m_shown T.cls T.m_shown sc_shown (fun _ _ _ _ _ _ us hl => match us, hl with | [_, _], _ => rfl) (fun vs H Q E ⟨S, a, m, n, r, U, lg, vv, rows, has, h, _⟩ => by rw [h]; rfl) fun cdv A outer s H vs Q E hr ⟨S, a, m, n, r, U, lg, vv, rows, has, h1, B, hrm, hn, hm, L, kq⟩ => ?_
  subst h1
  refine ⟨_, (pss_cons (sset 2 sc_shown.nd (pe_mcal (c_m_spread_out T) (pv 0) (hr.mono (by decide)) (pa_cons (pe_fldK K (pv 0)) (pa_cons (pe_ix (ix_listK K) (pe_fldK K (pv 0)) (pv 1) (fun _ _ => rfl)) (pa_cons (pe_fldK K (pv 0)) (pa_cons (pe_callB (lenK K) (by rfl) T.f_len (by decide +kernel) (pa_cons (pe_fldK K (pv 0)) pa_nil)) pa_nil))))))
 (pss_cons (ps_if (pt_cmpR op_ge (pe_ix (ix_listK K) (pe_fldK K (pv 0)) (pv 1) (fun _ _ => rfl)) (pe_fldK K (pv 0)) (nomark _))
  (pss_one (ps_asg (pe_glob (v := .ref (He.ga K "ONE")) rfl T.g_ONE rfl) (pg_sub (pv 2) (pe_op op_sub (pe_ix (ix_listK K) (pe_fldK K (pv 0)) (pv 1) (fun _ _ => rfl)) (pe_fldK K (pv 0))) set_list)))
  pss_nil)
 (pss_one (ps_ret (pv 2))))), ?_⟩
  refine ⟨_, rfl, a.p, _, _, rfl, B.ins, bfs_spread .., ?_⟩
  refine tCons_i (rdFree T B rfl ?_)
  refine tCons_i (rdRow T B hrm rfl rfl fun rx es hrx hes les des => ?_)
  refine tCons_i (rdWide T B rfl ?_)
  refine rdRows T B rfl ?_
  refine ⟨_, _, rfl, .inl B.sqR, ?_⟩
  rw [B.lrows]
  refine ⟨S, _, a.lf, rx, n, n, m, U.F, U.A r, es, rfl, B.th, B.sqF, hid_le.seq hes, des, hn, hm, fun i j hi hj => L.fi i j hi hj, fun H' l ys s hl hy dy => ?_⟩
  have B2 := B.same s
  refine tTest_i (tOp_i (rdB T B2 hrm rfl rfl ?_))
  refine rdWide T B2 rfl ?_
  refine ⟨_, _, rfl, rfl, ?_⟩
  by_cases hb : ((U.B r : Nat) : Int) ≥ (n : Int)
  · refine ⟨true, bT hb, iteT ?_⟩
    refine ⟨_, rfl, ?_⟩
    refine tOp_i (rdB T B2 hrm rfl rfl ?_)
    refine rdWide T B2 rfl ?_
    obtain ⟨k, hk⟩ : ∃ k, U.B r = n + k := ⟨U.B r - n, by omega⟩
    have := L.bl r hrm
    refine ⟨_, _, rfl, rfl, l, ys, _, k, rfl, rfl, hy, by rw [show ((U.B r : Nat) : Int) - (n : Int) = (k : Int) by omega]; exact ixN_nat' (by rw [lfn_len dy]; omega), ?_⟩
    exact ⟨_, rfl, kq _ _ (s.put hl)⟩
  · refine ⟨false, bF hb, iteF ?_⟩
    exact ⟨_, rfl, kq _ _ s⟩
def spWay (K : PySem.W.Frag) : Sp := fun vs H Q _ => ∃ (S : List Addr) (a : BA) (m n c k : Nat) (T : Tab) (lg : Addr) (vv : V) (rows has : List V), vs = [.ref a.p, .int c] ∧ Brd K S a m n T H lg vv rows has ∧ c < n ∧ n ≤ 8 ∧ m ≤ 8 ∧ Lab m n T ∧ TSz k m n T ∧ k ≤ 8000 ∧
  ∀ H' v, Same H H' → Q v H'
abbrev N_way : List Str := ["self", "column", "found", "row"]
theorem sc_way : FnScope N_way ["self", "column"] (defScope m_way) := ⟨rfl, rfl, rfl, by decide +kernel, rfl, by decide +kernel, by decide +kernel⟩
theorem c_m_way (T : Txt K mg) : MCal P w K mg base 4 "way" ["self", "column"] (spWay K) := by
  refine mcal_mk T.F_m_way T.cls T.m_way sc_way (fun _ _ _ _ _ _ us hl => match us, hl with | [_, _], _ => rfl) (fun vs H Q E ⟨S, a, m, n, c, k, U, lg, vv, rows, has, h, _⟩ => by rw [h]; rfl) fun cdv A outer s H vs Q E hr ⟨S, a, m, n, c, k, U, lg, vv, rows, has, h1, B, hcn, hn, hm, L, zT, hk, kq⟩ => ?_
  subst h1
  refine ⟨_, (pss_cons (sset 2 sc_way.nd (pe_mcal (c_m_spread_out T) (pv 0) (hr.mono (by decide)) (pa_cons (pe_fldK K (pv 0)) (pa_cons (pe_lc (own := [("row", 3)]) rfl sc_way.nd (pi_listK K (pe_fldK K (pv 0))) (blkOk_by (own := [("row", 3)]) (by kernel_rfl)) (fun _ _ _ _ _ => (pgn 3 sc_way.nd)) (fun _ _ _ _ _ => pts_nil) (fun _ _ _ _ _ => (pe_cal (c_minus T) (hr.mono (by decide)) (pa_cons (pe_glob (v := .ref (He.ga K "NOUGHT")) rfl T.g_NOUGHT rfl) (pa_cons (pe_ix (ix_listK K) (pv 3) (pv 1) (fun _ _ => rfl)) pa_nil))))) (pa_cons pe_int (pa_cons (pe_fldK K (pv 0)) pa_nil))))))
 (pss_cons (ps_if (pt_cmpR op_lt (pe_ix (ix_listK K) (pe_fldK K (pv 0)) (pv 1) (fun _ _ => rfl)) (pe_fldK K (pv 0)) (nomark _))
  (pss_one (ps_asg (pe_glob (v := .ref (He.ga K "ONE")) rfl T.g_ONE rfl) (pg_sub (pv 2) (pe_ix (ix_listK K) (pe_fldK K (pv 0)) (pv 1) (fun _ _ => rfl)) set_list)))
  pss_nil)
 (pss_one (ps_ret (pv 2))))), ?_⟩
  refine ⟨_, rfl, a.p, _, _, rfl, B.ins, bfs_spread .., ?_⟩
  refine tCons_i (rdBasic T B rfl ?_)
  refine ⟨_, rfl, a.p, _, _, _, _, rfl, B.ins, T.cls, T.a_rows, bfs_rows .., ?_⟩
  refine ⟨a.lr, rfl, ⟨rows, B.sqR⟩, fun D hD => ?_⟩
  refine lc_data (K := K) (walk_list (xs := rows)) S (fun i => fr (0 - U.A i c)) hD (by rw [B.lrows]; omega) B.th (fun H2 s2 => s2.seq B.sqR) ?_ ?_
  · rintro i y H2 H3 hi s2 th ⟨rfl, hy⟩
    rw [B.lrows] at hi
    refine ⟨Same.refl _, fun Q' hQ => ⟨rfl, ?_⟩⟩
    obtain ⟨rx, es, hrx, hes, les, des⟩ := B.row hi
    rw [hy] at hrx
    cases hrx
    obtain ⟨y', hy', dy⟩ := ent_at des hcn
    refine ⟨_, rfl, _, rfl, _, _, _, _, rfl, rfl, (hid_le.trans s2).seq hes, atI_nat hy', ?_⟩
    exact ⟨D :: S, _, _, th, .cons (nought_dp T) (.cons (dp_past dy hD s2) .nil), ⟨_, _, 1, k, rfl, sz0, zT.A i c hi hcn, by omega, rfl⟩, fun H5 v5 s5 d5 => hQ _ _ s5 d5⟩
  rw [B.lrows]
  intro H2 s2 ⟨acc, hacc, dacc⟩ d2
  have B2 := B.past hD s2 hacc
  refine tCons_i (tC_i (tCons_i (rdWide T B2 rfl ?_)))
  refine ⟨D :: S, _, a.lb, D, m, 0, n, U.B, (fun i => 0 - U.A i c), acc, rfl, B2.th, B2.sqB, SqL.of hacc, dacc, hm, hn, fun i j hi hj => L.bi i j hi hj, fun H' l ys s hl hy dy => ?_⟩
  have B3 := B2.same s
  refine tTest_i (tOp_i (rdF T B3 hcn rfl rfl ?_))
  refine rdWide T B3 rfl ?_
  refine ⟨_, _, rfl, rfl, ?_⟩
  have s3 := s2.trans s
  have hl0 : H l = none := s2.free hl
  by_cases hb : ((U.F c : Nat) : Int) < (n : Int)
  · refine ⟨true, bT hb, iteT ?_⟩
    refine ⟨_, rfl, ?_⟩
    refine rdF T B3 hcn rfl rfl ?_
    refine ⟨l, ys, _, U.F c, rfl, rfl, hy, ixN_nat' (by rw [lfn_len dy]; omega), ?_⟩
    exact ⟨_, rfl, kq _ _ (s3.put hl0)⟩
  · refine ⟨false, bF hb, iteF ?_⟩
    exact ⟨_, rfl, kq _ _ s3⟩
end
end K31
namespace K31
open PySem PySem.Spec PyProof.Rows L2
section
variable {P : Program} {w : World} {K : PySem.W.Frag} {mg : Str → Option Value} {base : Heap}
def startT (n : Nat) (tb : List (List Int)) (bs gs : List Int) : Tab := Tab.start n (fun i j => ((ent tb i j : Int) : Rat)) (fun i => ((gd bs i : Int) : Rat)) (fun j => ((gd gs j : Int) : Rat))
def spInit (K : PySem.W.Frag) : Sp := fun vs H Q _ => ∃ (S : List Addr) (x dx : Addr) (m n : Nat) (tb : List (List Int)) (bs gs : List Int) (v1 v2 v3 : V), vs = [.ref x, v1, v2, v3] ∧ There (x :: S) H ∧ x ∉ S ∧ H x = some (.ins (He.ga K "Board") dx []) ∧
  Dp K (hid (x :: S) H) v1 (lt tb) ∧ Dp K (hid (x :: S) H) v2 (li bs) ∧ Dp K (hid (x :: S) H) v3 (li gs) ∧ TabOk m n tb ∧ bs.length = m ∧ gs.length = n ∧
  ∀ H' lf lb lr lh lg vv rows has, Brd K (lh :: lr :: lb :: lf :: x :: S) ⟨x, dx, lf, lb, lr, lh⟩ m n (startT n tb bs gs) H' lg vv rows has → Same (hid [x] H) (hid [x] H') → (∀ y ∈ [lf, lb, lr, lh], H y = none) → Q .non H'
theorem pf1 {v : V} : putF (Str.ofString "wide") v [] = [(("wide" : Str), v)] := by kernel_rfl
theorem pf2 {v u : V} : putF (Str.ofString "free") v [(("wide" : Str), u)] = [(("wide" : Str), u), (("free" : Str), v)] := by kernel_rfl
theorem pf3 {v u1 u2 : V} : putF (Str.ofString "basic") v [(("wide" : Str), u1), (("free" : Str), u2)] = [(("wide" : Str), u1), (("free" : Str), u2), (("basic" : Str), v)] := by kernel_rfl
theorem pf4 {v u1 u2 u3 : V} : putF (Str.ofString "rows") v [(("wide" : Str), u1), (("free" : Str), u2), (("basic" : Str), u3)] = [(("wide" : Str), u1), (("free" : Str), u2), (("basic" : Str), u3), (("rows" : Str), v)] := by kernel_rfl
theorem pf5 {v u1 u2 u3 u4 : V} : putF (Str.ofString "has") v [(("wide" : Str), u1), (("free" : Str), u2), (("basic" : Str), u3), (("rows" : Str), u4)] = [(("wide" : Str), u1), (("free" : Str), u2), (("basic" : Str), u3), (("rows" : Str), u4), (("has" : Str), v)] := by kernel_rfl
theorem pf6 {v u1 u2 u3 u4 u5 : V} : putF (Str.ofString "gains") v [(("wide" : Str), u1), (("free" : Str), u2), (("basic" : Str), u3), (("rows" : Str), u4), (("has" : Str), u5)] = [(("wide" : Str), u1), (("free" : Str), u2), (("basic" : Str), u3), (("rows" : Str), u4), (("has" : Str), u5), (("gains" : Str), v)] := by kernel_rfl
theorem pf7 {v u1 u2 u3 u4 u5 u6 : V} : putF (Str.ofString "value") v [(("wide" : Str), u1), (("free" : Str), u2), (("basic" : Str), u3), (("rows" : Str), u4), (("has" : Str), u5), (("gains" : Str), u6)] = [(("wide" : Str), u1), (("free" : Str), u2), (("basic" : Str), u3), (("rows" : Str), u4), (("has" : Str), u5), (("gains" : Str), u6), (("value" : Str), v)] := by kernel_rfl
theorem lk1 {u : V} {r : List (Str × V)} : ((("wide" : Str), u) :: r).lookup (Str.ofString "wide") = some u := by kernel_rfl
theorem rgok {n : Nat} (h : n ≤ 8) : RgOk 0 (n : Int) := by unfold RgOk; omega
theorem rgV_ints (n : Nat) : rgV 0 (n : Int) = intsN n (fun j => j) := by
  unfold rgV intsN
  rw [show ((n : Int) - 0).toNat = n by omega]
  exact List.map_congr_left fun j _ => by rw [Int.zero_add]
abbrev N___init__ : List Str := ["self", "table", "bounds", "gains", "i", "entry", "row", "bound", "gain"]
theorem sc___init__ : FnScope N___init__ ["self", "table", "bounds", "gains"] (defScope m___init__) := ⟨rfl, rfl, rfl, by decide +kernel, rfl, by decide +kernel, by decide +kernel⟩
theorem c_m___init__ (T : Txt K mg) : MCal P w K mg base 1 "__init__" ["self", "table", "bounds", "gains"] (spInit K) := by
  have mI : Meth K (He.ga K "Board") "__init__" (He.ma K (He.ga K "Board") "__init__") := T.m___init__
  refine mcal_mk T.F_m___init__ T.cls mI sc___init__ (fun _ _ _ _ _ _ us hl => match us, hl with | [_, _, _, _], _ => rfl) (fun vs H Q E ⟨S, x, dx, m, n, tb, bs, gs, v1, v2, v3, h, _⟩ => by rw [h]; rfl) fun cdv A outer s H vs Q E hr ⟨S, x, dx, m, n, tb, bs, gs, v1, v2, v3, h1, th, hxS, hx, d1, d2, d3, ok, lbs, lgs, kq⟩ => ?_
  subst h1
  obtain ⟨l, xs, rfl, hl, hxs⟩ := dpl d1
  have hln : xs.length = m := by have := hxs.length; rw [List.length_map, ok.len] at this; exact this
  obtain ⟨r0, t0, l0, _⟩ := ok.at (show 0 < m from ok.m1)
  obtain ⟨x0, hx0, dx0⟩ := hxs.at (lt_at t0)
  obtain ⟨a0, rfl, hs0⟩ := dp_li dx0
  obtain ⟨l2, rfl, hl2⟩ := dp_li d2
  obtain ⟨l3, rfl, hl3⟩ := dp_li d3
  have m8 := ok.m8
  have n8 := ok.n8
  refine ⟨_, (pss_cons (ps_fld (pv 0) (pe_callB (lenK K) (by rfl) T.f_len (by decide +kernel) (pa_cons (pe_ix (ix_listK K) (pv 1) pe_int (fun _ _ => rfl)) pa_nil)) rfl)
 (pss_cons (ps_fld (pv 0) (pe_listRg rfl (by rfl) T.f_list (prg_1 (by rfl) T.f_range (pe_fldK K (pv 0)))) rfl)
 (pss_cons (ps_fld (pv 0) (pe_lc (own := [("i", 4)]) rfl sc___init__.nd (pi_range1 rfl T.f_range (pa_cons (pe_callB (lenK K) (by rfl) T.f_len (by decide +kernel) (pa_cons (pv 1) pa_nil)) pa_nil)) (blkOk_by (own := [("i", 4)]) (by kernel_rfl)) (fun _ _ _ _ _ => (pgn 4 sc___init__.nd)) (fun _ _ _ _ _ => pts_nil) (fun _ _ _ _ _ => (pe_op op_add (pe_fldK K (pv 0)) (pv 4)))) rfl)
 (pss_cons (ps_fld (pv 0) (pe_lc (own := [("row", 6)]) rfl sc___init__.nd (pi_listK K (pv 1)) (blkOk_by (own := [("row", 6)]) (by kernel_rfl)) (fun _ _ _ _ _ => (pgn 6 sc___init__.nd)) (fun _ _ _ _ _ => pts_nil) (fun _ _ _ _ _ => (by exact (pe_lc (own := [("entry", 5)]) rfl sc___init__.nd (pi_listK K (pv 6)) (blkOk_by (own := [("entry", 5)]) (by kernel_rfl)) (fun _ _ _ _ _ => (pgn 5 sc___init__.nd)) (fun _ _ _ _ _ => pts_nil) (fun _ _ _ _ _ => (pe_tup (pa_cons (pv 5) (pa_cons pe_int pa_nil)))))))) rfl)
 (pss_cons (ps_fld (pv 0) (pe_lc (own := [("bound", 7)]) rfl sc___init__.nd (pi_listK K (pv 2)) (blkOk_by (own := [("bound", 7)]) (by kernel_rfl)) (fun _ _ _ _ _ => (pgn 7 sc___init__.nd)) (fun _ _ _ _ _ => pts_nil) (fun _ _ _ _ _ => (pe_tup (pa_cons (pv 7) (pa_cons pe_int pa_nil))))) rfl)
 (pss_cons (ps_fld (pv 0) (pe_lc (own := [("gain", 8)]) rfl sc___init__.nd (pi_listK K (pv 3)) (blkOk_by (own := [("gain", 8)]) (by kernel_rfl)) (fun _ _ _ _ _ => (pgn 8 sc___init__.nd)) (fun _ _ _ _ _ => pts_nil) (fun _ _ _ _ _ => (pe_tup (pa_cons (pv 8) (pa_cons pe_int pa_nil))))) rfl)
 (pss_one (ps_fld (pv 0) (pe_glob (v := .ref (He.ga K "NOUGHT")) rfl T.g_NOUGHT rfl) rfl)))))))), ?_⟩
  refine ⟨_, rfl, _, _, _, _, rfl, rfl, hid_le.seq hl, atI_nat (j := 0) hx0, _, _, rfl, .inl (hid_le.seq hs0), ?_⟩
  rw [List.length_map, l0]
  refine ⟨_, rfl, x, _, dx, [], rfl, hx, T.cls, T.a_wide, by decide, ?_⟩
  rw [pf1]
  have up : ∀ H', Same (hid [x] H) (hid [x] H') → Same (hid (x :: S) H) (hid (x :: S) H') := fun H' s => same_up s fun y hy => by rw [List.mem_singleton.mp hy]; exact List.mem_cons_self ..
  have S1 : Same (hid [x] H) (hid [x] (upd H x (.ins (He.ga K "Board") dx [(("wide" : Str), .int n)]))) := by rw [hid_upd_in (by simp)]; exact Same.refl _
  -- free
  refine ⟨_, rfl, x, _, _, _, _, rfl, upd_same, T.cls, T.a_wide, lk1, ?_⟩
  refine ⟨_, rfl, rgok (show n ≤ 8 by omega), fun lf hlf => ?_⟩
  rw [show rgV 0 (n : Int) = intsN n (fun j => j) from rgV_ints n]
  have xlf : x ≠ lf := fun e => by rw [← e, upd_same] at hlf; cases hlf
  refine ⟨_, rfl, x, _, dx, _, rfl, by rw [upd_ne xlf, upd_same], T.cls, T.a_free, by show 1 < 1000; decide, ?_⟩
  rw [pf2]
  have hlf0 : H lf = none := by rwa [upd_ne (Ne.symm xlf)] at hlf
  generalize hG2 : upd (upd (upd H x (.ins (He.ga K "Board") dx [(("wide" : Str), .int n)])) lf (.lst (intsN n fun j => j))) x (.ins (He.ga K "Board") dx [(("wide" : Str), .int n), (("free" : Str), .ref lf)]) = H2
  have S2 : Same (hid [x] H) (hid [x] H2) := by
    rw [← hG2, hid_upd_in (by simp)]
    exact S1.trans (same_hid (Same.new hlf))
  have x2 : H2 x = some (.ins (He.ga K "Board") dx [(("wide" : Str), .int n), (("free" : Str), .ref lf)]) := by rw [← hG2, upd_same]
  have lf2 : H2 lf = some (.lst (intsN n fun j => j)) := by rw [← hG2, upd_ne (Ne.symm xlf), upd_same]
  have th2 : There (x :: S) H2 := by rw [← hG2]; exact ((th.upd).same (Same.new hlf)).upd
  clear hG2 S1 hlf
  -- basic
  refine ⟨_, rfl, _, _, rfl, .inl (hid_le.seq ((up _ S2).seq hl)), _, rfl, by omega, by omega, fun lb hlb => ?_⟩
  rw [hln, Int.toNat_natCast]
  refine lc_data (K := K) walk_range (x :: S) (fun i => .int (((n + i : Nat)) : Int)) hlb (by omega) th2 (fun _ _ => trivial) ?_ ?_
  · rintro i y H3 H4 hi s3 th3 ⟨rfl, rfl⟩
    refine ⟨Same.refl _, fun Q' hQ => ⟨rfl, ?_⟩⟩
    refine ⟨_, rfl, x, _, _, _, _, rfl, s3 _ _ x2, T.cls, T.a_wide, lk1, ?_⟩
    refine ⟨_, rfl, _, _, rfl, rfl, hQ _ _ (Same.refl _) ?_⟩
    show Dp K _ (.int ((n : Int) + (0 + (i : Int)))) _
    rw [show (n : Int) + (0 + (i : Int)) = ((n + i : Nat) : Int) by omega]
    exact .int _
  intro H3 s3 ⟨acc, hacc, dacc⟩ _
  have eacc : acc = intsN m (fun i => n + i) := by
    rw [show (List.range m).map (fun i => PyData.int (((n + i : Nat)) : Int)) = ((List.range m).map fun i => (((n + i : Nat)) : Int)).map PyData.int by rw [List.map_map]; rfl] at dacc
    rw [dacc.ints, List.map_map]
    rfl
  subst eacc
  have x3 := s3 _ _ x2
  have lf3 := s3 _ _ lf2
  refine ⟨_, rfl, x, _, dx, _, rfl, x3, T.cls, T.a_basic, by show 2 < 1000; decide, ?_⟩
  rw [pf3]
  have lb0 : H lb = none := by
    cases e : H lb with
    | none => rfl
    | some o => exact absurd hlb (by
        by_cases q : lb = x
        · rw [q, x2]; exact fun z => nomatch z
        · have := same_at S2 (b := lb) (by simp [q]) e
          rw [this]; exact fun z => nomatch z)
  have xlb : lb ≠ x := fun e => by rw [e, x2] at hlb; cases hlb
  have lflb : lf ≠ lb := ne_of_none lf2 hlb
  generalize hG4 : upd H3 x (.ins (He.ga K "Board") dx [(("wide" : Str), .int n), (("free" : Str), .ref lf), (("basic" : Str), .ref lb)]) = H4
  have S4 : Same (hid [x] H) (hid [x] H4) := by
    rw [← hG4, hid_upd_in (by simp)]
    exact S2.trans (same_hid s3)
  have x4 : H4 x = some (.ins (He.ga K "Board") dx [(("wide" : Str), .int n), (("free" : Str), .ref lf), (("basic" : Str), .ref lb)]) := by rw [← hG4, upd_same]
  have lf4 : H4 lf = some (.lst (intsN n fun j => j)) := by rw [← hG4, upd_ne (Ne.symm xlf)]; exact lf3
  have lb4 : H4 lb = some (.lst (intsN m fun i => n + i)) := by rw [← hG4, upd_ne xlb]; exact hacc
  have th4 : There (lb :: lf :: x :: S) H4 := .cons lb4 (.cons lf4 (by rw [← hG4]; exact (th2.same s3).upd))
  have hlfS : lf ∉ x :: S := th.new hlf0
  have hlbS : lb ∉ x :: S := th.new lb0
  have up4 : Same (hid (x :: S) H) (hid (lb :: lf :: x :: S) H4) := fun b o e => by
    obtain ⟨h1, h2⟩ := hid_of e
    have h3 := up _ S4 b o e
    rw [hid_out h1] at h3
    rw [hid_out fun q => ?_]
    · exact h3
    · rcases List.mem_cons.mp q with q | q
      · rw [q, lb0] at h2; cases h2
      · rcases List.mem_cons.mp q with q | q
        · rw [q, hlf0] at h2; cases h2
        · exact h1 q
  clear hG4
  have hl4 := hid_le.seq (up4.seq hl)
  have hxs4 := hxs.same up4
  -- rows
  refine ⟨_, rfl, l, rfl, ⟨xs, hl4⟩, fun lr hlr => ?_⟩
  refine lc_data (K := K) (walk_list (xs := xs)) (lb :: lf :: x :: S) (fun i => lfn n (fun j => ((ent tb i j : Int) : Rat))) hlr (by omega) th4 (fun H5 s5 => s5.seq hl4) ?_ ?_
  · rintro i y H5 H6 hi s5 th5 ⟨rfl, hy⟩
    refine ⟨Same.refl _, fun Q' hQ => ⟨rfl, ?_⟩⟩
    rw [hln] at hi
    obtain ⟨r, tr, lr', er⟩ := ok.at hi
    obtain ⟨y', hy', dy⟩ := hxs4.at (lt_at tr)
    rw [hy] at hy'
    cases hy'
    obtain ⟨ar, rfl, hsr⟩ := dp_li dy
    refine ⟨_, rfl, ar, rfl, ⟨_, (hid_le.trans s5).seq hsr⟩, fun D2 hD2 => ?_⟩
    refine lc_data (K := K) (walk_list (xs := r.map V.int)) (lr :: lb :: lf :: x :: S) (fun j => fr ((ent tb i j : Int) : Rat)) hD2 (by rw [List.length_map]; omega) th5 (fun H7 s7 => ((hid_le.trans s5).trans s7).seq hsr) ?_ ?_
    · rintro j z H7 H8 hj s7 th7 ⟨rfl, hz⟩
      refine ⟨Same.refl _, fun Q2 hQ2 => ⟨rfl, ?_⟩⟩
      rw [List.length_map] at hj
      rw [List.getElem?_map, gd_at hj] at hz
      cases hz
      refine ⟨_, rfl, by show 2 ≤ sizeLine; decide, fun p hp => hQ2 _ _ (Same.new hp) ?_⟩
      rw [er j]
      exact fr_dp (q := ((ent tb i j : Int) : Rat)) (SqT.of (by rw [hid_out (th7.new hp), upd_same]; rfl))
    · intro H7 s7 _ d7
      refine hQ _ _ s7 ?_
      rw [List.length_map, lr'] at d7
      exact d7
  rw [hln]
  intro H5 s5 ⟨rows, hrows, drows⟩ _
  have fresh : ∀ (G : Hp) (y : Addr), Same (hid [x] H) (hid [x] G) → G x ≠ none → G y = none → H y = none ∧ y ≠ x := fun G y s gx gy => by
    have ne : y ≠ x := fun e => gx (by rw [← e]; exact gy)
    refine ⟨?_, ne⟩
    cases e : H y with
    | none => rfl
    | some o => rw [same_at s (by simp [ne]) e] at gy; cases gy
  obtain ⟨lr0, xlr⟩ := fresh H4 lr S4 (by rw [x4]; exact fun z => nomatch z) hlr
  have x5 := s5 _ _ x4
  refine ⟨_, rfl, x, _, dx, _, rfl, x5, T.cls, T.a_rows, by show 3 < 1000; decide, ?_⟩
  rw [pf4]
  generalize hG6 : upd H5 x (.ins (He.ga K "Board") dx [(("wide" : Str), .int n), (("free" : Str), .ref lf), (("basic" : Str), .ref lb), (("rows" : Str), .ref lr)]) = H6
  have e6 : ∀ {R : List Addr}, x ∈ R → hid R H6 = hid R H5 := fun h => by rw [← hG6, hid_upd_in h]
  have S6 : Same (hid [x] H) (hid [x] H6) := by
    rw [e6 (by simp)]
    exact S4.trans (same_hid s5)
  have x6 : H6 x = some (.ins (He.ga K "Board") dx [(("wide" : Str), .int n), (("free" : Str), .ref lf), (("basic" : Str), .ref lb), (("rows" : Str), .ref lr)]) := by rw [← hG6, upd_same]
  have lf6 : H6 lf = some (.lst (intsN n fun j => j)) := by rw [← hG6, upd_ne (Ne.symm xlf)]; exact s5 _ _ lf4
  have lb6 : H6 lb = some (.lst (intsN m fun i => n + i)) := by rw [← hG6, upd_ne xlb]; exact s5 _ _ lb4
  have lr6 : H6 lr = some (.lst rows) := by rw [← hG6, upd_ne xlr]; exact hrows
  have th6 : There (lr :: lb :: lf :: x :: S) H6 := .cons lr6 (by rw [← hG6]; exact (th4.same s5).upd)
  have drows6 : DpAll K (hid (lr :: lb :: lf :: x :: S) H6) rows ((List.range m).map fun i => lfn n (fun j => ((ent tb i j : Int) : Rat))) := by rw [e6 (by simp)]; exact drows
  have past : ∀ {R : List Addr} {G : Hp} {y : Addr}, Same (hid (x :: S) H) (hid R G) → H y = none → Same (hid (x :: S) H) (hid (y :: R) G) := fun {R G y} s h b o e => by
    have h3 := hid_of (s b o e)
    rw [hid_out fun q => ?_]
    · exact h3.2
    · rcases List.mem_cons.mp q with q | q
      · have := (hid_of e).2; rw [q, h] at this; cases this
      · exact h3.1 q
  have up6 : Same (hid (x :: S) H) (hid (lr :: lb :: lf :: x :: S) H6) := by
    rw [e6 (by simp)]
    exact past (up4.trans (same_hid s5)) lr0
  clear hG6
  -- has
  have hl6 := hid_le.seq (up6.seq hl2)
  refine ⟨_, rfl, l2, rfl, ⟨_, hl6⟩, fun lh hlh => ?_⟩
  refine lc_data (K := K) (walk_list (xs := bs.map V.int)) (lr :: lb :: lf :: x :: S) (fun i => fr ((gd bs i : Int) : Rat)) hlh (by rw [List.length_map]; omega) th6 (fun H7 s7 => s7.seq hl6) ?_ ?_
  · rintro j z H7 H8 hj s7 th7 ⟨rfl, hz⟩
    refine ⟨Same.refl _, fun Q2 hQ2 => ⟨rfl, ?_⟩⟩
    rw [List.length_map] at hj
    rw [List.getElem?_map, gd_at hj] at hz
    cases hz
    refine ⟨_, rfl, by show 2 ≤ sizeLine; decide, fun p hp => hQ2 _ _ (Same.new hp) ?_⟩
    exact fr_dp (q := ((gd bs j : Int) : Rat)) (SqT.of (by rw [hid_out (th7.new hp), upd_same]; rfl))
  rw [List.length_map, lbs]
  intro H7 s7 ⟨has, hhas, dhas⟩ _
  obtain ⟨lh0, xlh⟩ := fresh H6 lh S6 (by rw [x6]; exact fun z => nomatch z) hlh
  have x7 := s7 _ _ x6
  refine ⟨_, rfl, x, _, dx, _, rfl, x7, T.cls, T.a_has, by show 4 < 1000; decide, ?_⟩
  rw [pf5]
  generalize hG8 : upd H7 x (.ins (He.ga K "Board") dx [(("wide" : Str), .int n), (("free" : Str), .ref lf), (("basic" : Str), .ref lb), (("rows" : Str), .ref lr), (("has" : Str), .ref lh)]) = H8
  have e8 : ∀ {R : List Addr}, x ∈ R → hid R H8 = hid R H7 := fun h => by rw [← hG8, hid_upd_in h]
  have S8 : Same (hid [x] H) (hid [x] H8) := by
    rw [e8 (by simp)]
    exact S6.trans (same_hid s7)
  have x8 : H8 x = some (.ins (He.ga K "Board") dx [(("wide" : Str), .int n), (("free" : Str), .ref lf), (("basic" : Str), .ref lb), (("rows" : Str), .ref lr), (("has" : Str), .ref lh)]) := by rw [← hG8, upd_same]
  have lf8 : H8 lf = some (.lst (intsN n fun j => j)) := by rw [← hG8, upd_ne (Ne.symm xlf)]; exact s7 _ _ lf6
  have lb8 : H8 lb = some (.lst (intsN m fun i => n + i)) := by rw [← hG8, upd_ne xlb]; exact s7 _ _ lb6
  have lr8 : H8 lr = some (.lst rows) := by rw [← hG8, upd_ne xlr]; exact s7 _ _ lr6
  have lh8 : H8 lh = some (.lst has) := by rw [← hG8, upd_ne xlh]; exact hhas
  have th8 : There (lh :: lr :: lb :: lf :: x :: S) H8 := .cons lh8 (by rw [← hG8]; exact (th6.same s7).upd)
  have drows8 : DpAll K (hid (lh :: lr :: lb :: lf :: x :: S) H8) rows ((List.range m).map fun i => lfn n (fun j => ((ent tb i j : Int) : Rat))) := by rw [e8 (by simp)]; exact dpAll_past drows6 hlh s7
  have dhas8 : DpAll K (hid (lh :: lr :: lb :: lf :: x :: S) H8) has ((List.range m).map fun i => fr ((gd bs i : Int) : Rat)) := by rw [e8 (by simp)]; exact dhas
  have up8 : Same (hid (x :: S) H) (hid (lh :: lr :: lb :: lf :: x :: S) H8) := by
    rw [e8 (by simp)]
    exact past (up6.trans (same_hid s7)) lh0
  have n1 : lf ≠ lr := ne_of_none lf4 hlr
  have n2 : lf ≠ lh := ne_of_none lf6 hlh
  have n3 : lb ≠ lr := ne_of_none lb4 hlr
  have n4 : lb ≠ lh := ne_of_none lb6 hlh
  have n5 : lr ≠ lh := ne_of_none lr6 hlh
  clear hG8
  -- gains
  have hl8 := hid_le.seq (up8.seq hl3)
  refine ⟨_, rfl, l3, rfl, ⟨_, hl8⟩, fun lg hlg => ?_⟩
  refine lc_data (K := K) (walk_list (xs := gs.map V.int)) (lh :: lr :: lb :: lf :: x :: S) (fun i => fr ((gd gs i : Int) : Rat)) hlg (by rw [List.length_map]; omega) th8 (fun H9 s9 => s9.seq hl8) ?_ ?_
  · rintro j z H9 H10 hj s9 th9 ⟨rfl, hz⟩
    refine ⟨Same.refl _, fun Q2 hQ2 => ⟨rfl, ?_⟩⟩
    rw [List.length_map] at hj
    rw [List.getElem?_map, gd_at hj] at hz
    cases hz
    refine ⟨_, rfl, by show 2 ≤ sizeLine; decide, fun p hp => hQ2 _ _ (Same.new hp) ?_⟩
    exact fr_dp (q := ((gd gs j : Int) : Rat)) (SqT.of (by rw [hid_out (th9.new hp), upd_same]; rfl))
  rw [List.length_map, lgs]
  intro H9 s9 _ dg
  have x9 := s9 _ _ x8
  refine ⟨_, rfl, x, _, dx, _, rfl, x9, T.cls, T.a_gains, by show 5 < 1000; decide, ?_⟩
  rw [pf6]
  refine ⟨_, rfl, x, _, dx, _, rfl, upd_same, T.cls, T.a_value, by show 6 < 1000; decide, ?_⟩
  rw [pf7]
  generalize hG10 : upd (upd H9 x (.ins (He.ga K "Board") dx [(("wide" : Str), .int n), (("free" : Str), .ref lf), (("basic" : Str), .ref lb), (("rows" : Str), .ref lr), (("has" : Str), .ref lh), (("gains" : Str), .ref lg)])) x (.ins (He.ga K "Board") dx [(("wide" : Str), .int n), (("free" : Str), .ref lf), (("basic" : Str), .ref lb), (("rows" : Str), .ref lr), (("has" : Str), .ref lh), (("gains" : Str), .ref lg), (("value" : Str), .ref (He.ga K "NOUGHT"))]) = H10
  have e10 : ∀ {R : List Addr}, x ∈ R → hid R H10 = hid R H9 := fun h => by rw [← hG10, hid_upd_in h, hid_upd_in h]
  refine kq H10 lf lb lr lh lg (.ref (He.ga K "NOUGHT")) rows has ?_ (by rw [e10 (by simp)]; exact S8.trans (same_hid s9)) (fun y hy => by
    simp only [List.mem_cons, List.not_mem_nil, or_false] at hy
    rcases hy with e | e | e | e
    · rw [e]; exact hlf0
    · rw [e]; exact lb0
    · rw [e]; exact lr0
    · rw [e]; exact lh0)
  refine ⟨?_, ?_, ?_, by rw [← hG10]; exact upd_same, ?_, ?_, ?_, ?_, by rw [e10 (by simp)]; exact drows8.hs s9, by rw [e10 (by simp)]; exact dhas8.hs s9, by rw [e10 (by simp)]; exact dg, nought_dp T⟩
  · simp only [BA.S, List.nodup_cons, List.mem_cons, List.not_mem_nil, or_false, not_or]
    exact ⟨⟨xlf, Ne.symm xlb, Ne.symm xlr, Ne.symm xlh⟩, ⟨lflb, n1, n2⟩, ⟨n3, n4⟩, n5, not_false, List.nodup_nil⟩
  · intro y hy
    simp only [BA.S, List.mem_cons, List.not_mem_nil, or_false] at hy ⊢
    rcases hy with h | h | h | h | h <;> simp [h]
  · rw [← hG10]; exact (th8.same s9).upd.upd
  · rw [← hG10, upd_ne (Ne.symm xlf), upd_ne (Ne.symm xlf)]; exact s9 _ _ lf8
  · rw [← hG10, upd_ne xlb, upd_ne xlb]; exact s9 _ _ lb8
  · rw [← hG10, upd_ne xlr, upd_ne xlr]; exact s9 _ _ lr8
  · rw [← hG10, upd_ne xlh, upd_ne xlh]; exact s9 _ _ lh8
end
end K31
namespace K31
open PySem PySem.Spec PyProof.Rows L2 LamX
/-! ### after a lambda is made: all but the tables stay -/
theorem extN_hid {S : List Addr} {H H' : Hp} (s : ExtN H H') : ExtN (hid S H) (hid S H') := fun b o e n => by
  obtain ⟨h1, h2⟩ := hid_of e
  rw [hid_out h1]
  exact s b o h2 n
theorem sqT_ext {K : PySem.W.Frag} {H H' : Hp} {a : Addr} {xs : List V} (e : ExtN H H') (h : SqT K H a xs) : SqT K H' a xs := by
  rcases h with (h | ⟨o, h⟩) | h
  · exact .inl (.inl (e _ _ h fun _ q => nomatch q))
  · exact .inl (.inr ⟨o, e _ _ h fun _ q => nomatch q⟩)
  · exact .inr h
mutual
theorem dp_ext {K : PySem.W.Frag} {H H' : Hp} (e : ExtN H H') : ∀ {v : V} (d : PyData), Dp K H v d → Dp K H' v d
  | _, .none, h => by cases h; exact .non
  | _, .bool b, h => by cases h; exact .bl b
  | _, .int i, h => by cases h; exact .int i
  | _, .str x, h => by cases h; exact .str x
  | _, .list ds, h => by
    cases h with
    | lst h1 h2 => exact .lst (sq_ext e h1) (dpAll_ext e ds h2)
  | _, .tuple ds, h => by
    cases h with
    | tup h1 h2 => exact .tup (sqT_ext e h1) (dpAll_ext e ds h2)
  | _, .dict _, h => by cases h
theorem dpAll_ext {K : PySem.W.Frag} {H H' : Hp} (e : ExtN H H') : ∀ {vs : List V} (ds : List PyData), DpAll K H vs ds → DpAll K H' vs ds
  | _, [], h => by cases h; exact .nil
  | _, d :: ds, h => by
    cases h with
    | cons h1 h2 => exact .cons (dp_ext e d h1) (dpAll_ext e ds h2)
end
theorem There.ext {S : List Addr} {H H' : Hp} (t : There S H) (s : ExtN H H') : There S H' := fun a h => let ⟨o, e, n⟩ := t a h; ⟨o, s _ _ e n, n⟩
theorem extN_same {H H' : Hp} (s : Same H H') : ExtN H H' := ExtN.of s
section
variable {K : PySem.W.Frag} {S : List Addr} {a : BA} {m n : Nat} {T : Tab} {H H' : Hp} {lg : Addr} {vv : V} {rows has : List V}
theorem Brd.ext (B : Brd K S a m n T H lg vv rows has) (s : ExtN H H') : Brd K S a m n T H' lg vv rows has where
  nd := B.nd
  sub := B.sub
  th := B.th.ext s
  ins := s _ _ B.ins fun _ q => nomatch q
  free := s _ _ B.free fun _ q => nomatch q
  basic := s _ _ B.basic fun _ q => nomatch q
  hrows := s _ _ B.hrows fun _ q => nomatch q
  hhas := s _ _ B.hhas fun _ q => nomatch q
  drows := dpAll_ext (extN_hid s) _ B.drows
  dhas := dpAll_ext (extN_hid s) _ B.dhas
  dgains := dp_ext (extN_hid s) _ B.dgains
  dval := dp_ext (extN_hid s) _ B.dval
end
section
variable {K : PySem.W.Frag} {S : List Addr} {a : BA} {m n : Nat} {T : Tab} {H H' : Hp} {lg : Addr} {vv : V} {rows has : List V}
/-- tables and code objects are no parts of the board -/
theorem Brd.out (B : Brd K S a m n T H lg vv rows has) {b : Addr} {o : HO} (h : H b = some o) (h1 : ∀ C dx fs, o ≠ .ins C dx fs) (h2 : ∀ xs, o ≠ .lst xs) : b ∉ a.S := fun q => by
  simp only [BA.S, List.mem_cons, List.not_mem_nil, or_false] at q
  rcases q with q | q | q | q | q
  · rw [q, B.ins] at h; exact h1 _ _ _ (Option.some.inj h).symm
  · rw [q, B.free] at h; exact h2 _ (Option.some.inj h).symm
  · rw [q, B.basic] at h; exact h2 _ (Option.some.inj h).symm
  · rw [q, B.hrows] at h; exact h2 _ (Option.some.inj h).symm
  · rw [q, B.hhas] at h; exact h2 _ (Option.some.inj h).symm
theorem Brd.tabs {TT : List (Addr × Str)} (B : Brd K S a m n T H lg vv rows has) (t : Tabs TT H) (s : Same (hid a.S H) (hid a.S H')) : Tabs TT H' := fun p hp => by
  obtain ⟨ps, h1, h2, h3⟩ := t p hp
  refine ⟨ps, same_at s (B.out h1 (fun _ _ _ q => nomatch q) fun _ q => nomatch q) h1, h2, fun pos cv hc => ?_⟩
  obtain ⟨c, e1, e2⟩ := h3 pos cv hc
  exact ⟨c, e1, same_at s (B.out e2 (fun _ _ _ q => nomatch q) fun _ q => nomatch q) e2⟩
end
/-! ### the tables of the two lambdas -/
def TT (K : PySem.W.Frag) : List (Addr × Str) := [((He.cT K ("Board", some "settle")).2, "Board.settle.<locals>.<lambda>"), ((He.cT K ("Board", some "climb")).2, "Board.climb.<locals>.<lambda>")]
structure Tbs (K : PySem.W.Frag) (mg : Str → Option Value) (base : Heap) : Prop where
  settle : TabB base mg (He.cT K ("Board", some "settle")).1 (He.cT K ("Board", some "settle")).2
  climb : TabB base mg (He.cT K ("Board", some "climb")).1 (He.cT K ("Board", some "climb")).2
theorem hm_settle (K : PySem.W.Frag) : ((He.cT K ("Board", some "settle")).2, ("Board.settle.<locals>.<lambda>" : Str)) ∈ TT K := List.mem_cons_self ..
theorem hm_climb (K : PySem.W.Frag) : ((He.cT K ("Board", some "climb")).2, ("Board.climb.<locals>.<lambda>" : Str)) ∈ TT K := List.mem_cons_of_mem _ (List.mem_cons_self ..)
theorem hu_settle {K : PySem.W.Frag} {mg : Str → Option Value} (T : Txt K mg) : ∀ q ∈ TT K, q.1 = (He.cT K ("Board", some "settle")).2 → q.2 = "Board.settle.<locals>.<lambda>" := fun q hq e => by
  rcases List.mem_cons.mp hq with h | h
  · rw [h]
  · rw [List.mem_singleton.mp h] at e; exact absurd e.symm T.two
theorem hu_climb {K : PySem.W.Frag} {mg : Str → Option Value} (T : Txt K mg) : ∀ q ∈ TT K, q.1 = (He.cT K ("Board", some "climb")).2 → q.2 = "Board.climb.<locals>.<lambda>" := fun q hq e => by
  rcases List.mem_cons.mp hq with h | h
  · rw [h] at e; exact absurd e T.two
  · rw [List.mem_singleton.mp h]
section
variable {P : Program} {w : World} {K : PySem.W.Frag} {mg : Str → Option Value} {base : Heap}
/-- a method that makes lambdas: its code object is known -/
theorem mcal_mkL {x : String} {q : Str} {N ps : List Str} {st : Stmt} {k : Nat} {sp : Sp} (F : ∃ fd, FunD K x q (defArgs st) (defBody st) (defScope st) [] [] (He.ma K (He.ga K "Board") x) fd) (cls : Cls K (He.ga K "Board")) (m : Meth K (He.ga K "Board") x (He.ma K (He.ga K "Board") x)) (S : FnScope N ps (defScope st))
    (hb : ∀ (kV doc pm : Value) (an : Option Addr) (cdv ct : Value) (us : List Value), us.length = ps.length → bindArgs (PySem.W.fnOf x q (defArgs st) (defBody st) (defScope st) .none kV doc pm an cdv ct) ⟨us, []⟩ = pure (ps.zip us))
    (len : ∀ vs H Q E, sp vs H Q E → vs.length = ps.length)
    (hbody : ∀ (cdv : Value) (A : Around) (outer : List Env) (s : Shared) (H : Hp) (vs : List V) (Q : VK) (E : XK), cdv = .ref (He.cT K ("Board", some (Str.ofString x))).1 → Room k (A.deeper (envOfC q (defScope st) s.heap.objs.size (He.ma K (He.ga K "Board") x) cdv)) → sp vs H Q E →
      ∃ t, PSs (cxOf CX0 P w K mg base N q (defScope st) (He.ma K (He.ga K "Board") x) cdv A outer s H E).nox (defBody st) t ∧ t { nx := fun _ H' => Q .non H', rt := Q } (L2.start N vs) H) : MCal P w K mg base (k + 1) x ps sp := by
  obtain ⟨fd, F⟩ := F
  refine ⟨⟨fd, ?_, F.bindsN hb⟩, cls, m⟩
  obtain ⟨oc, od, dV, kV, doc, pm, an, cdv, ct, osl, rfl, lk, hcd, _, _⟩ := F.ex
  refine fn_of lk hcd S len fun A outer s H vs Q E hr h => ?_
  obtain ⟨c, ec⟩ := He.codeIn_ref hcd
  have e2 : He.codeOf K ("Board", some (Str.ofString x)) = c := He.codeOf_eq lk ec
  obtain ⟨t, h1, h2⟩ := hbody cdv A outer s H vs Q E (by rw [ec, ← e2]; rfl) hr h
  exact ⟨t, h1.nox, h2⟩
theorem num_neg (q : Rat) : decide (q < 0) = decide (q.num < 0) := by
  have h := Rat.num_nonneg (q := q)
  by_cases g : q < 0
  · rw [decide_eq_true g, decide_eq_true]
    have : ¬ 0 ≤ q.num := fun e => absurd (h.mp e) (Rat.not_le.mpr g)
    omega
  · rw [decide_eq_false g, decide_eq_false]
    have := h.mpr (Rat.not_lt.mp g)
    omega
theorem natsV_eq {l : List Nat} : (l.map fun i : Nat => V.int (0 + (i : Int))) = natsV l := List.map_congr_left fun i _ => by rw [Int.zero_add]
theorem natsV_int {l : List Nat} : (l.map fun i : Nat => (i : Int)).map V.int = natsV l := by rw [List.map_map]; rfl
theorem intsN_int {n : Nat} {f : Nat → Nat} : ((List.range n).map fun i => ((f i : Nat) : Int)).map V.int = intsN n f := by rw [List.map_map]; rfl
theorem keyAt_ints {n i : Nat} {f : Nat → Nat} (h : i < n) : keyAt ((List.range n).map fun i => ((f i : Nat) : Int)) (i : Int) = (f i : Int) := by
  unfold keyAt
  rw [Int.toNat_natCast, List.getD_eq_getElem?_getD, range_at h]
  rfl
theorem dp_nats {K : PySem.W.Frag} {H : Hp} {l : Addr} {ns : List Nat} (h : SqL K H l (natsV ns)) : Dp K H (.ref l) (li (ns.map fun i : Nat => (i : Int))) := li_dp (by rw [natsV_int]; exact h)
theorem eqv_nil {ns : List Nat} : PyData.eqv (li (ns.map fun i : Nat => (i : Int))) (.list []) = ns.isEmpty := by
  cases ns with
  | nil => rfl
  | cons y ys => rfl
def spSettle (K : PySem.W.Frag) : Sp := fun vs H Q _ => ∃ (S : List Addr) (a : BA) (m n k : Nat) (T : Tab) (lg : Addr) (vv : V) (rows has : List V), vs = [.ref a.p] ∧ Brd K S a m n T H lg vv rows has ∧ Tabs (TT K) H ∧ n ≤ 8 ∧ m ≤ 8 ∧ Lab m n T ∧ 3 * k ≤ 9000 ∧ 1 ≤ k ∧
  (∀ U j, Run m n (SetR m n) T j U → TSz k m n U) ∧
  (∀ H' U j lg' vv' rows' has', Run m n (SetR m n) T j U → (∀ i, i < m → 0 ≤ U.b i) → Brd K S a m n U H' lg' vv' rows' has' → Tabs (TT K) H' → ExtN (hid a.S H) (hid a.S H') → Q .non H') ∧
  ∀ H' U j r lg' vv' rows' has', Run m n (SetR m n) T j U → r < m → U.b r < 0 → (∀ j, j < n → 0 ≤ U.A r j) → Brd K S a m n U H' lg' vv' rows' has' → Tabs (TT K) H' → ExtN (hid a.S H) (hid a.S H') → Q (.int (r : Nat)) H'
abbrev N_settle : List Str := ["self", "below", "i", "row", "some", "j"]
theorem sc_settle : FnScope N_settle ["self"] (defScope m_settle) := ⟨rfl, rfl, rfl, by decide +kernel, rfl, by decide +kernel, by decide +kernel⟩
theorem c_m_settle (T : Txt K mg) (TB : Tbs K mg base) : MCal P w K mg base 8 "settle" ["self"] (spSettle K) := by
  refine mcal_mkL T.F_m_settle T.cls T.m_settle sc_settle (fun _ _ _ _ _ _ us hl => match us, hl with | [_], _ => rfl) (fun vs H Q E ⟨S, a, m, n, k, U, lg, vv, rows, has, h, _⟩ => by rw [h]; rfl) fun cdv A outer s H vs Q E hcdv hr ⟨S, a, m, n, k, T0, lg, vv, rows, has, h1, B, hT, hn, hm, L, hk, k1, zT, kN, kR⟩ => ?_
  subst h1
  subst hcdv
  refine ⟨_, (pss_one (ps_while PassesOwn.never (pt_val pe_bl)
  (pss_cons (ps_setLc (i := 1) (own := [("i", 2)]) rfl sc_settle.nd rfl rfl (sw_true rfl rfl rfl (by decide +kernel)) (pi_range1 rfl T.f_range (pa_cons (pe_callB (lenK K) (by rfl) T.f_len (by decide +kernel) (pa_cons (pe_fldK K (pv 0)) pa_nil)) pa_nil)) (blkOk_by (own := [("i", 2)]) (by kernel_rfl)) (fun _ _ _ _ _ => (pgn 2 sc_settle.nd)) (fun _ _ _ _ _ => (pts_one (pt_cmpR op_lt (pe_ix (ix_tupK K) (pe_ix (ix_listK K) (pe_fldK K (pv 0)) (pv 2) (fun _ _ => rfl)) pe_int (fun _ _ => rfl)) pe_int (nomark _)))) (fun _ _ _ _ _ => (pv 2)))
 (pss_cons (ps_if (pt_cmpR (op_eqD hr.units) (pv 1) (pe_lst pa_nil) (nomark _))
  (pss_one (ps_ret pe_non))
  pss_nil)
 (pss_cons (sset 3 sc_settle.nd (pe_minkey (T := TT K) (is := 0) (pa_cons (pv 1) pa_nil) T.f_min TB.settle rfl (hm_settle K) (hu_settle T) (k := 0) (hr.mono (by decide)) rfl rfl rfl (by decide) (by decide) rfl (fun _ _ _ _ _ _ _ => rfl)))
 (pss_cons (ps_setLc (i := 4) (own := [("j", 5)]) rfl sc_settle.nd rfl rfl (sw_true rfl rfl rfl (by decide +kernel)) (pi_range1 rfl T.f_range (pa_cons (pe_fldK K (pv 0)) pa_nil)) (blkOk_by (own := [("j", 5)]) (by kernel_rfl)) (fun _ _ _ _ _ => (pgn 5 sc_settle.nd)) (fun _ _ _ _ _ => (pts_one (pt_cmpR op_lt (pe_ix (ix_tupK K) (pe_ix (ix_listK K) (pe_ix (ix_listK K) (pe_fldK K (pv 0)) (pv 3) (fun _ _ => rfl)) (pv 5) (fun _ _ => rfl)) pe_int (fun _ _ => rfl)) pe_int (nomark _)))) (fun _ _ _ _ _ => (pv 5)))
 (pss_cons (ps_if (pt_cmpR (op_eqD hr.units) (pv 4) (pe_lst pa_nil) (nomark _))
  (pss_one (ps_ret (pv 3)))
  pss_nil)
 (pss_one (ps_expr (pe_mcal (c_m_turn T) (pv 0) (hr.mono (by decide)) (pa_cons (pv 3) (pa_cons (pe_minkey (T := TT K) (is := 0) (pa_cons (pv 4) pa_nil) T.f_min TB.settle rfl (hm_settle K) (hu_settle T) (k := 0) (hr.mono (by decide)) rfl rfl rfl (by decide) (by decide) rfl (fun _ _ _ _ _ _ _ => rfl)) pa_nil)))))))))))), ?_⟩
  refine ⟨fun μ σ H' => ∃ (i : Nat) (U : Tab) (lg : Addr) (vv : V) (rows has : List V) (o1 o2 o3 o4 o5 : Option V), μ = (n + m) ^ m - i ∧ Run m n (SetR m n) T0 i U ∧ σ = [some (.ref a.p), o1, o2, o3, o4, o5] ∧ Brd K S a m n U H' lg vv rows has ∧ Tabs (TT K) H' ∧ ExtN (hid a.S H) (hid a.S H'),
    ⟨_, 0, T0, lg, vv, rows, has, _, _, _, _, _, rfl, .zero, rfl, B, hT, ExtN.refl _⟩, ?_⟩
  rintro μ σ H0 ⟨i0, U, lg, vv, rows, has, o1, o2, o3, o4, o5, rfl, hrun, rfl, B, hT, X0⟩
  have zU := zT U i0 hrun
  refine ⟨true, rfl, iteT ?_⟩
  refine ⟨fun σ H' => ∃ (U : Tab) (lg : Addr) (vv : V) (rows has : List V) (o1 o2 o3 o4 o5 : Option V), Run m n (SetR m n) T0 (i0 + 1) U ∧ σ = [some (.ref a.p), o1, o2, o3, o4, o5] ∧ Brd K S a m n U H' lg vv rows has ∧ Tabs (TT K) H' ∧ ExtN (hid a.S H) (hid a.S H'), ?_, ?_⟩
  · rintro σ' H' ⟨U, lg, vv, rows, has, o1, o2, o3, o4, o5, r, e, B, hT, X⟩
    have := settle_short r L
    exact ⟨(n + m) ^ m - (i0 + 1), by omega, i0 + 1, U, lg, vv, rows, has, o1, o2, o3, o4, o5, rfl, r, e, B, hT, X⟩
  -- below
  refine ⟨_, rfl, a.p, _, _, _, _, rfl, B.ins, T.cls, T.a_rows, bfs_rows .., _, _, rfl, .inl B.sqR, _, rfl, by omega, by rw [B.lrows]; omega, fun D hD => ?_⟩
  rw [B.lrows, Int.toNat_natCast]
  refine lc_filter (fun i => decide (U.b i < 0)) hD (by omega) (by simp) (fun _ => rfl) ?_ ?_
  · intro i H1 hi s1 Qt hQt
    rw [Int.zero_add]
    have B1 := B.same s1
    refine tTest_i (tOp_i (tOp_i (rdH T B1 hi rfl rfl fun v d => ?_)))
    obtain ⟨x, rfl, hx⟩ := fr_num d
    refine ⟨x, _, 0, _, rfl, rfl, sqT_same hid_le hx, atI_nat (j := 0) (v := .int (U.b i).num) rfl, ?_⟩
    exact ⟨_, _, rfl, rfl, _, rfl, (num_neg (U.b i)) ▸ hQt _ (Same.refl _)⟩
  intro H1 s1 hD1
  rw [natsV_eq] at hD1
  generalize hbl : (List.range m).filter (fun i => decide (U.b i < 0)) = below at hD1
  have hmem : ∀ i, i ∈ below ↔ i < m ∧ U.b i < 0 := fun i => by rw [← hbl, List.mem_filter, List.mem_range, decide_eq_true_eq]
  have hlen : below.length ≤ 8 := by rw [← hbl]; exact Nat.le_trans (List.length_filter_le _ _) (by rw [List.length_range]; exact hm)
  have B1 := B.same s1
  have hT1 := hT.ext s1
  refine ⟨_, rfl, by show 0 ≤ sizeLine; decide, fun p hp => ?_⟩
  have s2 : Same H1 (upd H1 p (.lst [])) := Same.new hp
  have sqD : SqL K (upd H1 p (.lst [])) D (natsV below) := SqL.of (s2 _ _ hD1)
  refine ⟨_, .list [], dp_nats sqD, .lst (SqL.of upd_same) .nil, (sh_li _).shaped (by decide), rfl, ?_⟩
  rw [eqv_nil]
  by_cases hb : below = []
  · refine ⟨true, by rw [hb]; rfl, iteT ?_⟩
    refine kN _ U i0 lg vv rows has hrun (fun i hi => ?_) (B1.same s2) (hT1.ext s2) ?_
    · by_cases q : U.b i < 0
      · have := (hmem i).mpr ⟨hi, q⟩
        rw [hb] at this
        cases this
      · exact Rat.not_lt.mp q
    · exact X0.trans (extN_hid (extN_same (s1.trans s2)))
  refine ⟨false, by cases hq : below with | nil => exact absurd hq hb | cons y ys => rfl, iteF ?_⟩
  -- the row
  have B2 := B1.same s2
  refine ⟨_, rfl, _, rfl, D, below.map fun i : Nat => (i : Int), a.p, _, _, _, a.lb, (List.range m).map fun i => ((U.B i : Nat) : Int), rfl, by rw [natsV_int]; exact sqD, by rw [List.length_map]; exact List.length_pos_iff.mpr hb, by rw [List.length_map, List.length_range]; omega, hT1.ext s2, rfl, B2.ins, T.cls, T.a_basic, bfs_basic .., by rw [intsN_int]; exact B2.sqB, fun z hz => ?_, fun H3 M eN hT3 hM hmin => ?_⟩
  · obtain ⟨i, hi, rfl⟩ := List.mem_map.mp hz
    have := ((hmem i).mp hi).1
    rw [List.length_map, List.length_range]
    omega
  obtain ⟨r, hr0, rfl⟩ := List.mem_map.mp hM
  obtain ⟨hrm, hbr⟩ := (hmem r).mp hr0
  have hleast : ∀ i, i < m → U.b i < 0 → U.B r ≤ U.B i := fun i hi q => by
    have := hmin i (List.mem_map.mpr ⟨i, (hmem i).mpr ⟨hi, q⟩, rfl⟩)
    rw [keyAt_ints hrm, keyAt_ints hi] at this
    omega
  have B3 := B2.ext eN
  have X3 : ExtN (hid a.S H) (hid a.S H3) := X0.trans (extN_hid ((extN_same (s1.trans s2)).trans eN))
  -- some
  refine ⟨_, rfl, a.p, _, _, _, _, rfl, B3.ins, T.cls, T.a_wide, bfs_wide .., _, rfl, by omega, by omega, fun D4 hD4 => ?_⟩
  rw [Int.toNat_natCast]
  refine lc_filter (fun j => decide (U.A r j < 0)) hD4 (by omega) (by simp) (fun _ => rfl) ?_ ?_
  · intro j H4 hj s4 Qt hQt
    rw [Int.zero_add]
    have B4 := B3.same s4
    refine tTest_i (tOp_i (tOp_i (rdA T B4 hrm hj rfl rfl rfl fun v d => ?_)))
    obtain ⟨x, rfl, hx⟩ := fr_num d
    refine ⟨x, _, 0, _, rfl, rfl, sqT_same hid_le hx, atI_nat (j := 0) (v := .int (U.A r j).num) rfl, ?_⟩
    exact ⟨_, _, rfl, rfl, _, rfl, (num_neg (U.A r j)) ▸ hQt _ (Same.refl _)⟩
  intro H4 s4 hD4'
  rw [natsV_eq] at hD4'
  generalize hbl2 : (List.range n).filter (fun j => decide (U.A r j < 0)) = some2 at hD4'
  have hmem2 : ∀ j, j ∈ some2 ↔ j < n ∧ U.A r j < 0 := fun i => by rw [← hbl2, List.mem_filter, List.mem_range, decide_eq_true_eq]
  have hlen2 : some2.length ≤ 8 := by rw [← hbl2]; exact Nat.le_trans (List.length_filter_le _ _) (by rw [List.length_range]; exact hn)
  have B4 := B3.same s4
  have hT4 := hT3.ext s4
  refine ⟨_, rfl, by show 0 ≤ sizeLine; decide, fun p5 hp5 => ?_⟩
  have s5 : Same H4 (upd H4 p5 (.lst [])) := Same.new hp5
  have sqD5 : SqL K (upd H4 p5 (.lst [])) D4 (natsV some2) := SqL.of (s5 _ _ hD4')
  refine ⟨_, .list [], dp_nats sqD5, .lst (SqL.of upd_same) .nil, (sh_li _).shaped (by decide), rfl, ?_⟩
  rw [eqv_nil]
  have B5 := B4.same s5
  have X5 := X3.trans (extN_hid (extN_same (s4.trans s5)))
  by_cases hb2 : some2 = []
  · refine ⟨true, by rw [hb2]; rfl, iteT ?_⟩
    refine ⟨_, rfl, kR _ U i0 r lg vv rows has hrun hrm hbr (fun j hj => ?_) B5 (hT4.ext s5) X5⟩
    by_cases q : U.A r j < 0
    · have := (hmem2 j).mpr ⟨hj, q⟩
      rw [hb2] at this
      cases this
    · exact Rat.not_lt.mp q
  refine ⟨false, by cases hq : some2 with | nil => exact absurd hq hb2 | cons y ys => rfl, iteF ?_⟩
  -- the turn
  refine ⟨_, rfl, a.p, _, _, rfl, B5.ins, bfs_turn .., ?_⟩
  refine ⟨_, rfl, ?_⟩
  refine ⟨_, rfl, _, rfl, D4, some2.map fun i : Nat => (i : Int), a.p, _, _, _, a.lf, (List.range n).map fun i => ((U.F i : Nat) : Int), rfl, by rw [natsV_int]; exact sqD5, by rw [List.length_map]; exact List.length_pos_iff.mpr hb2, by rw [List.length_map, List.length_range]; omega, hT4.ext s5, rfl, B5.ins, T.cls, T.a_free, bfs_free .., by rw [intsN_int]; exact B5.sqF, fun z hz => ?_, fun H6 M eN6 hT6 hM hmin => ?_⟩
  · obtain ⟨i, hi, rfl⟩ := List.mem_map.mp hz
    have := ((hmem2 i).mp hi).1
    rw [List.length_map, List.length_range]
    omega
  obtain ⟨c, hc0, rfl⟩ := List.mem_map.mp hM
  obtain ⟨hcn, hac⟩ := (hmem2 c).mp hc0
  have hleast2 : ∀ j, j < n → U.A r j < 0 → U.F c ≤ U.F j := fun j hj q => by
    have := hmin j (List.mem_map.mpr ⟨j, (hmem2 j).mpr ⟨hj, q⟩, rfl⟩)
    rw [keyAt_ints hcn, keyAt_ints hj] at this
    omega
  have B6 := B5.ext eN6
  have hA : U.A r c ≠ 0 := fun e => by rw [e] at hac; exact absurd hac (by decide)
  have hrun2 : Run m n (SetR m n) T0 (i0 + 1) (U.turn r c) := .succ hrun hrm hcn hA ⟨hrm, hcn, hbr, hac, hleast, hleast2⟩
  refine ⟨S, a, m, n, r, c, k, U, lg, vv, rows, has, rfl, B6, hrm, hcn, hn, hm, hA, zU, zT _ _ hrun2, hk, k1, fun H7 lg' vv' rows' has' B7 S7 => ?_⟩
  refine ⟨U.turn r c, lg', vv', rows', has', _, _, _, _, _, hrun2, rfl, B7, ?_, X5.trans ((extN_hid eN6).trans (extN_same S7))⟩
  exact B6.tabs hT6 S7
end
end K31
namespace K31
open PySem PySem.Spec PyProof.Rows L2 LamX
section
variable {P : Program} {w : World} {K : PySem.W.Frag} {mg : Str → Option Value} {base : Heap}
theorem num_pos' (q : Rat) : decide (0 < q) = decide (q.num > 0) := by
  refine decide_eq_decide.mpr ?_
  rw [Rat.lt_iff]
  show (0 : Int) * (q.den : Int) < q.num * (1 : Int) ↔ _
  omega
def spClimb (K : PySem.W.Frag) : Sp := fun vs H Q _ => ∃ (S : List Addr) (a : BA) (m n k : Nat) (T : Tab) (lg : Addr) (vv : V) (rows has : List V), vs = [.ref a.p] ∧ Brd K S a m n T H lg vv rows has ∧ Tabs (TT K) H ∧ n ≤ 8 ∧ m ≤ 8 ∧ Lab m n T ∧ (∀ i, i < m → 0 ≤ T.b i) ∧ 3 * k ≤ 9000 ∧ 1 ≤ k ∧
  (∀ U j, Run m n (CliR m n) T j U → TSz k m n U) ∧
  (∀ H' U j lg' vv' rows' has', Run m n (CliR m n) T j U → (∀ j, j < n → U.c j ≤ 0) → Brd K S a m n U H' lg' vv' rows' has' → Tabs (TT K) H' → ExtN (hid a.S H) (hid a.S H') → Q .non H') ∧
  ∀ H' U j c lg' vv' rows' has', Run m n (CliR m n) T j U → c < n → 0 < U.c c → (∀ i, i < m → U.A i c ≤ 0) → Brd K S a m n U H' lg' vv' rows' has' → Tabs (TT K) H' → ExtN (hid a.S H) (hid a.S H') → Q (.int (c : Nat)) H'
abbrev N_climb : List Str := ["self", "some", "j", "column", "rows", "i"]
theorem sc_climb : FnScope N_climb ["self"] (defScope m_climb) := ⟨rfl, rfl, rfl, by decide +kernel, rfl, by decide +kernel, by decide +kernel⟩
theorem c_m_climb (T : Txt K mg) (TB : Tbs K mg base) : MCal P w K mg base 8 "climb" ["self"] (spClimb K) := by
  refine mcal_mkL T.F_m_climb T.cls T.m_climb sc_climb (fun _ _ _ _ _ _ us hl => match us, hl with | [_], _ => rfl) (fun vs H Q E ⟨S, a, m, n, k, U, lg, vv, rows, has, h, _⟩ => by rw [h]; rfl) fun cdv A outer s H vs Q E hcdv hr ⟨S, a, m, n, k, T0, lg, vv, rows, has, h1, B, hT, hn, hm, L, hb0, hk, k1, zT, kN, kC⟩ => ?_
  subst h1
  subst hcdv
  refine ⟨_, (pss_one (ps_while PassesOwn.never (pt_val pe_bl)
  (pss_cons (ps_setLc (i := 1) (own := [("j", 2)]) rfl sc_climb.nd rfl rfl (sw_true rfl rfl rfl (by decide +kernel)) (pi_range1 rfl T.f_range (pa_cons (pe_fldK K (pv 0)) pa_nil)) (blkOk_by (own := [("j", 2)]) (by kernel_rfl)) (fun _ _ _ _ _ => (pgn 2 sc_climb.nd)) (fun _ _ _ _ _ => (pts_one (pt_cmpR op_gt (pe_ix (ix_tupK K) (pe_ix (ix_listK K) (pe_fldK K (pv 0)) (pv 2) (fun _ _ => rfl)) pe_int (fun _ _ => rfl)) pe_int (nomark _)))) (fun _ _ _ _ _ => (pv 2)))
 (pss_cons (ps_if (pt_cmpR (op_eqD hr.units) (pv 1) (pe_lst pa_nil) (nomark _))
  (pss_one (ps_ret pe_non))
  pss_nil)
 (pss_cons (sset 3 sc_climb.nd (pe_minkey (T := TT K) (is := 0) (pa_cons (pv 1) pa_nil) T.f_min TB.climb rfl (hm_climb K) (hu_climb T) (k := 0) (hr.mono (by decide)) rfl rfl rfl (by decide) (by decide) rfl (fun _ _ _ _ _ _ _ => rfl)))
 (pss_cons (ps_setLc (i := 4) (own := [("i", 5)]) rfl sc_climb.nd rfl rfl (sw_true rfl rfl rfl (by decide +kernel)) (pi_range1 rfl T.f_range (pa_cons (pe_callB (lenK K) (by rfl) T.f_len (by decide +kernel) (pa_cons (pe_fldK K (pv 0)) pa_nil)) pa_nil)) (blkOk_by (own := [("i", 5)]) (by kernel_rfl)) (fun _ _ _ _ _ => (pgn 5 sc_climb.nd)) (fun _ _ _ _ _ => (pts_one (pt_cmpR op_gt (pe_ix (ix_tupK K) (pe_ix (ix_listK K) (pe_ix (ix_listK K) (pe_fldK K (pv 0)) (pv 5) (fun _ _ => rfl)) (pv 3) (fun _ _ => rfl)) pe_int (fun _ _ => rfl)) pe_int (nomark _)))) (fun _ _ _ _ _ => (pv 5)))
 (pss_cons (ps_if (pt_cmpR (op_eqD hr.units) (pv 4) (pe_lst pa_nil) (nomark _))
  (pss_one (ps_ret (pv 3)))
  pss_nil)
 (pss_one (ps_expr (pe_mcal (c_m_turn T) (pv 0) (hr.mono (by decide)) (pa_cons (pe_mcal (c_m_first_met T) (pv 0) (hr.mono (by decide)) (pa_cons (pv 4) (pa_cons (pv 3) pa_nil))) (pa_cons (pv 3) pa_nil)))))))))))), ?_⟩
  refine ⟨fun μ σ H' => ∃ (i : Nat) (U : Tab) (lg : Addr) (vv : V) (rows has : List V) (o1 o2 o3 o4 o5 : Option V), μ = (n + m) ^ m - i ∧ Run m n (CliR m n) T0 i U ∧ σ = [some (.ref a.p), o1, o2, o3, o4, o5] ∧ Brd K S a m n U H' lg vv rows has ∧ Tabs (TT K) H' ∧ ExtN (hid a.S H) (hid a.S H'),
    ⟨_, 0, T0, lg, vv, rows, has, _, _, _, _, _, rfl, .zero, rfl, B, hT, ExtN.refl _⟩, ?_⟩
  rintro μ σ H0 ⟨i0, U, lg, vv, rows, has, o1, o2, o3, o4, o5, rfl, hrun, rfl, B, hT, X0⟩
  have zU := zT U i0 hrun
  refine ⟨true, rfl, iteT ?_⟩
  refine ⟨fun σ H' => ∃ (U : Tab) (lg : Addr) (vv : V) (rows has : List V) (o1 o2 o3 o4 o5 : Option V), Run m n (CliR m n) T0 (i0 + 1) U ∧ σ = [some (.ref a.p), o1, o2, o3, o4, o5] ∧ Brd K S a m n U H' lg vv rows has ∧ Tabs (TT K) H' ∧ ExtN (hid a.S H) (hid a.S H'), ?_, ?_⟩
  · rintro σ' H' ⟨U, lg, vv, rows, has, o1, o2, o3, o4, o5, r, e, B, hT, X⟩
    have := climb_short r L hb0
    exact ⟨(n + m) ^ m - (i0 + 1), by omega, i0 + 1, U, lg, vv, rows, has, o1, o2, o3, o4, o5, rfl, r, e, B, hT, X⟩
  -- some
  refine ⟨_, rfl, a.p, _, _, _, _, rfl, B.ins, T.cls, T.a_wide, bfs_wide .., _, rfl, by omega, by omega, fun D hD => ?_⟩
  rw [Int.toNat_natCast]
  refine lc_filter (fun j => decide (0 < U.c j)) hD (by omega) (by simp) (fun _ => rfl) ?_ ?_
  · intro i H1 hi s1 Qt hQt
    rw [Int.zero_add]
    have B1 := B.same s1
    refine tTest_i (tOp_i (tOp_i (rdC T B1 hi rfl rfl fun v d => ?_)))
    obtain ⟨x, rfl, hx⟩ := fr_num d
    refine ⟨x, _, 0, _, rfl, rfl, sqT_same hid_le hx, atI_nat (j := 0) (v := .int (U.c i).num) rfl, ?_⟩
    exact ⟨_, _, rfl, rfl, _, rfl, (num_pos' (U.c i)) ▸ hQt _ (Same.refl _)⟩
  intro H1 s1 hD1
  rw [natsV_eq] at hD1
  generalize hbl : (List.range n).filter (fun j => decide (0 < U.c j)) = below at hD1
  have hmem : ∀ i, i ∈ below ↔ i < n ∧ 0 < U.c i := fun i => by rw [← hbl, List.mem_filter, List.mem_range, decide_eq_true_eq]
  have hlen : below.length ≤ 8 := by rw [← hbl]; exact Nat.le_trans (List.length_filter_le _ _) (by rw [List.length_range]; exact hn)
  have B1 := B.same s1
  have hT1 := hT.ext s1
  refine ⟨_, rfl, by show 0 ≤ sizeLine; decide, fun p hp => ?_⟩
  have s2 : Same H1 (upd H1 p (.lst [])) := Same.new hp
  have sqD : SqL K (upd H1 p (.lst [])) D (natsV below) := SqL.of (s2 _ _ hD1)
  refine ⟨_, .list [], dp_nats sqD, .lst (SqL.of upd_same) .nil, (sh_li _).shaped (by decide), rfl, ?_⟩
  rw [eqv_nil]
  by_cases hb : below = []
  · refine ⟨true, by rw [hb]; rfl, iteT ?_⟩
    refine kN _ U i0 lg vv rows has hrun (fun i hi => ?_) (B1.same s2) (hT1.ext s2) ?_
    · by_cases q : 0 < U.c i
      · have := (hmem i).mpr ⟨hi, q⟩
        rw [hb] at this
        cases this
      · exact Rat.not_lt.mp q
    · exact X0.trans (extN_hid (extN_same (s1.trans s2)))
  refine ⟨false, by cases hq : below with | nil => exact absurd hq hb | cons y ys => rfl, iteF ?_⟩
  -- the column
  have B2 := B1.same s2
  refine ⟨_, rfl, _, rfl, D, below.map fun i : Nat => (i : Int), a.p, _, _, _, a.lf, (List.range n).map fun i => ((U.F i : Nat) : Int), rfl, by rw [natsV_int]; exact sqD, by rw [List.length_map]; exact List.length_pos_iff.mpr hb, by rw [List.length_map, List.length_range]; omega, hT1.ext s2, rfl, B2.ins, T.cls, T.a_free, bfs_free .., by rw [intsN_int]; exact B2.sqF, fun z hz => ?_, fun H3 M eN hT3 hM hmin => ?_⟩
  · obtain ⟨i, hi, rfl⟩ := List.mem_map.mp hz
    have := ((hmem i).mp hi).1
    rw [List.length_map, List.length_range]
    omega
  obtain ⟨c, hc0, rfl⟩ := List.mem_map.mp hM
  obtain ⟨hcn, hgc⟩ := (hmem c).mp hc0
  have hleast : ∀ j, j < n → 0 < U.c j → U.F c ≤ U.F j := fun i hi q => by
    have := hmin i (List.mem_map.mpr ⟨i, (hmem i).mpr ⟨hi, q⟩, rfl⟩)
    rw [keyAt_ints hcn, keyAt_ints hi] at this
    omega
  have B3 := B2.ext eN
  have X3 : ExtN (hid a.S H) (hid a.S H3) := X0.trans (extN_hid ((extN_same (s1.trans s2)).trans eN))
  -- rows
  refine ⟨_, rfl, a.p, _, _, _, _, rfl, B3.ins, T.cls, T.a_rows, bfs_rows .., _, _, rfl, .inl B3.sqR, _, rfl, by omega, by rw [B3.lrows]; omega, fun D4 hD4 => ?_⟩
  rw [B3.lrows, Int.toNat_natCast]
  refine lc_filter (fun i => decide (0 < U.A i c)) hD4 (by omega) (by simp) (fun _ => rfl) ?_ ?_
  · intro i H4 hi s4 Qt hQt
    rw [Int.zero_add]
    have B4 := B3.same s4
    refine tTest_i (tOp_i (tOp_i (rdA T B4 hi hcn rfl rfl rfl fun v d => ?_)))
    obtain ⟨x, rfl, hx⟩ := fr_num d
    refine ⟨x, _, 0, _, rfl, rfl, sqT_same hid_le hx, atI_nat (j := 0) (v := .int (U.A i c).num) rfl, ?_⟩
    exact ⟨_, _, rfl, rfl, _, rfl, (num_pos' (U.A i c)) ▸ hQt _ (Same.refl _)⟩
  intro H4 s4 hD4'
  rw [natsV_eq] at hD4'
  generalize hbl2 : (List.range m).filter (fun i => decide (0 < U.A i c)) = some2 at hD4'
  have hmem2 : ∀ i, i ∈ some2 ↔ i < m ∧ 0 < U.A i c := fun i => by rw [← hbl2, List.mem_filter, List.mem_range, decide_eq_true_eq]
  have hlen2 : some2.length ≤ 8 := by rw [← hbl2]; exact Nat.le_trans (List.length_filter_le _ _) (by rw [List.length_range]; exact hm)
  have B4 := B3.same s4
  have hT4 := hT3.ext s4
  refine ⟨_, rfl, by show 0 ≤ sizeLine; decide, fun p5 hp5 => ?_⟩
  have s5 : Same H4 (upd H4 p5 (.lst [])) := Same.new hp5
  have sqD5 : SqL K (upd H4 p5 (.lst [])) D4 (natsV some2) := SqL.of (s5 _ _ hD4')
  refine ⟨_, .list [], dp_nats sqD5, .lst (SqL.of upd_same) .nil, (sh_li _).shaped (by decide), rfl, ?_⟩
  rw [eqv_nil]
  have B5 := B4.same s5
  have X5 := X3.trans (extN_hid (extN_same (s4.trans s5)))
  by_cases hb2 : some2 = []
  · refine ⟨true, by rw [hb2]; rfl, iteT ?_⟩
    refine ⟨_, rfl, kC _ U i0 c lg vv rows has hrun hcn hgc (fun i hi => ?_) B5 (hT4.ext s5) X5⟩
    by_cases q : 0 < U.A i c
    · have := (hmem2 i).mpr ⟨hi, q⟩
      rw [hb2] at this
      cases this
    · exact Rat.not_lt.mp q
  refine ⟨false, by cases hq : some2 with | nil => exact absurd hq hb2 | cons y ys => rfl, iteF ?_⟩
  -- the turn
  refine ⟨_, rfl, a.p, _, _, rfl, B5.ins, bfs_turn .., ?_⟩
  refine ⟨_, rfl, a.p, _, _, rfl, B5.ins, bfs_first .., ?_⟩
  refine ⟨_, rfl, _, rfl, S, a, m, n, c, k, U, lg, vv, rows, has, D4, some2, rfl, B5, hcn, hn, hm, sqD5, hb2, hlen2, fun i hi => ?_, zU, by omega, by omega, fun H6 r s6 hr0 hmet => ?_⟩
  · obtain ⟨h1, h2⟩ := (hmem2 i).mp hi
    exact ⟨h1, fun e => by rw [e] at h2; exact absurd h2 (by decide)⟩
  obtain ⟨hrm, har⟩ := (hmem2 r).mp hr0
  have B6 := B5.same s6
  have hA : U.A r c ≠ 0 := fun e => by rw [e] at har; exact absurd har (by decide)
  have hrun2 : Run m n (CliR m n) T0 (i0 + 1) (U.turn r c) := .succ hrun hrm hcn hA ⟨hrm, hcn, hgc, har, hleast, fun i hi hp => hmet i ((hmem2 i).mpr ⟨hi, hp⟩)⟩
  refine ⟨_, rfl, ?_⟩
  refine ⟨S, a, m, n, r, c, k, U, lg, vv, rows, has, rfl, B6, hrm, hcn, hn, hm, hA, zU, zT _ _ hrun2, hk, k1, fun H7 lg' vv' rows' has' B7 S7 => ?_⟩
  exact ⟨U.turn r c, lg', vv', rows', has', _, _, _, _, _, hrun2, rfl, B7, B6.tabs ((hT4.ext s5).ext s6) S7, X5.trans ((extN_same (same_hid s6)).trans (extN_same S7))⟩
end
end K31
namespace K31
open PySem PySem.Spec PyProof.Rows L2 LamX
section
variable {X : Cx} {k : Nat} {ps : List Str} {sp : Sp} {p pos : Pos} {e : Expr} {es : List Expr} {t : TA} {x : Str}
theorem pe_mkc (C : MCal X.prog X.w X.K X.mg X.base k "__init__" ps sp) (M : Mk X.K (He.ga X.K "Board") (He.ma X.K (He.ga X.K "Board") "__init__")) (hr : Room (k + 1) X.A) (hm : X.mg x = some (.ref (He.ga X.K "Board"))) (ha : PA X (e :: es) t) (hg : Gl X x := by rfl) (hdb : (x == ("__debug__" : Str)) = false := by decide)
    (he : starEach (e :: es) X.env = (false, eval e X.env) :: starEach es X.env := by rfl) (hpl : (backTo pos (starEach es X.env)).any (·.1) = false := by rfl) :
    PE X (.Call (.Name x p) (e :: es) [] pos) (tMake (He.ga X.K "Board") sp [] E0 t) := by
  obtain ⟨fd, F, b⟩ := C.ex
  exact pe_make M F hr hg hm b .nil pass0 ha hdb he hpl
end
theorem Over.tsz {k m n : Nat} {U : Tab} {D : Int} (h : Over k m n U D) : TSz k m n U where
  A := fun i j hi hj => let ⟨_, n1, n2⟩ := h.A i j hi hj; sz_over h.d0 h.dk n1 n2
  b := fun i hi => let ⟨_, n1, n2⟩ := h.b i hi; sz_over h.d0 h.dk n1 n2
  c := fun j hj => let ⟨_, n1, n2⟩ := h.c j hj; sz_over h.d0 h.dk n1 n2
  v := let ⟨_, n1, n2⟩ := h.v; sz_over h.d0 h.dk n1 n2
theorem TaskOk.bestOk {m n : Nat} {tb : List (List Int)} {bs gs : List Int} {v : Rat} {x y : Nat → Rat} (h : TaskOk m n tb bs gs) (I : IsBest m n (vA tb) (vL bs) (vL gs) v x y) (ox : OverD 2740 n x) (oy : OverD 2740 m y) : BestOk 2740 100 m n tb bs gs v x y := by
  have big : ∀ z : Int, z.natAbs ≤ 10 ^ 30 → z.natAbs < 2 ^ 100 := fun z hz => Nat.lt_of_le_of_lt hz (by decide)
  refine ⟨h.ok, h.lb, h.lg, I.fx.pos, I.fy.pos, fun i row e => ?_, fun j col e => ?_, ⟨h.lg, ox, fun j hj => big _ (h.eg j hj), by decide, h.ok.n8, by decide⟩, ⟨h.lb, oy, fun i hi => big _ (h.eb i hi), by decide, h.ok.m8, by decide⟩, I.vx, I.vy⟩
  · have hi : i < m := by
      have := (List.getElem?_eq_some_iff.mp e).1
      rwa [h.ok.len] at this
    obtain ⟨r, tr, lr, er⟩ := h.ok.at hi
    rw [e] at tr
    cases tr
    refine ⟨⟨lr, ox, fun j hj => ?_, by decide, h.ok.n8, by decide⟩, big _ (h.eb i hi), ?_⟩
    · rw [er]; exact big _ (h.et i j hi hj)
    · have := I.fx.keeps i hi
      rw [show wsum n row x = sm n (fun j => vA tb i j * x j) from sm_congr fun j _ => by rw [er]]
      exact this
  · unfold colsOf at e
    rw [List.getElem?_map] at e
    have hj : j < n := by
      by_cases q : j < n
      · exact q
      · rw [List.getElem?_eq_none (by rw [List.length_range]; omega)] at e; cases e
    rw [List.getElem?_range hj] at e
    cases e
    have ec : ∀ i, i < m → gd (tb.map fun r => gd r j) i = ent tb i j := fun i hi => by
      obtain ⟨r, tr, lr, er⟩ := h.ok.at hi
      show (tb.map fun r => gd r j).getD i 0 = _
      rw [List.getD_eq_getElem?_getD, List.getElem?_map, tr]
      exact er j
    refine ⟨⟨by rw [List.length_map, h.ok.len], oy, fun i hi => ?_, by decide, h.ok.m8, by decide⟩, big _ (h.eg j hj), ?_⟩
    · rw [ec i hi]; exact big _ (h.et i j hi hj)
    · have := I.fy.keeps j hj
      rw [show wsum m (tb.map fun r => gd r j) y = sm m (fun i => vA tb i j * y i) from sm_congr fun i hi => by rw [ec i hi]]
      exact this
section
variable {P : Program} {w : World} {K : PySem.W.Frag} {mg : Str → Option Value} {base : Heap}
theorem tRet_i {te : TE} {D : Ends} {σ : L2.St} {H : Hp} (h : te σ H D.rt) : tRet te D σ H := h
theorem tNext_i {D : Ends} {σ : L2.St} {H : Hp} (h : D.nx σ H) : tNext D σ H := h
theorem tTup_i {t : TA} {σ : L2.St} {H : Hp} {Q : VK} (h : t σ H fun xs H1 => xs.length ≤ sizeLine ∧ ∀ p, H1 p = none → Q (.ref p) (upd H1 p (.tup xs))) : tTup t σ H Q := h
def spBest (K : PySem.W.Frag) : Sp := fun vs H Q _ => ∃ (S : List Addr) (m n : Nat) (tb : List (List Int)) (bs gs : List Int), There S H ∧ DpAll K (hid S H) vs [lt tb, li bs, li gs] ∧ TaskOk m n tb bs gs ∧ Tabs (TT K) H ∧
  (∀ H' p rest y, ExtN H H' → Tabs (TT K) H' → IsNone m n (vA tb) (vL bs) y → H' p = some (.tup (.str "none" :: rest)) → Q (.ref p) H') ∧
  (∀ H' p rest x z, ExtN H H' → Tabs (TT K) H' → IsOpen m n (vA tb) (vL bs) (vL gs) x z → H' p = some (.tup (.str "open" :: rest)) → Q (.ref p) H') ∧
  ∀ H' p v x y, ExtN H H' → Tabs (TT K) H' → IsBest m n (vA tb) (vL bs) (vL gs) v x y → OverD 2740 n x → OverD 2740 m y → Dp K (hid S H') (.ref p) (bestD n m v x y) → Q (.ref p) H'
abbrev N_best : List Str := ["table", "bounds", "gains", "board", "row", "column"]
theorem sc_best : FnScope N_best ["table", "bounds", "gains"] (defScope s_best) := ⟨rfl, rfl, rfl, by decide +kernel, rfl, by decide +kernel, by decide +kernel⟩
theorem c_best (T : Txt K mg) (TB : Tbs K mg base) : Cal P w K mg base 9 "best" ["table", "bounds", "gains"] (spBest K) := by
  refine cal_mk T.F_s_best T.g_best sc_best (fun _ _ _ _ _ _ us hl => match us, hl with | [_, _, _], _ => rfl) (fun vs H Q E ⟨_, _, _, _, _, _, _, h, _⟩ => h.length) fun cdv A outer s H vs Q E hr h => ?_
  obtain ⟨S, m, n, tb, bs, gs, hS, hd, tk, hT, kN, kO, kB⟩ := h
  obtain ⟨v1, v2, v3, rfl, h1, h2, h3⟩ := dp3 hd
  have n8 := tk.ok.n8
  have m8 := tk.ok.m8
  refine ⟨_, (pss_cons (ps_expr (pe_cal (c_check_task T) (hr.mono (by decide)) (pa_cons (pv 0) (pa_cons (pv 1) (pa_cons (pv 2) pa_nil)))))
 (pss_cons (sset 3 sc_best.nd (pe_mkc (c_m___init__ T) T.mkr (hr.mono (by decide)) T.g_Board (pa_cons (pv 0) (pa_cons (pv 1) (pa_cons (pv 2) pa_nil)))))
 (pss_cons (sset 4 sc_best.nd (pe_mcal0 (c_m_settle T TB) (pv 3) (hr.mono (by decide))))
 (pss_cons (ps_if (pt_cmpR op_notN (pv 4) pe_non (nomark _))
  (pss_one (ps_ret (pe_tup (pa_cons pe_str (pa_cons (pe_mcal (c_m_shown T) (pv 3) (hr.mono (by decide)) (pa_cons (pv 4) pa_nil)) pa_nil)))))
  pss_nil)
 (pss_cons (sset 5 sc_best.nd (pe_mcal0 (c_m_climb T TB) (pv 3) (hr.mono (by decide))))
 (pss_cons (ps_if (pt_cmpR op_notN (pv 5) pe_non (nomark _))
  (pss_one (ps_ret (pe_tup (pa_cons pe_str (pa_cons (pe_mcal0 (c_m_xs T) (pv 3) (hr.mono (by decide))) (pa_cons (pe_mcal (c_m_way T) (pv 3) (hr.mono (by decide)) (pa_cons (pv 5) pa_nil)) pa_nil))))))
  pss_nil)
 (pss_one (ps_ret (pe_tup (pa_cons pe_str (pa_cons (pe_fldK K (pv 3)) (pa_cons (pe_mcal0 (c_m_xs T) (pv 3) (hr.mono (by decide))) (pa_cons (pe_mcal0 (c_m_prices T) (pv 3) (hr.mono (by decide))) pa_nil))))))))))))), ?_⟩
  refine ⟨_, rfl, _, rfl, _, rfl, S, _, _, hS, .cons h1 (.cons h2 (.cons h3 .nil)), ⟨m, n, tb, bs, gs, rfl, tk.ok, tk.lb, tk.lg, rfl⟩, fun H2 w2 s2 d2 => ?_⟩
  refine ⟨_, rfl, _, rfl, _, rfl, fun x dx hx hdx ne => ?_⟩
  show spInit K [.ref x, v1, v2, v3] (upd (upd H2 dx (.own x)) x (.ins (He.ga K "Board") dx [])) _ _
  generalize hG : upd (upd H2 dx (.own x)) x (.ins (He.ga K "Board") dx []) = H3
  have s3 : Same H2 H3 := by rw [← hG]; exact (Same.new hdx).trans (Same.new (by rw [upd_ne (Ne.symm ne)]; exact hx))
  have x3 : H3 x = some (.ins (He.ga K "Board") dx []) := by rw [← hG, upd_same]
  have hS2 := hS.same s2
  refine ⟨S, x, dx, m, n, tb, bs, gs, _, _, _, rfl, .cons x3 (hS2.same s3), hS2.new hx, x3, dp_past (h1.hs s2) hx s3, dp_past (h2.hs s2) hx s3, dp_past (h3.hs s2) hx s3, tk.ok, tk.lb, tk.lg, fun H4 lf lb lr lh lg vv rows has B S4 fr4 => ⟨rfl, ?_⟩⟩
  have s24 : Same H2 H4 := fun b o e => same_at S4 (by simp [ne_of_none e hx]) (s3 _ _ e)
  have frH : ∀ y ∈ (BA.mk x dx lf lb lr lh).S, H2 y = none := fun y hy => by
    rcases List.mem_cons.mp hy with e | hy
    · rw [e]; exact hx
    · exact s3.free (fr4 y hy)
  have hT4 : Tabs (TT K) H4 := (hT.ext s2).ext s24
  have far : ∀ {G : Hp}, ExtN (hid (BA.mk x dx lf lb lr lh).S H4) (hid (BA.mk x dx lf lb lr lh).S G) → ExtN H G := fun {G} e b o h nt => by
    have h2 := s2 _ _ h
    have q : b ∉ (BA.mk x dx lf lb lr lh).S := fun q => by rw [frH b q] at h2; cases h2
    have := e b o (by rw [hid_out q]; exact s24 _ _ h2) nt
    rwa [hid_out q] at this
  have sub : ∀ {G : Hp}, Same (hid (lh :: lr :: lb :: lf :: x :: S) G) (hid S G) := hid_cons.trans (hid_cons.trans (hid_cons.trans (hid_cons.trans hid_cons)))
  have L0 : Lab m n (startT n tb bs gs) := Lab.start ..
  clear hG
  -- settle
  refine ⟨_, rfl, x, _, _, rfl, B.ins, bfs_settle .., ?_⟩
  refine ⟨_, _, m, n, 2740, _, lg, vv, rows, has, rfl, B, hT4, n8, m8, L0, by decide, by decide, fun U j r => ?_, fun H5 U j lg' vv' rows' has' r hb B5 hT5 X5 => ?_, fun H5 U j i lg' vv' rows' has' r him hbi hA B5 hT5 X5 => ?_⟩
  · obtain ⟨D, hD⟩ := tk.over (r.lab L0) r.eqv
    exact hD.tsz
  rotate_left
  · -- none
    have L5 := r.lab L0
    refine ⟨_, rfl, rfl, true, rfl, iteT ?_⟩
    refine tRet_i (tTup_i (tCons_i (tC_i (tCons_i (tMeth_i ?_)))))
    refine ⟨_, rfl, x, _, _, rfl, B5.ins, bfs_shown .., ?_⟩
    refine ⟨_, rfl, _, _, m, n, i, U, _, _, _, _, rfl, B5, him, n8, m8, L5, fun H6 v6 s6 => ?_⟩
    refine ⟨by show 2 ≤ sizeLine; decide, fun p hp => ?_⟩
    have X6 : ExtN H H6 := fun b o e nt => s6 _ _ (far X5 b o e nt)
    exact kN _ p _ _ (X6.trans (extN_same (Same.new hp))) ((hT5.ext s6).ext (Same.new hp)) (none_of L5 r.eqv him hbi hA) upd_same
  · -- climb
    have L5 := r.lab L0
    have E5 : Eqv m n U (startT n tb bs gs) := r.eqv
    refine ⟨_, rfl, rfl, false, rfl, iteF ?_⟩
    refine ⟨_, rfl, x, _, _, rfl, B5.ins, bfs_climb .., ?_⟩
    refine ⟨_, _, m, n, 2740, U, lg', vv', rows', has', rfl, B5, hT5, n8, m8, L5, hb, by decide, by decide, fun V j r2 => ?_, fun H6 V j lg6 vv6 rows6 has6 r2 hc B6 hT6 X6 => ?_, fun H6 V j c lg6 vv6 rows6 has6 r2 hcn hgc hA B6 hT6 X6 => ?_⟩
    · obtain ⟨D, hD⟩ := tk.over (r2.lab L5) (r2.eqv.trans E5)
      exact hD.tsz
    · -- best
      have L6 := r2.lab L5
      have E6 := r2.eqv.trans E5
      have hb6 := r2.pos hb
      obtain ⟨D, hD⟩ := tk.over L6 E6
      have I := best_of L6 E6 hb6 hc
      have X46 := X5.trans X6
      refine ⟨_, rfl, rfl, false, rfl, iteF ?_⟩
      refine ⟨_, rfl, x, _, _, _, _, rfl, B6.ins, T.cls, T.a_value, bfs_value .., ?_⟩
      refine ⟨_, rfl, x, _, _, rfl, B6.ins, bfs_xs .., ?_⟩
      refine ⟨_, _, m, n, V, _, _, _, _, rfl, B6, n8, m8, L6, fun H7 l7 s7 d7 => ?_⟩
      have B7 := B6.same s7
      refine tCons_i (tMeth_i ?_)
      refine ⟨_, rfl, x, _, _, rfl, B7.ins, bfs_prices .., ?_⟩
      refine ⟨_, _, m, n, 2740, V, _, _, _, _, rfl, B7, n8, m8, L6, hD.tsz, by decide, fun H8 l8 s8 d8 => ?_⟩
      refine ⟨by show 4 ≤ sizeLine; decide, fun p hp => ?_⟩
      have s9 : Same H8 (upd H8 p (.tup [.str "best", vv6, .ref l7, .ref l8])) := Same.new hp
      have B9 := (B7.same s8).same s9
      have X9 : ExtN H (upd H8 p (.tup [.str "best", vv6, .ref l7, .ref l8])) := fun b o e nt => s9 _ _ (s8 _ _ (s7 _ _ (far X46 b o e nt)))
      have pS : p ∉ S := fun q => by
        have := (B7.th.same s8).new hp
        simp only [List.mem_cons, not_or] at this
        exact this.2.2.2.2.2 q
      refine kB _ p V.v _ _ X9 (((hT6.ext s7).ext s8).ext s9) I (hD.xs L6) (hD.ys L6) (.tup (SqT.of (by rw [hid_out pS, upd_same])) ?_)
      exact .cons (.str _) (.cons (B9.dval.same sub) (.cons (((d7.hs s8).hs s9).same sub) (.cons ((d8.hs s9).same sub) .nil)))
    · -- open
      have L6 := r2.lab L5
      have E6 := r2.eqv.trans E5
      have hb6 := r2.pos hb
      obtain ⟨D, hD⟩ := tk.over L6 E6
      have X46 := X5.trans X6
      refine ⟨_, rfl, rfl, true, rfl, iteT ?_⟩
      refine tRet_i (tTup_i (tCons_i (tC_i (tCons_i (tMeth_i ?_)))))
      refine ⟨_, rfl, x, _, _, rfl, B6.ins, bfs_xs .., ?_⟩
      refine ⟨_, _, m, n, V, _, _, _, _, rfl, B6, n8, m8, L6, fun H7 l7 s7 d7 => ?_⟩
      have B7 := B6.same s7
      refine tCons_i (tMeth_i ?_)
      refine ⟨_, rfl, x, _, _, rfl, B7.ins, bfs_way .., ?_⟩
      refine ⟨_, rfl, _, _, m, n, c, 2740, V, _, _, _, _, rfl, B7, hcn, n8, m8, L6, hD.tsz, by decide, fun H8 v8 s8 => ?_⟩
      refine ⟨by show 3 ≤ sizeLine; decide, fun p hp => ?_⟩
      have X8 : ExtN H H8 := fun b o e nt => s8 _ _ (s7 _ _ (far X46 b o e nt))
      exact kO _ p _ _ _ (X8.trans (extN_same (Same.new hp))) (((hT6.ext s7).ext s8).ext (Same.new hp)) (open_of L6 E6 hb6 hcn hgc hA) upd_same
end
end K31
namespace K31
open PySem PySem.Spec PyProof.Rows L2
section
variable {P : Program} {w : World} {K : PySem.W.Frag} {mg : Str → Option Value} {base : Heap}
/-! the source that draws -/
structure SrcAt (src : Addr) (z : Nat) (H : Hp) : Prop where
  ex : ∃ x y t : Int, H src = some (.lst [.int x, .int y, .int t]) ∧ 0 ≤ x ∧ 0 ≤ y ∧ y < 2147483647 ∧ 0 ≤ t ∧ t ≤ z
theorem SrcAt.mono {src : Addr} {z z' : Nat} {H : Hp} (h : SrcAt src z H) (hz : z ≤ z') : SrcAt src z' H := let ⟨x, y, t, e, h1, h2, h3, h4, h5⟩ := h.ex; ⟨x, y, t, e, h1, h2, h3, h4, by omega⟩
theorem SrcAt.same {src : Addr} {z : Nat} {H H' : Hp} (h : SrcAt src z H) (s : Same H H') : SrcAt src z H' := let ⟨x, y, t, e, r⟩ := h.ex; ⟨x, y, t, s _ _ e, r⟩
theorem SrcAt.there {src : Addr} {z : Nat} {H : Hp} (h : SrcAt src z H) : There [src] H := let ⟨_, _, _, e, _⟩ := h.ex; .cons e .nil
theorem fmod_lo {i j : Int} (h : 0 < j) : 0 ≤ i.fmod j ∧ i.fmod j < j := by
  rw [Int.fmod_eq_emod_of_nonneg _ (by omega)]
  exact ⟨Int.emod_nonneg _ (by omega), Int.emod_lt_of_pos _ h⟩
def spSource (K : PySem.W.Frag) : Sp := fun vs H Q _ => ∃ c : Int, vs = [.int c] ∧ ∀ H' p, H p = none → Same H H' → SrcAt p 0 H' → Q (.ref p) H'
abbrev N__law_source_of : List Str := ["_law_cell"]
theorem sc__law_source_of : FnScope N__law_source_of ["_law_cell"] (defScope s__law_source_of) := ⟨rfl, rfl, rfl, by decide +kernel, rfl, by decide +kernel, by decide +kernel⟩
theorem c__law_source_of (T : Txt K mg) : Cal P w K mg base 1 "_law_source_of" ["_law_cell"] (spSource K) := by
  refine cal_mk T.F_s__law_source_of T.g__law_source_of sc__law_source_of (fun _ _ _ _ _ _ us hl => match us, hl with | [_], _ => rfl) (fun vs H Q E ⟨_, h, _⟩ => by rw [h]; rfl) fun cdv A outer s H vs Q E hr ⟨c, h1, kq⟩ => ?_
  subst h1
  refine ⟨_, (pss_one (ps_ret (pe_lst (pa_cons (pe_op op_mul (pv 0) (pe_callTy call_int1 (by rfl) T.f_int (by decide +kernel) (pa_cons (pe_cmpR op_ge (pv 0) (pe_op op_pow pe_int pe_int) (nomark _)) pa_nil))) (pa_cons (pe_op op_modN (pv 0) pe_int) (pa_cons pe_int pa_nil)))))), ?_⟩
  refine ⟨_, rfl, _, rfl, _, _, rfl, rfl, ⟨by decide, by decide, by decide⟩, _, _, rfl, rfl, .inr ⟨_, rfl, _, _, rfl, rfl, .inr ?_, _, rfl, _, _, rfl, rfl, by show (2147483647 : Int) ≠ 0; decide, by show 3 ≤ sizeLine; decide, fun p hp => ?_⟩⟩
  · split <;> decide
  refine kq _ p hp (Same.new hp) ⟨_, _, _, upd_same, ?_, (fmod_lo (by decide)).1, (fmod_lo (by decide)).2, by decide, by decide⟩
  by_cases q : c ≥ (10 : Int) ^ (18 : Int).toNat
  · rw [if_pos (by rw [decide_eq_true q])]
    have : (10 : Int) ^ (18 : Int).toNat = 1000000000000000000 := by decide
    omega
  · rw [if_neg (by rw [decide_eq_false q]; exact Bool.false_ne_true)]
    omega
def spNext (K : PySem.W.Frag) : Sp := fun vs H Q _ => ∃ (src : Addr) (z many : Nat), vs = [.ref src, .int many] ∧ SrcAt src z H ∧ z ≤ 1000000 ∧ 0 < many ∧ many ≤ 1000000 ∧
  ∀ H' (r : Nat), r < many → SrcAt src (z + 1) H' → Same (hid [src] H) (hid [src] H') → Q (.int r) H'
theorem prime_at {j : Nat} (h : j < 7) : ∃ p : Int, ([.int 2147483647, .int 2147483629, .int 2147483587, .int 2147483579, .int 2147483563, .int 2147483549, .int 2147483543] : List V)[j]? = some (.int p) ∧ 0 < p ∧ p ≤ 2147483647 := by
  match j, h with
  | 0, _ => exact ⟨_, rfl, by decide, by decide⟩
  | 1, _ => exact ⟨_, rfl, by decide, by decide⟩
  | 2, _ => exact ⟨_, rfl, by decide, by decide⟩
  | 3, _ => exact ⟨_, rfl, by decide, by decide⟩
  | 4, _ => exact ⟨_, rfl, by decide, by decide⟩
  | 5, _ => exact ⟨_, rfl, by decide, by decide⟩
  | 6, _ => exact ⟨_, rfl, by decide, by decide⟩
abbrev N__law_next : List Str := ["_law_source", "_law_many", "_law_found", "_law_prime", "_law_figure"]
theorem sc__law_next : FnScope N__law_next ["_law_source", "_law_many"] (defScope s__law_next) := ⟨rfl, rfl, rfl, by decide +kernel, rfl, by decide +kernel, by decide +kernel⟩
theorem c__law_next (T : Txt K mg) : Cal P w K mg base 1 "_law_next" ["_law_source", "_law_many"] (spNext K) := by
  refine cal_mk T.F_s__law_next T.g__law_next sc__law_next (fun _ _ _ _ _ _ us hl => match us, hl with | [_, _], _ => rfl) (fun vs H Q E ⟨_, _, _, h, _⟩ => by rw [h]; rfl) fun cdv A outer s H vs Q E hr ⟨src, z, many, h1, hs, hz, m1, m2, kq⟩ => ?_
  subst h1
  obtain ⟨x, y, t, e, x0, y0, y1, t0, t1⟩ := hs.ex
  refine ⟨_, (pss_cons (ps_if (pt_cmpR op_gt (pe_ix (ix_listK K) (pv 0) pe_int (fun _ _ => rfl)) pe_int (nomark _))
  (pss_cons (sset 2 sc__law_next.nd (pe_op op_modN (pe_ix (ix_listK K) (pv 0) pe_int (fun _ _ => rfl)) (pv 1)))
 (pss_cons (ps_asg (pe_op op_fdivW (pe_ix (ix_listK K) (pv 0) pe_int (fun _ _ => rfl)) (pv 1)) (pg_sub (pv 0) pe_int set_list))
 (pss_one (ps_ret (pv 2)))))
  pss_nil)
 (pss_cons (ps_asg (pe_op op_add (pe_ix (ix_listK K) (pv 0) pe_int (fun _ _ => rfl)) pe_int) (pg_sub (pv 0) pe_int set_list))
 (pss_cons (sset 3 sc__law_next.nd (pe_ix (ix_listK K) (pe_lst (pa_cons pe_int (pa_cons pe_int (pa_cons pe_int (pa_cons pe_int (pa_cons pe_int (pa_cons pe_int (pa_cons pe_int pa_nil)))))))) (pe_op op_modN (pe_ix (ix_listK K) (pv 0) pe_int (fun _ _ => rfl)) pe_int) (fun _ _ => rfl)))
 (pss_cons (sset 4 sc__law_next.nd (pe_op op_modN (pe_op op_pow (pe_op op_add (pe_op op_add (pe_ix (ix_listK K) (pv 0) pe_int (fun _ _ => rfl)) (pe_op op_mulW pe_int (pe_ix (ix_listK K) (pv 0) pe_int (fun _ _ => rfl)))) pe_int) pe_int) (pv 3)))
 (pss_cons (sset 4 sc__law_next.nd (pe_op op_modN (pe_op op_mulW (pe_op op_add (pv 4) (pe_ix (ix_listK K) (pv 0) pe_int (fun _ _ => rfl))) (pe_op op_add (pe_op op_fdivW (pv 4) pe_int) pe_int)) (pv 3)))
 (pss_one (ps_ret (pe_op op_modN (pe_op op_fdivW (pv 4) pe_int) (pv 1))))))))), ?_⟩
  refine ⟨_, rfl, _, _, _, _, rfl, rfl, SqL.of e, atI_nat (j := 0) rfl, _, _, rfl, rfl, ?_⟩
  have toNat : ∀ i : Int, i.fmod many = ((i.fmod many).toNat : Nat) ∧ (i.fmod many).toNat < many := fun i => by
    have := fmod_lo (i := i) (j := many) (by omega)
    omega
  by_cases hx : x > 0
  · refine ⟨true, bT hx, iteT ?_⟩
    refine ⟨_, rfl, _, _, _, _, rfl, rfl, SqL.of e, atI_nat (j := 0) rfl, _, rfl, _, _, rfl, rfl, by omega, ?_⟩
    refine ⟨_, rfl, _, _, _, _, rfl, rfl, SqL.of e, atI_nat (j := 0) rfl, _, rfl, _, _, rfl, rfl, wide_div (b := 20) (by omega) (by show many < 2 ^ 20; omega) (by decide) (by decide), ?_⟩
    refine ⟨_, rfl, src, _, 0, 0, rfl, rfl, e, rfl, ?_⟩
    have hq := kq (upd H src (.lst ([.int x, .int y, .int t].set 0 (.int (x / many))))) _ (toNat x).2 ⟨_, _, _, upd_same, Int.ediv_nonneg x0 (by omega), y0, y1, t0, by omega⟩ (by rw [hid_upd_in (by simp)]; exact Same.refl _)
    rw [← (toNat x).1] at hq
    exact ⟨_, rfl, hq⟩
  · refine ⟨false, bF hx, iteF ?_⟩
    refine ⟨_, rfl, _, _, _, _, rfl, rfl, SqL.of e, atI_nat (j := 2) rfl, _, _, rfl, rfl, ?_⟩
    refine ⟨_, rfl, src, _, 2, 2, rfl, rfl, e, rfl, ?_⟩
    have e1 : (upd H src (.lst ([.int x, .int y, .int t].set 2 (.int (t + 1))))) src = some (.lst [.int x, .int y, .int (t + 1)]) := upd_same
    generalize hH1 : upd H src (.lst ([.int x, .int y, .int t].set 2 (.int (t + 1)))) = H1 at e1
    have s1 : Same (hid [src] H) (hid [src] H1) := by rw [← hH1, hid_upd_in (by simp)]; exact Same.refl _
    refine ⟨by show 7 ≤ sizeLine; decide, fun p hp => ?_⟩
    have s2 := s1.trans (same_hid (S := [src]) (Same.new (o := .lst [.int 2147483647, .int 2147483629, .int 2147483587, .int 2147483579, .int 2147483563, .int 2147483549, .int 2147483543]) hp))
    have e2 : (upd H1 p (.lst [.int 2147483647, .int 2147483629, .int 2147483587, .int 2147483579, .int 2147483563, .int 2147483549, .int 2147483543])) src = some (.lst [.int x, .int y, .int (t + 1)]) := Same.new hp _ _ e1
    have ep : (upd H1 p (.lst [.int 2147483647, .int 2147483629, .int 2147483587, .int 2147483579, .int 2147483563, .int 2147483549, .int 2147483543])) p = some (.lst [.int 2147483647, .int 2147483629, .int 2147483587, .int 2147483579, .int 2147483563, .int 2147483549, .int 2147483543]) := upd_same
    generalize (upd H1 p (.lst [.int 2147483647, .int 2147483629, .int 2147483587, .int 2147483579, .int 2147483563, .int 2147483549, .int 2147483543])) = H2 at s2 e2 ep
    obtain ⟨j, hj, hj7⟩ : ∃ j : Nat, (t + 1).fmod 7 = (j : Int) ∧ j < 7 := by
      have := fmod_lo (i := t + 1) (j := 7) (by decide)
      exact ⟨((t + 1).fmod 7).toNat, by omega, by omega⟩
    obtain ⟨pr, hpr, p0, p1⟩ := prime_at hj7
    refine ⟨_, rfl, _, _, _, _, rfl, rfl, SqL.of e2, atI_nat (j := 2) rfl, _, _, rfl, rfl, by show (7 : Int) ≠ 0; decide, _, _, _, _, rfl, rfl, SqL.of ep, (by rw [hj]; exact atI_nat hpr), ?_⟩
    have b1 : (y + 7919 * (t + 1) + 1).natAbs < 2 ^ 64 := by
      have : (t : Int) ≤ 1000000 := by omega
      omega
    have small : ∀ {i : Int}, 0 ≤ i → i < 2147483648 → i.natAbs < 2 ^ 31 := fun h1 h2 => by omega
    refine ⟨_, rfl, _, _, _, _, rfl, rfl, SqL.of e2, atI_nat (j := 1) rfl, _, rfl, _, _, _, _, rfl, rfl, SqL.of e2, atI_nat (j := 2) rfl, _, _, rfl, rfl, wide_mul (a := 13) (b := 31) (by decide) (small (by omega) (by omega)) (by decide) (by decide) (by decide), ?_⟩
    refine ⟨_, _, rfl, rfl, _, _, rfl, rfl, _, _, rfl, rfl, ⟨by decide, by decide, b1⟩, _, rfl, _, _, rfl, rfl, by show pr ≠ 0; omega, ?_⟩
    obtain ⟨f1, hf1⟩ : ∃ f1, f1 = ((y + 7919 * (t + 1) + 1) ^ (5 : Int).toNat).fmod pr := ⟨_, rfl⟩
    have r1 := fmod_lo (i := (y + 7919 * (t + 1) + 1) ^ (5 : Int).toNat) (j := pr) (by omega)
    show gName 4 (V.int (((y + 7919 * (t + 1) + 1) ^ (5 : Int).toNat).fmod pr)) _ _ _
    rw [← hf1] at r1 ⊢
    have d1 : 0 ≤ f1 / 1009 ∧ f1 / 1009 < 2147483648 := ⟨Int.ediv_nonneg r1.1 (by decide), by omega⟩
    refine ⟨_, rfl, _, rfl, _, _, _, _, rfl, rfl, SqL.of e2, atI_nat (j := 2) rfl, _, _, rfl, rfl, ?_⟩
    refine ⟨_, rfl, _, _, rfl, rfl, wide_div (b := 10) (by decide) (by decide) (by decide) (by decide), _, _, rfl, rfl, _, _, rfl, rfl, wide_mul (a := 33) (b := 33) (by omega) (by omega) (by decide) (by decide) (by decide), _, rfl, _, _, rfl, rfl, by show pr ≠ 0; omega, ?_⟩
    refine ⟨_, rfl, _, _, rfl, rfl, wide_div (b := 3) (by decide) (by decide) (by decide) (by decide), _, rfl, _, _, rfl, rfl, by show (many : Int) ≠ 0; omega, ?_⟩
    have hq := fun i => kq H2 _ (toNat i).2 ⟨_, _, _, e2, x0, y0, y1, by omega, by omega⟩ s2
    have hq2 := hq (((f1 + (t + 1)) * (f1 / 1009 + 69621)).fmod pr / 7)
    rw [← (toNat _).1] at hq2
    exact hq2
end
end K31
namespace K31
open PySem PySem.Spec PyProof.Rows L2
section
variable {P : Program} {w : World} {K : PySem.W.Frag} {mg : Str → Option Value} {base : Heap}
def spOne (K : PySem.W.Frag) : Sp := fun vs H Q _ => ∃ (src l : Addr) (z : Nat) (ns : List Int), vs = [.ref src, .ref l] ∧ SrcAt src z H ∧ z ≤ 1000000 ∧ SqL K (hid [src] H) l (ns.map V.int) ∧ 0 < ns.length ∧ ns.length ≤ 1000 ∧
  ∀ H' v, v ∈ ns → SrcAt src (z + 1) H' → Same (hid [src] H) (hid [src] H') → Q (.int v) H'
abbrev N__law_one : List Str := ["_law_source", "_law_some"]
theorem sc__law_one : FnScope N__law_one ["_law_source", "_law_some"] (defScope s__law_one) := ⟨rfl, rfl, rfl, by decide +kernel, rfl, by decide +kernel, by decide +kernel⟩
theorem c__law_one (T : Txt K mg) : Cal P w K mg base 2 "_law_one" ["_law_source", "_law_some"] (spOne K) := by
  refine cal_mk T.F_s__law_one T.g__law_one sc__law_one (fun _ _ _ _ _ _ us hl => match us, hl with | [_, _], _ => rfl) (fun vs H Q E ⟨_, _, _, _, h, _⟩ => by rw [h]; rfl) fun cdv A outer s H vs Q E hr ⟨src, l, z, ns, h1, hs, hz, hl, n0, n1, kq⟩ => ?_
  subst h1
  refine ⟨_, (pss_one (ps_ret (pe_ix (ix_listK K) (pv 1) (pe_cal (c__law_next T) (hr.mono (by decide)) (pa_cons (pv 0) (pa_cons (pe_callB (lenK K) (by rfl) T.f_len (by decide +kernel) (pa_cons (pv 1) pa_nil)) pa_nil))) (fun _ _ => rfl)))), ?_⟩
  refine ⟨_, rfl, _, rfl, _, rfl, _, _, rfl, .inl (hid_le.seq hl), src, z, ns.length, by rw [List.length_map]; rfl, hs, hz, n0, by omega, fun H' r hr' hs' S' => ?_⟩
  have e : (ns.map V.int)[r]? = some (V.int (gd ns r)) := by rw [List.getElem?_map, gd_at hr']; rfl
  refine ⟨_, _, _, _, rfl, rfl, hid_le.seq (S'.seq hl), atI_nat e, kq _ _ ?_ hs' S'⟩
  exact List.mem_of_getElem? (gd_at hr')
def spCellAt (K : PySem.W.Frag) : Sp := fun vs H Q _ => ∃ (l : Addr) (k : Nat) (ns : List Int), vs = [.ref l, .int k] ∧ SqL K H l (ns.map V.int) ∧ ∀ H' c, Same H H' → Q (.int c) H'
abbrev N__law_cell_at : List Str := ["_law_script", "_law_k"]
theorem sc__law_cell_at : FnScope N__law_cell_at ["_law_script", "_law_k"] (defScope s__law_cell_at) := ⟨rfl, rfl, rfl, by decide +kernel, rfl, by decide +kernel, by decide +kernel⟩
theorem c__law_cell_at (T : Txt K mg) : Cal P w K mg base 1 "_law_cell_at" ["_law_script", "_law_k"] (spCellAt K) := by
  refine cal_mk T.F_s__law_cell_at T.g__law_cell_at sc__law_cell_at (fun _ _ _ _ _ _ us hl => match us, hl with | [_, _], _ => rfl) (fun vs H Q E ⟨_, _, _, h, _⟩ => by rw [h]; rfl) fun cdv A outer s H vs Q E hr ⟨l, k, ns, h1, hl, kq⟩ => ?_
  subst h1
  refine ⟨_, (pss_cons (ps_if (pt_cmpR op_lt (pv 1) (pe_callB (lenK K) (by rfl) T.f_len (by decide +kernel) (pa_cons (pv 0) pa_nil)) (nomark _))
  (pss_one (ps_ret (pe_ix (ix_listK K) (pv 0) (pv 1) (fun _ _ => rfl))))
  pss_nil)
 (pss_one (ps_ret pe_int))), ?_⟩
  refine ⟨_, rfl, _, rfl, _, _, rfl, .inl hl, _, _, rfl, rfl, ?_⟩
  rw [List.length_map]
  by_cases hk : (k : Int) < (ns.length : Int)
  · have e : (ns.map V.int)[k]? = some (V.int (gd ns k)) := by rw [List.getElem?_map, gd_at (by omega)]; rfl
    exact ⟨true, bT hk, iteT ⟨_, rfl, _, rfl, _, _, _, _, rfl, rfl, hl, atI_nat e, kq _ _ (Same.refl _)⟩⟩
  · exact ⟨false, bF hk, iteF (kq _ _ (Same.refl _))⟩
theorem dpAll_erase {H : Hp} : ∀ {vs : List V} {ds : List PyData} (i : Nat), DpAll K H vs ds → DpAll K H (vs.eraseIdx i) (ds.eraseIdx i)
  | _, _, _, .nil => .nil
  | _, _, 0, .cons _ h => h
  | _, _, i + 1, .cons a h => .cons a (dpAll_erase i h)
theorem erase_perm {α : Type} : ∀ {l : List α} {i : Nat} (h : i < l.length), (l[i] :: l.eraseIdx i).Perm l
  | [], _, h => absurd h (Nat.not_lt_zero _)
  | a :: l, 0, _ => List.Perm.refl _
  | a :: l, i + 1, h => (List.Perm.swap _ _ _).trans ((erase_perm (l := l) (i := i) (by simpa using h)).cons a)
def spMixed (K : PySem.W.Frag) : Sp := fun vs H Q _ => ∃ (S : List Addr) (src l : Addr) (z : Nat) (xs : List V) (ds : List PyData), vs = [.ref src, .ref l] ∧ SrcAt src z H ∧ z + xs.length ≤ 1000000 ∧ src ∈ S ∧ There S H ∧ SqL K (hid S H) l xs ∧ DpAll K (hid S H) xs ds ∧ (∀ d ∈ ds, SH 3 d) ∧ xs.length ≤ 100 ∧
  ∀ H' p ys es, H p = none → H' p = some (.lst ys) → DpAll K (hid (p :: S) H') ys es → es.Perm ds → SrcAt src (z + xs.length) H' → Same (hid [src] H) (hid [src] H') → Q (.ref p) H'
abbrev N__law_mixed : List Str := ["_law_source", "_law_some", "_law_left", "_law_found"]
theorem sc__law_mixed : FnScope N__law_mixed ["_law_source", "_law_some"] (defScope s__law_mixed) := ⟨rfl, rfl, rfl, by decide +kernel, rfl, by decide +kernel, by decide +kernel⟩
theorem c__law_mixed (T : Txt K mg) : Cal P w K mg base 2 "_law_mixed" ["_law_source", "_law_some"] (spMixed K) := by
  refine cal_mk T.F_s__law_mixed T.g__law_mixed sc__law_mixed (fun _ _ _ _ _ _ us hl => match us, hl with | [_, _], _ => rfl) (fun vs H Q E ⟨_, _, _, _, _, _, h, _⟩ => by rw [h]; rfl) fun cdv A outer s H vs Q E hr ⟨S, src, l, z, xs, ds, h1, hs, hz, hsS, hS, hl, hd, sh, hlen, kq⟩ => ?_
  subst h1
  refine ⟨_, (pss_cons (sset 2 sc__law_mixed.nd (pe_callTy call_list_of (by rfl) T.f_list (by decide +kernel) (pa_cons (pv 1) pa_nil)))
 (pss_cons (sset 3 sc__law_mixed.nd (pe_lst pa_nil))
 (pss_cons (ps_while PassesOwn.never (pt_cmpR (op_neD hr.units) (pv 2) (pe_lst pa_nil) (nomark _))
  (pss_one (ps_expr (pe_bm PySem.F.plainAttrs_list PySem.F.slot_list_append PySem.F.type_list_append mt_append (pv 3) (pa_cons (pe_bm PySem.F.plainAttrs_list PySem.F.slot_list_pop PySem.F.type_list_pop mt_popAt (pv 2) (pa_cons (pe_cal (c__law_next T) (hr.mono (by decide)) (pa_cons (pv 0) (pa_cons (pe_callB (lenK K) (by rfl) T.f_len (by decide +kernel) (pa_cons (pv 2) pa_nil)) pa_nil))) pa_nil)) pa_nil)))))
 (pss_one (ps_ret (pv 3)))))), ?_⟩
  refine ⟨_, rfl, l, xs, rfl, .inl (hid_le.seq hl), fun D1 h1 => ?_⟩
  have s1 : Same H (upd H D1 (.lst xs)) := Same.new h1
  have e1 : (upd H D1 (.lst xs)) D1 = some (.lst xs) := upd_same
  generalize upd H D1 (.lst xs) = H1 at s1 e1
  refine ⟨by show 0 ≤ sizeLine; decide, fun D2 h2 => ?_⟩
  have s2 : Same H1 (upd H1 D2 (.lst [])) := Same.new h2
  have e2 : (upd H1 D2 (.lst [])) D2 = some (.lst []) := upd_same
  generalize upd H1 D2 (.lst []) = H2 at s2 e2
  have d12 : D1 ≠ D2 := ne_of_none e1 h2
  have h20 : H D2 = none := s1.free h2
  have sD1 : D1 ∉ S := hS.new h1
  have sD2 : D2 ∉ S := hS.new h20
  have nsrc : ∀ {D : Addr}, D ∉ S → D ≠ src := fun h e => h (e ▸ hsS)
  refine ⟨fun μ σ H' => ∃ (zs ws : List V) (fs gs : List PyData), μ = zs.length ∧ σ = [some (.ref src), some (.ref l), some (.ref D1), some (.ref D2)] ∧ H' D1 = some (.lst zs) ∧ H' D2 = some (.lst ws) ∧ DpAll K (hid (D2 :: D1 :: S) H') zs fs ∧ DpAll K (hid (D2 :: D1 :: S) H') ws gs ∧
    (fs ++ gs).Perm ds ∧ SrcAt src (z + ws.length) H' ∧ zs.length + ws.length = xs.length ∧ Same (hid [src] H) (hid [src] H'),
    ⟨_, xs, [], ds, [], rfl, rfl, s2 _ _ e1, e2, dpAll_past (dpAll_past hd h1 s1) h2 s2, .nil, by rw [List.append_nil], (hs.same s1).same s2, by simp, same_hid (s1.trans s2)⟩, ?_⟩
  rintro μ σ H3 ⟨zs, ws, fs, gs, rfl, rfl, hz3, hw3, dz, dw, hp, hsrc, hl3, S3⟩
  refine ⟨_, rfl, by show 0 ≤ sizeLine; decide, fun p4 hp4 => ?_⟩
  have s4 : Same H3 (upd H3 p4 (.lst [])) := Same.new hp4
  have e4 : (upd H3 p4 (.lst [])) p4 = some (.lst []) := upd_same
  generalize upd H3 p4 (.lst []) = H4 at s4 e4
  have hmem : ∀ d ∈ fs, SH 3 d := fun d hd => sh d (hp.subset (List.mem_append_left _ hd))
  refine ⟨.list fs, .list [], .lst (SqL.of (s4 _ _ hz3)) ((dz.hs s4).same hid_le), .lst (SqL.of e4) .nil, (sh_list hmem).shaped (by decide), rfl, ?_⟩
  cases dz with
  | nil =>
    refine ⟨false, rfl, iteF ?_⟩
    refine ⟨_, rfl, kq H4 D2 ws gs h20 (s4 _ _ hw3) ?_ hp ?_ ?_⟩
    · refine (dw.hs s4).same fun b o e => ?_
      obtain ⟨q1, q2⟩ := hid_of e
      rw [hid_out fun q => q1 ?_]
      · exact q2
      · rcases List.mem_cons.mp q with q | q
        · rw [q]; exact List.mem_cons_self ..
        · exact List.mem_cons_of_mem _ (List.mem_cons_of_mem _ q)
    · have : ws.length = xs.length := by simpa using hl3
      rw [← this]
      exact hsrc.same s4
    · exact S3.trans (same_hid s4)
  | cons dx dz =>
    rename_i x xs' d ds'
    refine ⟨true, rfl, iteT ?_⟩
    refine ⟨fun σ H' => ∃ (zs ws : List V) (fs gs : List PyData), zs.length < (x :: xs').length ∧ σ = [some (.ref src), some (.ref l), some (.ref D1), some (.ref D2)] ∧ H' D1 = some (.lst zs) ∧ H' D2 = some (.lst ws) ∧ DpAll K (hid (D2 :: D1 :: S) H') zs fs ∧ DpAll K (hid (D2 :: D1 :: S) H') ws gs ∧
      (fs ++ gs).Perm ds ∧ SrcAt src (z + ws.length) H' ∧ zs.length + ws.length = xs.length ∧ Same (hid [src] H) (hid [src] H'), fun σ' H' ⟨zs, ws, fs, gs, hlt, r⟩ => ⟨zs.length, hlt, zs, ws, fs, gs, rfl, r⟩, ?_⟩
    have dZ : DpAll K (hid (D2 :: D1 :: S) H3) (x :: xs') (d :: ds') := .cons dx dz
    refine ⟨_, rfl, Or.inl ⟨rfl, ws, SqL.of (s4 _ _ hw3)⟩, _, rfl, Or.inl ⟨rfl, x :: xs', SqL.of (s4 _ _ hz3)⟩, _, rfl, _, rfl, _, _, rfl, .inl (SqL.of (s4 _ _ hz3)), src, z + ws.length, (x :: xs').length, rfl, hsrc.same s4, by omega, Nat.succ_pos _, by omega, fun H5 r hr5 hs5 S5 => ?_⟩
    have S35 : Same (hid [src] H3) (hid [src] H5) := (same_hid s4).trans S5
    have z5 : H5 D1 = some (.lst (x :: xs')) := same_at S35 (by simpa using nsrc sD1) hz3
    have w5 : H5 D2 = some (.lst ws) := same_at S35 (by simpa using nsrc sD2) hw3
    have big : ∀ y ∈ [src], y ∈ D2 :: D1 :: S := fun y hy => by rw [List.mem_singleton.mp hy]; exact List.mem_cons_of_mem _ (List.mem_cons_of_mem _ hsS)
    have dZ5 := dZ.same (same_up S35 big)
    have dW5 := dw.same (same_up S35 big)
    have hrd : r < (d :: ds').length := by rw [← dZ.length]; exact hr5
    obtain ⟨y, hy, dy⟩ := dZ5.at (List.getElem?_eq_getElem hrd)
    refine ⟨D1, x :: xs', r, r, y, rfl, rfl, z5, by omega, by omega, ?_, hy, ?_⟩
    · exact (ixN_seq (ixN_nat' hr5)).1
    refine ⟨D2, ws, y, rfl, rfl, by rw [upd_ne (Ne.symm d12)]; exact w5, small1000 (by omega), ?_⟩
    have hh : hid (D2 :: D1 :: S) (upd (upd H5 D1 (.lst ((x :: xs').eraseIdx r))) D2 (.lst (ws ++ [y]))) = hid (D2 :: D1 :: S) H5 := by rw [hid_upd_in (by simp), hid_upd_in (by simp)]
    refine ⟨(x :: xs').eraseIdx r, ws ++ [y], (d :: ds').eraseIdx r, gs ++ [(d :: ds')[r]], ?_, rfl, by rw [upd_ne d12, upd_same], upd_same, by rw [hh]; exact dpAll_erase r dZ5, by rw [hh]; exact dW5.snoc dy, ?_, ?_, ?_, ?_⟩
    · rw [List.length_eraseIdx, if_pos hr5]; omega
    · refine List.Perm.trans ?_ hp
      refine List.Perm.trans ?_ ((erase_perm hrd).append_right gs)
      rw [← List.append_assoc]
      exact (List.perm_append_comm (l₁ := (d :: ds').eraseIdx r ++ gs) (l₂ := [(d :: ds')[r]]))
    · rw [List.length_append]
      obtain ⟨a1, a2, a3, e, a4⟩ := hs5.ex
      exact ⟨a1, a2, a3, by rw [upd_ne (Ne.symm (nsrc sD2)), upd_ne (Ne.symm (nsrc sD1))]; exact e, by simpa [Nat.add_assoc] using a4⟩
    · rw [List.length_eraseIdx, if_pos hr5, List.length_append]
      have : 0 < (x :: xs').length := Nat.succ_pos _
      simp only [List.length_cons, List.length_nil] at *
      omega
    · intro b o e
      obtain ⟨q1, q2⟩ := hid_of e
      have q3 := same_at (S3.trans S35) q1 q2
      rw [hid_out q1, upd_ne (ne_of_none q2 h20), upd_ne (ne_of_none q2 h1)]
      exact q3
end
end K31
namespace K31
open PySem PySem.Spec PyProof.Rows L2 HT
/-! pair[::-1] -/
section
variable {prog : Program} {w : World} {A : Around} {s : Shared} {E : Value → Shared → Prop}
theorem sliceApplied_rev {sl : Addr} {t : Tok} {n : Nat} {Q : Int × Int × Nat → Shared → Prop} (hs : s.heap.IsSliceOf sl .none .none (.int (-1) t))
    (h : Q ((n : Int) - 1, -1, n) s) : wpAny (model prog w) A (Builtin.Slice.sliceApplied (.ref sl) (pure (n : Int))) Q E s := by
  obtain ⟨os, hos, hcs, hds⟩ := id hs
  unfold Builtin.Slice.sliceApplied Builtin.Slice.sliceFields
  refine wpAny_bind (wpAny_bind (wpAny_field hos hds (x := .none) rfl (wpAny_bind (wpAny_field hos hds (x := .none) rfl (wpAny_bind (wpAny_field hos hds (x := .int (-1) t) rfl (wpAny_pure ?_)))))))
  refine wpAny_bind (slicePart_int ?_)
  show wpAny _ _ (if ((-1 : Int) == 0) = true then _ else _) _ _ s
  rw [if_neg (by decide)]
  refine wpAny_bind (slicePart_none (wpAny_bind (slicePart_none (wpAny_bind (wpAny_pure ?_)))))
  show wpAny _ _ (match Builtin.Slice.sliceAdjust none none (-1) (n : Int) with | (lo, hi) => pure (lo, (-1 : Int), Builtin.Slice.slicePlaces lo hi (-1))) _ _ s
  have e : Builtin.Slice.sliceAdjust none none (-1) (n : Int) = ((n : Int) - 1, -1) := by
    unfold Builtin.Slice.sliceAdjust
    rfl
  rw [e]
  show wpAny _ _ (pure ((n : Int) - 1, (-1 : Int), Builtin.Slice.slicePlaces ((n : Int) - 1) (-1) (-1))) _ _ s
  have e2 : Builtin.Slice.slicePlaces ((n : Int) - 1) (-1) (-1) = n := by
    unfold Builtin.Slice.slicePlaces
    simp
    omega
  rw [e2]
  exact wpAny_pure h
theorem getItem_pair_rev {t sl : Addr} {x y : Value} {tk : Tok} {Q : Value → Shared → Prop} (ht : IsTup s.heap t #[x, y]) (hs : s.heap.IsSliceOf sl .none .none (.int (-1) tk))
    (h : Q (.ref s.heap.objs.size) { s with heap := s.heap.push { cls := .type "tuple", data := .seq #[y, x] } }) : wpAny (model prog w) A (getItem (.ref t) (.ref sl)) Q E s := by
  obtain ⟨os, hos, hcs, hds⟩ := id hs
  have hTs : s.TypeIs (.ref sl) "slice" := ⟨os, hos, hcs⟩
  unfold getItem
  try with_reducible refine wpAny_holding ?_
  first | refine wpAny_bind (wpAny_pure ?_) | skip
  refine wpAny_bind (wpAny_sequenceKey ht.typeIs (by decide) ?_)
  refine wpAny_bind (wpAny_callSpecial?_slot (name := Str.ofString "__getitem__") ht.typeIs PyProof.Rows.slot_tuple_getitem
    (wpAny_call_entry PyProof.Rows.slot_tuple_getitem ht.typeIs entry_tuple_getitem ?_ (args_tuple_getitem _ _)))
  show wpAny _ _ (Builtin.Tuple.tupleItemsOf (.ref t) >>= _) _ _ s
  refine wpAny_bind (tupleItemsOf_ ht ?_)
  refine wpAny_bind (wpAny_typeOf hTs ?_)
  rw [if_pos (by decide)]
  refine wpAny_bind (sliceApplied_rev hs ?_)
  show wpAny _ _ (if ((((2 : Nat) : Int) - 1) == 0 && (-1 : Int) == 1 && 2 == 2) = true then _ else _) _ _ s
  rw [if_neg (by decide)]
  have e : ((List.range 2).filterMap fun (m : Nat) => (#[x, y] : Array Value)[((((2 : Nat) : Int) - 1) + (m : Int) * (-1)).toNat]?).toArray = #[y, x] := rfl
  have e' := e
  have hz : sizeOk (.seq #[y, x]) := by show 2 ≤ sizeLine; decide
  first
    | exact wpAny_bind (m := Builtin.Tuple.tupleExact _) (wpAny_newObj_type (wpAny_pure ⟨_, rfl, wpAny_pure h⟩) hz)
    | exact wpAny_bind (m := Builtin.Tuple.tupleExact _) (wpAny_newObj_type (wpAny_bind (wpAny_pure (wpAny_pure ⟨_, rfl, wpAny_pure h⟩))) hz)
    | exact wpAny_bind (wpAny_bind (m := Builtin.Tuple.tupleExact _) (wpAny_newObj_type (wpAny_pure (wpAny_pure ⟨_, rfl, wpAny_pure h⟩)) hz))
    | exact wpAny_bind (wpAny_bind (m := Builtin.Tuple.tupleExact _) (wpAny_newObj_type (wpAny_pure ⟨_, rfl, wpAny_pure h⟩) hz))
end
def tRevT (K : PySem.W.Frag) (te : TE) : TE := fun σ H Q => te σ H fun x H1 => ∃ a y z, x = .ref a ∧ SqT K H1 a [y, z] ∧ ∀ p, H1 p = none → Q (.ref p) (upd H1 p (.tup [z, y]))
section
variable {X : Cx}
theorem pe_revT {e : Expr} {te : TE} {k : Nat} {p1 p2 p3 pos : Pos} (he : PE X e te) : PE X (.Subscript e (.Slice none none (some (.UnaryOp .USub (.Constant (.int 1) k p1) p2)) p3) pos) (tRevT X.K te) := by
  refine ⟨fun pins s σ H Q I h => ?_⟩
  refine Subscript_ (thn (he.run pins s σ H _ I h) fun v s1 ⟨x, H1, I1, r1, q1⟩ => ?_)
  obtain ⟨a, y, z, ex, hx, q⟩ := q1
  subst ex
  cases r1
  have hst : PO X (some (.UnaryOp .USub (.Constant (.int 1) k p1) p2)) (tPart (tUn (rU fun i => .int (-i)) (tC (.int 1)))) := po_some (pe_un un_neg pe_int)
  refine wpAny_Slice (thn (po_none.run pins s1 σ H1 (fun o H2 => o = none ∧ H2 = H1) I1 ⟨rfl, rfl⟩) fun vl s2 ⟨l, H2, I2, pl, el, e2⟩ => ?_)
  subst el e2
  refine thn (po_none.run pins s2 σ H2 (fun o H3 => o = none ∧ H3 = H2) I2 ⟨rfl, rfl⟩) fun vu s3 ⟨u, H3, I3, pu, eu, e3⟩ => ?_
  subst eu e3
  refine thn (hst.run pins s3 σ H3 (fun o H4 => o = some (-1) ∧ H4 = H3) I3 ⟨1, rfl, -1, rfl, rfl, rfl⟩) fun vs s4 ⟨o, H4, I4, ps, eo, e4⟩ => ?_
  subst eo e4
  cases pl
  cases pu
  obtain ⟨t, rfl⟩ : ∃ t, vs = .int (-1) t := by cases ps; exact ⟨_, rfl⟩
  have I5 : L2.Inv X pins σ H4 { s4 with heap := s4.heap.push { cls := .type "slice", data := .fields #[.none, .none, .int (-1) t] } } := I4.kept (t' := s4.toks) fun b ob q => Heap.get?_push_of_some _ q
  obtain ⟨its, r, ht, hz⟩ := I5.tuple hx
  show wpAny (model X.prog X.w) X.A (subscriptTail e (.Slice none none (some (.UnaryOp .USub (.Constant (.int 1) k p1) p2)) p3) (.ref a) (.ref s4.heap.objs.size)) (EP X pins σ Q) X.xe { s4 with heap := s4.heap.push { cls := .type "slice", data := .fields #[.none, .none, .int (-1) t] } }
  refine tail_any (ops := [.ref a, .ref s4.heap.objs.size]) ht.typeIs (PyProof.Rows.slot_tuple_getitem.lookup) ?_ (by with_unfolding_all rfl)
  cases r with
  | cons r1 r =>
    cases r with
    | cons r2 r =>
      cases r
      refine getItem_pair_rev ht (Heap.IsSliceOf.new _ .none .none (.int (-1) t)) ?_
      refine ⟨.ref _, _, I5.laid (t' := s4.toks) (o := .tup [z, y]) (fun b ob q => Heap.get?_push_of_some _ q) (Nat.le_refl _) ?_, rfl, q _ (I5.hok.fresh (Nat.le_refl _))⟩
      exact ⟨by show 2 ≤ sizeLine; decide, _, .cons r2 (.cons r1 .nil), IsTup.new _ _⟩
end
end K31
namespace K31
open PySem PySem.Spec PyProof.Rows L2
section
variable {P : Program} {w : World} {K : PySem.W.Frag} {mg : Str → Option Value} {base : Heap}
def prD (e : Nat × Nat) : PyData := .tuple [.int (e.1 : Int), .int (e.2 : Int)]
theorem sh_pr (e : Nat × Nat) : SH 1 (prD e) := sh_tup fun d hd => by
  rcases List.mem_cons.mp hd with e | hd
  · rw [e]; exact sh_int _
  · rw [List.mem_singleton.mp hd]; exact sh_int _
theorem rgok' {n : Nat} {i : Int} (h : n ≤ 1000) (e : i = (n : Int)) : RgOk 0 i := by subst e; unfold RgOk; omega
def spEnds (K : PySem.W.Frag) : Sp := fun vs H Q _ => ∃ (S : List Addr) (src : Addr) (z many : Nat), vs = [.ref src, .int many] ∧ SrcAt src z H ∧ src ∈ S ∧ There S H ∧ 1 ≤ many ∧ many ≤ 6 ∧ z + 100 ≤ 1000000 ∧
  ∀ H' p ends, Dp K (hid S H') (.ref p) (.list (ends.map prD)) → ends.length = many → Cross many ends → SrcAt src (z + 100) H' → Same (hid [src] H) (hid [src] H') → Q (.ref p) H'
abbrev N__law_ends : List Str := ["_law_source", "_law_many", "_law_places", "_law_found", "_law_k", "_law_two"]
theorem sc__law_ends : FnScope N__law_ends ["_law_source", "_law_many"] (defScope s__law_ends) := ⟨rfl, rfl, rfl, by decide +kernel, rfl, by decide +kernel, by decide +kernel⟩
theorem c__law_ends (T : Txt K mg) : Cal P w K mg base 3 "_law_ends" ["_law_source", "_law_many"] (spEnds K) := by
  refine cal_mk T.F_s__law_ends T.g__law_ends sc__law_ends (fun _ _ _ _ _ _ us hl => match us, hl with | [_, _], _ => rfl) (fun vs H Q E ⟨_, _, _, _, h, _⟩ => by rw [h]; rfl) fun cdv A outer s H vs Q E hr ⟨S, src, z, many, h1, hs, hsS, hS, m1, m6, hz, kq⟩ => ?_
  subst h1
  refine ⟨_, (pss_cons (sset 2 sc__law_ends.nd (pe_cal (c__law_mixed T) (hr.mono (by decide)) (pa_cons (pv 0) (pa_cons (pe_listRg rfl (by rfl) T.f_list (prg_1 (by rfl) T.f_range (pe_op op_add (pv 1) pe_int))) pa_nil))))
 (pss_cons (sset 3 sc__law_ends.nd (pe_lst pa_nil))
 (pss_cons (ps_for PassesOwn.never rfl (pi_range1 rfl T.f_range (pa_cons (pv 1) pa_nil)) (pgn 4 sc__law_ends.nd)
  (pss_cons (sset 5 sc__law_ends.nd (pe_tup (pa_cons (pe_ix (ix_listK K) (pv 2) (pe_cal (c__law_next T) (hr.mono (by decide)) (pa_cons (pv 0) (pa_cons (pe_op op_add (pv 4) pe_int) pa_nil))) (fun _ _ => rfl)) (pa_cons (pe_ix (ix_listK K) (pv 2) (pe_op op_add (pv 4) pe_int) (fun _ _ => rfl)) pa_nil))))
 (pss_one (ps_expr (pe_bm PySem.F.plainAttrs_list PySem.F.slot_list_append PySem.F.type_list_append mt_append (pv 3) (pa_cons (pe_ix (ix_listK K) (pe_lst (pa_cons (pv 5) (pa_cons (pe_revT (pv 5)) pa_nil))) (pe_cal (c__law_next T) (hr.mono (by decide)) (pa_cons (pv 0) (pa_cons pe_int pa_nil))) (fun _ _ => rfl)) pa_nil))))))
 (pss_one (ps_ret (pe_cal (c__law_mixed T) (hr.mono (by decide)) (pa_cons (pv 0) (pa_cons (pv 3) pa_nil)))))))), ?_⟩
  refine ⟨_, rfl, _, rfl, _, _, rfl, rfl, _, rfl, rgok' (n := many + 1) (by omega) (by omega), fun q0 hq0 => ?_⟩
  have s0 : Same H (upd H q0 (.lst (rgV 0 ((many : Int) + 1)))) := Same.new hq0
  have e0 : (upd H q0 (.lst (rgV 0 ((many : Int) + 1)))) q0 = some (.lst (rgV 0 ((many : Int) + 1))) := upd_same
  have er : rgV 0 ((many : Int) + 1) = ((List.range (many + 1)).map fun i : Nat => (i : Int)).map V.int := by
    rw [show (many : Int) + 1 = ((many + 1 : Nat) : Int) by omega, rgV_ints]
    exact (intsN_int (f := fun j => j)).symm
  have q0S : q0 ∉ S := hS.new hq0
  have nsrc : ∀ {D : Addr}, D ∉ S → D ≠ src := fun h e => h (e ▸ hsS)
  have hl0 : SqL K (hid S (upd H q0 (.lst (rgV 0 ((many : Int) + 1))))) q0 (((List.range (many + 1)).map fun i : Nat => (i : Int)).map V.int) := SqL.of (by rw [hid_out q0S, ← er]; exact e0)
  refine ⟨S, src, q0, z, _, _, rfl, hs.same s0, by rw [List.length_map, List.length_map, List.length_range]; omega, hsS, hS.same s0, hl0, dpAll_ints _, fun d hd => ?_, by rw [List.length_map, List.length_map, List.length_range]; omega, fun H1 p1 ys es hp1 hy1 dy1 perm1 hs1 S1 => ?_⟩
  · obtain ⟨i, _, rfl⟩ := List.mem_map.mp hd
    exact (sh_int i).mono (by decide)
  obtain ⟨is1, e1, perm2⟩ := perm_map perm1 rfl
  obtain ⟨ns, e2, perm3⟩ := perm_map perm2 rfl
  subst e1
  have ey : ys = natsV ns := by
    rw [dy1.ints, e2, natsV_int]
  subst ey
  rw [List.length_map, List.length_map, List.length_range] at hs1
  have lns : ns.length = many + 1 := by rw [perm3.length_eq, List.length_range]
  have S01 : Same (hid [src] H) (hid [src] H1) := (same_hid s0).trans S1
  have p1S : p1 ∉ S := (hS.same s0).new hp1
  have big : ∀ y ∈ [src], y ∈ S := fun y hy => by rw [List.mem_singleton.mp hy]; exact hsS
  have thS : ∀ {H' : Hp}, SrcAt src 2000000 H' → Same (hid [src] H) (hid [src] H') → There S H' := fun {H'} h s y hy => by
    by_cases e : y = src
    · obtain ⟨_, _, _, e', _⟩ := h.ex
      rw [e]
      exact ⟨_, e', fun _ q => nomatch q⟩
    · obtain ⟨o, h1, h2⟩ := hS y hy
      exact ⟨o, same_at s (by simpa using e) h1, h2⟩
  have th1 := thS (hs1.mono (by omega)) S01
  -- found
  refine ⟨by show 0 ≤ sizeLine; decide, fun D hD => ?_⟩
  have s2 : Same H1 (upd H1 D (.lst [])) := Same.new hD
  have e2' : (upd H1 D (.lst [])) D = some (.lst []) := upd_same
  generalize upd H1 D (.lst []) = H2 at s2 e2'
  have DS : D ∉ S := th1.new hD
  have p1D : p1 ≠ D := ne_of_none hy1 hD
  have hD0 : H D = none := by
    cases e : H D with
    | none => rfl
    | some o => rw [same_at S01 (by simpa using nsrc DS) e] at hD; cases hD
  refine ⟨_, rfl, many, rfl, by omega, by omega, ?_⟩
  rw [Int.toNat_natCast]
  refine for_it walk_range (fun k σ H' => ∃ (o4 o5 : Option V) (ws : List V) (prs : List (Nat × Nat)), σ = [some (.ref src), some (.int many), some (.ref p1), some (.ref D), o4, o5] ∧ H' D = some (.lst ws) ∧ H' p1 = some (.lst (natsV ns)) ∧ DpAll K (hid (D :: S) H') ws (prs.map prD) ∧ prs.length = k ∧
    (∀ j, j < k → ∃ r x y, r ≤ j ∧ ns[r]? = some x ∧ ns[j + 1]? = some y ∧ (prs[j]? = some (x, y) ∨ prs[j]? = some (y, x))) ∧ SrcAt src (z + (many + 1) + 2 * k) H' ∧ Same (hid [src] H) (hid [src] H'))
    ⟨_, _, [], [], rfl, e2', s2 _ _ hy1, .nil, rfl, fun j hj => absurd hj (Nat.not_lt_zero _), hs1.same s2, S01.trans (same_hid s2)⟩ (fun _ _ _ _ _ => trivial) ?_ ?_
  · rintro k x σ H3 H4 hk ⟨o4, o5, ws, prs, rfl, hw, hp, dw, lp, tree, hs3, S3⟩ ⟨rfl, rfl⟩
    have z0 : (fun i : Nat => V.int (0 + (i : Int))) k = V.int k := by show V.int (0 + (k : Int)) = _; rw [Int.zero_add]
    rw [z0]
    refine ⟨_, rfl, _, rfl, _, rfl, _, _, rfl, rfl, src, z + (many + 1) + 2 * k, k + 1, rfl, hs3, by omega, by omega, by omega, fun H5 r hr5 hs5 S5 => ?_⟩
    have natAt : ∀ {j : Nat}, j < many + 1 → (natsV ns)[j]? = some (.int (ns[j]?.getD 0 : Nat)) := fun {j} hj => by
      unfold natsV
      rw [List.getElem?_map, List.getElem?_eq_getElem (by omega)]
      rfl
    have hp5 : H5 p1 = some (.lst (natsV ns)) := same_at S5 (by simpa using nsrc p1S) hp
    have hw5 : H5 D = some (.lst ws) := same_at S5 (by simpa using nsrc DS) hw
    have dw5 := dw.same (same_up S5 (R := D :: S) fun y hy => List.mem_cons_of_mem _ (big y hy))
    refine ⟨_, _, _, _, rfl, rfl, SqL.of hp5, atI_nat (natAt (by omega)), ?_⟩
    refine ⟨_, rfl, _, rfl, _, _, rfl, rfl, _, _, _, _, rfl, rfl, SqL.of hp5, (by rw [show ((k : Int) + 1) = ((k + 1 : Nat) : Int) by omega]; exact atI_nat (natAt (by omega))), by show 2 ≤ sizeLine; decide, fun p6 hp6 => ?_⟩
    have hx : ns[r]? = some (ns[r]?.getD 0) := by rw [List.getElem?_eq_getElem (by omega)]; rfl
    have hy : ns[k + 1]? = some (ns[k + 1]?.getD 0) := by rw [List.getElem?_eq_getElem (by omega)]; rfl
    generalize ns[r]?.getD 0 = x at hx
    generalize ns[k + 1]?.getD 0 = y at hy
    have s6 : Same H5 (upd H5 p6 (.tup [.int (x : Nat), .int (y : Nat)])) := Same.new hp6
    have e6 : (upd H5 p6 (.tup [.int (x : Nat), .int (y : Nat)])) p6 = some (.tup [.int (x : Nat), .int (y : Nat)]) := upd_same
    generalize upd H5 p6 (.tup [.int (x : Nat), .int (y : Nat)]) = H6 at s6 e6
    refine ⟨_, rfl, Or.inl ⟨rfl, ws, SqL.of (s6 _ _ hw5)⟩, _, rfl, _, rfl, p6, _, _, rfl, SqT.of e6, fun p7 hp7 => ?_⟩
    have s7 : Same H6 (upd H6 p7 (.tup [.int (y : Nat), .int (x : Nat)])) := Same.new hp7
    have e7 : (upd H6 p7 (.tup [.int (y : Nat), .int (x : Nat)])) p7 = some (.tup [.int (y : Nat), .int (x : Nat)]) := upd_same
    generalize upd H6 p7 (.tup [.int (y : Nat), .int (x : Nat)]) = H7 at s7 e7
    refine ⟨by show 2 ≤ sizeLine; decide, fun p8 hp8 => ?_⟩
    have s8 : Same H7 (upd H7 p8 (.lst [.ref p6, .ref p7])) := Same.new hp8
    have e8 : (upd H7 p8 (.lst [.ref p6, .ref p7])) p8 = some (.lst [.ref p6, .ref p7]) := upd_same
    generalize upd H7 p8 (.lst [.ref p6, .ref p7]) = H8 at s8 e8
    have s58 := s6.trans (s7.trans s8)
    refine ⟨_, rfl, src, z + (many + 1) + 2 * k + 1, 2, rfl, hs5.same s58, by omega, by decide, by decide, fun H9 r2 hr9 hs9 S9 => ?_⟩
    have S59 : Same (hid [src] H5) (hid [src] H9) := (same_hid s58).trans S9
    have thS5 := thS (hs5.mono (by omega)) (S3.trans S5)
    have th6 := (thS5.same s6)
    have n6 : p6 ∉ D :: S := fun q => by
      rcases List.mem_cons.mp q with q | q
      · rw [q, hw5] at hp6; cases hp6
      · exact thS5.new hp6 q
    have n7 : p7 ∉ D :: S := fun q => by
      rcases List.mem_cons.mp q with q | q
      · rw [q, s6 _ _ hw5] at hp7; cases hp7
      · exact th6.new hp7 q
    have n8 : p8 ≠ src := fun q => by
      obtain ⟨_, _, _, e', _⟩ := (hs5.same (s6.trans s7)).ex
      rw [q, e'] at hp8; cases hp8
    have up9 : Same (hid (D :: S) H5) (hid (D :: S) H9) := same_up S59 fun y hy => List.mem_cons_of_mem _ (big y hy)
    have hw9 : H9 D = some (.lst ws) := same_at S59 (by simpa using nsrc DS) hw5
    have g6 : H9 p6 = some (.tup [.int (x : Nat), .int (y : Nat)]) := same_at S9 (fun q => n6 (List.mem_cons_of_mem _ (big _ q))) (s8 _ _ (s7 _ _ e6))
    have g7 : H9 p7 = some (.tup [.int (y : Nat), .int (x : Nat)]) := same_at S9 (fun q => n7 (List.mem_cons_of_mem _ (big _ q))) (s8 _ _ e7)
    have g8 : H9 p8 = some (.lst [.ref p6, .ref p7]) := same_at S9 (by simpa using n8) e8
    obtain ⟨v, pr, hv, dv, hpr⟩ : ∃ (v : V) (pr : Nat × Nat), ([.ref p6, .ref p7] : List V)[r2]? = some v ∧ Dp K (hid (D :: S) H9) v (prD pr) ∧ (pr = (x, y) ∨ pr = (y, x)) := by
      match r2, hr9 with
      | 0, _ => exact ⟨_, (x, y), rfl, .tup (SqT.of (by rw [hid_out n6]; exact g6)) (.cons (.int _) (.cons (.int _) .nil)), .inl rfl⟩
      | 1, _ => exact ⟨_, (y, x), rfl, .tup (SqT.of (by rw [hid_out n7]; exact g7)) (.cons (.int _) (.cons (.int _) .nil)), .inr rfl⟩
    refine ⟨_, _, _, _, rfl, rfl, SqL.of g8, atI_nat hv, D, ws, v, rfl, rfl, hw9, small1000 (by have := dw.length; rw [List.length_map] at this; omega), ?_⟩
    have hh : hid (D :: S) (upd H9 D (.lst (ws ++ [v]))) = hid (D :: S) H9 := hid_upd_in (by simp)
    refine ⟨_, _, ws ++ [v], prs ++ [pr], rfl, upd_same, by rw [upd_ne p1D]; exact same_at S59 (by simpa using nsrc p1S) hp5, ?_, by rw [List.length_append, lp]; rfl, fun j hj => ?_, ?_, ?_⟩
    · rw [hh, List.map_append]
      exact (dw5.same up9).snoc dv
    · by_cases q : j < k
      · obtain ⟨r', x', y', a1, a2, a3, a4⟩ := tree j q
        exact ⟨r', x', y', a1, a2, a3, by rw [List.getElem?_append_left (by omega)]; exact a4⟩
      · have : j = k := by omega
        subst this
        refine ⟨r, x, y, by omega, hx, hy, ?_⟩
        rw [List.getElem?_append_right (by omega), lp, Nat.sub_self]
        rcases hpr with e | e
        · exact .inl (by rw [e]; rfl)
        · exact .inr (by rw [e]; rfl)
    · obtain ⟨a1, a2, a3, e, a4⟩ := hs9.ex
      exact ⟨a1, a2, a3, by rw [upd_ne (Ne.symm (nsrc DS))]; exact e, by obtain ⟨b1, b2, b3, b4, b5⟩ := a4; exact ⟨b1, b2, b3, b4, by omega⟩⟩
    · intro b o e
      obtain ⟨q1, q2⟩ := hid_of e
      have q3 := same_at (S3.trans (S5.trans S59)) q1 q2
      rw [hid_out q1, upd_ne (ne_of_none q2 hD0)]
      exact q3
  · rintro σ H3 ⟨o4, o5, ws, prs, rfl, hw, hp, dw, lp, tree, hs3, S3⟩
    have th3 := thS (hs3.mono (by omega)) S3
    refine ⟨_, rfl, _, rfl, S, src, D, z + (many + 1) + 2 * many, ws, prs.map prD, rfl, hs3, by have := dw.length; rw [List.length_map] at this; omega, hsS, th3, SqL.of (by rw [hid_out DS]; exact hw), dw.same hid_cons, fun d hd => ?_, by have := dw.length; rw [List.length_map] at this; omega, fun H4 p4 ys4 es4 hp4 hy4 dy4 perm4 hs4 S4 => ?_⟩
    · obtain ⟨e, _, rfl⟩ := List.mem_map.mp hd
      exact (sh_pr e).mono (by decide)
    obtain ⟨ends, ee, pe⟩ := perm_map perm4 rfl
    subst ee
    have lws : ws.length = many := by have := dw.length; rw [List.length_map] at this; omega
    have p4S : p4 ∉ S := th3.new hp4
    refine kq H4 p4 ends (.lst (SqL.of (by rw [hid_out p4S]; exact hy4)) (dy4.same hid_cons)) (by rw [pe.length_eq, lp]) ((cross_of perm3 lp tree).perm pe) ?_ (S3.trans S4)
    rw [lws] at hs4
    exact hs4.mono (by omega)
end
end K31
namespace K31
open PySem PySem.Spec PyProof.Rows L2
/-! tables that may be written to -/
structure TabAt (H : Hp) (p : Addr) (rs : List Addr) (tb : List (List Int)) : Prop where
  top : H p = some (.lst (rs.map V.ref))
  len : rs.length = tb.length
  row : ∀ (i : Nat) (r : Addr) (ns : List Int), rs[i]? = some r → tb[i]? = some ns → H r = some (.lst (ns.map V.int))
  nd : (p :: rs).Nodup
theorem TabAt.same {H H' : Hp} {p : Addr} {rs : List Addr} {tb : List (List Int)} (t : TabAt H p rs tb) (s : Same H H') : TabAt H' p rs tb := ⟨s _ _ t.top, t.len, fun i r ns h1 h2 => s _ _ (t.row i r ns h1 h2), t.nd⟩
theorem TabAt.hidS {H H' : Hp} {p : Addr} {rs : List Addr} {tb : List (List Int)} {M : List Addr} (t : TabAt H p rs tb) (s : Same (hid M H) (hid M H')) (h : ∀ a ∈ p :: rs, a ∉ M) : TabAt H' p rs tb :=
  ⟨same_at s (h p (List.mem_cons_self ..)) t.top, t.len, fun i r ns h1 h2 => same_at s (h r (List.mem_cons_of_mem _ (List.mem_of_getElem? h1))) (t.row i r ns h1 h2), t.nd⟩
theorem TabAt.dp {K : PySem.W.Frag} {H : Hp} {p : Addr} {rs : List Addr} {tb : List (List Int)} {S : List Addr} (t : TabAt H p rs tb) (h : ∀ a ∈ p :: rs, a ∉ S) : Dp K (hid S H) (.ref p) (lt tb) := by
  refine .lst (SqL.of (by rw [hid_out (h p (List.mem_cons_self ..))]; exact t.top)) (DpAll.of (by simp [t.len]) fun i d e => ?_)
  rw [List.getElem?_map] at e
  cases e2 : tb[i]? with
  | none => rw [e2] at e; cases e
  | some ns =>
    rw [e2] at e
    cases e
    have hi : i < rs.length := by rw [t.len]; exact (List.getElem?_eq_some_iff.mp e2).1
    refine ⟨.ref rs[i], by rw [List.getElem?_map, List.getElem?_eq_getElem hi]; rfl, li_dp (SqL.of ?_)⟩
    rw [hid_out (h _ (List.mem_cons_of_mem _ (List.getElem_mem hi)))]
    exact t.row i rs[i] ns (List.getElem?_eq_getElem hi) e2
section
variable {J : It} {n : Nat} {G : Hp → Prop} {Y : Nat → Hp → V → Hp → Prop}
/-- a list of whole numbers, M may change meanwhile -/
theorem lc_ints (w : Walk J n G Y) {g : TG} {te : TE} {vs : List Nat} {σ : L2.St} {H1 : Hp} {D : Addr} {Qd : Hp → Prop} (M : List Addr) (Iv : Nat → Hp → Prop) (R : Nat → Int → Prop) (hD : H1 D = none) (hM : D ∉ M) (hn : n ≤ 1000)
    (h0 : Iv 0 H1) (hI : ∀ i H o, Iv i H → Iv i (upd H D o)) (hG : ∀ i H, Same (hid M H1) (hid M H) → Iv i H → G H)
    (hs : ∀ i x H H', i < n → Same (hid M H1) (hid M H) → (∃ o, H D = some (.lst o)) → Iv i H → Y i H x H' → Same (hid M H) (hid M H') ∧ ∀ Q' : VK, (∀ (k : Int) (H4 : Hp), R i k → Same (hid M H) (hid M H4) → Iv (i + 1) H4 → Q' (.int k) H4) → g x (wipe σ vs) H' fun σ2 H2 => wipe σ2 vs = wipe σ vs ∧ te σ2 H2 Q')
    (hd : ∀ (H' : Hp) (ns : List Int), Same (hid M H1) (hid M H') → H' D = some (.lst (ns.map V.int)) → ns.length = n → (∀ i k, ns[i]? = some k → R i k) → Iv n H' → Qd H') :
    ∃ W : Nat → Nat → Hp → Prop, (∃ m, W 0 m (upd H1 D (.lst []))) ∧ ∀ i m H, W i m H →
      (J.stop i H ∧ Qd H) ∨ (J.go i H ∧ ∃ Nx : Hp → Prop, (∀ H', Nx H' → ∃ m', m' < m ∧ W (i + 1) m' H') ∧ ∀ x H', J.yld i H x H' → g x (wipe σ vs) H' fun σ2 H2 => wipe σ2 vs = wipe σ vs ∧ tYes σ2 H2 fun b H3 =>
        if b = true then te σ2 H3 fun y H4 => ∃ acc, H4 D = some (.lst acc) ∧ acc.length < sizeLine ∧ Nx (upd H4 D (.lst (acc ++ [y]))) else Nx H3) := by
  have put : ∀ {H : Hp} {o : HO}, Same (hid M H1) (hid M H) → Same (hid M H1) (hid M (upd H D o)) := fun {H o} s b u e => by
    obtain ⟨q1, q2⟩ := hid_of e
    rw [hid_out q1, upd_ne (ne_of_none q2 hD)]
    exact same_at s q1 q2
  refine lc_it w (g := g) (tt := tYes) (te := te) (vs := vs) (σ := σ) (H1 := H1) (D := D) (Qd := Qd) (fun i H => Same (hid M H1) (hid M H) ∧ Iv i H ∧ ∃ ns : List Int, H D = some (.lst (ns.map V.int)) ∧ ns.length = i ∧ ∀ j k, ns[j]? = some k → R j k) ⟨put (Same.refl _), hI _ _ _ h0, [], upd_same, rfl, fun j k e => by simp at e⟩ (fun i H _ p => hG i H p.1 p.2.1) ?_ (fun H ⟨h1, h2, ns, h3, h4, h5⟩ => hd H ns h1 h3 h4 h5 h2)
  rintro i x H H' hi ⟨s1, iv, ns, ha, hl, hR⟩ y
  obtain ⟨sH, q⟩ := hs i x H H' hi s1 ⟨_, ha⟩ iv y
  refine q _ fun k H4 rk s4 iv4 => ?_
  refine ⟨ns.map V.int, same_at s4 hM ha, small1000 (by rw [List.length_map]; omega), put (s1.trans s4), hI _ _ _ iv4, ns ++ [k], by rw [upd_same, List.map_append]; rfl, by rw [List.length_append, hl]; rfl, fun j k' e => ?_⟩
  by_cases hj : j < ns.length
  · rw [List.getElem?_append_left hj] at e; exact hR j k' e
  · rw [List.getElem?_append_right (by omega)] at e
    have : j - ns.length = 0 := by
      by_cases z : j - ns.length = 0
      · exact z
      · rw [List.getElem?_eq_none (by simp; omega)] at e; cases e
    rw [this] at e
    cases e
    have : j = i := by omega
    rw [this]
    exact rk
/-- a table, M may change meanwhile -/
theorem lc_rows (w : Walk J n G Y) {g : TG} {te : TE} {vs : List Nat} {σ : L2.St} {H1 : Hp} {D : Addr} {Qd : Hp → Prop} (M : List Addr) (Iv : Nat → Hp → Prop) (R : Nat → List Int → Prop) (hD : H1 D = none) (hP : ∀ i H, Iv i H → ∀ a ∈ M, H a ≠ none) (hn : n ≤ 1000)
    (h0 : Iv 0 H1) (hI : ∀ i H o, Iv i H → Iv i (upd H D o)) (hG : ∀ i H, Same (hid M H1) (hid M H) → Iv i H → G H)
    (hs : ∀ i x H H', i < n → Same (hid M H1) (hid M H) → (∃ o, H D = some (.lst o)) → Iv i H → Y i H x H' → Same (hid M H) (hid M H') ∧ ∀ Q' : VK, (∀ (r : Addr) (row : List Int) (H4 : Hp), H r = none → H4 r = some (.lst (row.map V.int)) → R i row → Same (hid M H) (hid M H4) → Iv (i + 1) H4 → Q' (.ref r) H4) → g x (wipe σ vs) H' fun σ2 H2 => wipe σ2 vs = wipe σ vs ∧ te σ2 H2 Q')
    (hd : ∀ (H' : Hp) (rs : List Addr) (tb : List (List Int)), Same (hid M H1) (hid M H') → TabAt H' D rs tb → tb.length = n → (∀ i row, tb[i]? = some row → R i row) → (∀ r ∈ D :: rs, H1 r = none) → Iv n H' → Qd H') :
    ∃ W : Nat → Nat → Hp → Prop, (∃ m, W 0 m (upd H1 D (.lst []))) ∧ ∀ i m H, W i m H →
      (J.stop i H ∧ Qd H) ∨ (J.go i H ∧ ∃ Nx : Hp → Prop, (∀ H', Nx H' → ∃ m', m' < m ∧ W (i + 1) m' H') ∧ ∀ x H', J.yld i H x H' → g x (wipe σ vs) H' fun σ2 H2 => wipe σ2 vs = wipe σ vs ∧ tYes σ2 H2 fun b H3 =>
        if b = true then te σ2 H3 fun y H4 => ∃ acc, H4 D = some (.lst acc) ∧ acc.length < sizeLine ∧ Nx (upd H4 D (.lst (acc ++ [y]))) else Nx H3) := by
  have hM := hP _ _ h0
  have dM : D ∉ M := fun q => hM D q hD
  have put : ∀ {H : Hp} {o : HO}, Same (hid M H1) (hid M H) → Same (hid M H1) (hid M (upd H D o)) := fun {H o} s b u e => by
    obtain ⟨q1, q2⟩ := hid_of e
    rw [hid_out q1, upd_ne (ne_of_none q2 hD)]
    exact same_at s q1 q2
  refine lc_it w (g := g) (tt := tYes) (te := te) (vs := vs) (σ := σ) (H1 := H1) (D := D) (Qd := Qd) (fun i H => Same (hid M H1) (hid M H) ∧ Iv i H ∧ ∃ rs tb, TabAt H D rs tb ∧ tb.length = i ∧ (∀ j row, tb[j]? = some row → R j row) ∧ ∀ r ∈ D :: rs, H1 r = none)
    ⟨put (Same.refl _), hI _ _ _ h0, [], [], ⟨upd_same, rfl, fun i r ns h => by simp at h, by simp⟩, rfl, fun j k e => by simp at e, fun r hr => by rw [List.mem_singleton.mp hr]; exact hD⟩ (fun i H _ p => hG i H p.1 p.2.1) ?_ (fun H ⟨h1, h2, rs, tb, h3, h4, h5, h6⟩ => hd H rs tb h1 h3 h4 h5 h6 h2)
  rintro i x H H' hi ⟨s1, iv, rs, tb, ht, hl, hR, hf⟩ y
  obtain ⟨sH, q⟩ := hs i x H H' hi s1 ⟨_, ht.top⟩ iv y
  refine q _ fun r row H4 hr hrow rk s4 iv4 => ?_
  have out : ∀ a ∈ D :: rs, a ∉ M := fun a ha q => hM a q (hf a ha)
  have t4 := ht.hidS s4 out
  have rD : r ≠ D := fun e => by rw [e, ht.top] at hr; cases hr
  have rrs : r ∉ rs := fun hm => by
    obtain ⟨j, hj, e⟩ := List.getElem_of_mem hm
    have hj2 : j < tb.length := by rw [← ht.len]; exact hj
    have := ht.row j r tb[j] (by rw [← e]; exact List.getElem?_eq_getElem hj) (List.getElem?_eq_getElem hj2)
    rw [hr] at this
    cases this
  refine ⟨rs.map V.ref, t4.top, small1000 (by rw [List.length_map, ht.len]; omega), put (s1.trans s4), hI _ _ _ iv4, rs ++ [r], tb ++ [row], ⟨?_, ?_, ?_, ?_⟩, by rw [List.length_append, hl]; rfl, fun j k' e => ?_, fun a ha => ?_⟩
  · rw [upd_same, List.map_append]; rfl
  · rw [List.length_append, List.length_append, ht.len]; rfl
  · intro j a ns h1 h2
    have hlen := ht.len
    have aD : a ≠ D := fun e => by
      rcases List.mem_append.mp (List.mem_of_getElem? h1) with h | h
      · exact (List.nodup_cons.mp ht.nd).1 (e ▸ h)
      · exact rD ((List.mem_singleton.mp h).symm.trans e)
    rw [upd_ne aD]
    by_cases hj : j < rs.length
    · rw [List.getElem?_append_left hj] at h1
      rw [List.getElem?_append_left (by omega)] at h2
      exact t4.row j a ns h1 h2
    · rw [List.getElem?_append_right (by omega)] at h1 h2
      have z : j - rs.length = 0 := by
        by_cases z : j - rs.length = 0
        · exact z
        · rw [List.getElem?_eq_none (by simp; omega)] at h1; cases h1
      rw [z] at h1
      rw [show j - tb.length = 0 by omega] at h2
      cases h1
      cases h2
      exact hrow
  · have h := List.nodup_cons.mp ht.nd
    refine List.nodup_cons.mpr ⟨fun hm => ?_, ?_⟩
    · rcases List.mem_append.mp hm with q | q
      · exact h.1 q
      · exact rD (List.mem_singleton.mp q).symm
    · refine List.nodup_append.mpr ⟨h.2, by simp, fun a ha b hb e => ?_⟩
      rw [List.mem_singleton.mp hb] at e
      exact rrs (e ▸ ha)
  · by_cases hj : j < tb.length
    · rw [List.getElem?_append_left hj] at e; exact hR j k' e
    · rw [List.getElem?_append_right (by omega)] at e
      have : j - tb.length = 0 := by
        by_cases z : j - tb.length = 0
        · exact z
        · rw [List.getElem?_eq_none (by simp; omega)] at e; cases e
      rw [this] at e
      cases e
      have : j = i := by omega
      rw [this]
      exact rk
  · rcases List.mem_cons.mp ha with e | ha
    · rw [e]; exact hD
    · rcases List.mem_append.mp ha with q | q
      · exact hf a (List.mem_cons_of_mem _ q)
      · rw [List.mem_singleton.mp q]
        cases e : H1 r with
        | none => rfl
        | some o =>
          have rM : r ∉ M := fun q => hP _ _ iv r q hr
          rw [same_at s1 rM e] at hr
          cases hr
end
end K31
namespace K31
open PySem PySem.Spec PyProof.Rows L2
def farV (ks : List Nat) (ad : Nat → Addr) : List (Key × V) := ks.map fun u : Nat => ((Sum.inl (u : Int) : Key), V.ref (ad u))
theorem valV_far {ad : Nat → Addr} {u : Nat} : ∀ {ks : List Nat}, valV (farV ks ad) (Sum.inl (u : Int)) = if u ∈ ks then some (.ref (ad u)) else none
  | [] => by rw [if_neg List.not_mem_nil]; rfl
  | a :: ks => by
    by_cases h : a = u
    · subst h
      rw [if_pos (List.mem_cons_self ..)]
      exact valV_pos rfl
    · rw [show valV (farV (a :: ks) ad) (Sum.inl (u : Int)) = valV (farV ks ad) (Sum.inl (u : Int)) from valV_neg fun e => h (by injection e; omega), valV_far]
      by_cases q : u ∈ ks
      · rw [if_pos q, if_pos (List.mem_cons_of_mem _ q)]
      · rw [if_neg q, if_neg fun z => ?_]
        rcases List.mem_cons.mp z with z | z
        · exact h z.symm
        · exact q z
theorem putK_far {ks : List Nat} {ad : Nat → Addr} {u : Nat} {D : Addr} (h : u ∉ ks) : putK (farV ks ad) (Sum.inl (u : Int)) (.ref D) = farV (ks ++ [u]) (fun x => if x = u then D else ad x) := by
  have no : ¬ ((farV ks ad).any fun kv => decide (kv.1 = (Sum.inl (u : Int) : Key))) = true := fun q => by
    obtain ⟨kv, hk, e⟩ := List.any_eq_true.mp q
    obtain ⟨a, ha, rfl⟩ := List.mem_map.mp hk
    have e : (Sum.inl (a : Int) : Key) = Sum.inl (u : Int) := of_decide_eq_true e
    injection e with e
    exact h (by rw [show u = a by omega]; exact ha)
  unfold putK
  rw [if_neg no]
  unfold farV
  rw [List.map_append]
  congr 1
  · exact List.map_congr_left fun a ha => by
      show _ = ((Sum.inl (a : Int) : Key), V.ref (if a = u then D else ad a))
      rw [if_neg fun e : a = u => h (by rw [← e]; exact ha)]
  · show _ = [((Sum.inl (u : Int) : Key), V.ref (if u = u then D else ad u))]
    rw [if_pos rfl]
structure FarAt (H : Hp) (f : Addr) (many : Nat) (ks : List Nat) (ad : Nat → Addr) (vl : Nat → List Int) : Prop where
  nd : ks.Nodup
  le : ∀ u ∈ ks, u ≤ many
  far : H f = some (.dK (farV ks ad))
  lst : ∀ u ∈ ks, H (ad u) = some (.lst ((vl u).map V.int))
  len : ∀ u ∈ ks, (vl u).length = many
  bd : ∀ u ∈ ks, ∀ e ∈ vl u, e.natAbs ≤ ks.length
theorem FarAt.same {H H' : Hp} {f : Addr} {many : Nat} {ks : List Nat} {ad : Nat → Addr} {vl : Nat → List Int} (h : FarAt H f many ks ad vl) (s : Same H H') : FarAt H' f many ks ad vl := ⟨h.nd, h.le, s _ _ h.far, fun u hu => s _ _ (h.lst u hu), h.len, h.bd⟩
theorem FarAt.put {H : Hp} {f D : Addr} {many g : Nat} {ks : List Nat} {ad : Nat → Addr} {vl : Nat → List Int} {ns : List Int} (h : FarAt H f many ks ad vl) (hg : g ∉ ks) (gl : g ≤ many) (hD : H D = some (.lst (ns.map V.int))) (hl : ns.length = many) (hb : ∀ e ∈ ns, e.natAbs ≤ ks.length + 1) :
    FarAt (upd H f (.dK (putK (farV ks ad) (Sum.inl (g : Int)) (.ref D)))) f many (ks ++ [g]) (fun x => if x = g then D else ad x) (fun x => if x = g then ns else vl x) := by
  have nf : ∀ {a : Addr} {xs : List V}, H a = some (.lst xs) → a ≠ f := fun e q => by rw [q, h.far] at e; cases e
  refine ⟨List.nodup_append.mpr ⟨h.nd, by simp, fun a ha b hb e => hg (by rw [← List.mem_singleton.mp hb, ← e]; exact ha)⟩, fun u hu => ?_, by rw [upd_same, putK_far hg], fun u hu => ?_, fun u hu => ?_, fun u hu e he => ?_⟩
  · rcases List.mem_append.mp hu with q | q
    · exact h.le u q
    · rw [List.mem_singleton.mp q]; exact gl
  · by_cases q : u = g
    · subst q
      show upd _ _ _ (if u = u then D else ad u) = some (.lst ((if u = u then ns else vl u).map V.int))
      rw [if_pos rfl, if_pos rfl, upd_ne (nf hD)]
      exact hD
    · show upd _ _ _ (if u = g then D else ad u) = some (.lst ((if u = g then ns else vl u).map V.int))
      have hu' : u ∈ ks := by
        rcases List.mem_append.mp hu with z | z
        · exact z
        · exact absurd (List.mem_singleton.mp z) q
      rw [if_neg q, if_neg q, upd_ne (nf (h.lst u hu'))]
      exact h.lst u hu'
  · show (if u = g then ns else vl u).length = many
    by_cases q : u = g
    · rw [if_pos q]; exact hl
    · rw [if_neg q]
      rcases List.mem_append.mp hu with z | z
      · exact h.len u z
      · exact absurd (List.mem_singleton.mp z) q
  · have he : e ∈ (if u = g then ns else vl u) := he
    rw [List.length_append]
    show e.natAbs ≤ ks.length + 1
    by_cases q : u = g
    · rw [if_pos q] at he; exact hb e he
    · rw [if_neg q] at he
      rcases List.mem_append.mp hu with z | z
      · have := h.bd u z e he; omega
      · exact absurd (List.mem_singleton.mp z) q
/-- many + 1 keys are all -/
theorem full_of {ks : List Nat} {many : Nat} (nd : ks.Nodup) (le : ∀ u ∈ ks, u ≤ many) (h : many + 1 ≤ ks.length) : ∀ u, u ≤ many → u ∈ ks := fun u hu => by
  refine Classical.byContradiction fun hn => ?_
  have sub : (u :: ks).Subset (List.range (many + 1)) := fun x hx => by
    rw [List.mem_range]
    rcases List.mem_cons.mp hx with e | e
    · omega
    · have := le x e; omega
  have := (List.nodup_cons.mpr ⟨hn, nd⟩).length_le_of_subset sub
  rw [List.length_cons, List.length_range] at this
  omega
theorem not_full {ks : List Nat} {many : Nat} (h : ks.length ≤ many) : ∃ u, u ≤ many ∧ u ∉ ks := by
  refine Classical.byContradiction fun hn => ?_
  have sub : (List.range (many + 1)).Subset ks := fun x hx => Classical.byContradiction fun q => hn ⟨x, by have := List.mem_range.mp hx; omega, q⟩
  have := (List.nodup_range (n := many + 1)).length_le_of_subset sub
  rw [List.length_range] at this
  omega
end K31
namespace K31
open PySem PySem.Spec PyProof.Rows L2
section
variable {P : Program} {w : World} {K : PySem.W.Frag} {mg : Str → Option Value} {base : Heap}
def spNet (K : PySem.W.Frag) : Sp := fun vs H Q _ => ∃ (S : List Addr) (many n : Nat) (ends arcs : List (Nat × Nat)), There S H ∧ DpAll K (hid S H) vs [.list (ends.map prD), .list (arcs.map prD)] ∧ ends.length = many ∧ 1 ≤ many ∧ many ≤ 6 ∧ arcs.length = n ∧ n ≤ 6 ∧ Cross many ends ∧ (∀ e ∈ arcs, e.1 ≤ many ∧ e.2 ≤ many) ∧
  ∀ H' p rs tb, Same H H' → TabAt H' p rs tb → tb.length = many → (∀ row ∈ tb, row.length = n ∧ ∀ e ∈ row, e.natAbs ≤ 14) → (∀ a ∈ p :: rs, H a = none) → Q (.ref p) H'
theorem dp_pr {H : Hp} {v : V} {e : Nat × Nat} (h : Dp K H v (prD e)) : ∃ a, v = .ref a ∧ SqT K H a [.int (e.1 : Nat), .int (e.2 : Nat)] := by
  obtain ⟨a, xs, rfl, h1, h2⟩ := dpt h
  obtain ⟨x, y, rfl, h3, h4⟩ := dp2 h2
  cases h3
  cases h4
  exact ⟨a, rfl, h1⟩
abbrev N__law_net : List Str := ["_law_ends_here", "_law_arcs", "_law_far", "_law_k", "_law_begin", "_law_goal", "_law_step", "_law_other", "_law_a", "_law_b"]
theorem sc__law_net : FnScope N__law_net ["_law_ends_here", "_law_arcs"] (defScope s__law_net) := ⟨rfl, rfl, rfl, by decide +kernel, rfl, by decide +kernel, by decide +kernel⟩
theorem c__law_net (T : Txt K mg) : Cal P w K mg base 2 "_law_net" ["_law_ends_here", "_law_arcs"] (spNet K) := by
  refine cal_mk T.F_s__law_net T.g__law_net sc__law_net (fun _ _ _ _ _ _ us hl => match us, hl with | [_, _], _ => rfl) (fun vs H Q E ⟨_, _, _, _, _, _, h, _⟩ => h.length) fun cdv A outer s H vs Q E hr ⟨S, many, n, ends, arcs, hS, hd, le, m1, m6, la, n6, cr, ha, kq⟩ => ?_
  obtain ⟨v1, v2, rfl, h1, h2⟩ := dp2 hd
  obtain ⟨l, xs, rfl, hl, hx⟩ := dpl h1.up
  obtain ⟨l2, ys, rfl, hl2, hy⟩ := dpl h2.up
  have lxs : xs.length = many := by have := hx.length; rw [List.length_map] at this; omega
  have lys : ys.length = n := by have := hy.length; rw [List.length_map] at this; omega
  have endAt : ∀ {i : Nat}, i < many → ∃ a, xs[i]? = some (.ref a) ∧ SqT K H a [.int ((ends[i]?.getD (0, 0)).1 : Nat), .int ((ends[i]?.getD (0, 0)).2 : Nat)] := fun {i} hi => by
    have e : ends[i]? = some (ends[i]?.getD (0, 0)) := by rw [List.getElem?_eq_getElem (by omega)]; rfl
    obtain ⟨v, e1, dv⟩ := hx.at (show (ends.map prD)[i]? = some (prD (ends[i]?.getD (0, 0))) by rw [List.getElem?_map, e]; rfl)
    obtain ⟨a, rfl, h⟩ := dp_pr dv
    exact ⟨a, e1, h⟩
  refine ⟨_, (pss_cons (sset 2 sc__law_net.nd (pe_disp (pps_cons (pe_ix (ix_tupK K) (pe_ix (ix_listK K) (pv 0) pe_int (fun _ _ => rfl)) pe_int (fun _ _ => rfl)) (pe_op op_rep (pe_lst (pa_cons pe_int pa_nil)) (pe_callB (lenK K) (by rfl) T.f_len (by decide +kernel) (pa_cons (pv 0) pa_nil))) pps_nil) (by rfl) (by rfl) (fun z => by cases z) (by decide)))
 (pss_cons (ps_while PassesOwn.never (pt_cmpR op_le (pe_callB call_lenD (by rfl) T.f_len (by decide +kernel) (pa_cons (pv 2) pa_nil)) (pe_callB (lenK K) (by rfl) T.f_len (by decide +kernel) (pa_cons (pv 0) pa_nil)) (nomark _))
  (pss_one (ps_for PassesOwn.never rfl (pi_enum (by rfl) T.f_enumerate (pa_cons (pv 0) pa_nil)) (pg_tupK (n := 2) K rfl (pgs_cons (pgn 3 sc__law_net.nd) (pgs_cons (pg_tupK (n := 2) K rfl (pgs_cons (pgn 4 sc__law_net.nd) (pgs_cons (pgn 5 sc__law_net.nd) pgs_nil))) pgs_nil)))
  (pss_cons (ps_setLc (i := 6) (own := [("_law_other", 7)]) rfl sc__law_net.nd rfl rfl (sw_true rfl rfl rfl (by decide +kernel)) (pi_range1 rfl T.f_range (pa_cons (pe_callB (lenK K) (by rfl) T.f_len (by decide +kernel) (pa_cons (pv 0) pa_nil)) pa_nil)) (blkOk_by (own := [("_law_other", 7)]) (by kernel_rfl)) (fun _ _ _ _ _ => (pgn 7 sc__law_net.nd)) (fun _ _ _ _ _ => pts_nil) (fun _ _ _ _ _ => (pe_callTy call_int1 (by rfl) T.f_int (by decide +kernel) (pa_cons (pe_cmpR op_eq (pv 3) (pv 7) (nomark _)) pa_nil))))
 (pss_one (ps_if (PW.pt (pw_and (pt_cmp (pc_din (hu_of hr) (pv 4) (pv 2))) (pw_and1 (pt_cmp (pc_dnotin (hu_of hr) (pv 5) (pv 2))))))
  (pss_one (ps_dput (hu_of hr) (pv 2) (pv 5) (pe_lc (own := [("_law_a", 8), ("_law_b", 9)]) rfl sc__law_net.nd (pi_zipK K T.f_zip (pa_cons (pe_dget (hu_of hr) (pv 2) (pv 4) (fun _ _ => rfl)) (pa_cons (pv 6) pa_nil))) (blkOk_by (own := [("_law_a", 8), ("_law_b", 9)]) (by kernel_rfl)) (fun _ _ _ _ _ => (pg_tupK (n := 2) K rfl (pgs_cons (pgn 8 sc__law_net.nd) (pgs_cons (pgn 9 sc__law_net.nd) pgs_nil)))) (fun _ _ _ _ _ => pts_nil) (fun _ _ _ _ _ => (pe_op op_add (pv 8) (pv 9)))) rfl))
  (pss_one (ps_if (PW.pt (pw_and (pt_cmp (pc_din (hu_of hr) (pv 5) (pv 2))) (pw_and1 (pt_cmp (pc_dnotin (hu_of hr) (pv 4) (pv 2))))))
  (pss_one (ps_dput (hu_of hr) (pv 2) (pv 4) (pe_lc (own := [("_law_a", 8), ("_law_b", 9)]) rfl sc__law_net.nd (pi_zipK K T.f_zip (pa_cons (pe_dget (hu_of hr) (pv 2) (pv 5) (fun _ _ => rfl)) (pa_cons (pv 6) pa_nil))) (blkOk_by (own := [("_law_a", 8), ("_law_b", 9)]) (by kernel_rfl)) (fun _ _ _ _ _ => (pg_tupK (n := 2) K rfl (pgs_cons (pgn 8 sc__law_net.nd) (pgs_cons (pgn 9 sc__law_net.nd) pgs_nil)))) (fun _ _ _ _ _ => pts_nil) (fun _ _ _ _ _ => (pe_op op_sub (pv 8) (pv 9)))) rfl))
  pss_nil))))))))
 (pss_one (ps_ret (pe_lc (own := [("_law_k", 3)]) rfl sc__law_net.nd (pi_range1 rfl T.f_range (pa_cons (pe_callB (lenK K) (by rfl) T.f_len (by decide +kernel) (pa_cons (pv 0) pa_nil)) pa_nil)) (blkOk_by (own := [("_law_k", 3)]) (by kernel_rfl)) (fun _ _ _ _ _ => (pgn 3 sc__law_net.nd)) (fun _ _ _ _ _ => pts_nil) (fun _ _ _ _ _ => (by exact (pe_lc (own := [("_law_begin", 4), ("_law_goal", 5)]) rfl sc__law_net.nd (pi_listK K (pv 1)) (blkOk_by (own := [("_law_begin", 4), ("_law_goal", 5)]) (by kernel_rfl)) (fun _ _ _ _ _ => (pg_tupK (n := 2) K rfl (pgs_cons (pgn 4 sc__law_net.nd) (pgs_cons (pgn 5 sc__law_net.nd) pgs_nil)))) (fun _ _ _ _ _ => pts_nil) (fun _ _ _ _ _ => (pe_op op_sub (pe_ix (ix_listK K) (pe_dget (hu_of hr) (pv 2) (pv 5) (fun _ _ => rfl)) (pv 3) (fun _ _ => rfl)) (pe_ix (ix_listK K) (pe_dget (hu_of hr) (pv 2) (pv 4) (fun _ _ => rfl)) (pv 3) (fun _ _ => rfl)))))))))))), ?_⟩
  intro f hf
  have sf : Same H (upd H f (.dK [])) := Same.new hf
  have ef : (upd H f (.dK [])) f = some (.dK []) := upd_same
  generalize upd H f (.dK []) = H1 at sf ef
  obtain ⟨a0, ha0, hs0⟩ := endAt (i := 0) (by omega)
  have e0in : (ends[0]?.getD (0, 0)) ∈ ends := by
    rw [List.getElem?_eq_getElem (by omega)]
    exact List.getElem_mem _
  have u0le := (cr.le _ e0in).1
  generalize (ends[0]?.getD (0, 0)).1 = u0 at hs0 u0le
  refine ⟨_, rfl, _, _, _, _, rfl, rfl, sf.seq hl, atI_nat (j := 0) ha0, _, _, _, _, rfl, rfl, sqT_same sf hs0, rfl, ?_⟩
  refine ⟨by show 1 ≤ sizeLine; decide, fun p1 hp1 => ?_⟩
  have s1 : Same H1 (upd H1 p1 (.lst [.int 0])) := Same.new hp1
  have e1 : (upd H1 p1 (.lst [.int 0])) p1 = some (.lst [.int 0]) := upd_same
  generalize upd H1 p1 (.lst [.int 0]) = H2 at s1 e1
  refine ⟨_, rfl, _, _, rfl, .inl ((sf.trans s1).seq hl), p1, many, _, rfl, by rw [lxs], e1, by omega, by omega, by show 1 * (many : Int).toNat ≤ sizeLine; rw [Int.toNat_natCast]; exact Nat.le_trans (show 1 * many ≤ 6 by omega) (by decide), fun D0 hD0 => ?_⟩
  rw [Int.toNat_natCast, rep_one]
  have s2 : Same H2 (upd H2 D0 (.lst (List.replicate many (.int 0)))) := Same.new hD0
  have e2 : (upd H2 D0 (.lst (List.replicate many (.int 0)))) D0 = some (.lst (List.replicate many (.int 0))) := upd_same
  generalize upd H2 D0 (.lst (List.replicate many (.int 0))) = H3 at s2 e2
  refine ⟨s2 _ _ (s1 _ _ ef), [(Sum.inl ((u0 : Nat) : Int), .ref D0)], rfl, by show 1 ≤ 15; decide, ?_⟩
  have s03 := sf.trans (s1.trans s2)
  have D0f : D0 ≠ f := fun e => by rw [e, s1 _ _ ef] at hD0; cases hD0
  have fa0 : FarAt (upd H3 f (.dK (mergeK [] [(Sum.inl ((u0 : Nat) : Int), .ref D0)]))) f many [u0] (fun _ => D0) (fun _ => List.replicate many 0) := by
    refine ⟨by simp, fun u hu => by rw [List.mem_singleton.mp hu]; exact u0le, upd_same, fun u _ => ?_, fun _ _ => List.length_replicate, fun _ _ e he => ?_⟩
    · rw [upd_ne D0f, e2, List.map_replicate]
    · rw [(List.mem_replicate.mp he).2]; show 0 ≤ 1; decide
  have S4 : Same H (upd H3 f (.dK (mergeK [] [(Sum.inl ((u0 : Nat) : Int), .ref D0)]))) := s03.put hf
  generalize upd H3 f (.dK (mergeK [] [(Sum.inl ((u0 : Nat) : Int), .ref D0)])) = H4 at fa0 S4
  -- while
  refine ⟨fun μ σ H' => ∃ (ks : List Nat) (ad : Nat → Addr) (vl : Nat → List Int) (o3 o4 o5 o6 o7 o8 o9 : Option V), μ = many + 1 - ks.length ∧ σ = [some (.ref l), some (.ref l2), some (.ref f), o3, o4, o5, o6, o7, o8, o9] ∧ FarAt H' f many ks ad vl ∧ 0 < ks.length ∧ Same H H',
    ⟨_, [u0], _, _, _, _, _, _, _, _, _, rfl, rfl, fa0, by show 0 < 1; decide, S4⟩, ?_⟩
  rintro μ σ H5 ⟨ks, ad, vl, o3, o4, o5, o6, o7, o8, o9, rfl, rfl, F5, k0, S5⟩
  refine ⟨_, rfl, f, _, rfl, F5.far, _, rfl, _, _, rfl, .inl (S5.seq hl), _, _, rfl, rfl, ?_⟩
  have lk : (farV ks ad).length = ks.length := by unfold farV; rw [List.length_map]
  rw [lk, lxs]
  by_cases hle : (ks.length : Int) ≤ (many : Int)
  · refine ⟨true, bT hle, iteT ?_⟩
    refine ⟨fun σ H' => ∃ (ks' : List Nat) (ad : Nat → Addr) (vl : Nat → List Int) (o3 o4 o5 o6 o7 o8 o9 : Option V), ks.length < ks'.length ∧ σ = [some (.ref l), some (.ref l2), some (.ref f), o3, o4, o5, o6, o7, o8, o9] ∧ FarAt H' f many ks' ad vl ∧ 0 < ks'.length ∧ Same H H',
      fun σ' H' ⟨ks', ad, vl, o3, o4, o5, o6, o7, o8, o9, hlt, r⟩ => ⟨many + 1 - ks'.length, by omega, ks', ad, vl, o3, o4, o5, o6, o7, o8, o9, rfl, r⟩, ?_⟩
    refine ⟨_, rfl, l, xs, rfl, S5.seq hl, ?_⟩
    have we := walk_enum (K := K) (a := l) (xs := xs)
    rw [lxs] at we
    refine for_it we (fun i σ H' => ∃ (ks' : List Nat) (ad : Nat → Addr) (vl : Nat → List Int) (o3 o4 o5 o6 o7 o8 o9 : Option V), σ = [some (.ref l), some (.ref l2), some (.ref f), o3, o4, o5, o6, o7, o8, o9] ∧ FarAt H' f many ks' ad vl ∧ 0 < ks'.length ∧ Same H H' ∧
        (ks.length < ks'.length ∨ (ks' = ks ∧ ∀ j, j < i → ∀ e, ends[j]? = some e → (e.1 ∈ ks ↔ e.2 ∈ ks))))
      ⟨ks, ad, vl, _, _, _, _, _, _, _, rfl, F5, k0, S5, .inr ⟨rfl, fun j hj => absurd hj (Nat.not_lt_zero _)⟩⟩ (fun i σ H' _ ⟨_, _, _, _, _, _, _, _, _, _, _, _, _, s, _⟩ => s.seq hl) ?_ ?_
    · rintro i x σ H6 H7 hi ⟨ks', ad, vl, o3, o4, o5, o6, o7, o8, o9, rfl, F6, k6, S6, pr⟩ ⟨Tp, x, y, rfl, hT, rfl, ex, ey⟩
      obtain ⟨ae, hae, hse⟩ := endAt hi
      have ey : xs[i]? = some y := ey
      rw [hae] at ey
      cases ey
      have ex : some (V.int (i : Nat)) = some x := ex
      cases ex
      have hei : ends[i]? = some (ends[i]?.getD (0, 0)) := by rw [List.getElem?_eq_getElem (by omega)]; rfl
      obtain ⟨ul, vl'⟩ := cr.le _ (List.mem_of_getElem? hei)
      have sT : Same H6 (upd H6 Tp (.tup [.int (i : Nat), .ref ae])) := Same.new hT
      refine ⟨Tp, _, rfl, SqT.of upd_same, rfl, _, _, rfl, _, _, rfl, ae, _, rfl, sqT_same (S6.trans sT) hse, rfl, _, _, rfl, _, _, rfl, rfl, rfl, ?_⟩
      generalize upd H6 Tp (.tup [.int (i : Nat), .ref ae]) = H7 at sT
      generalize ends[i]?.getD (0, 0) = ed at hei ul vl'
      obtain ⟨u, v⟩ := ed
      have S7 := S6.trans sT
      have F7 := F6.same sT
      refine ⟨_, rfl, _, _, rfl, .inl (S7.seq hl), _, rfl, by omega, by omega, fun D hD => ?_⟩
      rw [lxs, Int.toNat_natCast]
      refine lc_ints walk_range [] (fun _ _ => True) (fun _ k => k.natAbs ≤ 1) hD (by simp) (by omega) trivial (fun _ _ _ _ => trivial) (fun _ _ _ _ => trivial) ?_ ?_
      · rintro j x H8 H9 hj s8 _ _ ⟨rfl, rfl⟩
        refine ⟨Same.refl _, fun Q' hQ => ⟨rfl, ?_⟩⟩
        refine ⟨_, rfl, _, rfl, rfl, .inr ⟨_, rfl, hQ _ _ ?_ (Same.refl _) trivial⟩⟩
        split <;> decide
      intro H8 st s8 hst lst hR _
      rw [hid_nil, hid_nil] at s8
      have F8 := F7.same s8
      have S8 := S7.trans s8
      have stb : ∀ j, (gd st j).natAbs ≤ 1 := fun j => by
        by_cases q : j < st.length
        · exact hR j _ (gd_at q)
        · show (st.getD j 0).natAbs ≤ 1
          rw [List.getD_eq_getElem?_getD, List.getElem?_eq_none (by omega)]
          decide
      have gdb : ∀ x ∈ ks', ∀ j, j < many → (gd (vl x) j).natAbs ≤ ks'.length := fun x hx j hj => F8.bd x hx _ (List.mem_of_getElem? (gd_at (by rw [F8.len x hx]; exact hj)))
      have dget : ∀ {x : Nat} {G : Hp}, x ∈ ks' → G f = some (.dK (farV ks' ad)) → DGet G f (.int (x : Nat)) (some (.ref (ad x))) := fun {x G} hx e => by
        have := DGet.k (k := Sum.inl ((x : Nat) : Int)) e
        rw [valV_far, if_pos hx] at this
        exact this
      have lk' : (farV ks' ad).length < sizeLine := by
        have h1 := F8.nd.length_le_of_subset (l₂ := List.range (many + 1)) fun x hx => List.mem_range.mpr (by have := F8.le x hx; omega)
        rw [List.length_range] at h1
        unfold farV
        rw [List.length_map]
        exact small1000 (by omega)
      have grow : ∀ {g : Nat} {D2 : Addr} {ns : List Int} {G : Hp}, g ∉ ks' → g ≤ many → Same H8 G → G D2 = some (.lst (ns.map V.int)) → ns.length = many → (∀ (j : Nat) (k : Int), ns[j]? = some k → k.natAbs ≤ ks'.length + 1) →
          FarAt (upd G f (.dK (putK (farV ks' ad) (Sum.inl (g : Int)) (.ref D2)))) f many (ks' ++ [g]) (fun x => if x = g then D2 else ad x) (fun x => if x = g then ns else vl x) := fun {g D2 ns G} hg gl s hD2 hln hb =>
        (F8.same s).put hg gl hD2 hln fun e he => by
          obtain ⟨j, hj, ej⟩ := List.getElem_of_mem he
          exact hb j e (by rw [← ej]; exact List.getElem?_eq_getElem hj)
      have grown : ∀ {g : Nat}, ks.length < (ks' ++ [g]).length := fun {g} => by
        rw [List.length_append]
        rcases pr with h | ⟨h, _⟩
        · show _ < _ + 1; omega
        · rw [h]; show _ < _ + 1; omega
      have keep : (u ∈ ks' ↔ v ∈ ks') → (ks.length < ks'.length ∨ (ks' = ks ∧ ∀ j, j < i + 1 → ∀ e, ends[j]? = some e → (e.1 ∈ ks ↔ e.2 ∈ ks))) := fun huv => by
        rcases pr with h | ⟨h, hk⟩
        · exact .inl h
        · refine .inr ⟨h, fun j hj e he => ?_⟩
          by_cases q : j < i
          · exact hk j q e he
          · have : j = i := by omega
            subst this
            rw [hei] at he
            cases he
            rw [← h]
            exact huv
      refine ⟨_, rfl, _, rfl, f, _, rfl, DGet.k (k := Sum.inl ((u : Nat) : Int)) F8.far, _, rfl, ?_⟩
      rw [valV_far]
      by_cases hu : u ∈ ks'
      · rw [if_pos hu]
        refine iteT ?_
        refine ⟨_, rfl, _, rfl, f, _, rfl, DGet.k (k := Sum.inl ((v : Nat) : Int)) F8.far, _, rfl, ?_⟩
        rw [valV_far]
        by_cases hv : v ∈ ks'
        · rw [if_pos hv]
          refine iteF ?_
          refine ⟨_, rfl, _, rfl, f, _, rfl, DGet.k (k := Sum.inl ((v : Nat) : Int)) F8.far, _, rfl, ?_⟩
          rw [valV_far, if_pos hv]
          refine iteT ?_
          refine ⟨_, rfl, _, rfl, f, _, rfl, DGet.k (k := Sum.inl ((u : Nat) : Int)) F8.far, _, rfl, ?_⟩
          rw [valV_far, if_pos hu]
          refine iteF ?_
          exact ⟨ks', ad, vl, _, _, _, _, _, _, _, rfl, F8, k6, S8, keep ⟨fun _ => hv, fun _ => hu⟩⟩
        · rw [if_neg hv]
          refine iteT ?_
          refine ⟨_, rfl, _, rfl, f, _, rfl, dget hu F8.far, _, rfl, ad u, D, _, _, rfl, SqL.of (F8.lst u hu), SqL.of hst, fun D2 hD2 => ?_⟩
          refine lc_ints (walk_zip (n := many) (xs := (vl u).map V.int) (ys := st.map V.int) (by rw [List.length_map, List.length_map, F8.len u hu, lst, Nat.min_self])) [] (fun _ _ => True) (fun _ k => k.natAbs ≤ ks'.length + 1) hD2 (by simp) (by omega) trivial (fun _ _ _ _ => trivial) (fun _ G s _ => by rw [hid_nil, hid_nil] at s; exact ⟨SqL.of (s _ _ (F8.lst u hu)), SqL.of (s _ _ hst)⟩) ?_ ?_
          · rintro j y H9 H10 hj s9 _ _ ⟨T2, x, z, rfl, hT2, rfl, ex, ez⟩
            have sT2 : Same H9 (upd H9 T2 (.tup [x, z])) := Same.new hT2
            refine ⟨by rw [hid_nil, hid_nil]; exact sT2, fun Q' hQ => ?_⟩
            have ex : ((vl u).map V.int)[j]? = some x := ex
            have ez : (st.map V.int)[j]? = some z := ez
            cases neg_at ex
            cases neg_at ez
            refine ⟨T2, _, rfl, SqT.of upd_same, rfl, _, _, rfl, _, _, rfl, rfl, rfl, ?_⟩
            refine ⟨_, rfl, _, rfl, _, _, rfl, rfl, hQ _ _ ?_ (by rw [hid_nil, hid_nil]; exact sT2) trivial⟩
            have h1 := gdb u hu j hj
            have h2 := stb j
            omega
          intro H9 ns s9 hns lns hR2 _
          rw [hid_nil, hid_nil] at s9
          refine ⟨_, rfl, _, rfl, f, _, rfl, DPut.k (k := Sum.inl ((v : Nat) : Int)) (s9 _ _ F8.far) lk', ?_⟩
          exact ⟨_, _, _, _, _, _, _, _, _, _, rfl, grow hv vl' s9 hns lns hR2, by rw [List.length_append]; exact Nat.succ_pos _, (S8.trans s9).put hf, .inl grown⟩
      · rw [if_neg hu]
        refine iteF (iteF ?_)
        refine ⟨_, rfl, _, rfl, f, _, rfl, DGet.k (k := Sum.inl ((v : Nat) : Int)) F8.far, _, rfl, ?_⟩
        rw [valV_far]
        by_cases hv : v ∈ ks'
        · rw [if_pos hv]
          refine iteT ?_
          refine ⟨_, rfl, _, rfl, f, _, rfl, DGet.k (k := Sum.inl ((u : Nat) : Int)) F8.far, _, rfl, ?_⟩
          rw [valV_far, if_neg hu]
          refine iteT ?_
          refine ⟨_, rfl, _, rfl, f, _, rfl, dget hv F8.far, _, rfl, ad v, D, _, _, rfl, SqL.of (F8.lst v hv), SqL.of hst, fun D2 hD2 => ?_⟩
          refine lc_ints (walk_zip (n := many) (xs := (vl v).map V.int) (ys := st.map V.int) (by rw [List.length_map, List.length_map, F8.len v hv, lst, Nat.min_self])) [] (fun _ _ => True) (fun _ k => k.natAbs ≤ ks'.length + 1) hD2 (by simp) (by omega) trivial (fun _ _ _ _ => trivial) (fun _ G s _ => by rw [hid_nil, hid_nil] at s; exact ⟨SqL.of (s _ _ (F8.lst v hv)), SqL.of (s _ _ hst)⟩) ?_ ?_
          · rintro j y H9 H10 hj s9 _ _ ⟨T2, x, z, rfl, hT2, rfl, ex, ez⟩
            have sT2 : Same H9 (upd H9 T2 (.tup [x, z])) := Same.new hT2
            refine ⟨by rw [hid_nil, hid_nil]; exact sT2, fun Q' hQ => ?_⟩
            have ex : ((vl v).map V.int)[j]? = some x := ex
            have ez : (st.map V.int)[j]? = some z := ez
            cases neg_at ex
            cases neg_at ez
            refine ⟨T2, _, rfl, SqT.of upd_same, rfl, _, _, rfl, _, _, rfl, rfl, rfl, ?_⟩
            refine ⟨_, rfl, _, rfl, _, _, rfl, rfl, hQ _ _ ?_ (by rw [hid_nil, hid_nil]; exact sT2) trivial⟩
            have h1 := gdb v hv j hj
            have h2 := stb j
            omega
          intro H9 ns s9 hns lns hR2 _
          rw [hid_nil, hid_nil] at s9
          refine ⟨_, rfl, _, rfl, f, _, rfl, DPut.k (k := Sum.inl ((u : Nat) : Int)) (s9 _ _ F8.far) lk', ?_⟩
          exact ⟨_, _, _, _, _, _, _, _, _, _, rfl, grow hu ul s9 hns lns hR2, by rw [List.length_append]; exact Nat.succ_pos _, (S8.trans s9).put hf, .inl grown⟩
        · rw [if_neg hv]
          refine iteF (iteF ?_)
          exact ⟨ks', ad, vl, _, _, _, _, _, _, _, rfl, F8, k6, S8, keep ⟨fun h => absurd h hu, fun h => absurd h hv⟩⟩
    · rintro σ H6 ⟨ks', ad, vl, o3, o4, o5, o6, o7, o8, o9, rfl, F6, k6, S6, pr⟩
      refine ⟨ks', ad, vl, _, _, _, _, _, _, _, ?_, rfl, F6, k6, S6⟩
      rcases pr with h | ⟨rfl, h⟩
      · exact h
      · obtain ⟨u, hu, hn⟩ := not_full (ks := ks') (many := many) (by omega)
        obtain ⟨v, hv⟩ : ∃ v, v ∈ ks' := ⟨_, List.getElem_mem k6⟩
        obtain ⟨e, he, hne⟩ := cr.ex (fun z => decide (z ∈ ks')) ⟨v, F6.le v hv, decide_eq_true hv⟩ ⟨u, hu, decide_eq_false hn⟩
        obtain ⟨j, hj, ej⟩ := List.getElem_of_mem he
        have := h j (by omega) e (by rw [← ej]; exact List.getElem?_eq_getElem hj)
        exact absurd (decide_eq_decide.mpr this) hne
  · refine ⟨false, bF hle, iteF ?_⟩
    have full := full_of F5.nd F5.le (by omega)
    have bd7 : ks.length ≤ 7 := by
      have h1 := F5.nd.length_le_of_subset (l₂ := List.range (many + 1)) fun x hx => List.mem_range.mpr (by have := F5.le x hx; omega)
      rw [List.length_range] at h1
      omega
    have dget : ∀ {x : Nat} {G : Hp}, x ∈ ks → G f = some (.dK (farV ks ad)) → DGet G f (.int (x : Nat)) (some (.ref (ad x))) := fun {x G} hx e => by
      have := DGet.k (k := Sum.inl ((x : Nat) : Int)) e
      rw [valV_far, if_pos hx] at this
      exact this
    have arcAt : ∀ {j : Nat} {y : V}, j < n → ys[j]? = some y → ∃ a u v, y = .ref a ∧ SqT K H a [.int (u : Nat), .int (v : Nat)] ∧ u ≤ many ∧ v ≤ many := fun {j y} hj e => by
      have e1 : arcs[j]? = some (arcs[j]?.getD (0, 0)) := by rw [List.getElem?_eq_getElem (by omega)]; rfl
      obtain ⟨y', e2, dv⟩ := hy.at (show (arcs.map prD)[j]? = some (prD (arcs[j]?.getD (0, 0))) by rw [List.getElem?_map, e1]; rfl)
      rw [e] at e2
      cases e2
      obtain ⟨a, rfl, h⟩ := dp_pr dv
      obtain ⟨h1, h2⟩ := ha _ (List.mem_of_getElem? e1)
      exact ⟨a, _, _, rfl, h, h1, h2⟩
    refine ⟨_, rfl, _, _, rfl, .inl (S5.seq hl), _, rfl, by omega, by omega, fun D hD => ?_⟩
    rw [lxs, Int.toNat_natCast]
    refine lc_rows walk_range [] (fun _ _ => True) (fun _ row => row.length = n ∧ ∀ e ∈ row, e.natAbs ≤ 14) hD (fun _ _ _ a ha => absurd ha (by simp)) (by omega) trivial (fun _ _ _ _ => trivial) (fun _ _ _ _ => trivial) ?_ ?_
    · rintro k x H6 H7 hk s6 _ _ ⟨rfl, rfl⟩
      rw [hid_nil, hid_nil] at s6
      have F6 := F5.same s6
      refine ⟨Same.refl _, fun Q' hQ => ⟨rfl, ?_⟩⟩
      refine ⟨_, rfl, l2, rfl, ⟨ys, (S5.trans s6).seq hl2⟩, fun D2 hD2 => ?_⟩
      refine lc_ints (walk_list (K := K) (a := l2) (xs := ys)) [] (fun _ _ => True) (fun _ e => e.natAbs ≤ 14) hD2 (by simp) (by omega) trivial (fun _ _ _ _ => trivial) (fun _ G s _ => by rw [hid_nil, hid_nil] at s; exact ((S5.trans s6).trans s).seq hl2) ?_ ?_
      · rintro j x H8 H9 hj s8 _ _ ⟨rfl, hyj⟩
        rw [hid_nil, hid_nil] at s8
        obtain ⟨av, u, v, rfl, hsq, hu, hv⟩ := arcAt (by omega) hyj
        refine ⟨Same.refl _, fun Q2 hQ2 => ?_⟩
        have F8 := F6.same s8
        refine ⟨av, _, rfl, sqT_same ((S5.trans s6).trans s8) hsq, rfl, _, _, rfl, _, _, rfl, rfl, rfl, ?_⟩
        have e1 : ((vl v).map V.int)[k]? = some (V.int (gd (vl v) k)) := by rw [List.getElem?_map, gd_at (by rw [F5.len v (full v hv)]; exact hk)]; rfl
        have e2 : ((vl u).map V.int)[k]? = some (V.int (gd (vl u) k)) := by rw [List.getElem?_map, gd_at (by rw [F5.len u (full u hu)]; exact hk)]; rfl
        have z0 : (fun i : Nat => V.int (0 + (i : Int))) k = V.int (k : Int) := by show V.int (0 + (k : Int)) = _; rw [Int.zero_add]
        refine ⟨_, rfl, _, rfl, f, _, rfl, dget (full v hv) F8.far, _, rfl, _, _, _, _, rfl, z0, SqL.of (F8.lst v (full v hv)), atI_nat e1, ?_⟩
        refine ⟨_, rfl, _, rfl, f, _, rfl, dget (full u hu) F8.far, _, rfl, _, _, _, _, rfl, z0, SqL.of (F8.lst u (full u hu)), atI_nat e2, _, _, rfl, rfl, hQ2 _ _ ?_ (Same.refl _) trivial⟩
        have b1 := F5.bd v (full v hv) _ (List.mem_of_getElem? (gd_at (ns := vl v) (j := k) (by rw [F5.len v (full v hv)]; exact hk)))
        have b2 := F5.bd u (full u hu) _ (List.mem_of_getElem? (gd_at (ns := vl u) (j := k) (by rw [F5.len u (full u hu)]; exact hk)))
        omega
      · intro H8 ns s8 hns lns hR _
        refine hQ D2 ns H8 hD2 hns ⟨by omega, fun e he => ?_⟩ s8 trivial
        obtain ⟨j, hj, ej⟩ := List.getElem_of_mem he
        exact hR j e (by rw [← ej]; exact List.getElem?_eq_getElem hj)
    · intro H6 rs tb s6 ht ltb hR hf6 _
      rw [hid_nil, hid_nil] at s6
      refine kq H6 D rs tb (S5.trans s6) ht ltb (fun row hrow => ?_) fun a ha => S5.free (hf6 a ha)
      obtain ⟨j, hj, ej⟩ := List.getElem_of_mem hrow
      exact hR j row (by rw [← ej]; exact List.getElem?_eq_getElem hj)
end
end K31
namespace K31
open PySem PySem.Spec PyProof.Rows L2
/-- a new table, while the source drew -/
structure TabNew (H H' : Hp) (src : Addr) (z : Nat) (p : Addr) (rs : List Addr) (tb : List (List Int)) (m n B : Nat) : Prop where
  same : Same (hid [src] H) (hid [src] H')
  src : SrcAt src z H'
  tab : TabAt H' p rs tb
  len : tb.length = m
  rows : ∀ row ∈ tb, row.length = n ∧ ∀ e ∈ row, e.natAbs ≤ B
  fresh : ∀ a ∈ p :: rs, H a = none
theorem there_src {S : List Addr} {src : Addr} {z : Nat} {H H' : Hp} (hS : There S H) (h : SrcAt src z H') (s : Same (hid [src] H) (hid [src] H')) : There S H' := fun y hy => by
  by_cases e : y = src
  · obtain ⟨_, _, _, e', _⟩ := h.ex
    rw [e]
    exact ⟨_, e', fun _ q => nomatch q⟩
  · obtain ⟨o, h1, h2⟩ := hS y hy
    exact ⟨o, same_at s (by simpa using e) h1, h2⟩
theorem SrcAt.put {src D : Addr} {z : Nat} {H : Hp} {o : HO} (h : SrcAt src z H) (hD : D ≠ src) : SrcAt src z (upd H D o) := by
  obtain ⟨a1, a2, a3, e, r⟩ := h.ex
  exact ⟨a1, a2, a3, by rw [upd_ne (Ne.symm hD)]; exact e, r⟩
theorem SrcAt.ne {src : Addr} {z : Nat} {H : Hp} (h : SrcAt src z H) : H src ≠ none := by
  obtain ⟨_, _, _, e, _⟩ := h.ex
  rw [e]; exact fun q => nomatch q
theorem src_up {S : List Addr} {src : Addr} {H H' : Hp} (s : Same (hid [src] H) (hid [src] H')) (h : src ∈ S) : Same (hid S H) (hid S H') := same_up s fun y hy => by rw [List.mem_singleton.mp hy]; exact h
section
variable {P : Program} {w : World} {K : PySem.W.Frag} {mg : Str → Option Value} {base : Heap}
def spDrawn (K : PySem.W.Frag) : Sp := fun vs H Q _ => ∃ (S : List Addr) (src : Addr) (z many wide : Nat), vs = [.ref src, .int many, .int wide] ∧ SrcAt src z H ∧ src ∈ S ∧ There S H ∧ 1 ≤ many ∧ many ≤ 6 ∧ wide ≤ 6 ∧ z + 200 ≤ 1000000 ∧
  ∀ H' p rs tb, TabNew H H' src (z + 200) p rs tb many wide 14 → Q (.ref p) H'
abbrev N__law_net_drawn : List Str := ["_law_source", "_law_many", "_law_wide", "_law_arcs", "_law_k"]
theorem sc__law_net_drawn : FnScope N__law_net_drawn ["_law_source", "_law_many", "_law_wide"] (defScope s__law_net_drawn) := ⟨rfl, rfl, rfl, by decide +kernel, rfl, by decide +kernel, by decide +kernel⟩
theorem c__law_net_drawn (T : Txt K mg) : Cal P w K mg base 4 "_law_net_drawn" ["_law_source", "_law_many", "_law_wide"] (spDrawn K) := by
  refine cal_mk T.F_s__law_net_drawn T.g__law_net_drawn sc__law_net_drawn (fun _ _ _ _ _ _ us hl => match us, hl with | [_, _, _], _ => rfl) (fun vs H Q E ⟨_, _, _, _, _, h, _⟩ => by rw [h]; rfl) fun cdv A outer s H vs Q E hr ⟨S, src, z, many, wide, h1, hs, hsS, hS, m1, m6, w6, hz, kq⟩ => ?_
  subst h1
  refine ⟨_, (pss_cons (ps_setLc (i := 3) (own := [("_law_k", 4)]) rfl sc__law_net_drawn.nd rfl rfl (sw_true rfl rfl rfl (by decide +kernel)) (pi_range1 rfl T.f_range (pa_cons (pv 2) pa_nil)) (blkOk_by (own := [("_law_k", 4)]) (by kernel_rfl)) (fun _ _ _ _ _ => (pgn 4 sc__law_net_drawn.nd)) (fun _ _ _ _ _ => pts_nil) (fun _ _ _ _ _ => (pe_tup (pa_cons (pe_cal (c__law_next T) (hr.mono (by decide)) (pa_cons (pv 0) (pa_cons (pe_op op_add (pv 1) pe_int) pa_nil))) (pa_cons (pe_cal (c__law_next T) (hr.mono (by decide)) (pa_cons (pv 0) (pa_cons (pe_op op_add (pv 1) pe_int) pa_nil))) pa_nil)))))
 (pss_one (ps_ret (pe_cal (c__law_net T) (hr.mono (by decide)) (pa_cons (pe_cal (c__law_ends T) (hr.mono (by decide)) (pa_cons (pv 0) (pa_cons (pv 1) pa_nil))) (pa_cons (pv 3) pa_nil)))))), ?_⟩
  refine ⟨_, rfl, wide, rfl, by omega, by omega, fun D hD => ?_⟩
  rw [Int.toNat_natCast]
  have DS : D ∉ S := hS.new hD
  have Dsrc : D ≠ src := fun e => DS (e ▸ hsS)
  have put : ∀ {H' : Hp} {o : HO}, Same (hid [src] H) (hid [src] H') → Same (hid [src] H) (hid [src] (upd H' D o)) := fun {H' o} s b u e => by
    obtain ⟨q1, q2⟩ := hid_of e
    rw [hid_out q1, upd_ne (ne_of_none q2 hD)]
    exact same_at s q1 q2
  refine lc_it (walk_range (n := wide)) (fun i G => Same (hid [src] H) (hid [src] G) ∧ SrcAt src (z + 2 * i) G ∧ ∃ (acc : List V) (prs : List (Nat × Nat)), G D = some (.lst acc) ∧ DpAll K (hid (D :: S) G) acc (prs.map prD) ∧ prs.length = i ∧ ∀ e ∈ prs, e.1 ≤ many ∧ e.2 ≤ many)
    ⟨put (Same.refl _), hs.put Dsrc, [], [], upd_same, .nil, rfl, fun e he => absurd he List.not_mem_nil⟩ (fun _ _ _ _ => trivial) ?_ ?_
  · rintro i x H1 H2 hi ⟨s1, hs1, acc, prs, hacc, dacc, lp, hp⟩ ⟨rfl, rfl⟩
    refine ⟨rfl, ?_⟩
    refine ⟨_, rfl, _, rfl, _, _, rfl, rfl, src, z + 2 * i, many + 1, rfl, hs1, by omega, by omega, by omega, fun H3 u hu hs3 s3 => ?_⟩
    refine ⟨_, rfl, _, rfl, _, _, rfl, rfl, src, z + 2 * i + 1, many + 1, rfl, hs3, by omega, by omega, by omega, fun H4 v hv hs4 s4 => ?_⟩
    refine ⟨by show 2 ≤ sizeLine; decide, fun p hp5 => ?_⟩
    have s34 := s3.trans s4
    have a4 : H4 D = some (.lst acc) := same_at s34 (by simpa using Dsrc) hacc
    have th4 := there_src hS hs4 (s1.trans s34)
    have sp : Same H4 (upd H4 p (.tup [.int (u : Nat), .int (v : Nat)])) := Same.new hp5
    have pD : p ∉ D :: S := fun q => by
      rcases List.mem_cons.mp q with q | q
      · rw [q, a4] at hp5; cases hp5
      · exact th4.new hp5 q
    refine ⟨acc, sp _ _ a4, small1000 (by have := dacc.length; rw [List.length_map] at this; omega), put ((s1.trans s34).trans (same_hid sp)), (hs4.same sp).put Dsrc, acc ++ [.ref p], prs ++ [(u, v)], upd_same, ?_, by rw [List.length_append, lp]; rfl, fun e he => ?_⟩
    · rw [hid_upd_in (List.mem_cons_self ..), List.map_append]
      refine ((dacc.same (src_up s34 (List.mem_cons_of_mem _ hsS))).hs sp).snoc (.tup (SqT.of ?_) (.cons (.int _) (.cons (.int _) .nil)))
      rw [hid_out pD]; exact upd_same
    · rcases List.mem_append.mp he with q | q
      · exact hp e q
      · rw [List.mem_singleton.mp q]; exact ⟨by show u ≤ many; omega, by show v ≤ many; omega⟩
  · rintro H1 ⟨s1, hs1, acc, prs, hacc, dacc, lp, hp⟩
    have th1 : There (D :: S) H1 := .cons hacc (there_src hS hs1 s1)
    refine ⟨_, rfl, _, rfl, D :: S, src, z + 2 * wide, many, rfl, hs1, List.mem_cons_of_mem _ hsS, th1, m1, m6, by omega, fun H2 p2 ends d2 le cr hs2 s2 => ?_⟩
    have th2 := there_src th1 hs2 s2
    have a2 : H2 D = some (.lst acc) := same_at s2 (by simpa using Dsrc) hacc
    have dA : Dp K (hid S H2) (.ref D) (.list (prs.map prD)) := .lst (SqL.of (by rw [hid_out DS]; exact a2)) ((dacc.same (src_up s2 (List.mem_cons_of_mem _ hsS))).same hid_cons)
    refine ⟨_, rfl, S, many, wide, ends, prs, (fun y hy => th2 y (List.mem_cons_of_mem _ hy)), .cons (d2.same hid_cons) (.cons dA .nil), le, m1, m6, lp, w6, cr, hp, fun H3 p rs tb s3 ht lt hrow hf => ?_⟩
    refine kq H3 p rs tb ⟨(s1.trans s2).trans (same_hid s3), (hs2.same s3).mono (by omega), ht, lt, hrow, fun a ha => ?_⟩
    cases e : H a with
    | none => rfl
    | some o =>
      have n := hf a ha
      by_cases q : a = src
      · exact absurd (by rw [← q]; exact n) hs2.ne
      · rw [same_at (s1.trans s2) (by simpa using q) e] at n; cases n
end
end K31
namespace K31
open PySem PySem.Spec PyProof.Rows L2
/-- one row more -/
theorem TabAt.snoc {H : Hp} {p r : Addr} {rs : List Addr} {tb : List (List Int)} {row : List Int} (t : TabAt H p rs tb) (hr : H r = some (.lst (row.map V.int))) (hn : r ∉ p :: rs) : TabAt (upd H p (.lst (rs.map V.ref ++ [.ref r]))) p (rs ++ [r]) (tb ++ [row]) := by
  have rp : r ≠ p := fun e => hn (by rw [e]; exact List.mem_cons_self ..)
  have rrs : r ∉ rs := fun q => hn (List.mem_cons_of_mem _ q)
  have h := List.nodup_cons.mp t.nd
  have hlen := t.len
  refine ⟨by rw [upd_same, List.map_append]; rfl, by rw [List.length_append, List.length_append, hlen]; rfl, fun j a ns h1 h2 => ?_, List.nodup_cons.mpr ⟨fun hm => ?_, List.nodup_append.mpr ⟨h.2, by simp, fun a ha b hb e => ?_⟩⟩⟩
  · have aD : a ≠ p := fun e => by
      rcases List.mem_append.mp (List.mem_of_getElem? h1) with q | q
      · exact h.1 (e ▸ q)
      · exact rp ((List.mem_singleton.mp q).symm.trans e)
    rw [upd_ne aD]
    by_cases hj : j < rs.length
    · rw [List.getElem?_append_left hj] at h1
      rw [List.getElem?_append_left (by omega)] at h2
      exact t.row j a ns h1 h2
    · rw [List.getElem?_append_right (by omega)] at h1 h2
      have z : j - rs.length = 0 := by
        by_cases z : j - rs.length = 0
        · exact z
        · rw [List.getElem?_eq_none (by simp; omega)] at h1; cases h1
      rw [z] at h1
      rw [show j - tb.length = 0 by omega] at h2
      cases h1
      cases h2
      exact hr
  · rcases List.mem_append.mp hm with q | q
    · exact h.1 q
    · exact rp (List.mem_singleton.mp q).symm
  · rw [List.mem_singleton.mp hb] at e
    exact rrs (e ▸ ha)
theorem TabAt.notin {H : Hp} {p r : Addr} {rs : List Addr} {tb : List (List Int)} (t : TabAt H p rs tb) (hr : H r = none) : r ∉ p :: rs := fun hm => by
  rcases List.mem_cons.mp hm with e | hm
  · rw [e, t.top] at hr; cases hr
  · obtain ⟨j, hj, e⟩ := List.getElem_of_mem hm
    have hj2 : j < tb.length := by rw [← t.len]; exact hj
    have := t.row j r tb[j] (by rw [← e]; exact List.getElem?_eq_getElem hj) (List.getElem?_eq_getElem hj2)
    rw [hr] at this
    cases this
theorem same_new {M : List Addr} {H H' : Hp} {D : Addr} {o : HO} (s : Same (hid M H) (hid M H')) (hD : H D = none) : Same (hid M H) (hid M (upd H' D o)) := fun b u e => by
  obtain ⟨q1, q2⟩ := hid_of e
  rw [hid_out q1, upd_ne (ne_of_none q2 hD)]
  exact same_at s q1 q2
theorem src_free {src : Addr} {z : Nat} {H H' : Hp} {r : Addr} (hs : SrcAt src z H') (s : Same (hid [src] H) (hid [src] H')) (h : H' r = none) : H r = none := by
  cases e : H r with
  | none => rfl
  | some o =>
    by_cases q : r = src
    · exact absurd (by rw [← q]; exact h) hs.ne
    · rw [same_at s (by simpa using q) e] at h; cases h
section
variable {P : Program} {w : World} {K : PySem.W.Frag} {mg : Str → Option Value} {base : Heap}
def spStretch (K : PySem.W.Frag) : Sp := fun vs H Q _ => ∃ (S : List Addr) (src : Addr) (z many wide : Nat), vs = [.ref src, .int many, .int wide] ∧ SrcAt src z H ∧ src ∈ S ∧ There S H ∧ many ≤ 6 ∧ 1 ≤ wide ∧ wide ≤ 6 ∧ z + 200 ≤ 1000000 ∧
  ∀ H' p rs tb, TabNew H H' src (z + 200) p rs tb many wide 14 → Q (.ref p) H'
abbrev N__law_stretches : List Str := ["_law_source", "_law_many", "_law_wide", "_law_order", "_law_found", "_law_k", "_law_start", "_law_length", "_law_column"]
theorem sc__law_stretches : FnScope N__law_stretches ["_law_source", "_law_many", "_law_wide"] (defScope s__law_stretches) := ⟨rfl, rfl, rfl, by decide +kernel, rfl, by decide +kernel, by decide +kernel⟩
theorem c__law_stretches (T : Txt K mg) : Cal P w K mg base 3 "_law_stretches" ["_law_source", "_law_many", "_law_wide"] (spStretch K) := by
  refine cal_mk T.F_s__law_stretches T.g__law_stretches sc__law_stretches (fun _ _ _ _ _ _ us hl => match us, hl with | [_, _, _], _ => rfl) (fun vs H Q E ⟨_, _, _, _, _, h, _⟩ => by rw [h]; rfl) fun cdv A outer s H vs Q E hr ⟨S, src, z, many, wide, h1, hs, hsS, hS, m6, w1, w6, hz, kq⟩ => ?_
  subst h1
  refine ⟨_, (pss_cons (sset 3 sc__law_stretches.nd (pe_cal (c__law_mixed T) (hr.mono (by decide)) (pa_cons (pv 0) (pa_cons (pe_listRg rfl (by rfl) T.f_list (prg_1 (by rfl) T.f_range (pv 2))) pa_nil))))
 (pss_cons (sset 4 sc__law_stretches.nd (pe_lst pa_nil))
 (pss_cons (ps_for PassesOwn.never rfl (pi_range1 rfl T.f_range (pa_cons (pv 1) pa_nil)) (pgn 5 sc__law_stretches.nd)
  (pss_cons (sset 6 sc__law_stretches.nd (pe_cal (c__law_next T) (hr.mono (by decide)) (pa_cons (pv 0) (pa_cons (pv 2) pa_nil))))
 (pss_cons (sset 7 sc__law_stretches.nd (pe_cal (c__law_next T) (hr.mono (by decide)) (pa_cons (pv 0) (pa_cons (pe_op op_add (pe_op op_sub (pv 2) (pv 6)) pe_int) pa_nil))))
 (pss_one (ps_expr (pe_bm PySem.F.plainAttrs_list PySem.F.slot_list_append PySem.F.type_list_append mt_append (pv 4) (pa_cons (pe_lc (own := [("_law_column", 8)]) rfl sc__law_stretches.nd (pi_range1 rfl T.f_range (pa_cons (pv 2) pa_nil)) (blkOk_by (own := [("_law_column", 8)]) (by kernel_rfl)) (fun _ _ _ _ _ => (pgn 8 sc__law_stretches.nd)) (fun _ _ _ _ _ => pts_nil) (fun _ _ _ _ _ => (pe_callTy call_int1 (by rfl) T.f_int (by decide +kernel) (pa_cons (pe_chain op_le op_lt (pv 6) (pe_ix (ix_listK K) (pv 3) (pv 8) (fun _ _ => rfl)) (pe_op op_add (pv 6) (pv 7))) pa_nil)))) pa_nil)))))))
 (pss_one (ps_ret (pv 4)))))), ?_⟩
  refine ⟨_, rfl, _, rfl, _, rfl, rgok' (n := wide) (by omega) rfl, fun q0 hq0 => ?_⟩
  have s0 : Same H (upd H q0 (.lst (rgV 0 (wide : Int)))) := Same.new hq0
  have e0 : (upd H q0 (.lst (rgV 0 (wide : Int)))) q0 = some (.lst (rgV 0 (wide : Int))) := upd_same
  have er : rgV 0 (wide : Int) = ((List.range wide).map fun i : Nat => (i : Int)).map V.int := by
    rw [rgV_ints]
    exact (intsN_int (f := fun j => j)).symm
  have q0S : q0 ∉ S := hS.new hq0
  have hl0 : SqL K (hid S (upd H q0 (.lst (rgV 0 (wide : Int))))) q0 (((List.range wide).map fun i : Nat => (i : Int)).map V.int) := SqL.of (by rw [hid_out q0S, ← er]; exact e0)
  refine ⟨S, src, q0, z, _, _, rfl, hs.same s0, by rw [List.length_map, List.length_map, List.length_range]; omega, hsS, hS.same s0, hl0, dpAll_ints _, fun d hd => ?_, by rw [List.length_map, List.length_map, List.length_range]; omega, fun H1 p1 ys es hp1 hy1 dy1 perm1 hs1 S1 => ?_⟩
  · obtain ⟨i, _, rfl⟩ := List.mem_map.mp hd
    exact (sh_int i).mono (by decide)
  obtain ⟨is1, e1, perm2⟩ := perm_map perm1 rfl
  subst e1
  have ey : ys = is1.map V.int := dy1.ints
  subst ey
  rw [List.length_map, List.length_map, List.length_range] at hs1
  have lns : is1.length = wide := by rw [perm2.length_eq, List.length_map, List.length_range]
  have S01 : Same (hid [src] H) (hid [src] H1) := (same_hid s0).trans S1
  have p1src : p1 ≠ src := fun e => (hS.same s0).new hp1 (e ▸ hsS)
  -- found
  refine ⟨by show 0 ≤ sizeLine; decide, fun D hD => ?_⟩
  have s2 : Same H1 (upd H1 D (.lst [])) := Same.new hD
  have e2' : (upd H1 D (.lst [])) D = some (.lst []) := upd_same
  generalize upd H1 D (.lst []) = H2 at s2 e2'
  have th1 := there_src hS hs1 S01
  have Dsrc : D ≠ src := fun e => th1.new hD (e ▸ hsS)
  have p1D : p1 ≠ D := ne_of_none hy1 hD
  have hD0 : H D = none := src_free hs1 S01 hD
  refine ⟨_, rfl, many, rfl, by omega, by omega, ?_⟩
  rw [Int.toNat_natCast]
  refine for_it walk_range (fun k σ H' => ∃ (o5 o6 o7 o8 : Option V) (rs : List Addr) (tb : List (List Int)), σ = [some (.ref src), some (.int many), some (.int wide), some (.ref p1), some (.ref D), o5, o6, o7, o8] ∧ H' p1 = some (.lst (is1.map V.int)) ∧ TabAt H' D rs tb ∧ tb.length = k ∧
      (∀ row ∈ tb, row.length = wide ∧ ∀ e ∈ row, e.natAbs ≤ 14) ∧ (∀ a ∈ D :: rs, H a = none) ∧ SrcAt src (z + wide + 2 * k) H' ∧ Same (hid [src] H) (hid [src] H'))
    ⟨_, _, _, _, [], [], rfl, s2 _ _ hy1, ⟨e2', rfl, fun i r ns h => by simp at h, by simp⟩, rfl, fun row h => absurd h List.not_mem_nil, fun a ha => by rw [List.mem_singleton.mp ha]; exact hD0, hs1.same s2, S01.trans (same_hid s2)⟩ (fun _ _ _ _ _ => trivial) ?_ ?_
  · rintro k x σ H3 H4 hk ⟨o5, o6, o7, o8, rs, tb, rfl, hp3, ht3, lt3, hrow, hf, hs3, S3⟩ ⟨rfl, rfl⟩
    refine ⟨_, rfl, _, rfl, src, z + wide + 2 * k, wide, rfl, hs3, by omega, by omega, by omega, fun H5 st hst hs5 S5 => ?_⟩
    refine ⟨_, rfl, _, rfl, _, rfl, _, _, rfl, rfl, _, _, rfl, rfl, src, z + wide + 2 * k + 1, wide - st + 1, ?_, hs5, by omega, by omega, by omega, fun H6 ln hln hs6 S6 => ?_⟩
    · show [V.ref src, V.int ((wide : Int) - (st : Int) + 1)] = _
      rw [show (wide : Int) - (st : Int) + 1 = ((wide - st + 1 : Nat) : Int) by omega]
    have S36 := S5.trans S6
    have out3 : ∀ a ∈ D :: rs, a ∉ [src] := fun a ha q => by
      rw [List.mem_singleton.mp q] at ha
      exact hs.ne (hf src ha)
    have ht6 := ht3.hidS S36 out3
    have hp6 : H6 p1 = some (.lst (is1.map V.int)) := same_at S36 (by simpa using p1src) hp3
    refine ⟨_, rfl, Or.inl ⟨rfl, _, SqL.of ht6.top⟩, _, rfl, wide, rfl, by omega, by omega, fun D2 hD2 => ?_⟩
    rw [Int.toNat_natCast]
    refine lc_ints walk_range [] (fun _ _ => True) (fun _ e => e.natAbs ≤ 14) hD2 (by simp) (by omega) trivial (fun _ _ _ _ => trivial) (fun _ _ _ _ => trivial) ?_ ?_
    · rintro j x H8 H9 hj s8 _ _ ⟨rfl, rfl⟩
      rw [hid_nil, hid_nil] at s8
      refine ⟨Same.refl _, fun Q2 hQ2 => ⟨rfl, ?_⟩⟩
      have z0 : (fun i : Nat => V.int (0 + (i : Int))) j = V.int (j : Int) := by show V.int (0 + (j : Int)) = _; rw [Int.zero_add]
      have e1 : (is1.map V.int)[j]? = some (V.int (gd is1 j)) := by rw [List.getElem?_map, gd_at (by omega)]; rfl
      refine ⟨_, rfl, _, rfl, _, rfl, _, _, _, _, rfl, z0, SqL.of (s8 _ _ hp6), atI_nat e1, _, _, rfl, rfl, _, rfl, ?_⟩
      by_cases q : (st : Int) ≤ gd is1 j
      · rw [decide_eq_true q]
        refine iteT ?_
        refine ⟨_, rfl, _, rfl, _, _, rfl, rfl, _, _, rfl, rfl, .inr ⟨_, rfl, hQ2 _ _ ?_ (Same.refl _) trivial⟩⟩
        split <;> decide
      · rw [decide_eq_false q]
        refine iteF ?_
        exact .inr ⟨_, rfl, hQ2 _ _ (by decide) (Same.refl _) trivial⟩
    intro H8 ns s8 hns lns2 hR _
    rw [hid_nil, hid_nil] at s8
    have ht8 := ht6.same s8
    have n2 : D2 ∉ D :: rs := ht6.notin hD2
    refine ⟨D, _, _, rfl, rfl, ht8.top, small1000 (by rw [List.length_map, ht8.len]; omega), ?_⟩
    have S8 : Same (hid [src] H) (hid [src] H8) := S3.trans (S36.trans (same_hid s8))
    refine ⟨_, _, _, _, rs ++ [D2], tb ++ [ns], rfl, ?_, ht8.snoc hns n2, by rw [List.length_append, lt3]; rfl, fun row hrw => ?_, fun a ha => ?_, ?_, same_new S8 hD0⟩
    · rw [upd_ne p1D]; exact s8 _ _ hp6
    · rcases List.mem_append.mp hrw with q | q
      · exact hrow row q
      · rw [List.mem_singleton.mp q]
        refine ⟨lns2, fun e he => ?_⟩
        obtain ⟨j, hj, ej⟩ := List.getElem_of_mem he
        exact hR j e (by rw [← ej]; exact List.getElem?_eq_getElem hj)
    · rcases List.mem_cons.mp ha with q | q
      · rw [q]; exact hD0
      · rcases List.mem_append.mp q with q | q
        · exact hf a (List.mem_cons_of_mem _ q)
        · rw [List.mem_singleton.mp q]
          exact src_free hs6 (S3.trans S36) hD2
    · exact ((hs6.same s8).put Dsrc).mono (by omega)
  · rintro σ H3 ⟨o5, o6, o7, o8, rs, tb, rfl, hp3, ht3, lt3, hrow, hf, hs3, S3⟩
    exact ⟨_, rfl, kq H3 D rs tb ⟨S3, hs3.mono (by omega), ht3, lt3, hrow, hf⟩⟩
end
end K31
namespace K31
open PySem PySem.Spec PyProof.Rows L2
section
variable {P : Program} {w : World} {K : PySem.W.Frag} {mg : Str → Option Value} {base : Heap}
theorem gName_i {i : Nat} {v : V} {σ : L2.St} {H : Hp} {Q : L2.St → Hp → Prop} (h : Q (σ.set i (some v)) H) : gName i v σ H Q := h
theorem tSeq_key {t u : TS} {D : Ends} {σ : L2.St} {H : Hp} (Pv : L2.St → Hp → Prop) (key : ∀ σ' H', Pv σ' H' → u D σ' H') (main : (∀ σ' H', Pv σ' H' → u D σ' H') → tSeq t u D σ H) : tSeq t u D σ H := main key
def Low (B : Nat) (tb : List (List Int)) : Prop := ∀ row ∈ tb, ∀ e ∈ row, e.natAbs ≤ B
def spSwung (K : PySem.W.Frag) : Sp := fun vs H Q _ => ∃ (S : List Addr) (src : Addr) (z m n : Nat) (tb : List (List Int)) (v : V), vs = [.ref src, v] ∧ SrcAt src z H ∧ src ∈ S ∧ There S H ∧ Dp K (hid S H) v (lt tb) ∧ TabOk m n tb ∧ m ≤ 6 ∧ n ≤ 6 ∧ Low 14 tb ∧ z + 100 ≤ 1000000 ∧
  ∀ H' p rs tb' m' n', (m' = m ∧ n' = n ∨ m' = n ∧ n' = m) → TabNew H H' src (z + 100) p rs tb' m' n' 14 → Q (.ref p) H'
/-- data that are there, while the source drew -/
theorem dp_drew {S : List Addr} {src : Addr} {H H' : Hp} {v : V} {d : PyData} (h : Dp K (hid S H) v d) (s : Same (hid [src] H) (hid [src] H')) (hs : src ∈ S) : Dp K (hid S H') v d := h.same (src_up s hs)
abbrev N__law_swung : List Str := ["_law_source", "_law_table_here", "_law_rows", "_law_row", "_law_k", "_law_signs", "_law_column", "_law_found", "_law_sign", "_law_a", "_law_b"]
theorem sc__law_swung : FnScope N__law_swung ["_law_source", "_law_table_here"] (defScope s__law_swung) := ⟨rfl, rfl, rfl, by decide +kernel, rfl, by decide +kernel, by decide +kernel⟩
theorem c__law_swung (T : Txt K mg) : Cal P w K mg base 3 "_law_swung" ["_law_source", "_law_table_here"] (spSwung K) := by
  refine cal_mk T.F_s__law_swung T.g__law_swung sc__law_swung (fun _ _ _ _ _ _ us hl => match us, hl with | [_, _], _ => rfl) (fun vs H Q E ⟨_, _, _, _, _, _, _, h, _⟩ => by rw [h]; rfl) fun cdv A outer s H vs Q E hr ⟨S, src, z, m, n, tb, v, h1, hs, hsS, hS, dtb, ok, m6, n6, low, hz, kq⟩ => ?_
  subst h1
  obtain ⟨l, xs, rfl, hl, hx⟩ := dpl dtb
  have lxs : xs.length = m := by rw [lt_len hx, ok.len]
  refine ⟨_, (pss_cons (sset 2 sc__law_swung.nd (pe_cal (c__law_mixed T) (hr.mono (by decide)) (pa_cons (pv 0) (pa_cons (pv 1) pa_nil))))
 (pss_cons (ps_if (pt_cmpR op_eq (pe_cal (c__law_next T) (hr.mono (by decide)) (pa_cons (pv 0) (pa_cons pe_int pa_nil))) pe_int (nomark _))
  (pss_one (sset 2 sc__law_swung.nd (pe_lc (own := [("_law_k", 4)]) rfl sc__law_swung.nd (pi_range1 rfl T.f_range (pa_cons (pe_callB (lenK K) (by rfl) T.f_len (by decide +kernel) (pa_cons (pe_ix (ix_listK K) (pv 2) pe_int (fun _ _ => rfl)) pa_nil)) pa_nil)) (blkOk_by (own := [("_law_k", 4)]) (by kernel_rfl)) (fun _ _ _ _ _ => (pgn 4 sc__law_swung.nd)) (fun _ _ _ _ _ => pts_nil) (fun _ _ _ _ _ => (by exact (pe_lc (own := [("_law_row", 3)]) rfl sc__law_swung.nd (pi_listK K (pv 2)) (blkOk_by (own := [("_law_row", 3)]) (by kernel_rfl)) (fun _ _ _ _ _ => (pgn 3 sc__law_swung.nd)) (fun _ _ _ _ _ => pts_nil) (fun _ _ _ _ _ => (pe_ix (ix_listK K) (pv 3) (pv 4) (fun _ _ => rfl)))))))))
  pss_nil)
 (pss_cons (ps_setLc (i := 5) (own := [("_law_column", 6)]) rfl sc__law_swung.nd rfl rfl (sw_true rfl rfl rfl (by decide +kernel)) (pi_listK K (pe_ix (ix_listK K) (pv 2) pe_int (fun _ _ => rfl))) (blkOk_by (own := [("_law_column", 6)]) (by kernel_rfl)) (fun _ _ _ _ _ => (pgn 6 sc__law_swung.nd)) (fun _ _ _ _ _ => pts_nil) (fun _ _ _ _ _ => (pe_ix (ix_listK K) (pe_lst (pa_cons pe_int (pa_cons (pe_un un_neg pe_int) pa_nil))) (pe_cal (c__law_next T) (hr.mono (by decide)) (pa_cons (pv 0) (pa_cons pe_int pa_nil))) (fun _ _ => rfl))))
 (pss_cons (sset 7 sc__law_swung.nd (pe_lst pa_nil))
 (pss_cons (ps_for PassesOwn.never rfl (pi_listK K (pv 2)) (pgn 3 sc__law_swung.nd)
  (pss_cons (sset 8 sc__law_swung.nd (pe_ix (ix_listK K) (pe_lst (pa_cons pe_int (pa_cons pe_int (pa_cons (pe_un un_neg pe_int) pa_nil)))) (pe_cal (c__law_next T) (hr.mono (by decide)) (pa_cons (pv 0) (pa_cons pe_int pa_nil))) (fun _ _ => rfl)))
 (pss_one (ps_expr (pe_bm PySem.F.plainAttrs_list PySem.F.slot_list_append PySem.F.type_list_append mt_append (pv 7) (pa_cons (pe_lc (own := [("_law_a", 9), ("_law_b", 10)]) rfl sc__law_swung.nd (pi_zipK K T.f_zip (pa_cons (pv 3) (pa_cons (pv 5) pa_nil))) (blkOk_by (own := [("_law_a", 9), ("_law_b", 10)]) (by kernel_rfl)) (fun _ _ _ _ _ => (pg_tupK (n := 2) K rfl (pgs_cons (pgn 9 sc__law_swung.nd) (pgs_cons (pgn 10 sc__law_swung.nd) pgs_nil)))) (fun _ _ _ _ _ => pts_nil) (fun _ _ _ _ _ => (pe_op op_mulW (pe_op op_mulW (pv 8) (pv 9)) (pv 10)))) pa_nil))))))
 (pss_one (ps_ret (pv 7)))))))), ?_⟩
  refine ⟨_, rfl, _, rfl, S, src, l, z, xs, _, rfl, hs, by omega, hsS, hS, hl, hx, fun d hd => ?_, by omega, fun H1 p1 ys es hp1 hy1 dy1 perm1 hs1 S1 => ?_⟩
  · obtain ⟨r, _, rfl⟩ := List.mem_map.mp hd
    exact (sh_li r).mono (by decide)
  obtain ⟨tb1, e1, perm2⟩ := perm_map perm1 rfl
  subst e1
  have th1 := there_src hS hs1 S1
  have p1S : p1 ∉ S := hS.new hp1
  have d1 : Dp K (hid S H1) (.ref p1) (lt tb1) := .lst (SqL.of (by rw [hid_out p1S]; exact hy1)) (dy1.same hid_cons)
  have ok1 : TabOk m n tb1 := ⟨by rw [perm2.length_eq, ok.len], ok.m1, ok.m8, ok.n1, ok.n8, fun r hr => ok.row r (perm2.mem_iff.mp hr)⟩
  have low1 : Low 14 tb1 := fun r hr => low r (perm2.mem_iff.mp hr)
  rw [lxs] at hs1
  refine gName_i ?_
  dsimp only
  refine tSeq_key (t := tIfS _ _ _) (fun σ' H' => ∃ (o3 o4 o5 o6 o7 o8 o9 o10 : Option V) (px : Addr) (tbx : List (List Int)) (mx nx : Nat), σ' = [some (.ref src), some (.ref l), some (.ref px), o3, o4, o5, o6, o7, o8, o9, o10] ∧ Dp K (hid S H') (.ref px) (lt tbx) ∧ TabOk mx nx tbx ∧ Low 14 tbx ∧ (mx = m ∧ nx = n ∨ mx = n ∧ nx = m) ∧ SrcAt src (z + m + 1) H' ∧ Same (hid [src] H) (hid [src] H')) ?_ ?_
  · rintro σ' H2 ⟨o3, o4, o5, o6, o7, o8, o9, o10, px, tbx, mx, nx, rfl, d2, ok2, low2, hmn, hs2, S2⟩
    have th2 := there_src hS hs2 S2
    have n6' : nx ≤ 6 := by omega
    have m6' : mx ≤ 6 := by omega
    have srcH : H src ≠ none := hs.ne
    obtain ⟨px', xs', e', hl', hx'⟩ := dpl d2
    cases e'
    have lxs' : xs'.length = mx := by rw [lt_len hx', ok2.len]
    obtain ⟨r0, t0, l0, _⟩ := ok2.at (show 0 < mx from ok2.m1)
    obtain ⟨x0, hx0, dx0⟩ := hx'.at (lt_at t0)
    obtain ⟨a0, rfl, hs0⟩ := dp_li dx0
    -- signs
    refine ⟨_, rfl, _, _, _, _, rfl, rfl, hid_le.seq hl', atI_nat (j := 0) hx0, a0, rfl, ⟨_, hid_le.seq hs0⟩, fun D5 hD5 => ?_⟩
    have D5src : D5 ≠ src := fun e => hs2.ne (e ▸ hD5)
    refine lc_ints (n := nx) (by have := walk_list (K := K) (a := a0) (xs := r0.map V.int); rwa [List.length_map, l0] at this) [src] (fun i G => SrcAt src (z + m + 1 + i) G) (fun _ e => e.natAbs ≤ 1) hD5 (by simpa using D5src) (by omega) hs2 (fun _ _ _ h => h.put D5src) (fun _ G s _ => hid_le.seq ((src_up s hsS).seq hs0)) ?_ ?_
    · rintro i x H3 H4 hi s3 _ iv ⟨rfl, _⟩
      refine ⟨Same.refl _, fun Q' hQ => ⟨rfl, ?_⟩⟩
      refine ⟨1, rfl, by show 2 ≤ sizeLine; decide, fun p hp => ?_⟩
      have sp : Same H4 (upd H4 p (.lst [.int 1, .int (-1)])) := Same.new hp
      refine ⟨_, rfl, src, z + m + 1 + i, 2, rfl, iv.same sp, by omega, by decide, by decide, fun H5 r hr5 hs5 S5 => ?_⟩
      have psrc : p ≠ src := fun e => iv.ne (e ▸ hp)
      have e5 : H5 p = some (.lst [.int 1, .int (-1)]) := same_at S5 (by simpa using psrc) upd_same
      have SS : Same (hid [src] H4) (hid [src] H5) := (same_hid sp).trans S5
      match r, hr5 with
      | 0, _ => exact ⟨_, _, _, _, rfl, rfl, SqL.of e5, rfl, hQ _ _ (by decide) SS hs5⟩
      | 1, _ => exact ⟨_, _, _, _, rfl, rfl, SqL.of e5, rfl, hQ _ _ (by decide) SS hs5⟩
    intro H3 sg s3 hsg lsg hR hs3
    have sgb : ∀ j, (gd sg j).natAbs ≤ 1 := fun j => by
      by_cases q : j < sg.length
      · exact hR j _ (gd_at q)
      · show (sg.getD j 0).natAbs ≤ 1
        rw [List.getD_eq_getElem?_getD, List.getElem?_eq_none (by omega)]
        decide
    have S3 := S2.trans s3
    -- found
    refine ⟨by show 0 ≤ sizeLine; decide, fun D7 hD7 => ?_⟩
    have s4 : Same H3 (upd H3 D7 (.lst [])) := Same.new hD7
    have e4 : (upd H3 D7 (.lst [])) D7 = some (.lst []) := upd_same
    generalize upd H3 D7 (.lst []) = H4 at s4 e4
    have D7src : D7 ≠ src := fun e => hs3.ne (e ▸ hD7)
    have D57 : D5 ≠ D7 := ne_of_none hsg hD7
    have h70 : H D7 = none := src_free hs3 S3 hD7
    have s24 : Same (hid [src] H2) (hid [src] H4) := s3.trans (same_hid s4)
    refine ⟨_, rfl, px, rfl, ⟨xs', hid_le.seq ((src_up s24 hsS).seq hl')⟩, ?_⟩
    refine for_it (n := mx) (by have := walk_list (K := K) (a := px) (xs := xs'); rwa [lxs'] at this) (fun i σ H' => ∃ (o3 o4 o6 o8 o9 o10 : Option V) (rs : List Addr) (tb' : List (List Int)), σ = [some (.ref src), some (.ref l), some (.ref px), o3, o4, some (.ref D5), o6, some (.ref D7), o8, o9, o10] ∧ H' D5 = some (.lst (sg.map V.int)) ∧ TabAt H' D7 rs tb' ∧ tb'.length = i ∧
        (∀ row ∈ tb', row.length = nx ∧ ∀ e ∈ row, e.natAbs ≤ 14) ∧ (∀ a ∈ D7 :: rs, H a = none) ∧ SrcAt src (z + m + 1 + nx + i) H' ∧ Same (hid [src] H2) (hid [src] H'))
      ⟨_, _, _, _, _, _, [], [], rfl, s4 _ _ hsg, ⟨e4, rfl, fun i r ns h => by simp at h, by simp⟩, rfl, fun row h => absurd h List.not_mem_nil, fun a ha => by rw [List.mem_singleton.mp ha]; exact h70, hs3.same s4, s24⟩ (fun i σ G _ ⟨_, _, _, _, _, _, _, _, _, _, _, _, _, _, _, s⟩ => hid_le.seq ((src_up s hsS).seq hl')) ?_ ?_
    · rintro i x σ H5 H6 hi ⟨o3, o4, o6, o8, o9, o10, rs, tb', rfl, h5, ht, lt', hrow, hf, hs5, S5⟩ ⟨rfl, hxi⟩
      obtain ⟨r, tr, lr, er⟩ := ok2.at hi
      obtain ⟨x', hx4, dx⟩ := hx'.at (lt_at tr)
      rw [hxi] at hx4
      cases hx4
      obtain ⟨ar, rfl, hsr⟩ := dp_li dx
      have lowr := low2 r (List.mem_of_getElem? tr)
      have out : ∀ a ∈ D7 :: rs, a ∉ [src] := fun a ha q => by
        rw [List.mem_singleton.mp q] at ha
        exact srcH (hf src ha)
      refine ⟨1, rfl, by show 3 ≤ sizeLine; decide, fun p hp => ?_⟩
      have sp : Same H6 (upd H6 p (.lst [.int 1, .int 1, .int (-1)])) := Same.new hp
      refine ⟨_, rfl, src, z + m + 1 + nx + i, 3, rfl, hs5.same sp, by omega, by decide, by decide, fun H7 rr hr7 hs7 S7 => ?_⟩
      have psrc : p ≠ src := fun e => hs5.ne (e ▸ hp)
      have e7 : H7 p = some (.lst [.int 1, .int 1, .int (-1)]) := same_at S7 (by simpa using psrc) upd_same
      have S57 : Same (hid [src] H6) (hid [src] H7) := (same_hid sp).trans S7
      obtain ⟨sn, hsn, bsn⟩ : ∃ sn : Int, ([.int 1, .int 1, .int (-1)] : List V)[rr]? = some (.int sn) ∧ sn.natAbs ≤ 1 := by
        match rr, hr7 with
        | 0, _ => exact ⟨1, rfl, by decide⟩
        | 1, _ => exact ⟨1, rfl, by decide⟩
        | 2, _ => exact ⟨-1, rfl, by decide⟩
      refine ⟨_, _, _, _, rfl, rfl, SqL.of e7, atI_nat hsn, ?_⟩
      have ht7 := ht.hidS S57 out
      have h57 : H7 D5 = some (.lst (sg.map V.int)) := same_at S57 (by simpa using D5src) h5
      have S27 := S5.trans S57
      have hsr7 : SqL K H7 ar (r.map V.int) := hid_le.seq ((src_up S27 hsS).seq hsr)
      refine ⟨_, rfl, Or.inl ⟨rfl, _, SqL.of ht7.top⟩, _, rfl, _, rfl, ar, D5, _, _, rfl, hsr7, SqL.of h57, fun D9 hD9 => ?_⟩
      refine lc_ints (walk_zip (n := nx) (xs := r.map V.int) (ys := sg.map V.int) (by rw [List.length_map, List.length_map, lr, lsg, Nat.min_self])) [] (fun _ _ => True) (fun _ e => e.natAbs ≤ 14) hD9 (by simp) (by omega) trivial (fun _ _ _ _ => trivial) (fun _ G s _ => by rw [hid_nil, hid_nil] at s; exact ⟨s.seq hsr7, SqL.of (s _ _ h57)⟩) ?_ ?_
      · rintro j y H9 H10 hj s9 _ _ ⟨T2, x, z', rfl, hT2, rfl, ex, ez⟩
        have sT2 : Same H9 (upd H9 T2 (.tup [x, z'])) := Same.new hT2
        refine ⟨by rw [hid_nil, hid_nil]; exact sT2, fun Q' hQ => ?_⟩
        have ex : (r.map V.int)[j]? = some x := ex
        have ez : (sg.map V.int)[j]? = some z' := ez
        cases neg_at ex
        cases neg_at ez
        have b1 : (gd r j).natAbs ≤ 14 := lowr _ (List.mem_of_getElem? (gd_at (by omega)))
        have b2 := sgb j
        have b3 : (sn * gd r j).natAbs ≤ 14 := by
          rw [Int.natAbs_mul]
          have := Nat.mul_le_mul bsn b1
          omega
        refine ⟨T2, _, rfl, SqT.of upd_same, rfl, _, _, rfl, _, _, rfl, rfl, rfl, ?_⟩
        refine ⟨_, rfl, _, rfl, _, _, rfl, rfl, wide_mul (a := 4) (b := 4) (by omega) (by omega) (by decide) (by decide) (by decide), _, rfl, _, _, rfl, rfl, wide_mul (a := 4) (b := 4) (by omega) (by omega) (by decide) (by decide) (by decide), hQ _ _ ?_ (by rw [hid_nil, hid_nil]; exact sT2) trivial⟩
        rw [Int.natAbs_mul]
        have := Nat.mul_le_mul b3 b2
        omega
      intro H9 ns s9 hns lns2 hR2 _
      rw [hid_nil, hid_nil] at s9
      have ht9 := ht7.same s9
      have n9 : D9 ∉ D7 :: rs := ht7.notin hD9
      have S29 : Same (hid [src] H2) (hid [src] H9) := S27.trans (same_hid s9)
      have h72 : H2 D7 = none := src_free hs3 s3 hD7
      refine ⟨D7, _, _, rfl, rfl, ht9.top, small1000 (by rw [List.length_map, ht9.len]; omega), ?_⟩
      refine ⟨_, _, _, _, _, _, rs ++ [D9], tb' ++ [ns], rfl, by rw [upd_ne D57]; exact s9 _ _ h57, ht9.snoc hns n9, by rw [List.length_append, lt']; rfl, fun row hrw => ?_, fun a ha => ?_, ?_, same_new S29 h72⟩
      · rcases List.mem_append.mp hrw with q | q
        · exact hrow row q
        · rw [List.mem_singleton.mp q]
          refine ⟨lns2, fun e he => ?_⟩
          obtain ⟨j, hj, ej⟩ := List.getElem_of_mem he
          exact hR2 j e (by rw [← ej]; exact List.getElem?_eq_getElem hj)
      · rcases List.mem_cons.mp ha with q | q
        · rw [q]; exact h70
        · rcases List.mem_append.mp q with q | q
          · exact hf a (List.mem_cons_of_mem _ q)
          · rw [List.mem_singleton.mp q]
            exact src_free hs7 (S2.trans S27) hD9
      · exact (hs7.same s9).put D7src
    · rintro σ H5 ⟨o3, o4, o6, o8, o9, o10, rs, tb', rfl, h5, ht, lt', hrow, hf, hs5, S5⟩
      exact ⟨_, rfl, kq H5 D7 rs tb' mx nx hmn ⟨S2.trans S5, hs5.mono (by omega), ht, lt', hrow, hf⟩⟩
  intro key
  refine ⟨_, rfl, src, z + m, 2, rfl, hs1, by omega, by decide, by decide, fun H2 c hc hs2 S2 => ?_⟩
  have S02 := S1.trans S2
  have th2 := there_src hS hs2 S02
  have d2 := dp_drew d1 S2 hsS
  by_cases hc0 : V.int (c : Nat) = V.int 0
  · refine ⟨rfl, true, bT hc0, iteT ?_⟩
    obtain ⟨l', xs', e', hl', hx'⟩ := dpl d2
    cases e'
    have lxs' : xs'.length = m := by rw [lt_len hx', ok1.len]
    obtain ⟨r0, t0, l0, _⟩ := ok1.at (show 0 < m from ok1.m1)
    obtain ⟨x0, hx0, dx0⟩ := hx'.at (lt_at t0)
    obtain ⟨a0, rfl, hs0⟩ := dp_li dx0
    refine ⟨_, rfl, _, _, _, _, rfl, rfl, hid_le.seq hl', atI_nat (j := 0) hx0, _, _, rfl, .inl (hid_le.seq hs0), _, rfl, (by omega), (by rw [List.length_map, l0]; omega), fun D hD => ?_⟩
    rw [List.length_map, l0, Int.toNat_natCast]
    refine lc_data (K := K) walk_range S (fun j => li (tb1.map fun r => gd r j)) hD (by omega) th2 (fun _ _ => trivial) ?_ ?_
    · rintro j x H3 H4 hj s1 th ⟨rfl, rfl⟩
      refine ⟨Same.refl _, fun Q' hQ => ⟨rfl, ?_⟩⟩
      refine ⟨_, rfl, p1, rfl, ⟨xs', (hid_le.trans s1).seq hl'⟩, fun D2 hD2 => ?_⟩
      refine lc_data (K := K) (walk_list (xs := xs')) (D :: S) (fun i => .int (gd (tb1.getD i []) j)) hD2 (by omega) th (fun H5 s3 => ((hid_le.trans s1).trans s3).seq hl') ?_ ?_
      · rintro i x H5 H6 hi s3 th3 ⟨rfl, hx3⟩
        refine ⟨Same.refl _, fun Q2 hQ2 => ⟨rfl, ?_⟩⟩
        rw [lxs'] at hi
        obtain ⟨r, tr, lr, er⟩ := ok1.at hi
        obtain ⟨x', hx4, dx⟩ := hx'.at (lt_at tr)
        rw [hx3] at hx4
        cases hx4
        obtain ⟨ar, rfl, hsr⟩ := dp_li dx
        have hg : (r.map V.int)[j]? = some (V.int (gd r j)) := by rw [List.getElem?_map, gd_at (by omega)]; rfl
        refine ⟨_, rfl, _, rfl, _, _, _, _, rfl, (show V.int (0 + (j : Int)) = V.int (j : Int) by rw [Int.zero_add]), ((hid_le.trans s1).trans s3).seq hsr, atI_nat hg, hQ2 _ _ (Same.refl _) ?_⟩
        rw [er j]
        exact .int _
      · intro H5 s3 _ d3
        refine hQ _ _ s3 ?_
        have e : (List.range xs'.length).map (fun i => PyData.int (gd (tb1.getD i []) j)) = (tb1.map fun r => gd r j).map PyData.int := by
          refine List.ext_getElem? fun i => ?_
          by_cases hi : i < m
          · obtain ⟨r, tr, lr, er⟩ := ok1.at hi
            rw [range_at (by omega), List.getElem?_map, List.getElem?_map, tr]
            show some (PyData.int (ent tb1 i j)) = some (PyData.int (gd r j))
            rw [er]
          · rw [List.getElem?_eq_none (by rw [List.length_map, List.length_range]; omega), List.getElem?_eq_none (by rw [List.length_map, List.length_map, ok1.len]; omega)]
        rw [e] at d3
        exact d3
    · intro H3 s3 _ d3
      have e : (List.range n).map (fun j => li (tb1.map fun r => gd r j)) = (colsOf n tb1).map li := by
        unfold colsOf
        rw [List.map_map]
        rfl
      rw [e] at d3
      refine key _ _ ⟨_, _, _, _, _, _, _, _, D, colsOf n tb1, n, m, rfl, d3, ⟨?_, ok1.n1, ok1.n8, ok1.m1, ok1.m8, fun r hr => ?_⟩, fun r hr e he => ?_, .inr ⟨rfl, rfl⟩, hs2.same s3, S02.trans (same_hid s3)⟩
      · unfold colsOf; rw [List.length_map, List.length_range]
      · unfold colsOf at hr
        obtain ⟨j, _, rfl⟩ := List.mem_map.mp hr
        rw [List.length_map, ok1.len]
      · unfold colsOf at hr
        obtain ⟨j, hj, rfl⟩ := List.mem_map.mp hr
        obtain ⟨r, hr1, rfl⟩ := List.mem_map.mp he
        have lr := ok1.row r hr1
        exact low1 r hr1 _ (List.mem_of_getElem? (gd_at (by have := List.mem_range.mp hj; omega)))
  · refine ⟨rfl, false, bF hc0, iteF ?_⟩
    exact key _ _ ⟨_, _, _, _, _, _, _, _, p1, tb1, m, n, rfl, d2, ok1, low1, .inl ⟨rfl, rfl⟩, hs2, S02⟩
end
end K31
namespace K31
open PySem PySem.Spec PyProof.Rows L2
theorem TabAt.set {H : Hp} {p r : Addr} {rs : List Addr} {tb : List (List Int)} {i : Nat} {row : List Int} (t : TabAt H p rs tb) (hr : rs[i]? = some r) : TabAt (upd H r (.lst (row.map V.int))) p rs (tb.set i row) := by
  have h := List.nodup_cons.mp t.nd
  have hi : i < rs.length := (List.getElem?_eq_some_iff.mp hr).1
  have rp : p ≠ r := fun e => h.1 (by rw [e]; exact List.mem_of_getElem? hr)
  refine ⟨by rw [upd_ne rp]; exact t.top, by rw [List.length_set]; exact t.len, fun j a ns h1 h2 => ?_, t.nd⟩
  by_cases e : j = i
  · subst e
    rw [hr] at h1
    cases h1
    rw [List.getElem?_set_self (by rw [← t.len]; exact hi)] at h2
    cases h2
    exact upd_same
  · rw [List.getElem?_set_ne (Ne.symm e)] at h2
    have ar : a ≠ r := fun q => by
      have hj : j < rs.length := (List.getElem?_eq_some_iff.mp h1).1
      have e1 : rs[j] = a := (List.getElem?_eq_some_iff.mp h1).2
      have e2 : rs[i] = r := (List.getElem?_eq_some_iff.mp hr).2
      exact e ((List.getElem_inj h.2).mp (e1.trans (q.trans e2.symm)))
    rw [upd_ne ar]
    exact t.row j a ns h1 h2
theorem map_set_int {row : List Int} {j : Nat} {v : Int} : (row.map V.int).set j (.int v) = (row.set j v).map V.int := by rw [List.map_set]
section
variable {P : Program} {w : World} {K : PySem.W.Frag} {mg : Str → Option Value} {base : Heap}
def spTable (K : PySem.W.Frag) : Sp := fun vs H Q _ => ∃ (S : List Addr) (src : Addr) (z : Nat), vs = [.ref src, .int 6] ∧ SrcAt src z H ∧ src ∈ S ∧ There S H ∧ z + 1000 ≤ 1000000 ∧
  ∀ H' p rs tb m n, 1 ≤ m → m ≤ 6 → 1 ≤ n → n ≤ 6 → TabNew H H' src (z + 1000) p rs tb m n (10 ^ 30) → Q (.ref p) H'
abbrev N__law_table : List Str := ["_law_source", "_law_most", "_law_many", "_law_wide", "_law_kind", "_law_table_here", "_law_k", "_law_row"]
theorem sc__law_table : FnScope N__law_table ["_law_source", "_law_most"] (defScope s__law_table) := ⟨rfl, rfl, rfl, by decide +kernel, rfl, by decide +kernel, by decide +kernel⟩
theorem c__law_table (T : Txt K mg) : Cal P w K mg base 5 "_law_table" ["_law_source", "_law_most"] (spTable K) := by
  refine cal_mk T.F_s__law_table T.g__law_table sc__law_table (fun _ _ _ _ _ _ us hl => match us, hl with | [_, _], _ => rfl) (fun vs H Q E ⟨_, _, _, h, _⟩ => by rw [h]; rfl) fun cdv A outer s H vs Q E hr ⟨S, src, z, h1, hs, hsS, hS, hz, kq⟩ => ?_
  subst h1
  have srcH : H src ≠ none := hs.ne
  refine ⟨_, (pss_cons (sset 2 sc__law_table.nd (pe_op op_add pe_int (pe_cal (c__law_next T) (hr.mono (by decide)) (pa_cons (pv 0) (pa_cons (pv 1) pa_nil)))))
 (pss_cons (sset 3 sc__law_table.nd (pe_op op_add pe_int (pe_cal (c__law_next T) (hr.mono (by decide)) (pa_cons (pv 0) (pa_cons (pv 1) pa_nil)))))
 (pss_cons (sset 4 sc__law_table.nd (pe_cal (c__law_next T) (hr.mono (by decide)) (pa_cons (pv 0) (pa_cons pe_int pa_nil))))
 (pss_cons (ps_if (pt_cmpR op_lt (pv 4) pe_int (nomark _))
  (pss_one (ps_setLc (i := 5) (own := [("_law_row", 7)]) rfl sc__law_table.nd rfl rfl (sw_true rfl rfl rfl (by decide +kernel)) (pi_range1 rfl T.f_range (pa_cons (pv 2) pa_nil)) (blkOk_by (own := [("_law_row", 7)]) (by kernel_rfl)) (fun _ _ _ _ _ => (pgn 7 sc__law_table.nd)) (fun _ _ _ _ _ => pts_nil) (fun _ _ _ _ _ => (by exact (pe_lc (own := [("_law_k", 6)]) rfl sc__law_table.nd (pi_range1 rfl T.f_range (pa_cons (pv 3) pa_nil)) (blkOk_by (own := [("_law_k", 6)]) (by kernel_rfl)) (fun _ _ _ _ _ => (pgn 6 sc__law_table.nd)) (fun _ _ _ _ _ => pts_nil) (fun _ _ _ _ _ => (pe_op op_sub (pe_cal (c__law_next T) (hr.mono (by decide)) (pa_cons (pv 0) (pa_cons pe_int pa_nil))) pe_int)))))))
  (pss_one (ps_if (pt_cmpR op_lt (pv 4) pe_int (nomark _))
  (pss_one (sset 5 sc__law_table.nd (pe_cal (c__law_net_drawn T) (hr.mono (by decide)) (pa_cons (pv 0) (pa_cons (pv 2) (pa_cons (pv 3) pa_nil))))))
  (pss_one (sset 5 sc__law_table.nd (pe_cal (c__law_stretches T) (hr.mono (by decide)) (pa_cons (pv 0) (pa_cons (pv 2) (pa_cons (pv 3) pa_nil)))))))))
 (pss_cons (ps_if (pt_cmpR op_eq (pe_cal (c__law_next T) (hr.mono (by decide)) (pa_cons (pv 0) (pa_cons pe_int pa_nil))) pe_int (nomark _))
  (pss_one (sset 5 sc__law_table.nd (pe_cal (c__law_swung T) (hr.mono (by decide)) (pa_cons (pv 0) (pa_cons (pv 5) pa_nil)))))
  pss_nil)
 (pss_cons (ps_for PassesOwn.never rfl (pi_range1 rfl T.f_range (pa_cons (pe_cal (c__law_one T) (hr.mono (by decide)) (pa_cons (pv 0) (pa_cons (pe_lst (pa_cons pe_int (pa_cons pe_int (pa_cons pe_int (pa_cons pe_int pa_nil))))) pa_nil))) pa_nil)) (pgn 6 sc__law_table.nd)
  (pss_cons (sset 7 sc__law_table.nd (pe_ix (ix_listK K) (pv 5) (pe_cal (c__law_next T) (hr.mono (by decide)) (pa_cons (pv 0) (pa_cons (pe_callB (lenK K) (by rfl) T.f_len (by decide +kernel) (pa_cons (pv 5) pa_nil)) pa_nil))) (fun _ _ => rfl)))
 (pss_one (ps_asg (pe_cal (c__law_one T) (hr.mono (by decide)) (pa_cons (pv 0) (pa_cons (pe_lst (pa_cons pe_int (pa_cons (pe_un un_neg pe_int) (pa_cons pe_int (pa_cons pe_int (pa_cons (pe_un un_neg pe_int) (pa_cons pe_int (pa_cons pe_int (pa_cons (pe_un un_neg pe_int) (pa_cons (pe_op op_pow pe_int pe_int) pa_nil)))))))))) pa_nil))) (pg_sub (pv 7) (pe_cal (c__law_next T) (hr.mono (by decide)) (pa_cons (pv 0) (pa_cons (pe_callB (lenK K) (by rfl) T.f_len (by decide +kernel) (pa_cons (pv 7) pa_nil)) pa_nil))) set_list)))))
 (pss_one (ps_ret (pv 5))))))))), ?_⟩
  refine ⟨_, rfl, _, rfl, src, z, 6, rfl, hs, by omega, by decide, by decide, fun H1 m0 hm0 hs1 S1 => ?_⟩
  refine ⟨_, _, rfl, rfl, ?_⟩
  show gName 2 (V.int (1 + (m0 : Int))) _ _ _
  obtain ⟨many, hmany, em⟩ : ∃ many : Nat, many = m0 + 1 ∧ (1 : Int) + (m0 : Int) = (many : Int) := ⟨m0 + 1, rfl, by omega⟩
  rw [em]
  refine ⟨_, rfl, _, rfl, src, z + 1, 6, rfl, hs1, by omega, by decide, by decide, fun H2 n0 hn0 hs2 S2 => ?_⟩
  refine ⟨_, _, rfl, rfl, ?_⟩
  show gName 3 (V.int (1 + (n0 : Int))) _ _ _
  obtain ⟨wide, hwide, en⟩ : ∃ wide : Nat, wide = n0 + 1 ∧ (1 : Int) + (n0 : Int) = (wide : Int) := ⟨n0 + 1, rfl, by omega⟩
  rw [en]
  refine ⟨_, rfl, src, z + 2, 8, rfl, hs2, by omega, by decide, by decide, fun H3 kd hkd hs3 S3 => ?_⟩
  have S03 := S1.trans (S2.trans S3)
  have th3 := there_src hS hs3 S03
  have m1 : 1 ≤ many := by omega
  have m6 : many ≤ 6 := by omega
  have n1 : 1 ≤ wide := by omega
  have n6 : wide ≤ 6 := by omega
  clear em en hmany hwide
  refine gName_i ?_
  dsimp only
  -- new tables, seen from the first heap
  have back : ∀ {G G' : Hp} {zz : Nat} {p : Addr} {rs : List Addr} {tb : List (List Int)} {a b B : Nat}, SrcAt src 2000000 G → Same (hid [src] H) (hid [src] G) → TabNew G G' src zz p rs tb a b B → TabNew H G' src zz p rs tb a b B := fun {G G' zz p rs tb a b B} hG s t =>
    ⟨s.trans t.same, t.src, t.tab, t.len, t.rows, fun x hx => src_free hG s (t.fresh x hx)⟩
  refine tSeq_key (t := tIfS _ _ _) (fun σ' H' => ∃ (o6 o7 : Option V) (p : Addr) (rs : List Addr) (tb : List (List Int)), σ' = [some (.ref src), some (.int 6), some (.int many), some (.int wide), some (.int kd), some (.ref p), o6, o7] ∧ TabNew H H' src (z + 300) p rs tb many wide 14) ?_ ?_
  · rintro σ' H4 ⟨o6, o7, p, rs, tb, rfl, N4⟩
    refine tSeq_key (t := tIfS _ _ _) (fun σ' H' => ∃ (o6 o7 : Option V) (p : Addr) (rs : List Addr) (tb : List (List Int)) (m n : Nat), σ' = [some (.ref src), some (.int 6), some (.int many), some (.int wide), some (.int kd), some (.ref p), o6, o7] ∧ TabNew H H' src (z + 500) p rs tb m n 14 ∧ 1 ≤ m ∧ m ≤ 6 ∧ 1 ≤ n ∧ n ≤ 6) ?_ ?_
    · rintro σ' H5 ⟨o6, o7, p, rs, tb, m, n, rfl, N5, a1, a2, a3, a4⟩
      have out : ∀ a ∈ p :: rs, a ∉ [src] := fun a ha q => by
        rw [List.mem_singleton.mp q] at ha
        exact srcH (N5.fresh src ha)
      refine ⟨_, rfl, by show 4 ≤ sizeLine; decide, fun p9 hp9 => ?_⟩
      have s9 : Same H5 (upd H5 p9 (.lst [.int 0, .int 0, .int 1, .int 2])) := Same.new hp9
      have e9 : (upd H5 p9 (.lst [.int 0, .int 0, .int 1, .int 2])) p9 = some (.lst [.int 0, .int 0, .int 1, .int 2]) := upd_same
      generalize upd H5 p9 (.lst [.int 0, .int 0, .int 1, .int 2]) = H6 at s9 e9
      have p9src : p9 ≠ src := fun e => N5.src.ne (e ▸ hp9)
      refine ⟨src, p9, z + 500, [0, 0, 1, 2], rfl, N5.src.same s9, by omega, SqL.of (by rw [hid_out (by simpa using p9src)]; exact e9), by decide, by decide, fun H7 v hv hs7 S7 => ?_⟩
      have hv2 : 0 ≤ v ∧ v ≤ 2 := by
        simp only [List.mem_cons, List.not_mem_nil, or_false] at hv
        omega
      have S57 : Same (hid [src] H5) (hid [src] H7) := (same_hid s9).trans S7
      refine ⟨v, rfl, by omega, by omega, ?_⟩
      refine for_it (walk_range (n := v.toNat)) (fun k σ H' => ∃ (o6 o7 : Option V) (tb' : List (List Int)), σ = [some (.ref src), some (.int 6), some (.int many), some (.int wide), some (.int kd), some (.ref p), o6, o7] ∧ TabNew H H' src (z + 501 + 3 * k) p rs tb' m n (10 ^ 30))
        ⟨_, _, tb, rfl, ⟨N5.same.trans S57, hs7.mono (by omega), N5.tab.hidS S57 out, N5.len, fun row hrow => ⟨(N5.rows row hrow).1, fun e he => Nat.le_trans ((N5.rows row hrow).2 e he) (by decide)⟩, N5.fresh⟩⟩ (fun _ _ _ _ _ => trivial) ?_ ?_
      · rintro k x σ H8 H9 hk ⟨o6, o7, tb', rfl, N8⟩ ⟨rfl, rfl⟩
        refine ⟨_, rfl, _, rfl, _, rfl, _, _, rfl, .inl (SqL.of N8.tab.top), src, z + 501 + 3 * k, m, ?_, N8.src, by omega, by omega, by omega, fun H10 r hr10 hs10 S10 => ?_⟩
        · show [V.ref src, V.int ((rs.map V.ref).length : Nat)] = _
          rw [List.length_map, N8.tab.len, N8.len]
        have t10 := N8.tab.hidS S10 out
        have hrs : r < rs.length := by rw [N8.tab.len, N8.len]; exact hr10
        have htb : r < tb'.length := by rw [N8.len]; exact hr10
        have er : rs[r]? = some rs[r] := List.getElem?_eq_getElem hrs
        have etb : tb'[r]? = some tb'[r] := List.getElem?_eq_getElem htb
        have rin : rs[r] ∈ p :: rs := List.mem_cons_of_mem _ (List.getElem_mem hrs)
        have lrow : tb'[r].length = n := (N8.rows _ (List.getElem_mem htb)).1
        refine ⟨_, _, _, _, rfl, rfl, SqL.of t10.top, atI_nat (v := .ref rs[r]) (by rw [List.getElem?_map, er]; rfl), ?_⟩
        refine ⟨_, rfl, 1, rfl, 1, rfl, 3, rfl, _, _, rfl, rfl, ⟨by decide, by decide, by decide⟩, by show 9 ≤ sizeLine; decide, fun p11 hp11 => ?_⟩
        have s11 : Same H10 (upd H10 p11 (.lst (([1, -1, 0, 1, -1, 0, 2, -3, (10 : Int) ^ (30 : Int).toNat] : List Int).map V.int))) := Same.new hp11
        have e11 : (upd H10 p11 (.lst (([1, -1, 0, 1, -1, 0, 2, -3, (10 : Int) ^ (30 : Int).toNat] : List Int).map V.int))) p11 = some (.lst (([1, -1, 0, 1, -1, 0, 2, -3, (10 : Int) ^ (30 : Int).toNat] : List Int).map V.int)) := upd_same
        have p11src : p11 ≠ src := fun e => hs10.ne (e ▸ hp11)
        refine ⟨src, p11, z + 501 + 3 * k + 1, [1, -1, 0, 1, -1, 0, 2, -3, (10 : Int) ^ (30 : Int).toNat], rfl, hs10.same s11, by omega, SqL.of (by rw [hid_out (by simpa using p11src)]; exact e11), by decide, by decide, fun H12 v2 hv2 hs12 S12 => ?_⟩
        have bv : v2.natAbs ≤ 10 ^ 30 := by
          simp only [List.mem_cons, List.not_mem_nil, or_false] at hv2
          rcases hv2 with e | e | e | e | e | e | e | e | e <;> rw [e] <;> decide
        have S1012 : Same (hid [src] H10) (hid [src] H12) := (same_hid s11).trans S12
        have t12 := t10.hidS S1012 out
        have r12 : H12 rs[r] = some (.lst (tb'[r].map V.int)) := t12.row r _ _ er etb
        refine ⟨_, rfl, _, rfl, _, rfl, _, _, rfl, .inl (SqL.of r12), src, z + 501 + 3 * k + 2, n, ?_, hs12, by omega, by omega, by omega, fun H13 j hj hs13 S13 => ?_⟩
        · show [V.ref src, V.int ((tb'[r].map V.int).length : Nat)] = _
          rw [List.length_map, lrow]
        have t13 := t12.hidS S13 out
        have r13 : H13 rs[r] = some (.lst (tb'[r].map V.int)) := t13.row r _ _ er etb
        refine ⟨rs[r], _, _, j, rfl, rfl, r13, ixN_nat' (by rw [List.length_map, lrow]; exact hj), ?_⟩
        rw [map_set_int]
        have S813 := S10.trans (S1012.trans S13)
        refine ⟨_, _, tb'.set r (tb'[r].set j v2), rfl, ⟨same_new (N8.same.trans S813) (N8.fresh _ rin), (hs13.put fun e => srcH (e ▸ N8.fresh _ rin)).mono (by omega), t13.set er, by rw [List.length_set]; exact N8.len, fun row hrow => ?_, N8.fresh⟩⟩
        rcases List.mem_or_eq_of_mem_set hrow with h | h
        · exact N8.rows row h
        · rw [h]
          refine ⟨by rw [List.length_set]; exact lrow, fun e he => ?_⟩
          rcases List.mem_or_eq_of_mem_set he with h2 | h2
          · exact (N8.rows _ (List.getElem_mem htb)).2 e h2
          · rw [h2]; exact bv
      · rintro σ H8 ⟨o6, o7, tb', rfl, N8⟩
        exact ⟨_, rfl, kq H8 p rs tb' m n a1 a2 a3 a4 ⟨N8.same, N8.src.mono (by omega), N8.tab, N8.len, N8.rows, N8.fresh⟩⟩
    · intro key
      refine ⟨_, rfl, src, z + 300, 2, rfl, N4.src, by omega, by decide, by decide, fun H5 c hc hs5 S5 => ?_⟩
      have S05 := N4.same.trans S5
      by_cases hc0 : V.int (c : Nat) = V.int 0
      · refine ⟨rfl, true, bT hc0, iteT ?_⟩
        have th5 := there_src hS hs5 S05
        have out : ∀ a ∈ p :: rs, a ∉ [src] := fun a ha q => by
          rw [List.mem_singleton.mp q] at ha
          exact srcH (N4.fresh src ha)
        have outS : ∀ a ∈ p :: rs, a ∉ S := fun a ha => hS.new (N4.fresh a ha)
        have t5 := N4.tab.hidS S5 out
        refine ⟨_, rfl, _, rfl, S, src, z + 301, many, wide, tb, _, rfl, hs5, hsS, th5, t5.dp outS, ⟨N4.len, m1, by omega, n1, by omega, fun r hr => (N4.rows r hr).1⟩, m6, n6, fun r hr => (N4.rows r hr).2, by omega, fun H6 p' rs' tb' m' n' hmn N6 => ?_⟩
        refine key _ _ ⟨_, _, p', rs', tb', m', n', rfl, ?_, by omega, by omega, by omega, by omega⟩
        have := back (hs5.mono (by omega)) S05 N6
        exact ⟨this.same, this.src.mono (by omega), this.tab, this.len, this.rows, this.fresh⟩
      · refine ⟨rfl, false, bF hc0, iteF ?_⟩
        have out : ∀ a ∈ p :: rs, a ∉ [src] := fun a ha q => by
          rw [List.mem_singleton.mp q] at ha
          exact srcH (N4.fresh src ha)
        exact key _ _ ⟨_, _, p, rs, tb, many, wide, rfl, ⟨S05, hs5.mono (by omega), N4.tab.hidS S5 out, N4.len, N4.rows, N4.fresh⟩, m1, m6, n1, n6⟩
  · intro key
    refine ⟨_, rfl, _, _, rfl, rfl, ?_⟩
    by_cases h2 : (kd : Int) < 2
    · refine ⟨true, bT h2, iteT ?_⟩
      refine ⟨_, rfl, many, rfl, by omega, by omega, fun D hD => ?_⟩
      rw [Int.toNat_natCast]
      have Dsrc : D ≠ src := fun e => hs3.ne (e ▸ hD)
      refine lc_rows walk_range [src] (fun i G => SrcAt src (z + 3 + wide * i) G) (fun _ row => row.length = wide ∧ ∀ e ∈ row, e.natAbs ≤ 14) hD (fun i G h a ha => by rw [List.mem_singleton.mp ha]; exact h.ne) (by omega) hs3 (fun _ _ _ h => h.put Dsrc) (fun _ _ _ _ => trivial) ?_ ?_
      · rintro i x H4 H5 hi s4 _ iv ⟨rfl, rfl⟩
        refine ⟨Same.refl _, fun Q' hQ => ⟨rfl, ?_⟩⟩
        refine ⟨_, rfl, wide, rfl, by omega, by omega, fun D2 hD2 => ?_⟩
        rw [Int.toNat_natCast]
        have D2src : D2 ≠ src := fun e => iv.ne (e ▸ hD2)
        have hwi : wide * (i + 1) = wide * i + wide := Nat.mul_succ wide i
        have hwb : wide * i ≤ 36 := Nat.mul_le_mul n6 (show i ≤ 6 by omega)
        refine lc_ints walk_range [src] (fun j G => SrcAt src (z + 3 + wide * i + j) G) (fun _ e => e.natAbs ≤ 14) hD2 (by simpa using D2src) (by omega) iv (fun _ _ _ h => h.put D2src) (fun _ _ _ _ => trivial) ?_ ?_
        · rintro j x H6 H7 hj s6 _ iv2 ⟨rfl, rfl⟩
          refine ⟨Same.refl _, fun Q2 hQ2 => ⟨rfl, ?_⟩⟩
          refine ⟨_, rfl, src, z + 3 + wide * i + j, 3, rfl, iv2, by omega, by decide, by decide, fun H8 r hr8 hs8 S8 => ?_⟩
          exact ⟨_, _, rfl, rfl, hQ2 _ _ (by omega) S8 hs8⟩
        · intro H6 ns s6 hns lns hR hs6
          refine hQ D2 ns H6 hD2 hns ⟨lns, fun e he => ?_⟩ s6 (hs6.mono (by omega))
          obtain ⟨j, hj, ej⟩ := List.getElem_of_mem he
          exact hR j e (by rw [← ej]; exact List.getElem?_eq_getElem hj)
      · intro H4 rs tb s4 ht lt hR hf hs4
        have hwb : wide * many ≤ 36 := Nat.mul_le_mul n6 m6
        refine key _ _ ⟨_, _, D, rs, tb, rfl, back (hs3.mono (by omega)) S03 ⟨s4, hs4.mono (by omega), ht, lt, fun row hrow => ?_, hf⟩⟩
        obtain ⟨j, hj, ej⟩ := List.getElem_of_mem hrow
        exact hR j row (by rw [← ej]; exact List.getElem?_eq_getElem hj)
    · refine ⟨false, bF h2, iteF ?_⟩
      refine ⟨_, rfl, _, _, rfl, rfl, ?_⟩
      by_cases h5 : (kd : Int) < 5
      · refine ⟨true, bT h5, iteT ?_⟩
        refine ⟨_, rfl, _, rfl, _, rfl, S, src, z + 3, many, wide, rfl, hs3, hsS, th3, m1, m6, n6, by omega, fun H4 p rs tb N4 => ?_⟩
        have := back (hs3.mono (by omega)) S03 N4
        exact key _ _ ⟨_, _, p, rs, tb, rfl, ⟨this.same, this.src.mono (by omega), this.tab, this.len, this.rows, this.fresh⟩⟩
      · refine ⟨false, bF h5, iteF ?_⟩
        refine ⟨_, rfl, _, rfl, _, rfl, S, src, z + 3, many, wide, rfl, hs3, hsS, th3, m6, n1, n6, by omega, fun H4 p rs tb N4 => ?_⟩
        have := back (hs3.mono (by omega)) S03 N4
        exact key _ _ ⟨_, _, p, rs, tb, rfl, ⟨this.same, this.src.mono (by omega), this.tab, this.len, this.rows, this.fresh⟩⟩
end
end K31
namespace K31
open PySem PySem.Spec PyProof.Rows L2
section
variable {P : Program} {w : World} {K : PySem.W.Frag} {mg : Str → Option Value} {base : Heap}
def spTask (K : PySem.W.Frag) : Sp := fun vs H Q _ => ∃ (S : List Addr) (src : Addr) (z m n : Nat) (tb : List (List Int)) (v : V), vs = [.ref src, v] ∧ SrcAt src z H ∧ src ∈ S ∧ Dp K (hid S H) v (lt tb) ∧ TabOk m n tb ∧ m ≤ 6 ∧ n ≤ 6 ∧ z + 200 ≤ 1000000 ∧
  ∀ H' p b g bs gs, Same (hid [src] H) (hid [src] H') → SrcAt src (z + 200) H' → H' p = some (.tup [.ref b, .ref g]) → H' b = some (.lst (bs.map V.int)) → H' g = some (.lst (gs.map V.int)) → bs.length = m → gs.length = n → (∀ i, i < m → (gd bs i).natAbs ≤ 10 ^ 30) → (∀ j, j < n → (gd gs j).natAbs ≤ 10 ^ 30) →
    H p = none → H b = none → H g = none → b ≠ g → Q (.ref p) H'
abbrev N__law_task : List Str := ["_law_source", "_law_table_here", "_law_great", "_law_bounds", "_law_row", "_law_gains", "_law_column"]
theorem sc__law_task : FnScope N__law_task ["_law_source", "_law_table_here"] (defScope s__law_task) := ⟨rfl, rfl, rfl, by decide +kernel, rfl, by decide +kernel, by decide +kernel⟩
theorem c__law_task (T : Txt K mg) : Cal P w K mg base 3 "_law_task" ["_law_source", "_law_table_here"] (spTask K) := by
  refine cal_mk T.F_s__law_task T.g__law_task sc__law_task (fun _ _ _ _ _ _ us hl => match us, hl with | [_, _], _ => rfl) (fun vs H Q E ⟨_, _, _, _, _, _, _, h, _⟩ => by rw [h]; rfl) fun cdv A outer s H vs Q E hr ⟨S, src, z, m, n, tb, v, h1, hs, hsS, dtb, ok, m6, n6, hz, kq⟩ => ?_
  subst h1
  obtain ⟨l, xs, rfl, hl, hx⟩ := dpl dtb
  have lxs : xs.length = m := by rw [lt_len hx, ok.len]
  obtain ⟨r0, t0, l0, _⟩ := ok.at (show 0 < m from ok.m1)
  obtain ⟨x0, hx0, dx0⟩ := hx.at (lt_at t0)
  obtain ⟨a0, rfl, hs0⟩ := dp_li dx0
  refine ⟨_, (pss_cons (sset 2 sc__law_task.nd (pe_lst (pa_cons pe_int (pa_cons pe_int (pa_cons pe_int (pa_cons pe_int (pa_cons (pe_op op_sub (pe_cal (c__law_next T) (hr.mono (by decide)) (pa_cons (pv 0) (pa_cons pe_int pa_nil))) pe_int) (pa_cons (pe_op op_sub (pe_cal (c__law_next T) (hr.mono (by decide)) (pa_cons (pv 0) (pa_cons pe_int pa_nil))) pe_int) (pa_cons (pe_op op_add (pe_op op_pow pe_int pe_int) (pe_cal (c__law_next T) (hr.mono (by decide)) (pa_cons (pv 0) (pa_cons pe_int pa_nil)))) pa_nil)))))))))
 (pss_cons (ps_setLc (i := 3) (own := [("_law_row", 4)]) rfl sc__law_task.nd rfl rfl (sw_true rfl rfl rfl (by decide +kernel)) (pi_listK K (pv 1)) (blkOk_by (own := [("_law_row", 4)]) (by kernel_rfl)) (fun _ _ _ _ _ => (pgn 4 sc__law_task.nd)) (fun _ _ _ _ _ => pts_nil) (fun _ _ _ _ _ => (pe_op op_add (pe_cal (c__law_one T) (hr.mono (by decide)) (pa_cons (pv 0) (pa_cons (pv 2) pa_nil))) (pe_op op_mulW (pe_cal (c__law_next T) (hr.mono (by decide)) (pa_cons (pv 0) (pa_cons pe_int pa_nil))) (pe_callTy call_int1 (by rfl) T.f_int (by decide +kernel) (pa_cons (pe_cmpR op_gt (pe_cal (c__law_next T) (hr.mono (by decide)) (pa_cons (pv 0) (pa_cons pe_int pa_nil))) pe_int (nomark _)) pa_nil))))))
 (pss_cons (ps_setLc (i := 5) (own := [("_law_column", 6)]) rfl sc__law_task.nd rfl rfl (sw_true rfl rfl rfl (by decide +kernel)) (pi_listK K (pe_ix (ix_listK K) (pv 1) pe_int (fun _ _ => rfl))) (blkOk_by (own := [("_law_column", 6)]) (by kernel_rfl)) (fun _ _ _ _ _ => (pgn 6 sc__law_task.nd)) (fun _ _ _ _ _ => pts_nil) (fun _ _ _ _ _ => (pe_op op_sub (pe_cal (c__law_next T) (hr.mono (by decide)) (pa_cons (pv 0) (pa_cons pe_int pa_nil))) pe_int)))
 (pss_one (ps_ret (pe_tup (pa_cons (pv 3) (pa_cons (pv 5) pa_nil)))))))), ?_⟩
  refine ⟨_, rfl, src, z, 12, rfl, hs, by omega, by decide, by decide, fun H1 u1 hu1 hs1 S1 => ?_⟩
  refine ⟨_, _, rfl, rfl, ?_⟩
  refine ⟨_, rfl, src, z + 1, 12, rfl, hs1, by omega, by decide, by decide, fun H2 u2 hu2 hs2 S2 => ?_⟩
  refine ⟨_, _, rfl, rfl, ?_⟩
  refine ⟨_, _, rfl, rfl, ⟨by decide, by decide, by decide⟩, ?_⟩
  refine ⟨_, rfl, src, z + 2, 9, rfl, hs2, by omega, by decide, by decide, fun H3 u3 hu3 hs3 S3 => ?_⟩
  refine ⟨_, _, rfl, rfl, by show 7 ≤ sizeLine; decide, fun gp hgp => ?_⟩
  obtain ⟨gr, hgr, bgr⟩ : ∃ gr : List Int, gr = [0, 1, 2, 5, (u1 : Int) - 3, (u2 : Int) - 3, (10 : Int) ^ (20 : Int).toNat + (u3 : Int)] ∧ ∀ e ∈ gr, e.natAbs ≤ 10 ^ 21 := ⟨_, rfl, fun e he => by
    simp only [List.mem_cons, List.not_mem_nil, or_false] at he
    have h20 : (10 : Int) ^ (20 : Int).toNat = 100000000000000000000 := by decide
    have h21 : (10 : Nat) ^ 21 = 1000000000000000000000 := by decide
    rw [h20] at he
    rw [h21]
    omega⟩
  have s4 : Same H3 (upd H3 gp (.lst (gr.map V.int))) := Same.new hgp
  have e4 : (upd H3 gp (.lst (gr.map V.int))) gp = some (.lst (gr.map V.int)) := upd_same
  have lgr : gr.length = 7 := by rw [hgr]; rfl
  rw [hgr] at s4 e4
  refine gName_i ?_
  dsimp only
  have S3' := S1.trans (S2.trans S3)
  have S4 : Same (hid [src] H) (hid [src] _) := S3'.trans (same_hid s4)
  have hs4 := hs3.same s4
  generalize hG : (upd H3 gp (.lst ([0, 1, 2, 5, (u1 : Int) - 3, (u2 : Int) - 3, (10 : Int) ^ (20 : Int).toNat + (u3 : Int)].map V.int))) = H4 at s4 e4 S4 hs4
  have hG' : (upd H3 gp (.lst [.int 0, .int 1, .int 2, .int 5, .int ((u1 : Int) - 3), .int ((u2 : Int) - 3), .int ((10 : Int) ^ (20 : Int).toNat + (u3 : Int))])) = H4 := hG
  rw [hG']
  rw [← hgr] at e4
  have gpsrc : gp ≠ src := fun e => hs3.ne (e ▸ hgp)
  have hl4 : SqL K H4 l xs := hid_le.seq ((src_up S4 hsS).seq hl)
  -- bounds
  refine ⟨_, rfl, l, rfl, ⟨xs, hl4⟩, fun D hD => ?_⟩
  have Dsrc : D ≠ src := fun e => hs4.ne (e ▸ hD)
  have lift : ∀ {G : Hp} {c : Addr} {ys : List V}, Same (hid [src] H4) (hid [src] G) → SqL K (hid S H) c ys → SqL K G c ys := fun s h => hid_le.seq ((src_up (S4.trans s) hsS).seq h)
  refine lc_ints (n := m) (by have := walk_list (K := K) (a := l) (xs := xs); rwa [lxs] at this) [src] (fun i G => SrcAt src (z + 3 + 3 * i) G) (fun _ e => e.natAbs ≤ 10 ^ 30) hD (by simpa using Dsrc) (by omega) hs4 (fun _ _ _ h => h.put Dsrc) (fun _ G s _ => lift s hl) ?_ ?_
  · rintro i x H5 H6 hi s5 _ iv ⟨rfl, _⟩
    refine ⟨Same.refl _, fun Q' hQ => ⟨rfl, ?_⟩⟩
    have g5 : H6 gp = some (.lst (gr.map V.int)) := same_at s5 (by simpa using gpsrc) e4
    refine ⟨_, rfl, _, rfl, src, gp, z + 3 + 3 * i, gr, rfl, iv, by omega, SqL.of (by rw [hid_out (by simpa using gpsrc)]; exact g5), by omega, by omega, fun H7 v hv hs7 S7 => ?_⟩
    refine ⟨_, rfl, src, z + 3 + 3 * i + 1, 4, rfl, hs7, by omega, by decide, by decide, fun H8 r hr8 hs8 S8 => ?_⟩
    refine ⟨_, rfl, src, z + 3 + 3 * i + 2, 3, rfl, hs8, by omega, by decide, by decide, fun H9 r9 hr9 hs9 S9 => ?_⟩
    refine ⟨_, _, rfl, rfl, .inr ⟨_, rfl, _, _, rfl, rfl, ?_, _, _, rfl, rfl, hQ _ _ ?_ (S7.trans (S8.trans S9)) hs9⟩⟩
    · refine wide_mul (a := 4) (b := 4) (by omega) ?_ (by decide) (by decide) (by decide)
      split <;> decide
    · have h1 := bgr v hv
      have h21 : (10 : Nat) ^ 21 = 1000000000000000000000 := by decide
      have h30 : (10 : Nat) ^ 30 = 1000000000000000000000000000000 := by decide
      rw [h21] at h1
      rw [h30]
      by_cases q : (r9 : Int) > 0
      · rw [if_pos (by rw [decide_eq_true q])]; omega
      · rw [if_neg (by rw [decide_eq_false q]; exact Bool.false_ne_true)]; omega
  intro H5 bs s5 hbs lbs hRb hs5
  have hD0 : H D = none := src_free hs4 S4 hD
  -- gains
  refine ⟨_, rfl, _, _, _, _, rfl, rfl, lift s5 hl, atI_nat (j := 0) hx0, a0, rfl, ⟨_, lift s5 hs0⟩, fun D2 hD2 => ?_⟩
  have D2src : D2 ≠ src := fun e => hs5.ne (e ▸ hD2)
  have S5 := S4.trans s5
  refine lc_ints (n := n) (by have := walk_list (K := K) (a := a0) (xs := r0.map V.int); rwa [List.length_map, l0] at this) [src] (fun i G => SrcAt src (z + 3 + 3 * m + i) G) (fun _ e => e.natAbs ≤ 10 ^ 30) hD2 (by simpa using D2src) (by omega) hs5 (fun _ _ _ h => h.put D2src) (fun _ G s _ => lift (s5.trans s) hs0) ?_ ?_
  · rintro i x H6 H7 hi s6 _ iv ⟨rfl, _⟩
    refine ⟨Same.refl _, fun Q' hQ => ⟨rfl, ?_⟩⟩
    refine ⟨_, rfl, src, z + 3 + 3 * m + i, 11, rfl, iv, by omega, by decide, by decide, fun H8 r hr8 hs8 S8 => ?_⟩
    refine ⟨_, _, rfl, rfl, hQ _ _ ?_ S8 hs8⟩
    have h30 : (10 : Nat) ^ 30 = 1000000000000000000000000000000 := by decide
    rw [h30]
    omega
  intro H6 gs s6 hgs lgs hRg hs6
  have S6 := S5.trans s6
  have hb6 : H6 D = some (.lst (bs.map V.int)) := same_at s6 (by simpa using Dsrc) hbs
  refine ⟨_, rfl, _, rfl, by show 2 ≤ sizeLine; decide, fun p hp => ?_⟩
  have sp : Same H6 (upd H6 p (.tup [.ref D, .ref D2])) := Same.new hp
  exact kq _ p D D2 bs gs (S6.trans (same_hid sp)) ((hs6.same sp).mono (by omega)) upd_same (sp _ _ hb6) (sp _ _ hgs) lbs lgs (fun i hi => hRb i _ (gd_at (by omega))) (fun j hj => hRg j _ (gd_at (by omega))) (src_free hs6 S6 hp) hD0 (src_free hs5 S5 hD2) (ne_of_none hbs hD2)
end
end K31
namespace K31
open PySem PySem.Spec PyProof.Rows L2
section
variable {P : Program} {w : World} {K : PySem.W.Frag} {mg : Str → Option Value} {base : Heap}
/-! the law's own check of what is right -/
def rDivisor (ds : List PyData) (r : PyData) : Prop := ∃ a b : Nat, ds = [.int a, .int b] ∧ r = .int (Nat.gcd a b : Nat)
abbrev N__law_divisor : List Str := ["_law_one_here", "_law_other"]
theorem sc__law_divisor : FnScope N__law_divisor ["_law_one_here", "_law_other"] (defScope s__law_divisor) := ⟨rfl, rfl, rfl, by decide +kernel, rfl, by decide +kernel, by decide +kernel⟩
theorem c__law_divisor (T : Txt K mg) : Cal P w K mg base 1 "_law_divisor" ["_law_one_here", "_law_other"] (puSp K rDivisor) := by
  refine cal_pu T.F_s__law_divisor T.g__law_divisor sc__law_divisor (fun _ _ _ _ _ _ us hl => match us, hl with | [_, _], _ => rfl) (fun ds r ⟨_, _, e, _⟩ => by rw [e]; rfl) fun cdv A outer s H vs Q E hr S ds r hS hd hR kq => ?_
  obtain ⟨a, b, rfl, rfl⟩ := hR
  obtain ⟨v1, v2, rfl, h1, h2⟩ := dp2 hd
  cases dp_int h1
  cases dp_int h2
  refine ⟨_, (pss_cons (ps_while PassesOwn.never (pt_cmpR op_ne (pv 1) pe_int (nomark _))
  (pss_one (ps_par (i := 0) (j := 1) rfl sc__law_divisor.nd rfl rfl (by decide) rfl rfl (pa_cons (pv 1) (pa_cons (pe_op op_modN (pv 0) (pv 1)) pa_nil)) (by rfl))))
 (pss_one (ps_ret (pv 0)))), ?_⟩
  refine ⟨fun μ σ H' => ∃ x y : Nat, μ = y ∧ H' = H ∧ σ = [some (.int x), some (.int y)] ∧ Nat.gcd x y = Nat.gcd a b, ⟨_, a, b, rfl, rfl, rfl, rfl⟩, ?_⟩
  rintro μ σ H' ⟨x, y, rfl, rfl, rfl, e⟩
  refine ⟨_, rfl, rfl, ?_⟩
  by_cases hy : V.int (μ : Nat) = V.int 0
  · refine ⟨false, bN hy, iteF ?_⟩
    have y0 : μ = 0 := by injection hy with hy; omega
    subst y0
    refine ⟨_, rfl, kq _ _ (Same.refl _) ?_⟩
    rw [Nat.gcd_zero_right] at e
    rw [← e]
    exact .int _
  · have y0 : 0 < μ := Nat.pos_of_ne_zero fun q => hy (by rw [q]; rfl)
    refine ⟨true, by rw [decide_eq_false hy]; rfl, iteT ?_⟩
    refine ⟨fun σ H'' => ∃ x' y' : Nat, y' < μ ∧ H'' = H' ∧ σ = [some (.int x'), some (.int y')] ∧ Nat.gcd x' y' = Nat.gcd a b, fun σ' H'' ⟨x', y', h, r⟩ => ⟨y', h, x', y', rfl, r⟩, ?_⟩
    refine ⟨_, rfl, _, rfl, _, rfl, _, _, rfl, rfl, (by show (μ : Int) ≠ 0; omega), ?_⟩
    refine ⟨_, _, rfl, μ, x % μ, Nat.mod_lt _ y0, rfl, ?_, ?_⟩
    · show [some (V.int μ), some (V.int (Int.fmod x μ))] = _
      rw [Int.fmod_eq_emod_of_nonneg _ (by omega), ← Int.natCast_emod]
    · rw [← e, Nat.gcd_comm x μ, Nat.gcd_rec μ x, Nat.gcd_comm]
def rLow (ds : List PyData) (r : PyData) : Prop := ∃ t b : Int, ds = [.int t, .int b] ∧ 0 < b ∧ b.natAbs < 2 ^ 9000 ∧ r = fr (Rat.divInt t b)
abbrev N__law_lowest : List Str := ["_law_top", "_law_bottom", "_law_share"]
theorem sc__law_lowest : FnScope N__law_lowest ["_law_top", "_law_bottom"] (defScope s__law_lowest) := ⟨rfl, rfl, rfl, by decide +kernel, rfl, by decide +kernel, by decide +kernel⟩
theorem c__law_lowest (T : Txt K mg) : Cal P w K mg base 2 "_law_lowest" ["_law_top", "_law_bottom"] (puSp K rLow) := by
  refine cal_pu T.F_s__law_lowest T.g__law_lowest sc__law_lowest (fun _ _ _ _ _ _ us hl => match us, hl with | [_, _], _ => rfl) (fun ds r ⟨_, _, e, _⟩ => by rw [e]; rfl) fun cdv A outer s H vs Q E hr S ds r hS hd hR kq => ?_
  obtain ⟨t, b, rfl, hb, h9, rfl⟩ := hR
  obtain ⟨v1, v2, rfl, h1, h2⟩ := dp2 hd
  cases dp_int h1
  cases dp_int h2
  have hn : ¬ b < 0 := by omega
  obtain ⟨e1, e2⟩ := divInt_parts t b (by omega)
  rw [if_neg hn, if_neg hn] at e1 e2
  refine ⟨_, (pss_cons (ps_if (pt_cmpR op_lt (pv 1) pe_int (nomark _))
  (pss_one (ps_par (i := 0) (j := 1) rfl sc__law_lowest.nd rfl rfl (by decide) rfl rfl (pa_cons (pe_op op_sub pe_int (pv 0)) (pa_cons (pe_op op_sub pe_int (pv 1)) pa_nil)) (by rfl)))
  pss_nil)
 (pss_cons (sset 2 sc__law_lowest.nd (pe_cal (c__law_divisor T) (hr.mono (by decide)) (pa_cons (pe_callB call_abs (by rfl) T.f_abs (by decide +kernel) (pa_cons (pv 0) pa_nil)) (pa_cons (pv 1) pa_nil))))
 (pss_one (ps_ret (pe_tup (pa_cons (pe_op op_fdivW (pv 0) (pv 2)) (pa_cons (pe_op op_fdivW (pv 1) (pv 2)) pa_nil))))))), ?_⟩
  refine ⟨_, rfl, _, _, rfl, rfl, false, bF hn, iteF ?_⟩
  refine ⟨_, rfl, t, rfl, ?_⟩
  refine ⟨_, rfl, S, [.int (t.natAbs : Nat), .int (b.natAbs : Nat)], _, hS, ?_, ⟨_, _, rfl, rfl⟩, fun H2 v2 s2 d2 => ?_⟩
  · refine .cons ?_ (.cons ?_ .nil)
    · rw [abs_if]; exact .int _
    · rw [show ((b.natAbs : Nat) : Int) = b by omega]; exact .int _
  cases dp_int d2
  have eg : Nat.gcd t.natAbs b.natAbs = Int.gcd t b := rfl
  have := div_ok (t := t) hb h9
  refine ⟨_, rfl, _, rfl, _, _, rfl, rfl, this, _, rfl, _, rfl, _, _, rfl, rfl, ⟨this.1, this.2⟩, by show 2 ≤ sizeLine; decide, fun p hp => ?_⟩
  refine kq _ _ (s2.put (s2.free hp)) ?_
  have pS := (hS.same s2).new hp
  refine fr_dp (SqT.of ?_)
  rw [hid_upd_out pS, upd_same, e1, e2]
  rfl
def comD (n : Nat) (f : Nat → Rat) : PyData := .tuple [.int (lcF f n : Nat), .list ((List.range n).map fun j => .int (topF f n j))]
def rLCommon (ds : List PyData) (r : PyData) : Prop := ∃ (n k : Nat) (f : Nat → Rat), ds = [lfn n f] ∧ OverD k n f ∧ n ≤ 8 ∧ k ≤ 8000 ∧ r = comD n f
abbrev N__law_common : List Str := ["_law_xs", "_law_bottom", "_law_top", "_law_low"]
theorem sc__law_common : FnScope N__law_common ["_law_xs"] (defScope s__law_common) := ⟨rfl, rfl, rfl, by decide +kernel, rfl, by decide +kernel, by decide +kernel⟩
theorem c__law_common (T : Txt K mg) : Cal P w K mg base 2 "_law_common" ["_law_xs"] (puSp K rLCommon) := by
  refine cal_pu T.F_s__law_common T.g__law_common sc__law_common (fun _ _ _ _ _ _ us hl => match us, hl with | [_], _ => rfl) (fun ds r ⟨_, _, _, e, _⟩ => by rw [e]; rfl) fun cdv A outer s H vs Q E hr S ds r hS hd hR kq => ?_
  obtain ⟨n, k, f, rfl, ov, n8, hk, rfl⟩ := hR
  obtain ⟨v, rfl, h1⟩ := dp1 hd
  obtain ⟨l, xs, rfl, hl, hx⟩ := dpl h1
  have lxs := lfn_len hx
  have pairAt : ∀ {i : Nat} {x : V} {G : Hp}, i < n → Same H G → xs[i]? = some x → ∃ a, x = .ref a ∧ SqT K G a [.int (f i).num, .int ((f i).den : Int)] := fun {i x G} hi s e => by
    obtain ⟨x', e', d⟩ := ent_at hx hi
    rw [e] at e'
    cases e'
    obtain ⟨a, rfl, h⟩ := dp_fr d
    exact ⟨a, rfl, sqT_same (hid_le.trans s) h⟩
  have hden : ∀ i, i < n → (f i).den < 2 ^ k := fun i hi => (ov.sz i hi).1
  have p9 : ∀ {z : Nat}, z < 2 ^ k → ((z : Int)).natAbs < 2 ^ 9000 := fun {z} h => by rw [Int.natAbs_natCast]; exact Nat.lt_of_lt_of_le h (two_pow_le (by omega))
  refine ⟨_, (pss_cons (sset 1 sc__law_common.nd pe_int)
 (pss_cons (ps_for PassesOwn.never rfl (pi_listK K (pv 0)) (pg_tupK (n := 2) K rfl (pgs_cons (pgn 2 sc__law_common.nd) (pgs_cons (pgn 3 sc__law_common.nd) pgs_nil)))
  (pss_one (sset 1 sc__law_common.nd (pe_op op_fdivW (pe_op op_mulW (pv 1) (pv 3)) (pe_cal (c__law_divisor T) (hr.mono (by decide)) (pa_cons (pv 1) (pa_cons (pv 3) pa_nil)))))))
 (pss_one (ps_ret (pe_tup (pa_cons (pv 1) (pa_cons (pe_lc (own := [("_law_top", 2), ("_law_low", 3)]) rfl sc__law_common.nd (pi_listK K (pv 0)) (blkOk_by (own := [("_law_top", 2), ("_law_low", 3)]) (by kernel_rfl)) (fun _ _ _ _ _ => (pg_tupK (n := 2) K rfl (pgs_cons (pgn 2 sc__law_common.nd) (pgs_cons (pgn 3 sc__law_common.nd) pgs_nil)))) (fun _ _ _ _ _ => pts_nil) (fun _ _ _ _ _ => (pe_op op_mulW (pv 2) (pe_op op_fdivW (pv 1) (pv 3))))) pa_nil))))))), ?_⟩
  refine ⟨_, rfl, l, rfl, ⟨xs, hid_le.seq hl⟩, ?_⟩
  refine for_it (n := n) (by have := walk_list (K := K) (a := l) (xs := xs); rwa [lxs] at this) (fun i σ H' => Same H H' ∧ ∃ o2 o3 : Option V, σ = [some (.ref l), some (.int (lcF f i : Nat)), o2, o3]) ⟨Same.refl _, _, _, rfl⟩ (fun i σ G _ p => (hid_le.trans p.1).seq hl) ?_ ?_
  · rintro i x σ H1 H2 hi ⟨s1, o2, o3, rfl⟩ ⟨rfl, hxi⟩
    obtain ⟨a, rfl, ha⟩ := pairAt hi s1 hxi
    refine ⟨a, _, rfl, ha, rfl, _, _, rfl, _, _, rfl, rfl, ?_⟩
    have hL := ov.lc i (by omega)
    have hd := hden i hi
    refine ⟨_, rfl, _, rfl, _, _, rfl, rfl, wide_mul (a := k + 1) (b := k + 1) (by rw [Int.natAbs_natCast]; exact Nat.lt_of_lt_of_le hL (two_pow_le (by omega))) (by rw [Int.natAbs_natCast]; exact Nat.lt_of_lt_of_le hd (two_pow_le (by omega))) (by omega) (by omega) (by omega), ?_⟩
    refine ⟨_, rfl, _, rfl, S, _, _, hS.same s1, .cons (.int _) (.cons (.int _) .nil), ⟨_, _, rfl, rfl⟩, fun H3 v3 s3 d3 => ?_⟩
    cases dp_int d3
    have g0 : 0 < Nat.gcd (lcF f i) (f i).den := Nat.gcd_pos_of_pos_left _ (lcF_pos i)
    refine ⟨_, _, rfl, rfl, wide_div (b := 9000) (by omega) (p9 (Nat.lt_of_le_of_lt (Nat.le_of_dvd (Nat.pos_of_ne_zero (f i).den_nz) (Nat.gcd_dvd_right _ _)) hd)) (by decide) (Nat.le_refl _), ?_⟩
    refine ⟨s1.trans s3, some (.int (f i).num), some (.int ((f i).den : Int)), ?_⟩
    show [some (V.ref l), some (V.int (((lcF f i : Nat) : Int) * ((f i).den : Int) / ((Nat.gcd (lcF f i) (f i).den : Nat) : Int))), _, _] = _
    rw [← Int.natCast_mul, ← Int.natCast_ediv]
    rfl
  · rintro σ H1 ⟨s1, o2, o3, rfl⟩
    have hL := ov.lc n (Nat.le_refl _)
    refine ⟨_, rfl, _, rfl, l, rfl, ⟨xs, (hid_le.trans s1).seq hl⟩, fun D hD => ?_⟩
    refine lc_data (K := K) (n := n) (by have := walk_list (K := K) (a := l) (xs := xs); rwa [lxs] at this) S (fun j => .int (topF f n j)) hD (by omega) (hS.same s1) (fun G s => ((hid_le.trans s1).trans s).seq hl) ?_ ?_
    · rintro i x H2 H3 hi s2 th ⟨rfl, hxi⟩
      refine ⟨Same.refl _, fun Q' hQ => ?_⟩
      obtain ⟨a, rfl, ha⟩ := pairAt hi (s1.trans s2) hxi
      refine ⟨a, _, rfl, ha, rfl, _, _, rfl, _, _, rfl, rfl, rfl, ?_⟩
      have hd := hden i hi
      refine ⟨_, rfl, _, rfl, _, rfl, _, _, rfl, rfl, wide_div (b := 9000) (by have := Nat.pos_of_ne_zero (f i).den_nz; omega) (p9 hd) (by decide) (Nat.le_refl _), ?_⟩
      have hq : lcF f n / (f i).den < 2 ^ k := Nat.lt_of_le_of_lt (Nat.div_le_self _ _) hL
      have e : ((lcF f n : Nat) : Int) / ((f i).den : Int) = ((lcF f n / (f i).den : Nat) : Int) := (Int.natCast_ediv _ _).symm
      refine ⟨_, _, rfl, rfl, wide_mul (a := k + 1) (b := k + 1) (Nat.lt_of_lt_of_le (ov.sz i hi).2 (two_pow_le (by omega))) (by rw [e, Int.natAbs_natCast]; exact Nat.lt_of_lt_of_le hq (two_pow_le (by omega))) (by omega) (by omega) (by omega), hQ _ _ (Same.refl _) ?_⟩
      rw [e]
      exact .int _
    · intro H2 s2 _ d2
      refine ⟨by show 2 ≤ sizeLine; decide, fun p hp => ?_⟩
      have sp : Same H2 (upd H2 p (.tup [.int (lcF f n : Nat), .ref D])) := Same.new hp
      have pS := ((hS.same s1).same s2).new hp
      refine kq _ _ ((s1.trans s2).trans sp) (.tup (SqT.of (by rw [hid_out pS, upd_same])) (.cons (.int _) (.cons (d2.hs sp) .nil)))
end
end K31
namespace K31
open PySem PySem.Spec PyProof.Rows L2
section
variable {P : Program} {w : World} {K : PySem.W.Frag} {mg : Str → Option Value} {base : Heap}
def rLNum (ds : List PyData) (r : PyData) : Prop := ∃ i : Int, ds = [.int i] ∧ r = .bool true
abbrev N__law_is_number : List Str := ["_law_thing"]
theorem sc__law_is_number : FnScope N__law_is_number ["_law_thing"] (defScope s__law_is_number) := ⟨rfl, rfl, rfl, by decide +kernel, rfl, by decide +kernel, by decide +kernel⟩
theorem c__law_is_number (T : Txt K mg) : Cal P w K mg base 1 "_law_is_number" ["_law_thing"] (puSp K rLNum) := by
  refine cal_pu T.F_s__law_is_number T.g__law_is_number sc__law_is_number (fun _ _ _ _ _ _ us hl => match us, hl with | [_], _ => rfl) (fun ds r ⟨a, e, _⟩ => by rw [e]; rfl) fun cdv A outer s H vs Q E hr S ds r hS hd hR kq => ?_
  obtain ⟨a, rfl, rfl⟩ := hR
  obtain ⟨v, rfl, h1⟩ := dp1 hd
  cases dp_int h1
  refine ⟨_, (pss_one (ps_ret (pe_and (pe_callB (isiK K) (by rfl) T.f_isinstance (by decide +kernel) (pa_cons (pv 0) (pa_cons (pe_bltn (v := .ty "int") (by rfl) T.f_int (by decide +kernel) rfl) pa_nil))) (pe_one (pe_not (pe_callB (isiK K) (by rfl) T.f_isinstance (by decide +kernel) (pa_cons (pv 0) (pa_cons (pe_bltn (v := .ty "bool") (by rfl) T.f_bool (by decide +kernel) rfl) pa_nil)))))))), ?_⟩
  refine ⟨_, rfl, _, _, _, _, _, rfl, .ty "int", .base (.int a), kit_int_int, true, rfl, iteT ?_⟩
  refine ⟨_, rfl, _, _, _, _, _, rfl, .ty "bool", .base (.int a), kit_int_bool, false, rfl, ?_⟩
  exact kq _ _ (Same.refl _) (.bl true)
def rLFrac (ds : List PyData) (r : PyData) : Prop := ∃ q : Rat, ds = [fr q] ∧ r = .bool true
abbrev N__law_is_fraction : List Str := ["_law_thing", "_law_part"]
theorem sc__law_is_fraction : FnScope N__law_is_fraction ["_law_thing"] (defScope s__law_is_fraction) := ⟨rfl, rfl, rfl, by decide +kernel, rfl, by decide +kernel, by decide +kernel⟩
theorem c__law_is_fraction (T : Txt K mg) : Cal P w K mg base 2 "_law_is_fraction" ["_law_thing"] (puSp K rLFrac) := by
  refine cal_pu T.F_s__law_is_fraction T.g__law_is_fraction sc__law_is_fraction (fun _ _ _ _ _ _ us hl => match us, hl with | [_], _ => rfl) (fun ds r ⟨a, e, _⟩ => by rw [e]; rfl) fun cdv A outer s H vs Q E hr S ds r hS hd hR kq => ?_
  obtain ⟨q, rfl, rfl⟩ := hR
  obtain ⟨v, rfl, h1⟩ := dp1 hd
  have h1' := h1.up
  obtain ⟨a, rfl, h2⟩ := dp_fr h1'
  refine ⟨_, (pss_cons (ps_if (PW.pt (pw_or (pt_not (pt_val (pe_callB (isiK K) (by rfl) T.f_isinstance (by decide +kernel) (pa_cons (pv 0) (pa_cons (pe_bltn (v := .ty "tuple") (by rfl) T.f_tuple (by decide +kernel) rfl) pa_nil))))) (pw_or (pt_cmpR op_ne (pe_callB (lenK K) (by rfl) T.f_len (by decide +kernel) (pa_cons (pv 0) pa_nil)) pe_int (nomark _)) (pw_or1 (pt_not (pt_val (pe_callB (allK K rfl) (by rfl) T.f_all (by decide +kernel) (pa_cons (pe_lc (own := [("_law_part", 1)]) rfl sc__law_is_fraction.nd (pi_tupK K (pv 0)) (blkOk_by (own := [("_law_part", 1)]) (by kernel_rfl)) (fun _ _ _ _ _ => (pgn 1 sc__law_is_fraction.nd)) (fun _ _ _ _ _ => pts_nil) (fun _ _ _ _ _ => (pe_cal (c__law_is_number T) (hr.mono (by decide)) (pa_cons (pv 1) pa_nil)))) pa_nil))))))))
  (pss_one (ps_ret pe_bl))
  pss_nil)
 (pss_one (ps_ret (pe_and (pe_cmpR op_gt (pe_ix (ix_tupK K) (pv 0) pe_int (fun _ _ => rfl)) pe_int (nomark _)) (pe_one (pe_cmpR op_eq (pe_cal (c__law_divisor T) (hr.mono (by decide)) (pa_cons (pe_callB call_abs (by rfl) T.f_abs (by decide +kernel) (pa_cons (pe_ix (ix_tupK K) (pv 0) pe_int (fun _ _ => rfl)) pa_nil)) (pa_cons (pe_ix (ix_tupK K) (pv 0) pe_int (fun _ _ => rfl)) pa_nil))) pe_int (nomark _))))))), ?_⟩
  refine ⟨_, rfl, _, _, _, _, _, rfl, .ty "tuple", tyx_tup h1', kit_tup_tup, true, rfl, iteF ?_⟩
  refine ⟨_, rfl, _, _, rfl, .inr h2, rfl, false, rfl, iteF ?_⟩
  refine ⟨_, rfl, a, rfl, ⟨_, h2⟩, fun D hD => ?_⟩
  refine lc_data (K := K) (n := 2) (walk_tup (K := K) (a := a) (xs := [.int q.num, .int (q.den : Int)])) S (fun _ => .bool true) hD (by omega) hS (fun G s => sqT_same s h2) ?_ ?_
  · rintro i y H2 H3 hi s2 th ⟨rfl, hy⟩
    refine ⟨Same.refl _, fun Q' hQ => ⟨rfl, ?_⟩⟩
    obtain ⟨z, rfl⟩ : ∃ z : Int, y = .int z := by
      match i, hi with
      | 0, _ => cases hy; exact ⟨_, rfl⟩
      | 1, _ => cases hy; exact ⟨_, rfl⟩
    refine ⟨_, rfl, [], _, _, .nil, .cons (.int _) .nil, ⟨_, rfl, rfl⟩, fun H4 v4 s4 d4 => ?_⟩
    cases dp_bl d4
    exact hQ _ _ s4 (.bl true)
  intro H2 s2 ⟨acc, ha, hdp⟩ _
  have hdp' : DpAll K (hid (D :: S) H2) acc ([true, true].map PyData.bool) := hdp
  rw [hdp'.bls] at ha
  refine ⟨D, _, rfl, SqL.of ha, true, rfl, iteF ?_⟩
  refine ⟨_, rfl, _, _, _, _, rfl, rfl, sqT_same s2 h2, rfl, _, _, rfl, rfl, _, rfl, ?_⟩
  rw [decide_eq_true (show (q.den : Int) > (0 : Int) from Int.natCast_pos.mpr q.den_pos)]
  refine iteT ?_
  refine ⟨_, rfl, _, _, _, _, rfl, rfl, sqT_same s2 h2, rfl, _, rfl, _, rfl, _, _, _, _, rfl, rfl, sqT_same s2 h2, rfl, [], [.int (q.num.natAbs : Nat), .int (q.den : Nat)], _, .nil, ?_, ⟨_, _, rfl, rfl⟩, fun H4 v4 s4 e4 => ?_⟩
  · refine .cons ?_ (.cons (.int _) .nil)
    rw [abs_if]; exact .int _
  cases dp_int e4
  refine ⟨rfl, ?_⟩
  have g1 : Nat.gcd q.num.natAbs q.den = 1 := q.reduced
  rw [g1]
  exact kq _ _ (s2.trans s4) (.bl true)
def rLFracs (ds : List PyData) (r : PyData) : Prop := ∃ (n : Nat) (f : Nat → Rat), ds = [lfn n f, .int n] ∧ n ≤ 8 ∧ r = .bool true
abbrev N__law_are_fractions : List Str := ["_law_thing", "_law_many", "_law_one_here"]
theorem sc__law_are_fractions : FnScope N__law_are_fractions ["_law_thing", "_law_many"] (defScope s__law_are_fractions) := ⟨rfl, rfl, rfl, by decide +kernel, rfl, by decide +kernel, by decide +kernel⟩
theorem c__law_are_fractions (T : Txt K mg) : Cal P w K mg base 3 "_law_are_fractions" ["_law_thing", "_law_many"] (puSp K rLFracs) := by
  refine cal_pu T.F_s__law_are_fractions T.g__law_are_fractions sc__law_are_fractions (fun _ _ _ _ _ _ us hl => match us, hl with | [_, _], _ => rfl) (fun ds r ⟨_, _, e, _⟩ => by rw [e]; rfl) fun cdv A outer s H vs Q E hr S ds r hS hd hR kq => ?_
  obtain ⟨n, f, rfl, hn, rfl⟩ := hR
  obtain ⟨v, v2, rfl, h1, h2⟩ := dp2 hd
  cases dp_int h2
  have h1' := h1.up
  obtain ⟨l, xs, rfl, hl, hx⟩ := dpl h1
  have hln := lfn_len hx
  refine ⟨_, (pss_one (ps_ret (pe_and (pe_callB (isiK K) (by rfl) T.f_isinstance (by decide +kernel) (pa_cons (pv 0) (pa_cons (pe_bltn (v := .ty "list") (by rfl) T.f_list (by decide +kernel) rfl) pa_nil))) (pe_and (pe_cmpR op_eq (pe_callB (lenK K) (by rfl) T.f_len (by decide +kernel) (pa_cons (pv 0) pa_nil)) (pv 1) (nomark _)) (pe_one (pe_callB (allK K rfl) (by rfl) T.f_all (by decide +kernel) (pa_cons (pe_lc (own := [("_law_one_here", 2)]) rfl sc__law_are_fractions.nd (pi_listK K (pv 0)) (blkOk_by (own := [("_law_one_here", 2)]) (by kernel_rfl)) (fun _ _ _ _ _ => (pgn 2 sc__law_are_fractions.nd)) (fun _ _ _ _ _ => pts_nil) (fun _ _ _ _ _ => (pe_cal (c__law_is_fraction T) (hr.mono (by decide)) (pa_cons (pv 2) pa_nil)))) pa_nil))))))), ?_⟩
  refine ⟨_, rfl, _, _, _, _, _, rfl, .ty "list", tyx_list h1', kit_list_list, true, rfl, iteT ?_⟩
  refine ⟨_, rfl, _, _, rfl, .inl (hid_le.seq hl), _, rfl, rfl, true, bT (by rw [hln]), iteT ?_⟩
  refine ⟨_, rfl, l, rfl, ⟨_, hid_le.seq hl⟩, fun D hD => ?_⟩
  refine lc_data (K := K) (walk_list (xs := xs)) S (fun _ => .bool true) hD (by omega) hS (fun H2 s2 => (hid_le.trans s2).seq hl) ?_ ?_
  · rintro i y H2 H3 hi s2 th ⟨rfl, hy⟩
    refine ⟨Same.refl _, fun Q' hQ => ⟨rfl, ?_⟩⟩
    rw [hln] at hi
    obtain ⟨y', hy', dy⟩ := ent_at hx hi
    rw [hy] at hy'
    cases hy'
    refine ⟨_, rfl, [], _, _, .nil, .cons (by rw [hid_nil]; exact (dy.hs s2).up) .nil, ⟨_, rfl, rfl⟩, fun H4 v4 s4 d4 => ?_⟩
    cases dp_bl d4
    exact hQ _ _ s4 (.bl true)
  · intro H2 s2 ⟨acc, ha, hdp⟩ _
    have hdp' : DpAll K (hid (D :: S) H2) acc (((List.range xs.length).map fun _ => true).map PyData.bool) := by rw [List.map_map]; exact hdp
    rw [hdp'.bls] at ha
    refine ⟨D, _, rfl, SqL.of ha, ?_⟩
    rw [show ((List.range xs.length).map fun _ => true).all id = true by rw [List.all_map]; exact List.all_eq_true.mpr fun _ _ => rfl]
    exact kq _ _ s2 (.bl true)
def rLPos (ds : List PyData) (r : PyData) : Prop := ∃ (n : Nat) (f : Nat → Rat), ds = [lfn n f, .int n] ∧ n ≤ 8 ∧ (∀ j, j < n → 0 ≤ f j) ∧ r = .bool true
abbrev N__law_positive : List Str := ["_law_thing", "_law_many", "_law_one_here"]
theorem sc__law_positive : FnScope N__law_positive ["_law_thing", "_law_many"] (defScope s__law_positive) := ⟨rfl, rfl, rfl, by decide +kernel, rfl, by decide +kernel, by decide +kernel⟩
theorem c__law_positive (T : Txt K mg) : Cal P w K mg base 4 "_law_positive" ["_law_thing", "_law_many"] (puSp K rLPos) := by
  refine cal_pu T.F_s__law_positive T.g__law_positive sc__law_positive (fun _ _ _ _ _ _ us hl => match us, hl with | [_, _], _ => rfl) (fun ds r ⟨_, _, e, _⟩ => by rw [e]; rfl) fun cdv A outer s H vs Q E hr S ds r hS hd hR kq => ?_
  obtain ⟨n, f, rfl, hn, hf, rfl⟩ := hR
  obtain ⟨v, v2, rfl, h1, h2⟩ := dp2 hd
  cases dp_int h2
  obtain ⟨l, xs, rfl, hl, hx⟩ := dpl h1
  have hln := lfn_len hx
  refine ⟨_, (pss_one (ps_ret (pe_and (pe_cal (c__law_are_fractions T) (hr.mono (by decide)) (pa_cons (pv 0) (pa_cons (pv 1) pa_nil))) (pe_one (pe_callB (allK K rfl) (by rfl) T.f_all (by decide +kernel) (pa_cons (pe_lc (own := [("_law_one_here", 2)]) rfl sc__law_positive.nd (pi_listK K (pv 0)) (blkOk_by (own := [("_law_one_here", 2)]) (by kernel_rfl)) (fun _ _ _ _ _ => (pgn 2 sc__law_positive.nd)) (fun _ _ _ _ _ => pts_nil) (fun _ _ _ _ _ => (pe_cmpR op_ge (pe_ix (ix_tupK K) (pv 2) pe_int (fun _ _ => rfl)) pe_int (nomark _)))) pa_nil)))))), ?_⟩
  refine ⟨_, rfl, _, rfl, S, _, _, hS, .cons h1 (.cons (.int _) .nil), ⟨n, f, rfl, hn, rfl⟩, fun H1 w1 s1 d1 => ?_⟩
  cases dp_bl d1
  refine ⟨_, rfl, iteT ?_⟩
  refine ⟨_, rfl, l, rfl, ⟨_, (hid_le.trans s1).seq hl⟩, fun D hD => ?_⟩
  refine lc_data (K := K) (walk_list (xs := xs)) S (fun _ => .bool true) hD (by omega) (hS.same s1) (fun H2 s2 => ((hid_le.trans s1).trans s2).seq hl) ?_ ?_
  · rintro i y H2 H3 hi s2 th ⟨rfl, hy⟩
    refine ⟨Same.refl _, fun Q' hQ => ⟨rfl, ?_⟩⟩
    rw [hln] at hi
    obtain ⟨y', hy', dy⟩ := ent_at hx hi
    rw [hy] at hy'
    cases hy'
    obtain ⟨a, rfl, ha⟩ := dp_fr ((dy.hs s1).hs s2).up
    refine ⟨_, rfl, _, _, _, _, rfl, rfl, ha, rfl, _, _, rfl, rfl, hQ _ _ (Same.refl _) ?_⟩
    show Dp K _ (V.bl (decide ((f i).num ≥ (0 : Int)))) _
    rw [decide_eq_true (show (f i).num ≥ 0 from Rat.num_nonneg.mpr (hf i hi))]
    exact .bl true
  · intro H2 s2 ⟨acc, ha, hdp⟩ _
    have hdp' : DpAll K (hid (D :: S) H2) acc (((List.range xs.length).map fun _ => true).map PyData.bool) := by rw [List.map_map]; exact hdp
    rw [hdp'.bls] at ha
    refine ⟨D, _, rfl, SqL.of ha, ?_⟩
    rw [show ((List.range xs.length).map fun _ => true).all id = true by rw [List.all_map]; exact List.all_eq_true.mpr fun _ _ => rfl]
    exact kq _ _ (s1.trans s2) (.bl true)
end
end K31
namespace K31
open PySem PySem.Spec PyProof.Rows L2
theorem sum_range {g : Nat → Int} : ∀ n, ((List.range n).map g).sum = smI n g
  | 0 => rfl
  | n + 1 => by
    rw [List.range_succ, List.map_append, List.sum_append, sum_range n]
    show smI n g + (g n + 0) = smI n g + g n
    omega
def topsum (ns : List Int) (n : Nat) (f : Nat → Rat) : Int := smI n (fun j => gd ns j * topF f n j)
theorem topsum_eq {n : Nat} {ns : List Int} {f : Nat → Rat} : wsum n ns f * ((lcF f n : Nat) : Rat) = ((topsum ns n f : Int) : Rat) := smI_top (fun j => gd ns j) (Nat.le_refl _)
theorem mul_le_iff {a b c : Rat} (p : 0 < c) : a * c ≤ b * c ↔ a ≤ b := by
  refine ⟨fun h => ?_, fun h => Rat.mul_le_mul_of_nonneg_right h (Rat.le_of_lt p)⟩
  by_cases q : a ≤ b
  · exact q
  · have h2 := Rat.mul_lt_mul_of_pos_right (Rat.not_le.mp q) p
    exact absurd h (Rat.not_le.mpr h2)
theorem topsum_le {n : Nat} {ns : List Int} {f : Nat → Rat} {b : Int} : topsum ns n f ≤ b * ((lcF f n : Nat) : Int) ↔ wsum n ns f ≤ (b : Rat) := by
  have p : (0 : Rat) < ((lcF f n : Nat) : Rat) := Rat.natCast_pos.mpr (lcF_pos n)
  rw [← Rat.intCast_le_intCast, ← topsum_eq, Rat.intCast_mul, Rat.intCast_natCast]
  exact mul_le_iff p
theorem topsum_ge {n : Nat} {ns : List Int} {f : Nat → Rat} {b : Int} : b * ((lcF f n : Nat) : Int) ≤ topsum ns n f ↔ (b : Rat) ≤ wsum n ns f := by
  have p : (0 : Rat) < ((lcF f n : Nat) : Rat) := Rat.natCast_pos.mpr (lcF_pos n)
  rw [← Rat.intCast_le_intCast, ← topsum_eq, Rat.intCast_mul, Rat.intCast_natCast]
  exact mul_le_iff p
theorem topsum_div {n : Nat} {ns : List Int} {f : Nat → Rat} : Rat.divInt (topsum ns n f) ((lcF f n : Nat) : Int) = wsum n ns f := by
  have p : ((lcF f n : Nat) : Rat) ≠ 0 := fun z => by
    have h := lcF_pos (f := f) n
    have z' : ((lcF f n : Nat) : Rat) = ((0 : Nat) : Rat) := z
    have := Rat.natCast_inj.mp z'
    omega
  rw [Rat.divInt_eq_div, Rat.intCast_natCast, ← topsum_eq]
  exact Rat.mul_div_cancel p
section
variable {P : Program} {w : World} {K : PySem.W.Frag} {mg : Str → Option Value} {base : Heap}
def sumD (tb : List (List Int)) (n : Nat) (f : Nat → Rat) : PyData := .tuple [.int (lcF f n : Nat), .list ((List.range tb.length).map fun i => .int (topsum (tb.getD i []) n f))]
def rLSums (ds : List PyData) (r : PyData) : Prop := ∃ (tb : List (List Int)) (n k c : Nat) (f : Nat → Rat), ds = [lt tb, lfn n f] ∧ tb.length ≤ 8 ∧ OverD k n f ∧ n ≤ 8 ∧ (∀ (i : Nat) (row : List Int), tb[i]? = some row → SumOk k c n row f) ∧ k ≤ 8000 ∧ r = sumD tb n f
abbrev N__law_sums : List Str := ["_law_rows", "_law_xs", "_law_bottom", "_law_tops", "_law_a", "_law_b", "_law_row"]
theorem sc__law_sums : FnScope N__law_sums ["_law_rows", "_law_xs"] (defScope s__law_sums) := ⟨rfl, rfl, rfl, by decide +kernel, rfl, by decide +kernel, by decide +kernel⟩
theorem c__law_sums (T : Txt K mg) : Cal P w K mg base 3 "_law_sums" ["_law_rows", "_law_xs"] (puSp K rLSums) := by
  refine cal_pu T.F_s__law_sums T.g__law_sums sc__law_sums (fun _ _ _ _ _ _ us hl => match us, hl with | [_, _], _ => rfl) (fun ds r ⟨_, _, _, _, _, e, _⟩ => by rw [e]; rfl) fun cdv A outer s H vs Q E hr S ds r hS hd hR kq => ?_
  obtain ⟨tb, n, k, c, f, rfl, t8, ov, n8, hrow, hk, rfl⟩ := hR
  obtain ⟨v, v2, rfl, h1, h2⟩ := dp2 hd
  obtain ⟨l, xs, rfl, hl, hx⟩ := dpl h1
  have lxs := lt_len hx
  refine ⟨_, (pss_cons (ps_asg (pe_cal (c__law_common T) (hr.mono (by decide)) (pa_cons (pv 1) pa_nil)) (pg_tupK (n := 2) K rfl (pgs_cons (pgn 2 sc__law_sums.nd) (pgs_cons (pgn 3 sc__law_sums.nd) pgs_nil))))
 (pss_one (ps_ret (pe_tup (pa_cons (pv 2) (pa_cons (pe_lc (own := [("_law_row", 6)]) rfl sc__law_sums.nd (pi_listK K (pv 0)) (blkOk_by (own := [("_law_row", 6)]) (by kernel_rfl)) (fun _ _ _ _ _ => (pgn 6 sc__law_sums.nd)) (fun _ _ _ _ _ => pts_nil) (fun _ _ _ _ _ => (pe_callB (sumK K rfl) (by rfl) T.f_sum (by decide +kernel) (pa_cons (by exact (pe_lc (own := [("_law_a", 4), ("_law_b", 5)]) rfl sc__law_sums.nd (pi_zipK K T.f_zip (pa_cons (pv 6) (pa_cons (pv 3) pa_nil))) (blkOk_by (own := [("_law_a", 4), ("_law_b", 5)]) (by kernel_rfl)) (fun _ _ _ _ _ => (pg_tupK (n := 2) K rfl (pgs_cons (pgn 4 sc__law_sums.nd) (pgs_cons (pgn 5 sc__law_sums.nd) pgs_nil)))) (fun _ _ _ _ _ => pts_nil) (fun _ _ _ _ _ => (pe_op op_mulW (pv 4) (pv 5))))) pa_nil)))) pa_nil)))))), ?_⟩
  refine ⟨_, rfl, S, _, _, hS, .cons h2 .nil, ⟨n, k, f, rfl, ov, n8, hk, rfl⟩, fun H1 w1 s1 d1 => ?_⟩
  obtain ⟨p1, ws, rfl, hp1, hw⟩ := dpt d1
  obtain ⟨u1, u2, rfl, g1, g2⟩ := dp2 hw
  cases dp_int g1
  obtain ⟨lt2, ts, rfl, hlt, hts⟩ := dpl g2
  have ets : ts = ((List.range n).map fun j => topF f n j).map V.int := by
    have : DpAll K (hid S H1) ts (((List.range n).map fun j => topF f n j).map PyData.int) := by rw [List.map_map]; exact hts
    exact this.ints
  subst ets
  refine ⟨p1, _, rfl, sqT_same hid_le hp1, rfl, _, _, rfl, _, _, rfl, rfl, ?_⟩
  have hlt1 : SqL K H1 lt2 (((List.range n).map fun j => topF f n j).map V.int) := hid_le.seq hlt
  refine ⟨_, rfl, _, rfl, l, rfl, ⟨xs, (hid_le.trans s1).seq hl⟩, fun D hD => ?_⟩
  refine lc_data (K := K) (walk_list (xs := xs)) S (fun i => .int (topsum (tb.getD i []) n f)) hD (by omega) (hS.same s1) (fun G s => ((hid_le.trans s1).trans s).seq hl) ?_ ?_
  · rintro i y H2 H3 hi s2 th ⟨rfl, hy⟩
    refine ⟨Same.refl _, fun Q' hQ => ⟨rfl, ?_⟩⟩
    obtain ⟨row, er⟩ : ∃ row, tb[i]? = some row := ⟨_, List.getElem?_eq_getElem (by omega)⟩
    have egd : tb.getD i [] = row := by rw [List.getD_eq_getElem?_getD, er]; rfl
    obtain ⟨y', hy', dy⟩ := hx.at (lt_at er)
    rw [hy] at hy'
    cases hy'
    obtain ⟨ar, rfl, har⟩ := dp_li dy
    have okr := hrow i row er
    refine ⟨_, rfl, _, rfl, ar, lt2, _, _, rfl, ((hid_le.trans s1).trans s2).seq har, s2.seq hlt1, fun D2 hD2 => ?_⟩
    refine lc_data (K := K) (walk_zip (n := n) (xs := row.map V.int) (ys := ((List.range n).map fun j => topF f n j).map V.int) (by rw [List.length_map, List.length_map, List.length_map, List.length_range, okr.len, Nat.min_self])) (D :: S) (fun j => .int (gd row j * topF f n j)) hD2 (by omega) th (fun G s => ⟨((hid_le.trans s1).trans (s2.trans s)).seq har, (s2.trans s).seq hlt1⟩) ?_ ?_
    · rintro j y H4 H5 hj s4 th4 ⟨T2, x, z, rfl, hT2, rfl, ex, ez⟩
      have sT : Same H4 (upd H4 T2 (.tup [x, z])) := Same.new hT2
      refine ⟨sT, fun Q2 hQ2 => ?_⟩
      have ex : (row.map V.int)[j]? = some x := ex
      have ez : (((List.range n).map fun j => topF f n j).map V.int)[j]? = some z := ez
      rw [List.getElem?_map, gd_at (by rw [okr.len]; exact hj)] at ex
      cases ex
      rw [List.getElem?_map, range_at hj] at ez
      cases ez
      refine ⟨T2, _, rfl, SqT.of upd_same, rfl, _, _, rfl, _, _, rfl, rfl, rfl, ?_⟩
      refine ⟨_, rfl, _, rfl, _, _, rfl, rfl, wide_mul (a := c) (b := k + 1) (okr.ent j hj) (Nat.lt_of_lt_of_le (ov.top hj) (two_pow_le (by omega))) okr.c1 (by omega) (by have := okr.kc; omega), hQ2 _ _ (Same.refl _) (.int _)⟩
    · intro H4 s4 ⟨acc, ha, hdp⟩ _
      have hdp' : DpAll K (hid (D2 :: D :: S) H4) acc (((List.range n).map fun j => gd row j * topF f n j).map PyData.int) := by rw [List.map_map]; exact hdp
      rw [hdp'.ints] at ha
      refine ⟨D2, _, rfl, SqL.of ha, hQ _ _ s4 ?_⟩
      rw [sum_range, egd]
      exact .int _
  · intro H2 s2 _ d2
    rw [lxs] at d2
    refine ⟨by show 2 ≤ sizeLine; decide, fun p hp => ?_⟩
    have sp : Same H2 (upd H2 p (.tup [.int (lcF f n : Nat), .ref D])) := Same.new hp
    have pS := ((hS.same s1).same s2).new hp
    exact kq _ _ ((s1.trans s2).trans sp) (.tup (SqT.of (by rw [hid_out pS, upd_same])) (.cons (.int _) (.cons (d2.hs sp) .nil)))
/-- what the sums give, unpacked -/
theorem sum_parts {H : Hp} {S : List Addr} {v : V} {tb : List (List Int)} {n : Nat} {f : Nat → Rat} (d : Dp K (hid S H) v (sumD tb n f)) :
    ∃ p lt2, v = .ref p ∧ SqT K H p [.int (lcF f n : Nat), .ref lt2] ∧ SqL K H lt2 (((List.range tb.length).map fun i => topsum (tb.getD i []) n f).map V.int) := by
  obtain ⟨p1, ws, rfl, hp1, hw⟩ := dpt d
  obtain ⟨u1, u2, rfl, g1, g2⟩ := dp2 hw
  cases dp_int g1
  obtain ⟨lt2, ts, rfl, hlt, hts⟩ := dpl g2
  have : DpAll K (hid S H) ts (((List.range tb.length).map fun i => topsum (tb.getD i []) n f).map PyData.int) := by rw [List.map_map]; exact hts
  rw [this.ints] at hlt
  exact ⟨p1, lt2, rfl, sqT_same hid_le hp1, hid_le.seq hlt⟩
def rLKeeps (ds : List PyData) (r : PyData) : Prop := ∃ (tb : List (List Int)) (bs : List Int) (n k c : Nat) (f : Nat → Rat), ds = [lt tb, li bs, lfn n f] ∧ bs.length = tb.length ∧ tb.length ≤ 8 ∧ OverD k n f ∧ n ≤ 8 ∧ k ≤ 8000 ∧ c ≤ 8000 ∧ (∀ i row, tb[i]? = some row → SumOk k c n row f ∧ (gd bs i).natAbs < 2 ^ c ∧ wsum n row f ≤ (gd bs i : Rat)) ∧ r = .bool true
abbrev N__law_keeps : List Str := ["_law_table_here", "_law_bounds", "_law_xs", "_law_bottom", "_law_tops", "_law_top", "_law_bound"]
theorem sc__law_keeps : FnScope N__law_keeps ["_law_table_here", "_law_bounds", "_law_xs"] (defScope s__law_keeps) := ⟨rfl, rfl, rfl, by decide +kernel, rfl, by decide +kernel, by decide +kernel⟩
theorem c__law_keeps (T : Txt K mg) : Cal P w K mg base 4 "_law_keeps" ["_law_table_here", "_law_bounds", "_law_xs"] (puSp K rLKeeps) := by
  refine cal_pu T.F_s__law_keeps T.g__law_keeps sc__law_keeps (fun _ _ _ _ _ _ us hl => match us, hl with | [_, _, _], _ => rfl) (fun ds r ⟨_, _, _, _, _, _, e, _⟩ => by rw [e]; rfl) fun cdv A outer s H vs Q E hr S ds r hS hd hR kq => ?_
  obtain ⟨tb, bs, n, k, c, f, rfl, lb, t8, ov, n8, hk, hc, hrow, rfl⟩ := hR
  obtain ⟨v, v2, v3, rfl, h1, h2, h3⟩ := dp3 hd
  obtain ⟨lb2, rfl, hlb⟩ := dp_li h2.up
  refine ⟨_, (pss_cons (ps_asg (pe_cal (c__law_sums T) (hr.mono (by decide)) (pa_cons (pv 0) (pa_cons (pv 2) pa_nil))) (pg_tupK (n := 2) K rfl (pgs_cons (pgn 3 sc__law_keeps.nd) (pgs_cons (pgn 4 sc__law_keeps.nd) pgs_nil))))
 (pss_one (ps_ret (pe_callB (allK K rfl) (by rfl) T.f_all (by decide +kernel) (pa_cons (pe_lc (own := [("_law_top", 5), ("_law_bound", 6)]) rfl sc__law_keeps.nd (pi_zipK K T.f_zip (pa_cons (pv 4) (pa_cons (pv 1) pa_nil))) (blkOk_by (own := [("_law_top", 5), ("_law_bound", 6)]) (by kernel_rfl)) (fun _ _ _ _ _ => (pg_tupK (n := 2) K rfl (pgs_cons (pgn 5 sc__law_keeps.nd) (pgs_cons (pgn 6 sc__law_keeps.nd) pgs_nil)))) (fun _ _ _ _ _ => pts_nil) (fun _ _ _ _ _ => (pe_cmpR op_le (pv 5) (pe_op op_mulW (pv 6) (pv 3)) (nomark _)))) pa_nil))))), ?_⟩
  refine ⟨_, rfl, _, rfl, S, _, _, hS, .cons h1 (.cons h3 .nil), ⟨tb, n, k, c, f, rfl, t8, ov, n8, fun i row e => (hrow i row e).1, hk, rfl⟩, fun H1 w1 s1 d1 => ?_⟩
  obtain ⟨p1, lt2, rfl, hp1, hlt⟩ := sum_parts d1
  refine ⟨p1, _, rfl, hp1, rfl, _, _, rfl, _, _, rfl, rfl, ?_⟩
  refine ⟨_, rfl, _, rfl, lt2, lb2, _, _, rfl, hlt, s1.seq hlb, fun D hD => ?_⟩
  refine lc_data (K := K) (walk_zip (n := tb.length) (xs := ((List.range tb.length).map fun i => topsum (tb.getD i []) n f).map V.int) (ys := bs.map V.int) (by rw [List.length_map, List.length_map, List.length_map, List.length_range, lb, Nat.min_self])) S (fun _ => .bool true) hD (by omega) (hS.same s1) (fun G s => ⟨s.seq hlt, (s1.trans s).seq hlb⟩) ?_ ?_
  · rintro i y H2 H3 hi s2 th ⟨T2, x, z, rfl, hT2, rfl, ex, ez⟩
    have sT : Same H2 (upd H2 T2 (.tup [x, z])) := Same.new hT2
    refine ⟨sT, fun Q2 hQ2 => ?_⟩
    have ex : (((List.range tb.length).map fun i => topsum (tb.getD i []) n f).map V.int)[i]? = some x := ex
    have ez : (bs.map V.int)[i]? = some z := ez
    rw [List.getElem?_map, range_at hi] at ex
    cases ex
    rw [List.getElem?_map, gd_at (by omega)] at ez
    cases ez
    obtain ⟨row, er⟩ : ∃ row, tb[i]? = some row := ⟨_, List.getElem?_eq_getElem hi⟩
    have egd : tb.getD i [] = row := by rw [List.getD_eq_getElem?_getD, er]; rfl
    obtain ⟨okr, hbi, hle⟩ := hrow i row er
    refine ⟨T2, _, rfl, SqT.of upd_same, rfl, _, _, rfl, _, _, rfl, rfl, rfl, ?_⟩
    have hL := ov.lc n (Nat.le_refl _)
    refine ⟨_, rfl, _, rfl, _, rfl, _, _, rfl, rfl, wide_mul (a := c) (b := k + 1) hbi (by rw [Int.natAbs_natCast]; exact Nat.lt_of_lt_of_le hL (two_pow_le (by omega))) okr.c1 (by omega) (by omega), _, _, rfl, rfl, hQ2 _ _ (Same.refl _) ?_⟩
    show Dp K _ (V.bl (decide (topsum (tb.getD i []) n f ≤ gd bs i * ((lcF f n : Nat) : Int)))) _
    rw [egd, decide_eq_true (topsum_le.mpr hle)]
    exact .bl true
  · intro H2 s2 ⟨acc, ha, hdp⟩ _
    have hdp' : DpAll K (hid (D :: S) H2) acc (((List.range tb.length).map fun _ => true).map PyData.bool) := by rw [List.map_map]; exact hdp
    rw [hdp'.bls] at ha
    refine ⟨D, _, rfl, SqL.of ha, ?_⟩
    rw [show ((List.range tb.length).map fun _ => true).all id = true by rw [List.all_map]; exact List.all_eq_true.mpr fun _ _ => rfl]
    exact kq _ _ (s1.trans s2) (.bl true)
def rLWorth (ds : List PyData) (r : PyData) : Prop := ∃ (ns : List Int) (n k c : Nat) (f : Nat → Rat), ds = [li ns, lfn n f] ∧ SumOk k c n ns f ∧ k ≤ 8000 ∧ r = fr (wsum n ns f)
abbrev N__law_worth : List Str := ["_law_entries", "_law_xs", "_law_bottom", "_law_tops"]
theorem sc__law_worth : FnScope N__law_worth ["_law_entries", "_law_xs"] (defScope s__law_worth) := ⟨rfl, rfl, rfl, by decide +kernel, rfl, by decide +kernel, by decide +kernel⟩
theorem c__law_worth (T : Txt K mg) : Cal P w K mg base 4 "_law_worth" ["_law_entries", "_law_xs"] (puSp K rLWorth) := by
  refine cal_pu T.F_s__law_worth T.g__law_worth sc__law_worth (fun _ _ _ _ _ _ us hl => match us, hl with | [_, _], _ => rfl) (fun ds r ⟨_, _, _, _, _, e, _⟩ => by rw [e]; rfl) fun cdv A outer s H vs Q E hr S ds r hS hd hR kq => ?_
  obtain ⟨ns, n, k, c, f, rfl, ok, hk, rfl⟩ := hR
  obtain ⟨v, v2, rfl, h1, h2⟩ := dp2 hd
  obtain ⟨l, rfl, hl⟩ := dp_li h1
  refine ⟨_, (pss_cons (ps_asg (pe_cal (c__law_sums T) (hr.mono (by decide)) (pa_cons (pe_lst (pa_cons (pv 0) pa_nil)) (pa_cons (pv 1) pa_nil))) (pg_tupK (n := 2) K rfl (pgs_cons (pgn 2 sc__law_worth.nd) (pgs_cons (pgn 3 sc__law_worth.nd) pgs_nil))))
 (pss_one (ps_ret (pe_cal (c__law_lowest T) (hr.mono (by decide)) (pa_cons (pe_ix (ix_listK K) (pv 3) pe_int (fun _ _ => rfl)) (pa_cons (pv 2) pa_nil)))))), ?_⟩
  refine ⟨_, rfl, by show 1 ≤ sizeLine; decide, fun p hp => ?_⟩
  have sp : Same H (upd H p (.lst [.ref l])) := Same.new hp
  have pS := hS.new hp
  refine ⟨_, rfl, S, _, _, hS.same sp, .cons (.lst (SqL.of (by rw [hid_out pS, upd_same])) (.cons (li_dp ((same_hid sp).seq hl)) .nil)) (.cons (h2.hs sp) .nil), ⟨[ns], n, k, c, f, rfl, by show 1 ≤ 8; decide, ok.over, ok.n8, fun i row e => ?_, hk, rfl⟩, fun H1 w1 s1 d1 => ?_⟩
  · match i, e with
    | 0, e => cases e; exact ok
  obtain ⟨p1, lt2, rfl, hp1, hlt⟩ := sum_parts d1
  refine ⟨p1, _, rfl, hp1, rfl, _, _, rfl, _, _, rfl, rfl, ?_⟩
  refine ⟨_, rfl, _, _, _, _, rfl, rfl, hlt, atI_nat (j := 0) (v := .int (topsum ns n f)) rfl, _, rfl, ?_⟩
  have hL := ok.over.lc n (Nat.le_refl _)
  refine ⟨S, _, _, (hS.same sp).same s1, .cons (.int _) (.cons (.int _) .nil), ⟨topsum ns n f, ((lcF f n : Nat) : Int), rfl, by have := lcF_pos (f := f) n; omega, by rw [Int.natAbs_natCast]; exact Nat.lt_of_lt_of_le hL (two_pow_le (by omega)), rfl⟩, fun H2 v2 s2 d2 => ?_⟩
  rw [topsum_div] at d2
  exact kq _ _ (sp.trans (s1.trans s2)) d2
end
end K31
namespace K31
open PySem PySem.Spec PyProof.Rows L2
section
variable {P : Program} {w : World} {K : PySem.W.Frag} {mg : Str → Option Value} {base : Heap}
abbrev N__law_columns : List Str := ["_law_table_here", "_law_row", "_law_k"]
theorem sc__law_columns : FnScope N__law_columns ["_law_table_here"] (defScope s__law_columns) := ⟨rfl, rfl, rfl, by decide +kernel, rfl, by decide +kernel, by decide +kernel⟩
theorem c__law_columns (T : Txt K mg) : Cal P w K mg base 1 "_law_columns" ["_law_table_here"] (puSp K rColumns) := by
  refine cal_pu T.F_s__law_columns T.g__law_columns sc__law_columns (fun _ _ _ _ _ _ us hl => match us, hl with | [_], _ => rfl) (fun ds r ⟨_, _, _, e, _⟩ => by rw [e]; rfl) fun cdv A outer s H vs Q E hr S ds r hS hd hR kq => ?_
  obtain ⟨m, n, tb, rfl, ok, rfl⟩ := hR
  obtain ⟨v, rfl, h1⟩ := dp1 hd
  obtain ⟨l, xs, rfl, hl, hx⟩ := dpl h1
  have hln : xs.length = m := by have := hx.length; rw [List.length_map, ok.len] at this; exact this
  obtain ⟨r0, t0, l0, _⟩ := ok.at (show 0 < m from ok.m1)
  obtain ⟨x0, hx0, d0⟩ := hx.at (lt_at t0)
  obtain ⟨a0, rfl, hs0⟩ := dp_li d0
  refine ⟨_, (pss_one (ps_ret (pe_lc (own := [("_law_k", 2)]) rfl sc__law_columns.nd (pi_range1 rfl T.f_range (pa_cons (pe_callB (lenK K) (by rfl) T.f_len (by decide +kernel) (pa_cons (pe_ix (ix_listK K) (pv 0) pe_int (fun _ _ => rfl)) pa_nil)) pa_nil)) (blkOk_by (own := [("_law_k", 2)]) (by kernel_rfl)) (fun _ _ _ _ _ => (pgn 2 sc__law_columns.nd)) (fun _ _ _ _ _ => pts_nil) (fun _ _ _ _ _ => (by exact (pe_lc (own := [("_law_row", 1)]) rfl sc__law_columns.nd (pi_listK K (pv 0)) (blkOk_by (own := [("_law_row", 1)]) (by kernel_rfl)) (fun _ _ _ _ _ => (pgn 1 sc__law_columns.nd)) (fun _ _ _ _ _ => pts_nil) (fun _ _ _ _ _ => (pe_ix (ix_listK K) (pv 1) (pv 2) (fun _ _ => rfl))))))))), ?_⟩
  refine ⟨_, rfl, _, _, _, _, rfl, rfl, hid_le.seq hl, atI_nat (j := 0) hx0, _, _, rfl, .inl (hid_le.seq hs0), _, rfl, (by omega), (by rw [List.length_map, l0]; have := ok.n8; omega), fun D hD => ?_⟩
  rw [List.length_map, l0, Int.toNat_natCast]
  refine lc_data (K := K) walk_range S (fun j => li (tb.map fun r => gd r j)) hD (by have := ok.n8; omega) hS (fun _ _ => trivial) ?_ ?_
  · rintro j x H1 H2 hj s1 th ⟨rfl, rfl⟩
    refine ⟨Same.refl _, fun Q' hQ => ⟨rfl, ?_⟩⟩
    refine ⟨_, rfl, l, rfl, ⟨xs, (hid_le.trans s1).seq hl⟩, fun D2 hD2 => ?_⟩
    refine lc_data (K := K) (walk_list (xs := xs)) (D :: S) (fun i => .int (gd (tb.getD i []) j)) hD2 (by have := ok.m8; omega) th (fun H3 s3 => ((hid_le.trans s1).trans s3).seq hl) ?_ ?_
    · rintro i x H3 H4 hi s3 th3 ⟨rfl, hx3⟩
      refine ⟨Same.refl _, fun Q2 hQ2 => ⟨rfl, ?_⟩⟩
      rw [hln] at hi
      obtain ⟨r, tr, lr, er⟩ := ok.at hi
      obtain ⟨x', hx4, dx⟩ := hx.at (lt_at tr)
      rw [hx3] at hx4
      cases hx4
      obtain ⟨ar, rfl, hsr⟩ := dp_li dx
      have hg : (r.map V.int)[j]? = some (V.int (gd r j)) := by rw [List.getElem?_map, gd_at (by omega)]; rfl
      refine ⟨_, rfl, _, rfl, _, _, _, _, rfl, (show V.int (0 + (j : Int)) = V.int (j : Int) by rw [Int.zero_add]), ((hid_le.trans s1).trans s3).seq hsr, atI_nat hg, hQ2 _ _ (Same.refl _) ?_⟩
      rw [er j]
      exact .int _
    · intro H3 s3 _ d3
      refine hQ _ _ s3 ?_
      have e : (List.range xs.length).map (fun i => PyData.int (gd (tb.getD i []) j)) = (tb.map fun r => gd r j).map PyData.int := by
        refine List.ext_getElem? fun i => ?_
        by_cases hi : i < m
        · obtain ⟨r, tr, lr, er⟩ := ok.at hi
          rw [range_at (by omega), List.getElem?_map, List.getElem?_map, tr]
          show some (PyData.int (ent tb i j)) = some (PyData.int (gd r j))
          rw [er]
        · rw [List.getElem?_eq_none (by rw [List.length_map, List.length_range]; omega), List.getElem?_eq_none (by rw [List.length_map, List.length_map, ok.len]; omega)]
      rw [e] at d3
      exact d3
  · intro H' s1 _ d1
    refine kq _ _ s1 ?_
    have e : (List.range n).map (fun j => li (tb.map fun r => gd r j)) = (colsOf n tb).map li := by
      unfold colsOf
      rw [List.map_map]
      rfl
    rw [e] at d1
    exact d1
def rLPrices (ds : List PyData) (r : PyData) : Prop := ∃ (m n : Nat) (tb : List (List Int)) (ls : List Int) (k c : Nat) (f : Nat → Rat), ds = [lt tb, lfn m f, li ls] ∧ TabOk m n tb ∧ ls.length = n ∧ (∀ i, i < m → 0 ≤ f i) ∧ OverD k m f ∧ k ≤ 8000 ∧ c ≤ 8000 ∧
  (∀ (j : Nat) (col : List Int), (colsOf n tb)[j]? = some col → SumOk k c m col f ∧ (gd ls j).natAbs < 2 ^ c ∧ (gd ls j : Rat) ≤ wsum m col f) ∧ r = .bool true
abbrev N__law_prices : List Str := ["_law_table_here", "_law_thing", "_law_least", "_law_bottom", "_law_tops", "_law_top", "_law_due"]
theorem sc__law_prices : FnScope N__law_prices ["_law_table_here", "_law_thing", "_law_least"] (defScope s__law_prices) := ⟨rfl, rfl, rfl, by decide +kernel, rfl, by decide +kernel, by decide +kernel⟩
theorem c__law_prices (T : Txt K mg) : Cal P w K mg base 5 "_law_prices" ["_law_table_here", "_law_thing", "_law_least"] (puSp K rLPrices) := by
  refine cal_pu T.F_s__law_prices T.g__law_prices sc__law_prices (fun _ _ _ _ _ _ us hl => match us, hl with | [_, _, _], _ => rfl) (fun ds r ⟨_, _, _, _, _, _, _, e, _⟩ => by rw [e]; rfl) fun cdv A outer s H vs Q E hr S ds r hS hd hR kq => ?_
  obtain ⟨m, n, tb, ls, k, c, f, rfl, ok, hls, hf, ov, hk, hc, hcol, rfl⟩ := hR
  obtain ⟨v, v2, v3, rfl, h1, h2, h3⟩ := dp3 hd
  obtain ⟨l, xs, rfl, hl, hx⟩ := dpl h1
  have hln := lt_len hx
  have m8 := ok.m8
  have n8 := ok.n8
  obtain ⟨l4, rfl, h4⟩ := dp_li h3.up
  have hcn : (colsOf n tb).length = n := by unfold colsOf; rw [List.length_map, List.length_range]
  refine ⟨_, (pss_cons (ps_if (pt_not (pt_val (pe_cal (c__law_positive T) (hr.mono (by decide)) (pa_cons (pv 1) (pa_cons (pe_callB (lenK K) (by rfl) T.f_len (by decide +kernel) (pa_cons (pv 0) pa_nil)) pa_nil)))))
  (pss_one (ps_ret pe_bl))
  pss_nil)
 (pss_cons (ps_asg (pe_cal (c__law_sums T) (hr.mono (by decide)) (pa_cons (pe_cal (c__law_columns T) (hr.mono (by decide)) (pa_cons (pv 0) pa_nil)) (pa_cons (pv 1) pa_nil))) (pg_tupK (n := 2) K rfl (pgs_cons (pgn 3 sc__law_prices.nd) (pgs_cons (pgn 4 sc__law_prices.nd) pgs_nil))))
 (pss_one (ps_ret (pe_callB (allK K rfl) (by rfl) T.f_all (by decide +kernel) (pa_cons (pe_lc (own := [("_law_top", 5), ("_law_due", 6)]) rfl sc__law_prices.nd (pi_zipK K T.f_zip (pa_cons (pv 4) (pa_cons (pv 2) pa_nil))) (blkOk_by (own := [("_law_top", 5), ("_law_due", 6)]) (by kernel_rfl)) (fun _ _ _ _ _ => (pg_tupK (n := 2) K rfl (pgs_cons (pgn 5 sc__law_prices.nd) (pgs_cons (pgn 6 sc__law_prices.nd) pgs_nil)))) (fun _ _ _ _ _ => pts_nil) (fun _ _ _ _ _ => (pe_cmpR op_ge (pv 5) (pe_op op_mulW (pv 6) (pv 3)) (nomark _)))) pa_nil)))))), ?_⟩
  refine ⟨_, rfl, _, rfl, _, _, rfl, .inl (hid_le.seq hl), S, _, _, hS, .cons h2 (.cons (.int _) .nil), ⟨m, f, by rw [hln, ok.len], by omega, hf, rfl⟩, fun H2 w2 s2 d2 => ?_⟩
  cases dp_bl d2
  refine ⟨true, rfl, iteF ?_⟩
  refine ⟨_, rfl, S, _, _, hS.same s2, .cons (h1.hs s2) .nil, ⟨m, n, tb, rfl, ok, rfl⟩, fun H3 w3 s3 d3 => ?_⟩
  have t3 := s2.trans s3
  refine ⟨_, rfl, S, _, _, hS.same t3, .cons d3 (.cons (h2.hs t3) .nil), ⟨colsOf n tb, m, k, c, f, rfl, by omega, ov, m8, fun i row e => (hcol i row e).1, hk, rfl⟩, fun H4 w4 s4 d4 => ?_⟩
  obtain ⟨p1, lt2, rfl, hp1, hlt⟩ := sum_parts d4
  have t4 := t3.trans s4
  refine ⟨p1, _, rfl, hp1, rfl, _, _, rfl, _, _, rfl, rfl, ?_⟩
  refine ⟨_, rfl, _, rfl, lt2, l4, _, _, rfl, hlt, t4.seq h4, fun D hD => ?_⟩
  refine lc_data (K := K) (walk_zip (n := n) (xs := ((List.range (colsOf n tb).length).map fun i => topsum ((colsOf n tb).getD i []) m f).map V.int) (ys := ls.map V.int) (by rw [List.length_map, List.length_map, List.length_map, List.length_range, hcn, hls, Nat.min_self])) S (fun _ => .bool true) hD (by omega) (hS.same t4) (fun G s => ⟨s.seq hlt, (t4.trans s).seq h4⟩) ?_ ?_
  · rintro i y H5 H6 hi s5 th ⟨T2, x, z, rfl, hT2, rfl, ex, ez⟩
    have sT : Same H5 (upd H5 T2 (.tup [x, z])) := Same.new hT2
    refine ⟨sT, fun Q2 hQ2 => ?_⟩
    have ex : (((List.range (colsOf n tb).length).map fun i => topsum ((colsOf n tb).getD i []) m f).map V.int)[i]? = some x := ex
    have ez : (ls.map V.int)[i]? = some z := ez
    rw [List.getElem?_map, range_at (by omega)] at ex
    cases ex
    rw [List.getElem?_map, gd_at (by omega)] at ez
    cases ez
    obtain ⟨col, er⟩ : ∃ col, (colsOf n tb)[i]? = some col := ⟨_, List.getElem?_eq_getElem (by omega)⟩
    have egd : (colsOf n tb).getD i [] = col := by rw [List.getD_eq_getElem?_getD, er]; rfl
    obtain ⟨okr, hbi, hle⟩ := hcol i col er
    refine ⟨T2, _, rfl, SqT.of upd_same, rfl, _, _, rfl, _, _, rfl, rfl, rfl, ?_⟩
    have hL := ov.lc m (Nat.le_refl _)
    refine ⟨_, rfl, _, rfl, _, rfl, _, _, rfl, rfl, wide_mul (a := c) (b := k + 1) hbi (by rw [Int.natAbs_natCast]; exact Nat.lt_of_lt_of_le hL (two_pow_le (by omega))) okr.c1 (by omega) (by omega), _, _, rfl, rfl, hQ2 _ _ (Same.refl _) ?_⟩
    show Dp K _ (V.bl (decide (topsum ((colsOf n tb).getD i []) m f ≥ gd ls i * ((lcF f m : Nat) : Int)))) _
    rw [egd, decide_eq_true (topsum_ge.mpr hle)]
    exact .bl true
  · intro H5 s5 ⟨acc, ha, hdp⟩ _
    have hdp' : DpAll K (hid (D :: S) H5) acc (((List.range n).map fun _ => true).map PyData.bool) := by rw [List.map_map]; exact hdp
    rw [hdp'.bls] at ha
    refine ⟨D, _, rfl, SqL.of ha, ?_⟩
    rw [show ((List.range n).map fun _ => true).all id = true by rw [List.all_map]; exact List.all_eq_true.mpr fun _ _ => rfl]
    exact kq _ _ (t4.trans s5) (.bl true)
def rLBest (ds : List PyData) (r : PyData) : Prop := ∃ (k c m n : Nat) (tb : List (List Int)) (bs gs : List Int) (v : Rat) (x y : Nat → Rat), ds = [lt tb, li bs, li gs, .tuple [fr v, lfn n x, lfn m y]] ∧ BestOk k c m n tb bs gs v x y ∧ k ≤ 8000 ∧ c ≤ 8000 ∧ r = .bool true
abbrev N__law_best_right : List Str := ["_law_table_here", "_law_bounds", "_law_gains", "_law_got", "_law_worth_here", "_law_xs", "_law_asked"]
theorem sc__law_best_right : FnScope N__law_best_right ["_law_table_here", "_law_bounds", "_law_gains", "_law_got"] (defScope s__law_best_right) := ⟨rfl, rfl, rfl, by decide +kernel, rfl, by decide +kernel, by decide +kernel⟩
theorem c__law_best_right (T : Txt K mg) : Cal P w K mg base 6 "_law_best_right" ["_law_table_here", "_law_bounds", "_law_gains", "_law_got"] (puSp K rLBest) := by
  refine cal_pu T.F_s__law_best_right T.g__law_best_right sc__law_best_right (fun _ _ _ _ _ _ us hl => match us, hl with | [_, _, _, _], _ => rfl) (fun ds r ⟨_, _, _, _, _, _, _, _, _, _, e, _⟩ => by rw [e]; rfl) fun cdv A outer s H vs Q E hr S ds r hS hd hR kq => ?_
  obtain ⟨k, c, m, n, tb, bs, gs, v, x, y, rfl, B, hk, hc, rfl⟩ := hR
  obtain ⟨v1, v2, v3, v4, rfl, h1, h2, h3, h4⟩ := dp4 hd
  obtain ⟨l3, rfl, hl3⟩ := dp_li h3.up
  obtain ⟨pg, gs4, rfl, hpg, hg4⟩ := dpt h4
  obtain ⟨x1, x2, x3, rfl, g1, g2, g3⟩ := dp3 hg4
  have m8 := B.ok.m8
  have n8 := B.ok.n8
  refine ⟨_, (pss_cons (ps_asg (pv 3) (pg_tupK (n := 3) K rfl (pgs_cons (pgn 4 sc__law_best_right.nd) (pgs_cons (pgn 5 sc__law_best_right.nd) (pgs_cons (pgn 6 sc__law_best_right.nd) pgs_nil)))))
 (pss_cons (ps_if (PW.pt (pw_or (pt_not (pt_val (pe_cal (c__law_is_fraction T) (hr.mono (by decide)) (pa_cons (pv 4) pa_nil)))) (pw_or (pt_not (pt_val (pe_cal (c__law_positive T) (hr.mono (by decide)) (pa_cons (pv 5) (pa_cons (pe_callB (lenK K) (by rfl) T.f_len (by decide +kernel) (pa_cons (pv 2) pa_nil)) pa_nil))))) (pw_or1 (pt_not (pt_val (pe_cal (c__law_prices T) (hr.mono (by decide)) (pa_cons (pv 0) (pa_cons (pv 6) (pa_cons (pv 2) pa_nil))))))))))
  (pss_one (ps_ret pe_bl))
  pss_nil)
 (pss_one (ps_ret (pe_and (pe_cal (c__law_keeps T) (hr.mono (by decide)) (pa_cons (pv 0) (pa_cons (pv 1) (pa_cons (pv 5) pa_nil)))) (pe_and (pe_cmpR (op_eqD hr.units) (pe_cal (c__law_worth T) (hr.mono (by decide)) (pa_cons (pv 2) (pa_cons (pv 5) pa_nil))) (pv 4) (nomark _)) (pe_one (pe_cmpR (op_eqD hr.units) (pe_cal (c__law_worth T) (hr.mono (by decide)) (pa_cons (pv 1) (pa_cons (pv 6) pa_nil))) (pv 4) (nomark _))))))))), ?_⟩
  refine ⟨_, rfl, pg, _, rfl, sqT_same hid_le hpg, rfl, _, _, rfl, _, _, rfl, _, _, rfl, rfl, ?_⟩
  refine ⟨_, rfl, S, _, _, hS, .cons g1 .nil, ⟨v, rfl, rfl⟩, fun H2 w2 s2 d2 => ?_⟩
  cases dp_bl d2
  refine ⟨true, rfl, iteF ?_⟩
  refine ⟨_, rfl, _, rfl, _, _, rfl, .inl (s2.seq hl3), S, _, _, hS.same s2, .cons (g2.hs s2) (.cons (.int _) .nil), ⟨n, x, by rw [List.length_map, B.lg], by omega, B.xp, rfl⟩, fun H3 w3 s3 d3 => ?_⟩
  cases dp_bl d3
  have t3 := s2.trans s3
  refine ⟨true, rfl, iteF ?_⟩
  refine ⟨_, rfl, _, rfl, _, rfl, S, _, _, hS.same t3, .cons (h1.hs t3) (.cons (g3.hs t3) (.cons (h3.hs t3) .nil)), ⟨m, n, tb, gs, k, c, y, rfl, B.ok, B.lg, B.yp, B.sy.over, hk, hc, B.cols, rfl⟩, fun H4 w4 s4 d4 => ?_⟩
  cases dp_bl d4
  have t4 := t3.trans s4
  refine ⟨true, rfl, iteF ?_⟩
  refine ⟨_, rfl, _, rfl, _, rfl, S, _, _, hS.same t4, .cons (h1.hs t4) (.cons (h2.hs t4) (.cons (g2.hs t4) .nil)), ⟨tb, bs, n, k, c, x, rfl, by rw [B.lb, B.ok.len], by rw [B.ok.len]; omega, B.sx.over, n8, hk, hc, B.rows, rfl⟩, fun H5 w5 s5 d5 => ?_⟩
  cases dp_bl d5
  have t5 := t4.trans s5
  refine ⟨true, rfl, iteT ?_⟩
  refine ⟨_, rfl, _, rfl, S, _, _, hS.same t5, .cons (h3.hs t5) (.cons (g2.hs t5) .nil), ⟨gs, n, k, c, x, rfl, B.sx, hk, rfl⟩, fun H6 w6 s6 d6 => ?_⟩
  have t6 := t5.trans s6
  refine ⟨_, rfl, fr v, fr v, by have := d6.up; rw [B.vx] at this; exact this, (g1.hs t6).up, fr_shaped v, fr_shaped v, ?_⟩
  rw [fr_eqv]
  refine ⟨true, rfl, iteT ?_⟩
  refine ⟨_, rfl, _, rfl, S, _, _, hS.same t6, .cons (h2.hs t6) (.cons (g3.hs t6) .nil), ⟨bs, m, k, c, y, rfl, B.sy, hk, rfl⟩, fun H7 w7 s7 d7 => ?_⟩
  have t7 := t6.trans s7
  refine ⟨_, rfl, fr v, fr v, by have := d7.up; rw [B.vy] at this; exact this, (g1.hs t7).up, fr_shaped v, fr_shaped v, ?_⟩
  rw [fr_eqv]
  exact kq _ _ t7 (.bl true)
def rLRight (ds : List PyData) (r : PyData) : Prop := ∃ (k c m n : Nat) (tb : List (List Int)) (bs gs : List Int) (v : Rat) (x y : Nat → Rat), ds = [lt tb, li bs, li gs, bestD n m v x y] ∧ BestOk k c m n tb bs gs v x y ∧ k ≤ 8000 ∧ c ≤ 8000 ∧ r = .bool true
abbrev N__law_right : List Str := ["_law_table_here", "_law_bounds", "_law_gains", "_law_answer"]
theorem sc__law_right : FnScope N__law_right ["_law_table_here", "_law_bounds", "_law_gains", "_law_answer"] (defScope s__law_right) := ⟨rfl, rfl, rfl, by decide +kernel, rfl, by decide +kernel, by decide +kernel⟩
theorem c__law_right (T : Txt K mg) : Cal P w K mg base 7 "_law_right" ["_law_table_here", "_law_bounds", "_law_gains", "_law_answer"] (puSp K rLRight) := by
  refine cal_pu T.F_s__law_right T.g__law_right sc__law_right (fun _ _ _ _ _ _ us hl => match us, hl with | [_, _, _, _], _ => rfl) (fun ds r ⟨_, _, _, _, _, _, _, _, _, _, e, _⟩ => by rw [e]; rfl) fun cdv A outer s H vs Q E hr S ds r hS hd hR kq => ?_
  obtain ⟨k, c, m, n, tb, bs, gs, v, x, y, rfl, B, hk, hc, rfl⟩ := hR
  obtain ⟨v1, v2, v3, v4, rfl, h1, h2, h3, h4⟩ := dp4 hd
  refine ⟨_, (pss_cons (ps_if (PW.pt (pw_or (pt_not (pt_val (pe_callB (isiK K) (by rfl) T.f_isinstance (by decide +kernel) (pa_cons (pv 3) (pa_cons (pe_bltn (v := .ty "tuple") (by rfl) T.f_tuple (by decide +kernel) rfl) pa_nil))))) (pw_or1 (pt_cmpR (op_eqD hr.units) (pv 3) (pe_tup pa_nil) (nomark _)))))
  (pss_one (ps_ret pe_bl))
  pss_nil)
 (pss_cons (ps_if (PW.pt (pw_and (pt_cmpR op_eq (pe_ix (ix_tupK K) (pv 3) pe_int (fun _ _ => rfl)) pe_str (nomark _)) (pw_and1 (pt_cmpR op_eq (pe_callB (lenK K) (by rfl) T.f_len (by decide +kernel) (pa_cons (pv 3) pa_nil)) pe_int (nomark _)))))
  (pss_one (ps_ret (pe_cal (c__law_best_right T) (hr.mono (by decide)) (pa_cons (pv 0) (pa_cons (pv 1) (pa_cons (pv 2) (pa_cons (pe_slice sl_tupA (pv 3) (po_some pe_int) po_none) pa_nil)))))))
  pss_nil)
 pss_never)), ?_⟩
  refine ⟨_, rfl, _, _, _, _, _, rfl, .ty "tuple", tyx_tup h4.up, kit_tup_tup, true, rfl, iteF ?_⟩
  refine ⟨_, rfl, Nat.zero_le _, fun p hp => ?_⟩
  have s3 : Same H (upd H p (.tup [])) := Same.new hp
  refine ⟨bestD n m v x y, .tuple [], (h4.hs s3).up, .tup (SqT.of upd_same) .nil, (sh_best n m v x y).shaped (by decide), (sh_tup (k := 0) (ds := []) fun _ h => absurd h List.not_mem_nil).shaped (by decide), false, rfl, iteF ?_⟩
  obtain ⟨a, xs, rfl, ha, hx⟩ := dpt (h4.hs s3)
  obtain ⟨x1, x2, x3, x4, rfl, e1, e2, e3, e4⟩ := dp4 hx
  cases dp_str e1
  refine ⟨_, rfl, _, _, _, _, rfl, rfl, sqT_same hid_le ha, rfl, rfl, true, bT rfl, iteT ?_⟩
  refine ⟨_, rfl, _, _, rfl, .inr (sqT_same hid_le ha), rfl, true, bT rfl, iteT ?_⟩
  refine ⟨_, rfl, _, rfl, _, rfl, _, rfl, 1, rfl, a, _, rfl, sqT_same hid_le ha, fun q => absurd q.1 (by show ¬ HT.sIx 4 0 (some 1) = 0; decide), fun _ p2 hp2 => ?_⟩
  have s4 : Same (upd H p (.tup [])) (upd (upd H p (.tup [])) p2 (.tup (cutV [.str "best", x2, x3, x4] (some 1) none))) := Same.new hp2
  have t4 := s3.trans s4
  have p2S := (hS.same s3).new hp2
  refine ⟨S, _, _, hS.same t4, .cons (h1.hs t4) (.cons (h2.hs t4) (.cons (h3.hs t4) (.cons (.tup (xs := [x2, x3, x4]) (SqT.of ?_) (.cons (e2.hs s4) (.cons (e3.hs s4) (.cons (e4.hs s4) .nil)))) .nil))), ⟨k, c, m, n, tb, bs, gs, v, x, y, rfl, B, hk, hc, rfl⟩, fun H5 v5 s5 d5 => kq _ _ (t4.trans s5) d5⟩
  rw [hid_out p2S, upd_same]
  rfl
end
end K31
namespace K31
open PySem PySem.Spec PyProof.Rows L2
section
variable {P : Program} {w : World} {K : PySem.W.Frag} {mg : Str → Option Value} {base : Heap}
def spSpent (K : PySem.W.Frag) : Sp := fun vs H Q _ => ∃ (p l1 l2 l3 : Addr) (x1 x2 x3 : List V), vs = [.ref p] ∧ H p = some (.tup [.ref l1, .ref l2, .ref l3]) ∧ H l1 = some (.lst x1) ∧ H l2 = some (.lst x2) ∧ H l3 = some (.lst x3) ∧ x1.length ≤ 100 ∧ x2.length ≤ 100 ∧ x3.length ≤ 100 ∧
  ∀ H', Same (hid [l1, l2, l3] H) (hid [l1, l2, l3] H') → (∃ ys, H' l1 = some (.lst ys)) → Q .non H'
abbrev N__law_spent : List Str := ["_law_got", "_law_part"]
theorem sc__law_spent : FnScope N__law_spent ["_law_got"] (defScope s__law_spent) := ⟨rfl, rfl, rfl, by decide +kernel, rfl, by decide +kernel, by decide +kernel⟩
theorem c__law_spent (T : Txt K mg) : Cal P w K mg base 1 "_law_spent" ["_law_got"] (spSpent K) := by
  refine cal_mk T.F_s__law_spent T.g__law_spent sc__law_spent (fun _ _ _ _ _ _ us hl => match us, hl with | [_], _ => rfl) (fun vs H Q E ⟨_, _, _, _, _, _, _, h, _⟩ => by rw [h]; rfl) fun cdv A outer s H vs Q E hr ⟨p, l1, l2, l3, x1, x2, x3, h1, hp, e1, e2, e3, n1, n2, n3, kq⟩ => ?_
  subst h1
  refine ⟨_, (pss_one (ps_for PassesOwn.never rfl (pi_tupK K (pv 0)) (pgn 1 sc__law_spent.nd)
  (pss_one (ps_if (pt_val (pe_callB (isiK K) (by rfl) T.f_isinstance (by decide +kernel) (pa_cons (pv 1) (pa_cons (pe_bltn (v := .ty "list") (by rfl) T.f_list (by decide +kernel) rfl) pa_nil))))
  (pss_cons (ps_expr (pe_bm PySem.F.plainAttrs_list PySem.F.slot_list_append PySem.F.type_list_append mt_append (pv 1) (pa_cons pe_non pa_nil)))
 (pss_one (ps_expr (pe_bm0 PySem.F.plainAttrs_list PySem.F.slot_list_reverse PySem.F.type_list_reverse mt_reverse (pv 1)))))
  pss_nil)))), ?_⟩
  have pn : p ∉ [l1, l2, l3] := fun q => by
    simp only [List.mem_cons, List.not_mem_nil, or_false] at q
    rcases q with q | q | q
    · rw [q, e1] at hp; cases hp
    · rw [q, e2] at hp; cases hp
    · rw [q, e3] at hp; cases hp
  refine ⟨_, rfl, p, rfl, ⟨_, SqT.of hp⟩, ?_⟩
  refine for_it (n := 3) (walk_tup (K := K) (a := p) (xs := [.ref l1, .ref l2, .ref l3])) (fun i σ H' => Same (hid [l1, l2, l3] H) (hid [l1, l2, l3] H') ∧ (∃ o, σ = [some (.ref p), o]) ∧ ∀ l ∈ [l1, l2, l3], ∃ ys : List V, H' l = some (.lst ys) ∧ ys.length ≤ 100 + i)
    ⟨Same.refl _, ⟨_, rfl⟩, fun l hl => ?_⟩ (fun i σ G _ pv => SqT.of (same_at pv.1 pn hp)) ?_ ?_
  · simp only [List.mem_cons, List.not_mem_nil, or_false] at hl
    rcases hl with e | e | e
    · rw [e]; exact ⟨x1, e1, by omega⟩
    · rw [e]; exact ⟨x2, e2, by omega⟩
    · rw [e]; exact ⟨x3, e3, by omega⟩
  · rintro i x σ H1 H2 hi ⟨s1, ⟨o, rfl⟩, hl⟩ ⟨rfl, hx⟩
    obtain ⟨l, rfl, hl2⟩ : ∃ l, x = .ref l ∧ l ∈ [l1, l2, l3] := by
      match i, hi with
      | 0, _ => cases hx; exact ⟨_, rfl, by simp⟩
      | 1, _ => cases hx; exact ⟨_, rfl, by simp⟩
      | 2, _ => cases hx; exact ⟨_, rfl, by simp⟩
    obtain ⟨ys, hys, ly⟩ := hl l hl2
    refine ⟨_, rfl, _, _, _, _, _, rfl, .ty "list", .base (.lst hys), kit_list_list, true, rfl, iteT ?_⟩
    refine ⟨_, rfl, Or.inl ⟨rfl, _, SqL.of hys⟩, l, ys, _, rfl, rfl, hys, small1000 (by omega), ?_⟩
    refine ⟨_, rfl, Or.inl ⟨rfl, _, SqL.of upd_same⟩, l, _, rfl, rfl, upd_same, ?_⟩
    refine ⟨?_, ⟨_, rfl⟩, fun l' hl' => ?_⟩
    · rw [hid_upd_in hl2, hid_upd_in hl2]; exact s1
    · by_cases e : l' = l
      · subst e
        exact ⟨_, upd_same, by rw [List.length_reverse, List.length_append]; show ys.length + 1 ≤ _; omega⟩
      · obtain ⟨zs, hz, lz⟩ := hl l' hl'
        exact ⟨zs, by rw [upd_ne e, upd_ne e]; exact hz, by omega⟩
  · rintro σ H1 ⟨s1, ⟨o, rfl⟩, hl⟩
    obtain ⟨ys, hys, _⟩ := hl l1 (by simp)
    exact kq _ s1 ⟨ys, hys⟩
/-! ### the law's own priced task: data -/
def rLPriced (ds : List PyData) (r : PyData) : Prop := ∃ (m n : Nat) (tb : List (List Int)) (bs gs : List Int), ds = [lt tb, li bs, li gs] ∧ TabOk m n tb ∧ bs.length = m ∧ gs.length = n ∧ r = .tuple [lt (pricedT n tb), li (neg gs), li (neg bs)]
abbrev N__law_priced : List Str := ["_law_table_here", "_law_bounds", "_law_gains", "_law_other", "_law_entry", "_law_column", "_law_gain", "_law_bound"]
theorem sc__law_priced : FnScope N__law_priced ["_law_table_here", "_law_bounds", "_law_gains"] (defScope s__law_priced) := ⟨rfl, rfl, rfl, by decide +kernel, rfl, by decide +kernel, by decide +kernel⟩
theorem c__law_priced (T : Txt K mg) : Cal P w K mg base 2 "_law_priced" ["_law_table_here", "_law_bounds", "_law_gains"] (puSp K rLPriced) := by
  refine cal_pu T.F_s__law_priced T.g__law_priced sc__law_priced (fun _ _ _ _ _ _ us hl => match us, hl with | [_, _, _], _ => rfl) (fun ds r ⟨_, _, _, _, _, e, _⟩ => by rw [e]; rfl) fun cdv A outer s H vs Q E hr S ds r hS hd hR kq => ?_
  obtain ⟨m, n, tb, bs, gs, rfl, ok, hb, hg, rfl⟩ := hR
  obtain ⟨v1, v2, v3, rfl, h1, h2, h3⟩ := dp3 hd
  have m8 := ok.m8
  have n8 := ok.n8
  obtain ⟨lb, rfl, hlb⟩ := dp_li h2.up
  obtain ⟨lg, rfl, hlg⟩ := dp_li h3.up
  have hcn : (colsOf n tb).length = n := by unfold colsOf; rw [List.length_map, List.length_range]
  refine ⟨_, (pss_cons (ps_setLc (i := 3) (own := [("_law_column", 5)]) rfl sc__law_priced.nd rfl rfl (sw_true rfl rfl rfl (by decide +kernel)) (pi_listK K (pe_cal (c__law_columns T) (hr.mono (by decide)) (pa_cons (pv 0) pa_nil))) (blkOk_by (own := [("_law_column", 5)]) (by kernel_rfl)) (fun _ _ _ _ _ => (pgn 5 sc__law_priced.nd)) (fun _ _ _ _ _ => pts_nil) (fun _ _ _ _ _ => (by exact (pe_lc (own := [("_law_entry", 4)]) rfl sc__law_priced.nd (pi_listK K (pv 5)) (blkOk_by (own := [("_law_entry", 4)]) (by kernel_rfl)) (fun _ _ _ _ _ => (pgn 4 sc__law_priced.nd)) (fun _ _ _ _ _ => pts_nil) (fun _ _ _ _ _ => (pe_op op_sub pe_int (pv 4)))))))
 (pss_one (ps_ret (pe_tup (pa_cons (pv 3) (pa_cons (pe_lc (own := [("_law_gain", 6)]) rfl sc__law_priced.nd (pi_listK K (pv 2)) (blkOk_by (own := [("_law_gain", 6)]) (by kernel_rfl)) (fun _ _ _ _ _ => (pgn 6 sc__law_priced.nd)) (fun _ _ _ _ _ => pts_nil) (fun _ _ _ _ _ => (pe_op op_sub pe_int (pv 6)))) (pa_cons (pe_lc (own := [("_law_bound", 7)]) rfl sc__law_priced.nd (pi_listK K (pv 1)) (blkOk_by (own := [("_law_bound", 7)]) (by kernel_rfl)) (fun _ _ _ _ _ => (pgn 7 sc__law_priced.nd)) (fun _ _ _ _ _ => pts_nil) (fun _ _ _ _ _ => (pe_op op_sub pe_int (pv 7)))) pa_nil))))))), ?_⟩
  refine ⟨_, rfl, S, _, _, hS, .cons h1 .nil, ⟨m, n, tb, rfl, ok, rfl⟩, fun H3 w3 t3 d3 => ?_⟩
  obtain ⟨l3, ys, rfl, hl3, hy⟩ := dpl d3
  have hyn : ys.length = n := by rw [lt_len hy, hcn]
  refine ⟨l3, rfl, ⟨ys, hid_le.seq hl3⟩, fun D1 hD1 => ?_⟩
  refine lc_data (K := K) (walk_list (xs := ys)) S (fun j => li (neg ((colsOf n tb).getD j []))) hD1 (by omega) (hS.same t3) (fun H4 s4 => (hid_le.trans s4).seq hl3) ?_ ?_
  · rintro j x H4 H5 hj s4 th ⟨rfl, hx⟩
    refine ⟨Same.refl _, fun Q' hQ => ⟨rfl, ?_⟩⟩
    obtain ⟨col, hcol⟩ : ∃ col, (colsOf n tb)[j]? = some col := ⟨_, List.getElem?_eq_getElem (by omega)⟩
    have ecol : (colsOf n tb).getD j [] = col := by rw [List.getD_eq_getElem?_getD, hcol]; rfl
    obtain ⟨x', hx', dx⟩ := hy.at (lt_at hcol)
    rw [hx] at hx'
    cases hx'
    obtain ⟨lc, rfl, hlc⟩ := dp_li (dx.hs s4).up
    have lcol : col.length ≤ 8 := by
      have hm : col ∈ colsOf n tb := List.mem_of_getElem? hcol
      unfold colsOf at hm
      obtain ⟨j', _, rfl⟩ := List.mem_map.mp hm
      rw [List.length_map, ok.len]
      exact m8
    refine ⟨_, rfl, lc, rfl, ⟨_, hlc⟩, fun D hD => ?_⟩
    refine lc_data (K := K) (walk_list (xs := col.map V.int)) (D1 :: S) (fun i => .int (0 - gd col i)) hD (by rw [List.length_map]; omega) th (fun H6 s6 => s6.seq hlc) ?_ ?_
    · rintro i z H6 H7 hi s6 th6 ⟨rfl, hz⟩
      refine ⟨Same.refl _, fun Q2 hQ2 => ⟨rfl, ?_⟩⟩
      cases neg_at hz
      exact ⟨_, rfl, _, _, rfl, rfl, hQ2 _ _ (Same.refl _) (.int _)⟩
    · intro H6 s6 _ d6
      rw [neg_map] at d6
      refine hQ _ _ s6 ?_
      rw [ecol]
      exact d6
  · intro H4 s4 _ d4
    have ed : (List.range ys.length).map (fun j => li (neg ((colsOf n tb).getD j []))) = (pricedT n tb).map li := by
      refine List.ext_getElem? fun j => ?_
      unfold pricedT negT
      by_cases hj : j < n
      · obtain ⟨col, hcol⟩ : ∃ col, (colsOf n tb)[j]? = some col := ⟨_, List.getElem?_eq_getElem (by omega)⟩
        rw [range_at (by omega), List.getElem?_map, List.getElem?_map, hcol, List.getD_eq_getElem?_getD, hcol]
        rfl
      · rw [List.getElem?_eq_none (by rw [List.length_map, List.length_range]; omega), List.getElem?_eq_none (by rw [List.length_map, List.length_map]; omega)]
    rw [ed] at d4
    have t4 := t3.trans s4
    refine ⟨_, rfl, _, rfl, lg, rfl, ⟨_, t4.seq hlg⟩, fun D2 hD2 => ?_⟩
    refine lc_data (K := K) (walk_list (xs := gs.map V.int)) S (fun i => .int (0 - gd gs i)) hD2 (by rw [List.length_map]; omega) (hS.same t4) (fun H6 s6 => (t4.trans s6).seq hlg) ?_ ?_
    · rintro i z H6 H7 hi s6 th6 ⟨rfl, hz⟩
      refine ⟨Same.refl _, fun Q2 hQ2 => ⟨rfl, ?_⟩⟩
      cases neg_at hz
      exact ⟨_, rfl, _, _, rfl, rfl, hQ2 _ _ (Same.refl _) (.int _)⟩
    · intro H6 s6 _ d6
      rw [neg_map] at d6
      have t6 := t4.trans s6
      refine ⟨_, rfl, lb, rfl, ⟨_, t6.seq hlb⟩, fun D3 hD3 => ?_⟩
      refine lc_data (K := K) (walk_list (xs := bs.map V.int)) S (fun i => .int (0 - gd bs i)) hD3 (by rw [List.length_map]; omega) (hS.same t6) (fun H8 s8 => (t6.trans s8).seq hlb) ?_ ?_
      · rintro i z H8 H9 hi s8 th8 ⟨rfl, hz⟩
        refine ⟨Same.refl _, fun Q2 hQ2 => ⟨rfl, ?_⟩⟩
        cases neg_at hz
        exact ⟨_, rfl, _, _, rfl, rfl, hQ2 _ _ (Same.refl _) (.int _)⟩
      · intro H8 s8 _ d8
        rw [neg_map] at d8
        refine ⟨by show 3 ≤ sizeLine; decide, fun p hp => ?_⟩
        have s9 : Same H8 (upd H8 p (.tup [.ref D1, .ref D2, .ref D3])) := Same.new hp
        have pS := ((hS.same t6).same s8).new hp
        exact kq _ _ ((t6.trans s8).trans s9) (.tup (SqT.of (by rw [hid_out pS, upd_same])) (.cons (((d4.hs s6).hs s8).hs s9) (.cons ((d6.hs s8).hs s9) (.cons (d8.hs s9) .nil))))
end
end K31
namespace K31
open PySem PySem.Spec PyProof.Rows L2
/-! repr of lists and tuples of whole numbers -/
structure SW (k W : Nat) (d : PyData) : Prop where
  show_ : d.showable = true
  nod : d.hasDict = false
  short : d.leavesShort 128 = true
  wgt : d.weight ≤ W
  dep : d.depth ≤ k
theorem sw_int {i : Int} (h : i.natAbs < 2 ^ 100) : SW 0 101 (.int i) := by
  have hl : i.natAbs.log2 < 100 := by
    by_cases z : i.natAbs = 0
    · rw [z]; decide
    · exact (Nat.log2_lt z).mpr h
  refine ⟨decide_eq_true (show i.natAbs.log2 < 1920 by omega), rfl, ?_, ?_, by simp only [PyData.depth]; omega⟩
  · show decide ((Str.ofString (toString i)).length ≤ 128) = true
    refine decide_eq_true ?_
    have h1 := int_text_length_le (a := i) (k := 100) (by decide) hl
    have h2 : (Str.ofString (toString i)).length = (toString i).length := by
      exact PySem.ofString_length _
    omega
  · show (if (i == 0) = true then 0 else i.natAbs.log2 + 1) ≤ 101
    split <;> omega
theorem sw_all {k W : Nat} : ∀ {ds : List PyData}, (∀ d ∈ ds, SW k W d) → PyData.showableAll ds = true ∧ PyData.hasDictAll ds = false ∧ PyData.leavesShortAll 128 ds = true ∧ PyData.weightAll ds ≤ ds.length * (W + 1) ∧ PyData.depthAll ds ≤ k
  | [], _ => ⟨rfl, rfl, rfl, by show 0 ≤ _; omega, by show 0 ≤ k; omega⟩
  | d :: ds, h => by
    obtain ⟨h1, h2, h3, h4, h5⟩ := sw_all (ds := ds) fun e he => h e (List.mem_cons_of_mem _ he)
    have hd := h d (List.mem_cons_self ..)
    refine ⟨?_, ?_, ?_, ?_, ?_⟩
    · show (d.showable && PyData.showableAll ds) = true
      rw [hd.show_, h1]; rfl
    · show (d.hasDict || PyData.hasDictAll ds) = false
      rw [hd.nod, h2]; rfl
    · show (d.leavesShort 128 && PyData.leavesShortAll 128 ds) = true
      rw [hd.short, h3]; rfl
    · show d.weight + 1 + PyData.weightAll ds ≤ (ds.length + 1) * (W + 1)
      have := hd.wgt
      rw [Nat.add_mul, Nat.one_mul]
      omega
    · have := hd.dep
      simp only [PyData.depthAll]
      omega
theorem sw_list {k W n : Nat} {ds : List PyData} (h : ∀ d ∈ ds, SW k W d) (hn : ds.length ≤ n) : SW (k + 1) (n * (W + 1)) (.list ds) := by
  obtain ⟨h1, h2, h3, h4, h5⟩ := sw_all h
  exact ⟨h1, h2, h3, Nat.le_trans h4 (Nat.mul_le_mul_right _ hn), by simp only [PyData.depth]; omega⟩
theorem sw_tup {k W n : Nat} {ds : List PyData} (h : ∀ d ∈ ds, SW k W d) (hn : ds.length ≤ n) : SW (k + 1) (n * (W + 1)) (.tuple ds) := by
  obtain ⟨h1, h2, h3, h4, h5⟩ := sw_all h
  exact ⟨h1, h2, h3, Nat.le_trans h4 (Nat.mul_le_mul_right _ hn), by simp only [PyData.depth]; omega⟩
theorem SW.mono {k j W V : Nat} {d : PyData} (h : SW k W d) (kj : k ≤ j) (wv : W ≤ V) : SW j V d := ⟨h.show_, h.nod, h.short, Nat.le_trans h.wgt wv, Nat.le_trans h.dep kj⟩
theorem SW.len {k W : Nat} {d : PyData} (h : SW k W d) (hW : W ≤ 100000) : d.shown.length ≤ sizeLine := by
  have := PyData.shown_le 128 (by decide) d h.short
  have := h.wgt
  show _ ≤ 2 ^ 24
  omega
def rRepr (K : PySem.W.Frag) : List V → Hp → VK → Prop := fun xs H Q => ∃ (v : V) (ds : List PyData) (k W : Nat), xs = [v] ∧ Dp K H v (.tuple ds) ∧ SW k W (.tuple ds) ∧ k ≤ 10 ∧ W ≤ 100000 ∧ Q (.str (PyData.shown (.tuple ds))) H
section
variable {X : Cx}
theorem call_reprD (K : PySem.W.Frag) (hG : X.A.guards = some []) (hU : X.A.units + 64 < cLine) (h : X.K = K := by rfl) : CallR X (.builtin "repr") (rRepr K) := by
  subst h
  intro pins s σ H xs us Q I r hx
  obtain ⟨v, ds, k, W, rfl, hd, hw, hk, hW, q⟩ := hx
  obtain ⟨u, rfl, ru⟩ := vals1 r
  obtain ⟨as, rd⟩ := Dp.reads I _ v u hd ru
  obtain ⟨a, xs, rfl, _, _⟩ := dpt hd
  cases ru
  have := hw.dep
  exact repr_of_reads' rd hw.show_ (PyData.noDict_hsm hw.nod) hG (by omega) (fun _ _ e => e) (fun h' u tk hk => ⟨.str _, H, I.kept (h' := h') (t' := tk) hk, ⟨u, rfl⟩, q⟩) (hw.len hW)
end
end K31
namespace K31
open PySem PySem.Spec PyProof.Rows L2 LamX
/-! the priced task of a task -/
theorem pricedT_ok {m n : Nat} {tb : List (List Int)} (ok : TabOk m n tb) : TabOk n m (pricedT n tb) := by
  refine ⟨?_, ok.n1, ok.n8, ok.m1, ok.m8, fun r hr => ?_⟩
  · unfold pricedT negT colsOf; rw [List.length_map, List.length_map, List.length_range]
  · unfold pricedT negT colsOf at hr
    rw [List.map_map] at hr
    obtain ⟨j, _, rfl⟩ := List.mem_map.mp hr
    show ((tb.map fun r => gd r j).map fun e => 0 - e).length = m
    rw [List.length_map, List.length_map, ok.len]
theorem gd_neg {ns : List Int} {i : Nat} : gd (neg ns) i = - gd ns i := by
  show (neg ns).getD i 0 = - (ns.getD i 0)
  rw [List.getD_eq_getElem?_getD, List.getD_eq_getElem?_getD]
  unfold neg
  rw [List.getElem?_map]
  cases ns[i]? with
  | none => rfl
  | some z => show 0 - z = -z; omega
theorem pricedT_at {m n i j : Nat} {tb : List (List Int)} (ok : TabOk m n tb) (hi : i < m) (hj : j < n) : ent (pricedT n tb) j i = - ent tb i j := by
  have e : (pricedT n tb)[j]? = some (neg (tb.map fun r => gd r j)) := by
    unfold pricedT negT colsOf
    rw [List.getElem?_map, List.getElem?_map, List.getElem?_range hj]
    rfl
  show gd ((pricedT n tb).getD j []) i = _
  rw [List.getD_eq_getElem?_getD, e]
  show gd (neg (tb.map fun r => gd r j)) i = _
  rw [gd_neg]
  obtain ⟨r, tr, lr, er⟩ := ok.at hi
  show - ((tb.map fun r => gd r j).getD i 0) = _
  rw [List.getD_eq_getElem?_getD, List.getElem?_map, tr]
  show - gd r j = _
  rw [er]
theorem neg_len {ns : List Int} : (neg ns).length = ns.length := by unfold neg; rw [List.length_map]
theorem TaskOk.priced {m n : Nat} {tb : List (List Int)} {bs gs : List Int} (h : TaskOk m n tb bs gs) : TaskOk n m (pricedT n tb) (neg gs) (neg bs) where
  ok := pricedT_ok h.ok
  m6 := h.n6
  n6 := h.m6
  lb := by rw [neg_len]; exact h.lg
  lg := by rw [neg_len]; exact h.lb
  et := fun j i hj hi => by rw [pricedT_at h.ok hi hj, Int.natAbs_neg]; exact h.et i j hi hj
  eb := fun j hj => by rw [gd_neg, Int.natAbs_neg]; exact h.eg j hj
  eg := fun i hi => by rw [gd_neg, Int.natAbs_neg]; exact h.eb i hi
theorem TaskOk.turned {m n : Nat} {tb : List (List Int)} {bs gs : List Int} (h : TaskOk m n tb bs gs) : Turned m n (vA tb) (vA (pricedT n tb)) (vL bs) (vL gs) (vL (neg gs)) (vL (neg bs)) where
  hA := fun i j hi hj => by show ((ent (pricedT n tb) j i : Int) : Rat) = - ((ent tb i j : Int) : Rat); rw [pricedT_at h.ok hi hj, Rat.intCast_neg]
  hb := fun j hj => by show ((gd (neg gs) j : Int) : Rat) = - ((gd gs j : Int) : Rat); rw [gd_neg, Rat.intCast_neg]
  hc := fun i hi => by show ((gd (neg bs) i : Int) : Rat) = - ((gd bs i : Int) : Rat); rw [gd_neg, Rat.intCast_neg]
theorem neg_neg_list (ns : List Int) : neg (neg ns) = ns := by
  unfold neg
  rw [List.map_map]
  exact (List.map_congr_left fun z _ => by show 0 - (0 - z) = z; omega).trans (List.map_id _)
theorem list_of_gd {xs ys : List Int} (hl : xs.length = ys.length) (h : ∀ i, i < xs.length → gd xs i = gd ys i) : xs = ys := by
  refine List.ext_getElem? fun i => ?_
  by_cases hi : i < xs.length
  · rw [gd_at hi, gd_at (by omega), h i hi]
  · rw [List.getElem?_eq_none (by omega), List.getElem?_eq_none (by omega)]
theorem priced_twice {m n : Nat} {tb : List (List Int)} (ok : TabOk m n tb) : pricedT m (pricedT n tb) = tb := by
  have ok2 := pricedT_ok (pricedT_ok ok)
  refine List.ext_getElem? fun i => ?_
  by_cases hi : i < m
  · obtain ⟨r, tr, lr, er⟩ := ok.at hi
    obtain ⟨r2, tr2, lr2, er2⟩ := ok2.at hi
    rw [tr, tr2]
    congr 1
    refine list_of_gd (by omega) fun j hj => ?_
    rw [er2, er, pricedT_at (pricedT_ok ok) (by omega) hi, pricedT_at ok hi (by omega)]
    omega
  · rw [List.getElem?_eq_none (by rw [ok2.len]; omega), List.getElem?_eq_none (by rw [ok.len]; omega)]
theorem Turned.best {m n : Nat} {A A' : Nat → Nat → Rat} {b c b' c' : Nat → Rat} (h : Turned m n A A' b c b' c') {v : Rat} {x y : Nat → Rat} (p : IsBest m n A b c v x y) : IsBest n m A' b' c' (-v) y x := by
  refine ⟨⟨p.fy.pos, fun j hj => ?_⟩, ⟨p.fx.pos, fun i hi => ?_⟩, ?_, ?_⟩
  · have := p.fy.keeps j hj
    rw [h.hb j hj, sm_congr (g := fun i => - (A i j * y i)) fun i hi => by rw [h.hA i j hi hj]; grind, sm_neg]
    grind
  · have := p.fx.keeps i hi
    rw [h.hc i hi, sm_congr (g := fun j => - (A i j * x j)) fun j hj => by rw [h.hA i j hi hj]; grind, sm_neg]
    grind
  · rw [h.sumc, p.vy]
  · rw [h.sumb, p.vx]
end K31
namespace K31
open PySem PySem.Spec PyProof.Rows L2 LamX
section
variable {P : Program} {w : World} {K : PySem.W.Frag} {mg : Str → Option Value} {base : Heap}
def taskD (tb : List (List Int)) (bs gs : List Int) : PyData := .tuple [lt tb, li bs, li gs]
theorem sh_task (tb : List (List Int)) (bs gs : List Int) : SH 3 (taskD tb bs gs) := sh_tup fun d hd => by
  simp only [List.mem_cons, List.not_mem_nil, or_false] at hd
  rcases hd with e | e | e
  · rw [e]; exact sh_lt _
  · rw [e]; exact (sh_li _).mono (by decide)
  · rw [e]; exact (sh_li _).mono (by decide)
theorem task_eqv (tb : List (List Int)) (bs gs : List Int) : PyData.eqv (taskD tb bs gs) (taskD tb bs gs) = true := SeqAt.eqv_refl _ (sh_task tb bs gs).1
theorem sw_task {m n : Nat} {tb : List (List Int)} {bs gs : List Int} (h : TaskOk m n tb bs gs) : ∃ W, SW 3 W (taskD tb bs gs) ∧ W ≤ 100000 := by
  have big : ∀ z : Int, z.natAbs ≤ 10 ^ 30 → z.natAbs < 2 ^ 100 := fun z hz => Nat.lt_of_le_of_lt hz (by decide)
  have intsS : ∀ ns : List Int, ns.length ≤ 6 → (∀ z ∈ ns, z.natAbs < 2 ^ 100) → SW 1 (6 * 102) (li ns) := fun ns hl hz => sw_list (fun d hd => by
    obtain ⟨z, hz', rfl⟩ := List.mem_map.mp hd
    exact sw_int (hz z hz')) (by rw [List.length_map]; exact hl)
  have mem : ∀ {ns : List Int} {k : Nat}, ns.length = k → (∀ i, i < k → (gd ns i).natAbs ≤ 10 ^ 30) → ∀ z ∈ ns, z.natAbs < 2 ^ 100 := fun {ns k} hl hb z hz => by
    obtain ⟨i, hi, e⟩ := List.getElem_of_mem hz
    have := hb i (by omega)
    rw [show gd ns i = z by
      have := gd_at hi
      rw [List.getElem?_eq_getElem hi, e] at this
      exact (Option.some.inj this).symm] at this
    exact big z this
  have hb := intsS bs (by rw [h.lb]; exact h.m6) (mem h.lb h.eb)
  have hg := intsS gs (by rw [h.lg]; exact h.n6) (mem h.lg h.eg)
  have ht : SW 2 (6 * (6 * 102 + 1)) (lt tb) := sw_list (fun d hd => by
    obtain ⟨r, hr, rfl⟩ := List.mem_map.mp hd
    have lr := h.ok.row r hr
    obtain ⟨i, hi, e⟩ := List.getElem_of_mem hr
    refine intsS r (by rw [lr]; exact h.n6) (mem lr fun j hj => ?_)
    have := h.et i j (by rw [← h.ok.len]; exact hi) hj
    obtain ⟨r', tr, _, er⟩ := h.ok.at (i := i) (by rw [← h.ok.len]; exact hi)
    rw [List.getElem?_eq_getElem hi, e] at tr
    cases tr
    rw [er]
    exact this) (by rw [List.length_map, h.ok.len]; exact h.m6)
  refine ⟨3 * (6 * (6 * 102 + 1) + 1), sw_tup (n := 3) (W := 6 * (6 * 102 + 1)) (fun d hd => ?_) (Nat.le_refl _), by decide⟩
  simp only [List.mem_cons, List.not_mem_nil, or_false] at hd
  rcases hd with e | e | e
  · rw [e]; exact ht
  · rw [e]; exact hb.mono (by decide) (by decide)
  · rw [e]; exact hg.mono (by decide) (by decide)
theorem tSeq_key2 {t u R : TS} {D : Ends} {σ : L2.St} {H : Hp} (Pv : L2.St → Hp → Prop) (key : ∀ σ' H', Pv σ' H' → R D σ' H') (main : (∀ σ' H', Pv σ' H' → R D σ' H') → tSeq t (tSeq u R) D σ H) : tSeq t (tSeq u R) D σ H := main key
theorem tabs_lst {TT : List (Addr × Str)} {M : List Addr} {H H' : Hp} (t : Tabs TT H) (h : ∀ a ∈ M, ∃ xs, H a = some (.lst xs)) (s : Same (hid M H) (hid M H')) : Tabs TT H' := fun p hp => by
  have ne : ∀ {b : Addr} {o : HO}, H b = some o → (∀ xs, o ≠ .lst xs) → b ∉ M := fun {b o} hb hn q => by
    obtain ⟨xs, e⟩ := h b q
    rw [e] at hb
    exact hn _ (Option.some.inj hb).symm
  obtain ⟨ps, h1, h2, h3⟩ := t p hp
  refine ⟨ps, same_at s (ne h1 fun _ q => nomatch q) h1, h2, fun pos cv hc => ?_⟩
  obtain ⟨c, e1, e2⟩ := h3 pos cv hc
  exact ⟨c, e1, same_at s (ne e2 fun _ q => nomatch q) e2⟩
def wD (x y : Str) : PyData := .tuple [.str x, .str y]
def strW (x : Str) : Prop := (PyData.str x).canLay0 = true
instance (x : Str) : Decidable (strW x) := inferInstanceAs (Decidable (_ = true))
theorem sh_w {x y : Str} (hx : strW x) (hy : strW y) : SH 1 (wD x y) := sh_tup fun d hd => by
  rcases List.mem_cons.mp hd with e | hd
  · rw [e]; exact sh_str hx
  · rw [List.mem_singleton.mp hd]; exact sh_str hy
theorem cut5 (xs : List V) : (cutV xs (some 1) (some 5)).length ≤ 5 := by
  unfold cutV HT.sIx
  simp
  omega
theorem tabs_src {TT : List (Addr × Str)} {src : Addr} {z : Nat} {H H' : Hp} (t : Tabs TT H) (h : SrcAt src z H) (s : Same (hid [src] H) (hid [src] H')) : Tabs TT H' := fun p hp => by
  obtain ⟨_, _, _, e, _⟩ := h.ex
  have ne : ∀ {b : Addr} {o : HO}, H b = some o → (∀ xs, o ≠ .lst xs) → b ∉ [src] := fun {b o} hb hn q => by
    rw [List.mem_singleton.mp q, e] at hb
    exact hn _ (Option.some.inj hb).symm
  obtain ⟨ps, h1, h2, h3⟩ := t p hp
  refine ⟨ps, same_at s (ne h1 fun _ q => nomatch q) h1, h2, fun pos cv hc => ?_⟩
  obtain ⟨c, e1, e2⟩ := h3 pos cv hc
  exact ⟨c, e1, same_at s (ne e2 fun _ q => nomatch q) e2⟩
abbrev N_law : List Str := ["_law_script", "_law_cell", "_law_source", "_law_table_here", "_law_bounds", "_law_gains", "_law_handed", "_law_found", "_law_one_here", "_law_other", "_law_words", "_law_about"]
theorem sc_law : FnScope N_law ["_law_script"] (defScope s_law) := ⟨rfl, rfl, rfl, by decide +kernel, rfl, by decide +kernel, by decide +kernel⟩
theorem law_body (T : Txt K mg) (TB : Tbs K mg base) (cdv : Value) (A : Around) (outer : List Env) (s : Shared) (H : Hp) (a : Addr) (ns : List Int) (Q : VK) (E : XK) (hr : Room 12 (A.deeper (envOfC "law" (defScope s_law) s.heap.objs.size (He.ga K "law") cdv))) (hG : (A.deeper (envOfC "law" (defScope s_law) s.heap.objs.size (He.ga K "law") cdv)).guards = some [])
    (hl : SqL K H a (ns.map V.int)) (hT : Tabs (TT K) H) (kq : ∀ H', Q (.bl true) H') :
    ∃ t, PSs (cxOf CX0 P w K mg base N_law "law" (defScope s_law) (He.ga K "law") cdv A outer s H E).nox (defBody s_law) t ∧ t { nx := fun _ H' => Q .non H', rt := Q } (L2.start N_law [.ref a]) H := by
  have hU : (A.deeper (envOfC "law" (defScope s_law) s.heap.objs.size (He.ga K "law") cdv)).units + 65 < cLine := by have := hr.un; omega
  refine ⟨_, (pss_cons (ps_for PassesOwn.never rfl (pi_listK K (pe_op op_cat (pe_lst (pa_cons (pe_cal (c__law_cell_at T) (hr.mono (by decide)) (pa_cons (pv 0) (pa_cons pe_int pa_nil))) pa_nil)) (pe_slice sl_list (pv 0) (po_some pe_int) (po_some pe_int)))) (pgn 1 sc_law.nd)
  (pss_cons (sset 2 sc_law.nd (pe_cal (c__law_source_of T) (hr.mono (by decide)) (pa_cons (pv 1) pa_nil)))
 (pss_cons (sset 3 sc_law.nd (pe_cal (c__law_table T) (hr.mono (by decide)) (pa_cons (pv 2) (pa_cons pe_int pa_nil))))
 (pss_cons (ps_asg (pe_cal (c__law_task T) (hr.mono (by decide)) (pa_cons (pv 2) (pa_cons (pv 3) pa_nil))) (pg_tupK (n := 2) K rfl (pgs_cons (pgn 4 sc_law.nd) (pgs_cons (pgn 5 sc_law.nd) pgs_nil))))
 (pss_cons (sset 6 sc_law.nd (pe_callB (call_reprD K hG hr.units) (by rfl) T.f_repr (by decide +kernel) (pa_cons (pe_tup (pa_cons (pv 3) (pa_cons (pv 4) (pa_cons (pv 5) pa_nil)))) pa_nil)))
 (pss_cons (sset 7 sc_law.nd (pe_cal (c_priced T) (hr.mono (by decide)) (pa_cons (pv 3) (pa_cons (pv 4) (pa_cons (pv 5) pa_nil)))))
 (pss_cons (ps_if (PW.pt (pw_or (pt_not (pt_val (pe_callB (isiK K) (by rfl) T.f_isinstance (by decide +kernel) (pa_cons (pv 7) (pa_cons (pe_bltn (v := .ty "tuple") (by rfl) T.f_tuple (by decide +kernel) rfl) pa_nil))))) (pw_or1 (pt_cmpR (op_neD hr.units) (pv 7) (pe_cal (c__law_priced T) (hr.mono (by decide)) (pa_cons (pv 3) (pa_cons (pv 4) (pa_cons (pv 5) pa_nil)))) (nomark _)))))
  (pss_one (ps_ret pe_bl))
  pss_nil)
 (pss_cons (ps_if (pt_cmpR (op_neD hr.units) (pe_cal (c_priced T) (hr.mono (by decide)) (pa_cons (pe_ix (ix_tupK K) (pv 7) pe_int (fun _ _ => rfl)) (pa_cons (pe_ix (ix_tupK K) (pv 7) pe_int (fun _ _ => rfl)) (pa_cons (pe_ix (ix_tupK K) (pv 7) pe_int (fun _ _ => rfl)) pa_nil)))) (pe_tup (pa_cons (pv 3) (pa_cons (pv 4) (pa_cons (pv 5) pa_nil)))) (nomark _))
  (pss_one (ps_ret pe_bl))
  pss_nil)
 (pss_cons (sset 8 sc_law.nd (pe_cal (c_best T TB) (hr.mono (by decide)) (pa_cons (pv 3) (pa_cons (pv 4) (pa_cons (pv 5) pa_nil)))))
 (pss_cons (sset 9 sc_law.nd (pe_cal (c_best T TB) (hr.mono (by decide)) (pa_cons (pe_ix (ix_tupK K) (pv 7) pe_int (fun _ _ => rfl)) (pa_cons (pe_ix (ix_tupK K) (pv 7) pe_int (fun _ _ => rfl)) (pa_cons (pe_ix (ix_tupK K) (pv 7) pe_int (fun _ _ => rfl)) pa_nil)))))
 (pss_cons (sset 10 sc_law.nd (pe_tup (pa_cons (pe_ix (ix_tupK K) (pv 8) pe_int (fun _ _ => rfl)) (pa_cons (pe_ix (ix_tupK K) (pv 9) pe_int (fun _ _ => rfl)) pa_nil))))
 (pss_cons (ps_if (pt_cmpR (op_notInD hU) (pv 10) (pe_lst (pa_cons (pe_tup (pa_cons pe_str (pa_cons pe_str pa_nil))) (pa_cons (pe_tup (pa_cons pe_str (pa_cons pe_str pa_nil))) (pa_cons (pe_tup (pa_cons pe_str (pa_cons pe_str pa_nil))) (pa_cons (pe_tup (pa_cons pe_str (pa_cons pe_str pa_nil))) pa_nil))))) (by rfl))
  (pss_one (ps_ret pe_bl))
  pss_nil)
 (pss_cons (ps_if (pt_cmpR (op_eqD hr.units) (pv 10) (pe_tup (pa_cons pe_str (pa_cons pe_str pa_nil))) (nomark _))
  (pss_cons (sset 11 sc_law.nd (pe_tup (pa_cons pe_str (pa_cons (pe_tup (pa_cons (pe_op op_sub pe_int (pe_ix (ix_tupK K) (pe_ix (ix_tupK K) (pv 8) pe_int (fun _ _ => rfl)) pe_int (fun _ _ => rfl))) (pa_cons (pe_ix (ix_tupK K) (pe_ix (ix_tupK K) (pv 8) pe_int (fun _ _ => rfl)) pe_int (fun _ _ => rfl)) pa_nil))) (pa_cons (pe_ix (ix_tupK K) (pv 8) pe_int (fun _ _ => rfl)) (pa_cons (pe_ix (ix_tupK K) (pv 8) pe_int (fun _ _ => rfl)) pa_nil))))))
 (pss_cons (ps_if (PW.pt (pw_or (pt_cmpR (op_neD hr.units) (pe_ix (ix_tupK K) (pv 9) pe_int (fun _ _ => rfl)) (pe_ix (ix_tupK K) (pv 11) pe_int (fun _ _ => rfl)) (nomark _)) (pw_or1 (pt_cmpR op_notBl (pe_cal (c_is_answer T) (hr.mono (by decide)) (pa_cons (pe_ix (ix_tupK K) (pv 7) pe_int (fun _ _ => rfl)) (pa_cons (pe_ix (ix_tupK K) (pv 7) pe_int (fun _ _ => rfl)) (pa_cons (pe_ix (ix_tupK K) (pv 7) pe_int (fun _ _ => rfl)) (pa_cons (pv 11) pa_nil))))) pe_bl (nomark _)))))
  (pss_one (ps_ret pe_bl))
  pss_nil)
 (pss_one (ps_if (pt_not (pt_val (pe_cal (c__law_right T) (hr.mono (by decide)) (pa_cons (pe_ix (ix_tupK K) (pv 7) pe_int (fun _ _ => rfl)) (pa_cons (pe_ix (ix_tupK K) (pv 7) pe_int (fun _ _ => rfl)) (pa_cons (pe_ix (ix_tupK K) (pv 7) pe_int (fun _ _ => rfl)) (pa_cons (pv 11) pa_nil)))))))
  (pss_one (ps_ret pe_bl))
  pss_nil))))
  pss_nil)
 (pss_cons (ps_expr (pe_cal (c__law_spent T) (hr.mono (by decide)) (pa_cons (pv 7) pa_nil)))
 (pss_cons (ps_expr (pe_bm0 PySem.F.plainAttrs_list PySem.F.slot_list_clear PySem.F.type_list_clear mt_clear (pe_ix (ix_tupK K) (pv 7) pe_int (fun _ _ => rfl))))
 (pss_cons (ps_if (pt_cmpR op_ne (pe_callB (call_reprD K hG hr.units) (by rfl) T.f_repr (by decide +kernel) (pa_cons (pe_tup (pa_cons (pv 3) (pa_cons (pv 4) (pa_cons (pv 5) pa_nil)))) pa_nil)) (pv 6) (nomark _))
  (pss_one (ps_ret pe_bl))
  pss_nil)
 (pss_one (ps_if (pt_cmpR (op_neD hr.units) (pe_cal (c_priced T) (hr.mono (by decide)) (pa_cons (pv 3) (pa_cons (pv 4) (pa_cons (pv 5) pa_nil)))) (pe_cal (c__law_priced T) (hr.mono (by decide)) (pa_cons (pv 3) (pa_cons (pv 4) (pa_cons (pv 5) pa_nil)))) (nomark _))
  (pss_one (ps_ret pe_bl))
  pss_nil))))))))))))))))))
 (pss_one (ps_ret pe_bl))), ?_⟩
  -- the cells
  refine ⟨_, rfl, a, 0, ns, rfl, hl, fun H1 c0 s1 => ?_⟩
  refine ⟨by show 1 ≤ sizeLine; decide, fun p1 hp1 => ?_⟩
  have s2 : Same H1 (upd H1 p1 (.lst [.int c0])) := Same.new hp1
  have e2 : (upd H1 p1 (.lst [.int c0])) p1 = some (.lst [.int c0]) := upd_same
  generalize upd H1 p1 (.lst [.int c0]) = H2 at s2 e2
  refine ⟨_, rfl, 1, rfl, 5, rfl, a, _, rfl, (s1.trans s2).seq hl, fun p2 hp2 => ?_⟩
  have s3 : Same H2 (upd H2 p2 (.lst (cutV (ns.map V.int) (some 1) (some 5)))) := Same.new hp2
  have e3 : (upd H2 p2 (.lst (cutV (ns.map V.int) (some 1) (some 5)))) p2 = some (.lst (cutV (ns.map V.int) (some 1) (some 5))) := upd_same
  generalize upd H2 p2 (.lst (cutV (ns.map V.int) (some 1) (some 5))) = H3 at s3 e3
  have lcut : (cutV (ns.map V.int) (some 1) (some 5)).length ≤ 5 := cut5 _
  refine ⟨p1, p2, _, _, rfl, rfl, s3 _ _ e2, e3, Nat.le_trans (show 1 + _ ≤ 6 by omega) (by decide), fun p3 hp3 => ?_⟩
  have s4 : Same H3 (upd H3 p3 (.lst ([.int c0] ++ cutV (ns.map V.int) (some 1) (some 5)))) := Same.new hp3
  have e4 : (upd H3 p3 (.lst ([.int c0] ++ cutV (ns.map V.int) (some 1) (some 5)))) p3 = some (.lst ([.int c0] ++ cutV (ns.map V.int) (some 1) (some 5))) := upd_same
  generalize upd H3 p3 (.lst ([.int c0] ++ cutV (ns.map V.int) (some 1) (some 5))) = H4 at s4 e4
  have cells : ∀ x ∈ [V.int c0] ++ cutV (ns.map V.int) (some 1) (some 5), ∃ c : Int, x = .int c := fun x hx => by
    rcases List.mem_append.mp hx with h | h
    · exact ⟨c0, List.mem_singleton.mp h⟩
    · have h1 := List.mem_of_mem_drop (List.mem_of_mem_take h)
      obtain ⟨z, _, rfl⟩ := List.mem_map.mp h1
      exact ⟨z, rfl⟩
  have hT4 : Tabs (TT K) H4 := hT.ext (s1.trans (s2.trans (s3.trans s4)))
  generalize [V.int c0] ++ cutV (ns.map V.int) (some 1) (some 5) = xs at e4 cells
  refine ⟨p3, rfl, ⟨xs, SqL.of e4⟩, ?_⟩
  refine for_it (walk_list (K := K) (a := p3) (xs := xs)) (fun i σ H' => Tabs (TT K) H' ∧ H' p3 = some (.lst xs) ∧ ∃ o1 o2 o3 o4 o5 o6 o7 o8 o9 o10 o11 : Option V, σ = [some (.ref a), o1, o2, o3, o4, o5, o6, o7, o8, o9, o10, o11]) ⟨hT4, e4, _, _, _, _, _, _, _, _, _, _, _, rfl⟩ (fun i σ G _ pv => SqL.of pv.2.1) ?_ ?_
  rotate_left
  · rintro σ G ⟨_, _, o1, o2, o3, o4, o5, o6, o7, o8, o9, o10, o11, rfl⟩
    exact kq _
  rintro i x σ H5 H6 hi ⟨hT6, h6, o1, o2, o3, o4, o5, o6, o7, o8, o9, o10, o11, rfl⟩ ⟨rfl, hx⟩
  obtain ⟨c, rfl⟩ := cells x (List.mem_of_getElem? hx)
  clear hT4 e4 s4 s3 e3 s2 e2 s1 hl hT
  -- source and table
  refine ⟨_, rfl, c, rfl, fun H7 src hsrc s7 hs7 => ?_⟩
  refine ⟨_, rfl, [src], src, 0, rfl, hs7, by simp, hs7.there, by omega, fun H8 p rs tb m n a1 a2 a3 a4 N8 => ?_⟩
  have hT7 := hT6.ext s7
  have hT8 := tabs_src hT7 hs7 N8.same
  have n3 : p3 ≠ src := fun e => by rw [e, hsrc] at h6; cases h6
  have h8 : H8 p3 = some (.lst xs) := same_at N8.same (by simpa using n3) (s7 _ _ h6)
  have out : ∀ y ∈ p :: rs, y ∉ [src] := fun y hy q => by
    rw [List.mem_singleton.mp q] at hy
    exact hs7.ne (N8.fresh src hy)
  have d8 : Dp K (hid [src] H8) (.ref p) (lt tb) := N8.tab.dp out
  have ok : TabOk m n tb := ⟨N8.len, a1, by omega, a3, by omega, fun r hr => (N8.rows r hr).1⟩
  -- task
  refine ⟨_, rfl, _, rfl, [src], src, 1000, m, n, tb, _, rfl, N8.src.mono (by omega), by simp, d8, ok, a2, a4, by omega, fun H9 pt b g bs gs S9 hs9 hpt hb hg lbs lgs ebs egs ft fb fg nbg => ?_⟩
  refine ⟨pt, _, rfl, SqT.of hpt, rfl, _, _, rfl, _, _, rfl, rfl, ?_⟩
  have hT9 := tabs_src hT8 N8.src S9
  have h9 : H9 p3 = some (.lst xs) := same_at S9 (by simpa using n3) h8
  have bsrc : b ≠ src := fun e => N8.src.ne (e ▸ fb)
  have gsrc : g ≠ src := fun e => N8.src.ne (e ▸ fg)
  have th9 := hs9.there
  have dt9 : Dp K (hid [src] H9) (.ref p) (lt tb) := d8.same S9
  have db9 : Dp K (hid [src] H9) (.ref b) (li bs) := li_dp (SqL.of (by rw [hid_out (by simpa using bsrc)]; exact hb))
  have dg9 : Dp K (hid [src] H9) (.ref g) (li gs) := li_dp (SqL.of (by rw [hid_out (by simpa using gsrc)]; exact hg))
  have tk : TaskOk m n tb bs gs := by
    refine ⟨ok, a2, a4, lbs, lgs, fun i j hi hj => ?_, ebs, egs⟩
    obtain ⟨r, tr, lr, er⟩ := ok.at hi
    rw [← er]
    exact (N8.rows r (List.mem_of_getElem? tr)).2 _ (List.mem_of_getElem? (gd_at (by omega)))
  have tk2 := tk.priced
  obtain ⟨Wt, swt, hWt⟩ := sw_task tk
  clear hT6 h6 hT7 hT8 h8 d8 N8 S9 hs9 hpt hb hg out hs7 s7
  -- repr
  refine ⟨_, rfl, _, rfl, _, rfl, by show 3 ≤ sizeLine; decide, fun p10 hp10 => ?_⟩
  have s10 : Same H9 (upd H9 p10 (.tup [.ref p, .ref b, .ref g])) := Same.new hp10
  have e10 : (upd H9 p10 (.tup [.ref p, .ref b, .ref g])) p10 = some (.tup [.ref p, .ref b, .ref g]) := upd_same
  generalize upd H9 p10 (.tup [.ref p, .ref b, .ref g]) = H10 at s10 e10
  refine ⟨_, [lt tb, li bs, li gs], 3, Wt, rfl, .tup (SqT.of e10) (.cons (dt9.hs s10).up (.cons (db9.hs s10).up (.cons (dg9.hs s10).up .nil))), swt, by decide, hWt, ?_⟩
  -- priced
  refine ⟨_, rfl, _, rfl, _, rfl, [src], m, n, tb, bs, gs, th9.same s10, .cons (dt9.hs s10) (.cons (db9.hs s10) (.cons (dg9.hs s10) .nil)), ok, lbs, lgs, fun H11 q l1 l2 l3 xs1 s11 fq f1 f2 f3 n12 n13 n23 hq h1 dx1 h2 h3 => ?_⟩
  have th10 := th9.same s10
  have srcIn : ∀ {y : Addr}, H10 y = none → y ≠ src := fun {y} h e => th10.new h (by simp [e])
  have t11 := s10.trans s11
  have dl1 : Dp K (hid [src] H11) (.ref l1) (lt (pricedT n tb)) := .lst (SqL.of (by rw [hid_out (by simpa using srcIn f1)]; exact h1)) (dx1.same (hid_cons.trans (hid_cons.trans hid_cons)))
  have dl2 : Dp K (hid [src] H11) (.ref l2) (li (neg gs)) := li_dp (SqL.of (by rw [hid_out (by simpa using srcIn f2)]; exact h2))
  have dl3 : Dp K (hid [src] H11) (.ref l3) (li (neg bs)) := li_dp (SqL.of (by rw [hid_out (by simpa using srcIn f3)]; exact h3))
  have dq : Dp K (hid [src] H11) (.ref q) (taskD (pricedT n tb) (neg gs) (neg bs)) := .tup (SqT.of (by rw [hid_out (by simpa using srcIn fq)]; exact hq)) (.cons dl1 (.cons dl2 (.cons dl3 .nil)))
  have th11 := th10.same s11
  -- found is what the law's own def tells
  refine ⟨_, rfl, _, _, _, _, _, rfl, .ty "tuple", tyx_tup dq.up, kit_tup_tup, true, rfl, iteF ?_⟩
  refine ⟨_, rfl, _, rfl, _, rfl, _, rfl, [src], _, _, th11, .cons (dt9.hs t11) (.cons (db9.hs t11) (.cons (dg9.hs t11) .nil)), ⟨m, n, tb, bs, gs, rfl, ok, lbs, lgs, rfl⟩, fun H12 w12 s12 d12 => ?_⟩
  refine ⟨taskD (pricedT n tb) (neg gs) (neg bs), taskD (pricedT n tb) (neg gs) (neg bs), (dq.hs s12).up, d12.up, (sh_task _ _ _).shaped (by decide), (sh_task _ _ _).shaped (by decide), ?_⟩
  rw [task_eqv]
  refine ⟨false, rfl, iteF ?_⟩
  -- priced twice
  have q12 := s12 _ _ hq
  have th12 := th11.same s12
  refine ⟨_, rfl, _, _, _, _, rfl, rfl, SqT.of q12, rfl, _, rfl, _, _, _, _, rfl, rfl, SqT.of q12, rfl, _, rfl, _, _, _, _, rfl, rfl, SqT.of q12, rfl, ?_⟩
  refine ⟨[src], n, m, _, _, _, th12, .cons (dl1.hs s12) (.cons (dl2.hs s12) (.cons (dl3.hs s12) .nil)), tk2.ok, tk2.lb, tk2.lg, fun H13 q2 k1 k2 k3 xs2 s13 gq g1 g2 g3 m12 m13 m23 hq2 hk1 dx2 hk2 hk3 => ?_⟩
  have t13 := t11.trans (s12.trans s13)
  refine ⟨_, rfl, _, rfl, _, rfl, by show 3 ≤ sizeLine; decide, fun p14 hp14 => ?_⟩
  have s14 : Same H13 (upd H13 p14 (.tup [.ref p, .ref b, .ref g])) := Same.new hp14
  have e14 : (upd H13 p14 (.tup [.ref p, .ref b, .ref g])) p14 = some (.tup [.ref p, .ref b, .ref g]) := upd_same
  generalize upd H13 p14 (.tup [.ref p, .ref b, .ref g]) = H14 at s14 e14
  have t14 := t13.trans s14
  have dq2 : Dp K H14 (.ref q2) (taskD tb bs gs) := by
    have e1 : pricedT m (pricedT n tb) = tb := priced_twice ok
    rw [e1] at dx2
    rw [neg_neg_list] at hk2 hk3
    exact .tup (SqT.of (s14 _ _ hq2)) (.cons (.lst (SqL.of (s14 _ _ hk1)) ((dx2.same hid_le).same s14)) (.cons (li_dp (SqL.of (s14 _ _ hk2))) (.cons (li_dp (SqL.of (s14 _ _ hk3))) .nil)))
  refine ⟨taskD tb bs gs, taskD tb bs gs, dq2, .tup (SqT.of e14) (.cons (dt9.hs t14).up (.cons (db9.hs t14).up (.cons (dg9.hs t14).up .nil))), (sh_task _ _ _).shaped (by decide), (sh_task _ _ _).shaped (by decide), ?_⟩
  rw [task_eqv]
  refine ⟨false, rfl, iteF ?_⟩
  have u14 : Same H11 H14 := s12.trans (s13.trans s14)
  have q14 : H14 q = some (.tup [.ref l1, .ref l2, .ref l3]) := u14 _ _ hq
  have th14 := th11.same u14
  have hT14 : Tabs (TT K) H14 := hT9.ext t14
  have hturn := tk.turned
  refine tNext_i ?_
  dsimp only
  refine tSeq_key2 (fun σ' H' => ∃ (q8 q9 : Addr) (w1 w2 : Str) (r1 r2 : List V) (o10 o11 : Option V), σ' = [some (.ref a), some (.int c), some (.ref src), some (.ref p), some (.ref b), some (.ref g), some (.str (PyData.shown (.tuple [lt tb, li bs, li gs]))), some (.ref q), some (.ref q8), some (.ref q9), o10, o11] ∧
      SqT K H' q8 (.str w1 :: r1) ∧ SqT K H' q9 (.str w2 :: r2) ∧ ExtN H14 H' ∧ Tabs (TT K) H' ∧ ((w1 = "open" ∧ w2 = "none") ∨ (w1 = "none" ∧ w2 = "open") ∨ (w1 = "none" ∧ w2 = "none") ∨ (w1 = "best" ∧ w2 = "best" ∧ ∃ (v : Rat) (x y x' y' : Nat → Rat),
        Dp K (hid [src] H') (.ref q8) (bestD n m v x y) ∧ Dp K (hid [src] H') (.ref q9) (bestD m n (-v) x' y') ∧ BestOk 2740 100 n m (pricedT n tb) (neg gs) (neg bs) (-v) y x))) ?_ ?_
  rotate_left
  · intro key
    have sqBest : ∀ {H' : Hp} {q' : Addr} {n' m' : Nat} {v : Rat} {x y : Nat → Rat}, Dp K (hid [src] H') (.ref q') (bestD n' m' v x y) → ∃ r, SqT K H' q' (.str "best" :: r) := fun {H' q' n' m' v x y} d => by
      obtain ⟨a', xs', e', ha', hx'⟩ := dpt d
      cases e'
      obtain ⟨x1, x2, x3, x4, rfl, e1, e2, e3, e4⟩ := dp4 hx'
      cases dp_str e1
      exact ⟨_, sqT_same hid_le ha'⟩
    refine ⟨_, rfl, _, rfl, _, rfl, [src], m, n, tb, bs, gs, th14, .cons (dt9.hs t14) (.cons (db9.hs t14) (.cons (dg9.hs t14) .nil)), tk, hT14, fun H15 q8 r8 y X15 hT15 W1 e8 => ?_, fun H15 q8 r8 x zz X15 hT15 W1 e8 => ?_, fun H15 q8 v x y X15 hT15 W1 ox oy d8 => ?_⟩
    · -- none
      refine ⟨_, rfl, _, _, _, _, rfl, rfl, SqT.of (X15 _ _ q14 fun _ q => nomatch q), rfl, _, rfl, _, _, _, _, rfl, rfl, SqT.of (X15 _ _ q14 fun _ q => nomatch q), rfl, _, rfl, _, _, _, _, rfl, rfl, SqT.of (X15 _ _ q14 fun _ q => nomatch q), rfl, ?_⟩
      refine ⟨[src], n, m, pricedT n tb, neg gs, neg bs, th14.ext X15, .cons (dp_ext (extN_hid X15) _ (dl1.hs u14)) (.cons (dp_ext (extN_hid X15) _ (dl2.hs u14)) (.cons (dp_ext (extN_hid X15) _ (dl3.hs u14)) .nil)), tk2, hT15, fun H16 q9 r9 y' X16 hT16 W2 e9 => ?_, fun H16 q9 r9 x' z' X16 hT16 W2 e9 => ?_, fun H16 q9 v' x' y' X16 hT16 W2 ox' oy' d9 => ?_⟩

      · exact key _ _ ⟨q8, q9, "none", "none", _, _, _, _, rfl, sqT_ext X16 (SqT.of e8), SqT.of e9, X15.trans X16, hT16, .inr (.inr (.inl ⟨rfl, rfl⟩))⟩
      · exact key _ _ ⟨q8, q9, "none", "open", _, _, _, _, rfl, sqT_ext X16 (SqT.of e8), SqT.of e9, X15.trans X16, hT16, .inr (.inl ⟨rfl, rfl⟩)⟩
      · exact absurd (none_best hturn W1 W2) id
    · -- open
      refine ⟨_, rfl, _, _, _, _, rfl, rfl, SqT.of (X15 _ _ q14 fun _ q => nomatch q), rfl, _, rfl, _, _, _, _, rfl, rfl, SqT.of (X15 _ _ q14 fun _ q => nomatch q), rfl, _, rfl, _, _, _, _, rfl, rfl, SqT.of (X15 _ _ q14 fun _ q => nomatch q), rfl, ?_⟩
      refine ⟨[src], n, m, pricedT n tb, neg gs, neg bs, th14.ext X15, .cons (dp_ext (extN_hid X15) _ (dl1.hs u14)) (.cons (dp_ext (extN_hid X15) _ (dl2.hs u14)) (.cons (dp_ext (extN_hid X15) _ (dl3.hs u14)) .nil)), tk2, hT15, fun H16 q9 r9 y' X16 hT16 W2 e9 => ?_, fun H16 q9 r9 x' z' X16 hT16 W2 e9 => ?_, fun H16 q9 v' x' y' X16 hT16 W2 ox' oy' d9 => ?_⟩

      · exact key _ _ ⟨q8, q9, "open", "none", _, _, _, _, rfl, sqT_ext X16 (SqT.of e8), SqT.of e9, X15.trans X16, hT16, .inl ⟨rfl, rfl⟩⟩
      · exact absurd (open_open hturn W1 W2) id
      · exact absurd (open_best hturn W1 W2) id
    · -- best
      refine ⟨_, rfl, _, _, _, _, rfl, rfl, SqT.of (X15 _ _ q14 fun _ q => nomatch q), rfl, _, rfl, _, _, _, _, rfl, rfl, SqT.of (X15 _ _ q14 fun _ q => nomatch q), rfl, _, rfl, _, _, _, _, rfl, rfl, SqT.of (X15 _ _ q14 fun _ q => nomatch q), rfl, ?_⟩
      refine ⟨[src], n, m, pricedT n tb, neg gs, neg bs, th14.ext X15, .cons (dp_ext (extN_hid X15) _ (dl1.hs u14)) (.cons (dp_ext (extN_hid X15) _ (dl2.hs u14)) (.cons (dp_ext (extN_hid X15) _ (dl3.hs u14)) .nil)), tk2, hT15, fun H16 q9 r9 y' X16 hT16 W2 e9 => ?_, fun H16 q9 r9 x' z' X16 hT16 W2 e9 => ?_, fun H16 q9 v' x' y' X16 hT16 W2 ox' oy' d9 => ?_⟩

      · exact absurd (best_none hturn W1 W2) id
      · exact absurd (best_open hturn W1 W2) id
      · have ev : v' = - v := best_best hturn W1 W2
        subst ev
        have d8' := dp_ext (extN_hid X16) _ d8
        obtain ⟨r1, g1⟩ := sqBest d8'
        obtain ⟨r2, g2⟩ := sqBest d9
        exact key _ _ ⟨q8, q9, "best", "best", r1, r2, _, _, rfl, g1, g2, X15.trans X16, hT16, .inr (.inr (.inr ⟨rfl, rfl, v, x, y, x', y', d8', d9, tk2.bestOk (hturn.best W1) oy ox⟩))⟩
  rintro σ' H16 ⟨q8, q9, w1, w2, r1, r2, o10, o11, rfl, sq8, sq9, X16, hT16, allowed⟩
  have th16 := th14.ext X16
  -- words
  refine ⟨_, rfl, _, _, _, _, rfl, rfl, sq8, atI_nat (j := 0) rfl, _, rfl, _, _, _, _, rfl, rfl, sq9, atI_nat (j := 0) rfl, by show 2 ≤ sizeLine; decide, fun p17 hp17 => ?_⟩
  have s17 : Same H16 (upd H16 p17 (.tup [.str w1, .str w2])) := Same.new hp17
  have e17 : (upd H16 p17 (.tup [.str w1, .str w2])) p17 = some (.tup [.str w1, .str w2]) := upd_same
  generalize upd H16 p17 (.tup [.str w1, .str w2]) = H17 at s17 e17
  -- they are of the four
  refine ⟨_, rfl, by show 2 ≤ sizeLine; decide, fun b1 hb1 => ?_⟩
  have v1 : Same H17 (upd H17 b1 (.tup [.str "best", .str "best"])) := Same.new hb1
  have f1' : (upd H17 b1 (.tup [.str "best", .str "best"])) b1 = some (.tup [.str "best", .str "best"]) := upd_same
  generalize hB1 : upd H17 b1 (.tup [.str "best", .str "best"]) = H18 at v1 f1'
  refine ⟨by show 2 ≤ sizeLine; decide, fun b2 hb2 => ?_⟩
  have v2 : Same H18 (upd H18 b2 (.tup [.str "open", .str "none"])) := Same.new hb2
  have f2' : (upd H18 b2 (.tup [.str "open", .str "none"])) b2 = some (.tup [.str "open", .str "none"]) := upd_same
  generalize hB2 : upd H18 b2 (.tup [.str "open", .str "none"]) = H19 at v2 f2'
  refine ⟨by show 2 ≤ sizeLine; decide, fun b3 hb3 => ?_⟩
  have v3 : Same H19 (upd H19 b3 (.tup [.str "none", .str "open"])) := Same.new hb3
  have f3' : (upd H19 b3 (.tup [.str "none", .str "open"])) b3 = some (.tup [.str "none", .str "open"]) := upd_same
  generalize hB3 : upd H19 b3 (.tup [.str "none", .str "open"]) = H20 at v3 f3'
  refine ⟨by show 2 ≤ sizeLine; decide, fun b4 hb4 => ?_⟩
  have v4 : Same H20 (upd H20 b4 (.tup [.str "none", .str "none"])) := Same.new hb4
  have f4' : (upd H20 b4 (.tup [.str "none", .str "none"])) b4 = some (.tup [.str "none", .str "none"]) := upd_same
  generalize hB4 : upd H20 b4 (.tup [.str "none", .str "none"]) = H21 at v4 f4'
  refine ⟨by show 4 ≤ sizeLine; decide, fun b5 hb5 => ?_⟩
  have v5 : Same H21 (upd H21 b5 (.lst [.ref b1, .ref b2, .ref b3, .ref b4])) := Same.new hb5
  have f5' : (upd H21 b5 (.lst [.ref b1, .ref b2, .ref b3, .ref b4])) b5 = some (.lst [.ref b1, .ref b2, .ref b3, .ref b4]) := upd_same
  generalize hB5 : upd H21 b5 (.lst [.ref b1, .ref b2, .ref b3, .ref b4]) = H22 at v5 f5'
  have pair : ∀ {H' : Hp} {z : Addr} {x y : Str}, H' z = some (.tup [.str x, .str y]) → Dp K H' (.ref z) (wD x y) := fun h => .tup (SqT.of h) (.cons (.str _) (.cons (.str _) .nil))
  have s1722 : Same H17 H22 := v1.trans (v2.trans (v3.trans (v4.trans v5)))
  have wok : strW w1 ∧ strW w2 := by
    rcases allowed with ⟨e, f⟩ | ⟨e, f⟩ | ⟨e, f⟩ | ⟨e, f, _⟩ <;> rw [e, f] <;> decide +kernel
  refine ⟨wD w1 w2, [wD "best" "best", wD "open" "none", wD "none" "open", wD "none" "none"], pair (s1722 _ _ e17), .lst (SqL.of f5') (.cons (pair (v5 _ _ (v4 _ _ (v3 _ _ (v2 _ _ f1'))))) (.cons (pair (v5 _ _ (v4 _ _ (v3 _ _ f2')))) (.cons (pair (v5 _ _ (v4 _ _ f3'))) (.cons (pair (v5 _ _ f4')) .nil)))), (sh_w wok.1 wok.2).shaped (by decide), by decide +kernel, ?_⟩
  have hany : ([wD "best" "best", wD "open" "none", wD "none" "open", wD "none" "none"].any fun z => PyData.eqv z (wD w1 w2)) = true := by
    rcases allowed with ⟨e, f⟩ | ⟨e, f⟩ | ⟨e, f⟩ | ⟨e, f, _⟩ <;> rw [e, f] <;> decide +kernel
  rw [hany]
  refine ⟨false, rfl, iteF ?_⟩
  have X22 : ExtN H14 H22 := X16.trans (extN_same (s17.trans s1722))
  have hT22 : Tabs (TT K) H22 := (hT16.ext s17).ext s1722
  have e22 := s1722 _ _ e17
  have s1622 := s17.trans s1722
  clear hB1 hB2 hB3 hB4 hB5 f1' f2' f3' f4' f5' v1 v2 v3 v4 v5 hb1 hb2 hb3 hb4 hb5
  refine tNext_i ?_
  dsimp only
  refine tSeq_key (t := tIfS _ _ _) (fun σ' H' => ∃ (o8 o9 o10 o11 : Option V), σ' = [some (.ref a), some (.int c), some (.ref src), some (.ref p), some (.ref b), some (.ref g), some (.str (PyData.shown (.tuple [lt tb, li bs, li gs]))), some (.ref q), o8, o9, o10, o11] ∧ ExtN H14 H' ∧ Tabs (TT K) H') ?_ ?_
  rotate_left
  · intro key
    refine ⟨_, rfl, by show 2 ≤ sizeLine; decide, fun b6 hb6 => ?_⟩
    have s23 : Same H22 (upd H22 b6 (.tup [.str "best", .str "best"])) := Same.new hb6
    have e23 : (upd H22 b6 (.tup [.str "best", .str "best"])) b6 = some (.tup [.str "best", .str "best"]) := upd_same
    generalize upd H22 b6 (.tup [.str "best", .str "best"]) = H23 at s23 e23
    refine ⟨wD w1 w2, wD "best" "best", pair (s23 _ _ e22), pair e23, (sh_w wok.1 wok.2).shaped (by decide), by decide +kernel, ?_⟩
    have X23 : ExtN H14 H23 := X22.trans (extN_same s23)
    have hT23 := hT22.ext s23
    have no : PyData.eqv (wD w1 w2) (wD "best" "best") = false → ∀ {R : Prop}, (R) → R := fun _ {_} r => r
    rcases allowed with ⟨e, f⟩ | ⟨e, f⟩ | ⟨e, f⟩ | ⟨e, f, v, x, y, x', y', d8, d9, BO⟩
    · refine ⟨false, by rw [e, f]; decide +kernel, iteF ?_⟩
      exact key _ _ ⟨_, _, _, _, rfl, X23, hT23⟩
    · refine ⟨false, by rw [e, f]; decide +kernel, iteF ?_⟩
      exact key _ _ ⟨_, _, _, _, rfl, X23, hT23⟩
    · refine ⟨false, by rw [e, f]; decide +kernel, iteF ?_⟩
      exact key _ _ ⟨_, _, _, _, rfl, X23, hT23⟩
    · refine ⟨true, by rw [e, f]; decide +kernel, iteT ?_⟩
      have d8' := (d8.hs s1622).hs s23
      have d9' := (d9.hs s1622).hs s23
      obtain ⟨a8, xs8, e8, ha8, hx8⟩ := dpt d8'
      cases e8
      obtain ⟨y1, y2, y3, y4, rfl, f1', dv8, dx8, dy8⟩ := dp4 hx8
      cases dp_str f1'
      obtain ⟨pv, rfl, hpv⟩ := dp_fr dv8
      obtain ⟨a9, xs9, e9, ha9, hx9⟩ := dpt d9'
      cases e9
      obtain ⟨z1, z2, z3, z4, rfl, g1', dv9, dx9, dy9⟩ := dp4 hx9
      cases dp_str g1'
      have sq8' := sqT_same hid_le ha8
      have sq9' := sqT_same hid_le ha9
      have hpv' := sqT_same hid_le hpv
      have th23 := th14.ext X23
      refine ⟨_, rfl, _, _, _, _, rfl, rfl, sq8', atI_nat (j := 1) rfl, _, _, _, _, rfl, rfl, hpv', atI_nat (j := 0) rfl, _, _, rfl, rfl, ?_⟩
      refine ⟨_, rfl, _, _, _, _, rfl, rfl, sq8', atI_nat (j := 1) rfl, _, _, _, _, rfl, rfl, hpv', atI_nat (j := 1) rfl, by show 2 ≤ sizeLine; decide, fun p24 hp24 => ?_⟩
      have s24 : Same H23 (upd H23 p24 (.tup [.int (0 - v.num), .int (v.den : Int)])) := Same.new hp24
      have e24 : (upd H23 p24 (.tup [.int (0 - v.num), .int (v.den : Int)])) p24 = some (.tup [.int (0 - v.num), .int (v.den : Int)]) := upd_same
      generalize hB24 : upd H23 p24 (.tup [.int (0 - v.num), .int (v.den : Int)]) = H24 at s24 e24
      have n24 : p24 ∉ [src] := th23.new hp24
      refine ⟨_, rfl, _, _, _, _, rfl, rfl, sqT_same s24 sq8', atI_nat (j := 3) rfl, _, rfl, _, _, _, _, rfl, rfl, sqT_same s24 sq8', atI_nat (j := 2) rfl, by show 4 ≤ sizeLine; decide, fun p25 hp25 => ?_⟩
      have s25 : Same H24 (upd H24 p25 (.tup [.str "best", .ref p24, y4, y3])) := Same.new hp25
      have e25 : (upd H24 p25 (.tup [.str "best", .ref p24, y4, y3])) p25 = some (.tup [.str "best", .ref p24, y4, y3]) := upd_same
      generalize hB25 : upd H24 p25 (.tup [.str "best", .ref p24, y4, y3]) = H25 at s25 e25
      have n25 : p25 ∉ [src] := (th23.same s24).new hp25
      have s2325 := s24.trans s25
      have dnv : Dp K (hid [src] H25) (.ref p24) (fr (-v)) := by
        refine fr_dp (SqT.of ?_)
        rw [hid_out n24, s25 _ _ e24, Rat.neg_num, Rat.neg_den, Int.zero_sub]
      have dab : Dp K (hid [src] H25) (.ref p25) (bestD m n (-v) y x) := .tup (SqT.of (by rw [hid_out n25]; exact e25)) (.cons (.str _) (.cons dnv (.cons (dy8.hs s2325) (.cons (dx8.hs s2325) .nil))))
      have th25 := th23.same s2325
      have X25 : ExtN H14 H25 := X23.trans (extN_same s2325)
      have q25 : H25 q = some (.tup [.ref l1, .ref l2, .ref l3]) := X25 _ _ q14 fun _ q => nomatch q
      have dl1' := dp_ext (extN_hid (S := [src]) X25) _ (dl1.hs u14)
      have dl2' := dp_ext (extN_hid (S := [src]) X25) _ (dl2.hs u14)
      have dl3' := dp_ext (extN_hid (S := [src]) X25) _ (dl3.hs u14)
      -- the values
      refine ⟨_, rfl, _, _, _, _, rfl, rfl, sqT_same s2325 sq9', atI_nat (j := 1) rfl, _, rfl, _, _, _, _, rfl, rfl, SqT.of e25, atI_nat (j := 1) rfl, fr (-v), fr (-v), (dv9.hs s2325).up, dnv.up, fr_shaped _, fr_shaped _, ?_⟩
      rw [fr_eqv]
      refine ⟨false, rfl, iteF ?_⟩
      refine ⟨_, rfl, _, _, _, _, rfl, rfl, SqT.of q25, rfl, _, rfl, _, _, _, _, rfl, rfl, SqT.of q25, rfl, _, rfl, _, _, _, _, rfl, rfl, SqT.of q25, rfl, _, rfl, [src], _, _, th25, .cons dl1' (.cons dl2' (.cons dl3' (.cons dab .nil))), ⟨2740, 100, n, m, pricedT n tb, neg gs, neg bs, -v, y, x, rfl, BO, rfl⟩, fun H26 w26 s26 d26 => ?_⟩
      cases dp_bl d26
      refine ⟨true, true, rfl, rfl, false, rfl, iteF ?_⟩
      have q26 := s26 _ _ q25
      refine ⟨_, rfl, _, _, _, _, rfl, rfl, SqT.of q26, rfl, _, rfl, _, _, _, _, rfl, rfl, SqT.of q26, rfl, _, rfl, _, _, _, _, rfl, rfl, SqT.of q26, rfl, _, rfl, [src], _, _, th25.same s26, .cons (dl1'.hs s26) (.cons (dl2'.hs s26) (.cons (dl3'.hs s26) (.cons (dab.hs s26) .nil))), ⟨2740, 100, n, m, pricedT n tb, neg gs, neg bs, -v, y, x, rfl, BO, by decide, by decide, rfl⟩, fun H27 w27 s27 d27 => ?_⟩
      cases dp_bl d27
      refine ⟨true, rfl, iteF ?_⟩
      exact key _ _ ⟨_, _, _, _, rfl, X25.trans (extN_same (s26.trans s27)), (hT23.ext s2325).ext (s26.trans s27)⟩
  rintro σ' H24 ⟨o8, o9, o10, o11, rfl, X24, hT24⟩
  have q24 : H24 q = some (.tup [.ref l1, .ref l2, .ref l3]) := X24 _ _ q14 fun _ q => nomatch q
  have l1_24 : H24 l1 = some (.lst xs1) := X24 _ _ (u14 _ _ h1) fun _ q => nomatch q
  have l2_24 : H24 l2 = some (.lst ((neg gs).map V.int)) := X24 _ _ (u14 _ _ h2) fun _ q => nomatch q
  have l3_24 : H24 l3 = some (.lst ((neg bs).map V.int)) := X24 _ _ (u14 _ _ h3) fun _ q => nomatch q
  have lx1 : xs1.length = n := by rw [lt_len dx1, tk2.ok.len]
  refine ⟨_, rfl, q, l1, l2, l3, xs1, _, _, rfl, q24, l1_24, l2_24, l3_24, by omega, by rw [List.length_map, neg_len]; omega, by rw [List.length_map, neg_len]; omega, fun H25 S25 ⟨ys, hys⟩ => ?_⟩
  have inL : ∀ y ∈ [l1, l2, l3], y ∈ [l3, l2, l1, src] := fun y hy => by
    simp only [List.mem_cons, List.not_mem_nil, or_false] at hy ⊢
    rcases hy with e | e | e <;> simp [e]
  have pn : q ∉ [l1, l2, l3] := fun z => by
    simp only [List.mem_cons, List.not_mem_nil, or_false] at z
    rcases z with z | z | z
    · rw [z, l1_24] at q24; cases q24
    · rw [z, l2_24] at q24; cases q24
    · rw [z, l3_24] at q24; cases q24
  have q25 := same_at S25 pn q24
  refine ⟨_, rfl, _, _, _, _, rfl, rfl, SqT.of q25, rfl, Or.inl ⟨rfl, ys, SqL.of hys⟩, l1, ys, rfl, rfl, hys, ?_⟩
  have hT25 : Tabs (TT K) H25 := tabs_lst hT24 (fun y hy => by
    simp only [List.mem_cons, List.not_mem_nil, or_false] at hy
    rcases hy with e | e | e
    · rw [e]; exact ⟨_, l1_24⟩
    · rw [e]; exact ⟨_, l2_24⟩
    · rw [e]; exact ⟨_, l3_24⟩) S25
  have hT26 : Tabs (TT K) (upd H25 l1 (.lst [])) := tabs_lst hT25 (M := [l1]) (fun y hy => by rw [List.mem_singleton.mp hy]; exact ⟨_, hys⟩) (by rw [hid_upd_in (by simp)]; exact Same.refl _)
  have late : ∀ {y : Addr} {d : PyData}, Dp K (hid [src] H9) (.ref y) d → Dp K (hid [src] (upd H25 l1 (.lst []))) (.ref y) d := fun {y d} dd => by
    have d10 := dp_past (dp_past (dp_past (dd.hs s10) f1 (Same.refl _)) f2 (Same.refl _)) f3 (Same.refl _)
    have d24 := dp_ext (extN_hid X24) _ ((d10.hs s11).hs u14)
    have d25 := d24.same (same_up S25 inL)
    rw [← hid_upd_in (S := [l3, l2, l1, src]) (H := H25) (a := l1) (o := .lst []) (by simp)] at d25
    exact d25.same (hid_cons.trans (hid_cons.trans hid_cons))
  have srcN : src ∉ [l1, l2, l3] := fun z => by
    simp only [List.mem_cons, List.not_mem_nil, or_false] at z
    rcases z with z | z | z
    · exact srcIn f1 z.symm
    · exact srcIn f2 z.symm
    · exact srcIn f3 z.symm
  have th26 : There [src] (upd H25 l1 (.lst [])) := There.upd fun y hy => by
    obtain ⟨o, h1', h2'⟩ := (th14.ext X24) y hy
    rw [List.mem_singleton.mp hy] at h1' ⊢
    exact ⟨o, same_at S25 srcN h1', h2'⟩
  have h26 : (upd H25 l1 (.lst [])) p3 = some (.lst xs) := by
    have h10 := s10 _ _ h9
    have n3' : p3 ∉ [l1, l2, l3] := fun z => by
      simp only [List.mem_cons, List.not_mem_nil, or_false] at z
      rcases z with z | z | z
      · rw [z, f1] at h10; cases h10
      · rw [z, f2] at h10; cases h10
      · rw [z, f3] at h10; cases h10
    rw [upd_ne fun e => n3' (by simp [e])]
    exact same_at S25 n3' (X24 _ _ (t14 _ _ h9) fun _ q => nomatch q)
  have dt26 := late dt9
  have db26 := late db9
  have dg26 := late dg9
  clear late
  generalize upd H25 l1 (.lst []) = H26 at hT26 th26 h26 dt26 db26 dg26
  -- repr again
  refine ⟨_, rfl, _, rfl, _, rfl, by show 3 ≤ sizeLine; decide, fun p27 hp27 => ?_⟩
  have s27 : Same H26 (upd H26 p27 (.tup [.ref p, .ref b, .ref g])) := Same.new hp27
  have e27 : (upd H26 p27 (.tup [.ref p, .ref b, .ref g])) p27 = some (.tup [.ref p, .ref b, .ref g]) := upd_same
  generalize upd H26 p27 (.tup [.ref p, .ref b, .ref g]) = H27 at s27 e27
  refine ⟨_, [lt tb, li bs, li gs], 3, Wt, rfl, .tup (SqT.of e27) (.cons (dt26.hs s27).up (.cons (db26.hs s27).up (.cons (dg26.hs s27).up .nil))), swt, by decide, hWt, ?_⟩
  refine ⟨_, rfl, rfl, false, bN rfl, iteF ?_⟩
  -- priced again
  refine ⟨_, rfl, _, rfl, _, rfl, [src], m, n, tb, bs, gs, th26.same s27, .cons (dt26.hs s27) (.cons (db26.hs s27) (.cons (dg26.hs s27) .nil)), ok, lbs, lgs, fun H28 qq k1 k2 k3 xs3 s28 gq g1 g2 g3 m12 m13 m23 hqq hk1 dx3 hk2 hk3 => ?_⟩
  have t28 := s27.trans s28
  refine ⟨_, rfl, _, rfl, _, rfl, [src], _, _, th26.same t28, .cons (dt26.hs t28) (.cons (db26.hs t28) (.cons (dg26.hs t28) .nil)), ⟨m, n, tb, bs, gs, rfl, ok, lbs, lgs, rfl⟩, fun H29 w29 s29 d29 => ?_⟩
  have dqq : Dp K H29 (.ref qq) (taskD (pricedT n tb) (neg gs) (neg bs)) := .tup (SqT.of (s29 _ _ hqq)) (.cons (.lst (SqL.of (s29 _ _ hk1)) ((dx3.same hid_le).same s29)) (.cons (li_dp (SqL.of (s29 _ _ hk2))) (.cons (li_dp (SqL.of (s29 _ _ hk3))) .nil)))
  refine ⟨taskD (pricedT n tb) (neg gs) (neg bs), taskD (pricedT n tb) (neg gs) (neg bs), dqq, d29.up, (sh_task _ _ _).shaped (by decide), (sh_task _ _ _).shaped (by decide), ?_⟩
  rw [task_eqv]
  refine ⟨false, rfl, iteF ?_⟩
  exact ⟨hT26.ext (t28.trans s29), (t28.trans s29) _ _ h26, _, _, _, _, _, _, _, _, _, _, _, rfl⟩
end
end K31
namespace K31
open PySem PySem.Spec PyProof.Rows L2 LamX
/-! the end: the law is called by the caller, so that repr's guards are known to be empty -/
section
variable {P : Program} {w : World} {K : PySem.W.Frag} {mg mb : Str → Option Value}
/-- what is tracked at the start: the script (sc) and the tables -/
def trk0 (cs : List (Addr × Addr)) (sc : Addr → Option HO) : Hp := fun b => (sc b).orElse fun _ => if b ∈ cs.map Prod.snd then some (.tbl #[]) else none
theorem trk0_or {cs : List (Addr × Addr)} {sc : Addr → Option HO} {b : Addr} {u : HO} (h : trk0 cs sc b = some u) : sc b = some u ∨ (b ∈ cs.map Prod.snd ∧ u = .tbl #[] ∧ sc b = none) := by
  unfold trk0 at h
  cases e : sc b with
  | some v => rw [e] at h; exact .inl h
  | none =>
    rw [e] at h
    have h : (if b ∈ cs.map Prod.snd then some (HO.tbl #[]) else none) = some u := h
    by_cases q : b ∈ cs.map Prod.snd
    · rw [if_pos q] at h
      exact .inr ⟨q, (Option.some.inj h).symm, rfl⟩
    · rw [if_neg q] at h
      cases h
/-- what the caller wants of the call -/
def CalledOk (P : Program) (w : World) (fa a : Addr) (s₁ : Shared) : Prop :=
  codeAny (model P w) callerA (.call (.ref fa) ⟨[.ref a], []⟩) (fun r s' => r = .ok (.ret (.bool true)) ∧ OldK s₁.heap s'.heap ∧ s'.os = s₁.os ∧ AllBare s'.gens) s₁
/-- the law's own promise, at the caller -/
def KeepsAt (P : Program) (w : World) (K : PySem.W.Frag) (mg : Str → Option Value) (cs : List (Addr × Addr)) (fa : Addr) : Prop :=
  ∀ (base : Heap) (s : Shared) (H : Hp) (a : Addr) (ns : List Int), K.In base → base.Ns mainGlobals mg → (∀ p ∈ cs, TabB base mg p.1 p.2) → Env0 P w K mg base callerA [] s H → (∀ p ∈ cs, H p.2 = some (.tbl #[])) → SqL K H a (ns.map V.int) →
    codeAny (model P w) callerA (.call (.ref fa) ⟨[.ref a], []⟩) (CR CX0 [] P w H s (fun v _ => v = .bl true) E0) s
variable {cs : List (Addr × Addr)} {fa a : Addr} {s₁ : Shared} {vs : List Value} {ns : List Int}
/-- the facts at the head's end -/
structure AtEnd (K : PySem.W.Frag) (mg mb : Str → Option Value) (cs : List (Addr × Addr)) (a : Addr) (vs : List Value) (ns : List Int) (s₁ : Shared) : Prop where
  kin : K.In s₁.heap
  glob : s₁.heap.Ns mainGlobals mg
  blt : s₁.heap.Ns builtinsNs mb
  boot : ∀ x : Str, x ≠ "__name__" → mb x = bootBuiltins x
  lim : s₁.heap.NoLimit
  gens : s₁.gens = #[]
  tab : ∀ p ∈ cs, s₁.heap.get? p.2 = some { cls := .none, data := .fields #[] }
  notK : ∀ p ∈ cs, K.lookup p.2 = none
  code : ∀ p ∈ cs, PySem.W.CodeHd s₁.heap p.1 p.2
  bmod : ∃ (bm : Addr) (ob : Obj), mg "__builtins__" = some (.ref bm) ∧ bm ≠ builtinsNs ∧ s₁.heap.get? bm = some ob ∧ ob.cls = .type "module" ∧ ob.dict = some builtinsNs ∧ ob.data = .plain
  script : s₁.heap.get? a = some { cls := .type "list", data := .seq vs.toArray }
  whole : IntsAre vs ns
  long : ns.length ≤ sizeLine
theorem AtEnd.tabAt (e : AtEnd K mg mb cs a vs ns s₁) {b : Addr} (h : b ∈ cs.map Prod.snd) : s₁.heap.get? b = some { cls := .none, data := .fields #[] } := by
  obtain ⟨p, hp, rfl⟩ := List.mem_map.mp h
  exact e.tab p hp
theorem AtEnd.aNot (e : AtEnd K mg mb cs a vs ns s₁) : a ∉ cs.map Prod.snd := fun h => by
  have h1 := e.tabAt h
  rw [e.script] at h1
  have h2 : Data.seq vs.toArray _ = Data.fields #[] := congrArg Obj.data (Option.some.inj h1)
  cases h2
/-- sc tells of the script alone, and only where K does not -/
def ScOk (K : PySem.W.Frag) (a : Addr) (sc : Addr → Option HO) : Prop := ∀ b u, sc b = some u → b = a ∧ K.lookup a = none ∧ ∃ o xs, u = .frz o (.lst xs)
theorem called_core (e : AtEnd K mg mb cs a vs ns s₁) (F : KeepsAt P w K mg cs fa) {sc : Addr → Option HO} (hsc : ScOk K a sc) (hS : SqL K (trk0 cs sc) a (ns.map V.int)) (hok : HOk P w (trk0 cs sc) s₁.heap) : CalledOk P w fa a s₁ := by
  -- a tracked address bears the script's list or an empty table
  have bears : ∀ {b : Addr} {u : HO} {o : Obj}, trk0 cs sc b = some u → s₁.heap.get? b = some o → (b = a ∧ K.lookup a = none ∧ o.data = .seq vs.toArray) ∨ (b ∈ cs.map Prod.snd ∧ o.data = .fields #[]) := fun {b u o} h ho => by
    rcases trk0_or h with h1 | ⟨h1, _, _⟩
    · obtain ⟨rfl, hK, _⟩ := hsc b u h1
      rw [e.script] at ho
      cases ho
      exact .inl ⟨rfl, hK, rfl⟩
    · rw [e.tabAt h1] at ho
      cases ho
      exact .inr ⟨h1, rfl⟩
  have plainly : ∀ {b : Addr} {o : Obj}, s₁.heap.get? b = some o → o.data ≠ .seq vs.toArray → o.data ≠ .fields #[] → (hidT s₁.heap (trk0 cs sc)).get? b = some o := fun {b o} ho n1 n2 => hidT_get ho (by
    cases q : trk0 cs sc b with
    | none => rfl
    | some u =>
      rcases bears q ho with ⟨_, _, h⟩ | ⟨_, h⟩
      · exact absurd h n1
      · exact absurd h n2)
  have spaces : ∀ {b : Addr} {m : Str → Option Value}, s₁.heap.Ns b m → (hidT s₁.heap (trk0 cs sc)).Ns b m := fun {b m} h => by
    obtain ⟨o, es, ep, ho, hd, r⟩ := h
    exact ⟨o, es, ep, plainly ho (by rw [hd]; exact fun z => nomatch z) (by rw [hd]; exact fun z => nomatch z), hd, r⟩
  have kept : K.In (hidT s₁.heap (trk0 cs sc)) := fun b o hb => hidT_get (e.kin b o hb) (by
    cases q : trk0 cs sc b with
    | none => rfl
    | some u =>
      rcases bears q (e.kin b o hb) with ⟨h1, h2, _⟩ | ⟨h1, _⟩
      · rw [h1, h2] at hb; cases hb
      · obtain ⟨p, hp, rfl⟩ := List.mem_map.mp h1
        rw [e.notK p hp] at hb; cases hb)
  have limit : (hidT s₁.heap (trk0 cs sc)).NoLimit := by
    obtain ⟨mc, h1, h2⟩ := e.lim
    exact ⟨mc, spaces h1, h2⟩
  have gl : ∃ o es ep, s₁.heap.get? mainGlobals = some o ∧ o.data = .dict es ep := by
    obtain ⟨o, es, ep, ho, hd, _⟩ := e.glob
    exact ⟨o, es, ep, ho, hd⟩
  have tabs : ∀ p ∈ cs, TabB (hidT s₁.heap (trk0 cs sc)) mg p.1 p.2 := fun p hp => by
    have hTp := e.tab p hp
    obtain ⟨og, es, ep, hog, hdg⟩ := gl
    constructor
    · obtain ⟨o, us, file, tf, flags, tg, inF, text, tt, ho, hc, hd, r3, r4, r5, r6, r7, r8, hne⟩ := e.code p hp
      refine ⟨o, us, file, tf, flags, tg, inF, text, tt, plainly ho (by rw [hd]; exact fun z => nomatch z) (fun z => ?_), hc, hd, r3, r4, r5, r6, r7, r8, hne⟩
      rw [hd] at z
      cases z
      simp at r3
    · obtain ⟨bm, ob, b1, b2, b3, b4, b5, b6⟩ := e.bmod
      refine ⟨bm, ob, b1, b2, fun q => ?_, fun q => ?_, plainly b3 (by rw [b6]; exact fun z => nomatch z) (by rw [b6]; exact fun z => nomatch z), b4, b5, b6⟩
      · rw [q, hog] at b3
        cases b3
        rw [hdg] at b6
        cases b6
      · rw [q, hTp] at b3
        cases b3
        cases b6
    · intro q
      rw [q, hTp] at hog
      cases hog
      cases hdg
  have start : Env0 P w K mg (hidT s₁.heap (trk0 cs sc)) callerA [] s₁ (trk0 cs sc) := by
    refine ⟨rfl, ⟨kept, spaces e.glob, ⟨mb, spaces e.blt, e.boot⟩, limit⟩, fun b o h => of_hidT h, Nat.le_of_eq (hidT_size ..), trivial, fun b hb => ?_, hok, .of_eq e.gens⟩
    have : b ∈ ([] : List Addr) := hb
    cases this
  have empties : ∀ p ∈ cs, trk0 cs sc p.2 = some (.tbl #[]) := fun p hp => by
    have hm : p.2 ∈ cs.map Prod.snd := List.mem_map.mpr ⟨p, hp, rfl⟩
    cases q : sc p.2 with
    | some u => exact absurd ((hsc _ _ q).1 ▸ hm) e.aNot
    | none =>
      unfold trk0
      rw [q]
      exact if_pos hm
  refine codeAny_mono (F _ s₁ (trk0 cs sc) a ns kept (spaces e.glob) tabs start empties hS) fun r s' h => ?_
  match r, h with
  | .ok (.ret u), h =>
    obtain ⟨v, H', hos, bare, un, hok', rv, hv⟩ := h
    have hv : v = .bl true := hv
    subst hv
    have hu : u = Value.bool true := rv
    subst hu
    have none_ : ∀ b, b ∉ frs ([] : List Env) := fun b hb => by
      have : b ∈ ([] : List Addr) := hb
      cases this
    have old : ∀ {b : Addr} {o : Obj}, b ∉ cs.map Prod.snd → s₁.heap.get? b = some o → s'.heap.get? b = some o := fun {b o} hb ho => by
      cases q : trk0 cs sc b with
      | none => exact un.keep b o ho q (none_ b) List.not_mem_nil
      | some u =>
        rcases trk0_or q with h1 | ⟨h1, _, _⟩
        · obtain ⟨_, _, o2, xs, rfl⟩ := hsc b u h1
          obtain ⟨g1, _⟩ := hok b _ q
          obtain ⟨g2, _⟩ := hok' b _ (un.frzs b o2 _ q)
          rw [ho] at g1
          cases g1
          exact g2
        · exact absurd h1 hb
    have grew : ∀ p ∈ cs, ∃ more : Array Value, s'.heap.get? p.2 = some { cls := .none, data := .fields more } := fun p hp => by
      obtain ⟨more, q⟩ := un.tbls p.2 #[] (empties p hp)
      exact ⟨_, hok' p.2 _ q⟩
    refine ⟨rfl, ⟨fun b o ho => ?_, fun b o ho => ?_⟩, hos, bare⟩
    · by_cases hb : b ∈ cs.map Prod.snd
      · rw [e.tabAt hb] at ho
        cases ho
        obtain ⟨p, hp, rfl⟩ := List.mem_map.mp hb
        obtain ⟨more, hm⟩ := grew p hp
        refine .inr (.inl ⟨((e.code p hp).tab (e.tab p hp)).isCodeTable, rfl, #[], more, rfl, ?_⟩)
        rw [Array.empty_append]
        exact hm
      · exact .inl (old hb ho)
    · by_cases hb : b ∈ cs.map Prod.snd
      · obtain ⟨p, hp, rfl⟩ := List.mem_map.mp hb
        obtain ⟨more, hm⟩ := grew p hp
        exact ⟨_, hm⟩
      · exact ⟨o, old hb ho⟩
  | .ok .next, h => exact False.elim h
  | .ok .brk, h => exact False.elim h
  | .ok .cont, h => exact False.elim h
  | .error er, h => exact False.elim h
theorem called_ok (e : AtEnd K mg mb cs a vs ns s₁) (F : KeepsAt P w K mg cs fa) : CalledOk P w fa a s₁ := by
  have rv := vals_ints e.whole
  have lenV := e.whole.length
  cases hk : K.lookup a with
  | some o =>
    have hs := e.kin a o hk
    rw [e.script] at hs
    cases hs
    refine called_core e F (sc := fun _ => none) (fun b u h => nomatch h) (.inr ⟨_, vs.toArray, _, hk, rfl, rfl, rfl, by rw [List.size_toArray, lenV]; exact e.long, by simpa using rv⟩) fun b u h => ?_
    rcases trk0_or h with h1 | ⟨h1, rfl, _⟩
    · cases h1
    · exact e.tabAt h1
  | none =>
    refine called_core e F (sc := fun b => if b = a then some (.frz { cls := .type "list", data := .seq vs.toArray } (.lst (ns.map V.int))) else none) (fun b u h => ?_) (.inl (.inr ⟨{ cls := .type "list", data := .seq vs.toArray }, ?_⟩)) fun b u h => ?_
    · by_cases q : b = a
      · have h : (if b = a then some (HO.frz { cls := .type "list", data := .seq vs.toArray } (.lst (ns.map V.int))) else none) = some u := h
        rw [if_pos q] at h
        exact ⟨q, hk, _, _, (Option.some.inj h).symm⟩
      · have h : (if b = a then some (HO.frz { cls := .type "list", data := .seq vs.toArray } (.lst (ns.map V.int))) else none) = some u := h
        rw [if_neg q] at h
        cases h
    · unfold trk0
      show Option.orElse (if a = a then some _ else none) _ = _
      rw [if_pos rfl]
      rfl
    · rcases trk0_or h with h1 | ⟨h1, rfl, _⟩
      · have h1 : (if b = a then some (HO.frz { cls := .type "list", data := .seq vs.toArray } (.lst (ns.map V.int))) else none) = some u := h1
        by_cases q : b = a
        · rw [if_pos q] at h1
          cases h1
          rw [q]
          exact ⟨e.script, by rw [List.length_map]; exact e.long, vs, _, rv, e.script⟩
        · rw [if_neg q] at h1
          cases h1
      · exact e.tabAt h1
end
end K31
namespace K31
open PySem PySem.Spec PyProof.Rows L2 LamX
section
variable {P : Program} {w : World} {K : PySem.W.Frag} {mg : Str → Option Value}
theorem tabs_new {H : Hp} {l : List (Addr × Str)} (h : ∀ p ∈ l, H p.1 = some (.tbl #[])) : Tabs l H := fun p hp => ⟨#[], h p hp, True.intro, fun pos cv hc => by
  have z : codeAmong pos [] = some cv := hc
  cases z⟩
theorem keeps_law (T : Txt K mg) : KeepsAt P w K mg (tf.map (He.cT K)) (He.ga K "law") := by
  intro base s H a ns hK hG hTB e0 hH hS
  have TB : Tbs K mg base := ⟨hTB _ (by simp [tf]), hTB _ (by simp [tf])⟩
  have hT : Tabs (TT K) H := tabs_new fun p hp => by
    rcases List.mem_cons.mp hp with e | hp
    · rw [e]; exact hH (He.cT K ("Board", some "settle")) (by simp [tf])
    · rw [List.mem_singleton.mp hp]; exact hH (He.cT K ("Board", some "climb")) (by simp [tf])
  obtain ⟨fd, F⟩ := T.F_s_law
  have hb : Binds K fd ["_law_script"] [] := F.bindsN fun _ _ _ _ _ _ us hl => match us, hl with | [_], _ => rfl
  obtain ⟨oc, od, dV, kV, doc, pm, an, cdv, ct, osl, rfl, lk, hcd, _, _⟩ := F.ex
  have KX : K.In s.heap := e0.mod.kin.keeps fun b o q => (e0.bs b o q).1
  refine run_ofS (N := N_law) (ps := ["_law_script"]) (us := [.ref a]) (vs := [.ref a]) (k := 12) lk hcd sc_law ⟨rfl, by decide, by decide⟩ e0 (hb s [.ref a] KX rfl) (.cons rfl .nil) rfl fun hr => ?_
  obtain ⟨t, h1, h2⟩ := law_body (P := P) (w := w) T TB cdv callerA [] s H a ns (fun v _ => v = .bl true) E0 hr rfl hS hT fun _ => rfl
  exact ⟨t, h1.nox, h2⟩
end
end K31
open PySem PySem.W PySem.Calls PyProof.Rows
theorem PySem.Challenge.cw_signbook_k31_whole_priced_tasks_holds : PySem.Challenge.rw_signbook_k31_whole_priced_tasks.Holds := by
  w_on; o_law
  refine HandSHeadRun.head_any (r := K31.R) (q := view K31.R.prog [67]) (H := K31.hk) (ob := K31.ob) (M := 6000) (loose := K31.names) (d := HandSHeadRun.topDef K31.R.prog 67) (kwd := []) K31.ob_eq
    (by kernel_rfl) (fun s => by kernel_rfl) K31.run (by kernel_rfl) (by kernel_rfl) (by kernel_rfl) (by rfl) (by first | assumption | decide +kernel) (by decide +kernel) ⟨rfl, rfl, rfl, rfl, rfl, by decide +kernel⟩ ?hw ?hc
  case hw => w_witness2
  case hc =>
    refine Att.attach_callB (l := PySem.Challenge.rw_signbook_k31_whole_priced_tasks) (n := 63) rfl (by kernel_rfl) fun w s₀ s₁ mg mb fa o pm cd doc a vs ns G Y ho hd hcd hmg0 hobj hints hlen hbits hg => ?_
    obtain ⟨K, KX, c⟩ := Y
    have hmg : mg ("law" : PySem.Str) = some (.ref fa) := by
      have e : (HandSHeadRun.topDef K31.R.prog 67).name = ("law" : PySem.Str) := by kernel_rfl
      rw [← e]
      exact hmg0
    have T := K31.txt_of KX G.T.g c.t.d c.more
    have ef := hmg.symm.trans T.g_law
    cases ef
    refine K31.called_ok (cs := K31.tf.map (He.cT K)) ⟨KX, G.T.g, G.T.b, G.T.builtins, G.T.nolimit, hg, fun p hp => ?_, fun p hp => ?_, fun p hp => ?_, G.T.bmain, hobj, hints, Nat.le_trans hlen (by decide)⟩ (K31.keeps_law T)
    · obtain ⟨p', hp', rfl⟩ := List.mem_map.mp hp
      exact c.empty p' hp'
    · obtain ⟨p', hp', rfl⟩ := List.mem_map.mp hp
      exact c.out p' hp'
    · obtain ⟨p', hp', rfl⟩ := List.mem_map.mp hp
      exact PySem.W.codeHd_of_K KX (c.hd p' hp')
