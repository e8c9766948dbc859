import PyProof.Rows.All
import Wide.All
import OpenK.AllK
import Wide.FinOn
import PyProof.ListMulRoad
import PyProof.FactsAll.tuple_2
import KE.GoesMore
import HandS.ForMost
import HandS.IsInst
import HandS.Zip
import HandS.Walk
import HandS.TupAny
import HandS.TupMul
import HandS.Flow
import HandS.Strs
import HandS.SetFor
import HandS.Codes
import PySem.Challenge.RW_bestunmoved_k60_whole_parts_exchanged_by
set_option Elab.async false
set_option linter.all false
set_option maxRecDepth 100000
set_option maxHeartbeats 4000000
namespace K60
/-! ### walks -/
abbrev Mx := Nat → Nat → Option Int
/-- walks of steps of M among the doors below n: begin, end, worth -/
inductive Wk (n : Nat) (M : Mx) : Nat → Nat → Int → Prop where
  | nil {x : Nat} (h : x < n) : Wk n M x x 0
  | cons {x y z : Nat} {g w v : Int} (h : x < n) (e : M x y = some g) (r : Wk n M y z w) (q : v = g + w) : Wk n M x z v
section
variable {n : Nat} {M M' : Mx} {x y z : Nat} {v w g : Int}
theorem Wk.left (h : Wk n M x y v) : x < n := by cases h <;> assumption
theorem Wk.right (h : Wk n M x y v) : y < n := by
  induction h with
  | nil h => exact h
  | cons _ _ _ _ ih => exact ih
theorem Wk.trans (a : Wk n M x y v) (b : Wk n M y z w) : Wk n M x z (v + w) := by
  induction a with
  | nil h => rw [Int.zero_add]; exact b
  | cons h e r q ih => exact .cons h e (ih b) (by omega)
theorem Wk.one (h : x < n) (h2 : y < n) (e : M x y = some g) : Wk n M x y g := .cons h e (.nil h2) (by omega)
theorem Wk.snoc (a : Wk n M x y v) (h : z < n) (e : M y z = some g) : Wk n M x z (v + g) := a.trans (.one a.right h e)
theorem Wk.mono (k : ∀ x y g, x < n → M x y = some g → M' x y = some g) (a : Wk n M x y v) : Wk n M' x y v := by
  induction a with
  | nil h => exact .nil h
  | cons h e r q ih => exact .cons h (k _ _ _ h e) ih q
theorem Wk.last (a : Wk n M x z v) : (x = z ∧ v = 0) ∨ ∃ y w g, Wk n M x y w ∧ M y z = some g ∧ v = w + g := by
  induction a with
  | nil h => exact .inl ⟨rfl, rfl⟩
  | @cons x y z g w v h e r q ih =>
    rcases ih with ⟨rfl, rfl⟩ | ⟨u, w', g', a', e', rfl⟩
    · exact .inr ⟨x, 0, g, .nil h, e, by omega⟩
    · exact .inr ⟨u, g + w', g', .cons h e a' rfl, e', by omega⟩
/-- no closed walk is worth more than 0 -/
def Kept (n : Nat) (M : Mx) : Prop := ∀ x v, Wk n M x x v → v ≤ 0
/-- the greatest worth of walks from x to y -/
def Best (n : Nat) (M : Mx) (x y : Nat) : Option Int → Prop
  | none => ∀ v, ¬ Wk n M x y v
  | some g => Wk n M x y g ∧ ∀ v, Wk n M x y v → v ≤ g
theorem Best.uniq {r r' : Option Int} (a : Best n M x y r) (b : Best n M x y r') : r = r' := by
  cases r with
  | none =>
    cases r' with
    | none => rfl
    | some g => exact absurd b.1 (a g)
  | some g =>
    cases r' with
    | none => exact absurd a.1 (b g)
    | some g' =>
      have h1 := a.2 _ b.1
      have h2 := b.2 _ a.1
      congr 1
      omega
theorem Kept.self (k : Kept n M) (h : x < n) : Best n M x x (some 0) := ⟨.nil h, fun v a => k x v a⟩
/-- a potential -/
theorem kept_of_pot (p : Nat → Int) (h : ∀ x y g, x < n → y < n → M x y = some g → p x + g ≤ p y) : Kept n M := by
  have go : ∀ x y v, Wk n M x y v → p x + v ≤ p y := by
    intro x y v a
    induction a with
    | nil _ => omega
    | cons h1 e r q ih =>
      have := h _ _ _ h1 r.left e
      omega
  intro x v a
  have := go x x v a
  omega
end

/-! ### the greatest sums by middle doors -/
def Ge (B : Mx) (x y : Nat) (v : Int) : Prop := ∃ g, B x y = some g ∧ v ≤ g
theorem Ge.le {B : Mx} {x y : Nat} {v w : Int} (h : Ge B x y v) (l : w ≤ v) : Ge B x y w := let ⟨g, e, q⟩ := h; ⟨g, e, by omega⟩
/-- walks of one step or more, the doors between below k -/
inductive Pth (n : Nat) (M : Mx) (k : Nat) : Nat → Nat → Int → Prop where
  | one {x y : Nat} {g : Int} (h : x < n) (h2 : y < n) (e : M x y = some g) : Pth n M k x y g
  | cons {x y z : Nat} {g w v : Int} (h : x < n) (hk : y < k) (e : M x y = some g) (r : Pth n M k y z w) (q : v = g + w) : Pth n M k x z v
section
variable {n k : Nat} {M B B' : Mx} {x y z : Nat} {v w g : Int}
theorem Pth.wk (a : Pth n M k x y v) : Wk n M x y v := by
  induction a with
  | one h h2 e => exact .one h h2 e
  | cons h hk e r q ih => exact .cons h e ih q
theorem Wk.pth (a : Wk n M x y v) : (x = y ∧ v = 0) ∨ Pth n M n x y v := by
  induction a with
  | nil h => exact .inl ⟨rfl, rfl⟩
  | @cons x y z g w v h e r q ih =>
    rcases ih with ⟨rfl, rfl⟩ | ih
    · refine .inr ?_
      have : v = g := by omega
      subst this
      exact .one h r.left e
    · exact .inr (.cons h r.left e ih q)
theorem Pth.split (loops : ∀ c, Pth n M k k k c → c ≤ 0) (a : Pth n M (k + 1) x y v) : Pth n M k x y v ∨ ∃ p q, Pth n M k x k p ∧ Pth n M k k y q ∧ v ≤ p + q := by
  induction a with
  | one h h2 e => exact .inl (.one h h2 e)
  | @cons x y z g w v h hk e r q ih =>
    by_cases hy : y = k
    · subst hy
      have hn : y < n := r.wk.left
      rcases ih with ih | ⟨p, s, hp, hs, l⟩
      · exact .inr ⟨g, w, .one h hn e, ih, by omega⟩
      · have := loops p hp
        exact .inr ⟨g, s, .one h hn e, hs, by omega⟩
    · have hy' : y < k := by omega
      rcases ih with ih | ⟨p, s, hp, hs, l⟩
      · exact .inl (.cons h hy' e ih q)
      · exact .inr ⟨g + p, s, .cons h hy' e hp rfl, hs, by omega⟩
def Sound (n : Nat) (M B : Mx) : Prop := ∀ x y g, x < n → y < n → B x y = some g → Wk n M x y g
def Cover (n : Nat) (M : Mx) (k : Nat) (B : Mx) : Prop := ∀ x y v, Pth n M k x y v → Ge B x y v
def NoPos (n : Nat) (B : Mx) : Prop := ∀ x g, x < n → B x x = some g → g ≤ 0
/-- B' is B or more -/
def Up (n : Nat) (B B' : Mx) : Prop := ∀ x y v, x < n → y < n → Ge B x y v → Ge B' x y v
theorem Up.refl : Up n B B := fun _ _ _ _ _ h => h
theorem Up.trans {B1 B2 B3 : Mx} (a : Up n B1 B2) (b : Up n B2 B3) : Up n B1 B3 := fun x y v h1 h2 h => b x y v h1 h2 (a x y v h1 h2 h)
theorem NoPos.down (u : Up n B B') (h : NoPos n B') : NoPos n B := fun x g hx e => by
  obtain ⟨g', e', l⟩ := u x x g hx hx ⟨g, e, Int.le_refl g⟩
  have := h x g' hx e'
  omega
/-- after k middle doors -/
structure Mid (n : Nat) (M : Mx) (k : Nat) (B : Mx) : Prop where
  sound : Sound n M B
  cover : NoPos n B → Cover n M k B
theorem Mid.step (m : Mid n M k B) (hk : k < n) (s : Sound n M B') (u : Up n B B') (r : ∀ x y a b, x < n → y < n → B x k = some a → B k y = some b → Ge B' x y (a + b)) : Mid n M (k + 1) B' := by
  refine ⟨s, fun np x y v a => ?_⟩
  have np' := np.down u
  have c := m.cover np'
  have hx := a.wk.left
  have hy := a.wk.right
  rcases a.split (fun c' hc => by
    obtain ⟨g, e, l⟩ := c k k c' hc
    have := np' k g hk e
    omega) with a | ⟨p, q, hp, hq, l⟩
  · exact u x y v hx hy (c x y v a)
  · obtain ⟨g1, e1, l1⟩ := c x k p hp
    obtain ⟨g2, e2, l2⟩ := c k y q hq
    exact (r x y g1 g2 hx hy e1 e2).le (by omega)
theorem Mid.start (s : Sound n M B) (h : ∀ x y g, x < n → y < n → M x y = some g → Ge B x y g) : Mid n M 0 B := by
  refine ⟨s, fun _ x y v a => ?_⟩
  cases a with
  | one h1 h2 e => exact h _ _ _ h1 h2 e
  | cons _ hk _ _ _ => exact absurd hk (Nat.not_lt_zero _)
theorem Mid.bad (m : Mid n M k B) (hx : x < n) (e : B x x = some g) (hg : 0 < g) : ¬ Kept n M := fun q => by
  have := q x g (m.sound x x g hx hx e)
  omega
theorem Mid.kept (m : Mid n M n B) (np : NoPos n B) : Kept n M := fun x v a => by
  rcases a.pth with ⟨_, rfl⟩ | p
  · exact Int.le_refl 0
  · obtain ⟨g, e, l⟩ := m.cover np x x v p
    have := np x g a.left e
    omega
theorem Mid.best (m : Mid n M n B) (np : NoPos n B) (hx : x < n) (hy : y < n) (ne : x ≠ y) : Best n M x y (B x y) := by
  have all : ∀ v, Wk n M x y v → Ge B x y v := fun v a => by
    rcases a.pth with ⟨e, _⟩ | p
    · exact absurd e ne
    · exact m.cover np x y v p
  cases e : B x y with
  | none =>
    intro v a
    obtain ⟨g, e', _⟩ := all v a
    rw [e] at e'
    cases e'
  | some g =>
    refine ⟨m.sound x y g hx hy e, fun v a => ?_⟩
    obtain ⟨g', e', l⟩ := all v a
    rw [e] at e'
    cases e'
    exact l
end

/-! ### parts: a table, waits -/
/-- the steps: the entry less the wait of the begin -/
def stp (t : Mx) (w : Nat → Int) : Mx := fun x y => if x = y then none else (t x y).map (· - w x)
/-- .. less the wait of the end -/
def stpL (t : Mx) (w : Nat → Int) : Mx := fun x y => if x = y then none else (t x y).map (· - w y)
abbrev Kp (n : Nat) (t : Mx) (w : Nat → Int) : Prop := Kept n (stp t w)
/-- r is the gain from x to y -/
def Gain (n : Nat) (t : Mx) (w : Nat → Int) (x y : Nat) (r : Option Int) : Prop := Best n (stp t w) x y (r.map (· + w y))
section
variable {n : Nat} {t : Mx} {w : Nat → Int} {x y : Nat} {v : Int} {r r' : Option Int}
theorem Gain.uniq (a : Gain n t w x y r) (b : Gain n t w x y r') : r = r' := by
  have h := Best.uniq a b
  cases r with
  | none =>
    cases r' with
    | none => rfl
    | some _ => cases h
  | some g =>
    cases r' with
    | none => cases h
    | some g' =>
      have e : g + w y = g' + w y := Option.some.inj h
      congr 1
      omega
theorem stp_some {g : Int} (h : stp t w x y = some g) : x ≠ y ∧ t x y = some (g + w x) := by
  unfold stp at h
  by_cases e : x = y
  · rw [if_pos e] at h; cases h
  · rw [if_neg e] at h
    refine ⟨e, ?_⟩
    cases q : t x y with
    | none => rw [q] at h; cases h
    | some a =>
      rw [q] at h
      have : a - w x = g := Option.some.inj h
      congr 1
      omega
theorem stp_of {a : Int} (ne : x ≠ y) (h : t x y = some a) : stp t w x y = some (a - w x) := by
  unfold stp
  rw [if_neg ne, h]
  rfl
theorem stpL_some {g : Int} (h : stpL t w x y = some g) : x ≠ y ∧ t x y = some (g + w y) := by
  unfold stpL at h
  by_cases e : x = y
  · rw [if_pos e] at h; cases h
  · rw [if_neg e] at h
    refine ⟨e, ?_⟩
    cases q : t x y with
    | none => rw [q] at h; cases h
    | some a =>
      rw [q] at h
      have : a - w y = g := Option.some.inj h
      congr 1
      omega
theorem stpL_of {a : Int} (ne : x ≠ y) (h : t x y = some a) : stpL t w x y = some (a - w y) := by
  unfold stpL
  rw [if_neg ne, h]
  rfl
theorem wkL (a : Wk n (stpL t w) x y v) : Wk n (stp t w) x y (v + w y - w x) := by
  induction a with
  | @nil x h =>
    have : (0 : Int) + w x - w x = 0 := by omega
    rw [this]
    exact .nil h
  | cons h e r q ih =>
    obtain ⟨ne, e'⟩ := stpL_some e
    exact .cons h (stp_of ne e') ih (by omega)
theorem wkR (a : Wk n (stp t w) x y v) : Wk n (stpL t w) x y (v + w x - w y) := by
  induction a with
  | @nil x h =>
    have : (0 : Int) + w x - w x = 0 := by omega
    rw [this]
    exact .nil h
  | cons h e r q ih =>
    obtain ⟨ne, e'⟩ := stp_some e
    exact .cons h (stpL_of ne e') ih (by omega)
theorem kept_LR : Kept n (stpL t w) ↔ Kp n t w := by
  constructor
  · intro k x v a
    have := k x _ (wkR a)
    omega
  · intro k x v a
    have := k x _ (wkL a)
    omega
/-- the gain out of the best by the one steps, by the other -/
theorem gain_of_best {b : Option Int} (h : Best n (stp t w) x y b) : Gain n t w x y (b.map (· - w y)) := by
  unfold Gain
  cases b with
  | none => exact h
  | some g =>
    show Best n (stp t w) x y (some (g - w y + w y))
    have : g - w y + w y = g := by omega
    rw [this]
    exact h
theorem gain_of_bestL {b : Option Int} (h : Best n (stpL t w) x y b) : Gain n t w x y (b.map (· - w x)) := by
  unfold Gain
  cases b with
  | none => exact fun v a => h _ (wkR a)
  | some g =>
    refine ⟨?_, fun v a => ?_⟩
    · have := wkL h.1
      have e : g + w y - w x = g - w x + w y := by omega
      rw [e] at this
      exact this
    · have := h.2 _ (wkR a)
      show v ≤ g - w x + w y
      omega
theorem Kept.gain (k : Kp n t w) (hx : x < n) : Gain n t w x x (some (0 - w x)) := by
  have h := gain_of_best (k.self hx)
  exact h
end

/-! ### two squares, one after the other -/
structure OfTwo (n : Nat) (A B C : Mx) : Prop where
  ge : ∀ x s y a b, x < n → s < n → y < n → A x s = some a → B s y = some b → Ge C x y (a + b)
  is : ∀ x y g, x < n → y < n → C x y = some g → ∃ s a b, s < n ∧ A x s = some a ∧ B s y = some b ∧ g = a + b

/-! ### linked: a whole with sides, its outer doors -/
structure Link (n : Nat) (M : Mx) (sd : Nat → Bool) (W : Nat → Int) (K : Nat) (O : Nat → Nat) (Wn Ac C : Mx) : Prop where
  lt : ∀ i, i < K → O i < n
  inn : ∀ i j, i < K → j < K → Best n (fun x y => if sd x = sd y then M x y else none) (O i) (O j) ((Wn i j).map (· + W (O j)))
  out : ∀ x y g, x < n → y < n → sd x ≠ sd y → M x y = some g → ∃ i j, i < K ∧ j < K ∧ x = O i ∧ y = O j ∧ Ac i j = some (g + W x)
  back : ∀ i j e, i < K → j < K → Ac i j = some e → M (O i) (O j) = some (e - W (O i))
  two : OfTwo K Wn Ac C
section
variable {n K : Nat} {M Wn Ac C : Mx} {sd : Nat → Bool} {W : Nat → Int} {O : Nat → Nat}
abbrev Min (sd : Nat → Bool) (M : Mx) : Mx := fun x y => if sd x = sd y then M x y else none
theorem min_some {x y : Nat} {g : Int} (h : Min sd M x y = some g) : M x y = some g := by
  unfold Min at h
  split at h
  · exact h
  · cases h
theorem wk_min {x y : Nat} {v : Int} (a : Wk n (Min sd M) x y v) : Wk n M x y v := a.mono fun _ _ _ _ e => min_some e
theorem Link.ge (L : Link n M sd W K O Wn Ac C) {i j : Nat} {v : Int} (hi : i < K) (hj : j < K) (a : Wk n (Min sd M) (O i) (O j) v) : ∃ h, Wn i j = some h ∧ v ≤ h + W (O j) := by
  have b := L.inn i j hi hj
  cases e : Wn i j with
  | none =>
    rw [e] at b
    exact absurd a (b v)
  | some h =>
    rw [e] at b
    exact ⟨h, rfl, b.2 v a⟩
theorem Link.is (L : Link n M sd W K O Wn Ac C) {i j : Nat} {h : Int} (hi : i < K) (hj : j < K) (e : Wn i j = some h) : Wk n M (O i) (O j) (h + W (O j)) := by
  have b := L.inn i j hi hj
  rw [e] at b
  exact wk_min b.1
theorem Link.upper0 (L : Link n M sd W K O Wn Ac C) {j : Nat} (hj : j < K) {x y : Nat} {v : Int} (a : Wk n M x y v) (hy : y = O j) : Wk n (Min sd M) x y v ∨
    ∃ a b c v1 e w h, a < K ∧ b < K ∧ c < K ∧ Wk n (Min sd M) x (O a) v1 ∧ Ac a b = some e ∧ Wk K C b c w ∧ Wn c j = some h ∧ v ≤ v1 - W (O a) + e + w + h + W (O j) := by
  induction a with
  | nil h => exact .inl (.nil h)
  | @cons x y z g w v hx e r q ih =>
    subst hy
    by_cases hs : sd x = sd y
    · have em : Min sd M x y = some g := by
        unfold Min
        rw [if_pos hs]
        exact e
      rcases ih rfl with ih | ⟨a, b, c, v1, e1, w1, h1, ha, hb, hc, k1, k2, k3, k4, l⟩
      · exact .inl (.cons hx em ih q)
      · exact .inr ⟨a, b, c, g + v1, e1, w1, h1, ha, hb, hc, .cons hx em k1 rfl, k2, k3, k4, by omega⟩
    · obtain ⟨a, b, ha, hb, rfl, rfl, hA⟩ := L.out x y g hx r.left hs e
      rcases ih rfl with ih | ⟨a', b', c', v1, e1, w1, h1, ha', hb', hc', k1, k2, k3, k4, l⟩
      · obtain ⟨h, hh, l⟩ := L.ge hb hj ih
        exact .inr ⟨a, b, b, 0, _, 0, h, ha, hb, hb, .nil hx, hA, .nil hb, hh, by omega⟩
      · obtain ⟨h, hh, l'⟩ := L.ge hb ha' k1
        obtain ⟨gc, ec, lc⟩ := L.two.ge b a' b' h e1 hb ha' hb' hh k2
        exact .inr ⟨a, b, c', 0, _, gc + w1, h1, ha, hb, hc', .nil hx, hA, .cons hb ec k3 rfl, k4, by omega⟩
theorem Link.upper (L : Link n M sd W K O Wn Ac C) {i j : Nat} {v : Int} (hi : i < K) (hj : j < K) (a : Wk n M (O i) (O j) v) : ∃ c w h, c < K ∧ Wk K C i c w ∧ Wn c j = some h ∧ v ≤ w + h + W (O j) := by
  rcases L.upper0 hj a rfl with a | ⟨a, b, c, v1, e, w, h, ha, hb, hc, k1, k2, k3, k4, l⟩
  · obtain ⟨h, hh, l⟩ := L.ge hi hj a
    exact ⟨i, 0, h, hi, .nil hi, hh, by omega⟩
  · obtain ⟨h1, hh, l'⟩ := L.ge hi ha k1
    obtain ⟨gc, ec, lc⟩ := L.two.ge i a b h1 e hi ha hb hh k2
    exact ⟨c, gc + w, h, hc, .cons hi ec k3 rfl, k4, by omega⟩
theorem Link.lower (L : Link n M sd W K O Wn Ac C) {i c j : Nat} {w h : Int} (a : Wk K C i c w) (hj : j < K) (e : Wn c j = some h) : Wk n M (O i) (O j) (w + h + W (O j)) := by
  induction a with
  | nil hx =>
    have := L.is hx hj e
    rw [Int.zero_add]
    exact this
  | @cons x y z g w v hx eg r q ih =>
    obtain ⟨s, a1, b1, hs, k1, k2, rfl⟩ := L.two.is x y g hx r.left eg
    have p := (L.is hx hs k1).trans (.cons (L.lt s hs) (L.back s y b1 hs r.left k2) (ih e) rfl)
    have e2 : a1 + W (O s) + (b1 - W (O s) + (w + h + W (O j))) = v + h + W (O j) := by omega
    rw [e2] at p
    exact p
theorem Link.kept (L : Link n M sd W K O Wn Ac C) (ki : Kept n (Min sd M)) (kc : Kept K C) : Kept n M := by
  intro x v a
  have dec : ∀ {x y : Nat} {v : Int}, Wk n M x y v → Wk n (Min sd M) x y v ∨ ∃ s s' v1 g v2, Wk n M x s v1 ∧ sd s ≠ sd s' ∧ M s s' = some g ∧ Wk n M s' y v2 ∧ v = v1 + g + v2 := by
    intro x y v a
    induction a with
    | nil h => exact .inl (.nil h)
    | @cons x y z g w v hx e r q ih =>
      by_cases hs : sd x = sd y
      · have em : Min sd M x y = some g := by
          unfold Min
          rw [if_pos hs]
          exact e
        rcases ih with ih | ⟨s, s', v1, g1, v2, k1, k2, k3, k4, l⟩
        · exact .inl (.cons hx em ih q)
        · exact .inr ⟨s, s', g + v1, g1, v2, .cons hx e k1 rfl, k2, k3, k4, by omega⟩
      · exact .inr ⟨x, y, 0, g, w, .nil hx, hs, e, r, by omega⟩
  rcases dec a with a | ⟨s, s', v1, g, v2, k1, k2, k3, k4, rfl⟩
  · exact ki x v a
  · obtain ⟨i, j, hi, hj, rfl, rfl, hA⟩ := L.out s s' g k1.right k4.left k2 k3
    obtain ⟨c, w, h, hc, p1, p2, l⟩ := L.upper hj hi (k4.trans k1)
    obtain ⟨gc, ec, lc⟩ := L.two.ge c i j h _ hc hi hj p2 hA
    have := kc j _ (p1.snoc hj ec)
    omega
theorem Link.keptC (L : Link n M sd W K O Wn Ac C) (k : Kept n M) : Kept K C := by
  intro i v a
  have hi := a.left
  rcases a.last with ⟨_, rfl⟩ | ⟨c, w, g, a', e, rfl⟩
  · exact Int.le_refl 0
  · obtain ⟨s, a1, b1, hs, k1, k2, rfl⟩ := L.two.is c i g a'.right hi e
    have p := L.lower a' hs k1
    have q := p.snoc (L.lt i hi) (L.back s i b1 hs hi k2)
    have := k _ _ q
    omega
theorem kept_min (k : Kept n M) : Kept n (Min sd M) := fun x v a => k x v (wk_min a)
theorem Link.best (L : Link n M sd W K O Wn Ac C) {S R : Mx} (hS : ∀ i j, i < K → j < K → Best K C i j (S i j)) (hR : OfTwo K S Wn R) {i j : Nat} (hi : i < K) (hj : j < K) : Best n M (O i) (O j) ((R i j).map (· + W (O j))) := by
  have up : ∀ v, Wk n M (O i) (O j) v → ∃ g, R i j = some g ∧ v ≤ g + W (O j) := fun v a => by
    obtain ⟨c, w, h, hc, p1, p2, l⟩ := L.upper hi hj a
    have b := hS i c hi hc
    cases e : S i c with
    | none =>
      rw [e] at b
      exact absurd p1 (b w)
    | some u =>
      rw [e] at b
      obtain ⟨g, eg, lg⟩ := hR.ge i c j u h hi hc hj e p2
      have := b.2 w p1
      exact ⟨g, eg, by omega⟩
  cases e : R i j with
  | none =>
    intro v a
    obtain ⟨g, eg, _⟩ := up v a
    rw [e] at eg
    cases eg
  | some g =>
    refine ⟨?_, fun v a => ?_⟩
    · obtain ⟨s, a1, b1, hs, k1, k2, rfl⟩ := hR.is i j g hi hj e
      have b := hS i s hi hs
      rw [k1] at b
      exact L.lower b.1 hj k2
    · obtain ⟨g', eg, l⟩ := up v a
      rw [e] at eg
      cases eg
      exact l
end
end K60

namespace K60
/-! ### two tables linked -/
/-- M is the table of both, linked -/
structure Lnk (n1 n2 : Nat) (t1 t2 : Mx) (k1 k2 : Nat) (o1 o2 : Nat → Nat) (th bk : Mx) (M : Mx) : Prop where
  in1 : ∀ x y, x < n1 → y < n1 → M x y = t1 x y
  in2 : ∀ x y, x < n2 → y < n2 → M (n1 + x) (n1 + y) = t2 x y
  th_ : ∀ i j, i < k1 → j < k2 → M (o1 i) (n1 + o2 j) = (th i j).map (0 - ·)
  bk_ : ∀ i j, i < k1 → j < k2 → M (n1 + o2 j) (o1 i) = (bk j i).map (0 - ·)
  no : ∀ x y, x < n1 → y < n2 → (∀ i j, i < k1 → j < k2 → ¬ (o1 i = x ∧ o2 j = y)) → M x (n1 + y) = none ∧ M (n1 + y) x = none
/-- the duties across, between the outer doors -/
def acr (k1 : Nat) (th bk : Mx) : Mx := fun x y => if x < k1 then (if y < k1 then none else (th x (y - k1)).map (0 - ·)) else (if y < k1 then (bk (x - k1) y).map (0 - ·) else none)
def blk (n : Nat) (A B : Mx) : Mx := fun x y => if x < n then (if y < n then A x y else none) else (if y < n then none else B (x - n) (y - n))
def offD (R : Mx) : Mx := fun x y => if x = y then none else R x y
def GainsRes (n : Nat) (t : Mx) (w : Nat → Int) (k : Nat) (o : Nat → Nat) : Option Mx → Prop
  | none => ¬ Kp n t w
  | some G => Kp n t w ∧ ∀ i j, i < k → j < k → Gain n t w (o i) (o j) (G i j)
/-- what linked_gains gives -/
def LinkRes (k1 k2 : Nat) (r1 r2 : Option Mx) (th bk : Mx) (r : Option Mx) : Prop :=
  match r1, r2 with
  | some G1, some G2 => ∃ C, OfTwo (k1 + k2) (blk k1 G1 G2) (acr k1 th bk) C ∧
    match r with
    | none => ¬ Kept (k1 + k2) (offD C)
    | some R => Kept (k1 + k2) (offD C) ∧ ∃ S : Mx, (∀ i j, i < k1 + k2 → j < k1 + k2 → Best (k1 + k2) (offD C) i j (S i j)) ∧ OfTwo (k1 + k2) S (blk k1 G1 G2) R
  | _, _ => r = none
def join (n : Nat) (w1 w2 : Nat → Int) : Nat → Int := fun x => if x < n then w1 x else w2 (x - n)
def joinO (n k : Nat) (o1 o2 : Nat → Nat) : Nat → Nat := fun i => if i < k then o1 i else n + o2 (i - k)
section
variable {n1 n2 k1 k2 : Nat} {t1 t2 th bk T : Mx} {o1 o2 : Nat → Nat} {w1 w2 : Nat → Int}
abbrev sdOf (n : Nat) : Nat → Bool := fun x => decide (x < n)
theorem sd_eq {n x y : Nat} : sdOf n x = sdOf n y ↔ (x < n ↔ y < n) := by
  unfold sdOf
  by_cases h1 : x < n
  · by_cases h2 : y < n <;> simp [h1, h2]
  · by_cases h2 : y < n <;> simp [h1, h2]
/-- walks within the first, within the whole -/
theorem in1_up (L : Lnk n1 n2 t1 t2 k1 k2 o1 o2 th bk T) {x y : Nat} {v : Int} (a : Wk n1 (stp t1 w1) x y v) : Wk (n1 + n2) (Min (sdOf n1) (stp T (join n1 w1 w2))) x y v := by
  induction a with
  | nil h => exact .nil (by omega)
  | @cons x y z g w v h e r q ih =>
    have hy := r.left
    refine .cons (by omega) ?_ ih q
    obtain ⟨ne, e'⟩ := stp_some e
    unfold Min
    rw [if_pos (sd_eq.mpr (by omega))]
    have : T x y = some (g + w1 x) := by rw [L.in1 x y h hy]; exact e'
    rw [stp_of ne this]
    unfold join
    rw [if_pos h]
    congr 1
    omega
theorem in1_dn (L : Lnk n1 n2 t1 t2 k1 k2 o1 o2 th bk T) {x y : Nat} {v : Int} (a : Wk (n1 + n2) (Min (sdOf n1) (stp T (join n1 w1 w2))) x y v) (hx : x < n1) : y < n1 ∧ Wk n1 (stp t1 w1) x y v := by
  induction a with
  | nil h => exact ⟨hx, .nil hx⟩
  | @cons x y z g w v h e r q ih =>
    have e1 := min_some e
    have hs : sdOf n1 x = sdOf n1 y := by
      by_cases hs : sdOf n1 x = sdOf n1 y
      · exact hs
      · unfold Min at e
        rw [if_neg hs] at e
        cases e
    have hy : y < n1 := (sd_eq.mp hs).mp hx
    obtain ⟨hz, r'⟩ := ih hy
    obtain ⟨ne, e'⟩ := stp_some e1
    rw [L.in1 x y hx hy] at e'
    refine ⟨hz, .cons hx ?_ r' q⟩
    rw [stp_of ne e']
    unfold join
    rw [if_pos hx]
    congr 1
    omega
theorem in2_up (L : Lnk n1 n2 t1 t2 k1 k2 o1 o2 th bk T) {x y : Nat} {v : Int} (a : Wk n2 (stp t2 w2) x y v) : Wk (n1 + n2) (Min (sdOf n1) (stp T (join n1 w1 w2))) (n1 + x) (n1 + y) v := by
  induction a with
  | nil h => exact .nil (by omega)
  | @cons x y z g w v h e r q ih =>
    have hy := r.left
    refine .cons (by omega) ?_ ih q
    obtain ⟨ne, e'⟩ := stp_some e
    unfold Min
    rw [if_pos (sd_eq.mpr (by omega))]
    have : T (n1 + x) (n1 + y) = some (g + w2 x) := by rw [L.in2 x y h hy]; exact e'
    rw [stp_of (by omega) this]
    unfold join
    rw [if_neg (by omega), Nat.add_sub_cancel_left]
    congr 1
    omega
theorem in2_dn (L : Lnk n1 n2 t1 t2 k1 k2 o1 o2 th bk T) {x y : Nat} {v : Int} (a : Wk (n1 + n2) (Min (sdOf n1) (stp T (join n1 w1 w2))) x y v) (hx : ¬ x < n1) : ¬ y < n1 ∧ Wk n2 (stp t2 w2) (x - n1) (y - n1) v := by
  induction a with
  | nil h => exact ⟨hx, .nil (by omega)⟩
  | @cons x y z g w v h e r q ih =>
    have e1 := min_some e
    have hs : sdOf n1 x = sdOf n1 y := by
      by_cases hs : sdOf n1 x = sdOf n1 y
      · exact hs
      · unfold Min at e
        rw [if_neg hs] at e
        cases e
    have hy : ¬ y < n1 := fun z => hx ((sd_eq.mp hs).mpr z)
    have hyn := r.left
    obtain ⟨hz, r'⟩ := ih hy
    obtain ⟨ne, e'⟩ := stp_some e1
    have q2 := L.in2 (x - n1) (y - n1) (by omega) (by omega)
    rw [show n1 + (x - n1) = x by omega, show n1 + (y - n1) = y by omega, e'] at q2
    refine ⟨hz, .cons (by omega) ?_ r' q⟩
    rw [stp_of (by omega) q2.symm]
    unfold join
    rw [if_neg hx]
    congr 1
    omega
theorem kept_in (L : Lnk n1 n2 t1 t2 k1 k2 o1 o2 th bk T) : Kept (n1 + n2) (Min (sdOf n1) (stp T (join n1 w1 w2))) ↔ Kp n1 t1 w1 ∧ Kp n2 t2 w2 := by
  constructor
  · intro k
    exact ⟨fun x v a => k x v (in1_up L a), fun x v a => k _ v (in2_up L a)⟩
  · rintro ⟨k1, k2⟩ x v a
    by_cases hx : x < n1
    · exact k1 x v (in1_dn L a hx).2
    · exact k2 _ v (in2_dn L a hx).2
theorem acr_th {i j : Nat} (hi : i < k1) : acr k1 th bk i (k1 + j) = (th i j).map (0 - ·) := by
  unfold acr
  rw [if_pos hi, if_neg (by omega), Nat.add_sub_cancel_left]
theorem acr_bk {i j : Nat} (hi : i < k1) : acr k1 th bk (k1 + j) i = (bk j i).map (0 - ·) := by
  unfold acr
  rw [if_neg (by omega), if_pos hi, Nat.add_sub_cancel_left]
theorem acr_self {x : Nat} : acr k1 th bk x x = none := by
  unfold acr
  by_cases h : x < k1
  · rw [if_pos h, if_pos h]
  · rw [if_neg h, if_neg h]
/-- the product of within and across has nothing from a door to itself -/
theorem two_off {K : Nat} {G1 G2 C : Mx} (h : OfTwo K (blk k1 G1 G2) (acr k1 th bk) C) : OfTwo K (blk k1 G1 G2) (acr k1 th bk) (offD C) where
  ge := fun x s y a b h1 h2 h3 h4 h5 => by
    have hxy : x ≠ y := by
      rintro rfl
      unfold blk at h4
      unfold acr at h5
      by_cases c1 : x < k1
      · by_cases c2 : s < k1
        · rw [if_pos c2, if_pos c1] at h5
          cases h5
        · rw [if_pos c1, if_neg c2] at h4
          cases h4
      · by_cases c2 : s < k1
        · rw [if_neg c1, if_pos c2] at h4
          cases h4
        · rw [if_neg c2, if_neg c1] at h5
          cases h5
    obtain ⟨g, e, l⟩ := h.ge x s y a b h1 h2 h3 h4 h5
    exact ⟨g, by unfold offD; rw [if_neg hxy]; exact e, l⟩
  is := fun x y g h1 h2 e => by
    unfold offD at e
    by_cases hxy : x = y
    · rw [if_pos hxy] at e
      cases e
    · rw [if_neg hxy] at e
      exact h.is x y g h1 h2 e
theorem map_neg {r : Option Int} {e : Int} (h : r.map (0 - ·) = some e) : ∃ g, r = some g ∧ e = 0 - g := by
  cases r with
  | none => cases h
  | some g => exact ⟨g, rfl, (Option.some.inj h).symm⟩
/-- the whole as a link of its two sides -/
theorem link_of (L : Lnk n1 n2 t1 t2 k1 k2 o1 o2 th bk T) (l1 : ∀ i, i < k1 → o1 i < n1) (l2 : ∀ i, i < k2 → o2 i < n2) {G1 G2 C : Mx} (g1 : ∀ i j, i < k1 → j < k1 → Gain n1 t1 w1 (o1 i) (o1 j) (G1 i j)) (g2 : ∀ i j, i < k2 → j < k2 → Gain n2 t2 w2 (o2 i) (o2 j) (G2 i j))
    (two : OfTwo (k1 + k2) (blk k1 G1 G2) (acr k1 th bk) C) : Link (n1 + n2) (stp T (join n1 w1 w2)) (sdOf n1) (join n1 w1 w2) (k1 + k2) (joinO n1 k1 o1 o2) (blk k1 G1 G2) (acr k1 th bk) (offD C) where
  lt := fun i hi => by
    unfold joinO
    by_cases h : i < k1
    · rw [if_pos h]
      have := l1 i h
      omega
    · rw [if_neg h]
      have := l2 (i - k1) (by omega)
      omega
  inn := fun i j hi hj => by
    show Best (n1 + n2) (Min (sdOf n1) (stp T (join n1 w1 w2))) _ _ _
    unfold joinO blk
    by_cases h : i < k1
    · rw [if_pos h, if_pos h]
      have li := l1 i h
      by_cases h' : j < k1
      · rw [if_pos h', if_pos h']
        have lj := l1 j h'
        have b := g1 i j h h'
        unfold Gain at b
        have ew : join n1 w1 w2 (o1 j) = w1 (o1 j) := if_pos lj
        rw [ew]
        cases e : G1 i j with
        | none =>
          rw [e] at b
          exact fun v a => b v (in1_dn L a li).2
        | some g =>
          rw [e] at b
          exact ⟨in1_up L b.1, fun v a => b.2 v (in1_dn L a li).2⟩
      · rw [if_neg h', if_neg h']
        intro v a
        have := (in1_dn L a li).1
        omega
    · rw [if_neg h, if_neg h]
      by_cases h' : j < k1
      · rw [if_pos h', if_pos h']
        intro v a
        have := (in2_dn L a (by omega)).1
        have := l1 j h'
        omega
      · rw [if_neg h', if_neg h']
        have b := g2 (i - k1) (j - k1) (by omega) (by omega)
        unfold Gain at b
        have ew : join n1 w1 w2 (n1 + o2 (j - k1)) = w2 (o2 (j - k1)) := by
          unfold join
          rw [if_neg (by omega), Nat.add_sub_cancel_left]
        rw [ew]
        cases e : G2 (i - k1) (j - k1) with
        | none =>
          rw [e] at b
          intro v a
          have := (in2_dn L a (by omega)).2
          rw [Nat.add_sub_cancel_left, Nat.add_sub_cancel_left] at this
          exact b v this
        | some g =>
          rw [e] at b
          refine ⟨in2_up L b.1, fun v a => ?_⟩
          have := (in2_dn L a (by omega)).2
          rw [Nat.add_sub_cancel_left, Nat.add_sub_cancel_left] at this
          exact b.2 v this
  out := fun x y g hx hy hs e => by
    obtain ⟨ne, e'⟩ := stp_some e
    have hs' : ¬ (x < n1 ↔ y < n1) := fun z => hs (sd_eq.mpr z)
    by_cases h : x < n1
    · have hy1 : ¬ y < n1 := fun z => hs' ⟨fun _ => z, fun _ => h⟩
      by_cases ex : ∃ i j, i < k1 ∧ j < k2 ∧ o1 i = x ∧ o2 j = y - n1
      · obtain ⟨i, j, hi, hj, rfl, hj'⟩ := ex
        refine ⟨i, k1 + j, by omega, by omega, by unfold joinO; rw [if_pos hi], by unfold joinO; rw [if_neg (by omega), Nat.add_sub_cancel_left]; omega, ?_⟩
        rw [acr_th hi, ← L.th_ i j hi hj, hj', show n1 + (y - n1) = y by omega]
        exact e'
      · have := (L.no x (y - n1) h (by omega) fun i j hi hj q => ex ⟨i, j, hi, hj, q.1, q.2⟩).1
        rw [show n1 + (y - n1) = y by omega, e'] at this
        cases this
    · have hy1 : y < n1 := by
        by_cases q : y < n1
        · exact q
        · exact absurd ⟨fun z => absurd z h, fun z => absurd z q⟩ hs'
      by_cases ex : ∃ i j, i < k1 ∧ j < k2 ∧ o1 i = y ∧ o2 j = x - n1
      · obtain ⟨i, j, hi, hj, rfl, hj'⟩ := ex
        refine ⟨k1 + j, i, by omega, by omega, by unfold joinO; rw [if_neg (by omega), Nat.add_sub_cancel_left]; omega, by unfold joinO; rw [if_pos hi], ?_⟩
        rw [acr_bk hi, ← L.bk_ i j hi hj, hj', show n1 + (x - n1) = x by omega]
        exact e'
      · have := (L.no y (x - n1) hy1 (by omega) fun i j hi hj q => ex ⟨i, j, hi, hj, q.1, q.2⟩).2
        rw [show n1 + (x - n1) = x by omega, e'] at this
        cases this
  back := fun i j e hi hj h => by
    unfold acr at h
    by_cases c1 : i < k1
    · rw [if_pos c1] at h
      by_cases c2 : j < k1
      · rw [if_pos c2] at h
        cases h
      · rw [if_neg c2] at h
        have q := L.th_ i (j - k1) c1 (by omega)
        rw [h] at q
        unfold joinO
        rw [if_pos c1, if_neg c2]
        have := l1 i c1
        exact stp_of (by omega) q
    · rw [if_neg c1] at h
      by_cases c2 : j < k1
      · rw [if_pos c2] at h
        have q := L.bk_ j (i - k1) c2 (by omega)
        rw [h] at q
        unfold joinO
        rw [if_neg c1, if_pos c2]
        have := l1 j c2
        exact stp_of (by omega) q
      · rw [if_neg c2] at h
        cases h
  two := two_off two
/-- linked gains are the gains of the linked table -/
theorem linked_gains_ok (L : Lnk n1 n2 t1 t2 k1 k2 o1 o2 th bk T) (l1 : ∀ i, i < k1 → o1 i < n1) (l2 : ∀ i, i < k2 → o2 i < n2) {r1 r2 r : Option Mx} (g1 : GainsRes n1 t1 w1 k1 o1 r1) (g2 : GainsRes n2 t2 w2 k2 o2 r2) (h : LinkRes k1 k2 r1 r2 th bk r) :
    GainsRes (n1 + n2) T (join n1 w1 w2) (k1 + k2) (joinO n1 k1 o1 o2) r := by
  cases r1 with
  | none =>
    have e : r = none := by
      cases r2 <;> exact h
    subst e
    exact fun k => g1 ((kept_in L).mp (kept_min k)).1
  | some G1 =>
    cases r2 with
    | none =>
      have e : r = none := h
      subst e
      exact fun k => g2 ((kept_in L).mp (kept_min k)).2
    | some G2 =>
      obtain ⟨C, two, h⟩ := h
      have lk := link_of L l1 l2 g1.2 g2.2 two
      have ki : Kept (n1 + n2) (Min (sdOf n1) (stp T (join n1 w1 w2))) := (kept_in L).mpr ⟨g1.1, g2.1⟩
      cases r with
      | none => exact fun k => h (lk.keptC k)
      | some R =>
        obtain ⟨kc, S, hS, hR⟩ := h
        exact ⟨lk.kept ki kc, fun i j hi hj => lk.best hS hR hi hj⟩
theorem Lnk.uniq (L : Lnk n1 n2 t1 t2 k1 k2 o1 o2 th bk T) {T' : Mx} (L' : Lnk n1 n2 t1 t2 k1 k2 o1 o2 th bk T') {x y : Nat} (hx : x < n1 + n2) (hy : y < n1 + n2) : T x y = T' x y := by
  by_cases h : x < n1
  · by_cases h' : y < n1
    · rw [L.in1 x y h h', L'.in1 x y h h']
    · rw [show y = n1 + (y - n1) by omega]
      by_cases ex : ∃ i j, i < k1 ∧ j < k2 ∧ o1 i = x ∧ o2 j = y - n1
      · obtain ⟨i, j, hi, hj, rfl, hj'⟩ := ex
        rw [← hj', L.th_ i j hi hj, L'.th_ i j hi hj]
      · have q : ∀ i j, i < k1 → j < k2 → ¬ (o1 i = x ∧ o2 j = y - n1) := fun i j hi hj q => ex ⟨i, j, hi, hj, q.1, q.2⟩
        rw [(L.no x (y - n1) h (by omega) q).1, (L'.no x (y - n1) h (by omega) q).1]
  · rw [show x = n1 + (x - n1) by omega]
    by_cases h' : y < n1
    · by_cases ex : ∃ i j, i < k1 ∧ j < k2 ∧ o1 i = y ∧ o2 j = x - n1
      · obtain ⟨i, j, hi, hj, rfl, hj'⟩ := ex
        rw [← hj', L.bk_ i j hi hj, L'.bk_ i j hi hj]
      · have q : ∀ i j, i < k1 → j < k2 → ¬ (o1 i = y ∧ o2 j = x - n1) := fun i j hi hj q => ex ⟨i, j, hi, hj, q.1, q.2⟩
        rw [(L.no y (x - n1) h' (by omega) q).2, (L'.no y (x - n1) h' (by omega) q).2]
    · rw [show y = n1 + (y - n1) by omega, L.in2 _ _ (by omega) (by omega), L'.in2 _ _ (by omega) (by omega)]
end
end K60

namespace K60
/-! ### sums raised over all steps, pass by pass -/
def st1 {α : Type} (f : Nat → α) (y : Nat) (v : α) : Nat → α := fun z => if z = y then v else f z
theorem st1_same {α : Type} {f : Nat → α} {y : Nat} {v : α} : st1 f y v y = v := if_pos rfl
theorem st1_ne {α : Type} {f : Nat → α} {y z : Nat} {v : α} (h : z ≠ y) : st1 f y v z = f z := if_neg h
/-- in the p-th pass; sc: looked at in this pass; u: the pass of the last raise; tm: its time -/
structure Bf (n : Nat) (M : Mx) (p : Nat) (sc : Nat → Nat → Prop) (s : Nat → Int) (b : Nat → Option Nat) (u tm : Nat → Nat) (clk : Nat) (last : Option Nat) : Prop where
  up : ∀ y, y < n → u y ≤ p
  bn : ∀ y, y < n → 1 ≤ u y → ∃ x, b y = some x
  bs : ∀ y x, y < n → b y = some x → x < n ∧ u y ≤ u x + 1 ∧ ∃ g, M x y = some g ∧ (s y < s x + g ∨ (s y = s x + g ∧ tm x < tm y))
  ck : ∀ y, y < n → tm y < clk
  sd : ∀ x y g, x < n → y < n → sc x y → M x y = some g → s x + g ≤ s y ∨ u x = p
  ns : ∀ x y g, x < n → y < n → ¬ sc x y → M x y = some g → s x + g ≤ s y ∨ p ≤ u x + 1
  ln : last = none → ∀ x y g, x < n → y < n → sc x y → M x y = some g → s x + g ≤ s y
  ls : ∀ y, last = some y → y < n ∧ u y = p
section
variable {n p : Nat} {M : Mx} {sc sc' : Nat → Nat → Prop} {s : Nat → Int} {b : Nat → Option Nat} {u tm : Nat → Nat} {clk : Nat} {last : Option Nat} {x y : Nat} {g : Int}
theorem Bf.start : Bf n M 1 (fun _ _ => False) (fun _ => 0) (fun _ => none) (fun _ => 0) (fun _ => 0) 1 none :=
  ⟨fun _ _ => Nat.zero_le _, fun _ _ h => absurd h (by omega), fun _ _ _ h => (by cases h), fun _ _ => Nat.zero_lt_one, fun _ _ _ _ _ h => h.elim, fun _ _ _ _ _ _ _ => .inr (by omega), fun _ _ _ _ _ _ h => h.elim, fun _ h => (by cases h)⟩
/-- nothing is raised at (x, y) -/
theorem Bf.skip (B : Bf n M p sc s b u tm clk last) (h : ∀ g, M x y = some g → s x + g ≤ s y) (w : ∀ x' y', sc' x' y' ↔ sc x' y' ∨ (x' = x ∧ y' = y)) : Bf n M p sc' s b u tm clk last where
  up := B.up
  bn := B.bn
  bs := B.bs
  ck := B.ck
  sd := fun x' y' g h1 h2 h3 h4 => by
    rcases (w x' y').mp h3 with h3 | ⟨rfl, rfl⟩
    · exact B.sd x' y' g h1 h2 h3 h4
    · exact .inl (h g h4)
  ns := fun x' y' g h1 h2 h3 h4 => B.ns x' y' g h1 h2 (fun z => h3 ((w x' y').mpr (.inl z))) h4
  ln := fun hl x' y' g h1 h2 h3 h4 => by
    rcases (w x' y').mp h3 with h3 | ⟨rfl, rfl⟩
    · exact B.ln hl x' y' g h1 h2 h3 h4
    · exact h g h4
  ls := B.ls
theorem Bf.raise (B : Bf n M p sc s b u tm clk last) (hx : x < n) (hy : y < n) (hxy : x ≠ y) (hn : ¬ sc x y) (e : M x y = some g) (hd : M y y = none) (h : s y < s x + g) (w : ∀ x' y', sc' x' y' ↔ sc x' y' ∨ (x' = x ∧ y' = y)) :
    Bf n M p sc' (st1 s y (s x + g)) (st1 b y (some x)) (st1 u y p) (st1 tm y clk) (clk + 1) (some y) where
  up := fun z hz => by
    by_cases q : z = y
    · rw [q, st1_same]; exact Nat.le_refl p
    · rw [st1_ne q]; exact B.up z hz
  bn := fun z hz h1 => by
    by_cases q : z = y
    · rw [q, st1_same]; exact ⟨x, rfl⟩
    · rw [st1_ne q] at h1 ⊢
      exact B.bn z hz h1
  bs := fun z v hz hb => by
    have hp : p ≤ u x + 1 := by
      rcases B.ns x y g hx hy hn e with q | q
      · omega
      · exact q
    by_cases q : z = y
    · rw [q, st1_same] at hb
      cases hb
      rw [q, st1_same, st1_same, st1_same, st1_ne hxy, st1_ne hxy, st1_ne hxy]
      exact ⟨hx, hp, g, e, .inr ⟨rfl, B.ck x hx⟩⟩
    · rw [st1_ne q] at hb
      obtain ⟨hv, hu, g', e', h'⟩ := B.bs z v hz hb
      rw [st1_ne q, st1_ne q, st1_ne q]
      by_cases qv : v = y
      · subst qv
        rw [st1_same, st1_same]
        have := B.up v hv
        refine ⟨hv, by omega, g', e', .inl ?_⟩
        rcases h' with h' | h' <;> omega
      · rw [st1_ne qv, st1_ne qv, st1_ne qv]
        exact ⟨hv, hu, g', e', h'⟩
  ck := fun z hz => by
    by_cases q : z = y
    · rw [q, st1_same]; omega
    · rw [st1_ne q]
      have := B.ck z hz
      omega
  sd := fun x' y' g' h1 h2 h3 h4 => by
    by_cases qx : x' = y
    · rw [qx, st1_same, st1_same]
      exact .inr rfl
    · rw [st1_ne qx, st1_ne qx]
      have up : ∀ {A : Int}, A ≤ s y' → A ≤ st1 s y (s x + g) y' := fun {A} hA => by
        by_cases qy : y' = y
        · rw [qy, st1_same]
          rw [qy] at hA
          omega
        · rw [st1_ne qy]; exact hA
      rcases (w x' y').mp h3 with h3 | ⟨rfl, rfl⟩
      · rcases B.sd x' y' g' h1 h2 h3 h4 with z | z
        · exact .inl (up z)
        · exact .inr z
      · rw [e] at h4
        cases h4
        rw [st1_same]
        exact .inl (Int.le_refl _)
  ns := fun x' y' g' h1 h2 h3 h4 => by
    by_cases qx : x' = y
    · rw [qx, st1_same, st1_same]
      exact .inr (Nat.le_succ p)
    · rw [st1_ne qx, st1_ne qx]
      rcases B.ns x' y' g' h1 h2 (fun z => h3 ((w x' y').mpr (.inl z))) h4 with z | z
      · left
        by_cases qy : y' = y
        · rw [qy, st1_same]
          rw [qy] at z
          omega
        · rw [st1_ne qy]; exact z
      · exact .inr z
  ln := fun h => by cases h
  ls := fun z h => by
    cases h
    exact ⟨hy, st1_same⟩
/-- the next pass -/
theorem Bf.next (B : Bf n M p sc s b u tm clk last) (h : ∀ x y, x < n → y < n → sc x y) : Bf n M (p + 1) (fun _ _ => False) s b u tm clk none :=
  ⟨fun y hy => Nat.le_succ_of_le (B.up y hy), B.bn, B.bs, B.ck, fun _ _ _ _ _ z => z.elim, fun x y g hx hy _ e => by
    rcases B.sd x y g hx hy (h x y hx hy) e with z | z
    · exact .inl z
    · exact .inr (by omega), fun _ _ _ _ _ _ z => z.elim, fun _ z => (by cases z)⟩
theorem Bf.kept (B : Bf n M p sc s b u tm clk none) (h : ∀ x y, x < n → y < n → sc x y) : Kept n M := kept_of_pot s fun x y g hx hy e => B.ln rfl x y g hx hy (h x y hx hy) e
/-- back along the steps: a ring -/
theorem pigeon : ∀ (n : Nat) (f : Nat → Nat), (∀ i, i ≤ n → f i < n) → ∃ i j, i < j ∧ j ≤ n ∧ f i = f j := by
  intro n
  induction n with
  | zero => intro f h; exact absurd (h 0 (Nat.le_refl _)) (Nat.not_lt_zero _)
  | succ n ih =>
    intro f h
    by_cases ex : ∃ i, i ≤ n ∧ f i = f (n + 1)
    · obtain ⟨i, hi, e⟩ := ex
      exact ⟨i, n + 1, by omega, Nat.le_refl _, e⟩
    · have ne : ∀ i, i ≤ n → f i ≠ f (n + 1) := fun i hi e => ex ⟨i, hi, e⟩
      obtain ⟨i, j, hij, hj, e⟩ := ih (fun i => if f i = n then f (n + 1) else f i) (fun i hi => by
        have h1 := h i (by omega)
        have h2 := h (n + 1) (Nat.le_refl _)
        have h3 := ne i hi
        show (if f i = n then f (n + 1) else f i) < n
        by_cases q : f i = n
        · rw [if_pos q]; omega
        · rw [if_neg q]; omega)
      refine ⟨i, j, hij, by omega, ?_⟩
      have e : (if f i = n then f (n + 1) else f i) = (if f j = n then f (n + 1) else f j) := e
      by_cases q1 : f i = n
      · by_cases q2 : f j = n
        · rw [q1, q2]
        · rw [if_pos q1, if_neg q2] at e
          exact absurd e.symm (ne j hj)
      · by_cases q2 : f j = n
        · rw [if_neg q1, if_pos q2] at e
          exact absurd e (ne i (by omega))
        · rw [if_neg q1, if_neg q2] at e
          exact e
/-- the doors met going back from d -/
def backs (b : Nat → Option Nat) (d : Nat) : Nat → Nat
  | 0 => d
  | i + 1 => (b (backs b d i)).getD 0
/-- a door from which going back comes to a ring, by a rank u -/
structure Rank (n : Nat) (b : Nat → Option Nat) (u : Nat → Nat) : Prop where
  bn : ∀ y, y < n → 1 ≤ u y → ∃ x, b y = some x
  bs : ∀ y x, y < n → b y = some x → x < n ∧ u y ≤ u x + 1
theorem Rank.go (R : Rank n b u) {d : Nat} (hd : d < n) (hu : n ≤ u d) : ∀ i, i ≤ n → backs b d i < n ∧ n ≤ u (backs b d i) + i := by
  intro i
  induction i with
  | zero => intro _; exact ⟨hd, by show n ≤ u d + 0; omega⟩
  | succ i ih =>
    intro hi
    obtain ⟨h1, h2⟩ := ih (by omega)
    obtain ⟨x, e⟩ := R.bn _ h1 (by omega)
    obtain ⟨h3, h4⟩ := R.bs _ x h1 e
    have q : backs b d (i + 1) = x := by
      show (b (backs b d i)).getD 0 = x
      rw [e]
      rfl
    rw [q]
    exact ⟨h3, by omega⟩
theorem Rank.step (R : Rank n b u) {d : Nat} (hd : d < n) (hu : n ≤ u d) {i : Nat} (hi : i < n) : b (backs b d i) = some (backs b d (i + 1)) := by
  obtain ⟨h1, h2⟩ := R.go hd hu i (by omega)
  obtain ⟨x, e⟩ := R.bn _ h1 (by omega)
  show b (backs b d i) = some ((b (backs b d i)).getD 0)
  rw [e]
  rfl
theorem backs_add (b : Nat → Option Nat) (d i : Nat) : ∀ j, backs b d (i + j) = backs b (backs b d i) j
  | 0 => rfl
  | j + 1 => by
    show (b (backs b d (i + j))).getD 0 = (b (backs b (backs b d i) j)).getD 0
    rw [backs_add b d i j]
theorem Rank.ring (R : Rank n b u) {d : Nat} (hd : d < n) (hu : n ≤ u d) : ∃ r, 0 < r ∧ r ≤ n ∧ backs b (backs b d n) r = backs b d n ∧ ∀ m, backs b (backs b d n) m < n ∧ b (backs b (backs b d n) m) = some (backs b (backs b d n) (m + 1)) := by
  obtain ⟨i, j, hij, hj, e⟩ := pigeon n (backs b d) fun i hi => (R.go hd hu i hi).1
  -- behind i all comes again
  have per : ∀ m, backs b d (i + m) = backs b d (i + m + (j - i)) := fun m => by
    have e1 := backs_add b d i m
    have e2 := backs_add b d j m
    rw [e1, e, ← e2]
    congr 1
    omega
  have all : ∀ m, ∃ m', m' < j ∧ i ≤ m' ∧ backs b d (i + m) = backs b d m' := by
    intro m
    induction m using Nat.strongRecOn with
    | ind m ih =>
      by_cases h : i + m < j
      · exact ⟨i + m, h, by omega, rfl⟩
      · obtain ⟨m', h1, h2, h3⟩ := ih (m - (j - i)) (by omega)
        refine ⟨m', h1, h2, ?_⟩
        rw [← h3, per (m - (j - i))]
        congr 1
        omega
  have ok : ∀ m, i ≤ m → backs b d m < n ∧ b (backs b d m) = some (backs b d (m + 1)) := fun m hm => by
    obtain ⟨m', h1, h2, h3⟩ := all (m - i)
    rw [show i + (m - i) = m by omega] at h3
    have s := R.step hd hu (i := m') (by omega)
    have q : backs b d (m + 1) = backs b d (m' + 1) := by
      show (b (backs b d m)).getD 0 = (b (backs b d m')).getD 0
      rw [h3]
    rw [h3, q]
    exact ⟨(R.go hd hu m' (by omega)).1, s⟩
  refine ⟨j - i, by omega, by omega, ?_, fun m => ?_⟩
  · rw [← backs_add, show n = i + (n - i) by omega]
    exact (per (n - i)).symm
  · rw [← backs_add, ← backs_add]
    exact ok (n + m) (by omega)
theorem Bf.rank (B : Bf n M p sc s b u tm clk last) : Rank n b u := ⟨B.bn, fun y x hy e => let ⟨h1, h2, _⟩ := B.bs y x hy e; ⟨h1, h2⟩⟩
/-- a ring that is met is worth more than 0 -/
theorem Bf.bad (B : Bf n M p sc s b u tm clk last) {d : Nat} (hd : d < n) (hu : n ≤ u d) : ¬ Kept n M := by
  intro k
  obtain ⟨r, h0, _, er, al⟩ := B.rank.ring hd hu
  have walk : ∀ m, ∃ v, Wk n M (backs b (backs b d n) m) (backs b d n) v ∧ (s (backs b d n) < s (backs b (backs b d n) m) + v ∨ (s (backs b d n) = s (backs b (backs b d n) m) + v ∧ (m = 0 ∨ tm (backs b (backs b d n) m) < tm (backs b d n)))) := by
    intro m
    induction m with
    | zero => exact ⟨0, .nil (al 0).1, .inr ⟨by show s _ = s (backs b d n) + 0; omega, .inl rfl⟩⟩
    | succ m ih =>
      obtain ⟨v, w, h⟩ := ih
      obtain ⟨h1, e⟩ := al m
      obtain ⟨h2, _, g, eg, h3⟩ := B.bs _ _ h1 e
      refine ⟨g + v, .cons h2 eg w rfl, ?_⟩
      rcases h3 with h3 | ⟨h3, h4⟩
      · left
        rcases h with h | h <;> omega
      · rcases h with h | ⟨h, h5 | h5⟩
        · left; omega
        · right
          refine ⟨by omega, .inr ?_⟩
          rw [h5] at h4
          rw [h5]
          exact h4
        · right
          exact ⟨by omega, .inr (by omega)⟩
  obtain ⟨v, w, h⟩ := walk r
  rw [er] at w h
  have := k _ _ w
  rcases h with h | ⟨_, h | h⟩ <;> omega
end
end K60

namespace K60
open PySem PySem.Spec PyProof.Rows L2

/-! ### a tuple whose object is known -/
def TupD (H : Hp) (a : Addr) (xs : List V) : Prop := ∃ o : Obj, H a = some (.frz o (.tup xs)) ∧ o.dict = none ∧ o.cls = .type "tuple"
theorem TupD.sq {K : PySem.W.Frag} {H : Hp} {a : Addr} {xs : List V} (h : TupD H a xs) : SqT K H a xs := let ⟨o, e, _⟩ := h; .inl (.inr ⟨o, e⟩)
theorem TupD.rd {H : Hp} {a : Addr} {xs : List V} (h : TupD H a xs) : Rd H a (.tup xs) := let ⟨o, e, _⟩ := h; .inr ⟨o, e⟩
/-- laid, known -/
theorem laid_tup {X : Cx} {pins : List (Addr × Obj)} {σ : L2.St} {H : Hp} {s : Shared} {xs : List V} {us : List Value} (I : Inv X pins σ H s) (r : Vals xs us) (z : xs.length ≤ sizeLine) :
    Inv X pins σ (upd H s.heap.objs.size (.frz { cls := .type "tuple", data := .seq us.toArray } (.tup xs))) { s with heap := s.heap.push { cls := .type "tuple", data := .seq us.toArray }, toks := s.toks } :=
  I.laid (t' := s.toks) (fun b u e => Heap.get?_push_of_some _ e) (Nat.le_refl _) ⟨Heap.get?_push_size _ rfl, z, us, r, ⟨_, Heap.get?_push_size _ rfl, rfl, _, rfl⟩⟩
section
variable {X : Cx} {es : List Expr} {pos : Pos}
def tTupD (t : TA) : TE := fun σ H Q => t σ H fun xs H1 => xs.length ≤ sizeLine ∧ ∀ p o, H1 p = none → o.dict = none → o.cls = .type "tuple" → Q (.ref p) (upd H1 p (.frz o (.tup xs)))
theorem pe_tupD {x1} {t : TA} (h : PA X es t) : PE X (.Tuple es x1 pos) (tTupD t) := by
  refine ⟨fun pins s σ H Q I hq => ?_⟩
  refine wpAny_Tuple_spliced (thn (h.run pos pins s σ H _ I hq) fun us s1 ⟨xs, H1, I1, r, z, q⟩ => ⟨by rw [← r.length]; exact z, ?_⟩)
  have hf : H1 s1.heap.objs.size = none := I1.hok.fresh (Nat.le_refl _)
  exact ⟨.ref s1.heap.objs.size, _, laid_tup I1 r z, rfl, q _ _ hf rfl rfl⟩
/-- tuple(xs), xs a list -/
def rTupD (K : PySem.W.Frag) : List V → Hp → VK → Prop := fun xs H Q => ∃ p ys, xs = [.ref p] ∧ SqL K H p ys ∧ ∀ l o, H l = none → o.dict = none → o.cls = .type "tuple" → Q (.ref l) (upd H l (.frz o (.tup ys)))
theorem call_tupD : CallR X (.type "tuple") (rTupD X.K) := by
  intro pins s σ H xs us Q I r h
  obtain ⟨p, ys, rfl, hq, q⟩ := h
  obtain ⟨u, rfl, rx⟩ := vals1 r
  cases rx
  obtain ⟨its, r', pl, hz⟩ := I.list hq
  have hlen := r'.length
  refine call_tuple_list pl.isList (fun h' kp => ?_) (by simp only [List.size_toArray] <;> omega)
  have I1 : Inv X pins σ H { s with heap := h' } := I.kept (t' := s.toks) kp
  exact ⟨.ref h'.objs.size, _, laid_tup I1 r' hz, rfl, q _ _ (I1.hok.fresh (Nat.le_refl _)) rfl rfl⟩
/-- t + u, neither empty -/
def rCatD (K : PySem.W.Frag) : R2 := fun x y H Q => ∃ a b xs ys, x = .ref a ∧ y = .ref b ∧ SqT K H a xs ∧ SqT K H b ys ∧ xs ≠ [] ∧ ys ≠ [] ∧ xs.length + ys.length ≤ sizeLine ∧
  ∀ p o, H p = none → o.dict = none → o.cls = .type "tuple" → Q (.ref p) (upd H p (.frz o (.tup (xs ++ ys))))
theorem op_catD : OpR X (binaryOp .Add) (rCatD X.K) := by
  intro pins s σ H x y v u Q I rx ry h
  obtain ⟨a, b, xs, ys, rfl, rfl, ha, hb, hx, hy, hz, q2⟩ := h
  cases rx
  cases ry
  obtain ⟨its, r1, p1, _⟩ := I.tuple ha
  obtain ⟨its2, r2, p2, _⟩ := I.tuple hb
  refine HT.cat_tup p1 p2 (fun z => hx (r1.nil_iff.mp z)) (fun z => absurd (r2.nil_iff.mp z) hy) (fun z => ?_) (by rw [← r1.length, ← r2.length]; exact hz)
  exact ⟨.ref s.heap.objs.size, _, laid_tup I (r1.append r2) (by rw [List.length_append]; exact hz), rfl, q2 _ _ (I.hok.fresh (Nat.le_refl _)) rfl rfl⟩

/-! ### t.index(k), t a known tuple of ints -/
def tIdx (to : TE) (t : TA) : TE := fun σ H Q => to σ H fun x H1 => ∃ p, x = .ref p ∧ (∃ xs, TupD H1 p xs) ∧ t σ H1 fun vs H2 => ∃ (ns : List Int) (k : Int) (j : Nat), vs = [.int k] ∧ TupD H2 p (ns.map V.int) ∧ ns[j]? = some k ∧ (∀ m, m < j → ns[m]? ≠ some k) ∧ Q (.int (j : Nat)) H2
theorem flat_ints (ys : List Int) : (ys.map V.int).all flatV = true := by
  rw [List.all_map]
  exact List.all_eq_true.mpr fun _ _ => rfl
theorem idx_ok {pins : List (Addr × Obj)} {σ : L2.St} {H : Hp} {s : Shared} {p : Addr} {ns : List Int} {k : Int} {j : Nat} {us : List Value} {Q : VK} (I : Inv X pins σ H s) (rs : Vals [.int k] us) (hT : TupD H p (ns.map V.int)) (hy : ns[j]? = some k) (hno : ∀ m, m < j → ns[m]? ≠ some k) (q : Q (.int (j : Nat)) H) :
    wpAny (model X.prog X.w) X.A (call (.builtin "tuple.index") (.ref p :: us)) (EP X pins σ Q) X.xe s := by
  obtain ⟨u, rfl, t, rfl⟩ := vals1 rs
  obtain ⟨its, r, pl, hz⟩ := I.tuple hT.sq
  obtain ⟨⟨cls, dd, dt, sl⟩, ho, hc, n, hd⟩ := pl
  simp only at hc hd
  subst hc
  subst hd
  have hl : its.toArray.size = ns.length := by rw [List.size_toArray, ← r.length, List.length_map]
  have hj : j < its.toArray.size := by rw [hl]; exact (List.getElem?_eq_some_iff.mp hy).1
  have at' : ∀ (m : Nat) (hm : m < its.toArray.size), ∃ y t', ns[m]? = some y ∧ its.toArray[m] = Value.int y t' := fun m hm => by
    have hm' : m < ns.length := by rw [← hl]; exact hm
    obtain ⟨w, hw, t', hw'⟩ := r.get (i := m) (x := .int ns[m]) (by simp [hm'])
    refine ⟨ns[m], t', List.getElem?_eq_getElem hm', ?_⟩
    have e := (List.getElem?_eq_some_iff.mp hw).2
    rw [← hw', ← e]
    simp
  refine call_meets PySem.F.slot_tuple_index ⟨_, ho, rfl⟩ PySem.F.entry_tuple_index (PySem.F.args_tuple_index_2 _ _) (TI.tuple_indexAt p its.toArray n dd sl (.int k t) (eqU (.int k)) j hj ?_ ?_)
    ⟨ho, fun w hw => mem_eqAt (x := .int k) ⟨t, rfl⟩ rfl r (flat_ints ns) w (by simpa using hw), ⟨.int (j : Nat), H, I.tok _, ⟨_, rfl⟩, q⟩⟩
  · obtain ⟨y, t', h1, h2⟩ := at' j hj
    rw [hy] at h1
    cases h1
    rw [h2]
    show (k == k) = true
    exact beq_self_eq_true k
  · intro m hm hmj
    obtain ⟨y, t', h1, h2⟩ := at' m hm
    rw [h2]
    show (y == k) = false
    exact beq_eq_false_iff_ne.mpr fun e => hno m hmj (e ▸ h1)
theorem TupD.noDict {pins : List (Addr × Obj)} {σ : L2.St} {H : Hp} {s : Shared} {p : Addr} {xs : List V} (I : Inv X pins σ H s) (h : TupD H p xs) : s.TypeIs (.ref p) "tuple" ∧ ∀ a, Value.ref p = .ref a → ∃ ob, s.heap.get? a = some ob ∧ ob.dict = none := by
  obtain ⟨o, e, hd, hc⟩ := h
  obtain ⟨ho, _⟩ := I.hok p _ e
  refine ⟨⟨o, ho, hc⟩, fun a ea => ?_⟩
  cases ea
  exact ⟨o, ho, hd⟩
theorem pe_tidx {o e : Expr} {to : TE} {t : TA} {apos cpos : Pos} (ho : PE X o to) (ha : PA X [e] t)
    (hbase : attributeBase o "index" X.env (eval o X.env) = eval o X.env := by rfl)
    (hfew : ((backTo cpos (starEach [e] X.env)).all (fun x => !x.1) && (backToKw cpos (keywordEach [] X.env)).all (fun x => x.1.isSome)
      && decide (([e] : List Expr).length + ([] : List Keyword).length + (if ([] : List Keyword).isEmpty then 0 else 1) < 30)) = true := by rfl)
    (hline : (apos.endLine == cpos.line) = true := by rfl) (hs : starEach [e] X.env = (false, eval e X.env) :: starEach [] X.env := by rfl) (hplain : (backTo cpos (starEach [] X.env)).any (·.1) = false := by rfl) :
    PE X (.Call (.Attribute o "index" apos) [e] [] cpos) (tIdx to t) := by
  refine ⟨fun pins s σ H Q I h => ?_⟩
  refine wpAny_Call_method_late hbase hfew hline rfl (thn (ho.run pins s σ H _ I h) fun v s1 ⟨x, H1, I1, r1, p, ex, ⟨xs, hT⟩, q1⟩ => ?_)
  subst ex
  cases r1
  obtain ⟨h1, h2⟩ := hT.noDict I1
  refine ⟨"tuple", "tuple.index", PySem.F.plainAttrs_tuple, PySem.F.slot_tuple_index, PySem.F.type_tuple_index, h1, h2, ?_⟩
  have hA := ha.run cpos pins s1 σ H1 _ I1 q1
  rw [hs] at hA ⊢
  refine Calls.callWith_builtin (by show (false || (backTo cpos (starEach [] X.env)).any (·.1)) = false; rw [hplain] <;> rfl) (Calls.evalArgs_plain ?_)
  refine thn hA fun us s2 ⟨vs, H2, I2, r2, ns, k, j, e2, hT2, hy, hno, q2⟩ => ?_
  subst e2
  exact idx_ok I2 r2 hT2 hy hno q2
end

/-! ### enumerate(tuple) -/
theorem meets_enumerate_newT (l : Addr) (items : Array Value) (n : Nat) (dct : Option Addr) (sl : Array (Option Value)) :
    Meets (Builtin.«enumerate.__new__» ⟨[.type "enumerate", .ref l], []⟩) (fun _ R s => s.heap.get? l = some { cls := .type "tuple", dict := dct, data := .seq items n, slots := sl } ∧
      R (.ok (.ret (.ref (s.heap.push { cls := .type "tuple_iterator", data := .fields #[.ref l, .int 0 0] }).objs.size)))
        { s with heap := (s.heap.push { cls := .type "tuple_iterator", data := .fields #[.ref l, .int 0 0] }).push { cls := .type "enumerate", data := .fields #[.none, .bool false, .ref s.heap.objs.size, rawInt 0, .none, .none] } }) :=
  .of_wp fun prog w A R s h => by
    obtain ⟨hp, g, d, tk, os⟩ := s; obtain ⟨hl, h⟩ := h
    have hsub := sub_enumerate
    have hL : Heap.IsTuple (Shared.heap ⟨hp, g, d, tk, os⟩) l items := ⟨_, hl, rfl, n, rfl⟩
    wp_walk using AutoSeq1.wpAny_loadPart' hl
    refine wpAny_stack_any fun st => wpAny_pure ?_
    split
    · rename_i c _ _ _ _ _
      cases (c == Value.type "enumerate")
      · wp_walk using AutoSeq1.wpAny_loadPart' hl, wpAny_pyIter_tuple hL
        exact ⟨_, rfl, h⟩
      · wp_walk using AutoSeq1.wpAny_loadPart' hl, wpAny_pyIter_tuple hL
        exact ⟨_, rfl, h⟩
    · wp_walk using AutoSeq1.wpAny_loadPart' hl, wpAny_pyIter_tuple hL
      exact ⟨_, rfl, h⟩
theorem call_enumerate_tuple {prog : Program} {w : World} {A : Around} {E : Value → Shared → Prop} {s : Shared} {l : Addr} {items : Array Value} {Q : Value → Shared → Prop} (hL : s.heap.IsTuple l items)
    (h : ∀ h', IsEnum h' (s.heap.objs.size + 1) s.heap.objs.size 0 .none → h'.IsTupleIter s.heap.objs.size l 0 → h'.objs.size = s.heap.objs.size + 2 →
      (∀ b o, s.heap.get? b = some o → h'.get? b = some o) → Q (.ref (s.heap.objs.size + 1)) { s with heap := h' }) :
    wpAny (model prog w) A (call (.type "enumerate") [.ref l]) Q E s := by
  obtain ⟨⟨c, dct, dt, sl⟩, hl, hc, n, hd⟩ := hL
  replace hc : c = .type "tuple" := hc
  replace hd : dt = .seq items n := hd
  subst hc hd
  refine callType_new F.called_enumerate (by decide) (F.typeCall_enumerate_1 _) (F.newCall_enumerate_1 _) (fun obj => F.args_object_init_2 obj _) F.entry_enumerate_new
    (meets_enumerate_newT l items n dct sl) ⟨hl, ?_⟩
  have hz : (s.heap.push { cls := .type "tuple_iterator", data := .fields #[.ref l, .int 0 0] }).objs.size = s.heap.objs.size + 1 := Heap.size_push ..
  show _ ∧ _
  rw [hz]
  have he : IsEnum ((s.heap.push { cls := .type "tuple_iterator", data := .fields #[.ref l, .int 0 0] }).push
      { cls := .type "enumerate", data := .fields #[.none, .bool false, .ref s.heap.objs.size, rawInt 0, .none, .none] }) (s.heap.objs.size + 1) s.heap.objs.size 0 .none := by
    have := Heap.get?_push_size (s.heap.push { cls := .type "tuple_iterator", data := .fields #[.ref l, .int 0 0] })
      (o := { cls := .type "enumerate", data := .fields #[.none, .bool false, .ref s.heap.objs.size, rawInt 0, .none, .none] }) rfl
    rw [hz] at this; exact this
  refine ⟨⟨_, he, rfl⟩, h _ he ⟨_, Heap.get?_push_of_some _ (Heap.get?_push_size _ rfl), rfl, rfl⟩ (by rw [Heap.size_push, hz]) fun b o x => Heap.get?_push_of_some _ (Heap.get?_push_of_some _ x)⟩
/-- the tuple at a at each turn, each item in a new pair -/
def IteT (K : PySem.W.Frag) (a : Addr) : It :=
  ⟨fun i H => ∃ (xs : List V) (x : V), SqT K H a xs ∧ xs[i]? = some x, fun i H v H' => ∃ T x, v = .ref T ∧ H T = none ∧ H' = upd H T (.tup [.int (i : Nat), x]) ∧ ∀ xs, SqT K H a xs → xs[i]? = some x, fun i H => ∃ xs : List V, SqT K H a xs ∧ xs.length = i⟩
theorem turn_enumT {P : Program} {w : World} {K : PySem.W.Frag} {elts : List Expr} {kk : Nat} {tpos : Pos} (a e it : Addr) :
    Turn P w K (.Tuple elts kk tpos) (IteT K a) [e, it] e (fun i h => (∃ old, IsEnum h e it ((i : Nat) : Int) old) ∧ h.IsTupleIter it a i ∧ e ≠ it) where
  mem := by simp
  obj := fun i h st b hb => by
    obtain ⟨⟨old, he⟩, ⟨o, ho, hc, hd⟩, _⟩ := st
    have e' : b = e ∨ b = it := by simpa using hb
    rcases e' with z | z
    · rw [z]; exact ⟨_, he, fun v q => nomatch q⟩
    · rw [z]; exact ⟨o, ho, fun v q => by rw [hd] at q; cases q⟩
  keep := fun i h h' st k => let ⟨⟨old, he⟩, hi, hne⟩ := st; ⟨⟨old, k e (by simp) _ he⟩, hi.at fun o q => k it (by simp) o q, hne⟩
  item := by
    intro X hP hw hK hc i pins s σ H E I hf st hg
    subst hP hw hK
    obtain ⟨⟨old, he⟩, hit, hne⟩ := st
    obtain ⟨xs, x, hq, hx⟩ := hg
    obtain ⟨its, rv, p, hz⟩ := I.tuple hq
    obtain ⟨u, hu, ru⟩ := rv.get hx
    have hel : e < s.heap.objs.size := Heap.lt_size he
    have hil : it < s.heap.objs.size := by obtain ⟨_, q, _⟩ := hit; exact Heap.lt_size q
    have hpt : s.heap.IsTuple a its.toArray := p
    have hai : a ≠ it := by
      rintro rfl
      obtain ⟨o, ho, hc1, _⟩ := hit
      obtain ⟨o2, ho2, hc2, _⟩ := hpt
      rw [ho] at ho2
      cases ho2
      rw [hc1] at hc2
      exact absurd (Value.type.inj hc2) (by decide)
    have hae : e ≠ a := by
      rintro rfl
      obtain ⟨o2, ho2, hc2, _⟩ := hpt
      have he2 : s.heap.get? e = some _ := he
      rw [he2] at ho2
      cases ho2
      exact absurd (Value.type.inj hc2) (by decide)
    have hil2 : i < its.toArray.size := by
      rw [List.size_toArray]
      exact (List.getElem?_eq_some_iff.mp hu).1
    refine wpAny_pyNext_enum_itemD (Draws.tuple (A := X.A.in1) (I.ok.hd hc) it a hai its.toArray) he ⟨hit, hpt⟩ hil2 hne (by simp [hne, hae]) fun y h' tk hy ho hst' hT hsz hk => ?_
    obtain ⟨hit', hpt'⟩ := hst'
    have ey : y = u := by
      have e1 : its.toArray[i]? = some u := by simpa using hu
      have hy' : its.toArray[i]? = some y := hy
      rw [e1] at hy'
      exact (Option.some.inj hy').symm
    subst ey
    refine ⟨_, rfl, wpAny_letOwnedTupleGo_enum (s := { s with heap := h', toks := tk + 1 }) ho fun h'' he' sb => ?_⟩
    have hT2 : h''.get? s.heap.objs.size = some { cls := .type "tuple", data := .seq #[.int i tk, y] } := (sb.2 _ (Nat.ne_of_gt hel)).trans hT
    have new : ObjOk X.prog X.w (upd H s.heap.objs.size (.tup [.int (i : Nat), x])) h'' s.heap.objs.size (.tup [.int (i : Nat), x]) :=
      ⟨by show 2 ≤ sizeLine; decide, [.int i tk, y], .cons ⟨_, rfl⟩ (.cons ru .nil), ⟨_, hT2, rfl, _, rfl⟩⟩
    have I1 : Inv X pins σ (upd H s.heap.objs.size (.tup [.int (i : Nat), x])) { s with heap := h'', toks := tk + 1 } :=
      I.turnedNew (ch := [e, it]) (fun b ob hb q => (sb.2 b (fun z => hb (by simp [z]))).trans (hk b ob (fun z => hb (by simp [z])) (fun z => hb (by simp [z])) q)) hf (Nat.le_refl _) new
    refine ⟨.ref s.heap.objs.size, _, I1, rfl, ⟨_, x, rfl, I.hok.fresh (Nat.le_refl _), rfl, fun ys hy => by rw [I.tuple_inj hy hq]; exact hx⟩, ⟨⟨y, ?_⟩, hit'.at fun o q => (sb.2 it (Ne.symm hne)).trans q, hne⟩, fun b hb => ?_⟩
    · have e1 : ((i + 1 : Nat) : Int) = (i : Int) + 1 := by omega
      rw [e1]; exact he'
    · have hb' : b < s.heap.objs.size := by
        have e' : b = e ∨ b = it := by simpa using hb
        rcases e' with z | z
        · rw [z]; exact hel
        · rw [z]; exact hil
      rw [upd_ne (Nat.ne_of_lt hb')]
      exact (hf b hb).1
  done := by
    intro X hP hw hK hc i pins s σ H E I hf st hg
    subst hP hw hK
    obtain ⟨⟨old, he⟩, hit, hne⟩ := st
    obtain ⟨xs, hq, hx⟩ := hg
    obtain ⟨its, rv, p, hz⟩ := I.tuple hq
    obtain ⟨f0, f1, f2, f3, f4, f5⟩ := hf it (by simp)
    have hl := rv.length
    have hpt : s.heap.IsTuple a its.toArray := p
    have hai : a ≠ it := by
      rintro rfl
      obtain ⟨o, ho, hc1, _⟩ := hit
      obtain ⟨o2, ho2, hc2, _⟩ := hpt
      rw [ho] at ho2
      cases ho2
      rw [hc1] at hc2
      exact absurd (Value.type.inj hc2) (by decide)
    have hi : i = its.toArray.size := by rw [List.size_toArray]; omega
    exact wpAny_pyNext_enum_endD (Draws.tuple (A := X.A.in1) (I.ok.hd hc) it a hai its.toArray) he ⟨hi ▸ hit, hpt⟩ fun h' eb => ⟨rfl, I.turned (t' := s.toks) (fun b o hb q => eb b o hb q) f0 f1 f3 f4 f5⟩
  self := fun A i s Q E st h => let ⟨⟨_, he⟩, _⟩ := st; wpAny_pyIter_enum he h
def iEnumT (K : PySem.W.Frag) (ta : TA) : TI := fun σ H R => ta σ H fun vs H1 => ∃ a xs, vs = [.ref a] ∧ SqT K H1 a xs ∧ R (IteT K a) H1
theorem pi_enumT {X : Cx} {e : Expr} {ta : TA} {p pos tpos : Pos} {elts : List Expr} {kk : Nat} (hg : Gl X "enumerate") (hm : X.mg "enumerate" = none) (ha : PA X [e] ta) (hs : starEach [e] X.env = [(false, eval e X.env)] := by rfl) :
    PI X (.Tuple elts kk tpos) (.Call (.Name "enumerate" p) [e] [] pos) (iEnumT X.K ta) := by
  refine ⟨fun pins s σ H R I h => ?_⟩
  refine Call_ (ld_blt I hg hm boot_enumerate (PyProof.Rows.callWith_type1 (thn (ha.run pos pins s σ H _ I h) fun us s1 ⟨vs, H1, I1, r1, q1⟩ => ?_) hs rfl))
  obtain ⟨a, xs, ex, hq, q⟩ := q1
  subst ex
  cases r1 with
  | cons r rr =>
    cases rr
    cases r
    obtain ⟨its, rv, p', hz⟩ := I1.tuple hq
    refine call_enumerate_tuple (show s1.heap.IsTuple a its.toArray from p') fun h' he hit hsz hk => wpAny_pyIter_enum he ?_
    have I2 : Inv X pins σ H1 { s1 with heap := h' } := I1.kept (t' := s1.toks) hk
    refine ⟨s1.heap.objs.size + 1, [s1.heap.objs.size + 1, s1.heap.objs.size], _, _, H1, rfl, I2, turn_enumT a (s1.heap.objs.size + 1) s1.heap.objs.size, ⟨⟨.none, he⟩, hit, Nat.succ_ne_self _⟩, fun b hb => ?_, q⟩
    have e' : b = s1.heap.objs.size + 1 ∨ b = s1.heap.objs.size := by simpa using hb
    have hle : s1.heap.objs.size ≤ b := by
      rcases e' with z | z
      · rw [z]; exact Nat.le_add_right _ _
      · rw [z]; exact Nat.le_refl _
    exact I1.fpOk hle (I1.hok.fresh hle)
theorem walk_enumT {K : PySem.W.Frag} {a : Addr} {xs : List V} : Walk (IteT K a) xs.length (fun H => SqT K H a xs) (YPair (fun i => some (.int (i : Nat))) (fun i => xs[i]?)) := by
  refine ⟨fun i _ hi q => ⟨xs, xs[i], q, by simp [hi]⟩, fun _ q => ⟨xs, q, rfl⟩, fun i H v H' _ q y => ?_⟩
  obtain ⟨T, x, h1, h2, h3, h4⟩ := y
  exact ⟨T, .int (i : Nat), x, h1, h2, h3, rfl, h4 xs q⟩
/-- zip(t, u), two tuples of one length -/
theorem walk_zipT {K : PySem.W.Frag} {a b : Addr} {xs ys : List V} (hl : xs.length = ys.length) : Walk (RZ.ItzT K a b) xs.length (fun H => SqT K H a xs ∧ SqT K H b ys) (YPair (fun i => xs[i]?) (fun i => ys[i]?)) := by
  refine ⟨fun i _ hi q => ⟨xs, ys, xs[i], ys[i]'(by omega), q.1, q.2, by simp [hi], by simp [show i < ys.length by omega]⟩, fun _ q => ⟨xs, ys, q.1, q.2, .inl (Nat.le_refl _)⟩, fun i H v H' _ q y => ?_⟩
  obtain ⟨T, x', y', h1, h2, h3, f1, f2⟩ := y
  exact ⟨T, x', y', h1, h2, h3, f1 xs q.1, f2 ys q.2⟩

/-! ### set(tuple of ints) -/
def rSetT (K : PySem.W.Frag) (w : World) : List V → Hp → VK → Prop := fun xs H Q => ∃ (p : Addr) (ns : List Int), xs = [.ref p] ∧ SqT K H p (ns.map V.int) ∧ ns.length ≤ 1000 ∧
  ∀ q c, H q = none → c ≤ ns.length → Q (.ref q) (upd H q (SetO w q (fun j => decide (j ∈ ns)) c))
theorem call_setT {X : Cx} (hc : X.calm = true) : CallR X (.type "set") (rSetT X.K X.w) := by
  intro pins s σ H xs us Q I r h
  obtain ⟨p, ns, rfl, hq, hl, q⟩ := h
  obtain ⟨u, rfl, rx⟩ := vals1 r
  cases rx
  obtain ⟨its, rv, pt, hz⟩ := I.tuple hq
  have hi : IntsAre its.toArray.toList ns := ints_of_vals rv
  refine call_set_tupI ns (I.ok.hd hc) (show s.heap.IsTuple p its.toArray from pt) hi (by unfold scanBound; omega) fun h' tk c R1 hcn k => ?_
  exact ⟨.ref s.heap.objs.size, _, I.laid (t' := tk) k (Nat.le_refl _) (setO_new R1), rfl, q _ _ (I.hok.fresh (Nat.le_refl _)) hcn⟩

/-! ### t * k, k at least 1 -/
theorem tuple_mul1 (l : Addr) (items : Array Value) (n : Nat) (dd : Option Addr) (sl : Array (Option Value)) (u : Tok) :
    Meets (Builtin.«tuple.__mul__» ⟨[.ref l, .int 1 u], []⟩) (fun _ R s => s.heap.get? l = some { cls := .type "tuple", dict := dd, data := .seq items n, slots := sl } ∧
      R (.ok (.ret (Value.ref l))) s) :=
  .of_wp fun prog w A R s h => by
    obtain ⟨hp, g, d, tk, os⟩ := s
    obtain ⟨hl, h⟩ := h
    have f1 := AutoSeq1.idx_int
    have c0 : (decide ((1 : Int) < -(2 ^ 63)) || decide ((1 : Int) ≥ 2 ^ 63)) = false := by decide
    have c1 : (items.isEmpty || (1 : Int) == 1) = true := by simp
    wp_walk using AutoSeq1.wpAny_loadPart' hl
    repeat (first
      | (refine wpAny_ite_false (decide_eq_false (by rw [c0]; exact Bool.false_ne_true)) ?_; wp_walk using AutoSeq1.wpAny_loadPart' hl)
      | (refine wpAny_ite_true (decide_eq_true c1) ?_; wp_walk using AutoSeq1.wpAny_loadPart' hl))
    exact ⟨_, rfl, h⟩
def rRepT1 (K : PySem.W.Frag) : R2 := fun x y H Q => ∃ l xs, ∃ k : Nat, x = .ref l ∧ y = .int (k : Int) ∧ SqT K H l xs ∧ xs ≠ [] ∧ 1 ≤ k ∧ k ≤ 1000 ∧ xs.length ≤ 1000 ∧ (k = 1 → Q (.ref l) H) ∧ (2 ≤ k → ∀ p, H p = none → Q (.ref p) (upd H p (.tup (List.replicate k xs).flatten)))
theorem op_repT1 {X : Cx} : OpR X (binaryOp .Mult) (rRepT1 X.K) := by
  intro pins s σ H x y v u Q I rx ry h
  obtain ⟨l, xs, k, rfl, rfl, hT, hne, h1, h2, hz, q1, q2⟩ := h
  by_cases hk : 2 ≤ k
  · exact op_repT pins s σ H _ _ v u Q I rx ry ⟨l, (k : Int), xs, rfl, rfl, hT, hne, by omega, by omega, hz, by simpa using q2 hk⟩
  · have e1 : k = 1 := by omega
    subst e1
    cases rx
    obtain ⟨t, rfl⟩ := ry
    obtain ⟨its, r, ⟨⟨cls, dd, data, sl⟩, ho, hc, n, hd⟩, hs⟩ := I.tuple hT
    simp only at hc hd
    subst hc hd
    exact wpAny_binaryOp_repeat_ref (T := "tuple") (U := "int") (by decide) ⟨_, ho, rfl⟩ (fun s' => typeIs_int s' _ t) noFill_tuple_mul F.fills_int_mul F.slot_int_rmul repeat_tuple F.slot_int_index.lookup
      (call_meets F.slot_int_rmul (typeIs_int s _ t) F.entry_int_rmul (F.args_int_rmul_2 _ _) (int_rmul_tuple _ t l its.toArray n dd sl)
        ⟨ho, rfl, ⟨_, ho, rfl⟩, call_meets F.slot_tuple_mul ⟨_, ho, rfl⟩ F.entry_tuple_mul (F.args_tuple_mul_2 _ _) (tuple_mul1 l its.toArray n dd sl t) ⟨ho, ⟨.ref l, H, I, rfl, q1 rfl⟩⟩⟩)
end K60

namespace K60
open PySem L2
open C8 (Cal Def Met Mak cal0 met0 mak0 pe_c pe_mk pe_mt pe_mt0 pe_gc InsC call_isC fnScope fnBody fnArgs clsBody fnScope_by)

/-! ### the text by places -/
def top (i : Nat) : Stmt := PySem.Challenge.pw_bestunmoved_k60_whole_parts_exchanged_by.main.body.getD i (.Pass ⟨0, 0, 0, 0⟩)
def clsM (s : Stmt) (j : Nat) : Stmt := (clsBody s).getD j (.Pass ⟨0, 0, 0, 0⟩)

/-! ### built-ins' names -/
theorem boot_isinstance : bootBuiltins "isinstance" = some (.builtin "isinstance") := by decide +kernel
theorem boot_len : bootBuiltins "len" = some (.builtin "len") := by decide +kernel
theorem boot_all : bootBuiltins "all" = some (.builtin "all") := by decide +kernel
theorem boot_abs : bootBuiltins "abs" = some (.builtin "abs") := by decide +kernel
theorem boot_sorted : bootBuiltins "sorted" = some (.builtin "sorted") := by decide +kernel
theorem boot_max : bootBuiltins "max" = some (.builtin "max") := by decide +kernel
theorem boot_min : bootBuiltins "min" = some (.builtin "min") := by decide +kernel
theorem boot_int : bootBuiltins "int" = some (.type "int") := by decide +kernel
theorem boot_bool : bootBuiltins "bool" = some (.type "bool") := by decide +kernel
theorem boot_str : bootBuiltins "str" = some (.type "str") := by decide +kernel
theorem boot_tuple : bootBuiltins "tuple" = some (.type "tuple") := by decide +kernel
theorem boot_list : bootBuiltins "list" = some (.type "list") := by decide +kernel
theorem boot_set : bootBuiltins "set" = some (.type "set") := by decide +kernel
/-- the module binds none of these -/
structure Txt (mg : Str → Option Value) : Prop where
  isinstance : mg "isinstance" = none
  len : mg "len" = none
  all : mg "all" = none
  abs : mg "abs" = none
  sorted : mg "sorted" = none
  max : mg "max" = none
  min : mg "min" = none
  int : mg "int" = none
  bool : mg "bool" = none
  str : mg "str" = none
  tuple : mg "tuple" = none
  list : mg "list" = none
  set : mg "set" = none
  range : mg "range" = none
  enumerate : mg "enumerate" = none
  zip : mg "zip" = none
theorem pe_ty {X : Cx} {x : Str} {n : String} {pos : Pos} (hg : Gl X x) (hm : X.mg x = none) (hv : bootBuiltins x = some (.type n)) (hn : x ≠ "__name__" := by decide) (hd : (x == ("__debug__" : Str)) = false := by decide) : PE X (.Name x pos) (tC (.ty n)) :=
  pe_bltn hg hm hv rfl hn hd
/-- a def of the module with its parameters -/
def Dx (K : PySem.W.Frag) (mg : Str → Option Value) (x : Str) (st : Stmt) (ps : List Str) : Prop := ∃ f fd, Def K mg x st f fd ∧ Binds K fd ps []
section
variable {P : Program} {w : World} {K : PySem.W.Frag} {mg : Str → Option Value} {base : Heap}
theorem cal {x : Str} {st : Stmt} {N ps : List Str} {k : Nat} {sp : Sp} (D : Dx K mg x st ps) (S : FnScope N ps (fnScope st)) (len : ∀ vs H Q E, sp vs H Q E → vs.length = ps.length)
    (hbody : ∀ (f : Addr) (cdv : Value) (A : Around) (outer : List Env) (s : Shared) (H : Hp) (vs : List V) (Q : VK) (E : XK), Room k (A.deeper (PyProof.Rows.envOfC x (fnScope st) s.heap.objs.size f cdv)) → sp vs H Q E →
      ∃ t, PSs (cxOf C8.CX0 P w K mg base N x (fnScope st) f cdv A outer s H E).nox (fnBody st) t ∧ t { nx := fun _ H' => Q .non H', rt := Q } (start N vs) H) : Cal P w K mg base (k + 1) x sp [] := by
  obtain ⟨f, fd, F, b⟩ := D
  exact cal0 F b .nil S len fun cdv A outer s H vs Q E hr h => hbody f cdv A outer s H vs Q E hr h
end

/-! ### entries, rows -/
def enc : Option Int → V
  | none => .non
  | some i => .int i
theorem enc_inj {a b : Option Int} (h : enc a = enc b) : a = b := by
  cases a with
  | none =>
    cases b with
    | none => rfl
    | some j => cases h
  | some i =>
    cases b with
    | none => cases h
    | some j => exact congrArg some (V.int.inj h)
theorem enc_non {a : Option Int} : enc a = .non ↔ a = none := by
  cases a with
  | none => exact ⟨fun _ => rfl, fun _ => rfl⟩
  | some i => exact ⟨fun h => (by cases h), fun h => (by cases h)⟩
def row (n : Nat) (f : Nat → Option Int) : List V := (List.range n).map fun j => enc (f j)
theorem row_len (n : Nat) (f : Nat → Option Int) : (row n f).length = n := by simp [row]
theorem row_get {n j : Nat} {f : Nat → Option Int} (h : j < n) : (row n f)[j]? = some (enc (f j)) := by simp [row, h]
theorem row_is {n j : Nat} {f : Nat → Option Int} {v : V} (h : (row n f)[j]? = some v) : j < n ∧ v = enc (f j) := by
  have hj : j < n := by
    have := (List.getElem?_eq_some_iff.mp h).1
    rw [row_len] at this
    exact this
  rw [row_get hj] at h
  exact ⟨hj, (Option.some.inj h).symm⟩
theorem row_eq {n : Nat} {f : Nat → Option Int} {xs : List V} (hl : xs.length = n) (h : ∀ j v, xs[j]? = some v → v = enc (f j)) : xs = row n f := by
  apply List.ext_getElem?
  intro j
  by_cases hj : j < n
  · rw [row_get hj]
    have hj' : j < xs.length := by omega
    rw [List.getElem?_eq_getElem hj', h j _ (List.getElem?_eq_getElem hj')]
  · rw [List.getElem?_eq_none (by omega), List.getElem?_eq_none (by rw [row_len]; omega)]
theorem row_congr {n : Nat} {f g : Nat → Option Int} (h : ∀ j, j < n → f j = g j) : row n f = row n g :=
  row_eq (row_len n f) fun j v e => by
    obtain ⟨hj, rfl⟩ := row_is e
    rw [h j hj]
theorem row_set {n j : Nat} {f : Nat → Option Int} {e : Option Int} : (row n f).set j (enc e) = row n (fun k => if k = j then e else f k) := by
  refine row_eq (by rw [List.length_set, row_len]) fun k v h => ?_
  by_cases hk : k = j
  · subst hk
    rw [if_pos rfl]
    have hlt : k < (row n f).length := by
      have := (List.getElem?_eq_some_iff.mp h).1
      rw [List.length_set] at this
      exact this
    rw [List.getElem?_set_self hlt] at h
    exact (Option.some.inj h).symm
  · rw [if_neg hk]
    rw [List.getElem?_set_ne (Ne.symm hk)] at h
    exact (row_is h).2
theorem row_inj {n : Nat} {f g : Nat → Option Int} (h : row n f = row n g) : ∀ j, j < n → f j = g j := fun j hj => by
  have h1 := row_get (f := f) hj
  rw [h, row_get hj] at h1
  exact enc_inj (Option.some.inj h1).symm
theorem row_succ {n : Nat} {f : Nat → Option Int} : row (n + 1) f = row n f ++ [enc (f n)] := by
  simp [row, List.range_succ]
theorem row_zero {f : Nat → Option Int} : row 0 f = [] := rfl
theorem row_ne {n : Nat} {f : Nat → Option Int} (h : 0 < n) : row n f ≠ [] := fun e => by
  have := row_len n f
  rw [e] at this
  simp at this
  omega
/-- whole numbers as entries -/
abbrev whole (w : Nat → Int) : Nat → Option Int := fun j => some (w j)
abbrev wholeN (o : Nat → Nat) : Nat → Option Int := fun j => some ((o j : Nat) : Int)
theorem row_isW {n j : Nat} {w : Nat → Int} {v : V} (h : (row n (whole w))[j]? = some v) : j < n ∧ v = .int (w j) := row_is h
theorem row_isN {n j : Nat} {o : Nat → Nat} {v : V} (h : (row n (wholeN o))[j]? = some v) : j < n ∧ v = .int ((o j : Nat) : Int) := row_is h
theorem row_getW {n j : Nat} {w : Nat → Int} (h : j < n) : (row n (whole w))[j]? = some (.int (w j)) := row_get h
theorem row_getN {n j : Nat} {o : Nat → Nat} (h : j < n) : (row n (wholeN o))[j]? = some (.int ((o j : Nat) : Int)) := row_get h
theorem row_whole {n : Nat} {w : Nat → Int} : row n (whole w) = ((List.range n).map w).map V.int := by
  unfold row
  rw [List.map_map]
  rfl
theorem row_flat {n : Nat} {f : Nat → Option Int} : (row n f).all flatV = true := by
  refine List.all_eq_true.mpr fun v hv => ?_
  obtain ⟨j, _, rfl⟩ := List.mem_map.mp hv
  cases f j <;> rfl

/-! ### heaps: more, more but at d -/
theorem _root_.L2.Same.new {H : Hp} {p : Addr} {o : HO} (h : H p = none) : Same H (upd H p o) := fun a u e => by
  rw [upd_ne (ne_of_none e h)]
  exact e
theorem _root_.L2.Same.mut {H H' : Hp} {p : Addr} {o : HO} (e : Same H H') (h : H p = none) : Same H (upd H' p o) := fun a u ha => by
  rw [upd_ne (ne_of_none ha h)]
  exact e a u ha
theorem _root_.L2.Same.sqt {K : PySem.W.Frag} {H H' : Hp} {a : Addr} {xs : List V} (e : Same H H') (h : SqT K H a xs) : SqT K H' a xs := by
  rcases h with (h | ⟨o, h⟩) | h
  · exact .inl (.inl (e _ _ h))
  · exact .inl (.inr ⟨o, e _ _ h⟩)
  · exact .inr h
theorem _root_.L2.Same.tupD {H H' : Hp} {a : Addr} {xs : List V} (e : Same H H') (h : TupD H a xs) : TupD H' a xs := let ⟨o, h1, h2⟩ := h; ⟨o, e _ _ h1, h2⟩
/-- a list stands at d -/
def Lg (d : Addr) (H : Hp) : Prop := ∃ l : List V, H d = some (.lst l)
/-- all stands, but the lists at the addresses S may be other ones -/
structure Rl (S : Addr → Prop) (H H' : Hp) : Prop where
  keep : ∀ a o, ¬ S a → H a = some o → H' a = some o
  l0 : ∀ a, S a → Lg a H
  l1 : ∀ a, S a → Lg a H'
abbrev No : Addr → Prop := fun _ => False
abbrev At (d : Addr) : Addr → Prop := fun a => a = d
section
variable {K : PySem.W.Frag} {S : Addr → Prop} {d a : Addr} {H H1 H2 H' : Hp} {xs : List V}
theorem Lg.same (h : Lg d H) (e : Same H H') : Lg d H' := let ⟨ns, q⟩ := h; ⟨ns, e _ _ q⟩
theorem Rl.refl (h : ∀ a, S a → Lg a H) : Rl S H H := ⟨fun _ _ _ e => e, h, h⟩
theorem Rl.trans (x : Rl S H H1) (y : Rl S H1 H2) : Rl S H H2 := ⟨fun a o n e => y.keep a o n (x.keep a o n e), x.l0, y.l1⟩
theorem Rl.of (h : ∀ a, S a → Lg a H) (e : Same H H') : Rl S H H' := ⟨fun a o _ q => e a o q, h, fun a s => (h a s).same e⟩
theorem _root_.L2.Same.rl (e : Same H H') : Rl No H H' := .of (fun _ z => z.elim) e
theorem Rl.same (x : Rl No H H') : Same H H' := fun a o e => x.keep a o (fun z => z) e
theorem Rl.more (x : Rl S H H1) (e : Same H1 H2) : Rl S H H2 := x.trans (.of x.l1 e)
theorem Rl.new {p : Addr} {o : HO} (x : Rl S H H1) (h : H1 p = none) : Rl S H (upd H1 p o) := x.more (Same.new h)
theorem Rl.out (x : Rl S H H1) (h : H a = none) : ¬ S a := fun s => by
  obtain ⟨l, q⟩ := x.l0 a s
  rw [q] at h
  cases h
/-- an object that H did not know may change -/
theorem Rl.mut {p : Addr} {o : HO} (x : Rl S H H1) (h : H p = none) : Rl S H (upd H1 p o) :=
  ⟨fun a u ha hq => by rw [upd_ne (ne_of_none hq h)]; exact x.keep a u ha hq, x.l0, fun a s => by
    obtain ⟨l, q⟩ := x.l0 a s
    obtain ⟨l', q'⟩ := x.l1 a s
    exact ⟨l', by rw [upd_ne (ne_of_none q h)]; exact q'⟩⟩
theorem Rl.free (x : Rl S H H1) (h : H1 a = none) : H a = none := by
  cases q : H a with
  | none => rfl
  | some o =>
    by_cases e : S a
    · obtain ⟨l, r⟩ := x.l1 a e
      rw [r] at h
      cases h
    · rw [x.keep a o e q] at h
      cases h
theorem Rl.tup {o : Obj} {u : HO} (x : Rl S H H') (h : H a = some u) (hu : ∀ l, u ≠ .lst l) : H' a = some u := x.keep a u (fun s => by
  obtain ⟨l, q⟩ := x.l0 a s
  rw [q] at h
  exact hu l (Option.some.inj h).symm) h
theorem Rl.sqt (x : Rl S H H') (h : SqT K H a xs) : SqT K H' a xs := by
  rcases h with (h | ⟨o, h⟩) | h
  · exact .inl (.inl (x.tup (o := default) h fun l z => by cases z))
  · exact .inl (.inr ⟨o, x.tup (o := default) h fun l z => by cases z⟩)
  · exact .inr h
theorem Rl.tupD (x : Rl S H H') (h : TupD H a xs) : TupD H' a xs := by
  obtain ⟨o, h1, h2⟩ := h
  exact ⟨o, x.tup (o := default) h1 (fun l z => by cases z), h2⟩
theorem rl_at {l l' : List V} (h : H d = some (.lst l)) : Rl (At d) H (upd H d (.lst l')) :=
  ⟨fun a o n e => by rw [upd_ne n]; exact e, fun a s => ⟨l, by rw [s]; exact h⟩, fun a s => ⟨l', by rw [s]; exact upd_same⟩⟩
/-- the digits: a list of whole numbers at d -/
def Dg (d : Addr) (H : Hp) : Prop := ∃ ns : List Int, H d = some (.lst (ns.map V.int))
theorem Dg.lg (h : Dg d H) : ∀ a, At d a → Lg a H := fun a s => by
  obtain ⟨ns, q⟩ := h
  exact ⟨_, by rw [s]; exact q⟩
theorem Dg.same (h : Dg d H) (e : Same H H') : Dg d H' := let ⟨ns, q⟩ := h; ⟨ns, e _ _ q⟩
theorem Dg.ne {p : Addr} (h : Dg d H) (q : H p = none) : d ≠ p := let ⟨ns, r⟩ := h; ne_of_none r q
theorem Dg.mut {p : Addr} {o : HO} (h : Dg d H1) (n : d ≠ p) : Dg d (upd H1 p o) := let ⟨ns, r⟩ := h; ⟨ns, by rw [upd_ne n]; exact r⟩
end

/-! ### rows and tables at values -/
def IsRow (K : PySem.W.Frag) (H : Hp) (v : V) (n : Nat) (f : Nat → Option Int) : Prop := ∃ a, v = .ref a ∧ SqT K H a (row n f)
def IsTab (K : PySem.W.Frag) (H : Hp) (v : V) (n m : Nat) (M : Mx) : Prop := ∃ a vs, v = .ref a ∧ SqT K H a vs ∧ vs.length = n ∧ ∀ (i : Nat) (x : V), vs[i]? = some x → IsRow K H x m (M i)
/-- the outer doors -/
def IsOut (H : Hp) (v : V) (k : Nat) (o : Nat → Nat) : Prop := ∃ a, v = .ref a ∧ TupD H a (row k (wholeN o))
/-- gains: None, or a table -/
def IsOG (K : PySem.W.Frag) (H : Hp) (v : V) (k : Nat) : Option Mx → Prop
  | none => v = .non
  | some G => IsTab K H v k k G
/-- lists of entries at the addresses as, the list of these at p -/
structure Grid (H : Hp) (p : Addr) (as : List Addr) (m : Nat) (M : Mx) : Prop where
  lst : H p = some (.lst (as.map V.ref))
  nd : as.Nodup
  np : p ∉ as
  rows : ∀ (i : Nat) (a : Addr), as[i]? = some a → H a = some (.lst (row m (M i)))
section
variable {K : PySem.W.Frag} {S : Addr → Prop} {H H' : Hp} {v : V} {n m k : Nat} {f : Nat → Option Int} {M M' : Mx} {o : Nat → Nat}
theorem IsRow.same (e : Same H H') (h : IsRow K H v n f) : IsRow K H' v n f := let ⟨a, q, r⟩ := h; ⟨a, q, (Same.rl e).sqt r⟩
theorem IsRow.rl (e : Rl S H H') (h : IsRow K H v n f) : IsRow K H' v n f := let ⟨a, q, r⟩ := h; ⟨a, q, e.sqt r⟩
theorem IsTab.same (e : Same H H') (h : IsTab K H v n m M) : IsTab K H' v n m M := let ⟨a, vs, q, r, l, h⟩ := h; ⟨a, vs, q, (Same.rl e).sqt r, l, fun i x hx => (h i x hx).same e⟩
theorem IsTab.rl (e : Rl S H H') (h : IsTab K H v n m M) : IsTab K H' v n m M := let ⟨a, vs, q, r, l, h⟩ := h; ⟨a, vs, q, e.sqt r, l, fun i x hx => (h i x hx).rl e⟩
theorem IsOut.same (e : Same H H') (h : IsOut H v k o) : IsOut H' v k o := let ⟨a, q, r⟩ := h; ⟨a, q, (Same.rl e).tupD r⟩
theorem IsOut.rl (e : Rl S H H') (h : IsOut H v k o) : IsOut H' v k o := let ⟨a, q, r⟩ := h; ⟨a, q, e.tupD r⟩
theorem IsOut.row (h : IsOut H v k o) : IsRow K H v k (wholeN o) := let ⟨a, q, r⟩ := h; ⟨a, q, r.sq⟩
theorem IsOG.same {r : Option Mx} (e : Same H H') (h : IsOG K H v k r) : IsOG K H' v k r := by
  cases r with
  | none => exact h
  | some G => exact IsTab.same e h
theorem IsOG.rl {r : Option Mx} (e : Rl S H H') (h : IsOG K H v k r) : IsOG K H' v k r := by
  cases r with
  | none => exact h
  | some G => exact IsTab.rl e h
theorem IsRow.congr {g : Nat → Option Int} (h : IsRow K H v n f) (e : ∀ j, j < n → f j = g j) : IsRow K H v n g := by
  obtain ⟨a, q, r⟩ := h
  rw [row_congr e] at r
  exact ⟨a, q, r⟩
theorem IsTab.congr (h : IsTab K H v n m M) (e : ∀ i j, i < n → j < m → M i j = M' i j) : IsTab K H v n m M' := by
  obtain ⟨a, vs, q, r, l, h⟩ := h
  refine ⟨a, vs, q, r, l, fun i x hx => (h i x hx).congr fun j hj => e i j ?_ hj⟩
  rw [← l]
  exact (List.getElem?_eq_some_iff.mp hx).1
/-- the row of a table at a place -/
theorem IsTab.row {vs : List V} (h : ∀ (i : Nat) (x : V), vs[i]? = some x → IsRow K H x m (M i)) (l : vs.length = n) {i : Nat} (hi : i < n) : ∃ x b, vs[i]? = some x ∧ x = .ref b ∧ SqT K H b (row m (M i)) := by
  have hl : i < vs.length := by omega
  obtain ⟨b, e, q⟩ := h i _ (List.getElem?_eq_getElem hl)
  exact ⟨_, b, List.getElem?_eq_getElem hl, e, q⟩
end
section
variable {H H' : Hp} {p : Addr} {as : List Addr} {m : Nat} {M M' : Mx}
theorem Grid.same (e : Same H H') (g : Grid H p as m M) : Grid H' p as m M := ⟨e _ _ g.lst, g.nd, g.np, fun i a h => e _ _ (g.rows i a h)⟩
theorem Grid.congr (g : Grid H p as m M) (e : ∀ i j, i < as.length → j < m → M i j = M' i j) : Grid H p as m M' :=
  ⟨g.lst, g.nd, g.np, fun i a h => by
    rw [g.rows i a h, row_congr fun j hj => e i j (List.getElem?_eq_some_iff.mp h).1 hj]⟩
theorem refs_get {as : List Addr} {i : Nat} {v : V} (h : (as.map V.ref)[i]? = some v) : ∃ a, as[i]? = some a ∧ v = .ref a := by
  rw [List.getElem?_map] at h
  cases e : as[i]? with
  | none => rw [e] at h; cases h
  | some a => rw [e] at h; exact ⟨a, rfl, (Option.some.inj h).symm⟩
theorem refs_at {as : List Addr} {i : Nat} {a : Addr} (h : as[i]? = some a) : (as.map V.ref)[i]? = some (V.ref a) := by
  rw [List.getElem?_map, h]
  rfl
theorem has {as : List Addr} {i : Nat} (h : i < as.length) : ∃ a, as[i]? = some a := ⟨as[i], List.getElem?_eq_getElem h⟩
def put (M : Mx) (i j : Nat) (e : Option Int) : Mx := fun x y => if x = i then (if y = j then e else M x y) else M x y
/-- an entry of a row is stored -/
theorem Grid.set (g : Grid H p as m M) {i j : Nat} {a : Addr} {e : Option Int} (h : as[i]? = some a) : Grid (upd H a (.lst ((row m (M i)).set j (enc e)))) p as m (put M i j e) := by
  have hpa : p ≠ a := fun z => g.np (by rw [z]; exact List.mem_of_getElem? h)
  refine ⟨by rw [upd_ne hpa]; exact g.lst, g.nd, g.np, fun i' a' h' => ?_⟩
  by_cases hi : i' = i
  · subst hi
    have ea : a' = a := Option.some.inj (h'.symm.trans h)
    subst ea
    rw [upd_same, row_set]
    congr 2
    exact row_congr fun k _ => by unfold put; rw [if_pos rfl]
  · have na : a' ≠ a := fun q => hi (nd_ix g.nd h' (by rw [q]; exact h))
    rw [upd_ne na, g.rows i' a' h']
    congr 2
    exact row_congr fun k _ => by unfold put; rw [if_neg hi]
/-- all but at the addresses S stands -/
def Off (S : List Addr) (H H' : Hp) : Prop := ∀ b o, b ∉ S → H b = some o → H' b = some o
theorem Off.refl {S : List Addr} : Off S H H := fun _ _ _ h => h
theorem Off.trans {S : List Addr} {H1 H2 : Hp} (a : Off S H H1) (b : Off S H1 H2) : Off S H H2 := fun c o n h => b c o n (a c o n h)
theorem Off.set {S : List Addr} {a : Addr} {o : HO} (h : a ∈ S) : Off S H (upd H a o) := fun b u n e => by
  rw [upd_ne (fun z => n (by rw [z]; exact h))]
  exact e
theorem Off.of {S : List Addr} (e : Same H H') : Off S H H' := fun b o _ h => e b o h
theorem Off.more {S : List Addr} {H1 H2 : Hp} (a : Off S H H1) (e : Same H1 H2) : Off S H H2 := fun c o n h => e c o (a c o n h)
theorem Off.same {S : List Addr} {H0 : Hp} (x : Off S H H') (e : Same H0 H) (f : ∀ a ∈ S, H0 a = none) : Same H0 H' := fun b o h => x b o (fun z => by rw [f b z] at h; cases h) (e b o h)
theorem Off.mono {S S' : List Addr} (x : Off S H H') (s : ∀ a ∈ S, a ∈ S') : Off S' H H' := fun b o n h => x b o (fun z => n (s b z)) h
end

/-! ### loops and comprehensions -/
theorem walk_rng {n : Nat} : Walk (Itr 0 n) n (fun _ => True) (YFn fun i => .int (i : Nat)) :=
  walk_range.mono (fun _ h => h) fun i H x H' _ _ y => ⟨y.1, y.2.trans (by show V.int (0 + (i : Nat)) = V.int (i : Nat); rw [Int.zero_add])⟩
theorem YAt.same {xs : List V} (i : Nat) (x : V) (H H' : Hp) (h : YAt xs i H x H') : Same H H' := by
  rw [h.1]
  exact Same.refl H
theorem YFn.same {f : Nat → V} (i : Nat) (x : V) (H H' : Hp) (h : YFn f i H x H') : Same H H' := by
  rw [h.1]
  exact Same.refl H
theorem YPair.same {a b : Nat → Option V} (i : Nat) (x : V) (H H' : Hp) (h : YPair a b i H x H') : Same H H' := by
  obtain ⟨T, x, y, _, hT, rfl, _⟩ := h
  exact Same.new hT
section
variable {J : It} {n : Nat} {G : Hp → Prop} {Y : Nat → Hp → V → Hp → Prop} {g : TG} {tt : TT} {te : TE} {vs : List Nat} {σ : L2.St} {H1 : Hp} {Q : Addr → Hp → Prop}
/-- a comprehension: P by the list's address, the turn, what is made so far, the heap -/
theorem lcF (S : Addr → Prop) (P : Addr → Nat → List V → Hp → Prop) (w : Walk J n G Y) (hn : n ≤ 100000) (hS : ∀ a, S a → Lg a H1) (hG : ∀ H', Rl S H1 H' → G H') (hY : ∀ i x H H', Y i H x H' → Same H H')
    (h0 : ∀ D, H1 D = none → P D 0 [] (upd H1 D (.lst [])))
    (stab : ∀ D i acc H H', Rl (At D) H H' → P D i acc H → P D i acc H') (stay : ∀ D i acc H H', Same H H' → P D i acc H → P D i acc H')
    (hs : ∀ (D : Addr) (i : Nat) (x : V) (acc : List V) (H' H'' : Hp) (Ky : VK) (Kn : Hp → Prop), i < n → H1 D = none → Rl S H1 H'' → H'' D = some (.lst acc) → Y i H' x H'' → P D i acc H'' →
      (∀ y H4, Rl S H'' H4 → P D (i + 1) (acc ++ [y]) H4 → Ky y H4) → (∀ H4, Rl S H'' H4 → P D (i + 1) acc H4 → Kn H4) →
      g x (wipe σ vs) H'' fun σ2 H2 => wipe σ2 vs = wipe σ vs ∧ tt σ2 H2 fun b H3 => if b = true then te σ2 H3 Ky else Kn H3)
    (q : ∀ D ys H', H1 D = none → Rl S H1 H' → H' D = some (.lst ys) → P D n ys H' → Q D H') :
    ∀ D, H1 D = none → ∃ W : Nat → Nat → Hp → Prop, (∃ m, W 0 m (upd H1 D (.lst []))) ∧ ∀ i m H, W i m H →
      (J.stop i H ∧ Q D H) ∨ (J.go i H ∧ ∃ Nx : Hp → Prop, (∀ H', Nx H' → ∃ m', m' < m ∧ W (i + 1) m' H') ∧ ∀ x H', J.yld i H x H' → g x (wipe σ vs) H' fun σ2 H2 => wipe σ2 vs = wipe σ vs ∧ tt σ2 H2 fun b H3 =>
        if b = true then te σ2 H3 fun y H4 => ∃ acc, H4 D = some (.lst acc) ∧ acc.length < sizeLine ∧ Nx (upd H4 D (.lst (acc ++ [y]))) else Nx H3) := by
  intro D hD
  refine lc_it w (fun i H => Rl S H1 H ∧ ∃ ys, H D = some (.lst ys) ∧ ys.length ≤ i ∧ P D i ys H) ⟨(Rl.refl hS).new hD, [], upd_same, Nat.le_refl _, h0 D hD⟩ (fun i H _ p => hG H p.1) ?_ ?_
  · rintro i x H H' hi ⟨e, ys, hd, hl, hp⟩ y
    have e2 := hY i x H H' y
    have s1 := e.more e2
    have nD : ¬ S D := e.out hD
    refine hs D i x ys H H' _ _ hi hD s1 (e2 _ _ hd) y (stay _ _ _ _ _ e2 hp) (fun v H4 r4 p4 => ?_) (fun H4 r4 p4 => ?_)
    · have hd4 := r4.keep D _ nD (e2 _ _ hd)
      exact ⟨ys, hd4, Nat.lt_of_lt_of_le (by omega : ys.length < 100000) (by decide), (s1.trans r4).mut hD, ys ++ [v], upd_same, by rw [List.length_append, List.length_singleton]; omega, stab _ _ _ _ _ (rl_at hd4) p4⟩
    · exact ⟨s1.trans r4, ys, r4.keep D _ nD (e2 _ _ hd), by omega, p4⟩
  · rintro H ⟨e, ys, hd, hl, hp⟩
    exact q D ys H hD e hd hp
/-- .. each turn gives a value -/
theorem lcS (S : Addr → Prop) (P : Addr → Nat → V → Hp → Prop) (w : Walk J n G Y) (hn : n ≤ 100000) (hS : ∀ a, S a → Lg a H1) (hG : ∀ H', Rl S H1 H' → G H') (hY : ∀ i x H H', Y i H x H' → Same H H')
    (stab : ∀ D i y H H', i < n → Rl (At D) H H' → P D i y H → P D i y H') (stay : ∀ D i y H H', i < n → H1 D = none → Rl S H H' → P D i y H → P D i y H')
    (hs : ∀ (D : Addr) (i : Nat) (x : V) (H' H'' : Hp) (Ky : VK), i < n → H1 D = none → Rl S H1 H'' → Lg D H'' → Y i H' x H'' →
      (∀ y H4, Rl S H'' H4 → P D i y H4 → Ky y H4) → g x (wipe σ vs) H'' fun σ2 H2 => wipe σ2 vs = wipe σ vs ∧ te σ2 H2 Ky)
    (q : ∀ D ys H', H1 D = none → Rl S H1 H' → H' D = some (.lst ys) → ys.length = n → (∀ i y, ys[i]? = some y → P D i y H') → Q D H') :
    ∀ D, H1 D = none → ∃ W : Nat → Nat → Hp → Prop, (∃ m, W 0 m (upd H1 D (.lst []))) ∧ ∀ i m H, W i m H →
      (J.stop i H ∧ Q D H) ∨ (J.go i H ∧ ∃ Nx : Hp → Prop, (∀ H', Nx H' → ∃ m', m' < m ∧ W (i + 1) m' H') ∧ ∀ x H', J.yld i H x H' → g x (wipe σ vs) H' fun σ2 H2 => wipe σ2 vs = wipe σ vs ∧ tYes σ2 H2 fun b H3 =>
        if b = true then te σ2 H3 fun y H4 => ∃ acc, H4 D = some (.lst acc) ∧ acc.length < sizeLine ∧ Nx (upd H4 D (.lst (acc ++ [y]))) else Nx H3) := by
  intro D hD
  refine lc_it w (fun i H => Rl S H1 H ∧ ∃ ys, H D = some (.lst ys) ∧ ys.length = i ∧ i ≤ n ∧ ∀ j y, ys[j]? = some y → P D j y H) ⟨(Rl.refl hS).new hD, [], upd_same, rfl, Nat.zero_le _, fun j y h => by simp at h⟩ (fun i H _ p => hG H p.1) ?_ ?_
  · rintro i x H H' hi ⟨e, ys, hd, hl, _, hp⟩ y
    have e2 := hY i x H H' y
    have s1 := e.more e2
    have nD : ¬ S D := e.out hD
    have hk : ∀ (Ky : VK), (∀ y H4, Rl S H' H4 → P D i y H4 → Ky y H4) → g x (wipe σ vs) H' fun σ2 H2 => wipe σ2 vs = wipe σ vs ∧ tYes σ2 H2 fun b H3 => if b = true then te σ2 H3 Ky else True := fun Ky k => hs D i x H H' Ky hi hD s1 ⟨ys, e2 _ _ hd⟩ y k
    refine hs D i x H H' _ hi hD s1 ⟨ys, e2 _ _ hd⟩ y (fun v H4 r4 p4 => ?_)
    have hd4 := r4.keep D _ nD (e2 _ _ hd)
    refine ⟨ys, hd4, Nat.lt_of_lt_of_le (by omega : ys.length < 100000) (by decide), (s1.trans r4).mut hD, ys ++ [v], upd_same, by rw [List.length_append, List.length_singleton, hl], hi, fun j z hz => ?_⟩
    by_cases hj : j < ys.length
    · rw [List.getElem?_append_left hj] at hz
      exact stab _ _ _ _ _ (by omega) (rl_at hd4) (stay _ _ _ _ _ (by omega) hD ((Rl.of e.l1 e2).trans r4) (hp j z hz))
    · have hj2 : j = ys.length := by
        have := (List.getElem?_eq_some_iff.mp hz).1
        rw [List.length_append, List.length_singleton] at this
        omega
      subst hj2
      rw [List.getElem?_append_right (Nat.le_refl _), Nat.sub_self] at hz
      cases hz
      rw [hl]
      exact stab _ _ _ _ _ hi (rl_at hd4) p4
  · rintro H ⟨e, ys, hd, hl, _, hp⟩
    exact q D ys H hD e hd hl hp
end

/-! ### the rules by a written K -/
def rLen2 (K : PySem.W.Frag) : List V → Hp → VK → Prop := fun xs H Q => ∃ p ys, xs = [.ref p] ∧ (SqL K H p ys ∨ SqT K H p ys) ∧ Q (.int ys.length) H
def rListOf (K : PySem.W.Frag) : List V → Hp → VK → Prop := fun xs H Q => ∃ p ys, xs = [.ref p] ∧ (SqL K H p ys ∨ SqT K H p ys) ∧ ∀ l, H l = none → Q (.ref l) (upd H l (.lst ys))
def rTupOf (K : PySem.W.Frag) : List V → Hp → VK → Prop := fun xs H Q => ∃ p ys, xs = [.ref p] ∧ SqL K H p ys ∧ ∀ l, H l = none → Q (.ref l) (upd H l (.tup ys))
section
variable {X : Cx} (K : PySem.W.Frag) (h : X.K = K := by rfl) {tg l e e2 : Expr} {tl : TE} {ta : TA} {p pos tpos : Pos} {elts : List Expr} {kk : Nat}
include h
theorem ixT : IxR X (rIxT K) := h ▸ ix_tup
theorem ixL : IxR X (rIxL K) := h ▸ ix_list
theorem lenK : CallR X (.builtin "len") (rLen2 K) := h ▸ call_len_seq
theorem isiK : CallR X (.builtin "isinstance") (rIsi K) := h ▸ call_isi
theorem listK : CallR X (.type "list") (rListOf K) := h ▸ call_list_of
theorem tupK : CallR X (.type "tuple") (rTupOf K) := by
  subst h
  intro pins s σ H xs us Q I r ⟨p, ys, e, hq, q⟩
  exact call_tuple_of pins s σ H xs us Q I r ⟨p, ys, e, .inl ⟨hq, q⟩⟩
theorem tupDK : CallR X (.type "tuple") (rTupD K) := h ▸ call_tupD
theorem inK : OpR X (compareOp .In) (rIn K false) := h ▸ op_in_seq
theorem ninK : OpR X (compareOp .NotIn) (rIn K true) := h ▸ op_notIn_seq
theorem allK (hc : X.calm = true) : CallR X (.builtin "all") (rAll K) := h ▸ cr_all hc
theorem maxK (hc : X.calm = true) : CallR X (.builtin "max") (rMax K) := h ▸ cr_max hc
theorem setK (hc : X.calm = true) : CallR X (.type "set") (rSetT K X.w) := h ▸ call_setT hc
theorem catAK : OpR X (binaryOp .Add) (rCatA K) := h ▸ op_catA
theorem catDK : OpR X (binaryOp .Add) (rCatD K) := h ▸ op_catD
theorem slK : SlR X (rSlA K) := h ▸ sl_tupA
theorem repTK : OpR X (binaryOp .Mult) (rRepT1 K) := h ▸ op_repT1
theorem eqDK (hu : X.A.units + 64 < cLine) : OpR X (compareOp .Eq) (rEqD K) := h ▸ op_eqD hu
theorem neDK (hu : X.A.units + 64 < cLine) : OpR X (compareOp .NotEq) (rNeD K) := h ▸ op_neD hu
theorem piL (hl : PE X l tl) : PI X tg l (iList K tl) := h ▸ pi_list hl
theorem piT (hl : PE X l tl) : PI X tg l (iTup K tl) := h ▸ pi_tup hl
theorem piE (hg : Gl X "enumerate") (hm : X.mg "enumerate" = none) (ha : PA X [e] ta) (hs : starEach [e] X.env = [(false, eval e X.env)] := by rfl) : PI X (.Tuple elts kk tpos) (.Call (.Name "enumerate" p) [e] [] pos) (iEnum K ta) := h ▸ pi_enum hg hm ha hs
theorem piET (hg : Gl X "enumerate") (hm : X.mg "enumerate" = none) (ha : PA X [e] ta) (hs : starEach [e] X.env = [(false, eval e X.env)] := by rfl) : PI X (.Tuple elts kk tpos) (.Call (.Name "enumerate" p) [e] [] pos) (iEnumT K ta) := h ▸ pi_enumT hg hm ha hs
theorem piZ (hg : Gl X "zip") (hm : X.mg "zip" = none) (ha : PA X [e, e2] ta) (hs : starEach [e, e2] X.env = (false, eval e X.env) :: starEach [e2] X.env := by rfl) (hpl : (backTo pos (starEach [e2] X.env)).any (·.1) = false := by rfl) : PI X (.Tuple elts kk tpos) (.Call (.Name "zip" p) [e, e2] [] pos) (RZ.iZipA K ta) := h ▸ RZ.pi_zipA hg hm ha hs hpl
end
/-- a comprehension within a comprehension -/
theorem blkIn {X : Cx} {s : Shared} {H : Hp} {scope scope2 : Scope} {cl : List (Str × Addr)} {C : Addr} {fp : List Addr} {own : List (Str × Nat)} (N : List Str) (sc0 : Scope) (hN : X.N = N) (hs : X.env.scope = sc0) (h : blkC N (relS scope sc0) scope2 own = true) :
    BlkOk (X.blk s H scope (compEnvC scope cl C X.env) fp).N (X.blk s H scope (compEnvC scope cl C X.env) fp).env.scope scope2 own := by
  subst hN hs
  exact blkOk_by h
end K60

namespace K60
open PySem L2
open C8 (Cal Def Met Mak cal0 met0 mak0 pe_c pe_mk pe_mt pe_mt0 pe_gc InsC call_isC fnScope fnBody fnArgs clsBody fnScope_by)

/-! ### kinds of values -/
theorem k_ii : kitB "int" "int" = some true := by decide +kernel
theorem k_ib : kitB "int" "bool" = some false := by decide +kernel
theorem k_is : kitB "int" "str" = some false := by decide +kernel
theorem k_it : kitB "int" "tuple" = some false := by decide +kernel
theorem k_ni : kitB "NoneType" "int" = some false := by decide +kernel
theorem k_nb : kitB "NoneType" "bool" = some false := by decide +kernel
theorem k_nt : kitB "NoneType" "tuple" = some false := by decide +kernel
theorem k_ns : kitB "NoneType" "str" = some false := by decide +kernel
theorem k_bb : kitB "bool" "bool" = some true := by decide +kernel
theorem k_bi : kitB "bool" "int" = some true := by decide +kernel
theorem k_tt : kitB "tuple" "tuple" = some true := by decide +kernel
theorem k_tb : kitB "tuple" "bool" = some false := by decide +kernel
theorem k_ti : kitB "tuple" "int" = some false := by decide +kernel
theorem k_ts : kitB "tuple" "str" = some false := by decide +kernel
section
variable {K : PySem.W.Frag} {H : Hp} {Q : VK}
theorem ty_n : TyX K H .non (.type "NoneType") := .base .non
theorem ty_i {i : Int} : TyX K H (.int i) (.type "int") := .base (.int i)
theorem ty_b {b : Bool} : TyX K H (.bl b) (.type "bool") := .base (.bl b)
theorem ty_t {a : Addr} {xs : List V} (h : SqT K H a xs) : TyX K H (.ref a) (.type "tuple") := by
  rcases h with (h | ⟨o, h⟩) | ⟨o, _, _, h, hc, _⟩
  · exact .base (.tup h)
  · exact .fTuple h
  · exact .kTuple h hc
theorem isi {x : V} {t c : String} {b : Bool} (ty : TyX K H x (.type t)) (h : kitB t c = some b) (q : Q (.bl b) H) : rIsi K [x, .ty c] H Q := ⟨x, .ty c, _, _, b, rfl, .ty c, ty, kit_ty h, q⟩
end
theorem iteDT {p A B : Prop} [Decidable p] (h : p) (a : A) : if decide p = true then A else B := by
  rw [decide_eq_true h]
  exact iteT a
theorem iteDF {p A B : Prop} [Decidable p] (h : ¬ p) (b : B) : if decide p = true then A else B := by
  rw [decide_eq_false h]
  exact iteF b
theorem iteNT {p A B : Prop} [Decidable p] (h : p) (b : B) : if (!decide p) = true then A else B := by
  rw [decide_eq_true h]
  exact iteF b
theorem iteNF {p A B : Prop} [Decidable p] (h : ¬ p) (a : A) : if (!decide p) = true then A else B := by
  rw [decide_eq_false h]
  exact iteT a
theorem iteB {b : Bool} {A B : Prop} (h1 : b = true → A) (h2 : b = false → B) : if b = true then A else B := by
  cases b with
  | true => exact iteT (h1 rfl)
  | false => exact iteF (h2 rfl)

/-- a number: not None, at least 0 -/
def numb : Option Int → Bool
  | none => false
  | some i => decide (0 ≤ i)
/-- numbers below n, rising -/
structure Lot (n k : Nat) (o : Nat → Nat) : Prop where
  lt : ∀ i, i < k → o i < n
  up : ∀ i j, i < j → j < k → o i < o j

def spInteger : Sp := fun vs H Q _ => ∃ o : Option Int, vs = [enc o] ∧ Q (.bl o.isSome) H
def spNumber : Sp := fun vs H Q _ => ∃ o : Option Int, vs = [enc o] ∧ Q (.bl (numb o)) H
def spLot (K : PySem.W.Frag) : Sp := fun vs H Q _ => ∃ (n k : Nat) (o : Nat → Nat) (a : Addr), vs = [.int (n : Int), .ref a] ∧ SqT K H a (row k (wholeN o)) ∧ Lot n k o ∧ Q (.bl true) H
def spLessened : Sp := fun vs H Q _ => ∃ (o : Option Int) (i : Int), vs = [enc o, .int i] ∧ Q (enc (o.map (· - i))) H
def spTurned : Sp := fun vs H Q _ => ∃ (o : Option Int), vs = [enc o] ∧ Q (enc (o.map (0 - ·))) H
def spPartWaits (K : PySem.W.Frag) : Sp := fun vs H Q _ => ∃ (n : Nat) (w : Nat → Int) (a : Addr), vs = [.int (n : Int), .ref a] ∧ SqT K H a (row n (whole w)) ∧ n ≤ 1000 ∧ (∀ i, i < n → 0 ≤ w i) ∧ ∀ H', Same H H' → Q (.bl true) H'
def spNeedWaits (K : PySem.W.Frag) : Sp := fun vs H Q _ => ∃ (n : Nat) (w : Nat → Int) (a : Addr), vs = [.int (n : Int), .ref a] ∧ SqT K H a (row n (whole w)) ∧ n ≤ 1000 ∧ (∀ i, i < n → 0 ≤ w i) ∧ ∀ H', Same H H' → Q .non H'
def spDutyRows (K : PySem.W.Frag) : Sp := fun vs H Q _ => ∃ (n m : Nat) (M : Mx) (v : V), vs = [.int (n : Int), .int (m : Int), v] ∧ IsTab K H v n m M ∧ n ≤ 1000 ∧ m ≤ 1000 ∧ (∀ i j g, i < n → j < m → M i j = some g → 0 ≤ g) ∧ ∀ H', Same H H' → Q (.bl true) H'
def spLinks (K : PySem.W.Frag) : Sp := fun vs H Q _ => ∃ (n m : Nat) (M M' : Mx) (v v' : V), vs = [.int (n : Int), .int (m : Int), v, v'] ∧ IsTab K H v n m M ∧ IsTab K H v' m n M' ∧ n ≤ 1000 ∧ m ≤ 1000 ∧ (∀ i j g, i < n → j < m → M i j = some g → 0 ≤ g) ∧ (∀ i j g, i < m → j < n → M' i j = some g → 0 ≤ g) ∧ ∀ H', Same H H' → Q .non H'
def spTableRow (K : PySem.W.Frag) : Sp := fun vs H Q _ => ∃ (n x : Nat) (f : Nat → Option Int) (v : V), vs = [.int (n : Int), .int (x : Int), v] ∧ IsRow K H v n f ∧ n ≤ 1000 ∧ x < n ∧ f x = some 0 ∧ ∀ H', Same H H' → Q (.bl true) H'
def spTable (K : PySem.W.Frag) : Sp := fun vs H Q _ => ∃ (n : Nat) (M : Mx) (v : V), vs = [v] ∧ IsTab K H v n n M ∧ 0 < n ∧ n ≤ 1000 ∧ (∀ x, x < n → M x x = some 0) ∧ ∀ H', Same H H' → Q (.bl true) H'

/- is_integer: slots 0 thing; cells [] -/
abbrev s_is_integer : Stmt := top 10
theorem sc_is_integer : FnScope ["thing"] ["thing"] (fnScope s_is_integer) := fnScope_by (by decide +kernel)
/- is_number: slots 0 thing; cells [] -/
abbrev s_is_number : Stmt := top 11
theorem sc_is_number : FnScope ["thing"] ["thing"] (fnScope s_is_number) := fnScope_by (by decide +kernel)
/- is_lot: slots 0 size 1 thing 2 least 3 member; cells [] -/
abbrev s_is_lot : Stmt := top 12
theorem sc_is_lot : FnScope ["size", "thing", "least", "member"] ["size", "thing"] (fnScope s_is_lot) := fnScope_by (by decide +kernel)
/- _lessened: slots 0 entry 1 units; cells [] -/
abbrev s__lessened : Stmt := top 28
theorem sc__lessened : FnScope ["entry", "units"] ["entry", "units"] (fnScope s__lessened) := fnScope_by (by decide +kernel)
/- _turned: slots 0 units; cells [] -/
abbrev s__turned : Stmt := top 29
theorem sc__turned : FnScope ["units"] ["units"] (fnScope s__turned) := fnScope_by (by decide +kernel)
/- _are_part_waits: slots 0 size 1 thing 2 units; cells [] -/
abbrev s__are_part_waits : Stmt := top 25
theorem sc__are_part_waits : FnScope ["size", "thing", "units"] ["size", "thing"] (fnScope s__are_part_waits) := fnScope_by (by decide +kernel)
/- need_table_waits: slots 0 size 1 waits 2 wait; cells [] -/
abbrev s_need_table_waits : Stmt := top 14
theorem sc_need_table_waits : FnScope ["size", "waits", "wait"] ["size", "waits"] (fnScope s_need_table_waits) := fnScope_by (by decide +kernel)
/- _are_duty_rows: slots 0 high 1 wide 2 thing 3 row 4 units; cells [] -/
abbrev s__are_duty_rows : Stmt := top 27
theorem sc__are_duty_rows : FnScope ["high", "wide", "thing", "row", "units"] ["high", "wide", "thing"] (fnScope s__are_duty_rows) := fnScope_by (by decide +kernel)
/- _look_at_links: slots 0 near 1 away 2 there 3 back; cells [] -/
abbrev s__look_at_links : Stmt := top 26
theorem sc__look_at_links : FnScope ["near", "away", "there", "back"] ["near", "away", "there", "back"] (fnScope s__look_at_links) := fnScope_by (by decide +kernel)
/- is_table_row: slots 0 size 1 at 2 row 3 entry; cells [] -/
abbrev s_is_table_row : Stmt := top 19
theorem sc_is_table_row : FnScope ["size", "at", "row", "entry"] ["size", "at", "row"] (fnScope s_is_table_row) := fnScope_by (by decide +kernel)
/- is_table: slots 0 thing 1 at 2 row; cells ['thing'] -/
abbrev s_is_table : Stmt := top 20
theorem sc_is_table : FnScope ["thing", "at", "row"] ["thing"] (fnScope s_is_table) := fnScope_by (by decide +kernel)
section
variable {P : Program} {w : World} {K : PySem.W.Frag} {mg : Str → Option Value} {base : Heap}
theorem ok_is_integer (T : Txt mg) (D : Dx K mg "is_integer" s_is_integer ["thing"]) : Cal P w K mg base 1 "is_integer" spInteger [] := by
  refine cal D sc_is_integer (fun vs H Q E h => ?_) (fun f cdv A outer s H vs Q E hr h => ?_)
  · obtain ⟨o, rfl, _⟩ := h
    rfl
  · obtain ⟨o, rfl, q⟩ := h
    have nd := sc_is_integer.nd
    refine ⟨_, (pss_one (ps_ret (pe_and (pe_callB (isiK K) (by rfl) T.isinstance boot_isinstance (pa_cons (pv 0) (pa_cons (pe_ty (by rfl) T.int boot_int) pa_nil))) (pe_one (pe_not (pe_callB (isiK K) (by rfl) T.isinstance boot_isinstance (pa_cons (pv 0) (pa_cons (pe_ty (by rfl) T.bool boot_bool) pa_nil)))))))), ?_⟩
    cases o with
    | none => exact ⟨_, rfl, _, _, _, _, _, rfl, .ty _, ty_n, kit_ty k_ni, _, rfl, iteF q⟩
    | some i => exact ⟨_, rfl, _, _, _, _, _, rfl, .ty _, ty_i, kit_ty k_ii, _, rfl, iteT ⟨_, rfl, _, _, _, _, _, rfl, .ty _, ty_i, kit_ty k_ib, _, rfl, q⟩⟩
theorem ok_is_number (T : Txt mg) (D : Dx K mg "is_number" s_is_number ["thing"]) (c_is_integer : Cal P w K mg base 1 "is_integer" spInteger []) : Cal P w K mg base 2 "is_number" spNumber [] := by
  refine cal D sc_is_number (fun vs H Q E h => ?_) (fun f cdv A outer s H vs Q E hr h => ?_)
  · obtain ⟨o, rfl, _⟩ := h
    rfl
  · obtain ⟨o, rfl, q⟩ := h
    have nd := sc_is_number.nd
    refine ⟨_, (pss_one (ps_ret (pe_and (pe_c c_is_integer hr (by decide) (by rfl) (pa_cons (pv 0) pa_nil)) (pe_one (pe_cmpR op_ge (pv 0) pe_int (nomark _)))))), ?_⟩
    refine ⟨_, rfl, o, rfl, _, rfl, ?_⟩
    cases o with
    | none => exact iteF q
    | some i => exact iteT ⟨_, rfl, _, _, rfl, rfl, q⟩
theorem ok_lessened (T : Txt mg) (D : Dx K mg "_lessened" s__lessened ["entry", "units"]) : Cal P w K mg base 1 "_lessened" spLessened [] := by
  refine cal D sc__lessened (fun vs H Q E h => ?_) (fun f cdv A outer s H vs Q E hr h => ?_)
  · obtain ⟨o, i, rfl, _⟩ := h
    rfl
  · obtain ⟨o, i, rfl, q⟩ := h
    have nd := sc__lessened.nd
    refine ⟨_, (pss_one (ps_ret (pe_ifExp (pt_cmpR op_isN (pv 0) pe_non (nomark _)) pe_non (pe_op op_sub (pv 0) (pv 1))))), ?_⟩
    cases o with
    | none => exact ⟨_, rfl, rfl, _, rfl, iteDT rfl q⟩
    | some j => exact ⟨_, rfl, rfl, _, rfl, iteDF (fun z => by cases z) ⟨_, rfl, _, rfl, _, _, rfl, rfl, q⟩⟩
theorem ok_turned (T : Txt mg) (D : Dx K mg "_turned" s__turned ["units"]) : Cal P w K mg base 1 "_turned" spTurned [] := by
  refine cal D sc__turned (fun vs H Q E h => ?_) (fun f cdv A outer s H vs Q E hr h => ?_)
  · obtain ⟨o, rfl, _⟩ := h
    rfl
  · obtain ⟨o, rfl, q⟩ := h
    have nd := sc__turned.nd
    refine ⟨_, (pss_one (ps_ret (pe_ifExp (pt_cmpR op_isN (pv 0) pe_non (nomark _)) pe_non (pe_un un_neg (pv 0))))), ?_⟩
    cases o with
    | none => exact ⟨_, rfl, rfl, _, rfl, iteDT rfl q⟩
    | some j =>
      refine ⟨_, rfl, rfl, _, rfl, iteDF (fun z => by cases z) ⟨_, rfl, _, rfl, ?_⟩⟩
      have e : (0 : Int) - j = -j := by omega
      have q' : Q (V.int (0 - j)) H := q
      rw [e] at q'
      exact q'
theorem ok_is_lot (T : Txt mg) (D : Dx K mg "is_lot" s_is_lot ["size", "thing"]) (c_is_integer : Cal P w K mg base 1 "is_integer" spInteger []) : Cal P w K mg base 2 "is_lot" (spLot K) [] := by
  refine cal D sc_is_lot (fun vs H Q E h => ?_) (fun f cdv A outer s H vs Q E hr h => ?_)
  · obtain ⟨n, k, o, a, rfl, _⟩ := h
    rfl
  · obtain ⟨n, k, o, a, rfl, hT, hL, q⟩ := h
    have nd := sc_is_lot.nd
    refine ⟨_, (pss_cons (ps_if (pt_not (pt_val (pe_callB (isiK K) (by rfl) T.isinstance boot_isinstance (pa_cons (pv 1) (pa_cons (pe_ty (by rfl) T.tuple boot_tuple) pa_nil))))) (pss_one (ps_ret pe_bl)) pss_nil)
      (pss_cons (ps_set (i := 2) nd rfl (Or.inl rfl) pe_int)
      (pss_cons (ps_for PassesOwn.never rfl (piT K rfl (pv 1)) (pg_name (i := 3) nd rfl (Or.inl rfl))
        (pss_cons (ps_if (PW.pt (pw_or (pt_not (pt_val (pe_c c_is_integer hr (by decide) (by rfl) (pa_cons (pv 3) pa_nil)))) (pw_or (pt_cmpR op_lt (pv 3) (pv 2) (nomark _)) (pw_or1 (pt_cmpR op_ge (pv 3) (pv 0) (nomark _)))))) (pss_one (ps_ret pe_bl)) pss_nil)
        (pss_one (ps_set (i := 2) nd rfl (Or.inl rfl) (pe_op op_add (pv 3) pe_int)))))
      (pss_one (ps_ret pe_bl))))), ?_⟩
    refine ⟨_, rfl, _, _, _, _, _, rfl, .ty _, ty_t hT, kit_ty k_tt, _, rfl, iteF ?_⟩
    refine ⟨_, rfl, _, rfl, ⟨_, hT⟩, for_it walk_tup (fun i σ' H' => H' = H ∧ ∃ (l : Nat) (m : Option V), σ' = [some (.int (n : Int)), some (.ref a), some (.int (l : Int)), m] ∧ ∀ j, i ≤ j → j < k → l ≤ o j)
      ⟨rfl, 0, none, rfl, fun _ _ _ => Nat.zero_le _⟩ (fun i σ' H' _ p => by rw [p.1]; exact hT) ?_ ?_⟩
    · rintro i x σ' H' H'' hi ⟨rfl, l, m, rfl, hl⟩ ⟨rfl, hx⟩
      obtain ⟨hi, rfl⟩ := row_isN hx
      have h1 := hl i (Nat.le_refl _) hi
      have h2 := hL.lt i hi
      refine ⟨_, rfl, some (o i : Int), rfl, _, rfl, iteF ⟨_, rfl, _, rfl, _, _, rfl, rfl, _, rfl, iteDF (by omega) ⟨_, rfl, _, rfl, _, _, rfl, rfl, _, rfl, iteDF (by omega) ?_⟩⟩⟩
      refine ⟨_, rfl, _, _, rfl, rfl, rfl, o i + 1, _, rfl, fun j h3 h4 => ?_⟩
      exact hL.up i j (by omega) h4
    · rintro σ' H' ⟨rfl, l, m, rfl, hl⟩
      exact q
/-- a list of Bools that are all true -/
theorem all_true {ys : List V} (h : ∀ (i : Nat) (y : V), ys[i]? = some y → y = .bl true) : ys = (List.replicate ys.length true).map V.bl := by
  apply List.ext_getElem?
  intro i
  rw [List.map_replicate, List.getElem?_replicate]
  by_cases hi : i < ys.length
  · rw [if_pos hi, List.getElem?_eq_getElem hi, h i _ (List.getElem?_eq_getElem hi)]
  · rw [if_neg hi, List.getElem?_eq_none (by omega)]
theorem all_rep (n : Nat) : (List.replicate n true).all id = true := List.all_eq_true.mpr fun x hx => (List.mem_replicate.mp hx).2
theorem no_lg {H : Hp} : ∀ a, No a → Lg a H := fun _ z => z.elim
theorem ok_are_part_waits (T : Txt mg) (D : Dx K mg "_are_part_waits" s__are_part_waits ["size", "thing"]) (c_is_number : Cal P w K mg base 2 "is_number" spNumber []) : Cal P w K mg base 3 "_are_part_waits" (spPartWaits K) [] := by
  refine cal D sc__are_part_waits (fun vs H Q E h => ?_) (fun f cdv A outer s H vs Q E hr h => ?_)
  · obtain ⟨n, wt, a, rfl, _⟩ := h
    rfl
  · obtain ⟨n, wt, a, rfl, hT, hn, h0, q⟩ := h
    have nd := sc__are_part_waits.nd
    refine ⟨_, (pss_one (ps_ret (pe_and (pe_callB (isiK K) (by rfl) T.isinstance boot_isinstance (pa_cons (pv 1) (pa_cons (pe_ty (by rfl) T.tuple boot_tuple) pa_nil))) (pe_and (pe_cmpR op_eq (pe_callB (lenK K) (by rfl) T.len boot_len (pa_cons (pv 1) pa_nil)) (pv 0) (nomark _)) (pe_one (pe_callB (allK K rfl rfl) (by rfl) T.all boot_all (pa_cons (pe_lc (own := [("units", 2)]) (g := gName 2) (tt := tYes) rfl nd (piT K rfl (pv 1)) (blkOk_by (N := ["size", "thing", "units"]) (sc := fnScope s__are_part_waits) (by decide +kernel)) (fun _ _ _ _ _ => (pg_name (i := 2) nd rfl (Or.inl rfl))) (fun _ _ _ _ _ => pts_nil) (fun _ _ _ _ _ => (pe_c c_is_number hr (by decide) (by rfl) (pa_cons (pv 2) pa_nil)))) pa_nil))))))), ?_⟩
    refine ⟨_, rfl, _, _, _, _, _, rfl, .ty _, ty_t hT, kit_ty k_tt, _, rfl, iteT ⟨_, rfl, _, _, rfl, .inr hT, _, rfl, rfl, _, rfl, ?_⟩⟩
    rw [row_len]
    refine iteDT rfl ⟨_, rfl, _, rfl, ⟨_, hT⟩, lcS No (fun D i y H' => y = .bl true) walk_tup (by rw [row_len]; omega) no_lg (fun H' e => e.sqt hT) YAt.same (fun _ _ _ _ _ _ _ h => h) (fun _ _ _ _ _ _ _ _ h => h) ?_ ?_⟩
    · rintro D i x H' H'' Ky hi hD e hL ⟨rfl, hx⟩ k
      obtain ⟨hi, rfl⟩ := row_isW hx
      refine ⟨rfl, _, rfl, some (wt i), rfl, k _ _ (.refl no_lg) ?_⟩
      exact congrArg V.bl (decide_eq_true (h0 i hi))
    · intro D ys H' hD e hd hl hp
      refine ⟨D, _, rfl, SqL.of (hd.trans (congrArg (fun z => some (HO.lst z)) (all_true hp))), ?_⟩
      rw [all_rep]
      exact q _ e.same
theorem ok_need_table_waits (T : Txt mg) (D : Dx K mg "need_table_waits" s_need_table_waits ["size", "waits"]) (c_is_number : Cal P w K mg base 2 "is_number" spNumber []) : Cal P w K mg base 3 "need_table_waits" (spNeedWaits K) [] := by
  refine cal D sc_need_table_waits (fun vs H Q E h => ?_) (fun f cdv A outer s H vs Q E hr h => ?_)
  · obtain ⟨n, wt, a, rfl, _⟩ := h
    rfl
  · obtain ⟨n, wt, a, rfl, hT, hn, h0, q⟩ := h
    have nd := sc_need_table_waits.nd
    refine ⟨_, (pss_one (ps_if (PW.pt (pw_or (pt_not (pt_val (pe_callB (isiK K) (by rfl) T.isinstance boot_isinstance (pa_cons (pv 1) (pa_cons (pe_ty (by rfl) T.tuple boot_tuple) pa_nil))))) (pw_or (pt_cmpR op_ne (pe_callB (lenK K) (by rfl) T.len boot_len (pa_cons (pv 1) pa_nil)) (pv 0) (nomark _)) (pw_or1 (pt_not (pt_val (pe_callB (allK K rfl rfl) (by rfl) T.all boot_all (pa_cons (pe_lc (own := [("wait", 2)]) (g := gName 2) (tt := tYes) rfl nd (piT K rfl (pv 1)) (blkOk_by (N := ["size", "waits", "wait"]) (sc := fnScope s_need_table_waits) (by decide +kernel)) (fun _ _ _ _ _ => (pg_name (i := 2) nd rfl (Or.inl rfl))) (fun _ _ _ _ _ => pts_nil) (fun _ _ _ _ _ => (pe_c c_is_number hr (by decide) (by rfl) (pa_cons (pv 2) pa_nil)))) pa_nil)))))))) (pss_one ps_never) pss_nil)), ?_⟩
    refine ⟨_, rfl, _, _, _, _, _, rfl, .ty _, ty_t hT, kit_ty k_tt, _, rfl, iteF ⟨_, rfl, _, _, rfl, .inr hT, _, rfl, rfl, _, rfl, ?_⟩⟩
    rw [row_len]
    refine iteNT rfl ⟨_, rfl, _, rfl, ⟨_, hT⟩, lcS No (fun D i y H' => y = .bl true) walk_tup (by rw [row_len]; omega) no_lg (fun H' e => e.sqt hT) YAt.same (fun _ _ _ _ _ _ _ h => h) (fun _ _ _ _ _ _ _ _ h => h) ?_ ?_⟩
    · rintro D i x H' H'' Ky hi hD e hL ⟨rfl, hx⟩ k
      obtain ⟨hi, rfl⟩ := row_isW hx
      refine ⟨rfl, _, rfl, some (wt i), rfl, k _ _ (.refl no_lg) ?_⟩
      exact congrArg V.bl (decide_eq_true (h0 i hi))
    · intro D ys H' hD e hd hl hp
      refine ⟨D, _, rfl, SqL.of (hd.trans (congrArg (fun z => some (HO.lst z)) (all_true hp))), _, rfl, ?_⟩
      rw [all_rep]
      exact iteF (q _ e.same)
theorem ok_are_duty_rows (T : Txt mg) (D : Dx K mg "_are_duty_rows" s__are_duty_rows ["high", "wide", "thing"]) (c_is_number : Cal P w K mg base 2 "is_number" spNumber []) : Cal P w K mg base 3 "_are_duty_rows" (spDutyRows K) [] := by
  refine cal D sc__are_duty_rows (fun vs H Q E h => ?_) (fun f cdv A outer s H vs Q E hr h => ?_)
  · obtain ⟨n, m, M, v, rfl, _⟩ := h
    rfl
  · obtain ⟨n, m, M, v, rfl, ⟨a, vs, rfl, hT, hl, hrows⟩, hn, hm, h0, q⟩ := h
    have nd := sc__are_duty_rows.nd
    refine ⟨_, (pss_cons (ps_if (PW.pt (pw_or (pt_not (pt_val (pe_callB (isiK K) (by rfl) T.isinstance boot_isinstance (pa_cons (pv 2) (pa_cons (pe_ty (by rfl) T.tuple boot_tuple) pa_nil))))) (pw_or1 (pt_cmpR op_ne (pe_callB (lenK K) (by rfl) T.len boot_len (pa_cons (pv 2) pa_nil)) (pv 0) (nomark _))))) (pss_one (ps_ret pe_bl)) pss_nil)
      (pss_cons (ps_for PassesOwn.never rfl (piT K rfl (pv 2)) (pg_name (i := 3) nd rfl (Or.inl rfl))
        (pss_cons (ps_if (PW.pt (pw_or (pt_not (pt_val (pe_callB (isiK K) (by rfl) T.isinstance boot_isinstance (pa_cons (pv 3) (pa_cons (pe_ty (by rfl) T.tuple boot_tuple) pa_nil))))) (pw_or1 (pt_cmpR op_ne (pe_callB (lenK K) (by rfl) T.len boot_len (pa_cons (pv 3) pa_nil)) (pv 1) (nomark _))))) (pss_one (ps_ret pe_bl)) pss_nil)
        (pss_one (ps_if (pt_not (pt_val (pe_callB (allK K rfl rfl) (by rfl) T.all boot_all (pa_cons (pe_lc (own := [("units", 4)]) (g := gName 4) (tt := tYes) rfl nd (piT K rfl (pv 3)) (blkOk_by (N := ["high", "wide", "thing", "row", "units"]) (sc := fnScope s__are_duty_rows) (by decide +kernel)) (fun _ _ _ _ _ => (pg_name (i := 4) nd rfl (Or.inl rfl))) (fun _ _ _ _ _ => pts_nil) (fun _ _ _ _ _ => (pe_or (pe_cmpR op_isN (pv 4) pe_non (nomark _)) (pe_one (pe_c c_is_number hr (by decide) (by rfl) (pa_cons (pv 4) pa_nil)))))) pa_nil)))) (pss_one (ps_ret pe_bl)) pss_nil))))
      (pss_one (ps_ret pe_bl)))), ?_⟩
    refine ⟨_, rfl, _, _, _, _, _, rfl, .ty _, ty_t hT, kit_ty k_tt, _, rfl, iteF ⟨_, rfl, _, _, rfl, .inr hT, _, rfl, rfl, _, rfl, ?_⟩⟩
    rw [hl]
    refine iteNT rfl ⟨_, rfl, _, rfl, ⟨_, hT⟩, for_it walk_tup (fun i σ' H' => Same H H' ∧ ∃ x3 x4, σ' = [some (.int (n : Int)), some (.int (m : Int)), some (.ref a), x3, x4])
      ⟨Same.refl H, none, none, rfl⟩ (fun i σ' H' _ p => (Same.rl p.1).sqt hT) ?_ ?_⟩
    · rintro i x σ' H' H'' hi ⟨e, x3, x4, rfl⟩ ⟨rfl, hx⟩
      obtain ⟨b, rfl, hb⟩ := hrows i x hx
      have hb' := (Same.rl e).sqt hb
      refine ⟨_, rfl, _, _, _, _, _, rfl, .ty _, ty_t hb', kit_ty k_tt, _, rfl, iteF ⟨_, rfl, _, _, rfl, .inr hb', _, rfl, rfl, _, rfl, ?_⟩⟩
      rw [row_len]
      refine iteNT rfl ⟨_, rfl, _, rfl, ⟨_, hb'⟩, lcS No (fun D i y H' => y = .bl true) walk_tup (by rw [row_len]; omega) no_lg (fun H' e => e.sqt hb') YAt.same (fun _ _ _ _ _ _ _ h => h) (fun _ _ _ _ _ _ _ _ h => h) ?_ ?_⟩
      · rintro D j y H2 H3 Ky hj hD e2 hL ⟨rfl, hy⟩ k
        obtain ⟨hj, rfl⟩ := row_is hy
        refine ⟨rfl, _, rfl, rfl, _, rfl, ?_⟩
        cases hM : M i j with
        | none => exact iteDT rfl (k _ _ (.refl no_lg) rfl)
        | some g =>
          refine iteDF (fun z => by cases z) ⟨_, rfl, some g, rfl, k _ _ (.refl no_lg) ?_⟩
          exact congrArg V.bl (decide_eq_true (h0 i j g (by omega) hj hM))
      · intro D ys H2 hD e2 hd hl hp
        refine ⟨D, _, rfl, SqL.of (hd.trans (congrArg (fun z => some (HO.lst z)) (all_true hp))), _, rfl, ?_⟩
        rw [all_rep]
        exact iteF ⟨e.trans e2.same, _, _, rfl⟩
    · rintro σ' H' ⟨e, x3, x4, rfl⟩
      exact q _ e
theorem ok_look_at_links (T : Txt mg) (D : Dx K mg "_look_at_links" s__look_at_links ["near", "away", "there", "back"]) (c__are_duty_rows : Cal P w K mg base 3 "_are_duty_rows" (spDutyRows K) []) : Cal P w K mg base 4 "_look_at_links" (spLinks K) [] := by
  refine cal D sc__look_at_links (fun vs H Q E h => ?_) (fun f cdv A outer s H vs Q E hr h => ?_)
  · obtain ⟨n, m, M, M', v, v', rfl, _⟩ := h
    rfl
  · obtain ⟨n, m, M, M', v, v', rfl, h1, h2, hn, hm, d1, d2, q⟩ := h
    have nd := sc__look_at_links.nd
    refine ⟨_, (pss_cons (ps_if (pt_not (pt_val (pe_c c__are_duty_rows hr (by decide) (by rfl) (pa_cons (pv 0) (pa_cons (pv 1) (pa_cons (pv 2) pa_nil)))))) (pss_one ps_never) pss_nil)
      (pss_one (ps_if (pt_not (pt_val (pe_c c__are_duty_rows hr (by decide) (by rfl) (pa_cons (pv 1) (pa_cons (pv 0) (pa_cons (pv 3) pa_nil)))))) (pss_one ps_never) pss_nil))), ?_⟩
    refine ⟨_, rfl, _, rfl, _, rfl, n, m, M, v, rfl, h1, hn, hm, d1, fun H1 e1 => ⟨_, rfl, iteF ⟨_, rfl, _, rfl, _, rfl, m, n, M', v', rfl, h2.same e1, hm, hn, d2, fun H2 e2 => ⟨_, rfl, iteF (q _ (e1.trans e2))⟩⟩⟩⟩
theorem ok_is_table_row (T : Txt mg) (D : Dx K mg "is_table_row" s_is_table_row ["size", "at", "row"]) (c_is_integer : Cal P w K mg base 1 "is_integer" spInteger []) : Cal P w K mg base 2 "is_table_row" (spTableRow K) [] := by
  refine cal D sc_is_table_row (fun vs H Q E h => ?_) (fun f cdv A outer s H vs Q E hr h => ?_)
  · obtain ⟨n, x, f, v, rfl, _⟩ := h
    rfl
  · obtain ⟨n, x, ro, v, rfl, ⟨a, rfl, hT⟩, hn, hx, h0, q⟩ := h
    have nd := sc_is_table_row.nd
    refine ⟨_, (pss_cons (ps_if (PW.pt (pw_or (pt_not (pt_val (pe_callB (isiK K) (by rfl) T.isinstance boot_isinstance (pa_cons (pv 2) (pa_cons (pe_ty (by rfl) T.tuple boot_tuple) pa_nil))))) (pw_or1 (pt_cmpR op_ne (pe_callB (lenK K) (by rfl) T.len boot_len (pa_cons (pv 2) pa_nil)) (pv 0) (nomark _))))) (pss_one (ps_ret pe_bl)) pss_nil)
      (pss_cons (ps_if (pt_not (pt_val (pe_callB (allK K rfl rfl) (by rfl) T.all boot_all (pa_cons (pe_lc (own := [("entry", 3)]) (g := gName 3) (tt := tYes) rfl nd (piT K rfl (pv 2)) (blkOk_by (N := ["size", "at", "row", "entry"]) (sc := fnScope s_is_table_row) (by decide +kernel)) (fun _ _ _ _ _ => (pg_name (i := 3) nd rfl (Or.inl rfl))) (fun _ _ _ _ _ => pts_nil) (fun _ _ _ _ _ => (pe_or (pe_cmpR op_isN (pv 3) pe_non (nomark _)) (pe_one (pe_c c_is_integer hr (by decide) (by rfl) (pa_cons (pv 3) pa_nil)))))) pa_nil)))) (pss_one (ps_ret pe_bl)) pss_nil)
      (pss_one (ps_ret (pe_cmpR op_eq (pe_ix (ixT K) (pv 2) (pv 1) (fun _ _ => rfl)) pe_int (nomark _)))))), ?_⟩
    refine ⟨_, rfl, _, _, _, _, _, rfl, .ty _, ty_t hT, kit_ty k_tt, _, rfl, iteF ⟨_, rfl, _, _, rfl, .inr hT, _, rfl, rfl, _, rfl, ?_⟩⟩
    rw [row_len]
    refine iteNT rfl ⟨_, rfl, _, rfl, ⟨_, hT⟩, lcS No (fun D i y H' => y = .bl true) walk_tup (by rw [row_len]; omega) no_lg (fun H' e => e.sqt hT) YAt.same (fun _ _ _ _ _ _ _ h => h) (fun _ _ _ _ _ _ _ _ h => h) ?_ ?_⟩
    · rintro D j y H2 H3 Ky hj hD e2 hL ⟨rfl, hy⟩ k
      obtain ⟨hj, rfl⟩ := row_is hy
      refine ⟨rfl, _, rfl, rfl, _, rfl, ?_⟩
      cases hM : ro j with
      | none => exact iteDT rfl (k _ _ (.refl no_lg) rfl)
      | some g => exact iteDF (fun z => by cases z) ⟨_, rfl, some g, rfl, k _ _ (.refl no_lg) rfl⟩
    · intro D ys H2 hD e2 hd hl hp
      refine ⟨D, _, rfl, SqL.of (hd.trans (congrArg (fun z => some (HO.lst z)) (all_true hp))), _, rfl, ?_⟩
      rw [all_rep]
      have hg := row_get (f := ro) hx
      rw [h0] at hg
      refine iteF ⟨_, rfl, _, rfl, _, _, _, _, rfl, rfl, e2.sqt hT, atI_nat hg, rfl, ?_⟩
      exact q _ e2.same
theorem ok_is_table (T : Txt mg) (D : Dx K mg "is_table" s_is_table ["thing"]) (c_is_table_row : Cal P w K mg base 2 "is_table_row" (spTableRow K) []) : Cal P w K mg base 3 "is_table" (spTable K) [] := by
  refine cal D sc_is_table (fun vs H Q E h => ?_) (fun f cdv A outer s H vs Q E hr h => ?_)
  · obtain ⟨n, M, v, rfl, _⟩ := h
    rfl
  · obtain ⟨n, M, v, rfl, ⟨a, vs, rfl, hT, hl, hrows⟩, h0, hn, hd0, q⟩ := h
    have nd := sc_is_table.nd
    refine ⟨_, (pss_cons (ps_if (PW.pt (pw_or (pt_not (pt_val (pe_callB (isiK K) (by rfl) T.isinstance boot_isinstance (pa_cons (pv 0) (pa_cons (pe_ty (by rfl) T.tuple boot_tuple) pa_nil))))) (pw_or1 (pt_cmpR op_eq (pe_callB (lenK K) (by rfl) T.len boot_len (pa_cons (pv 0) pa_nil)) pe_int (nomark _))))) (pss_one (ps_ret pe_bl)) pss_nil)
      (pss_one (ps_ret (pe_callB (allK K rfl rfl) (by rfl) T.all boot_all (pa_cons (pe_lc (own := [("at", 1), ("row", 2)]) (g := gTup K 2 (gCons (gName 1) (gCons (gName 2) gNil))) (tt := tYes) rfl nd (piET K rfl (by rfl) T.enumerate (pa_cons (pv 0) pa_nil)) (blkOk_by (N := ["thing", "at", "row"]) (sc := fnScope s_is_table) (by decide +kernel)) (fun _ _ _ _ _ => (pg_tup rfl (pgs_cons (pg_name (i := 1) nd rfl (Or.inl rfl)) (pgs_cons (pg_name (i := 2) nd rfl (Or.inl rfl)) pgs_nil)))) (fun _ _ _ _ _ => pts_nil) (fun _ _ _ _ _ => (pe_c c_is_table_row hr (by decide) (by rfl) (pa_cons (pe_callB (lenK K) (by rfl) T.len boot_len (pa_cons (pv 0) pa_nil)) (pa_cons (pv 1) (pa_cons (pv 2) pa_nil)))))) pa_nil))))), ?_⟩
    refine ⟨_, rfl, _, _, _, _, _, rfl, .ty _, ty_t hT, kit_ty k_tt, _, rfl, iteF ⟨_, rfl, _, _, rfl, .inr hT, rfl, _, rfl, ?_⟩⟩
    rw [hl]
    refine iteDF (fun z => by have := V.int.inj z; omega) ⟨_, rfl, a, vs, rfl, hT, lcS No (fun D i y H' => y = .bl true) walk_enumT (by omega) no_lg (fun H' e => e.sqt hT) YPair.same (fun _ _ _ _ _ _ _ h => h) (fun _ _ _ _ _ _ _ _ h => h) ?_ ?_⟩
    · rintro D j y H2 H3 Ky hj hD e2 hL ⟨Tu, x1, x2, rfl, hTu, rfl, e1, hx2⟩ k
      cases e1
      refine ⟨_, _, rfl, SqT.of upd_same, rfl, _, _, rfl, _, _, rfl, ⟨rfl, rfl, ?_⟩⟩
      have s3 := e2
      refine ⟨_, rfl, _, _, rfl, .inr (s3.sqt hT), _, rfl, _, rfl, n, j, M j, x2, ?_⟩
      rw [hl]
      exact ⟨rfl, (hrows j x2 hx2).rl s3, hn, by omega, hd0 j (by omega), fun H4 e4 => k _ _ (Same.rl e4) rfl⟩
    · intro D ys H2 hD e2 hd hl hp
      refine ⟨D, _, rfl, SqL.of (hd.trans (congrArg (fun z => some (HO.lst z)) (all_true hp))), ?_⟩
      rw [all_rep]
      exact q _ e2.same
end
end K60

namespace K60
open PySem L2
open C8 (Cal Def Met Mak cal0 met0 mak0 pe_c pe_mk pe_mt pe_mt0 pe_gc InsC call_isC fnScope fnBody fnArgs clsBody fnScope_by)

/-! ### comprehensions of entries, of lists -/
section
variable {J : It} {n : Nat} {G : Hp → Prop} {Y : Nat → Hp → V → Hp → Prop} {g : TG} {te : TE} {vs : List Nat} {σ : L2.St} {H1 : Hp} {Q : Addr → Hp → Prop}
theorem lcRow (S : Addr → Prop) (f : Nat → Option Int) (w : Walk J n G Y) (hn : n ≤ 100000) (hS : ∀ a, S a → Lg a H1) (hG : ∀ H', Rl S H1 H' → G H') (hY : ∀ i x H H', Y i H x H' → Same H H')
    (hs : ∀ (i : Nat) (x : V) (H' H'' : Hp) (Ky : VK), i < n → Rl S H1 H'' → Y i H' x H'' → (∀ H4, Rl S H'' H4 → Ky (enc (f i)) H4) → g x (wipe σ vs) H'' fun σ2 H2 => wipe σ2 vs = wipe σ vs ∧ te σ2 H2 Ky)
    (q : ∀ D H', H1 D = none → Rl S H1 H' → H' D = some (.lst (row n f)) → Q D H') :
    ∀ D, H1 D = none → ∃ W : Nat → Nat → Hp → Prop, (∃ m, W 0 m (upd H1 D (.lst []))) ∧ ∀ i m H, W i m H →
      (J.stop i H ∧ Q D H) ∨ (J.go i H ∧ ∃ Nx : Hp → Prop, (∀ H', Nx H' → ∃ m', m' < m ∧ W (i + 1) m' H') ∧ ∀ x H', J.yld i H x H' → g x (wipe σ vs) H' fun σ2 H2 => wipe σ2 vs = wipe σ vs ∧ tYes σ2 H2 fun b H3 =>
        if b = true then te σ2 H3 fun y H4 => ∃ acc, H4 D = some (.lst acc) ∧ acc.length < sizeLine ∧ Nx (upd H4 D (.lst (acc ++ [y]))) else Nx H3) :=
  lcS S (fun _ i y _ => y = enc (f i)) w hn hS hG hY (fun _ _ _ _ _ _ _ h => h) (fun _ _ _ _ _ _ _ _ h => h) (fun D i x H' H'' Ky hi _ e _ y k => hs i x H' H'' Ky hi e y fun H4 e4 => k _ _ e4 rfl)
    fun D ys H' hD e hd hl hp => q D H' hD e (by rw [hd, row_eq hl hp])
theorem lcG (m : Nat) (M : Mx) (w : Walk J n G Y) (hn : n ≤ 100000) (hG : ∀ H', Same H1 H' → G H') (hY : ∀ i x H H', Y i H x H' → Same H H')
    (hs : ∀ (i : Nat) (x : V) (H' H'' : Hp) (Ky : VK), i < n → Same H1 H'' → Y i H' x H'' → (∀ b H4, Same H'' H4 → H'' b = none → H4 b = some (.lst (row m (M i))) → Ky (.ref b) H4) → g x (wipe σ vs) H'' fun σ2 H2 => wipe σ2 vs = wipe σ vs ∧ te σ2 H2 Ky)
    (q : ∀ D as H', H1 D = none → Same H1 H' → (∀ a ∈ as, H1 a = none) → as.length = n → Grid H' D as m M → Q D H') :
    ∀ D, H1 D = none → ∃ W : Nat → Nat → Hp → Prop, (∃ m, W 0 m (upd H1 D (.lst []))) ∧ ∀ i m H, W i m H →
      (J.stop i H ∧ Q D H) ∨ (J.go i H ∧ ∃ Nx : Hp → Prop, (∀ H', Nx H' → ∃ m', m' < m ∧ W (i + 1) m' H') ∧ ∀ x H', J.yld i H x H' → g x (wipe σ vs) H' fun σ2 H2 => wipe σ2 vs = wipe σ vs ∧ tYes σ2 H2 fun b H3 =>
        if b = true then te σ2 H3 fun y H4 => ∃ acc, H4 D = some (.lst acc) ∧ acc.length < sizeLine ∧ Nx (upd H4 D (.lst (acc ++ [y]))) else Nx H3) := by
  refine lcF No (fun D i acc H => ∃ as : List Addr, acc = as.map V.ref ∧ as.length = i ∧ as.Nodup ∧ D ∉ as ∧ (∀ a ∈ as, H1 a = none) ∧ ∀ (j : Nat) (a : Addr), as[j]? = some a → H a = some (.lst (row m (M j)))) w hn no_lg (fun H' e => hG H' e.same) hY ?_ ?_ ?_ ?_ ?_
  · intro D hD
    exact ⟨[], rfl, rfl, .nil, by simp, by simp, fun j a h => by simp at h⟩
  · rintro D i acc H H' e ⟨as, rfl, hl, nd, nD, fr, rows⟩
    exact ⟨as, rfl, hl, nd, nD, fr, fun j a h => e.keep a _ (fun z => nD (by rw [← show a = D from z]; exact List.mem_of_getElem? h)) (rows j a h)⟩
  · rintro D i acc H H' e ⟨as, rfl, hl, nd, nD, fr, rows⟩
    exact ⟨as, rfl, hl, nd, nD, fr, fun j a h => e _ _ (rows j a h)⟩
  · rintro D i x acc H' H'' Ky Kn hi hD e hd y ⟨as, rfl, hl, nd, nD, fr, rows⟩ ky kn
    have := hs i x H' H'' Ky hi e.same y fun b H4 s4 hb h4 => ky _ _ (Same.rl s4) ?_
    · exact this
    refine ⟨as ++ [b], by simp, by simp [hl], ?_, ?_, ?_, ?_⟩
    · refine List.nodup_append.mpr ⟨nd, by simp, fun a ha c hc => ?_⟩
      have e1 : c = b := by simpa using hc
      subst e1
      obtain ⟨j, hj⟩ := List.getElem?_of_mem ha
      exact ne_of_none (rows j a hj) hb
    · intro h
      rcases List.mem_append.mp h with h | h
      · exact nD h
      · have e1 : D = b := by simpa using h
        rw [e1, hb] at hd
        cases hd
    · intro a ha
      rcases List.mem_append.mp ha with h | h
      · exact fr a h
      · have e1 : a = b := by simpa using h
        rw [e1]
        exact e.free hb
    · intro j a h
      by_cases hj : j < as.length
      · rw [List.getElem?_append_left hj] at h
        exact s4 _ _ (rows j a h)
      · have hj2 : j = as.length := by
          have := (List.getElem?_eq_some_iff.mp h).1
          rw [List.length_append, List.length_singleton] at this
          omega
        subst hj2
        rw [List.getElem?_append_right (Nat.le_refl _), Nat.sub_self] at h
        cases h
        rw [hl]
        exact h4
  · rintro D ys H' hD e hd ⟨as, rfl, hl, nd, nD, fr, rows⟩
    exact q D as H' hD e.same fr hl ⟨hd, nd, nD, rows⟩
end
theorem ixN_nat {n j : Nat} (h : j < n) : ixN n (j : Int) = some j := by
  unfold ixN
  rw [if_pos (by omega), if_pos (by omega)]
  simp
theorem sz5 {n : Nat} (h : n ≤ 100000) : n ≤ sizeLine := Nat.le_trans h (by decide)
theorem sz5l {n : Nat} (h : n ≤ 100000) : n < sizeLine := Nat.lt_of_le_of_lt h (by decide)
theorem rep_none (k : Nat) : (List.replicate k [V.non]).flatten = row k (fun _ => none) := by
  induction k with
  | zero => rfl
  | succ k ih => rw [row_succ, ← ih, List.replicate_succ']; simp [enc]
theorem row_app (n m : Nat) (f : Nat → Option Int) : row (n + m) f = row n f ++ row m (fun j => f (n + j)) := by
  induction m with
  | zero => simp [row]
  | succ m ih => rw [Nat.add_succ, row_succ, ih, row_succ, List.append_assoc]

/-! ### the promises -/
def spStepGains (K : PySem.W.Frag) : Sp := fun vs H Q _ => ∃ (n : Nat) (t : Mx) (w : Nat → Int) (v : V) (a : Addr), vs = [v, .ref a] ∧ IsTab K H v n n t ∧ SqT K H a (row n (whole w)) ∧ n ≤ 1000 ∧
  ∀ (p : Addr) (as : List Addr) (H' : Hp), Same H H' → (∀ a ∈ as, H a = none) → as.length = n → Grid H' p as n (stp t w) → Q (.ref p) H'
def spWalks : Sp := fun vs H Q _ => ∃ (n : Nat) (R : Mx) (p : Addr) (as : List Addr), vs = [.ref p] ∧ Grid H p as n R ∧ as.length = n ∧ 0 < n ∧ n ≤ 1000 ∧
  (∀ H', Off as H H' → ¬ Kept n (offD R) → Q .non H') ∧ ∀ (B : Mx) (H' : Hp), Off as H H' → Grid H' p as n B → Kept n (offD R) → (∀ x y, x < n → y < n → Best n (offD R) x y (B x y)) → Q (.ref p) H'
def spSide (K : PySem.W.Frag) : Sp := fun vs H Q _ => ∃ (n m : Nat) (A B : Mx) (v v' : V), vs = [v, v'] ∧ IsTab K H v n n A ∧ IsTab K H v' m m B ∧ n ≤ 1000 ∧ m ≤ 1000 ∧
  ∀ (p : Addr) (as : List Addr) (H' : Hp), Same H H' → H p = none → (∀ a ∈ as, H a = none) → as.length = n + m → Grid H' p as (n + m) (blk n A B) → Q (.ref p) H'
def spTwo : Sp := fun vs H Q _ => ∃ (n : Nat) (A B : Mx) (p q : Addr) (as bs : List Addr), vs = [.ref p, .ref q] ∧ Grid H p as n A ∧ Grid H q bs n B ∧ as.length = n ∧ bs.length = n ∧ n ≤ 1000 ∧
  ∀ (C : Mx) (r : Addr) (cs : List Addr) (H' : Hp), Same H H' → H r = none → (∀ a ∈ cs, H a = none) → cs.length = n → Grid H' r cs n C → OfTwo n A B C → Q (.ref r) H'
def spGainsOf (K : PySem.W.Frag) : Sp := fun vs H Q _ => ∃ (n k : Nat) (t : Mx) (w : Nat → Int) (o : Nat → Nat) (v : V) (a b : Addr), vs = [v, .ref a, .ref b] ∧ IsTab K H v n n t ∧ SqT K H a (row n (whole w)) ∧ SqT K H b (row k (wholeN o)) ∧ 0 < n ∧ n ≤ 1000 ∧
  (∀ i, i < n → 0 ≤ w i) ∧ Lot n k o ∧ 0 < k ∧ k ≤ 1000 ∧ ∀ (r : Option Mx) (v : V) (H' : Hp), Same H H' → IsOG K H' v k r → GainsRes n t w k o r → Q v H'

/- step_gains: slots 0 table 1 waits 2 size 3 x 4 y; cells ['size', 'table', 'waits'] -/
abbrev s_step_gains : Stmt := top 15
theorem sc_step_gains : FnScope ["table", "waits", "size", "x", "y"] ["table", "waits"] (fnScope s_step_gains) := fnScope_by (by decide +kernel)
/- _side_by_side: slots 0 rows 1 others 2 first 3 row; cells ['others', 'rows'] -/
abbrev s__side_by_side : Stmt := top 30
theorem sc__side_by_side : FnScope ["rows", "others", "first", "row"] ["rows", "others"] (fnScope s__side_by_side) := fnScope_by (by decide +kernel)
section
variable {P : Program} {w : World} {K : PySem.W.Frag} {mg : Str → Option Value} {base : Heap}
theorem ok_step_gains (T : Txt mg) (D : Dx K mg "step_gains" s_step_gains ["table", "waits"]) : Cal P w K mg base 1 "step_gains" (spStepGains K) [] := by
  refine cal D sc_step_gains (fun vs H Q E h => ?_) (fun f cdv A outer s H vs Q E hr h => ?_)
  · obtain ⟨n, t, wt, v, a, rfl, _⟩ := h
    rfl
  · obtain ⟨n, t, wt, v, aw, rfl, ⟨a, vs, rfl, hT, hl, hrows⟩, hW, hn, q⟩ := h
    have nd := sc_step_gains.nd
    refine ⟨_, (pss_cons (ps_set (i := 2) nd rfl (Or.inr rfl) (pe_callB (lenK K) (by rfl) T.len boot_len (pa_cons (pv 0) pa_nil)))
      (pss_one (ps_ret (pe_lc (own := [("x", 3)]) (g := gName 3) (tt := tYes) rfl nd (pi_range1 (by rfl) T.range (pa_cons (pv 2) pa_nil)) (blkOk_by (N := ["table", "waits", "size", "x", "y"]) (sc := fnScope s_step_gains) (by decide +kernel)) (fun _ _ _ _ _ => (pg_name (i := 3) nd rfl (Or.inr rfl))) (fun _ _ _ _ _ => pts_nil) (fun _ _ _ _ _ => (pe_lc (own := [("y", 4)]) (g := gName 4) (tt := tYes) rfl nd (pi_range1 (by rfl) T.range (pa_cons (pv 2) pa_nil)) (blkIn ["table", "waits", "size", "x", "y"] (fnScope s_step_gains) rfl rfl (by decide +kernel)) (fun _ _ _ _ _ => (pg_name (i := 4) nd rfl (Or.inl rfl))) (fun _ _ _ _ _ => pts_nil) (fun _ _ _ _ _ => (pe_ifExp (PW.pt (pw_or (pt_cmpR op_eq (pv 3) (pv 4) (nomark _)) (pw_or1 (pt_cmpR op_isN (pe_ix (ixT K) (pe_ix (ixT K) (pv 0) (pv 3) (fun _ _ => rfl)) (pv 4) (fun _ _ => rfl)) pe_non (nomark _))))) pe_non (pe_op op_sub (pe_ix (ixT K) (pe_ix (ixT K) (pv 0) (pv 3) (fun _ _ => rfl)) (pv 4) (fun _ _ => rfl)) (pe_ix (ixT K) (pv 1) (pv 3) (fun _ _ => rfl))))))))))), ?_⟩
    refine ⟨_, rfl, _, _, rfl, .inr hT, ?_⟩
    rw [hl]
    refine ⟨_, rfl, (n : Int), rfl, by omega, by omega, lcG n (stp t wt) walk_rng (by omega) (fun _ _ => trivial) YFn.same ?_ ?_⟩
    · rintro i x H' H'' Ky hi e ⟨rfl, rfl⟩ k
      refine ⟨rfl, _, rfl, (n : Int), rfl, by omega, by omega, lcRow No (stp t wt i) walk_rng (by omega) no_lg (fun _ _ => trivial) YFn.same ?_ ?_⟩
      · rintro j y H2 H3 Kz hj e2 ⟨rfl, rfl⟩ k2
        obtain ⟨x1, b, hx, rfl, hb⟩ := IsTab.row hrows hl hi
        have s3 := ((Same.rl e).trans e2)
        have hT3 := s3.sqt hT
        have hb3 := s3.sqt hb
        have hW3 := s3.sqt hW
        refine ⟨rfl, _, rfl, _, rfl, rfl, _, rfl, ?_⟩
        by_cases hij : i = j
        · subst hij
          have e0 : stp t wt i i = none := by unfold stp; rw [if_pos rfl]
          rw [e0] at k2
          exact iteDT rfl (iteT (k2 _ (.refl no_lg)))
        · refine iteDF (fun z => hij (by have := V.int.inj z; omega)) ⟨_, rfl, _, rfl, _, _, _, _, rfl, rfl, hT3, atI_nat hx, _, rfl, _, _, _, _, rfl, rfl, hb3, atI_nat (row_get hj), rfl, _, rfl, ?_⟩
          cases hM : t i j with
          | none =>
            have e0 : stp t wt i j = none := by unfold stp; rw [if_neg hij, hM]; rfl
            rw [e0] at k2
            exact iteDT rfl (k2 _ (.refl no_lg))
          | some g =>
            have e0 : stp t wt i j = some (g - wt i) := stp_of hij hM
            rw [e0] at k2
            have hg := row_get (f := t i) hj
            rw [hM] at hg
            refine iteDF (fun z => by cases z) ⟨_, rfl, _, rfl, _, _, _, _, rfl, rfl, hT3, atI_nat hx, _, rfl, _, _, _, _, rfl, rfl, hb3, atI_nat hg, _, rfl, _, rfl, _, _, _, _, rfl, rfl, hW3, atI_nat (row_getW hi), _, _, rfl, rfl, ?_⟩
            exact k2 _ (.refl no_lg)
      · intro D H2 hD e2 hd
        exact k D H2 e2.same hD hd
    · intro D as H' hD e fr hl' g
      exact q D as H' e fr hl' g
theorem ok_side_by_side (T : Txt mg) (D : Dx K mg "_side_by_side" s__side_by_side ["rows", "others"]) : Cal P w K mg base 1 "_side_by_side" (spSide K) [] := by
  refine cal D sc__side_by_side (fun vs H Q E h => ?_) (fun f cdv A outer s H vs Q E hr h => ?_)
  · obtain ⟨n, m, A, B, v, v', rfl, _⟩ := h
    rfl
  · obtain ⟨n, m, A, B, v, v', rfl, ⟨a1, vs1, rfl, hT1, hl1, hrows1⟩, ⟨a2, vs2, rfl, hT2, hl2, hrows2⟩, hn, hm, q⟩ := h
    have nd := sc__side_by_side.nd
    refine ⟨_, (pss_cons (ps_setLc (i := 2) (own := [("row", 3)]) (g := gName 3) (tt := tYes) rfl nd rfl rfl (sw_true rfl rfl rfl (by decide +kernel)) (piT K rfl (pv 0)) (blkOk_by (N := ["rows", "others", "first", "row"]) (sc := fnScope s__side_by_side) (by decide +kernel)) (fun _ _ _ _ _ => (pg_name (i := 3) nd rfl (Or.inl rfl))) (fun _ _ _ _ _ => pts_nil) (fun _ _ _ _ _ => (pe_op op_cat (pe_callTy (listK K) (by rfl) T.list boot_list (pa_cons (pv 3) pa_nil)) (pe_op op_rep (pe_lst (pa_cons pe_non pa_nil)) (pe_callB (lenK K) (by rfl) T.len boot_len (pa_cons (pv 1) pa_nil))))))
      (pss_one (ps_ret (pe_op op_cat (pv 2) (pe_lc (own := [("row", 3)]) (g := gName 3) (tt := tYes) rfl nd (piT K rfl (pv 1)) (blkOk_by (N := ["rows", "others", "first", "row"]) (sc := fnScope s__side_by_side) (by decide +kernel)) (fun _ _ _ _ _ => (pg_name (i := 3) nd rfl (Or.inl rfl))) (fun _ _ _ _ _ => pts_nil) (fun _ _ _ _ _ => (pe_op op_cat (pe_op op_rep (pe_lst (pa_cons pe_non pa_nil)) (pe_callB (lenK K) (by rfl) T.len boot_len (pa_cons (pv 0) pa_nil))) (pe_callTy (listK K) (by rfl) T.list boot_list (pa_cons (pv 3) pa_nil))))))))), ?_⟩
    refine ⟨_, rfl, a1, rfl, ⟨_, hT1⟩, lcG (n + m) (fun x y => if y < n then A x y else none) walk_tup (by omega) (fun H' e => (Same.rl e).sqt hT1) YAt.same ?_ ?_⟩
    · rintro i x H' H2 Ky hi e ⟨rfl, hx⟩ k
      obtain ⟨b, rfl, hb⟩ := hrows1 i x hx
      have r2 := Same.rl e
      refine ⟨rfl, _, rfl, _, _, rfl, .inr (r2.sqt hb), fun l hlf => ⟨sz5 (by show 1 ≤ 100000; decide), fun l2 hl2f => ?_⟩⟩
      refine ⟨_, rfl, _, _, rfl, .inr ((Same.new hl2f).rl.sqt ((Same.new hlf).rl.sqt (r2.sqt hT2))), _, _, _, rfl, rfl, upd_same, by rw [hl2]; omega, by rw [hl2]; omega, ?_, fun l3 hl3 => ?_⟩
      · rw [hl2]
        exact sz5 (by simp; omega)
      · have n1 : l ≠ l2 := ne_of_none upd_same hl2f
        have n2 : l ≠ l3 := ne_of_none (by rw [upd_ne n1]; exact upd_same) hl3
        refine ⟨l, l3, _, _, rfl, rfl, by rw [upd_ne n2, upd_ne n1]; exact upd_same, upd_same, ?_, fun l4 hl4 => ?_⟩
        · rw [hl2, row_len, Int.toNat_natCast, rep_none, row_len]
          exact sz5 (by omega)
        · refine k l4 _ ((((Same.new hlf).trans (Same.new hl2f)).trans (Same.new hl3)).trans (Same.new hl4)) ((((Same.new hlf).trans (Same.new hl2f)).trans (Same.new hl3)).free hl4) ?_
          rw [upd_same, hl2, Int.toNat_natCast, rep_none, row_app]
          congr 3
          · exact row_congr fun j hj => by rw [if_pos hj]
          · exact row_congr fun j hj => by rw [if_neg (by omega)]
    · intro D1 as1 H1 hD1 e1 fr1 la1 g1
      refine ⟨_, rfl, _, rfl, a2, rfl, ⟨_, e1.rl.sqt hT2⟩, lcG (n + m) (fun x y => if y < n then none else B x (y - n)) walk_tup (by omega) (fun H' e => e.rl.sqt (e1.rl.sqt hT2)) YAt.same ?_ ?_⟩
      · rintro i x H' H2 Ky hi e ⟨rfl, hx⟩ k
        obtain ⟨b, rfl, hb⟩ := hrows2 i x hx
        have r2 := (e1.trans e).rl
        refine ⟨rfl, sz5 (by show 1 ≤ 100000; decide), fun l hlf => ?_⟩
        refine ⟨_, rfl, _, _, rfl, .inr ((Same.new hlf).rl.sqt (r2.sqt hT1)), _, _, _, rfl, rfl, upd_same, by rw [hl1]; omega, by rw [hl1]; omega, ?_, fun l2 hl2f => ?_⟩
        · rw [hl1]
          exact sz5 (by simp; omega)
        · refine ⟨_, rfl, _, _, rfl, .inr ((Same.new hl2f).rl.sqt ((Same.new hlf).rl.sqt (r2.sqt hb))), fun l3 hl3 => ?_⟩
          have n1 : l2 ≠ l3 := ne_of_none upd_same hl3
          refine ⟨l2, l3, _, _, rfl, rfl, by rw [upd_ne n1]; exact upd_same, upd_same, ?_, fun l4 hl4 => ?_⟩
          · rw [hl1, row_len, Int.toNat_natCast, rep_none, row_len]
            exact sz5 (by omega)
          · refine k l4 _ ((((Same.new hlf).trans (Same.new hl2f)).trans (Same.new hl3)).trans (Same.new hl4)) ((((Same.new hlf).trans (Same.new hl2f)).trans (Same.new hl3)).free hl4) ?_
            rw [upd_same, hl1, Int.toNat_natCast, rep_none, row_app]
            congr 3
            · exact row_congr fun j hj => by rw [if_pos hj]
            · exact row_congr fun j hj => by rw [if_neg (by omega), Nat.add_sub_cancel_left]
      · intro D2 as2 H2 hD2 e2 fr2 la2 g2
        have g1' := g1.same e2
        have nd12 : D1 ≠ D2 := ne_of_none g1.lst hD2
        refine ⟨D1, D2, _, _, rfl, rfl, g1'.lst, g2.lst, sz5 (by simp [la1, la2, hl1, hl2]; omega), fun p hp => ?_⟩
        have a12 : ∀ a ∈ as1, ∀ b ∈ as2, a ≠ b := fun a ha b hb => by
          obtain ⟨j, hj⟩ := List.getElem?_of_mem ha
          exact ne_of_none (g1.rows j a hj) (fr2 b hb)
        have pn1 : ∀ a ∈ as1, a ≠ p := fun a ha => by
          obtain ⟨j, hj⟩ := List.getElem?_of_mem ha
          exact ne_of_none (g1'.rows j a hj) hp
        have pn2 : ∀ a ∈ as2, a ≠ p := fun a ha => by
          obtain ⟨j, hj⟩ := List.getElem?_of_mem ha
          exact ne_of_none (g2.rows j a hj) hp
        have es : Same H (upd H2 p (.lst (as1.map V.ref ++ as2.map V.ref))) := (e1.trans e2).trans (Same.new hp)
        refine q p (as1 ++ as2) _ es ((e1.trans e2).free hp) (fun a ha => ?_) (by rw [List.length_append, la1, la2, hl1, hl2]) ⟨by rw [upd_same, List.map_append], List.nodup_append.mpr ⟨g1.nd, g2.nd, a12⟩, fun h => ?_, fun i a h => ?_⟩
        · rcases List.mem_append.mp ha with ha | ha
          · exact fr1 a ha
          · exact e1.free (fr2 a ha)
        · rcases List.mem_append.mp h with h | h
          · exact pn1 p h rfl
          · exact pn2 p h rfl
        · rw [upd_ne (by rcases List.mem_append.mp (List.mem_of_getElem? h) with z | z; exact pn1 a z; exact pn2 a z)]
          by_cases hi : i < as1.length
          · rw [List.getElem?_append_left hi] at h
            rw [g1'.rows i a h]
            congr 2
            refine row_congr fun j hj => ?_
            unfold blk
            rw [if_pos (show i < n by omega)]
          · rw [List.getElem?_append_right (by omega)] at h
            rw [g2.rows _ a h]
            congr 2
            refine row_congr fun j hj => ?_
            unfold blk
            rw [if_neg (show ¬ i < n by omega), la1, hl1]
end
end K60

namespace K60
open PySem L2
open C8 (Cal Def Met Mak cal0 met0 mak0 pe_c pe_mk pe_mt pe_mt0 pe_gc InsC call_isC fnScope fnBody fnArgs clsBody fnScope_by)

/-! ### an entry raised -/
theorem put_self {C : Mx} {r j : Nat} {e : Option Int} : put C r j e r j = e := by unfold put; rw [if_pos rfl, if_pos rfl]
theorem put_ne {C : Mx} {r j x y : Nat} {e : Option Int} (h : ¬ (x = r ∧ y = j)) : put C r j e x y = C x y := by
  unfold put
  by_cases hx : x = r
  · rw [if_pos hx, if_neg (fun z => h ⟨hx, z⟩)]
  · rw [if_neg hx]
theorem put_ge {C : Mx} {r j x y : Nat} {v z : Int} (h : ∀ g, C r j = some g → g ≤ v) (a : Ge C x y z) : Ge (put C r j (some v)) x y z := by
  obtain ⟨g, e, l⟩ := a
  by_cases hx : x = r ∧ y = j
  · obtain ⟨rfl, rfl⟩ := hx
    have := h g e
    exact ⟨v, put_self, by omega⟩
  · exact ⟨g, by rw [put_ne hx]; exact e, l⟩
theorem put_up {n : Nat} {C : Mx} {r j : Nat} {v : Int} (h : ∀ g, C r j = some g → g ≤ v) : Up n C (put C r j (some v)) := fun x y z _ _ a => put_ge h a
theorem put_sound {n : Nat} {M C : Mx} {r j : Nat} {v : Int} (s : Sound n M C) (w : Wk n M r j v) : Sound n M (put C r j (some v)) := fun x y g hx hy e => by
  by_cases h : x = r ∧ y = j
  · obtain ⟨rfl, rfl⟩ := h
    rw [put_self] at e
    cases e
    exact w
  · rw [put_ne h] at e
    exact s x y g hx hy e
/-- part of a product of two squares -/
structure Prt (n : Nat) (A B C : Mx) (Pr : Nat → Nat → Nat → Prop) : Prop where
  ge : ∀ x s y a b, x < n → s < n → y < n → Pr x s y → A x s = some a → B s y = some b → Ge C x y (a + b)
  is : ∀ x y g, x < n → y < n → C x y = some g → ∃ s a b, s < n ∧ A x s = some a ∧ B s y = some b ∧ g = a + b
section
variable {n : Nat} {A B C : Mx} {Pr Pr' : Nat → Nat → Nat → Prop} {x s y : Nat} {a b : Int}
theorem Prt.put (p : Prt n A B C Pr) (hs : s < n) (ha : A x s = some a) (hb : B s y = some b) (h : ∀ g, C x y = some g → g ≤ a + b) (w : ∀ x' s' y', Pr' x' s' y' → Pr x' s' y' ∨ (x' = x ∧ s' = s ∧ y' = y)) : Prt n A B (put C x y (some (a + b))) Pr' where
  ge := fun x' s' y' a' b' h1 h2 h3 h4 h5 h6 => by
    rcases w x' s' y' h4 with h4 | ⟨rfl, rfl, rfl⟩
    · exact put_ge h (p.ge x' s' y' a' b' h1 h2 h3 h4 h5 h6)
    · rw [ha] at h5
      rw [hb] at h6
      cases h5
      cases h6
      exact ⟨a + b, put_self, Int.le_refl _⟩
  is := fun x' y' g h1 h2 e => by
    by_cases hx : x' = x ∧ y' = y
    · obtain ⟨rfl, rfl⟩ := hx
      rw [put_self] at e
      cases e
      exact ⟨s, a, b, hs, ha, hb, rfl⟩
    · rw [put_ne hx] at e
      exact p.is x' y' g h1 h2 e
theorem Prt.keep {g : Int} (p : Prt n A B C Pr) (ha : A x s = some a) (hb : B s y = some b) (hg : C x y = some g) (h : a + b ≤ g) (w : ∀ x' s' y', Pr' x' s' y' → Pr x' s' y' ∨ (x' = x ∧ s' = s ∧ y' = y)) : Prt n A B C Pr' where
  ge := fun x' s' y' a' b' h1 h2 h3 h4 h5 h6 => by
    rcases w x' s' y' h4 with h4 | ⟨rfl, rfl, rfl⟩
    · exact p.ge x' s' y' a' b' h1 h2 h3 h4 h5 h6
    · rw [ha] at h5
      rw [hb] at h6
      cases h5
      cases h6
      exact ⟨g, hg, h⟩
  is := p.is
theorem Prt.weak (p : Prt n A B C Pr) (w : ∀ x' s' y', x' < n → s' < n → y' < n → Pr' x' s' y' → Pr x' s' y' ∨ A x' s' = none ∨ B s' y' = none) : Prt n A B C Pr' where
  ge := fun x' s' y' a' b' h1 h2 h3 h4 h5 h6 => by
    rcases w x' s' y' h1 h2 h3 h4 with h4 | h4 | h4
    · exact p.ge x' s' y' a' b' h1 h2 h3 h4 h5 h6
    · rw [h4] at h5; cases h5
    · rw [h4] at h6; cases h6
  is := p.is
end

/- _best_of_two: slots 0 rows 1 others 2 best 3 here 4 row 5 _ 6 step 7 first 8 there 9 second; cells ['rows'] -/
abbrev s__best_of_two : Stmt := top 31
theorem sc__best_of_two : FnScope ["rows", "others", "best", "here", "row", "_", "step", "first", "there", "second"] ["rows", "others"] (fnScope s__best_of_two) := fnScope_by (by decide +kernel)
section
variable {P : Program} {w : World} {K : PySem.W.Frag} {mg : Str → Option Value} {base : Heap}
theorem ok_best_of_two (T : Txt mg) (D : Dx K mg "_best_of_two" s__best_of_two ["rows", "others"]) : Cal P w K mg base 1 "_best_of_two" spTwo [] := by
  refine cal D sc__best_of_two (fun vs H Q E h => ?_) (fun f cdv A outer s H vs Q E hr h => ?_)
  · obtain ⟨n, A, B, p, q, as, bs, rfl, _⟩ := h
    rfl
  · obtain ⟨n, A, B, p, q, as, bs, rfl, gA, gB, la, lb, hn, k⟩ := h
    have nd := sc__best_of_two.nd
    refine ⟨_, (pss_cons (ps_setLc (i := 2) (own := [("_", 5)]) (g := gName 5) (tt := tYes) rfl nd rfl rfl (sw_true rfl rfl rfl (by decide +kernel)) (piL K rfl (pv 0)) (blkOk_by (N := ["rows", "others", "best", "here", "row", "_", "step", "first", "there", "second"]) (sc := fnScope s__best_of_two) (by decide +kernel)) (fun _ _ _ _ _ => (pg_name (i := 5) nd rfl (Or.inl rfl))) (fun _ _ _ _ _ => pts_nil) (fun _ _ _ _ _ => (pe_op op_rep (pe_lst (pa_cons pe_non pa_nil)) (pe_callB (lenK K) (by rfl) T.len boot_len (pa_cons (pv 0) pa_nil)))))
      (pss_cons (ps_for PassesOwn.never rfl (piE K rfl (by rfl) T.enumerate (pa_cons (pv 0) pa_nil)) (pg_tup rfl (pgs_cons (pg_name (i := 3) nd rfl (Or.inl rfl)) (pgs_cons (pg_name (i := 4) nd rfl (Or.inl rfl)) pgs_nil)))
        (pss_one (ps_for PassesOwn.never rfl (piE K rfl (by rfl) T.enumerate (pa_cons (pv 4) pa_nil)) (pg_tup rfl (pgs_cons (pg_name (i := 6) nd rfl (Or.inl rfl)) (pgs_cons (pg_name (i := 7) nd rfl (Or.inl rfl)) pgs_nil)))
          (pss_cons (ps_if (pt_cmpR op_isN (pv 7) pe_non (nomark _)) (pss_one ps_continue) pss_nil)
          (pss_one (ps_for PassesOwn.never rfl (piE K rfl (by rfl) T.enumerate (pa_cons (pe_ix (ixL K) (pv 1) (pv 6) (fun _ _ => rfl)) pa_nil)) (pg_tup rfl (pgs_cons (pg_name (i := 8) nd rfl (Or.inl rfl)) (pgs_cons (pg_name (i := 9) nd rfl (Or.inl rfl)) pgs_nil)))
            (pss_one (ps_if (PW.pt (pw_and (pt_cmpR op_notN (pv 9) pe_non (nomark _)) (pw_and1 (PW.pt (pw_or (pt_cmpR op_isN (pe_ix (ixL K) (pe_ix (ixL K) (pv 2) (pv 3) (fun _ _ => rfl)) (pv 8) (fun _ _ => rfl)) pe_non (nomark _)) (pw_or1 (pt_cmpR op_gt (pe_op op_add (pv 7) (pv 9)) (pe_ix (ixL K) (pe_ix (ixL K) (pv 2) (pv 3) (fun _ _ => rfl)) (pv 8) (fun _ _ => rfl)) (nomark _)))))))) (pss_one (ps_asg (pe_op op_add (pv 7) (pv 9)) (pg_sub (pe_ix (ixL K) (pv 2) (pv 3) (fun _ _ => rfl)) (pv 8) set_list))) pss_nil))))))))
      (pss_one (ps_ret (pv 2))))), ?_⟩
    have lA : (as.map V.ref).length = n := by rw [List.length_map]; exact la
    refine ⟨_, rfl, p, rfl, ⟨_, SqL.of gA.lst⟩, lcG n (fun _ _ => none) walk_list (by omega) (fun H' e => e.seq (SqL.of gA.lst)) YAt.same ?_ ?_⟩
    · rintro i x H' H2 Ky hi e ⟨rfl, hx⟩ k2
      refine ⟨rfl, sz5 (by show 1 ≤ 100000; decide), fun l hl => ⟨_, rfl, _, _, rfl, .inl (SqL.of ((e.trans (Same.new hl)) _ _ gA.lst)), _, _, _, rfl, rfl, upd_same, by rw [lA]; omega, by rw [lA]; omega, ?_, fun l2 hl2 => ?_⟩⟩
      · rw [lA]
        exact sz5 (by simp; omega)
      · refine k2 l2 _ ((Same.new hl).trans (Same.new hl2)) ((Same.new hl).free hl2) ?_
        rw [upd_same, lA, Int.toNat_natCast, rep_none]
    · intro r cs H1 hr1 e1 fr1 lc1 g1
      rw [lA] at lc1
      -- for here, row in enumerate(rows)
      refine ⟨_, rfl, p, _, rfl, SqL.of (e1 _ _ gA.lst), for_it walk_enum (fun i σ' H' => ∃ C x3 x4 x5 x6 x7 x8 x9, σ' = [some (.ref p), some (.ref q), some (.ref r), x3, x4, x5, x6, x7, x8, x9] ∧ Same H H' ∧ Grid H' r cs n C ∧ Prt n A B C fun x _ _ => x < i)
        ⟨_, none, none, none, none, none, none, none, rfl, e1, g1, fun x s y a b _ _ _ h => absurd h (Nat.not_lt_zero _), fun x y g _ _ h => by cases h⟩ (fun i σ' H' _ ⟨C, _, _, _, _, _, _, _, _, e, _⟩ => SqL.of (e _ _ gA.lst)) ?_ ?_⟩
      · rintro i x σ' H' H2 hi ⟨C, x3, x4, x5, x6, x7, x8, x9, rfl, e, gC, pr⟩ ⟨Tu, y1, y2, rfl, hTu, rfl, ey, hy2⟩
        cases ey
        obtain ⟨a, hai, rfl⟩ := refs_get hy2
        rw [lA] at hi
        have eT : Same H (upd H' Tu (.tup [.int (i : Nat), .ref a])) := e.trans (Same.new hTu)
        refine ⟨_, _, rfl, SqT.of upd_same, rfl, _, _, rfl, _, _, rfl, rfl, ?_⟩
        -- for step, first in enumerate(row)
        refine ⟨_, rfl, a, _, rfl, SqL.of (eT _ _ (gA.rows i a hai)), for_it walk_enum (fun s0 σ' H' => ∃ C x5 x6 x7 x8 x9, σ' = [some (.ref p), some (.ref q), some (.ref r), some (.int (i : Nat)), some (.ref a), x5, x6, x7, x8, x9] ∧ Same H H' ∧ Grid H' r cs n C ∧ Prt n A B C fun x s _ => x < i ∨ (x = i ∧ s < s0))
          ⟨C, x5, x6, x7, x8, x9, rfl, eT, gC.same (Same.new hTu), pr.weak fun x s y _ _ _ h => .inl (by omega)⟩ (fun s0 σ' H' _ ⟨C, _, _, _, _, _, _, e, _⟩ => SqL.of (e _ _ (gA.rows i a hai))) ?_ ?_⟩
        · rintro s0 x σ' H3 H4 hs0 ⟨C, x5, x6, x7, x8, x9, rfl, e3, gC3, pr3⟩ ⟨Tv, z1, z2, rfl, hTv, rfl, ez, hz2⟩
          cases ez
          obtain ⟨hs0, rfl⟩ := row_is hz2
          have e4 : Same H (upd H3 Tv (.tup [.int (s0 : Nat), enc (A i s0)])) := e3.trans (Same.new hTv)
          have gC4 := gC3.same (Same.new hTv (o := .tup [.int (s0 : Nat), enc (A i s0)]))
          refine ⟨_, _, rfl, SqT.of upd_same, rfl, _, _, rfl, _, _, rfl, rfl, ?_⟩
          refine ⟨_, rfl, rfl, _, rfl, ?_⟩
          cases hA : A i s0 with
          | none =>
            rw [hA] at e4 gC4
            refine iteDT rfl ⟨C, x5, _, _, x8, x9, rfl, e4, gC4, pr3.weak fun x s y h1 h2 h3 h => ?_⟩
            by_cases hh : x = i ∧ s = s0
            · exact .inr (.inl (by rw [hh.1, hh.2]; exact hA))
            · exact .inl (by omega)
          | some va =>
            rw [hA] at e4 gC4
            obtain ⟨b, hbs⟩ := has (as := bs) (i := s0) (by omega)
            -- for there, second in enumerate(others[step])
            refine iteDF (fun z => by cases z) ⟨_, rfl, _, rfl, _, _, _, _, rfl, rfl, SqL.of (e4 _ _ gB.lst), atI_nat (refs_at hbs), b, _, rfl, SqL.of (e4 _ _ (gB.rows s0 b hbs)), for_it walk_enum (fun j σ' H' => ∃ C x5 x8 x9, σ' = [some (.ref p), some (.ref q), some (.ref r), some (.int (i : Nat)), some (.ref a), x5, some (.int (s0 : Nat)), some (.int va), x8, x9] ∧ Same H H' ∧ Grid H' r cs n C ∧ Prt n A B C fun x s y => x < i ∨ (x = i ∧ (s < s0 ∨ (s = s0 ∧ y < j))))
              ⟨C, x5, x8, x9, rfl, e4, gC4, pr3.weak fun x s y _ _ _ h => .inl (by omega)⟩ (fun j σ' H' _ ⟨C, _, _, _, _, e, _⟩ => SqL.of (e _ _ (gB.rows s0 b hbs))) ?_ ?_⟩
            · rintro j x σ' H5 H6 hj ⟨C, x5, x8, x9, rfl, e5, gC5, pr5⟩ ⟨Tw, u1, u2, rfl, hTw, rfl, eu, hu2⟩
              cases eu
              obtain ⟨hj, rfl⟩ := row_is hu2
              have e6 : Same H (upd H5 Tw (.tup [.int (j : Nat), enc (B s0 j)])) := e5.trans (Same.new hTw)
              have gC6 := gC5.same (Same.new hTw (o := .tup [.int (j : Nat), enc (B s0 j)]))
              refine ⟨_, _, rfl, SqT.of upd_same, rfl, _, _, rfl, _, _, rfl, rfl, ?_⟩
              refine ⟨_, rfl, rfl, _, rfl, ?_⟩
              cases hB : B s0 j with
              | none =>
                rw [hB] at e6 gC6
                refine iteNT rfl (iteF ⟨C, x5, _, _, rfl, e6, gC6, pr5.weak fun x s y h1 h2 h3 h => ?_⟩)
                by_cases hh : s = s0 ∧ y = j
                · exact .inr (.inr (by rw [hh.1, hh.2]; exact hB))
                · exact .inl (by omega)
              | some vb =>
                rw [hB] at e6 gC6
                obtain ⟨c, hc⟩ := has (as := cs) (i := i) (by omega)
                have hcr := gC6.rows i c hc
                have wk : ∀ x s y, (x < i ∨ (x = i ∧ (s < s0 ∨ (s = s0 ∧ y < j + 1)))) → (x < i ∨ (x = i ∧ (s < s0 ∨ (s = s0 ∧ y < j)))) ∨ (x = i ∧ s = s0 ∧ y = j) := fun x s y h => by omega
                refine iteNF (fun z => by cases z) ⟨_, rfl, _, rfl, _, _, _, _, rfl, rfl, SqL.of gC6.lst, atI_nat (refs_at hc), _, rfl, _, _, _, _, rfl, rfl, SqL.of hcr, atI_nat (row_get hj), rfl, _, rfl, ?_⟩
                cases hC : C i j with
                | none =>
                  exact iteDT rfl (iteT ⟨_, rfl, _, rfl, _, _, rfl, rfl, _, rfl, _, rfl, _, _, _, _, rfl, rfl, SqL.of gC6.lst, atI_nat (refs_at hc), _, rfl, c, _, _, j, rfl, rfl, hcr, ixN_nat (by rw [row_len]; exact hj),
                    put C i j (some (va + vb)), x5, _, _, rfl, e6.mut (fr1 c (List.mem_of_getElem? hc)), gC6.set (j := j) (e := some (va + vb)) hc, pr5.put hs0 hA hB (fun g e => by rw [hC] at e; cases e) wk⟩)
                | some g =>
                  have hgg : (row n (C i))[j]? = some (.int g) := by
                    rw [row_get hj, hC]
                    rfl
                  refine iteDF (fun z => by cases z) ⟨_, rfl, _, rfl, _, _, rfl, rfl, _, rfl, _, rfl, _, _, _, _, rfl, rfl, SqL.of gC6.lst, atI_nat (refs_at hc), _, rfl, _, _, _, _, rfl, rfl, SqL.of hcr, atI_nat hgg, _, _, rfl, rfl, _, rfl, ?_⟩
                  by_cases hlt : g < va + vb
                  · exact iteDT hlt ⟨_, rfl, _, rfl, _, _, rfl, rfl, _, rfl, _, rfl, _, _, _, _, rfl, rfl, SqL.of gC6.lst, atI_nat (refs_at hc), _, rfl, c, _, _, j, rfl, rfl, hcr, ixN_nat (by rw [row_len]; exact hj),
                      put C i j (some (va + vb)), x5, _, _, rfl, e6.mut (fr1 c (List.mem_of_getElem? hc)), gC6.set (j := j) (e := some (va + vb)) hc, pr5.put hs0 hA hB (fun g' e => by rw [hC] at e; cases e; omega) wk⟩
                  · exact iteDF hlt ⟨C, x5, _, _, rfl, e6, gC6, pr5.keep hA hB hC (by omega) wk⟩
            · rintro σ' H5 ⟨C, x5, x8, x9, rfl, e5, gC5, pr5⟩
              rw [row_len] at pr5
              exact ⟨C, x5, _, _, x8, x9, rfl, e5, gC5, pr5.weak fun x s y h1 h2 h3 h => .inl (by omega)⟩
        · rintro σ' H3 ⟨C, x5, x6, x7, x8, x9, rfl, e3, gC3, pr3⟩
          rw [row_len] at pr3
          exact ⟨C, _, _, x5, x6, x7, x8, x9, rfl, e3, gC3, pr3.weak fun x s y h1 h2 h3 h => .inl (by omega)⟩
      · rintro σ' H3 ⟨C, x3, x4, x5, x6, x7, x8, x9, rfl, e3, gC3, pr3⟩
        rw [lA] at pr3
        exact ⟨_, rfl, k C r cs H3 e3 hr1 fr1 lc1 gC3 ⟨fun x s y a b h1 h2 h3 h4 h5 => pr3.ge x s y a b h1 h2 h3 h1 h4 h5, pr3.is⟩⟩
end
end K60

namespace K60
open PySem L2
open C8 (Cal Def Met Mak cal0 met0 mak0 pe_c pe_mk pe_mt pe_mt0 pe_gc InsC call_isC fnScope fnBody fnArgs clsBody fnScope_by)

/- _greatest_walks: slots 0 rows 1 step 2 here 3 row 4 onward 5 first 6 there 7 second; cells [] -/
abbrev s__greatest_walks : Stmt := top 32
theorem sc__greatest_walks : FnScope ["rows", "step", "here", "row", "onward", "first", "there", "second"] ["rows"] (fnScope s__greatest_walks) := fnScope_by (by decide +kernel)
/- gains_of: slots 0 table 1 waits 2 outer 3 rows 4 walks 5 entry 6 row 7 units 8 begin 9 end; cells ['outer', 'waits', 'walks'] -/
abbrev s_gains_of : Stmt := top 22
theorem sc_gains_of : FnScope ["table", "waits", "outer", "rows", "walks", "entry", "row", "units", "begin", "end"] ["table", "waits", "outer"] (fnScope s_gains_of) := fnScope_by (by decide +kernel)
section
variable {P : Program} {w : World} {K : PySem.W.Frag} {mg : Str → Option Value} {base : Heap}
/-- 0 from a door below k to itself -/
def dg0 (k : Nat) (R : Mx) : Mx := fun x y => if x < k ∧ x = y then some 0 else R x y
theorem dg0_self {k : Nat} {R : Mx} {x : Nat} (h : x < k) : dg0 k R x x = some 0 := if_pos ⟨h, rfl⟩
theorem dg0_ne {k : Nat} {R : Mx} {x y : Nat} (h : x ≠ y) : dg0 k R x y = R x y := if_neg fun z => h z.2
theorem dg0_out {k : Nat} {R : Mx} {x y : Nat} (h : ¬ (x < k ∧ x = y)) : dg0 k R x y = R x y := if_neg h
theorem start_mid {n : Nat} {R : Mx} : Mid n (offD R) 0 (dg0 n R) := by
  refine Mid.start (fun x y g hx hy e => ?_) (fun x y g hx hy e => ?_)
  · by_cases h : x = y
    · subst h
      rw [dg0_self hx] at e
      cases e
      exact .nil hx
    · rw [dg0_ne h] at e
      exact .one hx hy (by unfold offD; rw [if_neg h]; exact e)
  · by_cases h : x = y
    · unfold offD at e
      rw [if_pos h] at e
      cases e
    · unfold offD at e
      rw [if_neg h] at e
      exact ⟨g, by rw [dg0_ne h]; exact e, Int.le_refl g⟩
theorem choose_row {n : Nat} {f : Nat → Option Int} (h : ∀ x, x < n → ∃ g, f x = some g) : ∃ d : Nat → Int, ∀ x, x < n → f x = some (d x) := by
  refine ⟨fun x => (f x).getD 0, fun x hx => ?_⟩
  obtain ⟨g, e⟩ := h x hx
  show f x = some ((f x).getD 0)
  rw [e]
  rfl
theorem ok_greatest_walks (T : Txt mg) (D : Dx K mg "_greatest_walks" s__greatest_walks ["rows"]) : Cal P w K mg base 1 "_greatest_walks" spWalks [] := by
  refine cal D sc__greatest_walks (fun vs H Q E h => ?_) (fun f cdv A outer s H vs Q E hr h => ?_)
  · obtain ⟨n, R, p, as, rfl, _⟩ := h
    rfl
  · obtain ⟨n, R, p, as, rfl, g0, la, hn0, hn, kbad, kgood⟩ := h
    have nd := sc__greatest_walks.nd
    refine ⟨_, (pss_cons (ps_for PassesOwn.never rfl (piE K rfl (by rfl) T.enumerate (pa_cons (pv 0) pa_nil)) (pg_tup rfl (pgs_cons (pg_name (i := 2) nd rfl (Or.inl rfl)) (pgs_cons (pg_name (i := 3) nd rfl (Or.inl rfl)) pgs_nil)))
        (pss_one (ps_asg pe_int (pg_sub (pv 3) (pv 2) set_list))))
      (pss_cons (ps_for PassesOwn.never rfl (pi_range1 (by rfl) T.range (pa_cons (pe_callB (lenK K) (by rfl) T.len boot_len (pa_cons (pv 0) pa_nil)) pa_nil)) (pg_name (i := 1) nd rfl (Or.inl rfl))
        (pss_cons (ps_set (i := 4) nd rfl (Or.inl rfl) (pe_callTy (listK K) (by rfl) T.list boot_list (pa_cons (pe_ix (ixL K) (pv 0) (pv 1) (fun _ _ => rfl)) pa_nil)))
        (pss_cons (ps_for PassesOwn.never rfl (piL K rfl (pv 0)) (pg_name (i := 3) nd rfl (Or.inl rfl))
          (pss_cons (ps_set (i := 5) nd rfl (Or.inl rfl) (pe_ix (ixL K) (pv 3) (pv 1) (fun _ _ => rfl)))
          (pss_cons (ps_if (pt_cmpR op_isN (pv 5) pe_non (nomark _)) (pss_one ps_continue) pss_nil)
          (pss_one (ps_for PassesOwn.never rfl (piE K rfl (by rfl) T.enumerate (pa_cons (pv 4) pa_nil)) (pg_tup rfl (pgs_cons (pg_name (i := 6) nd rfl (Or.inl rfl)) (pgs_cons (pg_name (i := 7) nd rfl (Or.inl rfl)) pgs_nil)))
            (pss_one (ps_if (PW.pt (pw_and (pt_cmpR op_notN (pv 7) pe_non (nomark _)) (pw_and1 (PW.pt (pw_or (pt_cmpR op_isN (pe_ix (ixL K) (pv 3) (pv 6) (fun _ _ => rfl)) pe_non (nomark _)) (pw_or1 (pt_cmpR op_gt (pe_op op_add (pv 5) (pv 7)) (pe_ix (ixL K) (pv 3) (pv 6) (fun _ _ => rfl)) (nomark _)))))))) (pss_one (ps_asg (pe_op op_add (pv 5) (pv 7)) (pg_sub (pv 3) (pv 6) set_list))) pss_nil)))))))
        (pss_one (ps_if (pt_cmpR op_gt (pe_callB (maxK K rfl rfl) (by rfl) T.max boot_max (pa_cons (pe_lc (own := [("here", 2), ("row", 3)]) (g := gTup K 2 (gCons (gName 2) (gCons (gName 3) gNil))) (tt := tYes) rfl nd (piE K rfl (by rfl) T.enumerate (pa_cons (pv 0) pa_nil)) (blkOk_by (N := ["rows", "step", "here", "row", "onward", "first", "there", "second"]) (sc := fnScope s__greatest_walks) (by decide +kernel)) (fun _ _ _ _ _ => (pg_tup rfl (pgs_cons (pg_name (i := 2) nd rfl (Or.inl rfl)) (pgs_cons (pg_name (i := 3) nd rfl (Or.inl rfl)) pgs_nil)))) (fun _ _ _ _ _ => pts_nil) (fun _ _ _ _ _ => (pe_ix (ixL K) (pv 3) (pv 2) (fun _ _ => rfl)))) pa_nil)) pe_int (nomark _)) (pss_one (ps_ret pe_non)) pss_nil)))))
      (pss_one (ps_ret (pv 0))))), ?_⟩
    have lA : (as.map V.ref).length = n := by rw [List.length_map]; exact la
    refine ⟨_, rfl, p, _, rfl, SqL.of g0.lst, for_it walk_enum (fun i σ' H' => ∃ x1 x2 x3 x4 x5 x6 x7, σ' = [some (.ref p), x1, x2, x3, x4, x5, x6, x7] ∧ Off as H H' ∧ Grid H' p as n (dg0 i R))
      ⟨none, none, none, none, none, none, none, rfl, Off.refl, g0.congr fun x y _ _ => (dg0_out fun z => Nat.not_lt_zero _ z.1).symm⟩ (fun i σ' H' _ ⟨_, _, _, _, _, _, _, _, _, g⟩ => SqL.of g.lst) ?_ ?_⟩
    · rintro i x σ' H' H2 hi ⟨x1, x2, x3, x4, x5, x6, x7, rfl, o, g⟩ ⟨Tu, y1, y2, rfl, hTu, rfl, ey, hy2⟩
      cases ey
      obtain ⟨a, hai, rfl⟩ := refs_get hy2
      rw [lA] at hi
      have g2 := g.same (Same.new hTu (o := .tup [.int (i : Nat), .ref a]))
      refine ⟨_, _, rfl, SqT.of upd_same, rfl, _, _, rfl, _, _, rfl, rfl, _, rfl, _, rfl, a, _, _, i, rfl, rfl, g2.rows i a hai, ixN_nat (by rw [row_len]; exact hi), x1, _, _, x4, x5, x6, x7, rfl, (o.more (Same.new hTu)).trans (Off.set (List.mem_of_getElem? hai)), (g2.set (j := i) (e := some 0) hai).congr fun x y hx hy => ?_⟩
      by_cases hh : x = i ∧ y = i
      · obtain ⟨rfl, rfl⟩ := hh
        rw [put_self, dg0_self (Nat.lt_succ_self _)]
      · rw [put_ne hh]
        by_cases hz : x < i ∧ x = y
        · rw [← hz.2, dg0_self hz.1, dg0_self (by omega)]
        · rw [dg0_out hz, dg0_out (fun z => by omega)]
    · rintro σ' H' ⟨x1, x2, x3, x4, x5, x6, x7, rfl, o, g⟩
      rw [lA] at g
      refine ⟨_, rfl, _, _, rfl, .inl (SqL.of g.lst), ?_⟩
      rw [lA]
      refine ⟨(n : Int), rfl, by omega, by omega, for_it walk_rng (fun k σ' H' => ∃ B x1 x2 x3 x4 x5 x6 x7, σ' = [some (.ref p), x1, x2, x3, x4, x5, x6, x7] ∧ Off as H H' ∧ Grid H' p as n B ∧ Mid n (offD R) k B ∧ NoPos n B ∧ ∀ x, x < n → Ge B x x 0)
        ⟨_, x1, x2, x3, x4, x5, x6, x7, rfl, o, g, start_mid, fun x v hx e => by
          rw [dg0_self hx] at e
          cases e
          exact Int.le_refl 0, fun x hx => ⟨0, dg0_self hx, Int.le_refl 0⟩⟩ (fun _ _ _ _ _ => trivial) ?_ ?_⟩
      · rintro k x σ' H1 H1' hk ⟨B, x1, x2, x3, x4, x5, x6, x7, rfl, o1, gB, mB, npB, dB⟩ ⟨rfl, rfl⟩
        have hk : k < n := hk
        obtain ⟨a, hak⟩ := has (as := as) (i := k) (by omega)
        refine ⟨_, rfl, _, rfl, _, _, _, _, rfl, rfl, SqL.of gB.lst, atI_nat (refs_at hak), _, _, rfl, .inl (SqL.of (gB.rows k a hak)), fun l hl => ?_⟩
        have nla : l ∉ as := fun z => by
          obtain ⟨j, hj⟩ := List.getElem?_of_mem z
          rw [gB.rows j l hj] at hl
          cases hl
        have gB2 := gB.same (Same.new hl (o := .lst (row n (B k))))
        -- for row in rows
        refine ⟨_, rfl, p, rfl, ⟨_, SqL.of gB2.lst⟩, for_it walk_list (fun r σ' H' => ∃ C x2 x3 x5 x6 x7, σ' = [some (.ref p), some (.int (k : Nat)), x2, x3, some (.ref l), x5, x6, x7] ∧ Off as H H' ∧ H' l = some (.lst (row n (B k))) ∧ Grid H' p as n C ∧ Sound n (offD R) C ∧ Up n B C ∧ ∀ x y a b, x < r → x < n → y < n → B x k = some a → B k y = some b → Ge C x y (a + b))
          ⟨B, x2, x3, x5, x6, x7, rfl, o1.more (Same.new hl), upd_same, gB2, mB.sound, Up.refl, fun x y a b h => absurd h (Nat.not_lt_zero _)⟩ (fun i σ' H' _ ⟨_, _, _, _, _, _, _, _, _, g, _⟩ => SqL.of g.lst) ?_ ?_⟩
        · rintro r x σ' H2 H2' hrr ⟨C, x2, x3, x5, x6, x7, rfl, o2, hl2, gC, sC, uC, rC⟩ ⟨rfl, hx⟩
          obtain ⟨c, hcr, rfl⟩ := refs_get hx
          rw [lA] at hrr
          refine ⟨_, rfl, _, rfl, _, _, _, _, rfl, rfl, SqL.of (gC.rows r c hcr), atI_nat (row_get hk), _, rfl, rfl, _, rfl, ?_⟩
          cases hf : C r k with
          | none =>
            refine iteDT rfl ⟨C, x2, _, _, x6, x7, rfl, o2, hl2, gC, sC, uC, fun x y a b h1 h2 h3 h4 h5 => ?_⟩
            by_cases hx : x = r
            · subst hx
              obtain ⟨g', e', _⟩ := uC x k a h2 hk ⟨a, h4, Int.le_refl a⟩
              rw [hf] at e'
              cases e'
            · exact rC x y a b (by omega) h2 h3 h4 h5
          | some fv =>
            have wf : Wk n (offD R) r k fv := sC r k fv hrr hk hf
            refine iteDF (fun z => by cases z) ⟨_, rfl, l, _, rfl, SqL.of hl2, for_it walk_enum (fun j σ' H' => ∃ C x2 x6 x7, σ' = [some (.ref p), some (.int (k : Nat)), x2, some (.ref c), some (.ref l), some (.int fv), x6, x7] ∧ Off as H H' ∧ H' l = some (.lst (row n (B k))) ∧ Grid H' p as n C ∧ Sound n (offD R) C ∧ Up n B C ∧ (∀ x y a b, x < r → x < n → y < n → B x k = some a → B k y = some b → Ge C x y (a + b)) ∧ ∀ y b, y < j → y < n → B k y = some b → Ge C r y (fv + b))
              ⟨C, x2, x6, x7, rfl, o2, hl2, gC, sC, uC, rC, fun y b h => absurd h (Nat.not_lt_zero _)⟩ (fun i σ' H' _ ⟨_, _, _, _, _, _, h, _⟩ => SqL.of h) ?_ ?_⟩
            · rintro j x σ' H3 H4 hj ⟨C, x2, x6, x7, rfl, o3, hl3, gC3, sC3, uC3, rC3, tC3⟩ ⟨Tw, u1, u2, rfl, hTw, rfl, eu, hu2⟩
              cases eu
              obtain ⟨hj, rfl⟩ := row_is hu2
              have s4 := Same.new hTw (o := .tup [.int (j : Nat), enc (B k j)])
              have o4 := o3.more s4
              have hl4 := s4 _ _ hl3
              have gC4 := gC3.same s4
              refine ⟨_, _, rfl, SqT.of upd_same, rfl, _, _, rfl, _, _, rfl, rfl, _, rfl, rfl, _, rfl, ?_⟩
              cases hB : B k j with
              | none =>
                rw [hB] at o4 hl4 gC4
                refine iteNT rfl (iteF ⟨C, x2, _, _, rfl, o4, hl4, gC4, sC3, uC3, rC3, fun y b h1 h2 h3 => ?_⟩)
                by_cases hy : y = j
                · subst hy
                  rw [hB] at h3
                  cases h3
                · exact tC3 y b (by omega) h2 h3
              | some vb =>
                rw [hB] at o4 hl4 gC4
                have hcr4 := gC4.rows r c hcr
                have wv : Wk n (offD R) r j (fv + vb) := wf.trans (mB.sound k j vb hk hj hB)
                have mc : c ∈ as := List.mem_of_getElem? hcr
                have nlc : l ≠ c := fun z => nla (by rw [z]; exact mc)
                have fin : (∀ g', C r j = some g' → g' ≤ fv + vb) → Off as H (upd (upd H3 Tw (.tup [.int (j : Nat), enc (some vb)])) c (.lst ((row n (C r)).set j (enc (some (fv + vb)))))) ∧ upd (upd H3 Tw (.tup [.int (j : Nat), enc (some vb)])) c (.lst ((row n (C r)).set j (enc (some (fv + vb))))) l = some (.lst (row n (B k))) ∧
                    Grid (upd (upd H3 Tw (.tup [.int (j : Nat), enc (some vb)])) c (.lst ((row n (C r)).set j (enc (some (fv + vb)))))) p as n (put C r j (some (fv + vb))) ∧ Sound n (offD R) (put C r j (some (fv + vb))) ∧ Up n B (put C r j (some (fv + vb))) ∧ (∀ x y a b, x < r → x < n → y < n → B x k = some a → B k y = some b → Ge (put C r j (some (fv + vb))) x y (a + b)) ∧ ∀ y b, y < j + 1 → y < n → B k y = some b → Ge (put C r j (some (fv + vb))) r y (fv + b) := fun hle => by
                  refine ⟨o4.trans (Off.set mc), by rw [upd_ne nlc]; exact hl4, gC4.set hcr, put_sound sC3 wv, uC3.trans (put_up hle), fun x y a b h1 h2 h3 h4 h5 => put_ge hle (rC3 x y a b h1 h2 h3 h4 h5), fun y b h1 h2 h3 => ?_⟩
                  by_cases hy : y = j
                  · subst hy
                    rw [hB] at h3
                    cases h3
                    exact ⟨_, put_self, Int.le_refl _⟩
                  · exact put_ge hle (tC3 y b (by omega) h2 h3)
                refine iteNF (fun z => by cases z) ⟨_, rfl, _, rfl, _, _, _, _, rfl, rfl, SqL.of hcr4, atI_nat (row_get hj), rfl, _, rfl, ?_⟩
                cases hC : C r j with
                | none =>
                  exact iteDT rfl (iteT ⟨_, rfl, _, rfl, _, _, rfl, rfl, _, rfl, _, rfl, c, _, _, j, rfl, rfl, hcr4, ixN_nat (by rw [row_len]; exact hj), put C r j (some (fv + vb)), x2, _, _, rfl, fin fun g' e => by rw [hC] at e; cases e⟩)
                | some g =>
                  have hgg : (row n (C r))[j]? = some (.int g) := by
                    rw [row_get hj, hC]
                    rfl
                  refine iteDF (fun z => by cases z) ⟨_, rfl, _, rfl, _, _, rfl, rfl, _, rfl, _, rfl, _, _, _, _, rfl, rfl, SqL.of hcr4, atI_nat hgg, _, _, rfl, rfl, _, rfl, ?_⟩
                  by_cases hlt : g < fv + vb
                  · exact iteDT hlt ⟨_, rfl, _, rfl, _, _, rfl, rfl, _, rfl, _, rfl, c, _, _, j, rfl, rfl, hcr4, ixN_nat (by rw [row_len]; exact hj), put C r j (some (fv + vb)), x2, _, _, rfl, fin fun g' e => by rw [hC] at e; cases e; omega⟩
                  · refine iteDF hlt ⟨C, x2, _, _, rfl, o4, hl4, gC4, sC3, uC3, rC3, fun y b h1 h2 h3 => ?_⟩
                    by_cases hy : y = j
                    · subst hy
                      rw [hB] at h3
                      cases h3
                      exact ⟨g, hC, by omega⟩
                    · exact tC3 y b (by omega) h2 h3
            · rintro σ' H3 ⟨C, x2, x6, x7, rfl, o3, hl3, gC3, sC3, uC3, rC3, tC3⟩
              rw [row_len] at tC3
              refine ⟨C, x2, _, _, x6, x7, rfl, o3, hl3, gC3, sC3, uC3, fun x y a b h1 h2 h3 h4 h5 => ?_⟩
              by_cases hx : x = r
              · subst hx
                obtain ⟨g', e', l'⟩ := uC x k a h2 hk ⟨a, h4, Int.le_refl a⟩
                rw [hf] at e'
                cases e'
                exact (tC3 y b h3 h3 h5).le (by omega)
              · exact rC3 x y a b (by omega) h2 h3 h4 h5
        · rintro σ' H2 ⟨C, x2, x3, x5, x6, x7, rfl, o2, hl2, gC, sC, uC, rC⟩
          rw [lA] at rC
          have mC : Mid n (offD R) (k + 1) C := mB.step hk sC uC fun x y a b h1 h2 h3 h4 => rC x y a b h1 h1 h2 h3 h4
          have dC : ∀ x, x < n → Ge C x x 0 := fun x hx => uC x x 0 hx hx (dB x hx)
          obtain ⟨d, hd⟩ := choose_row (n := n) (f := fun x => C x x) fun x hx => let ⟨g, e, _⟩ := dC x hx; ⟨g, e⟩
          refine ⟨_, rfl, p, _, rfl, SqL.of gC.lst, lcRow No (whole d) walk_enum (by omega) no_lg (fun H' e => e.same.seq (SqL.of gC.lst)) YPair.same ?_ ?_⟩
          · rintro i x H3 H4 Ky hi e ⟨Tw, u1, u2, rfl, hTw, rfl, eu, hu2⟩ k2
            cases eu
            obtain ⟨c, hcr, rfl⟩ := refs_get hu2
            rw [lA] at hi
            have hg := row_get (f := C i) hi
            have hd' : C i i = some (d i) := hd i hi
            rw [hd'] at hg
            exact ⟨_, _, rfl, SqT.of upd_same, rfl, _, _, rfl, _, _, rfl, rfl, rfl, _, rfl, _, rfl, _, _, _, _, rfl, rfl, SqL.of (e.same _ _ (gC.rows i c hcr)), atI_nat hg, k2 _ (.refl no_lg)⟩
          · intro Dl H3 hD e3 hDl
            rw [lA, row_whole] at hDl
            refine ⟨Dl, _, rfl, SqL.of hDl, by simp; exact hn0, fun m hm hle => ⟨_, _, rfl, rfl, _, rfl, ?_⟩⟩
            obtain ⟨x0, hx0, rfl⟩ := List.mem_map.mp hm
            have hx0 : x0 < n := List.mem_range.mp hx0
            by_cases hpos : (0 : Int) < d x0
            · exact iteDT hpos (kbad H3 (o2.more e3.same) (mC.bad hx0 (hd x0 hx0) hpos))
            · refine iteDF hpos ⟨C, _, x2, x3, _, x5, x6, x7, rfl, o2.more e3.same, gC.same e3.same, mC, fun x g hx e => ?_, dC⟩
              have e' : C x x = some (d x) := hd x hx
              rw [e'] at e
              cases e
              have := hle (d x) (List.mem_map.mpr ⟨x, List.mem_range.mpr hx, rfl⟩)
              omega
      · rintro σ' H2 ⟨B, x1, x2, x3, x4, x5, x6, x7, rfl, o2, gB, mB, npB, dB⟩
        have mB : Mid n (offD R) n B := mB
        have kk := mB.kept npB
        refine ⟨_, rfl, kgood B H2 o2 gB kk fun x y hx hy => ?_⟩
        by_cases hxy : x = y
        · subst hxy
          obtain ⟨g, e, l⟩ := dB x hx
          have := npB x g hx e
          have e0 : g = 0 := by omega
          rw [e, e0]
          exact kk.self hx
        · exact mB.best npB hx hy hxy
theorem row_tru {k : Nat} {f : Nat → Option Int} (h : 0 < k) : (row k f).isEmpty = false := by
  cases e : row k f with
  | nil => exact absurd e (row_ne h)
  | cons a b => rfl
theorem ok_gains_of (T : Txt mg) (D : Dx K mg "gains_of" s_gains_of ["table", "waits", "outer"]) (c__are_part_waits : Cal P w K mg base 3 "_are_part_waits" (spPartWaits K) []) (c_is_lot : Cal P w K mg base 2 "is_lot" (spLot K) [])
    (c__greatest_walks : Cal P w K mg base 1 "_greatest_walks" spWalks []) (c__lessened : Cal P w K mg base 1 "_lessened" spLessened []) : Cal P w K mg base 4 "gains_of" (spGainsOf K) [] := by
  refine cal D sc_gains_of (fun vs H Q E h => ?_) (fun f cdv A outer s H vs Q E hr h => ?_)
  · obtain ⟨n, k, t, wt, o, v, aw, b, rfl, _⟩ := h
    rfl
  · obtain ⟨n, k, t, wt, o, v, aw, b, rfl, ⟨a, vs, rfl, hT, hl, hrows⟩, hW, hO, hn0, hn, h0, hL, hk0, hk, q⟩ := h
    have nd := sc_gains_of.nd
    refine ⟨_, (pss_cons (ps_if (pt_not (pt_val (pe_c c__are_part_waits hr (by decide) (by rfl) (pa_cons (pe_callB (lenK K) (by rfl) T.len boot_len (pa_cons (pv 0) pa_nil)) (pa_cons (pv 1) pa_nil))))) (pss_one ps_never) pss_nil)
      (pss_cons (ps_if (PW.pt (pw_or (pt_not (pt_val (pe_c c_is_lot hr (by decide) (by rfl) (pa_cons (pe_callB (lenK K) (by rfl) T.len boot_len (pa_cons (pv 0) pa_nil)) (pa_cons (pv 2) pa_nil))))) (pw_or1 (pt_not (pt_truth (pv 2) (fun _ => rfl)))))) (pss_one ps_never) pss_nil)
      (pss_cons (ps_setLc (i := 3) (own := [("row", 6), ("units", 7)]) (g := gTup K 2 (gCons (gName 6) (gCons (gName 7) gNil))) (tt := tYes) rfl nd rfl rfl (sw_true rfl rfl rfl (by decide +kernel)) (piZ K rfl (by rfl) T.zip (pa_cons (pv 0) (pa_cons (pv 1) pa_nil))) (blkOk_by (N := ["table", "waits", "outer", "rows", "walks", "entry", "row", "units", "begin", "end"]) (sc := fnScope s_gains_of) (by decide +kernel)) (fun _ _ _ _ _ => (pg_tup rfl (pgs_cons (pg_name (i := 6) nd rfl (Or.inl rfl)) (pgs_cons (pg_name (i := 7) nd rfl (Or.inr rfl)) pgs_nil)))) (fun _ _ _ _ _ => pts_nil) (fun _ _ _ _ _ => (pe_lc (own := [("entry", 5)]) (g := gName 5) (tt := tYes) rfl nd (piT K rfl (pv 6)) (blkIn ["table", "waits", "outer", "rows", "walks", "entry", "row", "units", "begin", "end"] (fnScope s_gains_of) rfl rfl (by decide +kernel)) (fun _ _ _ _ _ => (pg_name (i := 5) nd rfl (Or.inl rfl))) (fun _ _ _ _ _ => pts_nil) (fun _ _ _ _ _ => (pe_ifExp (pt_cmpR op_isN (pv 5) pe_non (nomark _)) pe_non (pe_op op_sub (pv 5) (pv 7)))))))
      (pss_cons (ps_set (i := 4) nd rfl (Or.inr rfl) (pe_c c__greatest_walks hr (by decide) (by rfl) (pa_cons (pv 3) pa_nil)))
      (pss_cons (ps_if (pt_cmpR op_isN (pv 4) pe_non (nomark _)) (pss_one (ps_ret pe_non)) pss_nil)
      (pss_one (ps_ret (pe_callTy (tupK K) (by rfl) T.tuple boot_tuple (pa_cons (pe_lc (own := [("begin", 8)]) (g := gName 8) (tt := tYes) rfl nd (piT K rfl (pv 2)) (blkOk_by (N := ["table", "waits", "outer", "rows", "walks", "entry", "row", "units", "begin", "end"]) (sc := fnScope s_gains_of) (by decide +kernel)) (fun _ _ _ _ _ => (pg_name (i := 8) nd rfl (Or.inr rfl))) (fun _ _ _ _ _ => pts_nil) (fun _ _ _ _ _ => (pe_callTy (tupK K) (by rfl) T.tuple boot_tuple (pa_cons (pe_lc (own := [("end", 9)]) (g := gName 9) (tt := tYes) rfl nd (piT K rfl (pv 2)) (blkIn ["table", "waits", "outer", "rows", "walks", "entry", "row", "units", "begin", "end"] (fnScope s_gains_of) rfl rfl (by decide +kernel)) (fun _ _ _ _ _ => (pg_name (i := 9) nd rfl (Or.inl rfl))) (fun _ _ _ _ _ => pts_nil) (fun _ _ _ _ _ => (pe_c c__lessened hr (by decide) (by rfl) (pa_cons (pe_ix (ixL K) (pe_ix (ixL K) (pv 4) (pv 8) (fun _ _ => rfl)) (pv 9) (fun _ _ => rfl)) (pa_cons (pe_ix (ixT K) (pv 1) (pv 9) (fun _ _ => rfl)) pa_nil))))) pa_nil)))) pa_nil))))))))), ?_⟩
    refine ⟨_, rfl, _, _, rfl, .inr hT, ?_⟩
    rw [hl]
    refine ⟨_, rfl, n, wt, aw, rfl, hW, hn, h0, fun H1 e1 => ⟨_, rfl, iteF ?_⟩⟩
    refine ⟨_, rfl, _, _, rfl, .inr (e1.sqt hT), ?_⟩
    rw [hl]
    refine ⟨_, rfl, n, k, o, b, rfl, e1.sqt hO, hL, ⟨_, rfl, iteF ⟨_, rfl, _, .inr (.inl ⟨_, e1.sqt hO, rfl⟩), ?_⟩⟩⟩
    rw [row_tru hk0]
    refine iteF ⟨_, rfl, _, rfl, a, aw, _, _, rfl, .inr ⟨e1.sqt hT, e1.sqt hW, lcG n (fun x y => (t x y).map (· - wt x)) (walk_zipT (by rw [hl, row_len])) (by omega) (fun H' e => ⟨e.sqt (e1.sqt hT), e.sqt (e1.sqt hW)⟩) YPair.same ?_ ?_⟩⟩
    · rintro i x H' H2 Ky hi e ⟨Tu, y1, y2, rfl, hTu, rfl, hy1, hy2⟩ k1
      obtain ⟨c, rfl, hc⟩ := hrows i y1 hy1
      obtain ⟨hi, rfl⟩ := row_isW hy2
      have hc2 := e.sqt (e1.sqt hc)
      refine ⟨_, _, rfl, SqT.of upd_same, rfl, _, _, rfl, _, _, rfl, rfl, rfl, _, rfl, c, rfl, ⟨_, hc2⟩, lcRow No (fun y => (t i y).map (· - wt i)) walk_tup (by rw [row_len]; omega) no_lg (fun H' e => e.sqt hc2) YAt.same ?_ ?_⟩
      · rintro j y H3 H4 Kz hj e2 ⟨rfl, hy⟩ k2
        obtain ⟨hj, rfl⟩ := row_is hy
        refine ⟨rfl, _, rfl, rfl, _, rfl, ?_⟩
        cases hM : t i j with
        | none =>
          rw [hM] at k2
          exact iteDT rfl (k2 _ (.refl no_lg))
        | some g =>
          rw [hM] at k2
          exact iteDF (fun z => by cases z) ⟨_, rfl, _, rfl, _, _, rfl, rfl, k2 _ (.refl no_lg)⟩
      · intro D2 H3 hD2 e2 hd2
        rw [row_len] at hd2
        exact k1 D2 H3 e2.same hD2 hd2
    · intro p as H2 hp e2 fr la g2
      rw [hl] at la
      have s2 := e1.trans e2
      refine ⟨_, rfl, n, _, p, as, rfl, g2, la, hn0, hn, fun H3 o3 hbad => ?_, fun B H3 o3 gB hkept hb => ?_⟩
      · have s3 : Same H H3 := o3.same s2 fun z hz => e1.free (fr z hz)
        exact ⟨_, rfl, rfl, _, rfl, iteDT rfl (q none _ H3 s3 rfl hbad)⟩
      · have s3 : Same H H3 := o3.same s2 fun z hz => e1.free (fr z hz)
        refine ⟨_, rfl, rfl, _, rfl, iteDF (fun z => by cases z) ?_⟩
        refine ⟨_, rfl, b, rfl, ⟨_, s3.sqt hO⟩, lcS No (fun D i y H' => IsRow K H' y k fun j => (B (o i) (o j)).map (· - wt (o j))) walk_tup (by rw [row_len]; omega) no_lg (fun H' e => e.sqt (s3.sqt hO)) YAt.same (fun D i y H H' _ e h => h.rl e) (fun D i y H H' _ _ e h => h.rl e) ?_ ?_⟩
        · rintro D4 i x H4 H4' Ky hi hD e4 hLg ⟨rfl, hx⟩ k1
          obtain ⟨hi, rfl⟩ := row_isN hx
          have hoi := hL.lt i hi
          obtain ⟨c, hc⟩ := has (as := as) (i := o i) (by omega)
          refine ⟨rfl, _, rfl, b, rfl, ⟨_, e4.sqt (s3.sqt hO)⟩, lcRow No (fun j => (B (o i) (o j)).map (· - wt (o j))) walk_tup (by rw [row_len]; omega) no_lg (fun H' e => e.sqt (e4.sqt (s3.sqt hO))) YAt.same ?_ ?_⟩
          · rintro j y H5 H5' Kz hj e5 ⟨rfl, hy⟩ k2
            obtain ⟨hj, rfl⟩ := row_isN hy
            have hoj := hL.lt j hj
            have e45 := e4.trans e5
            exact ⟨rfl, _, rfl, _, rfl, _, _, _, _, rfl, rfl, SqL.of (e45.same _ _ gB.lst), atI_nat (refs_at hc), _, rfl, _, _, _, _, rfl, rfl, SqL.of (e45.same _ _ (gB.rows _ c hc)), atI_nat (row_get hoj), _, rfl, _, rfl, _, _, _, _, rfl, rfl, e45.sqt (s3.sqt hW), atI_nat (row_getW hoj), B (o i) (o j), wt (o j), rfl, k2 _ (.refl no_lg)⟩
          · intro D5 H5 hD5 e5 hd5
            rw [row_len] at hd5
            exact ⟨D5, _, rfl, SqL.of hd5, fun l hl => k1 _ _ (e5.new hl) ⟨l, rfl, SqT.of upd_same⟩⟩
        · intro D4 ys H4 hD4 e4 hd4 hl4 hp4
          refine ⟨D4, ys, rfl, SqL.of hd4, fun l hlf => q (some fun i j => (B (o i) (o j)).map (· - wt (o j))) _ _ ((s3.trans e4.same).trans (Same.new hlf)) ⟨l, ys, rfl, SqT.of upd_same, by rw [hl4, row_len], fun i x hx => (hp4 i x hx).same (Same.new hlf)⟩ ⟨hkept, fun i j hi hj => gain_of_best (hb _ _ (hL.lt i hi) (hL.lt j hj))⟩⟩
end
end K60

namespace K60
open PySem L2
open C8 (Cal Def Met Mak cal0 met0 mak0 pe_c pe_mk pe_mt pe_mt0 pe_gc InsC call_isC fnScope fnBody fnArgs clsBody fnScope_by)

def natE (b : Nat → Option Nat) : Nat → Option Int := fun y => (b y).map fun x => (x : Int)
theorem row_setW {n j : Nat} {s : Nat → Int} {v : Int} : (row n (whole s)).set j (.int v) = row n (whole (st1 s j v)) := by
  have h : (row n (whole s)).set j (enc (some v)) = _ := row_set (f := whole s)
  refine h.trans (row_congr fun k _ => ?_)
  show (if k = j then some v else some (s k)) = some (st1 s j v k)
  unfold st1
  by_cases hk : k = j
  · rw [if_pos hk, if_pos hk]
  · rw [if_neg hk, if_neg hk]
theorem row_setN {n j x : Nat} {b : Nat → Option Nat} : (row n (natE b)).set j (.int (x : Int)) = row n (natE (st1 b j (some x))) := by
  have h : (row n (natE b)).set j (enc (some (x : Int))) = _ := row_set (f := natE b)
  refine h.trans (row_congr fun k _ => ?_)
  show (if k = j then some (x : Int) else natE b k) = natE (st1 b j (some x)) k
  unfold natE st1
  by_cases hk : k = j
  · rw [if_pos hk, if_pos hk]; rfl
  · rw [if_neg hk, if_neg hk]
theorem rep_zero (k : Nat) : (List.replicate k [V.int 0]).flatten = row k (whole fun _ => 0) := by
  induction k with
  | zero => rfl
  | succ k ih => rw [row_succ, ← ih, List.replicate_succ']; simp [enc]
def spRing : Sp := fun vs H Q _ => ∃ (n : Nat) (b : Nat → Option Nat) (u : Nat → Nat) (d : Nat) (a : Addr), vs = [.ref a, .int (d : Int)] ∧ H a = some (.lst (row n (natE b))) ∧ Rank n b u ∧ d < n ∧ n ≤ u d ∧ n ≤ 1000 ∧ ∀ p H', Same H H' → Q (.ref p) H'
def spSums : Sp := fun vs H Q _ => ∃ (n : Nat) (M : Mx) (p : Addr) (as : List Addr), vs = [.ref p] ∧ Grid H p as n M ∧ as.length = n ∧ 0 < n ∧ n ≤ 1000 ∧ (∀ x, x < n → M x x = none) ∧
  ∀ (q : Addr) (s r : V) (H' : Hp), Same H H' → H' q = some (.tup [s, r]) → (Kept n M → r = .non) → (¬ Kept n M → ∃ a, r = .ref a) → Q (.ref q) H'
def spBarring (K : PySem.W.Frag) : Sp := fun vs H Q _ => ∃ (n : Nat) (t : Mx) (w : Nat → Int) (v : V) (a : Addr), vs = [v, .ref a] ∧ IsTab K H v n n t ∧ SqT K H a (row n (whole w)) ∧ 0 < n ∧ n ≤ 1000 ∧ (∀ i, i < n → 0 ≤ w i) ∧
  ∀ (r : V) (H' : Hp), Same H H' → (Kp n t w → r = .non) → (¬ Kp n t w → ∃ a, r = .ref a) → Q r H'
def spKept (K : PySem.W.Frag) : Sp := fun vs H Q _ => ∃ (n : Nat) (t : Mx) (w : Nat → Int) (v : V) (a : Addr), vs = [v, .ref a] ∧ IsTab K H v n n t ∧ SqT K H a (row n (whole w)) ∧ 0 < n ∧ n ≤ 1000 ∧ (∀ i, i < n → 0 ≤ w i) ∧
  ∀ (b : Bool) (H' : Hp), Same H H' → (b = true ↔ Kp n t w) → Q (.bl b) H'

/- ring_behind: slots 0 before 1 door 2 _ 3 ring 4 earlier; cells [] -/
abbrev s_ring_behind : Stmt := top 17
theorem sc_ring_behind : FnScope ["before", "door", "_", "ring", "earlier"] ["before", "door"] (fnScope s_ring_behind) := fnScope_by (by decide +kernel)
/- greatest_sums: slots 0 gains 1 size 2 sums 3 before 4 _ 5 last 6 x 7 y; cells [] -/
abbrev s_greatest_sums : Stmt := top 16
theorem sc_greatest_sums : FnScope ["gains", "size", "sums", "before", "_", "last", "x", "y"] ["gains"] (fnScope s_greatest_sums) := fnScope_by (by decide +kernel)
/- barring_doors: slots 0 table 1 waits; cells [] -/
abbrev s_barring_doors : Stmt := top 34
theorem sc_barring_doors : FnScope ["table", "waits"] ["table", "waits"] (fnScope s_barring_doors) := fnScope_by (by decide +kernel)
/- is_kept: slots 0 table 1 waits; cells [] -/
abbrev s_is_kept : Stmt := top 35
theorem sc_is_kept : FnScope ["table", "waits"] ["table", "waits"] (fnScope s_is_kept) := fnScope_by (by decide +kernel)
section
variable {P : Program} {w : World} {K : PySem.W.Frag} {mg : Str → Option Value} {base : Heap}
theorem ok_ring_behind (T : Txt mg) (D : Dx K mg "ring_behind" s_ring_behind ["before", "door"]) : Cal P w K mg base 1 "ring_behind" spRing [] := by
  refine cal D sc_ring_behind (fun vs H Q E h => ?_) (fun f cdv A outer s H vs Q E hr h => ?_)
  · obtain ⟨n, b, u, d, a, rfl, _⟩ := h
    rfl
  · obtain ⟨n, b, u, d, a, rfl, ha, R, hd, hu, hn, q⟩ := h
    have nd := sc_ring_behind.nd
    refine ⟨_, (pss_cons (ps_for PassesOwn.never rfl (pi_range1 (by rfl) T.range (pa_cons (pe_callB (lenK K) (by rfl) T.len boot_len (pa_cons (pv 0) pa_nil)) pa_nil)) (pg_name (i := 2) nd rfl (Or.inl rfl))
        (pss_one (ps_set (i := 1) nd rfl (Or.inl rfl) (pe_ix (ixL K) (pv 0) (pv 1) (fun _ _ => rfl)))))
      (pss_cons (ps_set (i := 3) nd rfl (Or.inl rfl) (pe_lst (pa_cons (pv 1) pa_nil)))
      (pss_cons (ps_set (i := 4) nd rfl (Or.inl rfl) (pe_ix (ixL K) (pv 0) (pv 1) (fun _ _ => rfl)))
      (pss_cons (ps_while PassesOwn.never (pt_cmpR op_ne (pv 4) (pv 1) (nomark _))
        (pss_cons (ps_expr (pe_bm PySem.F.plainAttrs_list PySem.F.slot_list_append PySem.F.type_list_append mt_append (pv 3) (pa_cons (pv 4) pa_nil)))
        (pss_one (ps_set (i := 4) nd rfl (Or.inl rfl) (pe_ix (ixL K) (pv 0) (pv 4) (fun _ _ => rfl))))))
      (pss_cons (ps_expr (pe_bm0 PySem.F.plainAttrs_list PySem.F.slot_list_reverse PySem.F.type_list_reverse mt_reverse (pv 3)))
      (pss_one (ps_ret (pe_callTy (tupK K) (by rfl) T.tuple boot_tuple (pa_cons (pv 3) pa_nil))))))))), ?_⟩
    obtain ⟨r, hr0, hrn, er, al⟩ := R.ring hd hu
    have at1 : ∀ {y z : Nat}, y < n → b y = some z → (row n (natE b))[y]? = some (.int (z : Int)) := fun {y z} hy e => by
      rw [row_get hy]
      unfold natE
      rw [e]
      rfl
    refine ⟨_, rfl, _, _, rfl, .inl (SqL.of ha), ?_⟩
    rw [row_len]
    refine ⟨(n : Int), rfl, by omega, by omega, for_it walk_rng (fun i σ' H' => H' = H ∧ ∃ x2, σ' = [some (.ref a), some (.int (backs b d i : Nat)), x2, none, none]) ⟨rfl, none, rfl⟩ (fun _ _ _ _ _ => trivial) ?_ ?_⟩
    · rintro i x σ' H' H2 hi ⟨rfl, x2, rfl⟩ ⟨rfl, rfl⟩
      have hi : i < n := hi
      exact ⟨_, rfl, _, rfl, _, _, _, _, rfl, rfl, SqL.of ha, atI_nat (at1 (R.go hd hu i (by omega)).1 (R.step hd hu hi)), rfl, _, rfl⟩
    · rintro σ' H' ⟨rfl, x2, rfl⟩
      have e0 : backs b d (Int.toNat (n : Int)) = backs b d n := rfl
      rw [e0]
      refine ⟨_, rfl, sz5 (by show 1 ≤ 100000; decide), fun l hl => ?_⟩
      have s1 := Same.new hl (o := .lst [.int (backs b d n : Nat)])
      refine ⟨_, rfl, _, rfl, _, _, _, _, rfl, rfl, SqL.of (s1 _ _ ha), atI_nat (at1 (al 0).1 (al 0).2), ?_⟩
      refine ⟨fun m σ' H2 => ∃ k x2 xs, m = r - k ∧ k + 1 ≤ r ∧ σ' = [some (.ref a), some (.int (backs b d n : Nat)), x2, some (.ref l), some (.int (backs b (backs b d n) (k + 1) : Nat))] ∧ Same H' H2 ∧ H2 l = some (.lst xs) ∧ xs.length = k + 1,
        ⟨r, 0, x2, _, rfl, hr0, rfl, s1, upd_same, rfl⟩, ?_⟩
      rintro m σ' H2 ⟨k, x2, xs, rfl, hk, rfl, e2, hl2, hlen⟩
      refine ⟨_, rfl, _, rfl, rfl, _, rfl, ?_⟩
      by_cases hh : backs b (backs b d n) (k + 1) = backs b d n
      · refine iteNT (by rw [hh]) ?_
        refine ⟨_, rfl, .inl ⟨rfl, _, SqL.of hl2⟩, _, _, rfl, rfl, hl2, ?_⟩
        have s3 : Same H' (upd H2 l (.lst xs.reverse)) := e2.mut hl
        exact ⟨_, rfl, l, _, rfl, SqL.of upd_same, fun p hp => q p _ (s3.trans (Same.new hp))⟩
      · refine iteNF (fun z => hh (by have := V.int.inj z; omega)) ?_
        have hk2 : k + 1 ≠ r := fun z => hh (by rw [z]; exact er)
        refine ⟨fun σ' H' => ∃ m', m' < r - k ∧ ∃ k x2 xs, m' = r - k ∧ k + 1 ≤ r ∧ σ' = _ ∧ _ ∧ _ ∧ _, fun σ' H' z => z, _, rfl, .inl ⟨rfl, _, SqL.of hl2⟩, _, rfl, l, _, _, rfl, rfl, hl2, sz5l (by omega), ?_⟩
        have s3 := e2.mut hl (o := .lst (xs ++ [.int (backs b (backs b d n) (k + 1) : Nat)]))
        exact ⟨_, rfl, _, rfl, _, _, _, _, rfl, rfl, SqL.of (s3 _ _ ha), atI_nat (at1 (al (k + 1)).1 (al (k + 1)).2), r - (k + 1), by omega, k + 1, x2, _, rfl, by omega, rfl, s3, upd_same, by rw [List.length_append, List.length_singleton, hlen]⟩
/-- the door of the last raise, in its slot -/
def encN (l : Option Nat) : V := enc (l.map fun x => (x : Int))
theorem ok_greatest_sums (T : Txt mg) (D : Dx K mg "greatest_sums" s_greatest_sums ["gains"]) (c_ring_behind : Cal P w K mg base 1 "ring_behind" spRing []) : Cal P w K mg base 2 "greatest_sums" spSums [] := by
  refine cal D sc_greatest_sums (fun vs H Q E h => ?_) (fun f cdv A outer s H vs Q E hr h => ?_)
  · obtain ⟨n, M, p, as, rfl, _⟩ := h
    rfl
  · obtain ⟨n, M, p, as, rfl, g0, la, hn0, hn, hdiag, q⟩ := h
    have nd := sc_greatest_sums.nd
    refine ⟨_, (pss_cons (ps_set (i := 1) nd rfl (Or.inl rfl) (pe_callB (lenK K) (by rfl) T.len boot_len (pa_cons (pv 0) pa_nil)))
      (pss_cons (ps_set (i := 2) nd rfl (Or.inl rfl) (pe_op op_rep (pe_lst (pa_cons pe_int pa_nil)) (pv 1)))
      (pss_cons (ps_set (i := 3) nd rfl (Or.inl rfl) (pe_op op_rep (pe_lst (pa_cons pe_non pa_nil)) (pv 1)))
      (pss_cons (ps_for PassesOwn.never rfl (pi_range1 (by rfl) T.range (pa_cons (pv 1) pa_nil)) (pg_name (i := 4) nd rfl (Or.inl rfl))
        (pss_cons (ps_set (i := 5) nd rfl (Or.inl rfl) pe_non)
        (pss_cons (ps_for PassesOwn.never rfl (pi_range1 (by rfl) T.range (pa_cons (pv 1) pa_nil)) (pg_name (i := 6) nd rfl (Or.inl rfl))
          (pss_one (ps_for PassesOwn.never rfl (pi_range1 (by rfl) T.range (pa_cons (pv 1) pa_nil)) (pg_name (i := 7) nd rfl (Or.inl rfl))
            (pss_one (ps_if (PW.pt (pw_and (pt_cmpR op_notN (pe_ix (ixL K) (pe_ix (ixL K) (pv 0) (pv 6) (fun _ _ => rfl)) (pv 7) (fun _ _ => rfl)) pe_non (nomark _)) (pw_and1 (pt_cmpR op_gt (pe_op op_add (pe_ix (ixL K) (pv 2) (pv 6) (fun _ _ => rfl)) (pe_ix (ixL K) (pe_ix (ixL K) (pv 0) (pv 6) (fun _ _ => rfl)) (pv 7) (fun _ _ => rfl))) (pe_ix (ixL K) (pv 2) (pv 7) (fun _ _ => rfl)) (nomark _))))) (pss_cons (ps_asg (pe_op op_add (pe_ix (ixL K) (pv 2) (pv 6) (fun _ _ => rfl)) (pe_ix (ixL K) (pe_ix (ixL K) (pv 0) (pv 6) (fun _ _ => rfl)) (pv 7) (fun _ _ => rfl))) (pg_sub (pv 2) (pv 7) set_list))
              (pss_cons (ps_asg (pv 6) (pg_sub (pv 3) (pv 7) set_list))
              (pss_one (ps_set (i := 5) nd rfl (Or.inl rfl) (pv 7))))) pss_nil)))))
        (pss_one (ps_if (pt_cmpR op_isN (pv 5) pe_non (nomark _)) (pss_one (ps_ret (pe_tup (pa_cons (pv 2) (pa_cons pe_non pa_nil))))) pss_nil)))))
      (pss_one (ps_ret (pe_tup (pa_cons pe_non (pa_cons (pe_c c_ring_behind hr (by decide) (by rfl) (pa_cons (pv 3) (pa_cons (pv 5) pa_nil))) pa_nil))))))))), ?_⟩
    have lA : (as.map V.ref).length = n := by rw [List.length_map]; exact la
    refine ⟨_, rfl, _, _, rfl, .inl (SqL.of g0.lst), ?_⟩
    rw [lA]
    refine ⟨sz5 (by show 1 ≤ 100000; decide), fun l0 hl0 => ⟨_, rfl, _, _, _, rfl, rfl, upd_same, by omega, by omega, sz5 (by simp; omega), fun ls hls => ?_⟩⟩
    rw [show ((n : Int).toNat) = n from rfl, rep_zero] at *
    refine ⟨sz5 (by show 1 ≤ 100000; decide), fun l1 hl1 => ⟨_, rfl, _, _, _, rfl, rfl, upd_same, by omega, by omega, sz5 (by simp; omega), fun lb hlb => ?_⟩⟩
    rw [show ((n : Int).toNat) = n from rfl, rep_none]
    have s1 := (Same.new hl0).trans (Same.new hls (o := .lst (row n (whole fun _ => 0))))
    have s2 := (s1.trans (Same.new hl1)).trans (Same.new hlb (o := .lst (row n (natE fun _ => none))))
    have fs : H ls = none := (Same.new hl0).free hls
    have fb : H lb = none := (s1.trans (Same.new hl1)).free hlb
    have nsb : ls ≠ lb := ne_of_none (o := .lst (row n (whole fun _ => 0))) (by rw [upd_ne (ne_of_none upd_same hl1)]; exact upd_same) hlb
    have gl : ∀ {H' : Hp}, Same H H' → ∀ {x : Nat}, x < n → ∃ a, as[x]? = some a ∧ H' a = some (.lst (row n (M x))) ∧ H' p = some (.lst (as.map V.ref)) := fun {H'} e {x} hx => by
      obtain ⟨a, ha⟩ := has (as := as) (i := x) (by omega)
      exact ⟨a, ha, e _ _ (g0.rows x a ha), e _ _ g0.lst⟩
    refine ⟨_, rfl, (n : Int), rfl, by omega, by omega, for_it walk_rng (fun i σ' H' => ∃ s b u tm clk x4 x5 x6 x7, σ' = [some (.ref p), some (.int (n : Int)), some (.ref ls), some (.ref lb), x4, x5, x6, x7] ∧ Same H H' ∧ H' ls = some (.lst (row n (whole s))) ∧ H' lb = some (.lst (row n (natE b))) ∧
        Bf n M (i + 1) (fun _ _ => False) s b u tm clk none ∧ (0 < i → ∃ l : Nat, x5 = some (.int (l : Int)) ∧ l < n ∧ u l = i))
      ⟨_, _, _, _, _, none, none, none, none, rfl, s2, ?_, upd_same, Bf.start, fun h => absurd h (Nat.lt_irrefl _)⟩ (fun _ _ _ _ _ => trivial) ?_ ?_⟩
    · rw [upd_ne nsb, upd_ne (ne_of_none upd_same hl1)]
      exact upd_same
    · rintro i x σ' H1 H1' hi ⟨s, b, u, tm, clk, x4, x5, x6, x7, rfl, e1, hs1, hb1, B1, _⟩ ⟨rfl, rfl⟩
      have hi : i < n := hi
      -- for x in range(size)
      refine ⟨_, rfl, (n : Int), rfl, by omega, by omega, for_it walk_rng (fun x0 σ' H' => ∃ s b u tm clk last x6 x7, σ' = [some (.ref p), some (.int (n : Int)), some (.ref ls), some (.ref lb), some (.int (i : Nat)), some (encN last), x6, x7] ∧ Same H H' ∧ H' ls = some (.lst (row n (whole s))) ∧ H' lb = some (.lst (row n (natE b))) ∧
          Bf n M (i + 1) (fun x _ => x < x0) s b u tm clk last)
        ⟨s, b, u, tm, clk, none, x6, x7, rfl, e1, hs1, hb1, ?_⟩ (fun _ _ _ _ _ => trivial) ?_ ?_⟩
      · have : (fun x _ => x < 0 : Nat → Nat → Prop) = fun _ _ => False := by
          funext x y
          exact propext ⟨fun z => absurd z (Nat.not_lt_zero _), fun z => z.elim⟩
        rw [this]
        exact B1
      · rintro x0 x σ' H2 H2' hx0 ⟨s, b, u, tm, clk, last, x6, x7, rfl, e2, hs2, hb2, B2⟩ ⟨rfl, rfl⟩
        have hx0 : x0 < n := hx0
        -- for y in range(size)
        refine ⟨_, rfl, (n : Int), rfl, by omega, by omega, for_it walk_rng (fun y0 σ' H' => ∃ s b u tm clk last x7, σ' = [some (.ref p), some (.int (n : Int)), some (.ref ls), some (.ref lb), some (.int (i : Nat)), some (encN last), some (.int (x0 : Nat)), x7] ∧ Same H H' ∧ H' ls = some (.lst (row n (whole s))) ∧ H' lb = some (.lst (row n (natE b))) ∧
            Bf n M (i + 1) (fun x y => x < x0 ∨ (x = x0 ∧ y < y0)) s b u tm clk last)
          ⟨s, b, u, tm, clk, last, x7, rfl, e2, hs2, hb2, ?_⟩ (fun _ _ _ _ _ => trivial) ?_ ?_⟩
        · have : (fun x y => x < x0 ∨ (x = x0 ∧ y < 0) : Nat → Nat → Prop) = fun x _ => x < x0 := by
            funext x y
            exact propext ⟨fun z => z.elim id fun q => absurd q.2 (Nat.not_lt_zero _), fun z => .inl z⟩
          rw [this]
          exact B2
        · rintro y0 x σ' H3 H3' hy0 ⟨s, b, u, tm, clk, last, x7, rfl, e3, hs3, hb3, B3⟩ ⟨rfl, rfl⟩
          have hy0 : y0 < n := hy0
          obtain ⟨a, ha, hra, hp⟩ := gl e3 hx0
          have wq : ∀ x' y', (x' < x0 ∨ (x' = x0 ∧ y' < y0 + 1)) ↔ (x' < x0 ∨ (x' = x0 ∧ y' < y0)) ∨ (x' = x0 ∧ y' = y0) := fun x' y' => by omega
          have nsc : ¬ (x0 < x0 ∨ (x0 = x0 ∧ y0 < y0)) := by omega
          refine ⟨_, rfl, _, rfl, _, _, _, _, rfl, rfl, SqL.of hp, atI_nat (refs_at ha), _, rfl, _, _, _, _, rfl, rfl, SqL.of hra, atI_nat (row_get hy0), rfl, _, rfl, ?_⟩
          cases hM : M x0 y0 with
          | none =>
            exact iteNT rfl (iteF ⟨s, b, u, tm, clk, last, _, rfl, e3, hs3, hb3, B3.skip (fun g e => by rw [hM] at e; cases e) wq⟩)
          | some g =>
            have hgg : (row n (M x0))[y0]? = some (.int g) := by
              rw [row_get hy0, hM]
              rfl
            refine iteNF (fun z => by cases z) ⟨_, rfl, _, rfl, _, _, _, _, rfl, rfl, SqL.of hs3, atI_nat (row_getW hx0), _, rfl, _, rfl, _, _, _, _, rfl, rfl, SqL.of hp, atI_nat (refs_at ha), _, rfl, _, _, _, _, rfl, rfl, SqL.of hra, atI_nat hgg, _, _, rfl, rfl, _, rfl, _, rfl, _, _, _, _, rfl, rfl, SqL.of hs3, atI_nat (row_getW hy0), _, _, rfl, rfl, _, rfl, ?_⟩
            by_cases hlt : s y0 < s x0 + g
            · have hxy : x0 ≠ y0 := fun z => by
                rw [← z, hdiag x0 hx0] at hM
                cases hM
              refine iteDT hlt ⟨_, rfl, _, rfl, _, _, _, _, rfl, rfl, SqL.of hs3, atI_nat (row_getW hx0), _, rfl, _, rfl, _, _, _, _, rfl, rfl, SqL.of hp, atI_nat (refs_at ha), _, rfl, _, _, _, _, rfl, rfl, SqL.of hra, atI_nat hgg, _, _, rfl, rfl, _, rfl, _, rfl, ls, _, _, y0, rfl, rfl, hs3, ixN_nat (by rw [row_len]; exact hy0), ?_⟩
              rw [row_setW]
              have e4 := e3.mut fs (o := .lst (row n (whole (st1 s y0 (s x0 + g)))))
              have hb4 : upd H3' ls (.lst (row n (whole (st1 s y0 (s x0 + g))))) lb = some (.lst (row n (natE b))) := by rw [upd_ne nsb.symm]; exact hb3
              refine ⟨_, rfl, _, rfl, _, rfl, lb, _, _, y0, rfl, rfl, hb4, ixN_nat (by rw [row_len]; exact hy0), ?_⟩
              rw [row_setN]
              exact ⟨_, rfl, _, _, _, _, _, some y0, _, rfl, e4.mut fb, by rw [upd_ne nsb]; exact upd_same, upd_same, B3.raise hx0 hy0 hxy nsc hM (hdiag y0 hy0) hlt wq⟩
            · exact iteDF hlt ⟨s, b, u, tm, clk, last, _, rfl, e3, hs3, hb3, B3.skip (fun g' e => by rw [hM] at e; cases e; omega) wq⟩
        · rintro σ' H3 ⟨s, b, u, tm, clk, last, x7, rfl, e3, hs3, hb3, B3⟩
          have B3 : Bf n M (i + 1) (fun x y => x < x0 ∨ (x = x0 ∧ y < n)) s b u tm clk last := B3
          refine ⟨s, b, u, tm, clk, last, _, x7, rfl, e3, hs3, hb3, ?_⟩
          exact ⟨B3.up, B3.bn, B3.bs, B3.ck, fun x y g h1 h2 h3 => B3.sd x y g h1 h2 (by omega), fun x y g h1 h2 h3 => B3.ns x y g h1 h2 (by omega), fun h x y g h1 h2 h3 => B3.ln h x y g h1 h2 (by omega), B3.ls⟩
      · rintro σ' H2 ⟨s, b, u, tm, clk, last, x6, x7, rfl, e2, hs2, hb2, B2⟩
        have B2 : Bf n M (i + 1) (fun x _ => x < n) s b u tm clk last := B2
        refine ⟨_, rfl, rfl, _, rfl, ?_⟩
        cases last with
        | none =>
          refine iteDT rfl ⟨_, rfl, sz5 (by show 2 ≤ 100000; decide), fun t ht => ?_⟩
          exact q t _ _ _ (e2.trans (Same.new ht)) upd_same (fun _ => rfl) fun nk => absurd (B2.kept fun x y hx _ => hx) nk
        | some l =>
          obtain ⟨h1, h2⟩ := B2.ls l rfl
          exact iteDF (fun z => by cases z) ⟨s, b, u, tm, clk, _, _, x6, x7, rfl, e2, hs2, hb2, B2.next fun x y hx _ => hx, fun _ => ⟨l, rfl, h1, h2⟩⟩
    · rintro σ' H1 ⟨s, b, u, tm, clk, x4, x5, x6, x7, rfl, e1, hs1, hb1, B1, hl⟩
      obtain ⟨l, rfl, hl1, hl2⟩ := hl hn0
      have hl2 : u l = n := hl2
      refine ⟨_, rfl, _, rfl, n, b, u, l, lb, rfl, hb1, B1.rank, hl1, by omega, hn, fun r H2 e2 => ⟨sz5 (by show 2 ≤ 100000; decide), fun t ht => ?_⟩⟩
      exact q t _ _ _ ((e1.trans e2).trans (Same.new ht)) upd_same (fun k => absurd k (B1.bad hl1 (by omega))) fun _ => ⟨r, rfl⟩
theorem ok_barring_doors (T : Txt mg) (D : Dx K mg "barring_doors" s_barring_doors ["table", "waits"]) (c_need_table_waits : Cal P w K mg base 3 "need_table_waits" (spNeedWaits K) []) (c_step_gains : Cal P w K mg base 1 "step_gains" (spStepGains K) []) (c_greatest_sums : Cal P w K mg base 2 "greatest_sums" spSums []) :
    Cal P w K mg base 4 "barring_doors" (spBarring K) [] := by
  refine cal D sc_barring_doors (fun vs H Q E h => ?_) (fun f cdv A outer s H vs Q E hr h => ?_)
  · obtain ⟨n, t, wt, v, a, rfl, _⟩ := h
    rfl
  · obtain ⟨n, t, wt, v, aw, rfl, hT0, hW, hn0, hn, h0, q⟩ := h
    have nd := sc_barring_doors.nd
    refine ⟨_, (pss_cons (ps_expr (pe_c c_need_table_waits hr (by decide) (by rfl) (pa_cons (pe_callB (lenK K) (by rfl) T.len boot_len (pa_cons (pv 0) pa_nil)) (pa_cons (pv 1) pa_nil))))
      (pss_one (ps_ret (pe_ix (ixT K) (pe_c c_greatest_sums hr (by decide) (by rfl) (pa_cons (pe_c c_step_gains hr (by decide) (by rfl) (pa_cons (pv 0) (pa_cons (pv 1) pa_nil))) pa_nil)) pe_int (fun _ _ => rfl))))), ?_⟩
    obtain ⟨a, vs, rfl, hT, hl, hrows⟩ := id hT0
    refine ⟨_, rfl, _, _, rfl, .inr hT, ?_⟩
    rw [hl]
    refine ⟨_, rfl, n, wt, aw, rfl, hW, hn, h0, fun H1 e1 => ?_⟩
    refine ⟨_, rfl, _, rfl, n, t, wt, .ref a, aw, rfl, hT0.same e1, e1.sqt hW, hn, fun p as H2 e2 fr la g => ?_⟩
    refine ⟨n, stp t wt, p, as, rfl, g, la, hn0, hn, fun x hx => by unfold stp; rw [if_pos rfl], fun qa s1 r H3 e3 hq hk hb => ?_⟩
    exact ⟨qa, _, _, _, rfl, rfl, SqT.of hq, rfl, q r H3 ((e1.trans e2).trans e3) hk hb⟩
theorem ok_is_kept (T : Txt mg) (D : Dx K mg "is_kept" s_is_kept ["table", "waits"]) (c_barring_doors : Cal P w K mg base 4 "barring_doors" (spBarring K) []) : Cal P w K mg base 5 "is_kept" (spKept K) [] := by
  refine cal D sc_is_kept (fun vs H Q E h => ?_) (fun f cdv A outer s H vs Q E hr h => ?_)
  · obtain ⟨n, t, wt, v, a, rfl, _⟩ := h
    rfl
  · obtain ⟨n, t, wt, v, aw, rfl, hT0, hW, hn0, hn, h0, q⟩ := h
    have nd := sc_is_kept.nd
    refine ⟨_, (pss_one (ps_ret (pe_cmpR op_isN (pe_c c_barring_doors hr (by decide) (by rfl) (pa_cons (pv 0) (pa_cons (pv 1) pa_nil))) pe_non (nomark _)))), ?_⟩
    refine ⟨_, rfl, _, rfl, n, t, wt, v, aw, rfl, hT0, hW, hn0, hn, h0, fun r H1 e1 hk hb => ⟨rfl, ?_⟩⟩
    refine q (decide (r = .non)) H1 e1 ?_
    rw [decide_eq_true_iff]
    constructor
    · intro e
      apply Classical.byContradiction
      intro nk
      obtain ⟨a, ea⟩ := hb nk
      rw [e] at ea
      cases ea
    · exact hk
end
end K60

namespace K60
open PySem L2
open C8 (Cal Def Met Mak cal0 met0 mak0 pe_c pe_mk pe_mt pe_mt0 pe_gc InsC call_isC fnScope fnBody fnArgs clsBody fnScope_by)

/-- a linked table, the pairs Pr of outer doors done -/
structure LnkP (n1 n2 : Nat) (t1 t2 : Mx) (k1 k2 : Nat) (o1 o2 : Nat → Nat) (th bk : Mx) (Pr : Nat → Nat → Prop) (M : Mx) : Prop where
  in1 : ∀ x y, x < n1 → y < n1 → M x y = t1 x y
  in2 : ∀ x y, x < n2 → y < n2 → M (n1 + x) (n1 + y) = t2 x y
  th_ : ∀ i j, i < k1 → j < k2 → Pr i j → M (o1 i) (n1 + o2 j) = (th i j).map (0 - ·)
  bk_ : ∀ i j, i < k1 → j < k2 → Pr i j → M (n1 + o2 j) (o1 i) = (bk j i).map (0 - ·)
  no : ∀ x y, x < n1 → y < n2 → (∀ i j, i < k1 → j < k2 → Pr i j → ¬ (o1 i = x ∧ o2 j = y)) → M x (n1 + y) = none ∧ M (n1 + y) x = none
section
variable {n1 n2 k1 k2 : Nat} {t1 t2 th bk M : Mx} {o1 o2 : Nat → Nat} {Pr Pr' : Nat → Nat → Prop}
theorem LnkP.start : LnkP n1 n2 t1 t2 k1 k2 o1 o2 th bk (fun _ _ => False) (blk n1 t1 t2) where
  in1 := fun x y hx hy => by unfold blk; rw [if_pos hx, if_pos hy]
  in2 := fun x y hx hy => by unfold blk; rw [if_neg (by omega), if_neg (by omega), Nat.add_sub_cancel_left, Nat.add_sub_cancel_left]
  th_ := fun _ _ _ _ h => h.elim
  bk_ := fun _ _ _ _ h => h.elim
  no := fun x y hx hy _ => by
    unfold blk
    rw [if_pos hx, if_neg (by omega), if_neg (by omega), if_pos hx]
    exact ⟨rfl, rfl⟩
theorem LnkP.weak (L : LnkP n1 n2 t1 t2 k1 k2 o1 o2 th bk Pr M) (w : ∀ i j, i < k1 → j < k2 → (Pr' i j ↔ Pr i j)) : LnkP n1 n2 t1 t2 k1 k2 o1 o2 th bk Pr' M :=
  ⟨L.in1, L.in2, fun i j hi hj h => L.th_ i j hi hj ((w i j hi hj).mp h), fun i j hi hj h => L.bk_ i j hi hj ((w i j hi hj).mp h), fun x y hx hy h => L.no x y hx hy fun i j hi hj q => h i j hi hj ((w i j hi hj).mpr q)⟩
theorem LnkP.put (L : LnkP n1 n2 t1 t2 k1 k2 o1 o2 th bk Pr M) (L1 : Lot n1 k1 o1) (L2 : Lot n2 k2 o2) {i j : Nat} (hi : i < k1) (hj : j < k2) (w : ∀ i' j', i' < k1 → j' < k2 → (Pr' i' j' ↔ Pr i' j' ∨ (i' = i ∧ j' = j))) :
    LnkP n1 n2 t1 t2 k1 k2 o1 o2 th bk Pr' (put (put M (o1 i) (n1 + o2 j) ((th i j).map (0 - ·))) (n1 + o2 j) (o1 i) ((bk j i).map (0 - ·))) := by
  have h1 := L1.lt i hi
  have h2 := L2.lt j hj
  have inj1 : ∀ i', i' < k1 → o1 i' = o1 i → i' = i := fun i' hi' e => by
    rcases Nat.lt_trichotomy i' i with z | z | z
    · have := L1.up i' i z hi; omega
    · exact z
    · have := L1.up i i' z hi'; omega
  have inj2 : ∀ j', j' < k2 → o2 j' = o2 j → j' = j := fun j' hj' e => by
    rcases Nat.lt_trichotomy j' j with z | z | z
    · have := L2.up j' j z hj; omega
    · exact z
    · have := L2.up j j' z hj'; omega
  refine ⟨fun x y hx hy => ?_, fun x y hx hy => ?_, fun i' j' hi' hj' h => ?_, fun i' j' hi' hj' h => ?_, fun x y hx hy h => ?_⟩
  · rw [put_ne (by omega), put_ne (by omega)]
    exact L.in1 x y hx hy
  · rw [put_ne (by omega), put_ne (by omega)]
    exact L.in2 x y hx hy
  · have := L1.lt i' hi'
    rw [put_ne (by omega)]
    by_cases q : i' = i ∧ j' = j
    · obtain ⟨rfl, rfl⟩ := q
      rw [put_self]
    · rw [put_ne (fun z => q ⟨inj1 i' hi' z.1, inj2 j' hj' (by omega)⟩)]
      exact L.th_ i' j' hi' hj' (((w i' j' hi' hj').mp h).resolve_right q)
  · have := L1.lt i' hi'
    by_cases q : i' = i ∧ j' = j
    · obtain ⟨rfl, rfl⟩ := q
      rw [put_self]
    · rw [put_ne (fun z => q ⟨inj1 i' hi' z.2, inj2 j' hj' (by omega)⟩), put_ne (by omega)]
      exact L.bk_ i' j' hi' hj' (((w i' j' hi' hj').mp h).resolve_right q)
  · have hn := h i j hi hj ((w i j hi hj).mpr (.inr ⟨rfl, rfl⟩))
    obtain ⟨a, b⟩ := L.no x y hx hy fun i' j' hi' hj' q => h i' j' hi' hj' ((w i' j' hi' hj').mpr (.inl q))
    rw [put_ne (by omega), put_ne (fun z => hn ⟨z.1.symm, by omega⟩), put_ne (fun z => hn ⟨z.2.symm, by omega⟩), put_ne (by omega)]
    exact ⟨a, b⟩
theorem LnkP.fin (L : LnkP n1 n2 t1 t2 k1 k2 o1 o2 th bk Pr M) (w : ∀ i j, i < k1 → j < k2 → Pr i j) : Lnk n1 n2 t1 t2 k1 k2 o1 o2 th bk M :=
  ⟨L.in1, L.in2, fun i j hi hj => L.th_ i j hi hj (w i j hi hj), fun i j hi hj => L.bk_ i j hi hj (w i j hi hj), fun x y hx hy h => L.no x y hx hy fun i j hi hj _ => h i j hi hj⟩
theorem lot_id {n : Nat} : Lot n n id := ⟨fun _ h => h, fun _ _ h _ => h⟩
/-- the duties across as such a table -/
theorem acr_lnk : Lnk k1 k2 (fun _ _ => none) (fun _ _ => none) k1 k2 id id th bk (acr k1 th bk) where
  in1 := fun x y hx hy => by unfold acr; rw [if_pos hx, if_pos hy]
  in2 := fun x y hx hy => by unfold acr; rw [if_neg (by omega), if_neg (by omega)]
  th_ := fun i j hi hj => acr_th hi
  bk_ := fun i j hi hj => acr_bk hi
  no := fun x y hx hy h => absurd ⟨rfl, rfl⟩ (h x y hx hy)
theorem OfTwo.congr {n : Nat} {A B B' C : Mx} (h : OfTwo n A B C) (e : ∀ x y, x < n → y < n → B x y = B' x y) : OfTwo n A B' C :=
  ⟨fun x s y a b h1 h2 h3 h4 h5 => h.ge x s y a b h1 h2 h3 h4 (by rw [e s y h2 h3]; exact h5), fun x y g h1 h2 h3 => let ⟨s, a, b, q1, q2, q3, q4⟩ := h.is x y g h1 h2 h3; ⟨s, a, b, q1, q2, by rw [← e s y q1 h2]; exact q3, q4⟩⟩
end
def NonNeg (n m : Nat) (M : Mx) : Prop := ∀ i j g, i < n → j < m → M i j = some g → 0 ≤ g
def spLinkedTables (K : PySem.W.Frag) : Sp := fun vs H Q _ => ∃ (n1 n2 k1 k2 : Nat) (t1 t2 th bk : Mx) (o1 o2 : Nat → Nat) (v1 v2 v5 v6 : V) (b1 b2 : Addr), vs = [v1, v2, .ref b1, .ref b2, v5, v6] ∧
  IsTab K H v1 n1 n1 t1 ∧ IsTab K H v2 n2 n2 t2 ∧ SqT K H b1 (row k1 (wholeN o1)) ∧ SqT K H b2 (row k2 (wholeN o2)) ∧ IsTab K H v5 k1 k2 th ∧ IsTab K H v6 k2 k1 bk ∧
  (0 < n1 ∧ n1 ≤ 500) ∧ (0 < n2 ∧ n2 ≤ 500) ∧ (∀ x, x < n2 → t2 x x = some 0) ∧ Lot n1 k1 o1 ∧ Lot n2 k2 o2 ∧ (0 < k1 ∧ k1 ≤ 500) ∧ (0 < k2 ∧ k2 ≤ 500) ∧ NonNeg k1 k2 th ∧ NonNeg k2 k1 bk ∧
  ∀ (M : Mx) (v : V) (H' : Hp), Same H H' → IsTab K H' v (n1 + n2) (n1 + n2) M → Lnk n1 n2 t1 t2 k1 k2 o1 o2 th bk M → Q v H'
def spLinkedGains (K : PySem.W.Frag) : Sp := fun vs H Q _ => ∃ (k1 k2 : Nat) (r1 r2 : Option Mx) (th bk : Mx) (v1 v2 v3 v4 : V), vs = [v1, v2, v3, v4] ∧ IsOG K H v1 k1 r1 ∧ IsOG K H v2 k2 r2 ∧ IsTab K H v3 k1 k2 th ∧ IsTab K H v4 k2 k1 bk ∧
  (0 < k1 ∧ k1 ≤ 500) ∧ (0 < k2 ∧ k2 ≤ 500) ∧ NonNeg k1 k2 th ∧ NonNeg k2 k1 bk ∧ ∀ (r : Option Mx) (v : V) (H' : Hp), Same H H' → IsOG K H' v (k1 + k2) r → LinkRes k1 k2 r1 r2 th bk r → Q v H'

/- linked_tables: slots 0 table 1 other 2 outer 3 far 4 there 5 back 6 many 7 rows 8 at 9 door 10 place 11 away 12 row; cells [] -/
abbrev s_linked_tables : Stmt := top 23
theorem sc_linked_tables : FnScope ["table", "other", "outer", "far", "there", "back", "many", "rows", "at", "door", "place", "away", "row"] ["table", "other", "outer", "far", "there", "back"] (fnScope s_linked_tables) := fnScope_by (by decide +kernel)
/- linked_gains: slots 0 gains 1 other 2 there 3 back 4 many 5 within 6 across 7 walks 8 at 9 row 10 _ 11 place 12 units; cells ['within'] -/
abbrev s_linked_gains : Stmt := top 24
theorem sc_linked_gains : FnScope ["gains", "other", "there", "back", "many", "within", "across", "walks", "at", "row", "_", "place", "units"] ["gains", "other", "there", "back"] (fnScope s_linked_gains) := fnScope_by (by decide +kernel)
section
variable {P : Program} {w : World} {K : PySem.W.Frag} {mg : Str → Option Value} {base : Heap}
theorem ok_linked_tables (T : Txt mg) (D : Dx K mg "linked_tables" s_linked_tables ["table", "other", "outer", "far", "there", "back"]) (c_is_table : Cal P w K mg base 3 "is_table" (spTable K) []) (c_is_lot : Cal P w K mg base 2 "is_lot" (spLot K) [])
    (c__look_at_links : Cal P w K mg base 4 "_look_at_links" (spLinks K) []) (c__side_by_side : Cal P w K mg base 1 "_side_by_side" (spSide K) []) (c__turned : Cal P w K mg base 1 "_turned" spTurned []) : Cal P w K mg base 5 "linked_tables" (spLinkedTables K) [] := by
  refine cal D sc_linked_tables (fun vs H Q E h => ?_) (fun f cdv A outer s H vs Q E hr h => ?_)
  · obtain ⟨n1, n2, k1, k2, t1, t2, th, bk, o1, o2, v1, v2, v5, v6, b1, b2, rfl, _⟩ := h
    rfl
  · obtain ⟨n1, n2, k1, k2, t1, t2, th, bk, o1, o2, v1, v2, v5, v6, b1, b2, rfl, hT1, hT2, hO1, hO2, hth, hbk, hn1, hn2, hd2, L1, L2, hk1, hk2, d1, d2, q⟩ := h
    have nd := sc_linked_tables.nd
    refine ⟨_, (pss_cons (ps_if (pt_not (pt_val (pe_c c_is_table hr (by decide) (by rfl) (pa_cons (pv 1) pa_nil)))) (pss_one ps_never) pss_nil)
      (pss_cons (ps_if (PW.pt (pw_or (pt_not (pt_val (pe_c c_is_lot hr (by decide) (by rfl) (pa_cons (pe_callB (lenK K) (by rfl) T.len boot_len (pa_cons (pv 0) pa_nil)) (pa_cons (pv 2) pa_nil))))) (pw_or1 (pt_not (pt_truth (pv 2) (fun _ => rfl)))))) (pss_one ps_never) pss_nil)
      (pss_cons (ps_if (PW.pt (pw_or (pt_not (pt_val (pe_c c_is_lot hr (by decide) (by rfl) (pa_cons (pe_callB (lenK K) (by rfl) T.len boot_len (pa_cons (pv 1) pa_nil)) (pa_cons (pv 3) pa_nil))))) (pw_or1 (pt_not (pt_truth (pv 3) (fun _ => rfl)))))) (pss_one ps_never) pss_nil)
      (pss_cons (ps_expr (pe_c c__look_at_links hr (by decide) (by rfl) (pa_cons (pe_callB (lenK K) (by rfl) T.len boot_len (pa_cons (pv 2) pa_nil)) (pa_cons (pe_callB (lenK K) (by rfl) T.len boot_len (pa_cons (pv 3) pa_nil)) (pa_cons (pv 4) (pa_cons (pv 5) pa_nil))))))
      (pss_cons (ps_set (i := 6) nd rfl (Or.inl rfl) (pe_callB (lenK K) (by rfl) T.len boot_len (pa_cons (pv 0) pa_nil)))
      (pss_cons (ps_set (i := 7) nd rfl (Or.inl rfl) (pe_c c__side_by_side hr (by decide) (by rfl) (pa_cons (pv 0) (pa_cons (pv 1) pa_nil))))
      (pss_cons (ps_for PassesOwn.never rfl (piET K rfl (by rfl) T.enumerate (pa_cons (pv 2) pa_nil)) (pg_tup rfl (pgs_cons (pg_name (i := 8) nd rfl (Or.inl rfl)) (pgs_cons (pg_name (i := 9) nd rfl (Or.inl rfl)) pgs_nil)))
        (pss_one (ps_for PassesOwn.never rfl (piET K rfl (by rfl) T.enumerate (pa_cons (pv 3) pa_nil)) (pg_tup rfl (pgs_cons (pg_name (i := 10) nd rfl (Or.inl rfl)) (pgs_cons (pg_name (i := 11) nd rfl (Or.inl rfl)) pgs_nil)))
          (pss_cons (ps_asg (pe_c c__turned hr (by decide) (by rfl) (pa_cons (pe_ix (ixT K) (pe_ix (ixT K) (pv 4) (pv 8) (fun _ _ => rfl)) (pv 10) (fun _ _ => rfl)) pa_nil)) (pg_sub (pe_ix (ixL K) (pv 7) (pv 9) (fun _ _ => rfl)) (pe_op op_add (pv 6) (pv 11)) set_list))
          (pss_one (ps_asg (pe_c c__turned hr (by decide) (by rfl) (pa_cons (pe_ix (ixT K) (pe_ix (ixT K) (pv 5) (pv 10) (fun _ _ => rfl)) (pv 8) (fun _ _ => rfl)) pa_nil)) (pg_sub (pe_ix (ixL K) (pv 7) (pe_op op_add (pv 6) (pv 11)) (fun _ _ => rfl)) (pv 9) set_list)))))))
      (pss_one (ps_ret (pe_callTy (tupK K) (by rfl) T.tuple boot_tuple (pa_cons (pe_lc (own := [("row", 12)]) (g := gName 12) (tt := tYes) rfl nd (piL K rfl (pv 7)) (blkOk_by (N := ["table", "other", "outer", "far", "there", "back", "many", "rows", "at", "door", "place", "away", "row"]) (sc := fnScope s_linked_tables) (by decide +kernel)) (fun _ _ _ _ _ => (pg_name (i := 12) nd rfl (Or.inl rfl))) (fun _ _ _ _ _ => pts_nil) (fun _ _ _ _ _ => (pe_callTy (tupK K) (by rfl) T.tuple boot_tuple (pa_cons (pv 12) pa_nil)))) pa_nil))))))))))), ?_⟩
    obtain ⟨a1, vs1, rfl, hq1, hl1, hr1⟩ := id hT1
    obtain ⟨a2, vs2, rfl, hq2, hl2, hr2⟩ := id hT2
    refine ⟨_, rfl, n2, t2, _, rfl, hT2, hn2.1, by omega, hd2, fun H1 e1 => ⟨_, rfl, iteF ?_⟩⟩
    refine ⟨_, rfl, _, _, rfl, .inr (e1.sqt hq1), ?_⟩
    rw [hl1]
    refine ⟨_, rfl, n1, k1, o1, b1, rfl, e1.sqt hO1, L1, _, rfl, iteF ⟨_, rfl, _, .inr (.inl ⟨_, e1.sqt hO1, rfl⟩), ?_⟩⟩
    rw [row_tru hk1.1]
    refine iteF ⟨_, rfl, _, _, rfl, .inr (e1.sqt hq2), ?_⟩
    rw [hl2]
    refine ⟨_, rfl, n2, k2, o2, b2, rfl, e1.sqt hO2, L2, _, rfl, iteF ⟨_, rfl, _, .inr (.inl ⟨_, e1.sqt hO2, rfl⟩), ?_⟩⟩
    rw [row_tru hk2.1]
    refine iteF ⟨_, rfl, _, _, rfl, .inr (e1.sqt hO1), _, rfl, _, _, rfl, .inr (e1.sqt hO2), ?_⟩
    rw [row_len, row_len]
    refine ⟨_, rfl, _, rfl, k1, k2, th, bk, v5, v6, rfl, hth.same e1, hbk.same e1, by omega, by omega, d1, d2, fun H2 e2 => ?_⟩
    have s2 := e1.trans e2
    refine ⟨_, rfl, _, _, rfl, .inr (s2.sqt hq1), ?_⟩
    rw [hl1]
    refine ⟨_, rfl, _, rfl, n1, n2, t1, t2, _, _, rfl, hT1.same s2, hT2.same s2, by omega, by omega, fun r as H3 e3 hr3 fr la g3 => ?_⟩
    have s3 := s2.trans e3
    have fr : ∀ a ∈ as, H a = none := fun a ha => s2.free (fr a ha)
    obtain ⟨c5, vs5, rfl, hq5, hl5, hr5⟩ := id hth
    obtain ⟨c6, vs6, rfl, hq6, hl6, hr6⟩ := id hbk
    -- for at, door in enumerate(outer)
    refine ⟨_, rfl, b1, _, rfl, s3.sqt hO1, for_it walk_enumT (fun i σ' H' => ∃ M x8 x9 x10 x11, σ' = [some (.ref a1), some (.ref a2), some (.ref b1), some (.ref b2), some (.ref c5), some (.ref c6), some (.int (n1 : Int)), some (.ref r), x8, x9, x10, x11, none] ∧ Same H H' ∧ Grid H' r as (n1 + n2) M ∧ LnkP n1 n2 t1 t2 k1 k2 o1 o2 th bk (fun i' _ => i' < i) M)
      ⟨_, none, none, none, none, rfl, s3, g3, LnkP.start.weak fun i j _ _ => ⟨fun z => absurd z (Nat.not_lt_zero _), fun z => z.elim⟩⟩ (fun i σ' H' _ ⟨_, _, _, _, _, _, e, _⟩ => e.sqt hO1) ?_ ?_⟩
    · rintro i x σ' H4 H4' hi ⟨M, x8, x9, x10, x11, rfl, e4, g4, p4⟩ ⟨Tu, y1, y2, rfl, hTu, rfl, ey, hy2⟩
      cases ey
      obtain ⟨hi, rfl⟩ := row_isN hy2
      refine ⟨_, _, rfl, SqT.of upd_same, rfl, _, _, rfl, _, _, rfl, rfl, ?_⟩
      -- for place, away in enumerate(far)
      refine ⟨_, rfl, b2, _, rfl, (e4.trans (Same.new hTu)).sqt hO2, for_it walk_enumT (fun j σ' H' => ∃ M x10 x11, σ' = [some (.ref a1), some (.ref a2), some (.ref b1), some (.ref b2), some (.ref c5), some (.ref c6), some (.int (n1 : Int)), some (.ref r), some (.int (i : Nat)), some (.int (o1 i : Nat)), x10, x11, none] ∧ Same H H' ∧ Grid H' r as (n1 + n2) M ∧ LnkP n1 n2 t1 t2 k1 k2 o1 o2 th bk (fun i' j' => i' < i ∨ (i' = i ∧ j' < j)) M)
        ⟨M, x10, x11, rfl, e4.trans (Same.new hTu), g4.same (Same.new hTu), p4.weak fun i j _ _ => by omega⟩ (fun i σ' H' _ ⟨_, _, _, _, e, _⟩ => e.sqt hO2) ?_ ?_⟩
      · rintro j x σ' H5 H5' hj ⟨M, x10, x11, rfl, e5, g5, p5⟩ ⟨Tv, z1, z2, rfl, hTv, rfl, ez, hz2⟩
        cases ez
        obtain ⟨hj, rfl⟩ := row_isN hz2
        have e6 := e5.trans (Same.new hTv (o := .tup [.int (j : Nat), .int (o2 j : Nat)]))
        have g6 := g5.same (Same.new hTv (o := .tup [.int (j : Nat), .int (o2 j : Nat)]))
        obtain ⟨w5, d5, hw5, rfl, hd5⟩ := IsTab.row hr5 hl5 hi
        obtain ⟨w6, d6, hw6, rfl, hd6⟩ := IsTab.row hr6 hl6 hj
        have l1 := L1.lt i hi
        have l2 := L2.lt j hj
        obtain ⟨ra, hra⟩ := has (as := as) (i := o1 i) (by omega)
        obtain ⟨rb, hrb⟩ := has (as := as) (i := n1 + o2 j) (by omega)
        have eadd : ((n1 : Int) + ((o2 j : Nat) : Int)) = ((n1 + o2 j : Nat) : Int) := by omega
        refine ⟨_, _, rfl, SqT.of upd_same, rfl, _, _, rfl, _, _, rfl, rfl, ?_⟩
        refine ⟨_, rfl, _, rfl, _, _, _, _, rfl, rfl, e6.sqt hq5, atI_nat hw5, _, rfl, _, _, _, _, rfl, rfl, e6.sqt hd5, atI_nat (row_get hj), th i j, rfl, _, rfl, _, rfl, _, _, _, _, rfl, rfl, SqL.of g6.lst, atI_nat (refs_at hra), _, rfl, _, rfl, _, _, rfl, rfl, ra, _, _, n1 + o2 j, rfl, congrArg V.int eadd, g6.rows _ ra hra, ixN_nat (by rw [row_len]; omega), ?_⟩
        have g7 := g6.set (j := n1 + o2 j) (e := (th i j).map (0 - ·)) hra
        have e7 := e6.mut (fr ra (List.mem_of_getElem? hra)) (o := .lst ((row (n1 + n2) (M (o1 i))).set (n1 + o2 j) (enc ((th i j).map (0 - ·)))))
        refine ⟨_, rfl, _, rfl, _, _, _, _, rfl, rfl, e7.sqt hq6, atI_nat hw6, _, rfl, _, _, _, _, rfl, rfl, e7.sqt hd6, atI_nat (row_get hi), bk j i, rfl, _, rfl, _, rfl, _, rfl, _, _, rfl, rfl, _, _, _, _, rfl, congrArg V.int eadd, SqL.of g7.lst, atI_nat (refs_at hrb), _, rfl, rb, _, _, o1 i, rfl, rfl, g7.rows _ rb hrb, ixN_nat (by rw [row_len]; omega), ?_⟩
        exact ⟨_, _, _, rfl, e7.mut (fr rb (List.mem_of_getElem? hrb)), g7.set (j := o1 i) (e := (bk j i).map (0 - ·)) hrb, p5.put L1 L2 hi hj fun i' j' _ _ => by omega⟩
      · rintro σ' H5 ⟨M, x10, x11, rfl, e5, g5, p5⟩
        rw [row_len] at p5
        exact ⟨M, _, _, x10, x11, rfl, e5, g5, p5.weak fun i' j' _ _ => by omega⟩
    · rintro σ' H4 ⟨M, x8, x9, x10, x11, rfl, e4, g4, p4⟩
      rw [row_len] at p4
      refine ⟨_, rfl, r, rfl, ⟨_, SqL.of g4.lst⟩, lcS No (fun D i y H' => IsRow K H' y (n1 + n2) (M i)) walk_list (by simp; omega) no_lg (fun H' e => e.same.seq (SqL.of g4.lst)) YAt.same (fun D i y H H' _ e h => h.rl e) (fun D i y H H' _ _ e h => h.rl e) ?_ ?_⟩
      · rintro D4 i x H5 H5' Ky hi hD e5 hLg ⟨rfl, hx⟩ k1
        obtain ⟨c, hc, rfl⟩ := refs_get hx
        exact ⟨rfl, _, rfl, c, _, rfl, SqL.of (e5.same _ _ (g4.rows i c hc)), fun l hl => k1 _ _ (Same.new hl).rl ⟨l, rfl, SqT.of upd_same⟩⟩
      · intro D4 ys H5 hD5 e5 hd5 hl5 hp5
        exact ⟨D4, ys, rfl, SqL.of hd5, fun l hl => q M _ _ ((e4.trans e5.same).trans (Same.new hl)) ⟨l, ys, rfl, SqT.of upd_same, by rw [hl5, List.length_map]; exact la, fun i x hx => (hp5 i x hx).same (Same.new hl)⟩ (p4.fin fun i j hi _ => hi)⟩
theorem ok_linked_gains (T : Txt mg) (D : Dx K mg "linked_gains" s_linked_gains ["gains", "other", "there", "back"]) (c__look_at_links : Cal P w K mg base 4 "_look_at_links" (spLinks K) []) (c__side_by_side : Cal P w K mg base 1 "_side_by_side" (spSide K) []) (c__turned : Cal P w K mg base 1 "_turned" spTurned [])
    (c__best_of_two : Cal P w K mg base 1 "_best_of_two" spTwo []) (c__greatest_walks : Cal P w K mg base 1 "_greatest_walks" spWalks []) : Cal P w K mg base 5 "linked_gains" (spLinkedGains K) [] := by
  refine cal D sc_linked_gains (fun vs H Q E h => ?_) (fun f cdv A outer s H vs Q E hr h => ?_)
  · obtain ⟨k1, k2, r1, r2, th, bk, v1, v2, v3, v4, rfl, _⟩ := h
    rfl
  · obtain ⟨k1, k2, r1, r2, th, bk, v1, v2, v3, v4, rfl, hg1, hg2, hth, hbk, hk1, hk2, d1, d2, q⟩ := h
    have nd := sc_linked_gains.nd
    refine ⟨_, (pss_cons (ps_if (PW.pt (pw_or (pt_cmpR op_isN (pv 0) pe_non (nomark _)) (pw_or1 (pt_cmpR op_isN (pv 1) pe_non (nomark _))))) (pss_one (ps_ret pe_non)) pss_nil)
      (pss_cons (ps_expr (pe_c c__look_at_links hr (by decide) (by rfl) (pa_cons (pe_callB (lenK K) (by rfl) T.len boot_len (pa_cons (pv 0) pa_nil)) (pa_cons (pe_callB (lenK K) (by rfl) T.len boot_len (pa_cons (pv 1) pa_nil)) (pa_cons (pv 2) (pa_cons (pv 3) pa_nil))))))
      (pss_cons (ps_set (i := 4) nd rfl (Or.inl rfl) (pe_callB (lenK K) (by rfl) T.len boot_len (pa_cons (pv 0) pa_nil)))
      (pss_cons (ps_set (i := 5) nd rfl (Or.inr rfl) (pe_c c__side_by_side hr (by decide) (by rfl) (pa_cons (pv 0) (pa_cons (pv 1) pa_nil))))
      (pss_cons (ps_setLc (i := 6) (own := [("_", 10)]) (g := gName 10) (tt := tYes) rfl nd rfl rfl (sw_true rfl rfl rfl (by decide +kernel)) (piL K rfl (pv 5)) (blkOk_by (N := ["gains", "other", "there", "back", "many", "within", "across", "walks", "at", "row", "_", "place", "units"]) (sc := fnScope s_linked_gains) (by decide +kernel)) (fun _ _ _ _ _ => (pg_name (i := 10) nd rfl (Or.inl rfl))) (fun _ _ _ _ _ => pts_nil) (fun _ _ _ _ _ => (pe_op op_rep (pe_lst (pa_cons pe_non pa_nil)) (pe_callB (lenK K) (by rfl) T.len boot_len (pa_cons (pv 5) pa_nil)))))
      (pss_cons (ps_for PassesOwn.never rfl (piET K rfl (by rfl) T.enumerate (pa_cons (pv 2) pa_nil)) (pg_tup rfl (pgs_cons (pg_name (i := 8) nd rfl (Or.inl rfl)) (pgs_cons (pg_name (i := 9) nd rfl (Or.inl rfl)) pgs_nil)))
        (pss_one (ps_for PassesOwn.never rfl (piET K rfl (by rfl) T.enumerate (pa_cons (pv 9) pa_nil)) (pg_tup rfl (pgs_cons (pg_name (i := 11) nd rfl (Or.inl rfl)) (pgs_cons (pg_name (i := 12) nd rfl (Or.inl rfl)) pgs_nil)))
          (pss_cons (ps_asg (pe_c c__turned hr (by decide) (by rfl) (pa_cons (pv 12) pa_nil)) (pg_sub (pe_ix (ixL K) (pv 6) (pv 8) (fun _ _ => rfl)) (pe_op op_add (pv 4) (pv 11)) set_list))
          (pss_one (ps_asg (pe_c c__turned hr (by decide) (by rfl) (pa_cons (pe_ix (ixT K) (pe_ix (ixT K) (pv 3) (pv 11) (fun _ _ => rfl)) (pv 8) (fun _ _ => rfl)) pa_nil)) (pg_sub (pe_ix (ixL K) (pv 6) (pe_op op_add (pv 4) (pv 11)) (fun _ _ => rfl)) (pv 8) set_list)))))))
      (pss_cons (ps_set (i := 7) nd rfl (Or.inl rfl) (pe_c c__greatest_walks hr (by decide) (by rfl) (pa_cons (pe_c c__best_of_two hr (by decide) (by rfl) (pa_cons (pv 5) (pa_cons (pv 6) pa_nil))) pa_nil)))
      (pss_cons (ps_if (pt_cmpR op_isN (pv 7) pe_non (nomark _)) (pss_one (ps_ret pe_non)) pss_nil)
      (pss_one (ps_ret (pe_callTy (tupK K) (by rfl) T.tuple boot_tuple (pa_cons (pe_lc (own := [("row", 9)]) (g := gName 9) (tt := tYes) rfl nd (piL K rfl (pe_c c__best_of_two hr (by decide) (by rfl) (pa_cons (pv 7) (pa_cons (pv 5) pa_nil)))) (blkOk_by (N := ["gains", "other", "there", "back", "many", "within", "across", "walks", "at", "row", "_", "place", "units"]) (sc := fnScope s_linked_gains) (by decide +kernel)) (fun _ _ _ _ _ => (pg_name (i := 9) nd rfl (Or.inl rfl))) (fun _ _ _ _ _ => pts_nil) (fun _ _ _ _ _ => (pe_callTy (tupK K) (by rfl) T.tuple boot_tuple (pa_cons (pv 9) pa_nil)))) pa_nil)))))))))))), ?_⟩
    cases r1 with
    | none =>
      have e1 : v1 = .non := hg1
      subst e1
      exact ⟨_, rfl, rfl, _, rfl, iteDT rfl (iteT (q none _ _ (Same.refl H) rfl rfl))⟩
    | some G1 =>
      obtain ⟨a1, vs1, rfl, hq1, hl1, hr1⟩ := (show IsTab K H v1 k1 k1 G1 from hg1)
      refine ⟨_, rfl, rfl, _, rfl, iteDF (fun z => by cases z) ⟨_, rfl, rfl, _, rfl, ?_⟩⟩
      cases r2 with
      | none =>
        have e1 : v2 = .non := hg2
        subst e1
        exact iteDT rfl (q none _ _ (Same.refl H) rfl rfl)
      | some G2 =>
        obtain ⟨a2, vs2, rfl, hq2, hl2, hr2⟩ := (show IsTab K H v2 k2 k2 G2 from hg2)
        refine iteDF (fun z => by cases z) ?_
        refine ⟨_, rfl, _, _, rfl, .inr hq1, _, rfl, _, _, rfl, .inr hq2, ?_⟩
        rw [hl1, hl2]
        refine ⟨_, rfl, _, rfl, k1, k2, th, bk, v3, v4, rfl, hth, hbk, by omega, by omega, d1, d2, fun H2 e2 => ?_⟩
        refine ⟨_, rfl, _, _, rfl, .inr (e2.sqt hq1), ?_⟩
        rw [hl1]
        refine ⟨_, rfl, _, rfl, k1, k2, G1, G2, _, _, rfl, IsTab.same e2 hg1, IsTab.same e2 hg2, by omega, by omega, fun p as H3 e3 hp3 fr la g3 => ?_⟩
        have s3 := e2.trans e3
        have frw : ∀ a ∈ as, H a = none := fun a ha => e2.free (fr a ha)
        obtain ⟨c3, vs3, rfl, hq3, hl3, hr3⟩ := id hth
        obtain ⟨c4, vs4, rfl, hq4, hl4, hr4⟩ := id hbk
        have lA : (as.map V.ref).length = k1 + k2 := by rw [List.length_map]; exact la
        -- across
        refine ⟨_, rfl, p, rfl, ⟨_, SqL.of g3.lst⟩, lcG (k1 + k2) (fun _ _ => none) walk_list (by omega) (fun H' e => e.seq (SqL.of g3.lst)) YAt.same ?_ ?_⟩
        · rintro i x H' H4 Ky hi e ⟨rfl, hx⟩ k
          refine ⟨rfl, sz5 (by show 1 ≤ 100000; decide), fun l hl => ⟨_, rfl, _, _, rfl, .inl (SqL.of ((e.trans (Same.new hl)) _ _ g3.lst)), _, _, _, rfl, rfl, upd_same, by rw [lA]; omega, by rw [lA]; omega, ?_, fun l2 hl2 => ?_⟩⟩
          · rw [lA]
            exact sz5 (by simp; omega)
          · refine k l2 _ ((Same.new hl).trans (Same.new hl2)) ((Same.new hl).free hl2) ?_
            rw [upd_same, lA, Int.toNat_natCast, rep_none]
        · intro r cs H4 hr4' e4 frc lc g4
          rw [lA] at lc
          have s4 := s3.trans e4
          have frc' : ∀ a ∈ cs, H3 a = none := frc
          -- for at, row in enumerate(there)
          refine ⟨_, rfl, c3, _, rfl, s4.sqt hq3, for_it walk_enumT (fun i σ' H' => ∃ M x8 x9 x11 x12, σ' = [some (.ref a1), some (.ref a2), some (.ref c3), some (.ref c4), some (.int (k1 : Int)), some (.ref p), some (.ref r), none, x8, x9, none, x11, x12] ∧ Same H3 H' ∧ Grid H' r cs (k1 + k2) M ∧ LnkP k1 k2 (fun _ _ => none) (fun _ _ => none) k1 k2 id id th bk (fun i' _ => i' < i) M)
            ⟨_, none, none, none, none, rfl, e4, g4, ⟨fun _ _ _ _ => rfl, fun _ _ _ _ => rfl, fun i j _ _ h => absurd h (Nat.not_lt_zero _), fun i j _ _ h => absurd h (Nat.not_lt_zero _), fun _ _ _ _ _ => ⟨rfl, rfl⟩⟩⟩ (fun i σ' H' _ ⟨_, _, _, _, _, _, e, _⟩ => (s3.trans e).sqt hq3) ?_ ?_⟩
          · rintro i x σ' H5 H5' hi ⟨M, x8, x9, x11, x12, rfl, e5, g5, p5⟩ ⟨Tu, y1, y2, rfl, hTu, rfl, ey, hy2⟩
            cases ey
            have hi : i < k1 := by omega
            obtain ⟨d3, rfl, hd3⟩ := hr3 i y2 hy2
            refine ⟨_, _, rfl, SqT.of upd_same, rfl, _, _, rfl, _, _, rfl, rfl, ?_⟩
            -- for place, units in enumerate(row)
            refine ⟨_, rfl, d3, _, rfl, (s3.trans (e5.trans (Same.new hTu))).sqt hd3, for_it walk_enumT (fun j σ' H' => ∃ M x11 x12, σ' = [some (.ref a1), some (.ref a2), some (.ref c3), some (.ref c4), some (.int (k1 : Int)), some (.ref p), some (.ref r), none, some (.int (i : Nat)), some (.ref d3), none, x11, x12] ∧ Same H3 H' ∧ Grid H' r cs (k1 + k2) M ∧ LnkP k1 k2 (fun _ _ => none) (fun _ _ => none) k1 k2 id id th bk (fun i' j' => i' < i ∨ (i' = i ∧ j' < j)) M)
              ⟨M, x11, x12, rfl, e5.trans (Same.new hTu), g5.same (Same.new hTu), p5.weak fun i j _ _ => by omega⟩ (fun i σ' H' _ ⟨_, _, _, _, e, _⟩ => (s3.trans e).sqt hd3) ?_ ?_⟩
            · rintro j x σ' H6 H6' hj ⟨M, x11, x12, rfl, e6, g6, p6⟩ ⟨Tv, z1, z2, rfl, hTv, rfl, ez, hz2⟩
              cases ez
              obtain ⟨hj, rfl⟩ := row_is hz2
              have e7 := e6.trans (Same.new hTv (o := .tup [.int (j : Nat), enc (th i j)]))
              have g7 := g6.same (Same.new hTv (o := .tup [.int (j : Nat), enc (th i j)]))
              obtain ⟨w4, d4, hw4, rfl, hd4⟩ := IsTab.row hr4 hl4 hj
              obtain ⟨ra, hra⟩ := has (as := cs) (i := i) (by omega)
              obtain ⟨rb, hrb⟩ := has (as := cs) (i := k1 + j) (by omega)
              have eadd : ((k1 : Int) + ((j : Nat) : Int)) = ((k1 + j : Nat) : Int) := by omega
              refine ⟨_, _, rfl, SqT.of upd_same, rfl, _, _, rfl, _, _, rfl, rfl, ?_⟩
              refine ⟨_, rfl, th i j, rfl, _, rfl, _, rfl, _, _, _, _, rfl, rfl, SqL.of g7.lst, atI_nat (refs_at hra), _, rfl, _, rfl, _, _, rfl, rfl, ra, _, _, k1 + j, rfl, congrArg V.int eadd, g7.rows _ ra hra, ixN_nat (by rw [row_len]; omega), ?_⟩
              have g8 := g7.set (j := k1 + j) (e := (th i j).map (0 - ·)) hra
              have e8 := e7.mut (frc' ra (List.mem_of_getElem? hra)) (o := .lst ((row (k1 + k2) (M i)).set (k1 + j) (enc ((th i j).map (0 - ·)))))
              refine ⟨_, rfl, _, rfl, _, _, _, _, rfl, rfl, (s3.trans e8).sqt hq4, atI_nat hw4, _, rfl, _, _, _, _, rfl, rfl, (s3.trans e8).sqt hd4, atI_nat (row_get hi), bk j i, rfl, _, rfl, _, rfl, _, rfl, _, _, rfl, rfl, _, _, _, _, rfl, congrArg V.int eadd, SqL.of g8.lst, atI_nat (refs_at hrb), _, rfl, rb, _, _, i, rfl, rfl, g8.rows _ rb hrb, ixN_nat (by rw [row_len]; omega), ?_⟩
              exact ⟨_, _, _, rfl, e8.mut (frc' rb (List.mem_of_getElem? hrb)), g8.set (j := i) (e := (bk j i).map (0 - ·)) hrb, p6.put lot_id lot_id hi hj fun i' j' _ _ => by omega⟩
            · rintro σ' H6 ⟨M, x11, x12, rfl, e6, g6, p6⟩
              rw [row_len] at p6
              exact ⟨M, _, _, x11, x12, rfl, e6, g6, p6.weak fun i' j' _ _ => by omega⟩
          · rintro σ' H5 ⟨M, x8, x9, x11, x12, rfl, e5, g5, p5⟩
            rw [hl3] at p5
            have LM := p5.fin fun i j hi _ => hi
            have gW := g3.same e5
            have s5 := s3.trans e5
            refine ⟨_, rfl, _, rfl, k1 + k2, blk k1 G1 G2, M, p, r, as, cs, rfl, gW, g5, la, lc, by omega, fun C q1 es H6 e6 hq6 fr6 le g6 two => ?_⟩
            have two' : OfTwo (k1 + k2) (blk k1 G1 G2) (acr k1 th bk) C := two.congr fun x y hx hy => LM.uniq acr_lnk hx hy
            refine ⟨k1 + k2, C, q1, es, rfl, g6, le, by omega, by omega, fun H7 o7 bad => ?_, fun B H7 o7 gB kept best => ?_⟩
            · have s7 : Same H H7 := (s5.trans e6) |> fun z => o7.same z fun a ha => s5.free (fr6 a ha)
              exact ⟨_, rfl, rfl, _, rfl, iteDT rfl (q none _ H7 s7 rfl ⟨C, two', bad⟩)⟩
            · have s57 : Same H5 H7 := o7.same e6 fr6
              have s7 : Same H H7 := s5.trans s57
              refine ⟨_, rfl, rfl, _, rfl, iteDF (fun z => by cases z) ?_⟩
              refine ⟨_, rfl, _, rfl, k1 + k2, B, blk k1 G1 G2, q1, p, es, as, rfl, gB, gW.same s57, le, la, by omega, fun R q2 fs H8 e8 hq8 fr8 lf g8 twoR => ?_⟩
              have s8 := s7.trans e8
              refine ⟨q2, rfl, ⟨_, SqL.of g8.lst⟩, lcS No (fun D i y H' => IsRow K H' y (k1 + k2) (R i)) walk_list (by simp; omega) no_lg (fun H' e => e.same.seq (SqL.of g8.lst)) YAt.same (fun D i y H H' _ e h => h.rl e) (fun D i y H H' _ _ e h => h.rl e) ?_ ?_⟩
              · rintro D4 i x H9 H9' Ky hi hD e9 hLg ⟨rfl, hx⟩ kk
                obtain ⟨c, hc, rfl⟩ := refs_get hx
                exact ⟨rfl, _, rfl, c, _, rfl, SqL.of (e9.same _ _ (g8.rows i c hc)), fun l hl => kk _ _ (Same.new hl).rl ⟨l, rfl, SqT.of upd_same⟩⟩
              · intro D4 ys H9 hD9 e9 hd9 hl9 hp9
                exact ⟨D4, ys, rfl, SqL.of hd9, fun l hl => q (some R) _ _ ((s8.trans e9.same).trans (Same.new hl)) ⟨l, ys, rfl, SqT.of upd_same, by rw [hl9, List.length_map]; exact lf, fun i x hx => (hp9 i x hx).same (Same.new hl)⟩ ⟨C, two', kept, B, fun i j hi hj => best i j hi hj, twoR⟩⟩
end
end K60

namespace K60
open PySem L2
open C8 (Cal Def Met Mak cal0 met0 mak0 pe_c pe_mk pe_mt pe_mt0 pe_gc InsC call_isC fnScope fnBody fnArgs clsBody fnScope_by)

/-! ### the class -/
structure PTxt (K : PySem.W.Frag) (mg : Str → Option Value) (C : Addr) : Prop where
  cl : Cls K C
  nG : NoAttr K C "_gains"
  nT : NoAttr K C "_table"
  nW : NoAttr K C "_waits"
  nO : NoAttr K C "_outer"
  insP : InsC K C
  mgPart : ∃ u, mg "Part" = some u ∧ RelV (.ref C) u
/-- a valid part -/
structure VP (n k : Nat) (t : Mx) (w : Nat → Int) (o : Nat → Nat) : Prop where
  n0 : 0 < n
  n5 : n ≤ 500
  t0 : ∀ x, x < n → t x x = some 0
  w0 : ∀ x, x < n → 0 ≤ w x
  lot : Lot n k o
  k0 : 0 < k
  k5 : k ≤ 500
def PartAt (K : PySem.W.Frag) (C : Addr) (H : Hp) (p : Addr) (n k : Nat) (t : Mx) (w : Nat → Int) (o : Nat → Nat) (r : Option Mx) : Prop := ∃ (dx : Addr) (fs : List (Str × V)) (gv tv : V) (wa oa : Addr),
  H p = some (.ins C dx fs) ∧ (fs.lookup ("_gains" : Str) = some gv ∧ fs.lookup ("_table" : Str) = some tv ∧ fs.lookup ("_waits" : Str) = some (.ref wa) ∧ fs.lookup ("_outer" : Str) = some (.ref oa)) ∧ (fs.lookup ("linked" : Str) = none ∧ fs.lookup ("gains" : Str) = none ∧ fs.lookup ("kept" : Str) = none) ∧
  IsOG K H gv k r ∧ IsTab K H tv n n t ∧ SqT K H wa (row n (whole w)) ∧ SqT K H oa (row k (wholeN o))
theorem PartAt.same {K : PySem.W.Frag} {C : Addr} {H H' : Hp} {p : Addr} {n k : Nat} {t : Mx} {w : Nat → Int} {o : Nat → Nat} {r : Option Mx} (h : PartAt K C H p n k t w o r) (e : Same H H') : PartAt K C H' p n k t w o r := by
  obtain ⟨dx, fs, gv, tv, wa, oa, h1, h2, h3, h4, h5, h6, h7⟩ := h
  exact ⟨dx, fs, gv, tv, wa, oa, e _ _ h1, h2, h3, h4.same e, h5.same e, e.sqt h6, e.sqt h7⟩
section
variable {K : PySem.W.Frag} {H H' : Hp} {v : V} {n m k : Nat} {f : Nat → Option Int} {M : Mx} (hm : ∀ a xs, SqT K H a xs → SqT K H' a xs)
include hm
theorem IsRow.map (h : IsRow K H v n f) : IsRow K H' v n f := let ⟨a, q, r⟩ := h; ⟨a, q, hm _ _ r⟩
theorem IsTab.map (h : IsTab K H v n m M) : IsTab K H' v n m M := let ⟨a, vs, q, r, l, h⟩ := h; ⟨a, vs, q, hm _ _ r, l, fun i x hx => IsRow.map hm (h i x hx)⟩
theorem IsOG.map {r : Option Mx} (h : IsOG K H v k r) : IsOG K H' v k r := by
  cases r with
  | none => exact h
  | some G => exact IsTab.map hm h
end
def pfs (gv tv wv ov : V) : List (Str × V) := putF "_outer" ov (putF "_waits" wv (putF "_table" tv (putF "_gains" gv [])))
theorem putF_len (f : Str) (v : V) : ∀ fs : List (Str × V), (putF f v fs).length ≤ fs.length + 1
  | [] => Nat.le_refl _
  | (g, x) :: r => by
    unfold putF
    split
    · exact Nat.le_succ _
    · exact Nat.succ_le_succ (putF_len f v r)
theorem pfs_get (gv tv wv ov : V) : (pfs gv tv wv ov).lookup ("_gains" : Str) = some gv ∧ (pfs gv tv wv ov).lookup ("_table" : Str) = some tv ∧ (pfs gv tv wv ov).lookup ("_waits" : Str) = some wv ∧ (pfs gv tv wv ov).lookup ("_outer" : Str) = some ov := by
  unfold pfs
  refine ⟨?_, ?_, ?_, ?_⟩
  · rw [lookup_putF, if_neg (by decide +kernel), lookup_putF, if_neg (by decide +kernel), lookup_putF, if_neg (by decide +kernel), lookup_putF, if_pos rfl]
  · rw [lookup_putF, if_neg (by decide +kernel), lookup_putF, if_neg (by decide +kernel), lookup_putF, if_pos rfl]
  · rw [lookup_putF, if_neg (by decide +kernel), lookup_putF, if_pos rfl]
  · rw [lookup_putF, if_pos rfl]
theorem pfs_no (gv tv wv ov : V) {m : Str} (h1 : ¬ m = "_outer") (h2 : ¬ m = "_waits") (h3 : ¬ m = "_table") (h4 : ¬ m = "_gains") : (pfs gv tv wv ov).lookup m = none := by
  unfold pfs
  rw [lookup_putF, if_neg h1, lookup_putF, if_neg h2, lookup_putF, if_neg h3, lookup_putF, if_neg h4]
  rfl
def spInit (K : PySem.W.Frag) (C : Addr) : Sp := fun vs H Q _ => ∃ (p dx : Addr) (n k : Nat) (t : Mx) (w : Nat → Int) (o : Nat → Nat) (v : V) (wa oa : Addr), vs = [.ref p, v, .ref wa, .ref oa] ∧ H p = some (.ins C dx []) ∧
  IsTab K H v n n t ∧ SqT K H wa (row n (whole w)) ∧ SqT K H oa (row k (wholeN o)) ∧ VP n k t w o ∧
  ∀ (r : Option Mx) (H' : Hp), (∀ b u, b ≠ p → H b = some u → H' b = some u) → PartAt K C H' p n k t w o r → GainsRes n t w k o r → Q .non H'
def spPKept (K : PySem.W.Frag) (C : Addr) : Sp := fun vs H Q _ => ∃ (p : Addr) (n k : Nat) (t : Mx) (w : Nat → Int) (o : Nat → Nat) (r : Option Mx), vs = [.ref p] ∧ PartAt K C H p n k t w o r ∧ Q (.bl r.isSome) H
def spPGains (K : PySem.W.Frag) (C : Addr) : Sp := fun vs H Q _ => ∃ (p : Addr) (n k : Nat) (t : Mx) (w : Nat → Int) (o : Nat → Nat) (r : Option Mx), vs = [.ref p] ∧ PartAt K C H p n k t w o r ∧ ∀ v, IsOG K H v k r → Q v H
def spPLinked (K : PySem.W.Frag) (C : Addr) : Sp := fun vs H Q _ => ∃ (p q : Addr) (n1 n2 k1 k2 : Nat) (t1 t2 th bk : Mx) (w1 w2 : Nat → Int) (o1 o2 : Nat → Nat) (r1 r2 : Option Mx) (v5 v6 : V), vs = [.ref p, .ref q, v5, v6] ∧
  PartAt K C H p n1 k1 t1 w1 o1 r1 ∧ PartAt K C H q n2 k2 t2 w2 o2 r2 ∧ VP n1 k1 t1 w1 o1 ∧ VP n2 k2 t2 w2 o2 ∧ n1 + n2 ≤ 500 ∧ k1 + k2 ≤ 500 ∧ IsTab K H v5 k1 k2 th ∧ IsTab K H v6 k2 k1 bk ∧ NonNeg k1 k2 th ∧ NonNeg k2 k1 bk ∧
  ∀ (x : Addr) (T : Mx) (r : Option Mx) (H' : Hp), Same H H' → Lnk n1 n2 t1 t2 k1 k2 o1 o2 th bk T → PartAt K C H' x (n1 + n2) (k1 + k2) T (join n1 w1 w2) (joinO n1 k1 o1 o2) r → GainsRes (n1 + n2) T (join n1 w1 w2) (k1 + k2) (joinO n1 k1 o1 o2) r → Q (.ref x) H'
/-- a method, an __init__, with their parameters -/
def Dm (K : PySem.W.Frag) (C : Addr) (m qual : Str) (st : Stmt) (ps : List Str) : Prop := ∃ f fd, Meth K C m f ∧ C8.Fun K m qual st f fd ∧ Binds K fd ps []
def Dk (K : PySem.W.Frag) (C : Addr) (qual : Str) (st : Stmt) (ps : List Str) : Prop := ∃ f fd, Mk K C f ∧ C8.Fun K "__init__" qual st f fd ∧ Binds K fd ps []

/-! ### whole valid parts -/
section
variable {n1 n2 k1 k2 : Nat} {t1 t2 th bk T : Mx} {w1 w2 : Nat → Int} {o1 o2 : Nat → Nat}
theorem Lot.join (L1 : Lot n1 k1 o1) (L2 : Lot n2 k2 o2) : Lot (n1 + n2) (k1 + k2) (joinO n1 k1 o1 o2) where
  lt := fun i hi => by
    unfold joinO
    by_cases h : i < k1
    · rw [if_pos h]; have := L1.lt i h; omega
    · rw [if_neg h]; have := L2.lt (i - k1) (by omega); omega
  up := fun i j hij hj => by
    unfold joinO
    by_cases h : i < k1
    · by_cases h' : j < k1
      · rw [if_pos h, if_pos h']; exact L1.up i j hij h'
      · rw [if_pos h, if_neg h']; have := L1.lt i h; omega
    · rw [if_neg h, if_neg (show ¬ j < k1 by omega)]
      have := L2.up (i - k1) (j - k1) (by omega) (by omega)
      omega
theorem VP.join (p1 : VP n1 k1 t1 w1 o1) (p2 : VP n2 k2 t2 w2 o2) (hn : n1 + n2 ≤ 500) (hk : k1 + k2 ≤ 500) (L : Lnk n1 n2 t1 t2 k1 k2 o1 o2 th bk T) : VP (n1 + n2) (k1 + k2) T (join n1 w1 w2) (joinO n1 k1 o1 o2) where
  n0 := by have := p1.n0; omega
  n5 := hn
  t0 := fun x hx => by
    by_cases h : x < n1
    · rw [L.in1 x x h h]; exact p1.t0 x h
    · have := L.in2 (x - n1) (x - n1) (by omega) (by omega)
      rw [show n1 + (x - n1) = x by omega] at this
      rw [this]
      exact p2.t0 _ (by omega)
  w0 := fun x hx => by
    unfold K60.join
    by_cases h : x < n1
    · rw [if_pos h]; exact p1.w0 x h
    · rw [if_neg h]; exact p2.w0 _ (by omega)
  lot := p1.lot.join p2.lot
  k0 := by have := p1.k0; omega
  k5 := hk
theorem row_joinW : row n1 (whole w1) ++ row n2 (whole w2) = row (n1 + n2) (whole (join n1 w1 w2)) := by
  rw [row_app]
  congr 1
  · exact row_congr fun j hj => by show some (w1 j) = some (join n1 w1 w2 j); unfold join; rw [if_pos hj]
  · exact row_congr fun j hj => by show some (w2 j) = some (join n1 w1 w2 (n1 + j)); unfold join; rw [if_neg (by omega), Nat.add_sub_cancel_left]
theorem row_joinO : row k1 (wholeN o1) ++ row k2 (wholeN fun j => n1 + o2 j) = row (k1 + k2) (wholeN (joinO n1 k1 o1 o2)) := by
  rw [row_app]
  congr 1
  · exact row_congr fun j hj => by show some ((o1 j : Nat) : Int) = some ((joinO n1 k1 o1 o2 j : Nat) : Int); unfold joinO; rw [if_pos hj]
  · exact row_congr fun j hj => by show some ((n1 + o2 j : Nat) : Int) = some ((joinO n1 k1 o1 o2 (k1 + j) : Nat) : Int); unfold joinO; rw [if_neg (by omega), Nat.add_sub_cancel_left]
end

/- Part.__init__: slots 0 self 1 table 2 waits 3 outer; cells [] -/
abbrev s_Part_init : Stmt := clsM (top 37) 0
theorem sc_Part_init : FnScope ["self", "table", "waits", "outer"] ["self", "table", "waits", "outer"] (fnScope s_Part_init) := fnScope_by (by decide +kernel)
/- Part.kept: slots 0 self; cells [] -/
abbrev s_Part_kept : Stmt := clsM (top 37) 1
theorem sc_Part_kept : FnScope ["self"] ["self"] (fnScope s_Part_kept) := fnScope_by (by decide +kernel)
/- Part.gains: slots 0 self; cells [] -/
abbrev s_Part_gains : Stmt := clsM (top 37) 2
theorem sc_Part_gains : FnScope ["self"] ["self"] (fnScope s_Part_gains) := fnScope_by (by decide +kernel)
/- Part.linked: slots 0 self 1 other 2 there 3 back 4 table 5 many 6 outer 7 door; cells ['many'] -/
abbrev s_Part_linked : Stmt := clsM (top 37) 3
theorem sc_Part_linked : FnScope ["self", "other", "there", "back", "table", "many", "outer", "door"] ["self", "other", "there", "back"] (fnScope s_Part_linked) := fnScope_by (by decide +kernel)
section
variable {P : Program} {w : World} {K : PySem.W.Frag} {mg : Str → Option Value} {base : Heap} {C : Addr}
theorem ok_Part (T : Txt mg) (TP : PTxt K mg C) (D : Dk K C "Part.__init__" s_Part_init ["self", "table", "waits", "outer"]) (c_is_table : Cal P w K mg base 3 "is_table" (spTable K) []) (c_gains_of : Cal P w K mg base 4 "gains_of" (spGainsOf K) []) :
    Mak P w K mg base 5 "Part" C (spInit K C) [] := by
  obtain ⟨f, fd, me, F, b⟩ := D
  obtain ⟨u, hm, hu⟩ := TP.mgPart
  cases hu
  refine mak0 me hm F b .nil sc_Part_init (fun vs H Q E h => ?_) (fun cdv A outer s H vs Q E hr h => ?_)
  · obtain ⟨p, dx, n, k, t, wt, o, v, wa, oa, rfl, _⟩ := h
    rfl
  · obtain ⟨p, dx, n, k, t, wt, o, v, wa, oa, rfl, hp, hT, hW, hO, vp, q⟩ := h
    have nd := sc_Part_init.nd
    refine ⟨_, (pss_cons (ps_if (pt_not (pt_val (pe_c c_is_table hr (by decide) (by rfl) (pa_cons (pv 1) pa_nil)))) (pss_one ps_never) pss_nil)
      (pss_cons (ps_fld (pv 0) (pe_c c_gains_of hr (by decide) (by rfl) (pa_cons (pv 1) (pa_cons (pv 2) (pa_cons (pv 3) pa_nil)))) rfl)
      (pss_cons (ps_fld (pv 0) (pv 1) rfl)
      (pss_cons (ps_fld (pv 0) (pv 2) rfl)
      (pss_one (ps_fld (pv 0) (pv 3) rfl)))))), ?_⟩
    have pn := vp.n5
    refine ⟨_, rfl, n, t, v, rfl, hT, vp.n0, by omega, vp.t0, fun H1 e1 => ⟨_, rfl, iteF ?_⟩⟩
    refine ⟨_, rfl, _, rfl, _, rfl, n, k, t, wt, o, v, wa, oa, rfl, hT.same e1, e1.sqt hW, e1.sqt hO, vp.n0, by omega, vp.w0, vp.lot, vp.k0, by have := vp.k5; omega, fun r gv H2 e2 hg gr => ?_⟩
    have s2 := e1.trans e2
    have hp2 := s2 _ _ hp
    refine ⟨_, rfl, p, C, dx, [], rfl, hp2, TP.cl, TP.nG, by show 0 < 1000; decide, ?_⟩
    refine ⟨_, rfl, _, rfl, p, C, dx, _, rfl, upd_same, TP.cl, TP.nT, Nat.lt_of_le_of_lt (putF_len _ _ _) (by show 1 < 1000; decide), ?_⟩
    refine ⟨_, rfl, _, rfl, p, C, dx, _, rfl, upd_same, TP.cl, TP.nW, Nat.lt_of_le_of_lt (Nat.le_trans (putF_len _ _ _) (Nat.succ_le_succ (putF_len _ _ _))) (by show 2 < 1000; decide), ?_⟩
    refine ⟨_, rfl, _, rfl, p, C, dx, _, rfl, upd_same, TP.cl, TP.nO, Nat.lt_of_le_of_lt (Nat.le_trans (putF_len _ _ _) (Nat.succ_le_succ (Nat.le_trans (putF_len _ _ _) (Nat.succ_le_succ (putF_len _ _ _))))) (by show 3 < 1000; decide), ?_⟩
    rw [upd_upd, upd_upd, upd_upd]
    have keep : ∀ b u, b ≠ p → H2 b = some u → upd H2 p (.ins C dx (pfs gv v (.ref wa) (.ref oa))) b = some u := fun b u nb e => by rw [upd_ne nb]; exact e
    have np : ∀ {a : Addr} {xs : List V}, SqT K H2 a xs → SqT K (upd H2 p (.ins C dx (pfs gv v (.ref wa) (.ref oa)))) a xs := fun {a xs} h => by
      rcases h with (h | ⟨ob, h⟩) | h
      · exact .inl (.inl (keep _ _ (ne_of h hp2 (by intro z; cases z)) h))
      · exact .inl (.inr ⟨ob, keep _ _ (ne_of h hp2 (by intro z; cases z)) h⟩)
      · exact .inr h
    refine q r _ (fun b u nb e => keep b u nb (s2 b u e)) ⟨dx, _, gv, v, wa, oa, upd_same, pfs_get _ _ _ _, ⟨pfs_no _ _ _ _ (by decide +kernel) (by decide +kernel) (by decide +kernel) (by decide +kernel), pfs_no _ _ _ _ (by decide +kernel) (by decide +kernel) (by decide +kernel) (by decide +kernel), pfs_no _ _ _ _ (by decide +kernel) (by decide +kernel) (by decide +kernel) (by decide +kernel)⟩, IsOG.map (fun a xs z => np z) hg, IsTab.map (fun a xs z => np z) (hT.same s2), np (s2.sqt hW), np (s2.sqt hO)⟩ gr
theorem ok_Part_kept (T : Txt mg) (TP : PTxt K mg C) (D : Dm K C "kept" "Part.kept" s_Part_kept ["self"]) : Met P w K mg base 1 C "kept" (spPKept K C) [] := by
  obtain ⟨f, fd, me, F, b⟩ := D
  refine met0 TP.cl me F b sc_Part_kept (fun vs H Q E h => ?_) (fun cdv A outer s H vs Q E hr h => ?_)
  · obtain ⟨p, n, k, t, wt, o, r, rfl, _⟩ := h
    rfl
  · obtain ⟨p, n, k, t, wt, o, r, rfl, ⟨dx, fs, gv, tv, wa, oa, hp, ⟨g1, g2, g3, g4⟩, _, hg, _⟩, q⟩ := h
    have nd := sc_Part_kept.nd
    refine ⟨_, (pss_one (ps_ret (pe_cmpR op_notN (pe_fld (pv 0) rfl) pe_non (nomark _)))), ?_⟩
    refine ⟨_, rfl, p, C, dx, fs, gv, rfl, hp, TP.cl, TP.nG, g1, rfl, ?_⟩
    cases r with
    | none =>
      have e : gv = .non := hg
      rw [e]
      exact q
    | some G =>
      obtain ⟨a, vs, e, _⟩ := (show IsTab K H gv k k G from hg)
      rw [e]
      exact q
theorem ok_Part_gains (T : Txt mg) (TP : PTxt K mg C) (D : Dm K C "gains" "Part.gains" s_Part_gains ["self"]) : Met P w K mg base 1 C "gains" (spPGains K C) [] := by
  obtain ⟨f, fd, me, F, b⟩ := D
  refine met0 TP.cl me F b sc_Part_gains (fun vs H Q E h => ?_) (fun cdv A outer s H vs Q E hr h => ?_)
  · obtain ⟨p, n, k, t, wt, o, r, rfl, _⟩ := h
    rfl
  · obtain ⟨p, n, k, t, wt, o, r, rfl, ⟨dx, fs, gv, tv, wa, oa, hp, ⟨g1, g2, g3, g4⟩, _, hg, _⟩, q⟩ := h
    have nd := sc_Part_gains.nd
    refine ⟨_, (pss_one (ps_ret (pe_fld (pv 0) rfl))), ?_⟩
    exact ⟨_, rfl, p, C, dx, fs, gv, rfl, hp, TP.cl, TP.nG, g1, q gv hg⟩
theorem ok_Part_linked (T : Txt mg) (TP : PTxt K mg C) (D : Dm K C "linked" "Part.linked" s_Part_linked ["self", "other", "there", "back"]) (c_linked_tables : Cal P w K mg base 5 "linked_tables" (spLinkedTables K) []) (c_Part : Mak P w K mg base 5 "Part" C (spInit K C) []) : Met P w K mg base 7 C "linked" (spPLinked K C) [] := by
  obtain ⟨f, fd, me, F, b⟩ := D
  refine met0 TP.cl me F b sc_Part_linked (fun vs H Q E h => ?_) (fun cdv A outer s H vs Q E hr h => ?_)
  · obtain ⟨p, q, n1, n2, k1, k2, t1, t2, th, bk, w1, w2, o1, o2, r1, r2, v5, v6, rfl, _⟩ := h
    rfl
  · obtain ⟨p, qa, n1, n2, k1, k2, t1, t2, th, bk, w1, w2, o1, o2, r1, r2, v5, v6, rfl, hp1, hp2, vp1, vp2, hn, hk, hth, hbk, d1, d2, q⟩ := h
    have nd := sc_Part_linked.nd
    refine ⟨_, (pss_cons (ps_if (pt_not (pt_val (pe_callB (call_isC TP.insP) (by rfl) T.isinstance boot_isinstance (pa_cons (pv 1) (pa_cons (pe_gc (by rfl) TP.mgPart) pa_nil))))) (pss_one ps_never) pss_nil)
      (pss_cons (ps_set (i := 4) nd rfl (Or.inl rfl) (pe_c c_linked_tables hr (by decide) (by rfl) (pa_cons (pe_fld (pv 0) rfl) (pa_cons (pe_fld (pv 1) rfl) (pa_cons (pe_fld (pv 0) rfl) (pa_cons (pe_fld (pv 1) rfl) (pa_cons (pv 2) (pa_cons (pv 3) pa_nil))))))))
      (pss_cons (ps_set (i := 5) nd rfl (Or.inr rfl) (pe_callB (lenK K) (by rfl) T.len boot_len (pa_cons (pe_fld (pv 0) rfl) pa_nil)))
      (pss_cons (ps_set (i := 6) nd rfl (Or.inl rfl) (pe_op (catAK K) (pe_fld (pv 0) rfl) (pe_callTy (tupK K) (by rfl) T.tuple boot_tuple (pa_cons (pe_lc (own := [("door", 7)]) (g := gName 7) (tt := tYes) rfl nd (piT K rfl (pe_fld (pv 1) rfl)) (blkOk_by (N := ["self", "other", "there", "back", "table", "many", "outer", "door"]) (sc := fnScope s_Part_linked) (by decide +kernel)) (fun _ _ _ _ _ => (pg_name (i := 7) nd rfl (Or.inl rfl))) (fun _ _ _ _ _ => pts_nil) (fun _ _ _ _ _ => (pe_op op_add (pv 5) (pv 7)))) pa_nil))))
      (pss_one (ps_ret (pe_mk c_Part hr (by decide) (by rfl) (pa_cons (pv 4) (pa_cons (pe_op (catAK K) (pe_fld (pv 0) rfl) (pe_fld (pv 1) rfl)) (pa_cons (pv 6) pa_nil)))))))))), ?_⟩
    obtain ⟨dx1, fs1, gv1, tv1, wa1, oa1, h1, ⟨_, ft1, fw1, fo1⟩, _, _, hT1, hW1, hO1⟩ := id hp1
    obtain ⟨dx2, fs2, gv2, tv2, wa2, oa2, h2, ⟨_, ft2, fw2, fo2⟩, _, _, hT2, hW2, hO2⟩ := id hp2
    have n1p := vp1.n0
    have n2p := vp2.n0
    have k1p := vp1.k0
    have k2p := vp2.k0
    refine ⟨_, rfl, qa, dx2, fs2, rfl, h2, _, rfl, iteF ?_⟩
    refine ⟨_, rfl, p, C, dx1, fs1, tv1, rfl, h1, TP.cl, TP.nT, ft1, _, rfl, qa, C, dx2, fs2, tv2, rfl, h2, TP.cl, TP.nT, ft2, _, rfl, p, C, dx1, fs1, _, rfl, h1, TP.cl, TP.nO, fo1, _, rfl, qa, C, dx2, fs2, _, rfl, h2, TP.cl, TP.nO, fo2, _, rfl, _, rfl, ?_⟩
    refine ⟨n1, n2, k1, k2, t1, t2, th, bk, o1, o2, tv1, tv2, v5, v6, oa1, oa2, rfl, hT1, hT2, hO1, hO2, hth, hbk, by omega, by omega, vp2.t0, vp1.lot, vp2.lot, by omega, by omega, d1, d2, fun M v H1 e1 hM L => ?_⟩
    obtain ⟨a1, vs1, rfl, hq1, hl1, hr1⟩ := id hT1
    refine ⟨_, rfl, p, C, dx1, fs1, _, rfl, e1 _ _ h1, TP.cl, TP.nT, ft1, _, _, rfl, .inr (e1.sqt hq1), ?_⟩
    rw [hl1]
    refine ⟨_, rfl, p, C, dx1, fs1, _, rfl, e1 _ _ h1, TP.cl, TP.nO, fo1, _, rfl, qa, C, dx2, fs2, _, rfl, e1 _ _ h2, TP.cl, TP.nO, fo2, oa2, rfl, ⟨_, e1.sqt hO2⟩, lcRow No (wholeN fun j => n1 + o2 j) walk_tup (by rw [row_len]; omega) no_lg (fun H' e => e.sqt (e1.sqt hO2)) YAt.same ?_ ?_⟩
    · rintro j x H2 H2' Ky hj e ⟨rfl, hx⟩ k
      obtain ⟨hj, rfl⟩ := row_isN hx
      have eadd : ((n1 : Int) + ((o2 j : Nat) : Int)) = ((n1 + o2 j : Nat) : Int) := by omega
      refine ⟨rfl, _, rfl, _, rfl, _, _, rfl, rfl, ?_⟩
      have := k _ (.refl no_lg)
      show Ky (V.int ((n1 : Int) + ((o2 j : Nat) : Int))) _
      rw [eadd]
      exact this
    · intro D2 H2 hD2 e2 hd2
      rw [row_len] at hd2
      have s2 := e1.trans e2.same
      refine ⟨D2, _, rfl, SqL.of hd2, fun l hl => ⟨_, l, _, _, rfl, rfl, (s2.trans (Same.new hl)).sqt hO1, SqT.of upd_same, by rw [row_len, row_len]; exact sz5 (by omega), fun z => absurd z (row_ne k1p), fun _ z => absurd z (row_ne k2p), fun _ _ l2 hl2 => ?_⟩⟩
      rw [row_joinO]
      have s3 := (s2.trans (Same.new hl)).trans (Same.new hl2 (o := .tup (row (k1 + k2) (wholeN (joinO n1 k1 o1 o2)))))
      refine ⟨_, rfl, _, rfl, p, C, dx1, fs1, _, rfl, s3 _ _ h1, TP.cl, TP.nW, fw1, _, rfl, qa, C, dx2, fs2, _, rfl, s3 _ _ h2, TP.cl, TP.nW, fw2, _, _, _, _, rfl, rfl, s3.sqt hW1, s3.sqt hW2, by rw [row_len, row_len]; exact sz5 (by omega), fun z => absurd z (row_ne n1p), fun _ z => absurd z (row_ne n2p), fun _ _ l3 hl3 => ?_⟩
      rw [row_joinW]
      have s4 := s3.trans (Same.new hl3 (o := .tup (row (n1 + n2) (whole (join n1 w1 w2)))))
      have ho : upd (upd (upd H2 l (.tup (row k2 (wholeN fun j => n1 + o2 j)))) l2 (.tup (row (k1 + k2) (wholeN (joinO n1 k1 o1 o2))))) l3 (.tup (row (n1 + n2) (whole (join n1 w1 w2)))) l2 = some (.tup (row (k1 + k2) (wholeN (joinO n1 k1 o1 o2)))) := (Same.new hl3) _ _ upd_same
      refine ⟨_, rfl, fun x dx hx hdx hne => ?_⟩
      have s5 := (Same.new hdx (o := .own x))
      have s6 : Same _ _ := s5.trans (Same.new (by rw [upd_ne hne.symm]; exact hx) (o := .ins C dx []))
      have s7 := s4.trans s6
      refine ⟨x, dx, n1 + n2, k1 + k2, M, join n1 w1 w2, joinO n1 k1 o1 o2, v, l3, l2, rfl, upd_same, hM.same ((((e2.same.trans (Same.new hl)).trans (Same.new hl2)).trans (Same.new hl3)).trans s6), s6.sqt (SqT.of upd_same), s6.sqt (SqT.of ho), vp1.join vp2 hn hk L, fun r H3 keep part gr => ⟨rfl, ?_⟩⟩
      refine q x M r H3 (fun b u e => keep b u ?_ (s7 b u e)) L part gr
      exact ne_of_none e (s4.free hx)
end
end K60

namespace K60
/-! ### parts that tell two apart -/
def EqOG (k : Nat) : Option Mx → Option Mx → Prop
  | none, none => True
  | some G, some G' => ∀ i j, i < k → j < k → G i j = G' i j
  | _, _ => False
theorem EqOG.refl {k : Nat} : ∀ r, EqOG k r r
  | none => trivial
  | some _ => fun _ _ _ _ => rfl
theorem EqOG.symm {k : Nat} : ∀ {r r'}, EqOG k r r' → EqOG k r' r
  | none, none, _ => trivial
  | some _, some _, h => fun i j hi hj => (h i j hi hj).symm
  | none, some _, h => h.elim
  | some _, none, h => h.elim
/-- both results of gains hold -/
theorem GainsRes.uniq {n k : Nat} {t : Mx} {w : Nat → Int} {o : Nat → Nat} {r r' : Option Mx} (a : GainsRes n t w k o r) (b : GainsRes n t w k o r') : EqOG k r r' := by
  cases r with
  | none =>
    cases r' with
    | none => trivial
    | some G => exact absurd b.1 a
  | some G =>
    cases r' with
    | none => exact absurd a.1 b
    | some G' => exact fun i j hi hj => (a.2 i j hi hj).uniq (b.2 i j hi hj)
theorem GainsRes.some_iff {n k : Nat} {t : Mx} {w : Nat → Int} {o : Nat → Nat} {r : Option Mx} (a : GainsRes n t w k o r) : r.isSome = true ↔ Kp n t w := by
  cases r with
  | none => exact ⟨fun z => (by cases z), fun z => absurd z a⟩
  | some G => exact ⟨fun _ => a.1, fun _ => rfl⟩
theorem GainsRes.congr {n k : Nat} {t : Mx} {w : Nat → Int} {o : Nat → Nat} {r r' : Option Mx} (a : GainsRes n t w k o r) (e : EqOG k r r') : GainsRes n t w k o r' := by
  cases r with
  | none =>
    cases r' with
    | none => exact a
    | some G => exact e.elim
  | some G =>
    cases r' with
    | none => exact e.elim
    | some G' => exact ⟨a.1, fun i j hi hj => by rw [← e i j hi hj]; exact a.2 i j hi hj⟩
section
variable {n : Nat} {M : Mx}
theorem wk_pot (p : Nat → Int) (h : ∀ x y g, x < n → y < n → M x y = some g → p x + g ≤ p y) {x y : Nat} {v : Int} (a : Wk n M x y v) : p x + v ≤ p y := by
  induction a with
  | nil _ => omega
  | cons h1 e r q ih =>
    have := h _ _ _ h1 r.left e
    omega
end
theorem blk_congr {k1 k2 : Nat} {G1 G1' G2 G2' : Mx} (h1 : ∀ i j, i < k1 → j < k1 → G1 i j = G1' i j) (h2 : ∀ i j, i < k2 → j < k2 → G2 i j = G2' i j) {x y : Nat} (hx : x < k1 + k2) (hy : y < k1 + k2) : blk k1 G1 G2 x y = blk k1 G1' G2' x y := by
  unfold blk
  by_cases c : x < k1
  · rw [if_pos c, if_pos c]
    by_cases d : y < k1
    · rw [if_pos d, if_pos d, h1 x y c d]
    · rw [if_neg d, if_neg d]
  · rw [if_neg c, if_neg c]
    by_cases d : y < k1
    · rw [if_pos d, if_pos d]
    · rw [if_neg d, if_neg d, h2 _ _ (by omega) (by omega)]
theorem OfTwo.congrA {n : Nat} {A A' B C : Mx} (h : OfTwo n A B C) (e : ∀ x y, x < n → y < n → A x y = A' x y) : OfTwo n A' B C :=
  ⟨fun x s y a b h1 h2 h3 h4 h5 => h.ge x s y a b h1 h2 h3 (by rw [e x s h1 h2]; exact h4) h5, fun x y g h1 h2 h3 => let ⟨s, a, b, q1, q2, q3, q4⟩ := h.is x y g h1 h2 h3; ⟨s, a, b, q1, by rw [← e x s h1 q1]; exact q2, q3, q4⟩⟩
theorem OfTwo.congrB {n : Nat} {A B B' C : Mx} (h : OfTwo n A B C) (e : ∀ x y, x < n → y < n → B x y = B' x y) : OfTwo n A B' C :=
  ⟨fun x s y a b h1 h2 h3 h4 h5 => h.ge x s y a b h1 h2 h3 h4 (by rw [e s y h2 h3]; exact h5), fun x y g h1 h2 h3 => let ⟨s, a, b, q1, q2, q3, q4⟩ := h.is x y g h1 h2 h3; ⟨s, a, b, q1, q2, by rw [← e s y q1 h2]; exact q3, q4⟩⟩
/-- what linked_gains gives hangs on the gains alone -/
theorem LinkRes.congr {k1 k2 : Nat} {r1 r1' r2 r2' : Option Mx} {th bk : Mx} {r : Option Mx} (h : LinkRes k1 k2 r1 r2 th bk r) (e1 : EqOG k1 r1 r1') (e2 : EqOG k2 r2 r2') : LinkRes k1 k2 r1' r2' th bk r := by
  cases r1 with
  | none =>
    cases r1' with
    | some _ => exact e1.elim
    | none =>
      cases r2 <;> cases r2' <;> exact h
  | some G1 =>
    cases r1' with
    | none => exact e1.elim
    | some G1' =>
      cases r2 with
      | none =>
        cases r2' with
        | some _ => exact e2.elim
        | none => exact h
      | some G2 =>
        cases r2' with
        | none => exact e2.elim
        | some G2' =>
          obtain ⟨C, two, h⟩ := h
          have ec : ∀ x y, x < k1 + k2 → y < k1 + k2 → blk k1 G1 G2 x y = blk k1 G1' G2' x y := fun x y hx hy => blk_congr e1 e2 hx hy
          refine ⟨C, two.congrA ec, ?_⟩
          cases r with
          | none => exact h
          | some R =>
            obtain ⟨kc, S, hS, hR⟩ := h
            exact ⟨kc, S, hS, hR.congrB ec⟩
section
variable {n1 n k : Nat} {t1 t th bk T : Mx} {o1 : Nat → Nat} {w1 w : Nat → Int}
/-- the part of one door, not linked to any -/
theorem one_kept {o : Nat → Nat} (L : Lnk n1 1 t1 t k 1 o1 o th bk T) (hth : ∀ i j, i < k → j < 1 → th i j = none) (hbk : ∀ j i, j < 1 → i < k → bk j i = none) (r : Option Mx) (g : GainsRes n1 t1 w1 k o1 r) : Kp (n1 + 1) T (join n1 w1 w) ↔ r.isSome = true := by
  have k1 : Kp 1 t w := kept_of_pot (fun _ => 0) fun x y g hx hy e => by
    have := (stp_some e).1
    omega
  have cross : ∀ x y, x < n1 + 1 → y < n1 + 1 → ¬ (x < n1 ↔ y < n1) → T x y = none := fun x y hx hy hs => by
    by_cases h : x < n1
    · by_cases ex : ∃ i j, i < k ∧ j < 1 ∧ o1 i = x ∧ o j = 0
      · obtain ⟨i, j, hi, hj, rfl, hj'⟩ := ex
        rw [show y = n1 + o j by omega, L.th_ i j hi hj, hth i j hi hj]
        rfl
      · rw [show y = n1 + 0 by omega]
        exact (L.no x 0 h (by omega) fun i j hi hj q => ex ⟨i, j, hi, hj, q.1, q.2⟩).1
    · by_cases ex : ∃ i j, i < k ∧ j < 1 ∧ o1 i = y ∧ o j = 0
      · obtain ⟨i, j, hi, hj, rfl, hj'⟩ := ex
        rw [show x = n1 + o j by omega, L.bk_ i j hi hj, hbk j i hj hi]
        rfl
      · rw [show x = n1 + 0 by omega]
        exact (L.no y 0 (by omega) (by omega) fun i j hi hj q => ex ⟨i, j, hi, hj, q.1, q.2⟩).2
  rw [g.some_iff]
  constructor
  · intro q
    exact ((kept_in (w1 := w1) (w2 := w) L).mp (kept_min q)).1
  · intro q
    have := (kept_in (w1 := w1) (w2 := w) L).mpr ⟨q, k1⟩
    have conv : ∀ x z v, Wk (n1 + 1) (stp T (join n1 w1 w)) x z v → Wk (n1 + 1) (Min (sdOf n1) (stp T (join n1 w1 w))) x z v := fun x z v a => by
      induction a with
      | nil h => exact .nil h
      | @cons x y z g w v hx e r q ih =>
        refine .cons hx ?_ ih q
        have hs : x < n1 ↔ y < n1 := Classical.byContradiction fun hs => by
          have := cross x y hx r.left hs
          rw [(stp_some e).2] at this
          cases this
        unfold Min
        rw [if_pos (sd_eq.mpr hs)]
        exact e
    exact fun x v a => this x v (conv x x v a)
end
/-! the part of two doors -/
def t2 (lift : Int) : Mx := fun x y => if x = 0 then (if y = 0 then some 0 else some lift) else (if y = 0 then none else some 0)
def th2 (e : Nat) : Mx := fun i j => if j = 0 then (if i = e then some 0 else none) else none
def bk2 (b : Nat) (units : Int) : Mx := fun j i => if j = 0 then none else (if i = b then some units else none)
def w0 : Nat → Int := fun _ => 0
theorem two_step {lift : Int} {x y : Nat} {g : Int} (hx : x < 2) (hy : y < 2) (e : stp (t2 lift) w0 x y = some g) : x = 0 ∧ y = 1 ∧ g = lift := by
  obtain ⟨ne, e'⟩ := stp_some e
  unfold t2 w0 at e'
  by_cases h : x = 0
  · have hy : y = 1 := by omega
    subst h hy
    rw [if_pos rfl, if_neg (by decide)] at e'
    have := Option.some.inj e'
    exact ⟨rfl, rfl, by omega⟩
  · have h0 : y = 0 := by omega
    rw [if_neg h, if_pos h0] at e'
    cases e'
theorem two_pot {lift : Int} (x y : Nat) (g : Int) (hx : x < 2) (hy : y < 2) (e : stp (t2 lift) w0 x y = some g) : (if x = 0 then 0 else lift) + g ≤ (if y = 0 then 0 else lift) := by
  obtain ⟨rfl, rfl, rfl⟩ := two_step hx hy e
  rw [if_pos rfl, if_neg (by decide)]
  omega
theorem two_kp {lift : Int} : Kp 2 (t2 lift) w0 := kept_of_pot (fun x => if x = 0 then 0 else lift) two_pot
theorem two_gain {lift : Int} (i j : Nat) (hi : i < 2) (hj : j < 2) : Gain 2 (t2 lift) w0 (id i) (id j) (t2 lift i j) := by
  show Best 2 (stp (t2 lift) w0) i j ((t2 lift i j).map (· + 0))
  have e01 : stp (t2 lift) w0 0 1 = some lift := by
    have : t2 lift 0 1 = some lift := rfl
    rw [stp_of (by decide) this]
    unfold w0
    congr 1
    omega
  by_cases hi0 : i = 0
  · by_cases hj0 : j = 0
    · subst hi0 hj0
      exact two_kp.self (by decide)
    · have : j = 1 := by omega
      subst hi0 this
      show Best 2 _ 0 1 (some (lift + 0))
      rw [Int.add_zero]
      refine ⟨.one (by decide) (by decide) e01, fun v a => ?_⟩
      have := wk_pot (fun x => if x = 0 then 0 else lift) two_pot a
      simp at this
      exact this
  · have : i = 1 := by omega
    subst this
    by_cases hj0 : j = 0
    · subst hj0
      show Best 2 _ 1 0 none
      intro v a
      cases a with
      | cons h e r q =>
        have := (two_step h r.left e).1
        omega
    · have : j = 1 := by omega
      subst this
      exact two_kp.self (by decide)
def C2 (k b e : Nat) (lift units : Int) (G : Mx) : Mx := fun x y => if x < k then (if y = k then G x e else none) else (if y = b then (if x = k then some (lift - units) else some (0 - units)) else none)
theorem two_of {k b e : Nat} {lift units : Int} {G : Mx} (hb : b < k) (he : e < k) : OfTwo (k + 2) (blk k G (t2 lift)) (acr k (th2 e) (bk2 b units)) (C2 k b e lift units G) where
  ge := fun x s y a c hx hs hy h1 h2 => by
    unfold blk at h1
    unfold acr at h2
    by_cases cx : x < k
    · rw [if_pos cx] at h1
      by_cases cs : s < k
      · rw [if_pos cs] at h1 h2
        by_cases cy : y < k
        · rw [if_pos cy] at h2
          cases h2
        · rw [if_neg cy] at h2
          unfold th2 at h2
          by_cases c0 : y - k = 0
          · rw [if_pos c0] at h2
            by_cases ce : s = e
            · rw [if_pos ce] at h2
              have q2 : (0 : Int) - 0 = c := Option.some.inj h2
              subst ce
              refine ⟨a, ?_, by omega⟩
              unfold C2
              rw [if_pos cx, if_pos (by omega)]
              exact h1
            · rw [if_neg ce] at h2
              cases h2
          · rw [if_neg c0] at h2
            cases h2
      · rw [if_neg cs] at h1
        cases h1
    · rw [if_neg cx] at h1
      by_cases cs : s < k
      · rw [if_pos cs] at h1
        cases h1
      · rw [if_neg cs] at h1 h2
        by_cases cy : y < k
        · rw [if_pos cy] at h2
          unfold bk2 at h2
          by_cases c0 : s - k = 0
          · rw [if_pos c0] at h2
            cases h2
          · rw [if_neg c0] at h2
            by_cases cb : y = b
            · rw [if_pos cb] at h2
              have q2 : (0 : Int) - units = c := Option.some.inj h2
              have hC : C2 k b e lift units G x y = if x = k then some (lift - units) else some (0 - units) := by
                unfold C2
                rw [if_neg cx, if_pos cb]
              unfold t2 at h1
              by_cases c1 : x - k = 0
              · rw [if_pos c1, if_neg c0] at h1
                have := Option.some.inj h1
                rw [if_pos (by omega)] at hC
                exact ⟨_, hC, by omega⟩
              · rw [if_neg c1, if_neg c0] at h1
                have := Option.some.inj h1
                rw [if_neg (by omega)] at hC
                exact ⟨_, hC, by omega⟩
            · rw [if_neg cb] at h2
              cases h2
        · rw [if_neg cy] at h2
          cases h2
  is := fun x y g hx hy h => by
    unfold C2 at h
    by_cases cx : x < k
    · rw [if_pos cx] at h
      by_cases cy : y = k
      · rw [if_pos cy] at h
        refine ⟨e, g, 0, by omega, by unfold blk; rw [if_pos cx, if_pos he]; exact h, ?_, by omega⟩
        subst cy
        unfold acr th2
        rw [if_pos he, if_neg (by omega), if_pos (by omega), if_pos rfl]
        rfl
      · rw [if_neg cy] at h
        cases h
    · rw [if_neg cx] at h
      by_cases cy : y = b
      · rw [if_pos cy] at h
        have hB : acr k (th2 e) (bk2 b units) (k + 1) y = some (0 - units) := by
          unfold acr bk2
          rw [if_neg (by omega), if_pos (by omega), if_neg (by omega), if_pos cy]
          rfl
        by_cases c1 : x = k
        · rw [if_pos c1] at h
          have := Option.some.inj h
          refine ⟨k + 1, lift, 0 - units, by omega, ?_, hB, by omega⟩
          unfold blk t2
          rw [if_neg cx, if_neg (by omega), if_pos (by omega), if_neg (by omega)]
        · rw [if_neg c1] at h
          have := Option.some.inj h
          refine ⟨k + 1, 0, 0 - units, by omega, ?_, hB, by omega⟩
          unfold blk t2
          rw [if_neg cx, if_neg (by omega), if_neg (by omega), if_neg (by omega)]
      · rw [if_neg cy] at h
        cases h
section
variable {n1 k b e : Nat} {t1 G T : Mx} {o1 : Nat → Nat} {w1 : Nat → Int} {lift units : Int}
def pot2 (k b e : Nat) (lift units : Int) (G : Mx) : Nat → Int := fun x => if x < k then (if x = b then lift - units else match G x e with | some g => -g | none => 0) else (if x = k then 0 else lift)
theorem two_kept (L : Lnk n1 2 t1 (t2 lift) k 2 o1 id (th2 e) (bk2 b units) T) (l1 : ∀ i, i < k → o1 i < n1) (g : GainsRes n1 t1 w1 k o1 (some G)) (hb : b < k) (he : e < k) : Kp (n1 + 2) T (join n1 w1 w0) ↔ ∀ v, G b e = some v → v + lift ≤ units := by
  have lk := link_of L l1 (fun i h => h) g.2 (two_gain (lift := lift)) (two_of (units := units) hb he)
  have ki : Kept (n1 + 2) (Min (sdOf n1) (stp T (join n1 w1 w0))) := (kept_in L).mpr ⟨g.1, two_kp⟩
  constructor
  · intro q v hv
    have kc := lk.keptC q
    have s1 : offD (C2 k b e lift units G) b k = some v := by
      unfold offD C2
      rw [if_neg (by omega), if_pos hb, if_pos rfl]
      exact hv
    have s2 : offD (C2 k b e lift units G) k b = some (lift - units) := by
      unfold offD C2
      rw [if_neg (by omega), if_neg (by omega), if_pos rfl, if_pos rfl]
    have := kc b _ ((Wk.one (by omega) (by omega) s1).snoc (by omega) s2)
    omega
  · intro q
    refine lk.kept ki (kept_of_pot (pot2 k b e lift units G) fun x y v hx hy h => ?_)
    unfold offD at h
    by_cases hxy : x = y
    · rw [if_pos hxy] at h
      cases h
    · rw [if_neg hxy] at h
      unfold C2 at h
      by_cases cx : x < k
      · rw [if_pos cx] at h
        by_cases cy : y = k
        · rw [if_pos cy] at h
          have hp : pot2 k b e lift units G y = 0 := by unfold pot2; rw [if_neg (by omega), if_pos cy]
          rw [hp]
          unfold pot2
          rw [if_pos cx]
          by_cases cb : x = b
          · rw [if_pos cb]
            rw [cb] at h
            have := q v h
            omega
          · rw [if_neg cb, h]
            show -v + v ≤ 0
            omega
        · rw [if_neg cy] at h
          cases h
      · rw [if_neg cx] at h
        by_cases cy : y = b
        · rw [if_pos cy] at h
          have hp : pot2 k b e lift units G y = lift - units := by unfold pot2; rw [if_pos (by omega), if_pos cy]
          rw [hp]
          unfold pot2
          rw [if_neg cx]
          by_cases c1 : x = k
          · rw [if_pos c1] at h ⊢
            have := Option.some.inj h
            omega
          · rw [if_neg c1] at h ⊢
            have := Option.some.inj h
            omega
        · rw [if_neg cy] at h
          cases h
end
/-- the part (n, k', t, w, o; th, bk) tells r1 from r2 -/
def Tells (k : Nat) (r1 r2 : Option Mx) (n k' : Nat) (t : Mx) (w : Nat → Int) (o : Nat → Nat) (th bk : Mx) : Prop :=
  ∀ n1 n2 t1 t2 w1 w2 o1 o2 T1 T2, GainsRes n1 t1 w1 k o1 r1 → GainsRes n2 t2 w2 k o2 r2 → (∀ i, i < k → o1 i < n1) → (∀ i, i < k → o2 i < n2) → Lnk n1 n t1 t k k' o1 o th bk T1 → Lnk n2 n t2 t k k' o2 o th bk T2 →
    (Kp (n1 + n) T1 (join n1 w1 w) ↔ ¬ Kp (n2 + n) T2 (join n2 w2 w))
theorem tells_one {k : Nat} {r1 r2 : Option Mx} {t th bk : Mx} {w : Nat → Int} {o : Nat → Nat} (h : r1.isSome = !r2.isSome) (hth : ∀ i j, i < k → j < 1 → th i j = none) (hbk : ∀ j i, j < 1 → i < k → bk j i = none) : Tells k r1 r2 1 1 t w o th bk := by
  intro n1 n2 t1 t2 w1 w2 o1 o2 T1 T2 g1 g2 l1 l2 L1 L2
  rw [one_kept L1 hth hbk r1 g1, one_kept L2 hth hbk r2 g2, h]
  cases r2 <;> simp
theorem tells_two {k b e : Nat} {G1 G2 : Mx} {lift units : Int} (hb : b < k) (he : e < k) (h : (∀ v, G1 b e = some v → v + lift ≤ units) ↔ ¬ (∀ v, G2 b e = some v → v + lift ≤ units)) : Tells k (some G1) (some G2) 2 2 (t2 lift) w0 id (th2 e) (bk2 b units) := by
  intro n1 n2 t1 t2 w1 w2 o1 o2 T1 T2 g1 g2 l1 l2 L1 L2
  rw [two_kept L1 l1 g1 hb he, two_kept L2 l2 g2 hb he]
  exact h
end K60

namespace K60
open PySem L2
open C8 (Cal Def Met Mak cal0 met0 mak0 pe_c pe_mk pe_mt pe_mt0 pe_gc InsC call_isC fnScope fnBody fnArgs clsBody fnScope_by)

/-! ### gains as data -/
def dE : Option Int → PyData
  | none => .none
  | some i => .int i
def tabD (n m : Nat) (M : Mx) : PyData := .tuple ((List.range n).map fun i => .tuple ((List.range m).map fun j => dE (M i j)))
def ogD (k : Nat) : Option Mx → PyData
  | none => .none
  | some G => tabD k k G
section
variable {K : PySem.W.Frag} {H : Hp}
theorem dp_enc (e : Option Int) : Dp K H (enc e) (dE e) := by
  cases e with
  | none => exact .non
  | some i => exact .int i
theorem dpAll_row {f : Nat → Option Int} : ∀ l : List Nat, DpAll K H (l.map fun j => enc (f j)) (l.map fun j => dE (f j))
  | [] => .nil
  | j :: l => .cons (dp_enc _) (dpAll_row l)
theorem dpAll_ix : ∀ (vs : List V) (F : Nat → PyData), (∀ i x, vs[i]? = some x → Dp K H x (F i)) → DpAll K H vs ((List.range vs.length).map F)
  | [], _, _ => .nil
  | v :: vs, F, h => by
    rw [List.length_cons, List.range_succ_eq_map, List.map_cons, List.map_map]
    exact .cons (h 0 v rfl) (dpAll_ix vs (F ∘ Nat.succ) fun i x hx => h (i + 1) x (by rw [List.getElem?_cons_succ]; exact hx))
theorem dp_row {v : V} {n : Nat} {f : Nat → Option Int} (h : IsRow K H v n f) : Dp K H v (.tuple ((List.range n).map fun j => dE (f j))) := by
  obtain ⟨a, rfl, q⟩ := h
  exact .tup q (dpAll_row _)
theorem dp_tab {v : V} {n m : Nat} {M : Mx} (h : IsTab K H v n m M) : Dp K H v (tabD n m M) := by
  obtain ⟨a, vs, rfl, q, l, h⟩ := h
  subst l
  exact .tup q (dpAll_ix vs _ fun i x hx => dp_row (h i x hx))
theorem dp_og {v : V} {k : Nat} {r : Option Mx} (h : IsOG K H v k r) : Dp K H v (ogD k r) := by
  cases r with
  | none =>
    have e : v = .non := h
    subst e
    exact .non
  | some G => exact dp_tab h
end
theorem eqv_dE (a b : Option Int) : PyData.eqv (dE a) (dE b) = true ↔ a = b := by
  cases a <;> cases b <;> simp [dE, PyData.eqv]
theorem eqvAll_map (F G : Nat → PyData) : ∀ l : List Nat, PyData.eqvAll (l.map F) (l.map G) = true ↔ ∀ i ∈ l, PyData.eqv (F i) (G i) = true
  | [] => by simp [PyData.eqvAll]
  | i :: l => by
    rw [List.map_cons, List.map_cons, PyData.eqvAll, Bool.and_eq_true, eqvAll_map F G l]
    simp
theorem eqv_tab {n m : Nat} {M M' : Mx} : PyData.eqv (tabD n m M) (tabD n m M') = true ↔ ∀ i j, i < n → j < m → M i j = M' i j := by
  unfold tabD
  rw [PyData.eqv, eqvAll_map]
  constructor
  · intro h i j hi hj
    have h1 := h i (List.mem_range.mpr hi)
    rw [PyData.eqv, eqvAll_map] at h1
    exact (eqv_dE _ _).mp (h1 j (List.mem_range.mpr hj))
  · intro h i hi
    rw [PyData.eqv, eqvAll_map]
    exact fun j hj => (eqv_dE _ _).mpr (h i j (List.mem_range.mp hi) (List.mem_range.mp hj))
theorem eqv_og {k : Nat} {r r' : Option Mx} : PyData.eqv (ogD k r) (ogD k r') = true ↔ EqOG k r r' := by
  cases r with
  | none =>
    cases r' with
    | none => simp [ogD, PyData.eqv, EqOG]
    | some G => simp [ogD, tabD, PyData.eqv, EqOG]
  | some G =>
    cases r' with
    | none => simp [ogD, tabD, PyData.eqv, EqOG]
    | some G' => exact eqv_tab
theorem lay_map (F : Nat → PyData) (h : ∀ i, (F i).canLay0 = true) : ∀ l : List Nat, PyData.canLayAll0 (l.map F) = true
  | [] => by simp [PyData.canLayAll0]
  | i :: l => by
    rw [List.map_cons, PyData.canLayAll0, Bool.and_eq_true]
    exact ⟨h i, lay_map F h l⟩
theorem dep_map (F : Nat → PyData) (d : Nat) (h : ∀ i, (F i).depth ≤ d) : ∀ l : List Nat, PyData.depthAll (l.map F) ≤ d
  | [] => by simp [PyData.depthAll]
  | i :: l => by
    rw [List.map_cons, PyData.depthAll]
    exact Nat.max_le.mpr ⟨h i, dep_map F d h l⟩
theorem shp_dE (e : Option Int) : SeqAt.shaped (dE e) = true := by
  cases e <;> simp [dE, SeqAt.shaped, PyData.canLay0, PyData.depth]
theorem shp_tab {n m : Nat} {M : Mx} : SeqAt.shaped (tabD n m M) = true := by
  have h1 : ∀ e, (dE e).canLay0 = true := fun e => by cases e <;> simp [dE, PyData.canLay0]
  have h2 : ∀ e, (dE e).depth ≤ 0 := fun e => by cases e <;> simp [dE, PyData.depth]
  unfold SeqAt.shaped tabD
  rw [Bool.and_eq_true, PyData.canLay0, PyData.depth]
  refine ⟨lay_map _ (fun i => by rw [PyData.canLay0]; exact lay_map _ (fun j => h1 _) _) _, decide_eq_true ?_⟩
  have := dep_map (fun i => PyData.tuple ((List.range m).map fun j => dE (M i j))) 1 (fun i => by rw [PyData.depth]; have := dep_map (fun j => dE (M i j)) 0 (fun j => h2 _) (List.range m); omega) (List.range n)
  omega
theorem shp_og {k : Nat} {r : Option Mx} : SeqAt.shaped (ogD k r) = true := by
  cases r with
  | none => simp [ogD, SeqAt.shaped, PyData.canLay0, PyData.depth]
  | some G => exact shp_tab

def spSame (K : PySem.W.Frag) : Sp := fun vs H Q _ => ∃ (k : Nat) (r1 r2 : Option Mx) (v1 v2 : V), vs = [v1, v2] ∧ IsOG K H v1 k r1 ∧ IsOG K H v2 k r2 ∧ ∀ b : Bool, (b = true ↔ EqOG k r1 r2) → Q (.bl b) H
def spFirst (K : PySem.W.Frag) : Sp := fun vs H Q _ => ∃ (k : Nat) (G1 G2 : Mx) (v1 v2 : V), vs = [v1, v2] ∧ IsTab K H v1 k k G1 ∧ IsTab K H v2 k k G2 ∧ k ≤ 300 ∧ (¬ ∀ i j, i < k → j < k → G1 i j = G2 i j) ∧
  ∀ (b e : Nat) (a : Addr) (H' : Hp), b < k → e < k → G1 b e ≠ G2 b e → Same H H' → SqT K H' a [.int (b : Nat), .int (e : Nat)] → Q (.ref a) H'
/-- pairs of places made so far -/
def Prs (k i j : Nat) (ys : List V) (H : Hp) : Prop := (∀ y ∈ ys, ∃ (a : Addr) (b e : Nat), y = .ref a ∧ b < k ∧ e < k ∧ H a = some (.tup [.int (b : Nat), .int (e : Nat)])) ∧
  (∀ b e, e < k → (b < i ∨ (b = i ∧ e < j)) → ∃ y ∈ ys, ∃ a, y = .ref a ∧ H a = some (.tup [.int (b : Nat), .int (e : Nat)]))
theorem Prs.same {k i j : Nat} {ys : List V} {H H' : Hp} (h : Prs k i j ys H) (e : ∀ a xs, H a = some (.tup xs) → H' a = some (.tup xs)) : Prs k i j ys H' :=
  ⟨fun y hy => let ⟨a, b, c, q1, q2, q3, q4⟩ := h.1 y hy; ⟨a, b, c, q1, q2, q3, e _ _ q4⟩, fun b c hc hb => let ⟨y, hy, a, q1, q2⟩ := h.2 b c hc hb; ⟨y, hy, a, q1, e _ _ q2⟩⟩
theorem tup_at {D : Addr} {H : Hp} {l l' : List V} (h : H D = some (.lst l)) : ∀ a xs, H a = some (.tup xs) → upd H D (.lst l') a = some (.tup xs) := fun a xs q => by
  have n : a ≠ D := fun z => by rw [z, h] at q; cases q
  rw [upd_ne n]
  exact q

theorem tyes {σ : L2.St} {H : Hp} {A B : Hp → Prop} (h : A H) : tYes σ H fun b H3 => if b = true then A H3 else B H3 := (iteT h : if true = true then A H else B H)

/- same_gains: slots 0 gains 1 other; cells [] -/
abbrev s_same_gains : Stmt := top 2
theorem sc_same_gains : FnScope ["gains", "other"] ["gains", "other"] (fnScope s_same_gains) := fnScope_by (by decide +kernel)
/- _first_differing: slots 0 gains 1 other 2 many 3 places 4 begin 5 end; cells ['gains', 'many', 'other'] -/
abbrev s__first_differing : Stmt := top 4
theorem sc__first_differing : FnScope ["gains", "other", "many", "places", "begin", "end"] ["gains", "other"] (fnScope s__first_differing) := fnScope_by (by decide +kernel)
section
variable {P : Program} {w : World} {K : PySem.W.Frag} {mg : Str → Option Value} {base : Heap}
theorem ok_same_gains (T : Txt mg) (D : Dx K mg "same_gains" s_same_gains ["gains", "other"]) : Cal P w K mg base 1 "same_gains" (spSame K) [] := by
  refine cal D sc_same_gains (fun vs H Q E h => ?_) (fun f cdv A outer s H vs Q E hr h => ?_)
  · obtain ⟨k, r1, r2, v1, v2, rfl, _⟩ := h
    rfl
  · obtain ⟨k, r1, r2, v1, v2, rfl, h1, h2, q⟩ := h
    have nd := sc_same_gains.nd
    refine ⟨_, (pss_one (ps_ret (pe_cmpR (eqDK K rfl hr.units) (pv 0) (pv 1) (nomark _)))), ?_⟩
    exact ⟨_, rfl, _, rfl, _, _, dp_og h1, dp_og h2, shp_og, shp_og, q _ eqv_og⟩
theorem ok_first_differing (T : Txt mg) (D : Dx K mg "_first_differing" s__first_differing ["gains", "other"]) : Cal P w K mg base 1 "_first_differing" (spFirst K) [] := by
  refine cal D sc__first_differing (fun vs H Q E h => ?_) (fun f cdv A outer s H vs Q E hr h => ?_)
  · obtain ⟨k, G1, G2, v1, v2, rfl, _⟩ := h
    rfl
  · obtain ⟨k, G1, G2, v1, v2, rfl, h1, h2, hk, hne, q⟩ := h
    have nd := sc__first_differing.nd
    refine ⟨_, (pss_cons (ps_set (i := 2) nd rfl (Or.inr rfl) (pe_callB (lenK K) (by rfl) T.len boot_len (pa_cons (pv 0) pa_nil)))
      (pss_cons (ps_setLc2 (i := 3) (own := [("begin", 4), ("end", 5)]) (vs1 := [5]) (g := gName 4) (g1 := gName 5) (tt := tYes) (tt1 := tYes) rfl nd rfl rfl (sw_true rfl rfl rfl (by decide +kernel)) (pi_range1 (by rfl) T.range (pa_cons (pv 2) pa_nil)) (blkOk_by (N := ["gains", "other", "many", "places", "begin", "end"]) (sc := fnScope s__first_differing) (by decide +kernel)) (by decide) (fun _ _ _ _ _ => (pg_name (i := 4) nd rfl (Or.inl rfl))) (fun _ _ _ _ _ => pts_nil) (fun _ _ _ _ _ => (pi_range1 (by rfl) T.range (pa_cons (pv 2) pa_nil))) (fun _ _ _ _ _ => (pg_name (i := 5) nd rfl (Or.inl rfl))) (fun _ _ _ _ _ => pts_nil) (fun _ _ _ _ _ => (pe_tup (pa_cons (pv 4) (pa_cons (pv 5) pa_nil)))))
      (pss_one (ps_ret (pe_ix (ixL K) (pe_lc (own := [("begin", 4), ("end", 5)]) (g := gTup K 2 (gCons (gName 4) (gCons (gName 5) gNil))) (tt := _) rfl nd (piL K rfl (pv 3)) (blkOk_by (N := ["gains", "other", "many", "places", "begin", "end"]) (sc := fnScope s__first_differing) (by decide +kernel)) (fun _ _ _ _ _ => (pg_tup rfl (pgs_cons (pg_name (i := 4) nd rfl (Or.inl rfl)) (pgs_cons (pg_name (i := 5) nd rfl (Or.inl rfl)) pgs_nil)))) (fun _ _ _ _ _ => (pts_one (pt_cmpR (neDK K rfl hr.units) (pe_ix (ixT K) (pe_ix (ixT K) (pv 0) (pv 4) (fun _ _ => rfl)) (pv 5) (fun _ _ => rfl)) (pe_ix (ixT K) (pe_ix (ixT K) (pv 1) (pv 4) (fun _ _ => rfl)) (pv 5) (fun _ _ => rfl)) (nomark _)))) (fun _ _ _ _ _ => (pe_tup (pa_cons (pv 4) (pa_cons (pv 5) pa_nil))))) pe_int (fun _ _ => rfl)))))), ?_⟩
    obtain ⟨a1, vs1, rfl, hq1, hl1, hr1⟩ := id h1
    obtain ⟨a2, vs2, rfl, hq2, hl2, hr2⟩ := id h2
    refine ⟨_, rfl, _, _, rfl, .inr hq1, ?_⟩
    rw [hl1]
    refine ⟨_, rfl, (k : Int), rfl, by omega, by omega, fun D hD => ?_⟩
    refine ⟨fun i m H' => m = k - i ∧ i ≤ k ∧ Same H H' ∧ ∃ ys, H' D = some (.lst ys) ∧ ys.length = i * k ∧ Prs k i 0 ys H', ⟨k, by omega, by omega, Same.new hD, [], upd_same, by simp, fun y hy => by simp at hy, fun b e _ hb => by omega⟩, ?_⟩
    rintro i m H1 ⟨rfl, hi, e1, ys, hd, hl, hp⟩
    by_cases hlt : i < k
    · refine .inr ⟨walk_rng.goes i H1 hlt trivial, fun H' => (i + 1) ≤ k ∧ Same H H' ∧ ∃ ys, H' D = some (.lst ys) ∧ ys.length = (i + 1) * k ∧ Prs k (i + 1) 0 ys H', fun H' p' => ⟨k - (i + 1), by omega, rfl, p'⟩, fun x H1' y => ?_⟩
      obtain ⟨rfl, rfl⟩ := walk_rng.yields i H1 x H1' hlt trivial y
      refine ⟨rfl, ?_⟩
      refine tyes ?_
      refine ⟨_, rfl, (k : Int), rfl, by omega, by omega, ?_⟩
      refine ⟨fun j m H' => m = k - j ∧ j ≤ k ∧ Same H H' ∧ ∃ ys, H' D = some (.lst ys) ∧ ys.length = i * k + j ∧ Prs k i j ys H', ⟨k, by omega, by omega, e1, ys, hd, hl, hp⟩, ?_⟩
      rintro j m H2 ⟨rfl, hj, e2, ys, hd, hl, hp⟩
      have hik : (i + 1) * k ≤ k * k := Nat.mul_le_mul_right k hlt
      have hkk : k * k ≤ 300 * 300 := Nat.mul_le_mul hk hk
      rw [Nat.succ_mul] at hik
      by_cases hlj : j < k
      · refine .inr ⟨walk_rng.goes j H2 hlj trivial, fun H' => (j + 1) ≤ k ∧ Same H H' ∧ ∃ ys, H' D = some (.lst ys) ∧ ys.length = i * k + (j + 1) ∧ Prs k i (j + 1) ys H', fun H' p' => ⟨k - (j + 1), by omega, rfl, p'⟩, fun x H2' y => ?_⟩
        obtain ⟨rfl, rfl⟩ := walk_rng.yields j H2 x H2' hlj trivial y
        refine ⟨rfl, ?_⟩
        refine tyes ?_
        refine ⟨_, rfl, _, rfl, sz5 (show 2 ≤ 100000 by decide), fun l hl2 => ?_⟩
        have nD : D ≠ l := ne_of_none hd hl2
        refine ⟨ys, by rw [upd_ne nD]; exact hd, sz5l (by omega), hlj, (e2.trans (Same.new hl2)).mut hD, _, upd_same, by rw [List.length_append, List.length_singleton, hl]; omega, ?_⟩
        refine Prs.same (H := upd H2' l (.tup [.int (i : Nat), .int (j : Nat)])) ⟨fun y hy => ?_, fun b e he hb => ?_⟩ (tup_at (by rw [upd_ne nD]; exact hd))
        · rcases List.mem_append.mp hy with hy | hy
          · obtain ⟨a, b, e, q1, q2, q3, q4⟩ := hp.1 y hy
            exact ⟨a, b, e, q1, q2, q3, Same.new hl2 _ _ q4⟩
          · exact ⟨l, i, j, List.mem_singleton.mp hy, hlt, hlj, upd_same⟩
        · by_cases hx : b = i ∧ e = j
          · obtain ⟨rfl, rfl⟩ := hx
            exact ⟨.ref l, List.mem_append_right _ (List.mem_singleton.mpr rfl), l, rfl, upd_same⟩
          · obtain ⟨y, hy, a, q1, q2⟩ := hp.2 b e he (by omega)
            exact ⟨y, List.mem_append_left _ hy, a, q1, Same.new hl2 _ _ q2⟩
      · have ej : j = k := by omega
        subst ej
        exact .inl ⟨walk_rng.stops H2 trivial, hlt, e2, ys, hd, by rw [Nat.succ_mul]; exact hl, hp.1, fun b e he hb => hp.2 b e he (by omega)⟩
    · have ei : i = k := by omega
      subst ei
      refine .inl ⟨walk_rng.stops H1 trivial, ?_⟩
      have hkk : i * i ≤ 300 * 300 := Nat.mul_le_mul hk hk
      have hall : ∀ b e, b < i → e < i → ∃ y ∈ ys, ∃ a, y = .ref a ∧ H1 a = some (.tup [.int (b : Nat), .int (e : Nat)]) := fun b e hb he => hp.2 b e he (.inl hb)
      refine ⟨_, rfl, D, rfl, ⟨_, SqL.of hd⟩, lcF No (fun D2 i2 acc H' => (∀ y ∈ acc, ∃ (a : Addr) (b e : Nat), y = .ref a ∧ b < i ∧ e < i ∧ G1 b e ≠ G2 b e ∧ H' a = some (.tup [.int (b : Nat), .int (e : Nat)])) ∧ (acc = [] → ∀ i', i' < i2 → ∀ a b e, ys[i']? = some (.ref a) → H1 a = some (.tup [.int (b : Nat), .int (e : Nat)]) → G1 b e = G2 b e))
        walk_list (by omega) no_lg (fun H' e => SqL.of (e.same _ _ hd)) YAt.same (fun D2 hD2 => ⟨fun y hy => by simp at hy, fun _ i' hi' => by omega⟩) ?_ ?_ ?_ ?_⟩
      · rintro D2 i2 acc H2 H2' e ⟨p1, p2⟩
        exact ⟨fun y hy => let ⟨a, b, c, q1, q2, q3, q4, q5⟩ := p1 y hy; ⟨a, b, c, q1, q2, q3, q4, e.tup (o := default) q5 fun l z => by cases z⟩, p2⟩
      · rintro D2 i2 acc H2 H2' e ⟨p1, p2⟩
        exact ⟨fun y hy => let ⟨a, b, c, q1, q2, q3, q4, q5⟩ := p1 y hy; ⟨a, b, c, q1, q2, q3, q4, e _ _ q5⟩, p2⟩
      · rintro D2 i2 x acc H2 H2' Ky Kn hi2 hD2 e2 hd2 ⟨rfl, hx⟩ ⟨p1, p2⟩ ky kn
        obtain ⟨a, b, e, rfl, hb, he, ha⟩ := hp.1 x (List.mem_of_getElem? hx)
        have s2 := e1.trans e2.same
        obtain ⟨y1, d1, hy1, rfl, hq1'⟩ := IsTab.row hr1 hl1 hb
        obtain ⟨y2, d2, hy2, rfl, hq2'⟩ := IsTab.row hr2 hl2 hb
        refine ⟨_, _, rfl, SqT.of (e2.same _ _ ha), rfl, _, _, rfl, _, _, rfl, rfl, rfl, ?_⟩
        refine ⟨_, rfl, _, rfl, _, _, _, _, rfl, rfl, s2.sqt hq1, atI_nat hy1, _, rfl, _, _, _, _, rfl, rfl, s2.sqt hq1', atI_nat (row_get he), _, rfl, _, rfl, _, _, _, _, rfl, rfl, s2.sqt hq2, atI_nat hy2, _, rfl, _, _, _, _, rfl, rfl, s2.sqt hq2', atI_nat (row_get he), _, _, dp_enc _, dp_enc _, shp_dE _, shp_dE _, _, rfl, ?_⟩
        refine iteB (fun ht => ?_) fun hf => ?_
        · refine ⟨_, rfl, _, rfl, sz5 (show 2 ≤ 100000 by decide), fun l hl2 => ky _ _ (Same.new hl2).rl ?_⟩
          refine ⟨fun y hy => ?_, fun z => by simp at z⟩
          rcases List.mem_append.mp hy with hy | hy
          · obtain ⟨a', b', c', q1, q2, q3, q4, q5⟩ := p1 y hy
            exact ⟨a', b', c', q1, q2, q3, q4, Same.new hl2 _ _ q5⟩
          · exact ⟨l, b, e, List.mem_singleton.mp hy, hb, he, (fun z => by rw [(eqv_dE _ _).mpr z] at ht; cases ht), upd_same⟩
        · refine kn _ (Rl.refl no_lg) ⟨p1, fun z i' hi' a' b' c' h1 h2 => ?_⟩
          by_cases hii : i' < i2
          · exact p2 z i' hii a' b' c' h1 h2
          · have : i' = i2 := by omega
            subst this
            rw [hx] at h1
            cases Option.some.inj h1
            rw [ha] at h2
            have h3 := Option.some.inj h2
            simp only [HO.tup.injEq, List.cons.injEq, V.int.injEq] at h3
            obtain ⟨z1, z2, _⟩ := h3
            have z1 : b = b' := by omega
            have z2 : e = c' := by omega
            subst z1 z2
            have hf2 : PyData.eqv (dE (G1 b e)) (dE (G2 b e)) = true := by
              cases hh : PyData.eqv (dE (G1 b e)) (dE (G2 b e)) with
              | true => rfl
              | false => rw [hh] at hf; cases hf
            exact (eqv_dE _ _).mp hf2
      · rintro D2 zs H2 hD2 e2 hd2 ⟨p1, p2⟩
        cases zs with
        | nil =>
          refine absurd (fun b e hb he => ?_) hne
          obtain ⟨y, hy, a, rfl, ha⟩ := hall b e hb he
          obtain ⟨i', hi'⟩ := List.getElem?_of_mem hy
          exact p2 rfl i' (List.getElem?_eq_some_iff.mp hi').1 a b e hi' ha
        | cons z zs =>
          obtain ⟨a, b, e, rfl, hb, he, hn, ha⟩ := p1 z (List.mem_cons_self ..)
          exact ⟨_, _, _, _, rfl, rfl, SqL.of hd2, atI_nat (j := 0) rfl, q b e a H2 hb he hn (e1.trans e2.same) (SqT.of ha)⟩
end
/-- what telling_part gives for gains that differ -/
def Told (K : PySem.W.Frag) (H : Hp) (v : V) (k : Nat) (r1 r2 : Option Mx) : Prop := ∃ (n k' : Nat) (t th bk : Mx) (w : Nat → Int) (o : Nat → Nat) (a wa : Addr) (v1 v3 v4 v5 : V), v = .ref a ∧ SqT K H a [v1, .ref wa, v3, v4, v5] ∧ IsTab K H v1 n n t ∧ SqT K H wa (row n (whole w)) ∧ IsOut H v3 k' o ∧
  IsTab K H v4 k k' th ∧ IsTab K H v5 k' k bk ∧ VP n k' t w o ∧ n ≤ 2 ∧ NonNeg k k' th ∧ NonNeg k' k bk ∧ Tells k r1 r2 n k' t w o th bk
def spTelling (K : PySem.W.Frag) : Sp := fun vs H Q _ => ∃ (k : Nat) (r1 r2 : Option Mx) (v1 v2 : V), vs = [v1, v2] ∧ IsOG K H v1 k r1 ∧ IsOG K H v2 k r2 ∧ 0 < k ∧ k ≤ 300 ∧
  ∀ (v : V) (H' : Hp), Same H H' → ((EqOG k r1 r2 ∧ v = .non) ∨ (¬ EqOG k r1 r2 ∧ Told K H' v k r1 r2)) → Q v H'
theorem rep_q {K : PySem.W.Frag} {H : Hp} {Q : VK} {l : Addr} {xs : List V} {k : Nat} (hq : SqT K H l xs) (h : ∀ p H', Same H H' → SqT K H' p (List.replicate k xs).flatten → Q (.ref p) H') :
    (k = 1 → Q (.ref l) H) ∧ (2 ≤ k → ∀ p, H p = none → Q (.ref p) (upd H p (.tup (List.replicate k xs).flatten))) :=
  ⟨fun e => h l H (Same.refl H) (by subst e; simpa using hq), fun _ p hp => h p _ (Same.new hp) (SqT.of upd_same)⟩
def rRepA (K : PySem.W.Frag) : R2 := fun x y H Q => ∃ l xs, ∃ k : Nat, x = .ref l ∧ y = .int (k : Int) ∧ SqT K H l xs ∧ xs ≠ [] ∧ 1 ≤ k ∧ k ≤ 1000 ∧ xs.length ≤ 1000 ∧ ∀ p H', Same H H' → SqT K H' p (List.replicate k xs).flatten → Q (.ref p) H'
theorem repAK {X : Cx} (K : PySem.W.Frag) (h : X.K = K := by rfl) : OpR X (binaryOp .Mult) (rRepA K) := fun pins s σ H x y v u Q I rx ry ⟨l, xs, k, e1, e2, hq, ne, h1, h2, h3, q⟩ => repTK K h pins s σ H x y v u Q I rx ry ⟨l, xs, k, e1, e2, hq, ne, h1, h2, h3, rep_q hq q⟩
theorem isTab_of {K : PySem.W.Frag} {H : Hp} {a : Addr} {n m : Nat} {M : Mx} {vs : List V} (h : SqT K H a vs) (l : vs.length = n) (r : ∀ (i : Nat) (x : V), vs[i]? = some x → IsRow K H x m (M i)) : IsTab K H (.ref a) n m M := ⟨a, vs, rfl, h, l, r⟩
theorem isRow_of {K : PySem.W.Frag} {H : Hp} {a : Addr} {n : Nat} {f : Nat → Option Int} {xs : List V} (h : SqT K H a xs) (e : xs = row n f) : IsRow K H (.ref a) n f := ⟨a, rfl, by rw [← e]; exact h⟩
theorem lot_one {n : Nat} (h : 0 < n) : Lot n 1 (fun _ => 0) := ⟨fun _ _ => h, fun i j h1 h2 => by omega⟩
theorem lot_two : Lot 2 2 id := ⟨fun _ h => h, fun _ _ h _ => h⟩
theorem tab2 {K : PySem.W.Frag} {H : Hp} {a : Addr} {x0 x1 : V} {m : Nat} {M : Mx} (h : SqT K H a [x0, x1]) (r0 : IsRow K H x0 m (M 0)) (r1 : IsRow K H x1 m (M 1)) : IsTab K H (.ref a) 2 m M :=
  isTab_of h rfl fun i x hx => match i, hx with
    | 0, hx => by cases Option.some.inj hx; exact r0
    | 1, hx => by cases Option.some.inj hx; exact r1
    | i + 2, hx => by simp at hx
theorem vp_two {lift : Int} : VP 2 2 (t2 lift) w0 id := ⟨by decide, by decide, fun x hx => by
  match x, hx with
  | 0, _ => rfl
  | 1, _ => rfl, fun _ _ => Int.le_refl _, lot_two, by decide, by decide⟩
theorem nn_th2 {k e : Nat} : NonNeg k 2 (th2 e) := fun i j g _ _ h => by
  unfold th2 at h
  split at h
  · split at h
    · have := Option.some.inj h; omega
    · cases h
  · cases h
theorem nn_bk2 {k b : Nat} {units : Int} (hu : 0 ≤ units) : NonNeg 2 k (bk2 b units) := fun j i g _ _ h => by
  unfold bk2 at h
  split at h
  · cases h
  · split at h
    · have := Option.some.inj h; omega
    · cases h
theorem un_of {k n k' b : Nat} {r1 r2 : Option Mx} {t th : Mx} {w : Nat → Int} {o : Nat → Nat} {units : Int} (_ : Tells k r1 r2 n k' t w o th (bk2 b units)) : ∃ u, u = units := ⟨_, rfl⟩
theorem row_th2 {e i : Nat} : row 2 (th2 e i) = [enc (if i = e then some 0 else none), .non] := rfl

/- telling_part: slots 0 gains 1 other 2 many 3 one 4 two 5 there 6 back 7 begin 8 end 9 known 10 units 11 lift 12 door; cells ['begin', 'end', 'units'] -/
abbrev s_telling_part : Stmt := top 3
theorem sc_telling_part : FnScope ["gains", "other", "many", "one", "two", "there", "back", "begin", "end", "known", "units", "lift", "door"] ["gains", "other"] (fnScope s_telling_part) := fnScope_by (by decide +kernel)
section
variable {P : Program} {w : World} {K : PySem.W.Frag} {mg : Str → Option Value} {base : Heap}
theorem ok_telling_part (T : Txt mg) (D : Dx K mg "telling_part" s_telling_part ["gains", "other"]) (c__first_differing : Cal P w K mg base 1 "_first_differing" (spFirst K) []) : Cal P w K mg base 2 "telling_part" (spTelling K) [] := by
  refine cal D sc_telling_part (fun vs H Q E h => ?_) (fun f cdv A outer s H vs Q E hr h => ?_)
  · obtain ⟨k, r1, r2, v1, v2, rfl, _⟩ := h
    rfl
  · obtain ⟨k, r1, r2, v1, v2, rfl, h1, h2, hk0, hk, q⟩ := h
    have nd := sc_telling_part.nd
    refine ⟨_, (pss_cons (ps_if (pt_cmpR (eqDK K rfl hr.units) (pv 0) (pv 1) (nomark _)) (pss_one (ps_ret pe_non)) pss_nil)
      (pss_cons (ps_if (PW.pt (pw_or (pt_cmpR op_isN (pv 0) pe_non (nomark _)) (pw_or1 (pt_cmpR op_isN (pv 1) pe_non (nomark _))))) (pss_cons (ps_set (i := 2) nd rfl (Or.inl rfl) (pe_callB (lenK K) (by rfl) T.len boot_len (pa_cons (pe_ifExp (pt_cmpR op_isN (pv 0) pe_non (nomark _)) (pv 1) (pv 0)) pa_nil)))
        (pss_one (ps_ret (pe_tup (pa_cons (pe_tup (pa_cons (pe_tupD (pa_cons pe_int pa_nil)) pa_nil)) (pa_cons (pe_tupD (pa_cons pe_int pa_nil)) (pa_cons (pe_tupD (pa_cons pe_int pa_nil)) (pa_cons (pe_op (repAK K) (pe_tup (pa_cons (pe_tup (pa_cons pe_non pa_nil)) pa_nil)) (pv 2)) (pa_cons (pe_tup (pa_cons (pe_op (repAK K) (pe_tup (pa_cons pe_non pa_nil)) (pv 2)) pa_nil)) pa_nil))))))))) pss_nil)
      (pss_cons (ps_set (i := 2) nd rfl (Or.inl rfl) (pe_callB (lenK K) (by rfl) T.len boot_len (pa_cons (pv 0) pa_nil)))
      (pss_cons (ps_asg (pe_c c__first_differing hr (by decide) (by rfl) (pa_cons (pv 0) (pa_cons (pv 1) pa_nil))) (pg_tup rfl (pgs_cons (pg_name (i := 7) nd rfl (Or.inr rfl)) (pgs_cons (pg_name (i := 8) nd rfl (Or.inr rfl)) pgs_nil))))
      (pss_cons (ps_set (i := 3) nd rfl (Or.inl rfl) (pe_ix (ixT K) (pe_ix (ixT K) (pv 0) (pv 7) (fun _ _ => rfl)) (pv 8) (fun _ _ => rfl)))
      (pss_cons (ps_set (i := 4) nd rfl (Or.inl rfl) (pe_ix (ixT K) (pe_ix (ixT K) (pv 1) (pv 7) (fun _ _ => rfl)) (pv 8) (fun _ _ => rfl)))
      (pss_cons (ps_if (PW.pt (pw_or (pt_cmpR op_isN (pv 3) pe_non (nomark _)) (pw_or1 (pt_cmpR op_isN (pv 4) pe_non (nomark _))))) (pss_cons (ps_set (i := 9) nd rfl (Or.inl rfl) (pe_ifExp (pt_cmpR op_isN (pv 3) pe_non (nomark _)) (pv 4) (pv 3)))
        (pss_cons (ps_set (i := 10) nd rfl (Or.inr rfl) pe_int)
        (pss_one (ps_set (i := 11) nd rfl (Or.inl rfl) (pe_callB (call_max2 rfl) (by rfl) T.max boot_max (pa_cons pe_int (pa_cons (pe_op op_sub pe_int (pv 9)) pa_nil))))))) (pss_cons (ps_set (i := 11) nd rfl (Or.inl rfl) (pe_callB (call_max2 rfl) (by rfl) T.max boot_max (pa_cons pe_int (pa_cons (pe_un un_neg (pe_callB (call_min2 rfl) (by rfl) T.min boot_min (pa_cons (pv 3) (pa_cons (pv 4) pa_nil)))) pa_nil))))
        (pss_one (ps_set (i := 10) nd rfl (Or.inr rfl) (pe_op op_add (pe_callB (call_min2 rfl) (by rfl) T.min boot_min (pa_cons (pv 3) (pa_cons (pv 4) pa_nil))) (pv 11))))))
      (pss_cons (ps_set (i := 5) nd rfl (Or.inl rfl) (pe_callTy (tupK K) (by rfl) T.tuple boot_tuple (pa_cons (pe_lc (own := [("door", 12)]) (g := gName 12) (tt := tYes) rfl nd (pi_range1 (by rfl) T.range (pa_cons (pv 2) pa_nil)) (blkOk_by (N := ["gains", "other", "many", "one", "two", "there", "back", "begin", "end", "known", "units", "lift", "door"]) (sc := fnScope s_telling_part) (by decide +kernel)) (fun _ _ _ _ _ => (pg_name (i := 12) nd rfl (Or.inl rfl))) (fun _ _ _ _ _ => pts_nil) (fun _ _ _ _ _ => (pe_tup (pa_cons (pe_ifExp (pt_cmpR op_eq (pv 12) (pv 8) (nomark _)) pe_int pe_non) (pa_cons pe_non pa_nil))))) pa_nil)))
      (pss_cons (ps_set (i := 6) nd rfl (Or.inl rfl) (pe_tup (pa_cons (pe_op (repAK K) (pe_tup (pa_cons pe_non pa_nil)) (pv 2)) (pa_cons (pe_callTy (tupK K) (by rfl) T.tuple boot_tuple (pa_cons (pe_lc (own := [("door", 12)]) (g := gName 12) (tt := tYes) rfl nd (pi_range1 (by rfl) T.range (pa_cons (pv 2) pa_nil)) (blkOk_by (N := ["gains", "other", "many", "one", "two", "there", "back", "begin", "end", "known", "units", "lift", "door"]) (sc := fnScope s_telling_part) (by decide +kernel)) (fun _ _ _ _ _ => (pg_name (i := 12) nd rfl (Or.inl rfl))) (fun _ _ _ _ _ => pts_nil) (fun _ _ _ _ _ => (pe_ifExp (pt_cmpR op_eq (pv 12) (pv 7) (nomark _)) (pv 10) pe_non))) pa_nil)) pa_nil))))
      (pss_one (ps_ret (pe_tup (pa_cons (pe_tup (pa_cons (pe_tup (pa_cons pe_int (pa_cons (pv 11) pa_nil))) (pa_cons (pe_tup (pa_cons pe_non (pa_cons pe_int pa_nil))) pa_nil))) (pa_cons (pe_tup (pa_cons pe_int (pa_cons pe_int pa_nil))) (pa_cons (pe_tupD (pa_cons pe_int (pa_cons pe_int pa_nil))) (pa_cons (pv 5) (pa_cons (pv 6) pa_nil))))))))))))))))), ?_⟩
    refine ⟨_, rfl, _, rfl, _, _, dp_og h1, dp_og h2, shp_og, shp_og, _, rfl, iteB (fun ht => ?_) (fun hf => ?_)⟩
    · exact q _ _ (Same.refl H) (.inl ⟨eqv_og.mp ht, rfl⟩)
    have hne : ¬ EqOG k r1 r2 := fun z => by
      rw [eqv_og.mpr z] at hf
      cases hf
    have one : 1 ≤ sizeLine := sz5 (show 1 ≤ 100000 by decide)
    have two : 2 ≤ sizeLine := sz5 (show 2 ≤ 100000 by decide)
    have five : 5 ≤ sizeLine := sz5 (show 5 ≤ 100000 by decide)
    by_cases hb : r1.isSome = !r2.isSome
    · have pre : (r1 = none ∧ ∃ G, r2 = some G) ∨ ((∃ G, r1 = some G) ∧ r2 = none) := by
        cases r1 <;> cases r2 <;> simp at hb ⊢
      rcases pre with ⟨rfl, G, rfl⟩ | ⟨⟨G, rfl⟩, rfl⟩
      case' inl =>
        have e1 : v1 = .non := h1
        subst e1
        obtain ⟨a, vs, rfl, hq, hl, _⟩ := (show IsTab K H v2 k k G from h2)
        refine ⟨_, rfl, rfl, _, rfl, iteDT rfl ?_⟩
        refine iteT ⟨_, rfl, rfl, _, rfl, iteDT rfl ⟨_, rfl, _, _, rfl, .inr hq, ?_⟩⟩
      case' inr =>
        have e1 : v2 = .non := h2
        subst e1
        obtain ⟨a, vs, rfl, hq, hl, _⟩ := (show IsTab K H v1 k k G from h1)
        refine ⟨_, rfl, rfl, _, rfl, iteDF (fun z => by cases z) ⟨_, rfl, rfl, _, rfl, iteDT rfl ?_⟩⟩
        refine ⟨_, rfl, rfl, _, rfl, iteDF (fun z => by cases z) ⟨_, rfl, _, _, rfl, .inr hq, ?_⟩⟩
      all_goals
        rw [hl]
        refine ⟨one, fun p1 o1 f1 d1 c1 => ⟨one, fun p2 f2 => ⟨one, fun p3 o3 f3 d3 c3 => ⟨one, fun p4 o4 f4 d4 c4 => ⟨one, fun p5 f5 => ⟨one, fun p6 f6 => ⟨_, rfl, _, _, k, rfl, rfl, SqT.of upd_same, by simp, hk0, by omega, show 1 ≤ 1000 by decide, fun p7 H7 e7 h7 => ?_⟩⟩⟩⟩⟩⟩⟩
        refine ⟨one, fun p8 f8 => ⟨_, rfl, _, _, k, rfl, rfl, SqT.of upd_same, by simp, hk0, by omega, show 1 ≤ 1000 by decide, fun p9 H9 e9 h9 => ⟨one, fun p10 f10 => ⟨five, fun p11 f11 => ?_⟩⟩⟩⟩
        rw [rep_none] at h9
        have s1 := Same.new f1 (o := .frz o1 (.tup [.int 0]))
        have s2 := Same.new f2 (o := .tup [.ref p1])
        have s3 := Same.new f3 (o := .frz o3 (.tup [.int 0]))
        have s4 := Same.new f4 (o := .frz o4 (.tup [.int 0]))
        have s5 := Same.new f5 (o := .tup [.non])
        have s6 := Same.new f6 (o := .tup [.ref p5])
        have s8 := Same.new f8 (o := .tup [.non])
        have s10 := Same.new f10 (o := .tup [.ref p9])
        have s11 := Same.new f11 (o := .tup [.ref p2, .ref p3, .ref p4, .ref p7, .ref p10])
        have z9 := (e9.trans s10).trans s11
        have z7 := s8.trans z9
        have z6 := e7.trans z7
        have z5 := s6.trans z6
        have z4 := s5.trans z5
        have z3 := s4.trans z4
        have z2 := s3.trans z3
        have z1 := s2.trans z2
        refine q _ _ (s1.trans z1) (.inr ⟨hne, 1, 1, fun _ _ => some 0, fun _ _ => none, fun _ _ => none, fun _ => 0, fun _ => 0, p11, p3, _, _, _, _, rfl, SqT.of upd_same, ?_, ?_, ?_, ?_, ?_, ?_, by decide, ?_, ?_, tells_one hb (fun _ _ _ _ => rfl) (fun _ _ _ _ => rfl)⟩)
        · exact isTab_of (z2.sqt (SqT.of upd_same)) rfl fun i x hx => by
            have : i = 0 := by
              have := (List.getElem?_eq_some_iff.mp hx).1
              simp at this
              exact this
            subst this
            cases Option.some.inj hx
            exact isRow_of (z1.sqt (TupD.sq ⟨o1, upd_same, d1, c1⟩)) rfl
        · exact z3.sqt (TupD.sq ⟨o3, upd_same, d3, c3⟩)
        · exact ⟨p4, rfl, z4.tupD ⟨o4, upd_same, d4, c4⟩⟩
        · refine isTab_of (z7.sqt h7) (by simp) fun i x hx => ?_
          have hm := List.mem_of_getElem? hx
          simp at hm
          rw [hm.2]
          exact isRow_of (z5.sqt (SqT.of upd_same)) rfl
        · refine isTab_of (s11.sqt (SqT.of upd_same)) rfl fun i x hx => ?_
          have hm := List.mem_of_getElem? hx
          simp at hm
          rw [hm]
          exact isRow_of ((s10.trans s11).sqt h9) rfl
        · exact ⟨by decide, by decide, fun _ _ => rfl, fun _ _ => Int.le_refl _, lot_one (by decide), by decide, by decide⟩
        · exact fun i j g _ _ z => by cases z
        · exact fun i j g _ _ z => by cases z
    · have pre : ∃ G1 G2, r1 = some G1 ∧ r2 = some G2 := by
        cases r1 <;> cases r2 <;> simp at hb ⊢
        exact hne trivial
      obtain ⟨G1, G2, rfl, rfl⟩ := pre
      have t1 : IsTab K H v1 k k G1 := h1
      have t2' : IsTab K H v2 k k G2 := h2
      obtain ⟨a1, vs1, rfl, hq1, hl1, hr1⟩ := id t1
      obtain ⟨a2, vs2, rfl, hq2, hl2, hr2⟩ := id t2'
      refine ⟨_, rfl, rfl, _, rfl, iteDF (fun z => by cases z) ⟨_, rfl, rfl, _, rfl, iteDF (fun z => by cases z) ⟨_, rfl, _, _, rfl, .inr hq1, ?_⟩⟩⟩
      rw [hl1]
      refine ⟨_, rfl, _, rfl, k, G1, G2, _, _, rfl, t1, t2', hk, hne, fun b e pa H1 hb he hd e1 hpa => ?_⟩
      refine ⟨_, _, rfl, hpa, rfl, _, _, rfl, _, _, rfl, rfl, ?_⟩
      obtain ⟨y1, d1, hy1, rfl, hq1'⟩ := IsTab.row hr1 hl1 hb
      obtain ⟨y2, d2, hy2, rfl, hq2'⟩ := IsTab.row hr2 hl2 hb
      refine ⟨_, rfl, _, rfl, _, _, _, _, rfl, rfl, e1.sqt hq1, atI_nat hy1, _, rfl, _, _, _, _, rfl, rfl, e1.sqt hq1', atI_nat (row_get he), ?_⟩
      refine ⟨_, rfl, _, rfl, _, _, _, _, rfl, rfl, e1.sqt hq2, atI_nat hy2, _, rfl, _, _, _, _, rfl, rfl, e1.sqt hq2', atI_nat (row_get he), ?_⟩
      have tl : ∀ lift units : Int, 0 ≤ units → ((∀ v, G1 b e = some v → v + lift ≤ units) ↔ ¬ (∀ v, G2 b e = some v → v + lift ≤ units)) → Tells k (some G1) (some G2) 2 2 (t2 lift) w0 id (th2 e) (bk2 b units) := fun lift units _ z => tells_two hb he z
      rcases g1 : G1 b e with _ | u1 <;> rcases g2 : G2 b e with _ | u2
      · exact absurd (g1.trans g2.symm) hd
      case' none.some =>
        refine ⟨_, rfl, rfl, _, rfl, iteDT rfl (iteT ⟨_, rfl, rfl, _, rfl, iteDT rfl ⟨_, rfl, _, rfl, _, _, rfl, rfl, _, _, rfl, ?_⟩⟩)⟩
        have hu : (0 : Int) ≤ 0 := by omega
        have hc := tl (if 1 - u2 > 0 then 1 - u2 else 0) 0 hu (by
          rw [g1, g2]
          refine ⟨fun _ z => ?_, fun _ v z => by cases z⟩
          have := z u2 rfl
          split at this <;> omega)
        revert hc
        generalize (if 1 - u2 > 0 then 1 - u2 else 0 : Int) = lift
        intro hc
      case' some.none =>
        refine ⟨_, rfl, rfl, _, rfl, iteDF (fun z => by cases z) ⟨_, rfl, rfl, _, rfl, iteDT rfl ⟨_, rfl, rfl, _, rfl, iteDF (fun z => by cases z) ⟨_, rfl, _, rfl, _, _, rfl, rfl, _, _, rfl, ?_⟩⟩⟩⟩
        have hu : (0 : Int) ≤ 0 := by omega
        have hc := tl (if 1 - u1 > 0 then 1 - u1 else 0) 0 hu (by
          rw [g1, g2]
          refine ⟨fun z => ?_, fun z => absurd (fun v z => by cases z) z⟩
          have := z u1 rfl
          split at this <;> omega)
        revert hc
        generalize (if 1 - u1 > 0 then 1 - u1 else 0 : Int) = lift
        intro hc
      case' some.some =>
        refine ⟨_, rfl, rfl, _, rfl, iteDF (fun z => by cases z) ⟨_, rfl, rfl, _, rfl, iteDF (fun z => by cases z) ⟨_, rfl, _, rfl, _, _, rfl, _, rfl, _, _, rfl, ?_⟩⟩⟩
        refine ⟨_, rfl, _, rfl, _, _, rfl, _, rfl, _, _, rfl, rfl, ?_⟩
        have hu : (0 : Int) ≤ (if u2 < u1 then u2 else u1) + (if -(if u2 < u1 then u2 else u1) > 0 then -(if u2 < u1 then u2 else u1) else 0) := by
          split <;> split <;> omega
        have hn : u1 ≠ u2 := fun z => hd (by rw [g1, g2, z])
        have hc := tl (if -(if u2 < u1 then u2 else u1) > 0 then -(if u2 < u1 then u2 else u1) else 0) _ hu (by
          rw [g1, g2]
          constructor
          · intro z z'
            have h1 := z u1 rfl
            have h2 := z' u2 rfl
            split at h1 <;> omega
          · intro z v hv
            cases Option.some.inj hv
            refine Classical.byContradiction fun h1 => z fun v hv => ?_
            cases Option.some.inj hv
            split at h1 <;> split <;> omega)
        revert hc hu
        generalize (if -(if u2 < u1 then u2 else u1) > 0 then -(if u2 < u1 then u2 else u1) else 0 : Int) = lift
        intro hu hc
      all_goals
        obtain ⟨u, eu⟩ := un_of hc
        refine ⟨_, rfl, (k : Int), rfl, by omega, by omega, lcS No (fun D i y H' => IsRow K H' y 2 (th2 e i)) walk_rng (by omega) no_lg (fun _ _ => trivial) YFn.same (fun _ _ _ _ _ _ e h => h.rl e) (fun _ _ _ _ _ _ _ e h => h.rl e) ?_ ?_⟩
        · rintro D3 i x H2 H2' Ky hi hD3 e3 hL ⟨rfl, rfl⟩ ky
          refine ⟨rfl, _, rfl, _, rfl, rfl, _, rfl, ?_⟩
          by_cases hie : i = e
          · refine iteDT (by rw [hie]) ⟨two, fun l hl => ky _ _ (Same.new hl).rl ⟨l, rfl, ?_⟩⟩
            rw [row_th2, if_pos hie]
            exact SqT.of upd_same
          · refine iteDF (fun z => hie (by have := V.int.inj z; omega)) ⟨two, fun l hl => ky _ _ (Same.new hl).rl ⟨l, rfl, ?_⟩⟩
            rw [row_th2, if_neg hie]
            exact SqT.of upd_same
        · intro D3 ys H2 hD3 e2 hd2 hl2 hp2
          refine ⟨D3, ys, rfl, SqL.of hd2, fun l fl => ?_⟩
          have n1 := Same.new fl (o := .tup ys)
          have hth : IsTab K (upd H2 l (.tup ys)) (.ref l) k 2 (th2 e) := isTab_of (SqT.of upd_same) hl2 fun i x hx => (hp2 i x hx).same n1
          refine ⟨one, fun p5 f5 => ⟨_, rfl, _, _, k, rfl, rfl, SqT.of upd_same, by simp, hk0, by omega, show 1 ≤ 1000 by decide, fun p7 H7 e7 h7 => ?_⟩⟩
          rw [rep_none] at h7
          have n2 := (Same.new f5 (o := .tup [.non])).trans e7
          refine ⟨_, rfl, (k : Int), rfl, by omega, by omega, lcRow No (bk2 b u 1) walk_rng (by omega) no_lg (fun _ _ => trivial) YFn.same ?_ ?_⟩
          · rintro j x H3 H3' Ky hj e3 ⟨rfl, rfl⟩ ky
            refine ⟨rfl, _, rfl, _, rfl, rfl, _, rfl, ?_⟩
            by_cases hjb : j = b
            · refine iteDT (by rw [hjb]) ⟨_, rfl, ?_⟩
              have := ky _ (Rl.refl no_lg)
              unfold bk2 at this
              rw [if_neg (by decide), if_pos hjb, eu] at this
              exact this
            · refine iteDF (fun z => hjb (by have := V.int.inj z; omega)) ?_
              have := ky _ (Rl.refl no_lg)
              unfold bk2 at this
              rw [if_neg (by decide), if_neg hjb] at this
              exact this
          · intro D4 H8 hD4 e4 hd4
            refine ⟨D4, _, rfl, SqL.of hd4, fun l2 fl2 => ⟨two, fun l3 fl3 => ?_⟩⟩
            have n3 := e4.same
            have n4 := Same.new fl2 (o := .tup (row k (bk2 b u 1)))
            have n5 := Same.new fl3 (o := .tup [.ref p7, .ref l2])
            refine ⟨_, rfl, two, fun q1 c1 => ⟨two, fun q2 c2 => ⟨two, fun q3 c3 => ⟨two, fun q4 c4 => ⟨two, fun q5 o5 c5 d5 d6 => ⟨_, rfl, _, rfl, five, fun q6 c6 => ?_⟩⟩⟩⟩⟩⟩
            have n6 := Same.new c1 (o := .tup [.int 0, .int lift])
            have n7 := Same.new c2 (o := .tup [.non, .int 0])
            have n8 := Same.new c3 (o := .tup [.ref q1, .ref q2])
            have n9 := Same.new c4 (o := .tup [.int 0, .int 0])
            have n10 := Same.new c5 (o := .frz o5 (.tup [.int 0, .int 1]))
            have n11 := Same.new c6 (o := .tup [.ref q3, .ref q4, .ref q5, .ref l, .ref l3])
            have m9 := n10.trans n11
            have m8 := n9.trans m9
            have m7 := n8.trans m8
            have m6 := n7.trans m7
            have m5 := n6.trans m6
            have m4 := n5.trans m5
            have m3 := n4.trans m4
            have m2 := n3.trans m3
            have m1 := n2.trans m2
            exact q _ _ ((e1.trans (e2.same.trans n1)).trans m1) (.inr ⟨hne, 2, 2, t2 lift, th2 e, bk2 b u, w0, id, q6, q4, _, _, _, _, rfl, SqT.of upd_same, tab2 (m8.sqt (SqT.of upd_same)) ⟨q1, rfl, m6.sqt (SqT.of upd_same)⟩ ⟨q2, rfl, m7.sqt (SqT.of upd_same)⟩, m9.sqt (SqT.of upd_same),
              ⟨q5, rfl, n11.tupD ⟨o5, upd_same, d5, d6⟩⟩, hth.same m1, tab2 (m5.sqt (SqT.of upd_same)) ⟨p7, rfl, m2.sqt h7⟩ ⟨l2, rfl, m4.sqt (SqT.of upd_same)⟩, vp_two, by decide, nn_th2, nn_bk2 (by rw [eu]; exact hu), by rw [eu]; exact hc⟩)
end
end K60

namespace K60
open PySem L2
open C8 (Cal Def Met Mak cal0 met0 mak0 pe_c pe_mk pe_mt pe_mt0 pe_gc InsC call_isC fnScope fnBody fnArgs clsBody fnScope_by)

/-! ### all stands but the digits -/
structure Rg (d : Addr) (H H' : Hp) : Prop where
  rl : Rl (At d) H H'
  dg : Dg d H'
section
variable {d : Addr} {H H1 H2 H' : Hp}
theorem Rg.refl (h : Dg d H) : Rg d H H := ⟨.refl h.lg, h⟩
theorem Rg.trans (x : Rg d H H1) (y : Rg d H1 H2) : Rg d H H2 := ⟨x.rl.trans y.rl, y.dg⟩
theorem Rg.more (x : Rg d H H1) (e : Same H1 H2) : Rg d H H2 := ⟨x.rl.more e, x.dg.same e⟩
theorem Rg.of (h : Dg d H) (e : Same H H') : Rg d H H' := ⟨.of h.lg e, h.same e⟩
theorem Rg.mut {p : Addr} {o : HO} (x : Rg d H H1) (h : H p = none) : Rg d H (upd H1 p o) := ⟨x.rl.mut h, x.dg.mut (fun z => by
  obtain ⟨l, q⟩ := x.rl.l0 d rfl
  rw [z, h] at q
  cases q)⟩
theorem Rg.free {a : Addr} (x : Rg d H H1) (h : H1 a = none) : H a = none := x.rl.free h
theorem Rg.lst {p : Addr} {l : List V} (x : Rg d H H1) (n : p ≠ d) (h : H p = some (.lst l)) : H1 p = some (.lst l) := x.rl.keep p _ n h
end
section
variable {H1 : Hp} {xs : List V} {Q : Addr → Hp → Prop}
theorem nwT (h : ∀ p H', Same H1 H' → H1 p = none → H' p = some (.tup xs) → Q p H') : ∀ p, H1 p = none → Q p (upd H1 p (.tup xs)) := fun p hp => h p _ (Same.new hp) hp upd_same
theorem nwL (h : ∀ p H', Same H1 H' → H1 p = none → H' p = some (.lst xs) → Q p H') : ∀ p, H1 p = none → Q p (upd H1 p (.lst xs)) := fun p hp => h p _ (Same.new hp) hp upd_same
theorem nwD (h : ∀ p H', Same H1 H' → H1 p = none → TupD H' p xs → Q p H') : ∀ (p : Addr) (o : Obj), H1 p = none → o.dict = none → o.cls = .type "tuple" → Q p (upd H1 p (.frz o (.tup xs))) := fun p o hp h1 h2 => h p _ (Same.new hp) hp ⟨o, upd_same, h1, h2⟩
end
section
variable {J : It} {n : Nat} {G : Hp → Prop} {Y : Nat → Hp → V → Hp → Prop} {g : TG} {tt : TT} {te : TE} {vs : List Nat} {σ : L2.St} {H1 : Hp} {Q : Addr → Hp → Prop}
/-- a comprehension that draws: each turn gives a value -/
theorem lcD (d : Addr) (P : Addr → Nat → V → Hp → Prop) (w : Walk J n G Y) (hn : n ≤ 100000) (hS : Dg d H1) (hG : ∀ H', Rg d H1 H' → G H') (hY : ∀ i x H H', Y i H x H' → Same H H')
    (stab : ∀ D i y H H', i < n → Rl (At D) H H' → P D i y H → P D i y H') (stay : ∀ D i y H H', i < n → H1 D = none → Rl (At d) H H' → P D i y H → P D i y H')
    (hs : ∀ (D : Addr) (i : Nat) (x : V) (H' H'' : Hp) (Ky : VK), i < n → H1 D = none → Rg d H1 H'' → Y i H' x H'' →
      (∀ y H4, Rg d H'' H4 → P D i y H4 → Ky y H4) → g x (wipe σ vs) H'' fun σ2 H2 => wipe σ2 vs = wipe σ vs ∧ te σ2 H2 Ky)
    (q : ∀ D ys H', H1 D = none → Rg d H1 H' → H' D = some (.lst ys) → ys.length = n → (∀ i y, ys[i]? = some y → P D i y H') → Q D H') :
    ∀ D, H1 D = none → ∃ W : Nat → Nat → Hp → Prop, (∃ m, W 0 m (upd H1 D (.lst []))) ∧ ∀ i m H, W i m H →
      (J.stop i H ∧ Q D H) ∨ (J.go i H ∧ ∃ Nx : Hp → Prop, (∀ H', Nx H' → ∃ m', m' < m ∧ W (i + 1) m' H') ∧ ∀ x H', J.yld i H x H' → g x (wipe σ vs) H' fun σ2 H2 => wipe σ2 vs = wipe σ vs ∧ tYes σ2 H2 fun b H3 =>
        if b = true then te σ2 H3 fun y H4 => ∃ acc, H4 D = some (.lst acc) ∧ acc.length < sizeLine ∧ Nx (upd H4 D (.lst (acc ++ [y]))) else Nx H3) := by
  intro D hD
  refine lc_it w (fun i H => Rg d H1 H ∧ ∃ ys, H D = some (.lst ys) ∧ ys.length = i ∧ i ≤ n ∧ ∀ j y, ys[j]? = some y → P D j y H) ⟨(Rg.refl hS).mut hD, [], upd_same, rfl, Nat.zero_le _, fun j y h => by simp at h⟩ (fun i H _ p => hG H p.1) ?_ ?_
  · rintro i x H H' hi ⟨e, ys, hd, hl, _, hp⟩ y
    have e2 := hY i x H H' y
    have s1 := e.more e2
    have nD : ¬ At d D := e.rl.out hD
    refine hs D i x H H' _ hi hD s1 y (fun v H4 r4 p4 => ?_)
    have hd4 := r4.rl.keep D _ nD (e2 _ _ hd)
    refine ⟨ys, hd4, Nat.lt_of_lt_of_le (by omega : ys.length < 100000) (by decide), (s1.trans r4).mut hD, ys ++ [v], upd_same, by rw [List.length_append, List.length_singleton, hl], hi, fun j z hz => ?_⟩
    by_cases hj : j < ys.length
    · rw [List.getElem?_append_left hj] at hz
      exact stab _ _ _ _ _ (by omega) (rl_at hd4) (stay _ _ _ _ _ (by omega) hD ((Rl.of e.rl.l1 e2).trans r4.rl) (hp j z hz))
    · have hj2 : j = ys.length := by
        have := (List.getElem?_eq_some_iff.mp hz).1
        rw [List.length_append, List.length_singleton] at this
        omega
      subst hj2
      rw [List.getElem?_append_right (Nat.le_refl _), Nat.sub_self] at hz
      cases hz
      rw [hl]
      exact stab _ _ _ _ _ hi (rl_at hd4) p4
  · rintro H ⟨e, ys, hd, hl, _, hp⟩
    exact q D ys H hD e hd hl hp
/-- .. a list of entries with R -/
theorem lcRowD (d : Addr) (R : Nat → Option Int → Prop) (w : Walk J n G Y) (hn : n ≤ 100000) (hS : Dg d H1) (hG : ∀ H', Rg d H1 H' → G H') (hY : ∀ i x H H', Y i H x H' → Same H H')
    (hs : ∀ (i : Nat) (x : V) (H' H'' : Hp) (Ky : VK), i < n → Rg d H1 H'' → Y i H' x H'' → (∀ e H4, Rg d H'' H4 → R i e → Ky (enc e) H4) → g x (wipe σ vs) H'' fun σ2 H2 => wipe σ2 vs = wipe σ vs ∧ te σ2 H2 Ky)
    (q : ∀ D f H', H1 D = none → Rg d H1 H' → H' D = some (.lst (row n f)) → (∀ i, i < n → R i (f i)) → Q D H') :
    ∀ D, H1 D = none → ∃ W : Nat → Nat → Hp → Prop, (∃ m, W 0 m (upd H1 D (.lst []))) ∧ ∀ i m H, W i m H →
      (J.stop i H ∧ Q D H) ∨ (J.go i H ∧ ∃ Nx : Hp → Prop, (∀ H', Nx H' → ∃ m', m' < m ∧ W (i + 1) m' H') ∧ ∀ x H', J.yld i H x H' → g x (wipe σ vs) H' fun σ2 H2 => wipe σ2 vs = wipe σ vs ∧ tYes σ2 H2 fun b H3 =>
        if b = true then te σ2 H3 fun y H4 => ∃ acc, H4 D = some (.lst acc) ∧ acc.length < sizeLine ∧ Nx (upd H4 D (.lst (acc ++ [y]))) else Nx H3) :=
  lcD d (fun _ i y _ => ∃ e, y = enc e ∧ R i e) w hn hS hG hY (fun _ _ _ _ _ _ _ h => h) (fun _ _ _ _ _ _ _ _ h => h) (fun D i x H' H'' Ky hi _ e y k => hs i x H' H'' Ky hi e y fun v H4 e4 r => k _ _ e4 ⟨v, rfl, r⟩)
    fun D ys H' hD e hd hl hp => by
      have hx : ∀ i, ∃ v : Option Int, ∀ y, ys[i]? = some y → y = enc v ∧ R i v := fun i => by
        cases h : ys[i]? with
        | none => exact ⟨none, fun y z => by cases z⟩
        | some y =>
          obtain ⟨v, h1, h2⟩ := hp i y h
          exact ⟨v, fun y' z => by cases Option.some.inj z; exact ⟨h1, h2⟩⟩
      obtain ⟨f, hf⟩ := Classical.skolem.mp hx
      refine q D f H' hD e (by rw [hd, row_eq hl fun j v hv => (hf j v hv).1]) fun i hi => ?_
      have hi' : i < ys.length := by omega
      exact (hf i _ (List.getElem?_eq_getElem hi')).2
/-- a comprehension that draws, with a test -/
theorem lcFD (d : Addr) (P : Addr → Nat → List V → Hp → Prop) (w : Walk J n G Y) (hn : n ≤ 100000) (hS : Dg d H1) (hG : ∀ H', Rg d H1 H' → G H') (hY : ∀ i x H H', Y i H x H' → Same H H')
    (h0 : ∀ D, H1 D = none → P D 0 [] (upd H1 D (.lst [])))
    (stab : ∀ D i acc H H', Rl (At D) H H' → P D i acc H → P D i acc H') (stay : ∀ D i acc H H', Same H H' → P D i acc H → P D i acc H')
    (hs : ∀ (D : Addr) (i : Nat) (x : V) (acc : List V) (H' H'' : Hp) (Ky : VK) (Kn : Hp → Prop), i < n → H1 D = none → Rg d H1 H'' → H'' D = some (.lst acc) → Y i H' x H'' → P D i acc H'' →
      (∀ y H4, Rg d H'' H4 → P D (i + 1) (acc ++ [y]) H4 → Ky y H4) → (∀ H4, Rg d H'' H4 → P D (i + 1) acc H4 → Kn H4) →
      g x (wipe σ vs) H'' fun σ2 H2 => wipe σ2 vs = wipe σ vs ∧ tt σ2 H2 fun b H3 => if b = true then te σ2 H3 Ky else Kn H3)
    (q : ∀ D ys H', H1 D = none → Rg d H1 H' → H' D = some (.lst ys) → P D n ys H' → Q D H') :
    ∀ D, H1 D = none → ∃ W : Nat → Nat → Hp → Prop, (∃ m, W 0 m (upd H1 D (.lst []))) ∧ ∀ i m H, W i m H →
      (J.stop i H ∧ Q D H) ∨ (J.go i H ∧ ∃ Nx : Hp → Prop, (∀ H', Nx H' → ∃ m', m' < m ∧ W (i + 1) m' H') ∧ ∀ x H', J.yld i H x H' → g x (wipe σ vs) H' fun σ2 H2 => wipe σ2 vs = wipe σ vs ∧ tt σ2 H2 fun b H3 =>
        if b = true then te σ2 H3 fun y H4 => ∃ acc, H4 D = some (.lst acc) ∧ acc.length < sizeLine ∧ Nx (upd H4 D (.lst (acc ++ [y]))) else Nx H3) := by
  intro D hD
  refine lc_it w (fun i H => Rg d H1 H ∧ ∃ ys, H D = some (.lst ys) ∧ ys.length ≤ i ∧ P D i ys H) ⟨(Rg.refl hS).mut hD, [], upd_same, Nat.le_refl _, h0 D hD⟩ (fun i H _ p => hG H p.1) ?_ ?_
  · rintro i x H H' hi ⟨e, ys, hd, hl, hp⟩ y
    have e2 := hY i x H H' y
    have s1 := e.more e2
    have nD : ¬ At d D := e.rl.out hD
    refine hs D i x ys H H' _ _ hi hD s1 (e2 _ _ hd) y (stay _ _ _ _ _ e2 hp) (fun v H4 r4 p4 => ?_) (fun H4 r4 p4 => ?_)
    · have hd4 := r4.rl.keep D _ nD (e2 _ _ hd)
      exact ⟨ys, hd4, Nat.lt_of_lt_of_le (by omega : ys.length < 100000) (by decide), (s1.trans r4).mut hD, ys ++ [v], upd_same, by rw [List.length_append, List.length_singleton]; omega, stab _ _ _ _ _ (rl_at hd4) p4⟩
    · exact ⟨s1.trans r4, ys, r4.rl.keep D _ nD (e2 _ _ hd), by omega, p4⟩
  · rintro H ⟨e, ys, hd, hl, hp⟩
    exact q D ys H hD e hd hp
end

/-! ### lists of rows that grow -/
def RowsE (K : PySem.W.Frag) (H : Hp) (p : Addr) (m i : Nat) (R : Nat → (Nat → Option Int) → Prop) : Prop := ∃ ys, H p = some (.lst ys) ∧ ys.length = i ∧ ∀ (j : Nat) (y : V), ys[j]? = some y → ∃ f, IsRow K H y m f ∧ R j f
section
variable {K : PySem.W.Frag} {H H' : Hp} {p : Addr} {m i : Nat} {R : Nat → (Nat → Option Int) → Prop} {S : Addr → Prop}
theorem RowsE.nil (h : H p = some (.lst [])) : RowsE K H p m 0 R := ⟨[], h, rfl, fun j y z => by simp at z⟩
theorem RowsE.rl (e : Rl S H H') (n : ¬ S p) (h : RowsE K H p m i R) : RowsE K H' p m i R :=
  let ⟨ys, h1, h2, h3⟩ := h
  ⟨ys, e.keep p _ n h1, h2, fun j y hy => let ⟨f, q1, q2⟩ := h3 j y hy; ⟨f, q1.rl e, q2⟩⟩
theorem RowsE.same (e : Same H H') (h : RowsE K H p m i R) : RowsE K H' p m i R := h.rl (Same.rl e) fun z => z
theorem RowsE.push (h : RowsE K H p m i R) {y : V} {f : Nat → Option Int} (hy : IsRow K H y m f) (r : R i f) : ∃ ys, H p = some (.lst ys) ∧ ys.length = i ∧ RowsE K (upd H p (.lst (ys ++ [y]))) p m (i + 1) R := by
  obtain ⟨ys, h1, h2, h3⟩ := h
  have e : Rl (At p) H (upd H p (.lst (ys ++ [y]))) := rl_at h1
  refine ⟨ys, h1, h2, ys ++ [y], upd_same, by rw [List.length_append, List.length_singleton, h2], fun j z hz => ?_⟩
  by_cases hj : j < ys.length
  · rw [List.getElem?_append_left hj] at hz
    obtain ⟨f, q1, q2⟩ := h3 j z hz
    exact ⟨f, q1.rl e, q2⟩
  · have hj2 : j = ys.length := by
      have := (List.getElem?_eq_some_iff.mp hz).1
      rw [List.length_append, List.length_singleton] at this
      omega
    subst hj2
    rw [List.getElem?_append_right (Nat.le_refl _), Nat.sub_self] at hz
    cases hz
    rw [h2]
    exact ⟨f, hy.rl e, r⟩
theorem rows_tab {ys : List V} (h3 : ∀ (j : Nat) (y : V), ys[j]? = some y → ∃ f, IsRow K H y m f ∧ R j f) : ∃ M : Mx, (∀ (j : Nat) (x : V), ys[j]? = some x → IsRow K H x m (M j)) ∧ ∀ j, j < ys.length → R j (M j) := by
  have hx : ∀ j, ∃ f, ∀ y, ys[j]? = some y → IsRow K H y m f ∧ R j f := fun j => by
    cases h : ys[j]? with
    | none => exact ⟨fun _ => none, fun y z => by cases z⟩
    | some y =>
      obtain ⟨f, q⟩ := h3 j y h
      exact ⟨f, fun y' z => by cases Option.some.inj z; exact q⟩
  obtain ⟨M, hM⟩ := Classical.skolem.mp hx
  exact ⟨M, fun j x h => (hM j x h).1, fun j hj => (hM j _ (List.getElem?_eq_getElem hj)).2⟩
/-- the tuple of the rows is a table -/
theorem RowsE.tab (h : RowsE K H p m i R) : ∃ (M : Mx) (ys : List V), H p = some (.lst ys) ∧ (∀ j, j < i → R j (M j)) ∧ ∀ l H', Same H H' → SqT K H' l ys → IsTab K H' (.ref l) i m M := by
  obtain ⟨ys, h1, h2, h3⟩ := h
  obtain ⟨M, q1, q2⟩ := rows_tab h3
  exact ⟨M, ys, h1, fun j hj => q2 j (by omega), fun l H' e hl => isTab_of hl h2 fun j x hx => (q1 j x hx).same e⟩
end

/-! ### what the draws promise -/
def spDigits (K : PySem.W.Frag) : Sp := fun vs H Q _ => ∃ (c : Addr) (ns : List Int), vs = [.ref c] ∧ SqL K H c (ns.map V.int) ∧ ns.length ≤ 63 ∧ ∀ d H', Same H H' → Dg d H' → Q (.ref d) H'
def spTake : Sp := fun vs H Q _ => ∃ (d : Addr) (n : Nat), vs = [.ref d, .int (n : Int)] ∧ Dg d H ∧ 0 < n ∧ ∀ (k : Nat) (H' : Hp), k < n → Rg d H H' → Q (.int (k : Int)) H'
def spEntry : Sp := fun vs H Q _ => ∃ (d : Addr) (low : Int) (n : Nat) (u : Int), vs = [.ref d, .int low, .int (n : Int), .int u] ∧ Dg d H ∧ (-1000 ≤ low ∧ low ≤ 1000) ∧ (0 < n ∧ n ≤ 1000) ∧ 0 ≤ u ∧ ∀ (e : Option Int) (H' : Hp), (0 ≤ low → ∀ g, e = some g → 0 ≤ g) → Rg d H H' → Q (enc e) H'
def spSquare (K : PySem.W.Frag) : Sp := fun vs H Q _ => ∃ (d : Addr) (n : Nat) (u : Int), vs = [.ref d, .int (n : Int), .int u] ∧ Dg d H ∧ n ≤ 1000 ∧ 0 ≤ u ∧ ∀ (v : V) (t : Mx) (H' : Hp), Rg d H H' → IsTab K H' v n n t → (∀ x, x < n → t x x = some 0) → Q v H'
def spLotL (K : PySem.W.Frag) : Sp := fun vs H Q _ => ∃ (d : Addr) (n : Nat), vs = [.ref d, .int (n : Int)] ∧ Dg d H ∧ 0 < n ∧ n ≤ 1000 ∧ ∀ (v : V) (k : Nat) (o : Nat → Nat) (H' : Hp), Rg d H H' → IsOut H' v k o → Lot n k o → 0 < k → k ≤ n → Q v H'
def spPart (K : PySem.W.Frag) : Sp := fun vs H Q _ => ∃ (d : Addr) (n : Nat) (u : Int), vs = [.ref d, .int (n : Int), .int u] ∧ Dg d H ∧ n ≤ 1000 ∧ 0 ≤ u ∧ ∀ (a wa : Addr) (tv : V) (t : Mx) (w : Nat → Int) (H' : Hp), Rg d H H' → SqT K H' a [tv, .ref wa] → IsTab K H' tv n n t → SqT K H' wa (row n (whole w)) →
  (∀ x, x < n → t x x = some 0) → (∀ x, x < n → 0 ≤ w x) → Q (.ref a) H'
def spDuties (K : PySem.W.Frag) : Sp := fun vs H Q _ => ∃ (d : Addr) (n m : Nat) (u : Int), vs = [.ref d, .int (n : Int), .int (m : Int), .int u] ∧ Dg d H ∧ n ≤ 1000 ∧ m ≤ 1000 ∧ 0 ≤ u ∧ ∀ (v : V) (M : Mx) (H' : Hp), Rg d H H' → IsTab K H' v n m M → NonNeg n m M → Q v H'

/- _law_digits: slots 0 _law_script 1 _law_digits_here 2 _law_state 3 _law_cell 4 _law_step 5 _law_number; cells [] -/
abbrev s__law_digits : Stmt := top 39
theorem sc__law_digits : FnScope ["_law_script", "_law_digits_here", "_law_state", "_law_cell", "_law_step", "_law_number"] ["_law_script"] (fnScope s__law_digits) := fnScope_by (by decide +kernel)
/- _law_take: slots 0 _law_digits_here 1 _law_many; cells [] -/
abbrev s__law_take : Stmt := top 40
theorem sc__law_take : FnScope ["_law_digits_here", "_law_many"] ["_law_digits_here", "_law_many"] (fnScope s__law_take) := fnScope_by (by decide +kernel)
/- _law_entry: slots 0 _law_digits_here 1 _law_low 2 _law_many 3 _law_unit 4 _law_entry_here; cells [] -/
abbrev s__law_entry : Stmt := top 42
theorem sc__law_entry : FnScope ["_law_digits_here", "_law_low", "_law_many", "_law_unit", "_law_entry_here"] ["_law_digits_here", "_law_low", "_law_many", "_law_unit"] (fnScope s__law_entry) := fnScope_by (by decide +kernel)
/- _law_square: slots 0 _law_digits_here 1 _law_many 2 _law_unit 3 _law_slope 4 _law_rows 5 _law_x 6 _law_row 7 _law_y; cells ['_law_digits_here', '_law_row', '_law_slope', '_law_unit', '_law_x'] -/
abbrev s__law_square : Stmt := top 43
theorem sc__law_square : FnScope ["_law_digits_here", "_law_many", "_law_unit", "_law_slope", "_law_rows", "_law_x", "_law_row", "_law_y"] ["_law_digits_here", "_law_many", "_law_unit"] (fnScope s__law_square) := fnScope_by (by decide +kernel)
/- _law_lot: slots 0 _law_digits_here 1 _law_many 2 _law_lot_here 3 _law_x; cells ['_law_digits_here'] -/
abbrev s__law_lot : Stmt := top 44
theorem sc__law_lot : FnScope ["_law_digits_here", "_law_many", "_law_lot_here", "_law_x"] ["_law_digits_here", "_law_many"] (fnScope s__law_lot) := fnScope_by (by decide +kernel)
/- _law_part: slots 0 _law_digits_here 1 _law_many 2 _law_unit 3 _law_wide 4 _law_table 5 _law_x; cells ['_law_digits_here', '_law_unit', '_law_wide'] -/
abbrev s__law_part : Stmt := top 45
theorem sc__law_part : FnScope ["_law_digits_here", "_law_many", "_law_unit", "_law_wide", "_law_table", "_law_x"] ["_law_digits_here", "_law_many", "_law_unit"] (fnScope s__law_part) := fnScope_by (by decide +kernel)
/- _law_duties: slots 0 _law_digits_here 1 _law_many 2 _law_other 3 _law_unit 4 _law_rows 5 _law_x 6 _law_y; cells ['_law_digits_here', '_law_unit'] -/
abbrev s__law_duties : Stmt := top 46
theorem sc__law_duties : FnScope ["_law_digits_here", "_law_many", "_law_other", "_law_unit", "_law_rows", "_law_x", "_law_y"] ["_law_digits_here", "_law_many", "_law_other", "_law_unit"] (fnScope s__law_duties) := fnScope_by (by decide +kernel)
section
variable {P : Program} {w : World} {K : PySem.W.Frag} {mg : Str → Option Value} {base : Heap}
theorem ok_law_digits (T : Txt mg) (D : Dx K mg "_law_digits" s__law_digits ["_law_script"]) : Cal P w K mg base 1 "_law_digits" (spDigits K) [] := by
  refine cal D sc__law_digits (fun vs H Q E h => ?_) (fun f cdv A outer s H vs Q E hr h => ?_)
  · obtain ⟨c, ns, rfl, _⟩ := h
    rfl
  · obtain ⟨c, ns, rfl, hc, hn, q⟩ := h
    have nd := sc__law_digits.nd
    refine ⟨_, (pss_cons (ps_set (i := 1) nd rfl (Or.inl rfl) (pe_lst pa_nil))
      (pss_cons (ps_set (i := 2) nd rfl (Or.inl rfl) pe_int)
      (pss_cons (ps_for PassesOwn.never rfl (piL K rfl (pv 0)) (pg_name (i := 3) nd rfl (Or.inl rfl))
        (pss_cons (ps_set (i := 5) nd rfl (Or.inl rfl) (pe_callB call_abs (by rfl) T.abs boot_abs (pa_cons (pe_callTy call_int1 (by rfl) T.int boot_int (pa_cons (pv 3) pa_nil)) pa_nil)))
        (pss_cons (ps_set (i := 2) nd rfl (Or.inl rfl) (pe_op op_mod (pe_callTy call_int1 (by rfl) T.int boot_int (pa_cons (pe_op op_add (pe_op op_add (pe_op op_mul (pv 2) pe_int) (pe_op op_mod (pe_callTy call_int1 (by rfl) T.int boot_int (pa_cons (pv 3) pa_nil)) pe_int)) pe_int) pa_nil)) pe_int))
        (pss_one (ps_if (pt_cmpR op_ge (pv 5) (pe_op op_pow pe_int pe_int) (nomark _)) (pss_one (ps_for PassesOwn.never rfl (pi_range1 (by rfl) T.range (pa_cons pe_int pa_nil)) (pg_name (i := 4) nd rfl (Or.inl rfl))
            (pss_one (ps_if (pt_cmpR op_gt (pv 5) pe_int (nomark _)) (pss_cons (ps_expr (pe_bm PySem.F.plainAttrs_list PySem.F.slot_list_append PySem.F.type_list_append mt_append (pv 1) (pa_cons (pe_op op_mod (pv 5) pe_int) pa_nil)))
              (pss_one (ps_set (i := 5) nd rfl (Or.inl rfl) (pe_op op_fdiv (pv 5) pe_int)))) pss_nil)))) (pss_cons (ps_expr (pe_bm PySem.F.plainAttrs_list PySem.F.slot_list_append PySem.F.type_list_append mt_append (pv 1) (pa_cons (pe_op op_mod (pe_op op_mod (pe_callTy call_int1 (by rfl) T.int boot_int (pa_cons (pe_op op_add (pe_op op_mul (pv 2) (pv 2)) (pe_op op_mul pe_int (pv 2))) pa_nil)) pe_int) pe_int) pa_nil)))
          (pss_one (ps_expr (pe_bm PySem.F.plainAttrs_list PySem.F.slot_list_append PySem.F.type_list_append mt_append (pv 1) (pa_cons (pe_op op_mod (pe_op op_mod (pe_callTy call_int1 (by rfl) T.int boot_int (pa_cons (pe_op op_add (pe_op op_mul (pv 2) pe_int) pe_int) pa_nil)) pe_int) pe_int) pa_nil))))))))))
      (pss_cons (ps_for PassesOwn.never rfl (pi_range1 (by rfl) T.range (pa_cons pe_int pa_nil)) (pg_name (i := 4) nd rfl (Or.inl rfl))
        (pss_cons (ps_set (i := 2) nd rfl (Or.inl rfl) (pe_op op_mod (pe_callTy call_int1 (by rfl) T.int boot_int (pa_cons (pe_op op_add (pe_op op_add (pe_op op_mul (pv 2) pe_int) (pe_op op_mul pe_int (pv 4))) pe_int) pa_nil)) pe_int))
        (pss_one (ps_expr (pe_bm PySem.F.plainAttrs_list PySem.F.slot_list_append PySem.F.type_list_append mt_append (pv 1) (pa_cons (pe_op op_mod (pe_op op_mod (pe_callTy call_int1 (by rfl) T.int boot_int (pa_cons (pe_op op_mul (pv 2) (pv 2)) pa_nil)) pe_int) pe_int) pa_nil))))))
      (pss_cons (ps_expr (pe_bm0 PySem.F.plainAttrs_list PySem.F.slot_list_reverse PySem.F.type_list_reverse mt_reverse (pv 1)))
      (pss_one (ps_ret (pv 1)))))))), ?_⟩
    refine ⟨sz5 (by show 0 ≤ 100000; decide), fun p hp => ?_⟩
    have s1 := Same.new hp (o := .lst [])
    refine ⟨_, rfl, c, rfl, ⟨_, (Same.rl s1).same.seq hc⟩, for_it walk_list (fun i σ' H' => ∃ (ds : List Int) (st : Int) (x3 x4 x5 : Option V), σ' = [some (.ref c), some (.ref p), some (.int st), x3, x4, x5] ∧ Same H H' ∧ H' p = some (.lst (ds.map V.int)) ∧ ds.length ≤ 60 * i ∧ 0 ≤ st ∧ st < 1000039)
      ⟨[], 6054, none, none, none, rfl, s1, upd_same, by simp, by decide, by decide⟩ (fun i σ' H' _ ⟨_, _, _, _, _, _, e, _⟩ => e.seq hc) ?_ ?_⟩
    · rintro i x σ' H1 H1' hi ⟨ds, st, x3, x4, x5, rfl, e1, hd, hl, h0, h1⟩ ⟨rfl, hx⟩
      rw [List.getElem?_map] at hx
      cases hz : ns[i]? with
      | none => rw [hz] at hx; cases hx
      | some z =>
        rw [hz] at hx
        cases Option.some.inj hx
        have c1 : CMul st 2711 := .inl ⟨by omega, by omega⟩
        refine ⟨_, rfl, .inl ⟨_, rfl, _, rfl, _, rfl, _, _, rfl, rfl, c1, _, rfl, .inl ⟨_, rfl, _, _, rfl, rfl, show (0 : Int) < 1000039 by decide, _, _, rfl, rfl, _, _, rfl, rfl, .inl ⟨_, rfl, _, _, rfl, rfl, show (0 : Int) < 1000039 by decide, ?_⟩⟩⟩⟩
        have h2 := Int.emod_nonneg (st * 2711 + z % 1000039 + 43) (show (1000039 : Int) ≠ 0 by decide)
        have h3 := Int.emod_lt_of_pos (st * 2711 + z % 1000039 + 43) (show (0 : Int) < 1000039 by decide)
        revert h2 h3
        dsimp only
        generalize (st * 2711 + z % 1000039 + 43) % 1000039 = st2
        intro h2 h3
        refine ⟨_, rfl, _, _, rfl, rfl, ⟨by decide, by decide, by decide⟩, _, _, rfl, rfl, _, rfl, ?_⟩
        refine iteB (fun _ => ?_) (fun _ => ?_)
        · refine ⟨(60 : Int), rfl, by decide, by decide, for_it walk_rng (fun j σ' H' => ∃ (ds : List Int) (num : Int) (x4 : Option V), σ' = [some (.ref c), some (.ref p), some (.int st2), some (.int z), x4, some (.int num)] ∧ Same H H' ∧ H' p = some (.lst (ds.map V.int)) ∧ ds.length ≤ 60 * i + j)
            ⟨ds, _, x4, rfl, e1, hd, by omega⟩ (fun _ _ _ _ _ => trivial) ?_ ?_⟩
          · rintro j x σ' H2 H2' hj ⟨ds, num, x4, rfl, e2, hd2, hl2⟩ ⟨rfl, rfl⟩
            have hj : j < 60 := hj
            have hi : i < 63 := by
              have := (List.getElem?_eq_some_iff.mp hz).1
              omega
            refine ⟨_, rfl, _, _, rfl, rfl, _, rfl, iteB (fun _ => ?_) (fun _ => ?_)⟩
            · refine ⟨_, rfl, .inl ⟨rfl, _, SqL.of hd2⟩, _, rfl, _, _, rfl, rfl, show (0 : Int) < 977 by decide, p, _, _, rfl, rfl, hd2, sz5l (by rw [List.length_map]; omega), _, rfl, _, _, rfl, rfl, ⟨by decide, by decide⟩, ?_⟩
              exact ⟨ds ++ [num % 977], _, _, rfl, e2.mut hp, by rw [upd_same, List.map_append]; rfl, by rw [List.length_append, List.length_singleton]; omega⟩
            · exact ⟨ds, num, _, rfl, e2, hd2, by omega⟩
          · rintro σ' H2 ⟨ds, num, x4, rfl, e2, hd2, hl2⟩
            have hl3 : ds.length ≤ 60 * i + 60 := hl2
            exact ⟨ds, st2, _, _, _, rfl, e2, hd2, by omega, h2, h3⟩
        · have hi : i < 63 := by
            have := (List.getElem?_eq_some_iff.mp hz).1
            omega
          have c2 : CMul st2 st2 := .inl ⟨by omega, by omega⟩
          have c3 : CMul 61 st2 := .inl ⟨by decide, by decide⟩
          have c4 : CMul st2 4813 := .inl ⟨by omega, by omega⟩
          refine ⟨_, rfl, .inl ⟨rfl, _, SqL.of hd⟩, _, rfl, _, rfl, _, _, rfl, rfl, c2, _, rfl, _, _, rfl, rfl, c3, _, _, rfl, rfl, .inl ⟨_, rfl, _, _, rfl, rfl, show (0 : Int) < 999917 by decide, _, _, rfl, rfl, show (0 : Int) < 977 by decide, p, _, _, rfl, rfl, hd, sz5l (by rw [List.length_map]; omega), ?_⟩⟩
          have e2 := e1.mut hp (o := .lst (ds.map V.int ++ [.int ((st2 * st2 + 61 * st2) % 999917 % 977)]))
          have hd2 : upd H1' p (.lst (ds.map V.int ++ [.int ((st2 * st2 + 61 * st2) % 999917 % 977)])) p = some (.lst ((ds ++ [(st2 * st2 + 61 * st2) % 999917 % 977]).map V.int)) := by rw [upd_same, List.map_append]; rfl
          refine ⟨_, rfl, .inl ⟨rfl, _, SqL.of hd2⟩, _, rfl, _, _, rfl, rfl, c4, _, _, rfl, rfl, .inl ⟨_, rfl, _, _, rfl, rfl, show (0 : Int) < 999907 by decide, _, _, rfl, rfl, show (0 : Int) < 977 by decide, p, _, _, rfl, rfl, hd2, sz5l (by rw [List.length_map, List.length_append, List.length_singleton]; omega), ?_⟩⟩
          exact ⟨ds ++ [(st2 * st2 + 61 * st2) % 999917 % 977] ++ [(st2 * 4813 + 5) % 999907 % 977], st2, _, _, _, rfl, e2.mut hp, by rw [upd_same]; simp, by rw [List.length_append, List.length_append, List.length_singleton, List.length_singleton]; omega, h2, h3⟩
    · rintro σ' H1 ⟨ds, st, x3, x4, x5, rfl, e1, hd, hl, h0, h1⟩
      rw [List.length_map] at hl
      refine ⟨(220 : Int), rfl, by decide, by decide, for_it walk_rng (fun j σ' H' => ∃ (ds : List Int) (st : Int) (x4 : Option V), σ' = [some (.ref c), some (.ref p), some (.int st), x3, x4, x5] ∧ Same H H' ∧ H' p = some (.lst (ds.map V.int)) ∧ ds.length ≤ 3780 + j ∧ 0 ≤ st ∧ st < 1000039)
        ⟨ds, st, x4, rfl, e1, hd, by omega, h0, h1⟩ (fun _ _ _ _ _ => trivial) ?_ ?_⟩
      · rintro j x σ' H2 H2' hj ⟨ds, st, x4, rfl, e2, hd2, hl2, h0, h1⟩ ⟨rfl, rfl⟩
        have hj : j < 220 := hj
        have c1 : CMul st 2711 := .inl ⟨by omega, by omega⟩
        refine ⟨_, rfl, _, _, rfl, rfl, c1, _, rfl, _, _, rfl, rfl, .inl ⟨by decide, by decide⟩, _, _, rfl, rfl, _, _, rfl, rfl, .inl ⟨_, rfl, _, _, rfl, rfl, show (0 : Int) < 1000039 by decide, ?_⟩⟩
        have h2 := Int.emod_nonneg (st * 2711 + 29 * (j : Int) + 4) (show (1000039 : Int) ≠ 0 by decide)
        have h3 := Int.emod_lt_of_pos (st * 2711 + 29 * (j : Int) + 4) (show (0 : Int) < 1000039 by decide)
        revert h2 h3
        dsimp only
        generalize (st * 2711 + 29 * (j : Int) + 4) % 1000039 = st2
        intro h2 h3
        have c2 : CMul st2 st2 := .inl ⟨by omega, by omega⟩
        refine ⟨_, rfl, .inl ⟨rfl, _, SqL.of hd2⟩, _, rfl, _, rfl, _, _, rfl, rfl, c2, .inl ⟨_, rfl, _, _, rfl, rfl, show (0 : Int) < 999917 by decide, _, _, rfl, rfl, show (0 : Int) < 977 by decide, p, _, _, rfl, rfl, hd2, sz5l (by rw [List.length_map]; omega), ?_⟩⟩
        exact ⟨ds ++ [st2 * st2 % 999917 % 977], st2, _, rfl, e2.mut hp, by rw [upd_same, List.map_append]; rfl, by rw [List.length_append, List.length_singleton]; omega, h2, h3⟩
      · rintro σ' H2 ⟨ds, st, x4, rfl, e2, hd2, hl2, h0, h1⟩
        refine ⟨_, rfl, .inl ⟨rfl, _, SqL.of hd2⟩, _, _, rfl, rfl, hd2, _, rfl, ?_⟩
        exact q p _ (e2.mut hp) ⟨ds.reverse, by rw [upd_same, List.map_reverse]⟩
theorem ok_law_take (T : Txt mg) (D : Dx K mg "_law_take" s__law_take ["_law_digits_here", "_law_many"]) : Cal P w K mg base 1 "_law_take" spTake [] := by
  refine cal D sc__law_take (fun vs H Q E h => ?_) (fun f cdv A outer s H vs Q E hr h => ?_)
  · obtain ⟨d, n, rfl, _⟩ := h
    rfl
  · obtain ⟨d, n, rfl, ⟨ns, hd⟩, hn, q⟩ := h
    have nd := sc__law_take.nd
    refine ⟨_, (pss_cons (ps_if (pt_cmpR op_eq (pe_callB (lenK K) (by rfl) T.len boot_len (pa_cons (pv 0) pa_nil)) pe_int (nomark _)) (pss_one (ps_ret pe_int)) pss_nil)
      (pss_one (ps_ret (pe_op op_mod (pe_callTy call_int1 (by rfl) T.int boot_int (pa_cons (pe_bm0 PySem.F.plainAttrs_list PySem.F.slot_list_pop PySem.F.type_list_pop mt_pop (pv 0)) pa_nil)) (pv 1))))), ?_⟩
    refine ⟨_, rfl, _, _, rfl, .inl (SqL.of hd), ?_⟩
    rw [List.length_map]
    refine ⟨rfl, _, rfl, ?_⟩
    by_cases h0 : ns.length = 0
    · refine iteDT (by rw [h0]; rfl) ?_
      exact q 0 H hn (Rg.refl ⟨ns, hd⟩)
    · refine iteDF (fun z => h0 (by have := V.int.inj z; omega)) ?_
      have hlt : ns.length - 1 < ns.length := by omega
      refine ⟨_, rfl, .inl ⟨rfl, _, SqL.of hd⟩, d, _, .int (ns[ns.length - 1]), rfl, rfl, hd, ?_, .inl ⟨_, rfl, _, rfl, _, _, rfl, rfl, by omega, ?_⟩⟩
      · rw [List.length_map, List.getElem?_map, List.getElem?_eq_getElem hlt]
        rfl
      · have hm := Int.emod_nonneg ns[ns.length - 1] (show (n : Int) ≠ 0 by omega)
        have hm2 := Int.emod_lt_of_pos ns[ns.length - 1] (show (0 : Int) < n by omega)
        have := q (ns[ns.length - 1] % (n : Int)).toNat (upd H d (.lst (ns.map V.int).dropLast)) (by omega) ⟨rl_at hd, ns.dropLast, by rw [upd_same, List.map_dropLast]⟩
        rw [Int.toNat_of_nonneg hm] at this
        exact this
theorem ok_law_entry (T : Txt mg) (D : Dx K mg "_law_entry" s__law_entry ["_law_digits_here", "_law_low", "_law_many", "_law_unit"]) (c__law_take : Cal P w K mg base 1 "_law_take" spTake []) : Cal P w K mg base 2 "_law_entry" spEntry [] := by
  refine cal D sc__law_entry (fun vs H Q E h => ?_) (fun f cdv A outer s H vs Q E hr h => ?_)
  · obtain ⟨d, low, n, u, rfl, _⟩ := h
    rfl
  · obtain ⟨d, low, n, u, rfl, hd, hl, hn, hu, q⟩ := h
    have nd := sc__law_entry.nd
    refine ⟨_, (pss_cons (ps_set (i := 4) nd rfl (Or.inl rfl) (pe_c c__law_take hr (by decide) (by rfl) (pa_cons (pv 0) (pa_cons (pe_op op_add (pv 2) (pe_op op_fdiv (pv 2) pe_int)) pa_nil))))
      (pss_one (ps_ret (pe_ifExp (pt_cmpR op_ge (pv 4) (pv 2) (nomark _)) pe_non (pe_op op_mul (pe_op op_add (pv 4) (pv 1)) (pv 3)))))), ?_⟩
    have en : (n : Int) + (n : Int) / 3 = ((n + n / 3 : Nat) : Int) := by omega
    refine ⟨_, rfl, _, rfl, _, rfl, _, _, rfl, rfl, ⟨by decide, by decide⟩, _, _, rfl, rfl, d, n + n / 3, by rw [← en]; rfl, hd, by omega, fun k H1 hk e1 => ?_⟩
    refine ⟨_, rfl, _, rfl, _, _, rfl, rfl, _, rfl, ?_⟩
    by_cases hkn : (k : Int) ≥ (n : Int)
    · exact iteDT hkn (q none _ (fun _ g z => by cases z) e1)
    · refine iteDF hkn ⟨_, rfl, _, rfl, _, _, rfl, rfl, _, rfl, _, _, rfl, rfl, .inl ⟨by omega, by omega⟩, ?_⟩
      exact q (some _) _ (fun hlow g z => by cases Option.some.inj z; exact Int.mul_nonneg (by omega) hu) e1
theorem ok_law_square (T : Txt mg) (D : Dx K mg "_law_square" s__law_square ["_law_digits_here", "_law_many", "_law_unit"]) (c__law_take : Cal P w K mg base 1 "_law_take" spTake []) (c__law_entry : Cal P w K mg base 2 "_law_entry" spEntry []) : Cal P w K mg base 3 "_law_square" (spSquare K) [] := by
  refine cal D sc__law_square (fun vs H Q E h => ?_) (fun f cdv A outer s H vs Q E hr h => ?_)
  · obtain ⟨d, n, u, rfl, _⟩ := h
    rfl
  · obtain ⟨d, n, u, rfl, hd, hn, hu, q⟩ := h
    have nd := sc__law_square.nd
    refine ⟨_, (pss_cons (ps_set (i := 3) nd rfl (Or.inr rfl) (pe_op op_mul (pe_ix (ixT K) (pe_tup (pa_cons pe_int (pa_cons pe_int (pa_cons (pe_un un_neg pe_int) pa_nil)))) (pe_c c__law_take hr (by decide) (by rfl) (pa_cons (pv 0) (pa_cons pe_int pa_nil))) (fun _ _ => rfl)) (pv 2)))
      (pss_cons (ps_set (i := 4) nd rfl (Or.inl rfl) (pe_lst pa_nil))
      (pss_cons (ps_for PassesOwn.never rfl (pi_range1 (by rfl) T.range (pa_cons (pv 1) pa_nil)) (pg_name (i := 5) nd rfl (Or.inr rfl))
        (pss_cons (ps_set (i := 6) nd rfl (Or.inr rfl) (pe_lc (own := [("_law_y", 7)]) (g := gName 7) (tt := tYes) rfl nd (pi_range1 (by rfl) T.range (pa_cons (pv 1) pa_nil)) (blkOk_by (N := ["_law_digits_here", "_law_many", "_law_unit", "_law_slope", "_law_rows", "_law_x", "_law_row", "_law_y"]) (sc := fnScope s__law_square) (by decide +kernel)) (fun _ _ _ _ _ => (pg_name (i := 7) nd rfl (Or.inl rfl))) (fun _ _ _ _ _ => pts_nil) (fun _ _ _ _ _ => (pe_c c__law_entry hr (by decide) (by rfl) (pa_cons (pv 0) (pa_cons (pe_un un_neg pe_int) (pa_cons pe_int (pa_cons (pv 2) pa_nil))))))))
        (pss_cons (ps_set (i := 6) nd rfl (Or.inr rfl) (pe_lc (own := [("_law_y", 7)]) (g := gName 7) (tt := tYes) rfl nd (pi_range1 (by rfl) T.range (pa_cons (pv 1) pa_nil)) (blkOk_by (N := ["_law_digits_here", "_law_many", "_law_unit", "_law_slope", "_law_rows", "_law_x", "_law_row", "_law_y"]) (sc := fnScope s__law_square) (by decide +kernel)) (fun _ _ _ _ _ => (pg_name (i := 7) nd rfl (Or.inl rfl))) (fun _ _ _ _ _ => pts_nil) (fun _ _ _ _ _ => (pe_ifExp (pt_cmpR op_isN (pe_ix (ixL K) (pv 6) (pv 7) (fun _ _ => rfl)) pe_non (nomark _)) pe_non (pe_op op_add (pe_ix (ixL K) (pv 6) (pv 7) (fun _ _ => rfl)) (pe_op op_mul (pe_op op_sub (pv 7) (pv 5)) (pv 3)))))))
        (pss_cons (ps_asg pe_int (pg_sub (pv 6) (pv 5) set_list))
        (pss_one (ps_expr (pe_bm PySem.F.plainAttrs_list PySem.F.slot_list_append PySem.F.type_list_append mt_append (pv 4) (pa_cons (pe_callTy (tupK K) (by rfl) T.tuple boot_tuple (pa_cons (pv 6) pa_nil)) pa_nil))))))))
      (pss_one (ps_ret (pe_callTy (tupK K) (by rfl) T.tuple boot_tuple (pa_cons (pv 4) pa_nil))))))), ?_⟩
    refine ⟨_, rfl, sz5 (by show 3 ≤ 100000; decide), fun p fp => ?_⟩
    generalize eH1 : upd H p _ = H1
    have e1 : Same H H1 := eH1 ▸ Same.new fp
    have hp : H1 p = some _ := eH1 ▸ upd_same
    have r1 := Rg.of hd e1
    refine ⟨_, rfl, d, 3, rfl, r1.dg, by decide, fun k H2 hk e2 => ?_⟩
    have r2 := r1.trans e2
    have hp2 : SqT K H2 p [.int 0, .int 6, .int (-5)] := e2.rl.sqt (SqT.of hp)
    have hs : ∃ sl : Int, -10 ≤ sl ∧ sl ≤ 10 ∧ [V.int 0, .int 6, .int (-5)][k]? = some (.int sl) := by
      match k, hk with
      | 0, _ => exact ⟨0, by decide, by decide, rfl⟩
      | 1, _ => exact ⟨6, by decide, by decide, rfl⟩
      | 2, _ => exact ⟨-5, by decide, by decide, rfl⟩
    obtain ⟨sl, hs1, hs2, hs3⟩ := hs
    refine ⟨_, _, _, _, rfl, rfl, hp2, atI_nat hs3, _, rfl, _, _, rfl, rfl, .inl ⟨by omega, by omega⟩, sz5 (by show 0 ≤ 100000; decide), nwL fun pr H3 e3 f3 hpr => ?_⟩
    have r3 := r2.more e3
    have npr : pr ≠ d := fun z => by
      obtain ⟨ns, hns⟩ := r2.dg
      rw [← z, f3] at hns
      cases hns
    have n3 : H pr = none := r2.free f3
    refine ⟨_, rfl, (n : Int), rfl, by omega, by omega, for_it walk_rng (fun i σ' H' => ∃ x5 x6 x7, σ' = [some (.ref d), some (.int (n : Int)), some (.int u), some (.int (sl * u)), some (.ref pr), x5, x6, x7] ∧ Rg d H H' ∧ RowsE K H' pr n i (fun x f => f x = some 0))
      ⟨none, none, none, rfl, r3, .nil hpr⟩ (fun _ _ _ _ _ => trivial) ?_ ?_⟩
    · rintro i x σ' H4 H4' hi ⟨x5, x6, x7, rfl, r4, w4⟩ ⟨rfl, rfl⟩
      have hi : i < n := hi
      refine ⟨_, rfl, (n : Int), rfl, by omega, by omega, lcRowD d (fun _ _ => True) walk_rng (by omega) r4.dg (fun _ _ => trivial) YFn.same ?_ ?_⟩
      · rintro j x H5 H5' Ky hj e5 ⟨rfl, rfl⟩ ky
        exact ⟨rfl, _, rfl, _, rfl, _, rfl, d, -3, 7, u, rfl, e5.dg, by decide, by decide, hu, fun e H6 _ e6 => ky _ _ e6 trivial⟩
      · intro D5 f5 H5 hD5 e5 hd5 _
        have w5 := w4.rl e5.rl npr
        have r5 := r4.trans e5
        refine ⟨_, rfl, (n : Int), rfl, by omega, by omega, lcRowD d (fun _ _ => True) walk_rng (by omega) r5.dg (fun _ _ => trivial) YFn.same ?_ ?_⟩
        · rintro j x H6 H6' Ky hj e6 ⟨rfl, rfl⟩ ky
          have hj : j < n := hj
          have nD5 : D5 ≠ d := e5.rl.out hD5
          have hd6 := e6.lst nD5 hd5
          refine ⟨rfl, _, rfl, _, rfl, _, _, _, _, rfl, rfl, SqL.of hd6, atI_nat (row_get hj), rfl, _, rfl, ?_⟩
          cases hf : f5 j with
          | none => exact iteDT rfl (ky none _ (Rg.refl e6.dg) trivial)
          | some g =>
            have hg := row_get (f := f5) hj
            rw [hf] at hg
            refine iteDF (fun z => by cases z) ⟨_, rfl, _, rfl, _, _, _, _, rfl, rfl, SqL.of hd6, atI_nat hg, _, rfl, _, rfl, _, _, rfl, rfl, _, rfl, _, _, rfl, rfl, .inl ⟨by omega, by omega⟩, _, _, rfl, rfl, ky (some _) _ (Rg.refl e6.dg) trivial⟩
        · intro D6 f6 H6 hD6 e6 hd6 _
          have w6 := w5.rl e6.rl npr
          have r6 := r5.trans e6
          have nD6 : D6 ≠ d := e6.rl.out hD6
          have n6 : H D6 = none := r5.free hD6
          have npD : pr ≠ D6 := fun z => by
            obtain ⟨ys, h1, _⟩ := w5
            rw [z, hD6] at h1
            cases h1
          refine ⟨_, rfl, _, rfl, D6, _, _, i, rfl, rfl, hd6, ixN_nat (by rw [row_len]; exact hi), ?_⟩
          have e0 : (row n f6).set i (.int 0) = row n (fun k => if k = i then some 0 else f6 k) := row_set (e := some 0)
          generalize eH7 : upd H6 D6 _ = H7
          replace eH7 : upd H6 D6 (.lst (row n (fun k => if k = i then some 0 else f6 k))) = H7 := (congrArg (fun z => upd H6 D6 (.lst z)) e0).symm.trans eH7
          have r7 : Rg d H H7 := eH7 ▸ r6.mut n6
          have w7 : RowsE K H7 pr n i (fun x f => f x = some 0) := eH7 ▸ w6.rl (rl_at hd6) npD
          have h7 : H7 D6 = some _ := eH7 ▸ upd_same
          obtain ⟨ys, h1, h2, _⟩ := id w7
          refine ⟨_, rfl, .inl ⟨rfl, _, SqL.of h1⟩, _, rfl, D6, _, rfl, SqL.of h7, nwT fun l H8 e8 f8 hl8 => ?_⟩
          obtain ⟨ys, h1, h2, w8⟩ := (w7.same e8).push (y := .ref l) (f := fun k => if k = i then some 0 else f6 k) ⟨l, rfl, SqT.of hl8⟩ (if_pos rfl)
          exact ⟨pr, _, _, rfl, rfl, h1, sz5l (by omega), _, _, _, rfl, (r7.more e8).mut n3, w8⟩
    · rintro σ' H4 ⟨x5, x6, x7, rfl, r4, w4⟩
      obtain ⟨M, ys, h1, hM, tab⟩ := w4.tab
      exact ⟨_, rfl, pr, _, rfl, SqL.of h1, nwT fun l H5 e5 f5 hl5 => q _ M _ (r4.more e5) (tab l _ e5 (SqT.of hl5)) hM⟩
theorem ok_law_lot (T : Txt mg) (D : Dx K mg "_law_lot" s__law_lot ["_law_digits_here", "_law_many"]) (c__law_take : Cal P w K mg base 1 "_law_take" spTake []) : Cal P w K mg base 2 "_law_lot" (spLotL K) [] := by
  refine cal D sc__law_lot (fun vs H Q E h => ?_) (fun f cdv A outer s H vs Q E hr h => ?_)
  · obtain ⟨d, n, rfl, _⟩ := h
    rfl
  · obtain ⟨d, n, rfl, hd, hn, hn2, q⟩ := h
    have nd := sc__law_lot.nd
    refine ⟨_, (pss_cons (ps_set (i := 2) nd rfl (Or.inl rfl) (pe_callTy (tupDK K) (by rfl) T.tuple boot_tuple (pa_cons (pe_lc (own := [("_law_x", 3)]) (g := gName 3) (tt := _) rfl nd (pi_range1 (by rfl) T.range (pa_cons (pv 1) pa_nil)) (blkOk_by (N := ["_law_digits_here", "_law_many", "_law_lot_here", "_law_x"]) (sc := fnScope s__law_lot) (by decide +kernel)) (fun _ _ _ _ _ => (pg_name (i := 3) nd rfl (Or.inl rfl))) (fun _ _ _ _ _ => (pts_one (pt_cmpR op_gt (pe_c c__law_take hr (by decide) (by rfl) (pa_cons (pv 0) (pa_cons pe_int pa_nil))) pe_int (nomark _)))) (fun _ _ _ _ _ => (pv 3))) pa_nil)))
      (pss_one (ps_ret (pe_ifExp (pt_cmpR op_gt (pe_callB (lenK K) (by rfl) T.len boot_len (pa_cons (pv 2) pa_nil)) pe_int (nomark _)) (pv 2) (pe_tupD (pa_cons (pe_c c__law_take hr (by decide) (by rfl) (pa_cons (pv 0) (pa_cons (pv 1) pa_nil))) pa_nil)))))), ?_⟩
    refine ⟨_, rfl, (n : Int), rfl, by omega, by omega, lcFD d (fun D i acc H' => ∃ (k : Nat) (o : Nat → Nat), acc = row k (wholeN o) ∧ Lot i k o ∧ k ≤ i) walk_rng (by omega) hd (fun _ _ => trivial) YFn.same
      (fun D hD => ⟨0, id, rfl, ⟨fun i h => absurd h (Nat.not_lt_zero _), fun i j _ h => absurd h (Nat.not_lt_zero _)⟩, Nat.le_refl 0⟩) (fun _ _ _ _ _ _ h => h) (fun _ _ _ _ _ _ h => h) ?_ ?_⟩
    · rintro D i x acc H1 H1' Ky Kn hi hD e1 hd1 ⟨rfl, rfl⟩ ⟨k, o, rfl, L, hk⟩ ky kn
      refine ⟨rfl, _, rfl, d, 3, rfl, e1.dg, by decide, fun t H2 ht e2 => ⟨_, _, rfl, rfl, _, rfl, iteB (fun _ => ?_) (fun _ => ?_)⟩⟩
      · refine ⟨_, rfl, ky _ _ e2 ⟨k + 1, fun j => if j < k then o j else i, ?_, ⟨fun j hj => ?_, fun a b hab hb => ?_⟩, by omega⟩⟩
        · rw [row_succ]
          congr 1
          · exact row_congr fun j hj => by show some ((o j : Nat) : Int) = some (((if j < k then o j else i) : Nat) : Int); rw [if_pos hj]
          · show [V.int (i : Nat)] = [enc (some (((if k < k then o k else i) : Nat) : Int))]
            rw [if_neg (Nat.lt_irrefl _)]
            rfl
        · show (if j < k then o j else i) < i + 1
          by_cases h : j < k
          · rw [if_pos h]; have := L.lt j h; omega
          · rw [if_neg h]; omega
        · show (if a < k then o a else i) < (if b < k then o b else i)
          rw [if_pos (by omega)]
          by_cases h : b < k
          · rw [if_pos h]; exact L.up a b hab h
          · rw [if_neg h]; exact L.lt a (by omega)
      · exact kn _ e2 ⟨k, o, rfl, ⟨fun j hj => by have := L.lt j hj; omega, L.up⟩, by omega⟩
    · rintro D ys H1 hD e1 hd1 ⟨k, o, rfl, L, hk⟩
      refine ⟨D, _, rfl, SqL.of hd1, nwD fun l H2 e2 _ hl => ?_⟩
      have r2 := e1.more e2
      refine ⟨_, rfl, l, _, rfl, .inr hl.sq, ?_⟩
      rw [row_len]
      refine ⟨_, _, rfl, rfl, _, rfl, ?_⟩
      by_cases h0 : (k : Int) > 0
      · exact iteDT h0 ⟨_, rfl, q _ k o _ r2 ⟨l, rfl, hl⟩ L (by omega) hk⟩
      · refine iteDF h0 ⟨_, rfl, _, rfl, d, n, rfl, r2.dg, hn, fun t H3 ht e3 => ⟨sz5 (show 1 ≤ 100000 by decide), nwD fun p H4 e4 _ hp => ?_⟩⟩
        exact q _ 1 (fun _ => t) _ ((r2.trans e3).more e4) ⟨p, rfl, hp⟩ ⟨fun _ _ => ht, fun i j h1 h2 => by omega⟩ (by decide) (by omega)
theorem ok_law_part (T : Txt mg) (D : Dx K mg "_law_part" s__law_part ["_law_digits_here", "_law_many", "_law_unit"]) (c__law_take : Cal P w K mg base 1 "_law_take" spTake []) (c__law_square : Cal P w K mg base 3 "_law_square" (spSquare K) []) : Cal P w K mg base 4 "_law_part" (spPart K) [] := by
  refine cal D sc__law_part (fun vs H Q E h => ?_) (fun f cdv A outer s H vs Q E hr h => ?_)
  · obtain ⟨d, n, u, rfl, _⟩ := h
    rfl
  · obtain ⟨d, n, u, rfl, hd, hn, hu, q⟩ := h
    have fin : ∀ (H2 H5 H6 H7 : Hp) (a wa D5 : Addr) (tv : V) (t : Mx) (f5 : Nat → Option Int), Rg d H H2 → IsTab K H2 tv n n t → (∀ x, x < n → t x x = some 0) → Rg d H2 H5 → Same H5 H6 → Same H6 H7 → H6 wa = some (.tup (row n f5)) → H7 a = some (.tup [tv, .ref wa]) → (∀ i, i < n → ∃ g, f5 i = some g ∧ 0 ≤ g) → Q (.ref a) H7 := fun H2 H5 H6 H7 a wa D5 tv t f5 r2 ht h0 e5 e6 e7 h6 h7 hf => by
      have e0 : row n f5 = row n (whole fun i => (f5 i).getD 0) := row_congr fun i hi => by
        obtain ⟨g, e, _⟩ := hf i hi
        show f5 i = some ((f5 i).getD 0)
        rw [e]
        rfl
      rw [e0] at h6
      have r7 := (e5.more e6).more e7
      exact q a wa tv t _ H7 (r2.trans r7) (SqT.of h7) (ht.rl r7.rl) (SqT.of (e7 _ _ h6)) h0 fun i hi => by
        obtain ⟨g, e, z⟩ := hf i hi
        show 0 ≤ (f5 i).getD 0
        rw [e]
        exact z
    have nd := sc__law_part.nd
    refine ⟨_, (pss_cons (ps_set (i := 3) nd rfl (Or.inr rfl) (pe_ifExp (pt_cmpR op_eq (pe_c c__law_take hr (by decide) (by rfl) (pa_cons (pv 0) (pa_cons pe_int pa_nil))) pe_int (nomark _)) pe_int pe_int))
      (pss_cons (ps_set (i := 4) nd rfl (Or.inl rfl) (pe_c c__law_square hr (by decide) (by rfl) (pa_cons (pv 0) (pa_cons (pv 1) (pa_cons (pv 2) pa_nil)))))
      (pss_one (ps_ret (pe_tup (pa_cons (pv 4) (pa_cons (pe_callTy (tupK K) (by rfl) T.tuple boot_tuple (pa_cons (pe_lc (own := [("_law_x", 5)]) (g := gName 5) (tt := tYes) rfl nd (pi_range1 (by rfl) T.range (pa_cons (pv 1) pa_nil)) (blkOk_by (N := ["_law_digits_here", "_law_many", "_law_unit", "_law_wide", "_law_table", "_law_x"]) (sc := fnScope s__law_part) (by decide +kernel)) (fun _ _ _ _ _ => (pg_name (i := 5) nd rfl (Or.inl rfl))) (fun _ _ _ _ _ => pts_nil) (fun _ _ _ _ _ => (pe_op op_mul (pe_c c__law_take hr (by decide) (by rfl) (pa_cons (pv 0) (pa_cons (pv 3) pa_nil))) (pv 2)))) pa_nil)) pa_nil))))))), ?_⟩
    refine ⟨_, rfl, d, 5, rfl, hd, by decide, fun k H1 hk e1 => ⟨rfl, _, rfl, ?_⟩⟩
    refine iteB (fun _ => ?_) (fun _ => ?_)
    · refine ⟨_, rfl, _, rfl, _, rfl, d, n, u, rfl, e1.dg, hn, hu, fun tv t H2 e2 ht h0 => ?_⟩
      refine ⟨_, rfl, _, rfl, (n : Int), rfl, by omega, by omega, lcRowD d (fun _ e => ∃ g, e = some g ∧ 0 ≤ g) walk_rng (by omega) e2.dg (fun _ _ => trivial) YFn.same ?_ ?_⟩
      · rintro j x H5 H5' Ky hj e5 ⟨rfl, rfl⟩ ky
        exact ⟨rfl, _, rfl, _, rfl, d, 1, rfl, e5.dg, by decide, fun k H6 hk e6 => ⟨_, rfl, _, _, rfl, rfl, .inl ⟨by omega, by omega⟩, ky (some _) _ e6 ⟨_, rfl, Int.mul_nonneg (by omega) hu⟩⟩⟩
      · intro D5 f5 H5 hD5 e5 hd5 hf5
        exact ⟨D5, _, rfl, SqL.of hd5, nwT fun wa H6 e6 _ h6 => ⟨sz5 (show 2 ≤ 100000 by decide), nwT fun a H7 e7 _ h7 => fin H2 H5 H6 H7 a wa D5 tv t f5 (e1.trans e2) ht h0 e5 e6 e7 h6 h7 hf5⟩⟩
    · refine ⟨_, rfl, _, rfl, _, rfl, d, n, u, rfl, e1.dg, hn, hu, fun tv t H2 e2 ht h0 => ?_⟩
      refine ⟨_, rfl, _, rfl, (n : Int), rfl, by omega, by omega, lcRowD d (fun _ e => ∃ g, e = some g ∧ 0 ≤ g) walk_rng (by omega) e2.dg (fun _ _ => trivial) YFn.same ?_ ?_⟩
      · rintro j x H5 H5' Ky hj e5 ⟨rfl, rfl⟩ ky
        exact ⟨rfl, _, rfl, _, rfl, d, 5, rfl, e5.dg, by decide, fun k H6 hk e6 => ⟨_, rfl, _, _, rfl, rfl, .inl ⟨by omega, by omega⟩, ky (some _) _ e6 ⟨_, rfl, Int.mul_nonneg (by omega) hu⟩⟩⟩
      · intro D5 f5 H5 hD5 e5 hd5 hf5
        exact ⟨D5, _, rfl, SqL.of hd5, nwT fun wa H6 e6 _ h6 => ⟨sz5 (show 2 ≤ 100000 by decide), nwT fun a H7 e7 _ h7 => fin H2 H5 H6 H7 a wa D5 tv t f5 (e1.trans e2) ht h0 e5 e6 e7 h6 h7 hf5⟩⟩
theorem ok_law_duties (T : Txt mg) (D : Dx K mg "_law_duties" s__law_duties ["_law_digits_here", "_law_many", "_law_other", "_law_unit"]) (c__law_entry : Cal P w K mg base 2 "_law_entry" spEntry []) : Cal P w K mg base 3 "_law_duties" (spDuties K) [] := by
  refine cal D sc__law_duties (fun vs H Q E h => ?_) (fun f cdv A outer s H vs Q E hr h => ?_)
  · obtain ⟨d, n, m, u, rfl, _⟩ := h
    rfl
  · obtain ⟨d, n, m, u, rfl, hd, hn, hm, hu, q⟩ := h
    have nd := sc__law_duties.nd
    refine ⟨_, (pss_cons (ps_set (i := 4) nd rfl (Or.inl rfl) (pe_lst pa_nil))
      (pss_cons (ps_for PassesOwn.never rfl (pi_range1 (by rfl) T.range (pa_cons (pv 1) pa_nil)) (pg_name (i := 5) nd rfl (Or.inl rfl))
        (pss_one (ps_expr (pe_bm PySem.F.plainAttrs_list PySem.F.slot_list_append PySem.F.type_list_append mt_append (pv 4) (pa_cons (pe_callTy (tupK K) (by rfl) T.tuple boot_tuple (pa_cons (pe_lc (own := [("_law_y", 6)]) (g := gName 6) (tt := tYes) rfl nd (pi_range1 (by rfl) T.range (pa_cons (pv 2) pa_nil)) (blkOk_by (N := ["_law_digits_here", "_law_many", "_law_other", "_law_unit", "_law_rows", "_law_x", "_law_y"]) (sc := fnScope s__law_duties) (by decide +kernel)) (fun _ _ _ _ _ => (pg_name (i := 6) nd rfl (Or.inl rfl))) (fun _ _ _ _ _ => pts_nil) (fun _ _ _ _ _ => (pe_c c__law_entry hr (by decide) (by rfl) (pa_cons (pv 0) (pa_cons pe_int (pa_cons pe_int (pa_cons (pv 3) pa_nil))))))) pa_nil)) pa_nil)))))
      (pss_one (ps_ret (pe_callTy (tupK K) (by rfl) T.tuple boot_tuple (pa_cons (pv 4) pa_nil)))))), ?_⟩
    refine ⟨sz5 (by show 0 ≤ 100000; decide), nwL fun pr H3 e3 f3 hpr => ?_⟩
    have r3 := Rg.of hd e3
    have npr : pr ≠ d := fun z => by
      obtain ⟨ns, hns⟩ := hd
      rw [← z, f3] at hns
      cases hns
    refine ⟨_, rfl, (n : Int), rfl, by omega, by omega, for_it walk_rng (fun i σ' H' => ∃ x5 x6, σ' = [some (.ref d), some (.int (n : Int)), some (.int (m : Int)), some (.int u), some (.ref pr), x5, x6] ∧ Rg d H H' ∧ RowsE K H' pr m i (fun _ f => ∀ j g, j < m → f j = some g → 0 ≤ g))
      ⟨none, none, rfl, r3, .nil hpr⟩ (fun _ _ _ _ _ => trivial) ?_ ?_⟩
    · rintro i x σ' H4 H4' hi ⟨x5, x6, rfl, r4, w4⟩ ⟨rfl, rfl⟩
      obtain ⟨ys, h1, h2, _⟩ := id w4
      refine ⟨_, rfl, .inl ⟨rfl, _, SqL.of h1⟩, _, rfl, (m : Int), rfl, by omega, by omega, lcRowD d (fun _ e => ∀ g, e = some g → 0 ≤ g) walk_rng (by omega) r4.dg (fun _ _ => trivial) YFn.same ?_ ?_⟩
      · rintro j x H5 H5' Ky hj e5 ⟨rfl, rfl⟩ ky
        exact ⟨rfl, _, rfl, _, rfl, d, 0, 7, u, rfl, e5.dg, by decide, by decide, hu, fun e H6 he e6 => ky _ _ e6 (he (Int.le_refl 0))⟩
      · intro D5 f5 H5 hD5 e5 hd5 hf5
        refine ⟨D5, _, rfl, SqL.of hd5, nwT fun l H6 e6 _ h6 => ?_⟩
        obtain ⟨ys, h1, h2, w8⟩ := ((w4.rl e5.rl npr).same e6).push (y := .ref l) (f := f5) ⟨l, rfl, SqT.of h6⟩ (fun j g hj e => hf5 j hj g e)
        have hi : i < n := hi
        exact ⟨pr, _, _, rfl, rfl, h1, sz5l (by omega), _, _, rfl, ((r4.trans e5).more e6).mut f3, w8⟩
    · rintro σ' H4 ⟨x5, x6, rfl, r4, w4⟩
      obtain ⟨M, ys, h1, hM, tab⟩ := w4.tab
      exact ⟨_, rfl, pr, _, rfl, SqL.of h1, nwT fun l H5 e5 f5 hl5 => q _ M _ (r4.more e5) (tab l _ e5 (SqT.of hl5)) fun i j g hi hj e => hM i hi j g hj e⟩
end
end K60

namespace K60
open PySem L2
open C8 (Cal Def Met Mak cal0 met0 mak0 pe_c pe_mk pe_mt pe_mt0 pe_gc InsC call_isC fnScope fnBody fnArgs clsBody fnScope_by)

/-! ### the law's own comparison -/
def spBase (K : PySem.W.Frag) : Sp := fun vs H Q _ => (∃ a b : Option Int, vs = [enc a, enc b] ∧ Q (.bl (decide (a = b))) H) ∨ (∃ a b : Bool, vs = [.bl a, .bl b] ∧ Q (.bl (a == b)) H) ∨
  (∃ a xs, SqT K H a xs ∧ (vs = [.ref a, .non] ∨ vs = [.non, .ref a]) ∧ Q (.bl false) H)
def spStep (K : PySem.W.Frag) (sp : Sp) : Sp := fun vs H Q E => spBase K vs H Q E ∨ ∃ (m : Nat) (a b : Addr) (xs ys : List V) (R : Nat → Prop), vs = [.ref a, .ref b] ∧ SqT K H a xs ∧ SqT K H b ys ∧ xs.length = m ∧ ys.length = m ∧ m ≤ 1000 ∧
  (∀ (i : Nat) (x y : V) (H' : Hp) (Q' : VK), xs[i]? = some x → ys[i]? = some y → Same H H' → (∀ (b : Bool) (H2 : Hp), Same H' H2 → (b = true ↔ R i) → Q' (.bl b) H2) → ∀ E', sp [x, y] H' Q' E') ∧
  ∀ (b : Bool) (H' : Hp), Same H H' → (b = true ↔ ∀ i, i < m → R i) → Q (.bl b) H'
def spNever : Sp := fun _ _ _ _ => False
abbrev spS1 (K : PySem.W.Frag) : Sp := spStep K spNever
abbrev spS2 (K : PySem.W.Frag) : Sp := spStep K (spS1 K)
abbrev spS3 (K : PySem.W.Frag) : Sp := spStep K (spS2 K)
section
variable {K : PySem.W.Frag} {H : Hp} {Q : VK} {E : XK}
theorem same_ent {a b : Option Int} (q : ∀ (c : Bool) (H2 : Hp), Same H H2 → (c = true ↔ a = b) → Q (.bl c) H2) : spS1 K [enc a, enc b] H Q E := .inl (.inl ⟨a, b, rfl, q _ _ (Same.refl H) ⟨fun z => of_decide_eq_true z, fun z => decide_eq_true z⟩⟩)
theorem same_bl {a b : Bool} (q : Q (.bl (a == b)) H) : spS3 K [.bl a, .bl b] H Q E := .inl (.inr (.inl ⟨a, b, rfl, q⟩))
theorem same_row {v1 v2 : V} {n : Nat} {f g : Nat → Option Int} (h1 : IsRow K H v1 n f) (h2 : IsRow K H v2 n g) (hn : n ≤ 1000) (q : ∀ (c : Bool) (H2 : Hp), Same H H2 → (c = true ↔ ∀ j, j < n → f j = g j) → Q (.bl c) H2) : spS2 K [v1, v2] H Q E := by
  obtain ⟨a, rfl, q1⟩ := h1
  obtain ⟨b, rfl, q2⟩ := h2
  refine .inr ⟨n, a, b, _, _, fun j => f j = g j, rfl, q1, q2, row_len _ _, row_len _ _, hn, fun i x y H' Q' hx hy e k E' => ?_, q⟩
  obtain ⟨_, rfl⟩ := row_is hx
  obtain ⟨_, rfl⟩ := row_is hy
  exact same_ent k
theorem same_tab {v1 v2 : V} {n m : Nat} {M M' : Mx} (h1 : IsTab K H v1 n m M) (h2 : IsTab K H v2 n m M') (hn : n ≤ 1000) (hm : m ≤ 1000) (q : ∀ (c : Bool) (H2 : Hp), Same H H2 → (c = true ↔ ∀ i j, i < n → j < m → M i j = M' i j) → Q (.bl c) H2) : spS3 K [v1, v2] H Q E := by
  obtain ⟨a, xs, rfl, q1, l1, r1⟩ := h1
  obtain ⟨b, ys, rfl, q2, l2, r2⟩ := h2
  refine .inr ⟨n, a, b, xs, ys, fun i => ∀ j, j < m → M i j = M' i j, rfl, q1, q2, l1, l2, hn, fun i x y H' Q' hx hy e k E' => same_row ((r1 i x hx).same e) ((r2 i y hy).same e) hm k, fun c H2 e hc => q c H2 e ⟨fun z i j hi hj => hc.mp z i hi j hj, fun z => hc.mpr fun i hi j hj => z i j hi hj⟩⟩
theorem same_og {v1 v2 : V} {k : Nat} {r1 r2 : Option Mx} (h1 : IsOG K H v1 k r1) (h2 : IsOG K H v2 k r2) (hk : k ≤ 1000) (q : ∀ (c : Bool) (H2 : Hp), Same H H2 → (c = true ↔ EqOG k r1 r2) → Q (.bl c) H2) : spS3 K [v1, v2] H Q E := by
  cases r1 with
  | none =>
    have e1 : v1 = .non := h1
    subst e1
    cases r2 with
    | none =>
      have e2 : v2 = .non := h2
      subst e2
      exact .inl (.inl ⟨none, none, rfl, q _ _ (Same.refl H) ⟨fun _ => trivial, fun _ => rfl⟩⟩)
    | some G =>
      obtain ⟨a, xs, rfl, q1, _⟩ := (show IsTab K H v2 k k G from h2)
      exact .inl (.inr (.inr ⟨a, xs, q1, .inr rfl, q _ _ (Same.refl H) ⟨fun z => (by cases z), fun z => z.elim⟩⟩))
  | some G1 =>
    cases r2 with
    | none =>
      have e2 : v2 = .non := h2
      subst e2
      obtain ⟨a, xs, rfl, q1, _⟩ := (show IsTab K H v1 k k G1 from h1)
      exact .inl (.inr (.inr ⟨a, xs, q1, .inl rfl, q _ _ (Same.refl H) ⟨fun z => (by cases z), fun z => z.elim⟩⟩))
    | some G2 => exact same_tab h1 h2 hk hk q
end

/- _law_same: slots 0 _law_told 1 _law_due 2 _law_k; cells ['_law_due', '_law_told'] -/
abbrev s__law_same : Stmt := top 41
theorem sc__law_same : FnScope ["_law_told", "_law_due", "_law_k"] ["_law_told", "_law_due"] (fnScope s__law_same) := fnScope_by (by decide +kernel)
section
variable {P : Program} {w : World} {K : PySem.W.Frag} {mg : Str → Option Value} {base : Heap}
theorem same_step (T : Txt mg) (D : Dx K mg "_law_same" s__law_same ["_law_told", "_law_due"]) {l : Nat} {sp : Sp} (c__law_same : Cal P w K mg base l "_law_same" sp []) : Cal P w K mg base (l + 1) "_law_same" (spStep K sp) [] := by
  refine cal D sc__law_same (fun vs H Q E h => ?_) (fun f cdv A outer s H vs Q E hr h => ?_)
  · rcases h with (⟨a, b, rfl, _⟩ | ⟨a, b, rfl, _⟩ | ⟨a, xs, _, rfl | rfl, _⟩) | ⟨m, a, b, xs, ys, R, rfl, _⟩ <;> rfl
  · skip
    have nd := sc__law_same.nd
    refine ⟨_, (pss_cons (ps_if (pt_cmpR op_isN (pv 1) pe_non (nomark _)) (pss_one (ps_ret (pe_cmpR op_isN (pv 0) pe_non (nomark _)))) pss_nil)
      (pss_cons (ps_if (PW.pt (pw_or (pt_val (pe_callB (isiK K) (by rfl) T.isinstance boot_isinstance (pa_cons (pv 1) (pa_cons (pe_ty (by rfl) T.bool boot_bool) pa_nil)))) (pw_or1 (pt_val (pe_callB (isiK K) (by rfl) T.isinstance boot_isinstance (pa_cons (pv 0) (pa_cons (pe_ty (by rfl) T.bool boot_bool) pa_nil))))))) (pss_one (ps_ret (pe_and (pe_callB (isiK K) (by rfl) T.isinstance boot_isinstance (pa_cons (pv 1) (pa_cons (pe_ty (by rfl) T.bool boot_bool) pa_nil))) (pe_and (pe_callB (isiK K) (by rfl) T.isinstance boot_isinstance (pa_cons (pv 0) (pa_cons (pe_ty (by rfl) T.bool boot_bool) pa_nil))) (pe_one (pe_cmpR op_eq (pv 0) (pv 1) (nomark _))))))) pss_nil)
      (pss_cons (ps_if (pt_val (pe_callB (isiK K) (by rfl) T.isinstance boot_isinstance (pa_cons (pv 1) (pa_cons (pe_ty (by rfl) T.int boot_int) pa_nil)))) (pss_one (ps_ret (pe_and (pe_callB (isiK K) (by rfl) T.isinstance boot_isinstance (pa_cons (pv 0) (pa_cons (pe_ty (by rfl) T.int boot_int) pa_nil))) (pe_one (pe_cmpR op_eq (pv 0) (pv 1) (nomark _)))))) pss_nil)
      (pss_cons (ps_if (pt_val (pe_callB (isiK K) (by rfl) T.isinstance boot_isinstance (pa_cons (pv 1) (pa_cons (pe_ty (by rfl) T.str boot_str) pa_nil)))) (pss_one (ps_ret (pe_and (pe_callB (isiK K) (by rfl) T.isinstance boot_isinstance (pa_cons (pv 0) (pa_cons (pe_ty (by rfl) T.str boot_str) pa_nil))) (pe_one (pe_cmpR op_eq (pv 0) (pv 1) (nomark _)))))) pss_nil)
      (pss_cons (ps_if (PW.pt (pw_or (pt_not (pt_val (pe_callB (isiK K) (by rfl) T.isinstance boot_isinstance (pa_cons (pv 0) (pa_cons (pe_ty (by rfl) T.tuple boot_tuple) pa_nil))))) (pw_or (pt_not (pt_val (pe_callB (isiK K) (by rfl) T.isinstance boot_isinstance (pa_cons (pv 1) (pa_cons (pe_ty (by rfl) T.tuple boot_tuple) pa_nil))))) (pw_or1 (pt_cmpR op_ne (pe_callB (lenK K) (by rfl) T.len boot_len (pa_cons (pv 0) pa_nil)) (pe_callB (lenK K) (by rfl) T.len boot_len (pa_cons (pv 1) pa_nil)) (nomark _)))))) (pss_one (ps_ret pe_bl)) pss_nil)
      (pss_one (ps_ret (pe_cmpR op_eq (pe_callB (lenK K) (by rfl) T.len boot_len (pa_cons (pe_lc (own := [("_law_k", 2)]) (g := gName 2) (tt := _) rfl nd (pi_range1 (by rfl) T.range (pa_cons (pe_callB (lenK K) (by rfl) T.len boot_len (pa_cons (pv 1) pa_nil)) pa_nil)) (blkOk_by (N := ["_law_told", "_law_due", "_law_k"]) (sc := fnScope s__law_same) (by decide +kernel)) (fun _ _ _ _ _ => (pg_name (i := 2) nd rfl (Or.inl rfl))) (fun _ _ _ _ _ => (pts_one (pt_not (pt_val (pe_c c__law_same hr (Nat.le_refl _) (by rfl) (pa_cons (pe_ix (ixT K) (pv 0) (pv 2) (fun _ _ => rfl)) (pa_cons (pe_ix (ixT K) (pv 1) (pv 2) (fun _ _ => rfl)) pa_nil))))))) (fun _ _ _ _ _ => (pv 2))) pa_nil)) pe_int (nomark _))))))))), ?_⟩
    rcases h with (⟨a, b, rfl, q⟩ | ⟨a, b, rfl, q⟩ | ⟨a, xs, hq, rfl | rfl, q⟩) | ⟨m, a, b, xs, ys, R, rfl, hx, hy, l1, l2, hm, hR, q⟩
    · cases b with
      | none =>
        refine ⟨_, rfl, rfl, _, rfl, iteDT rfl ⟨_, rfl, rfl, ?_⟩⟩
        cases a with
        | none => exact q
        | some i => exact q
      | some j =>
        refine ⟨_, rfl, rfl, _, rfl, iteDF (fun z => by cases z) ⟨_, rfl, _, _, _, _, _, rfl, .ty _, ty_i, kit_ty k_ib, _, rfl, iteF ?_⟩⟩
        cases a with
        | none =>
          exact ⟨_, rfl, _, _, _, _, _, rfl, .ty _, ty_n, kit_ty k_nb, _, rfl, iteF ⟨_, rfl, _, _, _, _, _, rfl, .ty _, ty_i, kit_ty k_ii, _, rfl, iteT ⟨_, rfl, _, _, _, _, _, rfl, .ty _, ty_n, kit_ty k_ni, _, rfl, iteF q⟩⟩⟩
        | some i =>
          refine ⟨_, rfl, _, _, _, _, _, rfl, .ty _, ty_i, kit_ty k_ib, _, rfl, iteF ⟨_, rfl, _, _, _, _, _, rfl, .ty _, ty_i, kit_ty k_ii, _, rfl, iteT ⟨_, rfl, _, _, _, _, _, rfl, .ty _, ty_i, kit_ty k_ii, _, rfl, iteT ⟨_, rfl, _, rfl, rfl, ?_⟩⟩⟩⟩
          have e : decide (V.int i = V.int j) = decide (some i = some j) := by
            by_cases h : i = j
            · rw [decide_eq_true (by rw [h]), decide_eq_true (by rw [h])]
            · rw [decide_eq_false (fun z => h (V.int.inj z)), decide_eq_false (fun z => h (Option.some.inj z))]
          show Q (.bl (decide (V.int i = V.int j))) H
          rw [e]
          exact q
    · refine ⟨_, rfl, rfl, _, rfl, iteDF (fun z => by cases z) ⟨_, rfl, _, _, _, _, _, rfl, .ty _, ty_b, kit_ty k_bb, _, rfl, iteT (iteT ⟨_, rfl, _, _, _, _, _, rfl, .ty _, ty_b, kit_ty k_bb, _, rfl, iteT ⟨_, rfl, _, _, _, _, _, rfl, .ty _, ty_b, kit_ty k_bb, _, rfl, iteT ⟨_, rfl, _, rfl, rfl, ?_⟩⟩⟩)⟩⟩
      have e : decide (V.bl a = V.bl b) = (a == b) := by
        cases a <;> cases b <;> decide
      show Q (.bl (decide (V.bl a = V.bl b))) H
      rw [e]
      exact q
    · refine ⟨_, rfl, rfl, _, rfl, iteDT rfl ⟨_, rfl, rfl, ?_⟩⟩
      have e : decide (V.ref a = V.non) = false := decide_eq_false (fun z => by cases z)
      show Q (.bl (decide (V.ref a = V.non))) H
      rw [e]
      exact q
    · have tq := ty_t hq
      exact ⟨_, rfl, rfl, _, rfl, iteDF (fun z => by cases z) ⟨_, rfl, _, _, _, _, _, rfl, .ty _, tq, kit_ty k_tb, _, rfl, iteF ⟨_, rfl, _, _, _, _, _, rfl, .ty _, ty_n, kit_ty k_nb, _, rfl, iteF ⟨_, rfl, _, _, _, _, _, rfl, .ty _, tq, kit_ty k_ti, _, rfl, iteF ⟨_, rfl, _, _, _, _, _, rfl, .ty _, tq, kit_ty k_ts, _, rfl, iteF ⟨_, rfl, _, _, _, _, _, rfl, .ty _, ty_n, kit_ty k_nt, _, rfl, iteT (iteT q)⟩⟩⟩⟩⟩⟩
    · have tx := ty_t hx
      have tz := ty_t hy
      refine ⟨_, rfl, rfl, _, rfl, iteDF (fun z => by cases z) ⟨_, rfl, _, _, _, _, _, rfl, .ty _, tz, kit_ty k_tb, _, rfl, iteF ⟨_, rfl, _, _, _, _, _, rfl, .ty _, tx, kit_ty k_tb, _, rfl, iteF ⟨_, rfl, _, _, _, _, _, rfl, .ty _, tz, kit_ty k_ti, _, rfl, iteF ⟨_, rfl, _, _, _, _, _, rfl, .ty _, tz, kit_ty k_ts, _, rfl, iteF ?_⟩⟩⟩⟩⟩
      refine ⟨_, rfl, _, _, _, _, _, rfl, .ty _, tx, kit_ty k_tt, _, rfl, iteF ⟨_, rfl, _, _, _, _, _, rfl, .ty _, tz, kit_ty k_tt, _, rfl, iteF ⟨_, rfl, _, _, rfl, .inr hx, _, rfl, _, _, rfl, .inr hy, rfl, _, rfl, iteNT (by rw [l1, l2]) ?_⟩⟩⟩
      refine ⟨_, rfl, _, _, rfl, .inr hy, ?_⟩
      rw [l2]
      refine ⟨(m : Int), rfl, by omega, by omega, lcF No (fun D i acc _ => acc = [] ↔ ∀ j, j < i → R j) walk_rng (by omega) no_lg (fun _ _ => trivial) YFn.same (fun D hD => ⟨fun _ j hj => absurd hj (Nat.not_lt_zero _), fun _ => rfl⟩) (fun _ _ _ _ _ _ h => h) (fun _ _ _ _ _ _ h => h) ?_ ?_⟩
      · rintro D1 i x acc H1 H1' Ky Kn hi hD e1 hd1 ⟨rfl, rfl⟩ hp ky kn
        have hi : i < m := hi
        have i1 : i < xs.length := by omega
        have i2 : i < ys.length := by omega
        refine ⟨rfl, _, rfl, _, rfl, _, _, _, _, rfl, rfl, e1.same.sqt hx, atI_nat (List.getElem?_eq_getElem i1), _, rfl, _, rfl, _, _, _, _, rfl, rfl, e1.same.sqt hy, atI_nat (List.getElem?_eq_getElem i2), hR i _ _ _ _ (List.getElem?_eq_getElem i1) (List.getElem?_eq_getElem i2) e1.same (fun c H2 e2 hc => ?_) _⟩
        refine ⟨_, rfl, ?_⟩
        cases c with
        | true =>
          refine iteF (kn _ e2.rl ⟨fun z j hj => ?_, fun z => hp.mpr fun j hj => z j (by omega)⟩)
          by_cases h : j < i
          · exact hp.mp z j h
          · rw [show j = i by omega]; exact hc.mp rfl
        | false =>
          refine iteT ⟨_, rfl, ky _ _ e2.rl ⟨fun z => by simp at z, fun z => ?_⟩⟩
          have := hc.mpr (z i (by omega))
          cases this
      · rintro D1 zs H1 hD e1 hd1 hp
        refine ⟨_, _, rfl, .inl (SqL.of hd1), rfl, q _ _ e1.same ⟨fun z => ?_, fun z => ?_⟩⟩
        · have z1 := V.int.inj (of_decide_eq_true z)
          have z2 : zs.length = 0 := by omega
          exact fun i hi => hp.mp (List.eq_nil_of_length_eq_zero z2) i hi
        · have z1 := hp.mpr z
          rw [z1]
          rfl
theorem ok_law_same (T : Txt mg) (D : Dx K mg "_law_same" s__law_same ["_law_told", "_law_due"]) : Cal P w K mg base 4 "_law_same" (spS3 K) [] :=
  same_step T D (same_step T D (same_step T D (cal D sc__law_same (sp := spNever) (fun vs H Q E h => h.elim) (fun f cdv A outer s H vs Q E hr h => h.elim))))
end
end K60

namespace K60
open PySem L2
open C8 (Cal Def Met Mak cal0 met0 mak0 pe_c pe_mk pe_mt pe_mt0 pe_gc InsC call_isC fnScope fnBody fnArgs clsBody fnScope_by)

theorem Grid.push {H H5 : Hp} {p D : Addr} {as : List Addr} {m : Nat} {M : Mx} (g : Grid H p as m M) (e : Same H H5) (hD : H D = none) (h5 : H5 D = some (.lst (row m (M as.length)))) : Grid (upd H5 p (.lst (as.map V.ref ++ [V.ref D]))) p (as ++ [D]) m M := by
  have nD : D ∉ as := fun z => by
    obtain ⟨j, hj⟩ := List.getElem?_of_mem z
    rw [g.rows j D hj] at hD
    cases hD
  have npD : p ≠ D := ne_of_none g.lst hD
  have g5 := g.same e
  refine ⟨by rw [upd_same, List.map_append]; rfl, List.nodup_append.mpr ⟨g.nd, by simp, fun a ha c hc => ?_⟩, fun z => ?_, fun i a h => ?_⟩
  · have e1 : c = D := by simpa using hc
    subst e1
    exact fun z => nD (by rw [← z]; exact ha)
  · rcases List.mem_append.mp z with z | z
    · exact g.np z
    · exact npD (List.mem_singleton.mp z)
  · by_cases hi : i < as.length
    · rw [List.getElem?_append_left hi] at h
      have hne : a ≠ p := fun z => g.np (by rw [← z]; exact List.mem_of_getElem? h)
      rw [upd_ne hne]
      exact g5.rows i a h
    · have hi2 : i = as.length := by
        have := (List.getElem?_eq_some_iff.mp h).1
        rw [List.length_append, List.length_singleton] at this
        omega
      subst hi2
      rw [List.getElem?_append_right (Nat.le_refl _), Nat.sub_self] at h
      cases h
      rw [upd_ne (Ne.symm npD)]
      exact h5
theorem Grid.nil {H : Hp} {p : Addr} {m : Nat} {M : Mx} (h : H p = some (.lst [])) : Grid H p [] m M := ⟨h, .nil, by simp, fun i a z => by simp at z⟩
/-- the numbers of the outer doors as ints -/
def oI (k : Nat) (o : Nat → Nat) : List Int := (List.range k).map fun j => ((o j : Nat) : Int)
theorem row_oI {k : Nat} {o : Nat → Nat} : row k (wholeN o) = (oI k o).map V.int := row_whole (w := fun j => ((o j : Nat) : Int))
theorem oI_get {k j : Nat} {o : Nat → Nat} (h : j < k) : (oI k o)[j]? = some ((o j : Nat) : Int) := by simp [oI, h]
theorem oI_no {n k j : Nat} {o : Nat → Nat} (L : Lot n k o) (h : j < k) : ∀ m, m < j → (oI k o)[m]? ≠ some ((o j : Nat) : Int) := fun m hm z => by
  rw [oI_get (by omega)] at z
  have := L.up m j hm h
  have := Option.some.inj z
  omega
def spGainsL (K : PySem.W.Frag) : Sp := fun vs H Q _ => ∃ (n k : Nat) (t : Mx) (w : Nat → Int) (o : Nat → Nat) (v : V) (wa oa : Addr), vs = [v, .ref wa, .ref oa] ∧ IsTab K H v n n t ∧ SqT K H wa (row n (whole w)) ∧ TupD H oa (row k (wholeN o)) ∧ Lot n k o ∧ n ≤ 1000 ∧ k ≤ 1000 ∧
  ∀ (r : Option Mx) (v : V) (H' : Hp), Same H H' → IsOG K H' v k r → GainsRes n t w k o r → Q v H'

/- _law_gains: slots 0 _law_table 1 _law_waits 2 _law_outer 3 _law_many 4 _law_best 5 _law_x 6 _law_z 7 _law_rows 8 _law_row 9 _law_y 10 _law_worth; cells ['_law_best', '_law_table', '_law_waits', '_law_x'] -/
abbrev s__law_gains : Stmt := top 47
theorem sc__law_gains : FnScope ["_law_table", "_law_waits", "_law_outer", "_law_many", "_law_best", "_law_x", "_law_z", "_law_rows", "_law_row", "_law_y", "_law_worth"] ["_law_table", "_law_waits", "_law_outer"] (fnScope s__law_gains) := fnScope_by (by decide +kernel)
section
variable {P : Program} {w : World} {K : PySem.W.Frag} {mg : Str → Option Value} {base : Heap}
theorem ok_law_gains (T : Txt mg) (D : Dx K mg "_law_gains" s__law_gains ["_law_table", "_law_waits", "_law_outer"]) : Cal P w K mg base 1 "_law_gains" (spGainsL K) [] := by
  refine cal D sc__law_gains (fun vs H Q E h => ?_) (fun f cdv A outer s H vs Q E hr h => ?_)
  · obtain ⟨n, k, t, wt, o, v, wa, oa, rfl, _⟩ := h
    rfl
  · obtain ⟨n, k, t, wt, o, v, wa, oa, rfl, hT, hW, hO, L, hn, hk, q⟩ := h
    have nd := sc__law_gains.nd
    refine ⟨_, (pss_cons (ps_set (i := 3) nd rfl (Or.inl rfl) (pe_callB (lenK K) (by rfl) T.len boot_len (pa_cons (pv 0) pa_nil)))
      (pss_cons (ps_set (i := 4) nd rfl (Or.inr rfl) (pe_lst pa_nil))
      (pss_cons (ps_for PassesOwn.never rfl (pi_range1 (by rfl) T.range (pa_cons (pv 3) pa_nil)) (pg_name (i := 5) nd rfl (Or.inr rfl))
        (pss_one (ps_expr (pe_bm PySem.F.plainAttrs_list PySem.F.slot_list_append PySem.F.type_list_append mt_append (pv 4) (pa_cons (pe_lc (own := [("_law_y", 9)]) (g := gName 9) (tt := tYes) rfl nd (pi_range1 (by rfl) T.range (pa_cons (pv 3) pa_nil)) (blkOk_by (N := ["_law_table", "_law_waits", "_law_outer", "_law_many", "_law_best", "_law_x", "_law_z", "_law_rows", "_law_row", "_law_y", "_law_worth"]) (sc := fnScope s__law_gains) (by decide +kernel)) (fun _ _ _ _ _ => (pg_name (i := 9) nd rfl (Or.inl rfl))) (fun _ _ _ _ _ => pts_nil) (fun _ _ _ _ _ => (pe_ifExp (PW.pt (pw_or (pt_cmpR op_eq (pv 5) (pv 9) (nomark _)) (pw_or1 (pt_cmpR op_isN (pe_ix (ixT K) (pe_ix (ixT K) (pv 0) (pv 5) (fun _ _ => rfl)) (pv 9) (fun _ _ => rfl)) pe_non (nomark _))))) pe_non (pe_op op_sub (pe_ix (ixT K) (pe_ix (ixT K) (pv 0) (pv 5) (fun _ _ => rfl)) (pv 9) (fun _ _ => rfl)) (pe_ix (ixT K) (pv 1) (pv 9) (fun _ _ => rfl)))))) pa_nil)))))
      (pss_cons (ps_for PassesOwn.never rfl (pi_range1 (by rfl) T.range (pa_cons (pv 3) pa_nil)) (pg_name (i := 6) nd rfl (Or.inl rfl))
        (pss_one (ps_for PassesOwn.never rfl (pi_range1 (by rfl) T.range (pa_cons (pv 3) pa_nil)) (pg_name (i := 5) nd rfl (Or.inr rfl))
          (pss_one (ps_for PassesOwn.never rfl (pi_range1 (by rfl) T.range (pa_cons (pv 3) pa_nil)) (pg_name (i := 9) nd rfl (Or.inl rfl))
            (pss_one (ps_if (PW.pt (pw_and (pt_cmpR op_notN (pe_ix (ixL K) (pe_ix (ixL K) (pv 4) (pv 5) (fun _ _ => rfl)) (pv 6) (fun _ _ => rfl)) pe_non (nomark _)) (pw_and1 (pt_cmpR op_notN (pe_ix (ixL K) (pe_ix (ixL K) (pv 4) (pv 6) (fun _ _ => rfl)) (pv 9) (fun _ _ => rfl)) pe_non (nomark _))))) (pss_cons (ps_set (i := 10) nd rfl (Or.inl rfl) (pe_op op_add (pe_ix (ixL K) (pe_ix (ixL K) (pv 4) (pv 5) (fun _ _ => rfl)) (pv 6) (fun _ _ => rfl)) (pe_ix (ixL K) (pe_ix (ixL K) (pv 4) (pv 6) (fun _ _ => rfl)) (pv 9) (fun _ _ => rfl))))
              (pss_one (ps_if (PW.pt (pw_or (pt_cmpR op_isN (pe_ix (ixL K) (pe_ix (ixL K) (pv 4) (pv 5) (fun _ _ => rfl)) (pv 9) (fun _ _ => rfl)) pe_non (nomark _)) (pw_or1 (pt_cmpR op_gt (pv 10) (pe_ix (ixL K) (pe_ix (ixL K) (pv 4) (pv 5) (fun _ _ => rfl)) (pv 9) (fun _ _ => rfl)) (nomark _))))) (pss_one (ps_asg (pv 10) (pg_sub (pe_ix (ixL K) (pv 4) (pv 5) (fun _ _ => rfl)) (pv 9) set_list))) pss_nil))) pss_nil)))))))
      (pss_cons (ps_for PassesOwn.never rfl (pi_range1 (by rfl) T.range (pa_cons (pv 3) pa_nil)) (pg_name (i := 5) nd rfl (Or.inr rfl))
        (pss_one (ps_if (PW.pt (pw_and (pt_cmpR op_notN (pe_ix (ixL K) (pe_ix (ixL K) (pv 4) (pv 5) (fun _ _ => rfl)) (pv 5) (fun _ _ => rfl)) pe_non (nomark _)) (pw_and1 (pt_cmpR op_gt (pe_ix (ixL K) (pe_ix (ixL K) (pv 4) (pv 5) (fun _ _ => rfl)) (pv 5) (fun _ _ => rfl)) pe_int (nomark _))))) (pss_one (ps_ret pe_non)) pss_nil)))
      (pss_cons (ps_set (i := 7) nd rfl (Or.inl rfl) (pe_lst pa_nil))
      (pss_cons (ps_for PassesOwn.never rfl (piT K rfl (pv 2)) (pg_name (i := 5) nd rfl (Or.inr rfl))
        (pss_cons (ps_setLc (i := 8) (own := [("_law_y", 9)]) (g := gName 9) (tt := tYes) rfl nd rfl rfl (sw_true rfl rfl rfl (by decide +kernel)) (piT K rfl (pv 2)) (blkOk_by (N := ["_law_table", "_law_waits", "_law_outer", "_law_many", "_law_best", "_law_x", "_law_z", "_law_rows", "_law_row", "_law_y", "_law_worth"]) (sc := fnScope s__law_gains) (by decide +kernel)) (fun _ _ _ _ _ => (pg_name (i := 9) nd rfl (Or.inl rfl))) (fun _ _ _ _ _ => pts_nil) (fun _ _ _ _ _ => (pe_ifExp (pt_cmpR op_isN (pe_ix (ixL K) (pe_ix (ixL K) (pv 4) (pv 5) (fun _ _ => rfl)) (pv 9) (fun _ _ => rfl)) pe_non (nomark _)) pe_non (pe_op op_sub (pe_ix (ixL K) (pe_ix (ixL K) (pv 4) (pv 5) (fun _ _ => rfl)) (pv 9) (fun _ _ => rfl)) (pe_ix (ixT K) (pv 1) (pv 5) (fun _ _ => rfl))))))
        (pss_cons (ps_asg (pe_op op_sub pe_int (pe_ix (ixT K) (pv 1) (pv 5) (fun _ _ => rfl))) (pg_sub (pv 8) (pe_tidx (pv 2) (pa_cons (pv 5) pa_nil)) set_list))
        (pss_one (ps_expr (pe_bm PySem.F.plainAttrs_list PySem.F.slot_list_append PySem.F.type_list_append mt_append (pv 7) (pa_cons (pe_callTy (tupK K) (by rfl) T.tuple boot_tuple (pa_cons (pv 8) pa_nil)) pa_nil)))))))
      (pss_one (ps_ret (pe_callTy (tupK K) (by rfl) T.tuple boot_tuple (pa_cons (pv 7) pa_nil))))))))))), ?_⟩
    obtain ⟨a, vs, rfl, hqT, hl, hr1⟩ := id hT
    refine ⟨_, rfl, _, _, rfl, .inr hqT, ?_⟩
    rw [hl]
    refine ⟨sz5 (by show 0 ≤ 100000; decide), nwL fun p H1 e1 fp hp => ?_⟩
    -- the steps
    refine ⟨_, rfl, (n : Int), rfl, by omega, by omega, for_it walk_rng (fun i σ' H' => ∃ as x5 x6 x7 x8 x9 x10, σ' = [some (.ref a), some (.ref wa), some (.ref oa), some (.int (n : Int)), some (.ref p), x5, x6, x7, x8, x9, x10] ∧ Same H H' ∧ Grid H' p as n (stpL t wt) ∧ as.length = i ∧ ∀ c ∈ as, H c = none)
      ⟨[], none, none, none, none, none, none, rfl, e1, Grid.nil hp, rfl, fun c z => by simp at z⟩ (fun _ _ _ _ _ => trivial) ?_ ?_⟩
    · rintro i x σ' H2 H2' hi ⟨as, x5, x6, x7, x8, x9, x10, rfl, e2, g2, l2, fr2⟩ ⟨rfl, rfl⟩
      have hi : i < n := hi
      refine ⟨_, rfl, .inl ⟨rfl, _, SqL.of g2.lst⟩, _, rfl, (n : Int), rfl, by omega, by omega, lcRow No (stpL t wt i) walk_rng (by omega) no_lg (fun _ _ => trivial) YFn.same ?_ ?_⟩
      · rintro j x H3 H3' Ky hj e3 ⟨rfl, rfl⟩ ky
        have hj : j < n := hj
        obtain ⟨x1, b, hx, rfl, hb⟩ := IsTab.row hr1 hl hi
        have s3 := e2.trans e3.same
        refine ⟨rfl, _, rfl, _, rfl, rfl, _, rfl, ?_⟩
        by_cases hij : i = j
        · subst hij
          have e0 : stpL t wt i i = none := by unfold stpL; rw [if_pos rfl]
          rw [e0] at ky
          exact iteDT rfl (iteT (ky _ (.refl no_lg)))
        · refine iteDF (fun z => hij (by have := V.int.inj z; omega)) ⟨_, rfl, _, rfl, _, _, _, _, rfl, rfl, s3.sqt hqT, atI_nat hx, _, rfl, _, _, _, _, rfl, rfl, s3.sqt hb, atI_nat (row_get hj), rfl, _, rfl, ?_⟩
          cases hM : t i j with
          | none =>
            have e0 : stpL t wt i j = none := by unfold stpL; rw [if_neg hij, hM]; rfl
            rw [e0] at ky
            exact iteDT rfl (ky _ (.refl no_lg))
          | some g =>
            have e0 : stpL t wt i j = some (g - wt j) := stpL_of hij hM
            rw [e0] at ky
            have hg := row_get (f := t i) hj
            rw [hM] at hg
            exact iteDF (fun z => by cases z) ⟨_, rfl, _, rfl, _, _, _, _, rfl, rfl, s3.sqt hqT, atI_nat hx, _, rfl, _, _, _, _, rfl, rfl, s3.sqt hb, atI_nat hg, _, rfl, _, rfl, _, _, _, _, rfl, rfl, s3.sqt hW, atI_nat (row_getW hj), _, _, rfl, rfl, ky _ (.refl no_lg)⟩
      · intro D3 H3 hD3 e3 hd3
        have s3 := e2.trans e3.same
        refine ⟨p, _, _, rfl, rfl, e3.same _ _ g2.lst, sz5l (by rw [List.length_map]; omega), ?_⟩
        have g3 := g2.push e3.same hD3 (by rw [l2]; exact hd3)
        refine ⟨as ++ [D3], _, x6, x7, x8, x9, x10, rfl, s3.mut fp, g3, by rw [List.length_append, List.length_singleton, l2], fun c hc => ?_⟩
        rcases List.mem_append.mp hc with hc | hc
        · exact fr2 c hc
        · rw [List.mem_singleton.mp hc]
          exact e2.free hD3
    · rintro σ' H2 ⟨as, x5, x6, x7, x8, x9, x10, rfl, e2, g2, l2, fr⟩
      have l2 : as.length = n := l2
      -- the squares
      refine ⟨_, rfl, (n : Int), rfl, by omega, by omega, for_it walk_rng (fun z σ' H' => ∃ B x5 x6 x7 x8 x9 x10, σ' = [some (.ref a), some (.ref wa), some (.ref oa), some (.int (n : Int)), some (.ref p), x5, x6, x7, x8, x9, x10] ∧ Same H H' ∧ Grid H' p as n B ∧ Mid n (stpL t wt) z B)
        ⟨_, x5, x6, x7, x8, x9, x10, rfl, e2, g2, Mid.start (fun x y g hx hy e => .one hx hy e) fun x y g hx hy e => ⟨g, e, Int.le_refl g⟩⟩ (fun _ _ _ _ _ => trivial) ?_ ?_⟩
      · rintro z x σ' H3 H3' hz ⟨B, x5, x6, x7, x8, x9, x10, rfl, e3, g3, mB⟩ ⟨rfl, rfl⟩
        have hz : z < n := hz
        refine ⟨_, rfl, (n : Int), rfl, by omega, by omega, for_it walk_rng (fun i σ' H' => ∃ C x5 x7 x8 x9 x10, σ' = [some (.ref a), some (.ref wa), some (.ref oa), some (.int (n : Int)), some (.ref p), x5, some (.int (z : Nat)), x7, x8, x9, x10] ∧ Same H H' ∧ Grid H' p as n C ∧ Sound n (stpL t wt) C ∧ Up n B C ∧
            ∀ x y a b, x < n → y < n → x < i → B x z = some a → B z y = some b → Ge C x y (a + b))
          ⟨B, x5, x7, x8, x9, x10, rfl, e3, g3, mB.sound, Up.refl, fun x y a b _ _ h => absurd h (Nat.not_lt_zero _)⟩ (fun _ _ _ _ _ => trivial) ?_ ?_⟩
        · rintro i x σ' H4 H4' hi ⟨C, x5, x7, x8, x9, x10, rfl, e4, g4, sC, uC, rC⟩ ⟨rfl, rfl⟩
          have hi : i < n := hi
          refine ⟨_, rfl, (n : Int), rfl, by omega, by omega, for_it walk_rng (fun j σ' H' => ∃ C x7 x8 x9 x10, σ' = [some (.ref a), some (.ref wa), some (.ref oa), some (.int (n : Int)), some (.ref p), some (.int (i : Nat)), some (.int (z : Nat)), x7, x8, x9, x10] ∧ Same H H' ∧ Grid H' p as n C ∧ Sound n (stpL t wt) C ∧ Up n B C ∧
              ∀ x y a b, x < n → y < n → (x < i ∨ (x = i ∧ y < j)) → B x z = some a → B z y = some b → Ge C x y (a + b))
            ⟨C, x7, x8, x9, x10, rfl, e4, g4, sC, uC, fun x y a b h1 h2 h => rC x y a b h1 h2 (by omega)⟩ (fun _ _ _ _ _ => trivial) ?_ ?_⟩
          · rintro j x σ' H5 H5' hj ⟨C, x7, x8, x9, x10, rfl, e5, g5, sC, uC, rC⟩ ⟨rfl, rfl⟩
            have hj : j < n := hj
            obtain ⟨ci, hci⟩ := has (as := as) (i := i) (by omega)
            obtain ⟨cz, hcz⟩ := has (as := as) (i := z) (by omega)
            have ri := g5.rows i ci hci
            have rz := g5.rows z cz hcz
            have gi := fun j (hj : j < n) => row_get (f := C i) hj
            have gz := fun j (hj : j < n) => row_get (f := C z) hj
            have more : (∀ a b, B i z = some a → B z j = some b → Ge C i j (a + b)) → ∀ x y a b, x < n → y < n → (x < i ∨ (x = i ∧ y < j + 1)) → B x z = some a → B z y = some b → Ge C x y (a + b) := fun hh x y a b h1 h2 h3 h4 h5 => by
              by_cases hx : x = i ∧ y = j
              · obtain ⟨rfl, rfl⟩ := hx
                exact hh a b h4 h5
              · exact rC x y a b h1 h2 (by omega) h4 h5
            refine ⟨_, rfl, _, rfl, _, _, _, _, rfl, rfl, SqL.of g5.lst, atI_nat (refs_at hci), _, rfl, _, _, _, _, rfl, rfl, SqL.of ri, atI_nat (gi z hz), rfl, _, rfl, ?_⟩
            cases hf : C i z with
            | none =>
              refine iteNT rfl (iteF ⟨C, x7, x8, _, x10, rfl, e5, g5, sC, uC, more fun a b h1 _ => ?_⟩)
              obtain ⟨g', e', _⟩ := uC i z a hi hz ⟨a, h1, Int.le_refl a⟩
              rw [hf] at e'
              cases e'
            | some fv =>
              have gf := gi z hz
              rw [hf] at gf
              refine iteNF (fun z => by cases z) ⟨_, rfl, _, rfl, _, _, _, _, rfl, rfl, SqL.of g5.lst, atI_nat (refs_at hcz), _, rfl, _, _, _, _, rfl, rfl, SqL.of rz, atI_nat (gz j hj), rfl, _, rfl, ?_⟩
              cases hs : C z j with
              | none =>
                refine iteNT rfl ⟨C, x7, x8, _, x10, rfl, e5, g5, sC, uC, more fun a b _ h2 => ?_⟩
                obtain ⟨g', e', _⟩ := uC z j b hz hj ⟨b, h2, Int.le_refl b⟩
                rw [hs] at e'
                cases e'
              | some sv =>
                have gs := gz j hj
                rw [hs] at gs
                have wv : Wk n (stpL t wt) i j (fv + sv) := (sC i z fv hi hz hf).trans (sC z j sv hz hj hs)
                have ab : ∀ a b, B i z = some a → B z j = some b → a + b ≤ fv + sv := fun a b h1 h2 => by
                  obtain ⟨g1, q1, z1⟩ := uC i z a hi hz ⟨a, h1, Int.le_refl a⟩
                  obtain ⟨g2, q2, z2⟩ := uC z j b hz hj ⟨b, h2, Int.le_refl b⟩
                  rw [hf] at q1
                  rw [hs] at q2
                  cases q1
                  cases q2
                  omega
                have mi : ci ∈ as := List.mem_of_getElem? hci
                have fin : (∀ g', C i j = some g' → g' ≤ fv + sv) → ∃ C' x7' x8' x9' x10', [some (V.ref a), some (.ref wa), some (.ref oa), some (.int (n : Int)), some (.ref p), some (.int (i : Nat)), some (.int (z : Nat)), x7, x8, some (.int (j : Nat)), some (.int (fv + sv))] = [some (V.ref a), some (.ref wa), some (.ref oa), some (.int (n : Int)), some (.ref p), some (.int (i : Nat)), some (.int (z : Nat)), x7', x8', x9', x10'] ∧
                    Same H (upd H5' ci (.lst ((row n (C i)).set j (enc (some (fv + sv)))))) ∧ Grid (upd H5' ci (.lst ((row n (C i)).set j (enc (some (fv + sv)))))) p as n C' ∧ Sound n (stpL t wt) C' ∧ Up n B C' ∧ ∀ x y a b, x < n → y < n → (x < i ∨ (x = i ∧ y < j + 1)) → B x z = some a → B z y = some b → Ge C' x y (a + b) := fun hle => by
                  refine ⟨put C i j (some (fv + sv)), x7, x8, _, _, rfl, e5.mut (fr ci mi), g5.set hci, put_sound sC wv, uC.trans (put_up hle), fun x y a b h1 h2 h3 h4 h5 => ?_⟩
                  by_cases hx : x = i ∧ y = j
                  · obtain ⟨rfl, rfl⟩ := hx
                    exact ⟨_, put_self, ab a b h4 h5⟩
                  · exact put_ge hle (rC x y a b h1 h2 (by omega) h4 h5)
                refine iteNF (fun z => by cases z) ⟨_, rfl, _, rfl, _, _, _, _, rfl, rfl, SqL.of g5.lst, atI_nat (refs_at hci), _, rfl, _, _, _, _, rfl, rfl, SqL.of ri, atI_nat gf, _, rfl, _, rfl, _, _, _, _, rfl, rfl, SqL.of g5.lst, atI_nat (refs_at hcz), _, rfl, _, _, _, _, rfl, rfl, SqL.of rz, atI_nat gs, _, _, rfl, rfl, ?_⟩
                refine ⟨_, rfl, _, rfl, _, _, _, _, rfl, rfl, SqL.of g5.lst, atI_nat (refs_at hci), _, rfl, _, _, _, _, rfl, rfl, SqL.of ri, atI_nat (gi j hj), rfl, _, rfl, ?_⟩
                cases hc : C i j with
                | none =>
                  refine iteDT rfl (iteT ⟨_, rfl, _, rfl, _, rfl, _, _, _, _, rfl, rfl, SqL.of g5.lst, atI_nat (refs_at hci), _, rfl, ci, _, _, j, rfl, rfl, ri, ixN_nat (by rw [row_len]; exact hj), ?_⟩)
                  exact fin fun g' z => by rw [hc] at z; cases z
                | some cv =>
                  have gc := gi j hj
                  rw [hc] at gc
                  refine iteDF (fun z => by cases z) ⟨_, rfl, _, rfl, _, rfl, _, _, _, _, rfl, rfl, SqL.of g5.lst, atI_nat (refs_at hci), _, rfl, _, _, _, _, rfl, rfl, SqL.of ri, atI_nat gc, _, _, rfl, rfl, _, rfl, ?_⟩
                  by_cases hgt : fv + sv > cv
                  · refine iteDT hgt ⟨_, rfl, _, rfl, _, rfl, _, _, _, _, rfl, rfl, SqL.of g5.lst, atI_nat (refs_at hci), _, rfl, ci, _, _, j, rfl, rfl, ri, ixN_nat (by rw [row_len]; exact hj), ?_⟩
                    exact fin fun g' z => by rw [hc] at z; cases z; omega
                  · refine iteDF hgt ⟨C, x7, x8, _, _, rfl, e5, g5, sC, uC, more fun a b h1 h2 => ⟨cv, hc, by have := ab a b h1 h2; omega⟩⟩
          · rintro σ' H5 ⟨C, x7, x8, x9, x10, rfl, e5, g5, sC, uC, rC⟩
            exact ⟨C, _, x7, x8, x9, x10, rfl, e5, g5, sC, uC, fun x y a b h1 h2 h3 h4 h5 => rC x y a b h1 h2 (by show x < i ∨ (x = i ∧ y < n); omega) h4 h5⟩
        · rintro σ' H4 ⟨C, x5, x7, x8, x9, x10, rfl, e4, g4, sC, uC, rC⟩
          exact ⟨C, x5, _, x7, x8, x9, x10, rfl, e4, g4, mB.step hz sC uC fun x y a b h1 h2 h3 h4 => rC x y a b h1 h2 h1 h3 h4⟩
      · rintro σ' H3 ⟨B, x5, x6, x7, x8, x9, x10, rfl, e3, g3, mB⟩
        have mB : Mid n (stpL t wt) n B := mB
        -- no closed walk is worth more than 0
        refine ⟨_, rfl, (n : Int), rfl, by omega, by omega, for_it walk_rng (fun i σ' H' => H' = H3 ∧ ∃ x5, σ' = [some (.ref a), some (.ref wa), some (.ref oa), some (.int (n : Int)), some (.ref p), x5, x6, x7, x8, x9, x10] ∧ ∀ x g, x < i → B x x = some g → g ≤ 0)
          ⟨rfl, x5, rfl, fun x g h => absurd h (Nat.not_lt_zero _)⟩ (fun _ _ _ _ _ => trivial) ?_ ?_⟩
        · rintro i x σ' H4 H4' hi ⟨rfl, x5, rfl, hB⟩ ⟨rfl, rfl⟩
          have hi : i < n := hi
          obtain ⟨ci, hci⟩ := has (as := as) (i := i) (by omega)
          have ri := g3.rows i ci hci
          have gi := row_get (f := B i) hi
          refine ⟨_, rfl, _, rfl, _, _, _, _, rfl, rfl, SqL.of g3.lst, atI_nat (refs_at hci), _, rfl, _, _, _, _, rfl, rfl, SqL.of ri, atI_nat gi, rfl, _, rfl, ?_⟩
          cases hf : B i i with
          | none =>
            refine iteNT rfl (iteF ⟨rfl, _, rfl, fun x g h1 h2 => ?_⟩)
            by_cases hx : x = i
            · subst hx
              rw [hf] at h2
              cases h2
            · exact hB x g (by omega) h2
          | some fv =>
            rw [hf] at gi
            refine iteNF (fun z => by cases z) ⟨_, rfl, _, rfl, _, _, _, _, rfl, rfl, SqL.of g3.lst, atI_nat (refs_at hci), _, rfl, _, _, _, _, rfl, rfl, SqL.of ri, atI_nat gi, _, _, rfl, rfl, _, rfl, ?_⟩
            by_cases h0 : fv > 0
            · refine iteDT h0 (q none _ _ e3 rfl ?_)
              exact fun kp => mB.bad hi hf h0 (kept_LR.mpr kp)
            · refine iteDF h0 ⟨rfl, _, rfl, fun x g h1 h2 => ?_⟩
              by_cases hx : x = i
              · subst hx
                rw [hf] at h2
                cases h2
                omega
              · exact hB x g (by omega) h2
        · rintro σ' H4 ⟨rfl, x5, rfl, hB⟩
          have np : NoPos n B := fun x g hx e => hB x g hx e
          have kp : Kp n t wt := kept_LR.mp (mB.kept np)
          have res : ∀ i j, i < k → j < k → Gain n t wt (o i) (o j) (if i = j then some (0 - wt (o i)) else (B (o i) (o j)).map (· - wt (o i))) := fun i j hi hj => by
            by_cases h : i = j
            · subst h
              rw [if_pos rfl]
              exact kp.gain (L.lt i hi)
            · rw [if_neg h]
              refine gain_of_bestL (mB.best np (L.lt i hi) (L.lt j hj) ?_)
              rcases Nat.lt_trichotomy i j with z | z | z
              · have := L.up i j z hj; omega
              · exact absurd z h
              · have := L.up j i z hi; omega
          refine ⟨sz5 (by show 0 ≤ 100000; decide), nwL fun pr H5 e5 fr5 hpr => ?_⟩
          have s5 := e3.trans e5
          have hO5 := (Same.rl s5).tupD hO
          have fpr : H pr = none := e3.free fr5
          refine ⟨_, rfl, oa, rfl, ⟨_, hO5.sq⟩, for_it walk_tup (fun i σ' H' => ∃ x5 x8 x9, σ' = [some (.ref a), some (.ref wa), some (.ref oa), some (.int (n : Int)), some (.ref p), x5, x6, some (.ref pr), x8, x9, x10] ∧ Same H4 H' ∧ RowsE K H' pr k i (fun x f => ∀ j, j < k → f j = if x = j then some (0 - wt (o x)) else (B (o x) (o j)).map (· - wt (o x))))
            ⟨x5, x8, x9, rfl, e5, .nil hpr⟩ (fun i σ' H' _ ⟨_, _, _, _, e, _⟩ => ((e3.trans e).tupD hO).sq) ?_ ?_⟩
          · rintro i x σ' H6 H6' hi ⟨x5, x8, x9, rfl, e46, w6⟩ ⟨rfl, hx⟩
            have e6 := e3.trans e46
            have g6 := g3.same e46
            obtain ⟨hi, rfl⟩ := row_isN hx
            have hO6 := e6.tupD hO
            have hoi := L.lt i hi
            obtain ⟨ci, hci⟩ := has (as := as) (i := o i) (by omega)
            refine ⟨_, rfl, oa, rfl, ⟨_, hO6.sq⟩, lcRow No (fun j => (B (o i) (o j)).map (· - wt (o i))) walk_tup (by rw [row_len]; omega) no_lg (fun H' e => (e.same.tupD hO6).sq) YAt.same ?_ ?_⟩
            · rintro j x H7 H7' Ky hj e7 ⟨rfl, hx⟩ ky
              obtain ⟨hj, rfl⟩ := row_isN hx
              have g7 := g6.same e7.same
              have gi := row_get (f := B (o i)) (L.lt j hj)
              refine ⟨rfl, _, rfl, _, rfl, _, _, _, _, rfl, rfl, SqL.of g7.lst, atI_nat (refs_at hci), _, rfl, _, _, _, _, rfl, rfl, SqL.of (g7.rows _ ci hci), atI_nat gi, rfl, _, rfl, ?_⟩
              cases hf : B (o i) (o j) with
              | none =>
                have := ky _ (.refl no_lg)
                rw [hf] at this
                exact iteDT rfl this
              | some fv =>
                rw [hf] at gi
                have := ky _ (.refl no_lg)
                rw [hf] at this
                exact iteDF (fun z => by cases z) ⟨_, rfl, _, rfl, _, _, _, _, rfl, rfl, SqL.of g7.lst, atI_nat (refs_at hci), _, rfl, _, _, _, _, rfl, rfl, SqL.of (g7.rows _ ci hci), atI_nat gi, _, rfl, _, rfl, _, _, _, _, rfl, rfl, (e6.trans e7.same).sqt hW, atI_nat (row_getW hoi), _, _, rfl, rfl, this⟩
            · intro D7 H7 hD7 e7 hd7
              rw [row_len] at hd7
              have s7 := e6.trans e7.same
              have hO7 := s7.tupD hO
              refine ⟨_, rfl, _, rfl, _, _, _, _, rfl, rfl, s7.sqt hW, atI_nat (row_getW hoi), _, _, rfl, rfl, _, rfl, _, rfl, oa, rfl, ⟨_, hO7⟩, _, rfl, oI k o, _, i, rfl, by rw [← row_oI]; exact hO7, oI_get hi, oI_no L hi, D7, _, _, i, rfl, rfl, hd7, ixN_nat (by rw [row_len]; exact hi), ?_⟩
              generalize eH8 : upd H7 D7 _ = H8
              replace eH8 : upd H7 D7 (.lst (row k (fun j => if j = i then some (0 - wt (o i)) else (B (o i) (o j)).map (· - wt (o i))))) = H8 := (congrArg (fun z => upd H7 D7 (.lst z)) (row_set (e := some (0 - wt (o i))))).symm.trans eH8
              have nD7 : H D7 = none := e6.free hD7
              have s8 : Same H H8 := eH8 ▸ s7.mut nD7
              have s68 : Same H6' H8 := eH8 ▸ e7.same.mut hD7
              have h8 : H8 D7 = some _ := eH8 ▸ upd_same
              have w8 := w6.same s68
              obtain ⟨ys, h1, h2, _⟩ := id w8
              refine ⟨_, rfl, .inl ⟨rfl, _, SqL.of h1⟩, _, rfl, D7, _, rfl, SqL.of h8, nwT fun l H9 e9 f9 hl9 => ?_⟩
              obtain ⟨ys, h1, h2, w9⟩ := (w8.same e9).push (y := .ref l) (f := fun j => if j = i then some (0 - wt (o i)) else (B (o i) (o j)).map (· - wt (o i))) ⟨l, rfl, SqT.of hl9⟩ (fun j hj => by
                show (if j = i then some (0 - wt (o i)) else _) = _
                by_cases h : j = i
                · rw [if_pos h, if_pos h.symm]
                · rw [if_neg h, if_neg (Ne.symm h)])
              exact ⟨pr, _, _, rfl, rfl, h1, sz5l (by omega), _, _, _, rfl, ((e46.trans s68).trans e9).mut fr5, w9⟩
          · rintro σ' H6 ⟨x5, x8, x9, rfl, e46, w6⟩
            have e6 := e3.trans e46
            rw [row_len] at w6
            obtain ⟨M, ys, h1, hM, tab⟩ := w6.tab
            refine ⟨_, rfl, pr, _, rfl, SqL.of h1, nwT fun l H7 e7 f7 hl7 => q (some M) _ _ (e6.trans e7) (tab l _ e7 (SqT.of hl7)) ⟨kp, fun i j hi hj => ?_⟩⟩
            rw [hM i hi j hj]
            exact res i j hi hj
end
end K60

namespace K60
open PySem L2
open C8 (Cal Def Met Mak cal0 met0 mak0 pe_c pe_mk pe_mt pe_mt0 pe_gc InsC call_isC fnScope fnBody fnArgs clsBody fnScope_by)

theorem via {α : Type} {pre : α → Prop} {st : α → L2.St} {H : Hp} {G : Prop} (N : L2.St → Hp → Prop) (main : (∀ e, pre e → N (st e) H) → G) (key : ∀ e, pre e → N (st e) H) : G := main key
theorem inV_row {k : Nat} {o : Nat → Nat} {z : Int} : inV (.int z) (row k (wholeN o)) = true ↔ ∃ i, i < k ∧ ((o i : Nat) : Int) = z := by
  unfold inV
  rw [List.any_eq_true]
  constructor
  · rintro ⟨y, hy, e⟩
    obtain ⟨i, h0⟩ := List.getElem?_of_mem hy
    obtain ⟨h1, rfl⟩ := row_isN h0
    exact ⟨i, h1, by simpa [eqV] using e⟩
  · rintro ⟨i, hi, e⟩
    exact ⟨_, List.mem_of_getElem? (row_getN hi), by simpa [eqV] using e⟩
theorem atI_sub {xs : List V} {i n : Nat} {v : V} (h : n ≤ i) (e : xs[i - n]? = some v) : atI xs ((i : Int) - (n : Int)) = some v := by
  rw [show (i : Int) - (n : Int) = ((i - n : Nat) : Int) by omega]
  exact atI_nat e
/-- an entry of a linked table before its sign is turned -/
structure PreL (n1 : Nat) (t1 t2 : Mx) (k1 k2 : Nat) (o1 o2 : Nat → Nat) (th bk : Mx) (x y : Nat) (e : Option Int) : Prop where
  a : x < n1 → y < n1 → e = t1 x y
  b : ¬ x < n1 → ¬ y < n1 → e = t2 (x - n1) (y - n1)
  c : x < n1 → ¬ y < n1 → ∀ i j, i < k1 → j < k2 → o1 i = x → o2 j = y - n1 → e = th i j
  c0 : x < n1 → ¬ y < n1 → (∀ i j, i < k1 → j < k2 → ¬ (o1 i = x ∧ o2 j = y - n1)) → e = none
  d : ¬ x < n1 → y < n1 → ∀ i j, i < k1 → j < k2 → o1 i = y → o2 j = x - n1 → e = bk j i
  d0 : ¬ x < n1 → y < n1 → (∀ i j, i < k1 → j < k2 → ¬ (o1 i = y ∧ o2 j = x - n1)) → e = none
def PostL (n1 : Nat) (t1 t2 : Mx) (k1 k2 : Nat) (o1 o2 : Nat → Nat) (th bk : Mx) (x y : Nat) (e : Option Int) : Prop := ∃ e0, PreL n1 t1 t2 k1 k2 o1 o2 th bk x y e0 ∧ e = if (x < n1 ↔ y < n1) then e0 else e0.map (0 - ·)
section
variable {n1 n2 k1 k2 : Nat} {t1 t2 th bk M : Mx} {o1 o2 : Nat → Nat} {x y : Nat} {e : Option Int}
theorem lnk_of (l1 : ∀ i, i < k1 → o1 i < n1) (h : ∀ x y, x < n1 + n2 → y < n1 + n2 → (∀ j, j < k2 → o2 j < n2) → PostL n1 t1 t2 k1 k2 o1 o2 th bk x y (M x y)) (l2 : ∀ j, j < k2 → o2 j < n2) : Lnk n1 n2 t1 t2 k1 k2 o1 o2 th bk M where
  in1 := fun x y hx hy => by
    obtain ⟨e0, p, q⟩ := h x y (by omega) (by omega) l2
    rw [if_pos (by omega)] at q
    rw [q, p.a hx hy]
  in2 := fun x y hx hy => by
    obtain ⟨e0, p, q⟩ := h (n1 + x) (n1 + y) (by omega) (by omega) l2
    rw [if_pos (by omega)] at q
    rw [q, p.b (by omega) (by omega), Nat.add_sub_cancel_left, Nat.add_sub_cancel_left]
  th_ := fun i j hi hj => by
    have q1 := l1 i hi
    have q2 := l2 j hj
    obtain ⟨e0, p, q⟩ := h (o1 i) (n1 + o2 j) (by omega) (by omega) l2
    rw [if_neg (by omega)] at q
    rw [q, p.c q1 (by omega) i j hi hj rfl (by omega)]
  bk_ := fun i j hi hj => by
    have q1 := l1 i hi
    have q2 := l2 j hj
    obtain ⟨e0, p, q⟩ := h (n1 + o2 j) (o1 i) (by omega) (by omega) l2
    rw [if_neg (by omega)] at q
    rw [q, p.d (by omega) q1 i j hi hj rfl (by omega)]
  no := fun x y hx hy hn => by
    constructor
    · obtain ⟨e0, p, q⟩ := h x (n1 + y) (by omega) (by omega) l2
      rw [if_neg (by omega)] at q
      rw [q, p.c0 hx (by omega) fun i j hi hj z => hn i j hi hj ⟨z.1, by omega⟩]
      rfl
    · obtain ⟨e0, p, q⟩ := h (n1 + y) x (by omega) (by omega) l2
      rw [if_neg (by omega)] at q
      rw [q, p.d0 (by omega) hx fun i j hi hj z => hn i j hi hj ⟨z.1, by omega⟩]
      rfl
theorem pre_a (hx : x < n1) (hy : y < n1) : PreL n1 t1 t2 k1 k2 o1 o2 th bk x y (t1 x y) := ⟨fun _ _ => rfl, fun h => absurd hx h, fun _ h => absurd hy h, fun _ h => absurd hy h, fun h => absurd hx h, fun h => absurd hx h⟩
theorem pre_b (hx : ¬ x < n1) (hy : ¬ y < n1) : PreL n1 t1 t2 k1 k2 o1 o2 th bk x y (t2 (x - n1) (y - n1)) := ⟨fun h => absurd h hx, fun _ _ => rfl, fun h => absurd h hx, fun h => absurd h hx, fun _ h => absurd h hy, fun _ h => absurd h hy⟩
theorem Lot.inj {n k : Nat} {o : Nat → Nat} (L : Lot n k o) {i j : Nat} (hi : i < k) (hj : j < k) (e : o i = o j) : i = j := by
  rcases Nat.lt_trichotomy i j with z | z | z
  · have := L.up i j z hj; omega
  · exact z
  · have := L.up j i z hi; omega
theorem pre_c (hx : x < n1) (hy : ¬ y < n1) (L1 : Lot n1 k1 o1) (L2 : Lot n2 k2 o2) {i j : Nat} (hi : i < k1) (hj : j < k2) (e1 : o1 i = x) (e2 : o2 j = y - n1) : PreL n1 t1 t2 k1 k2 o1 o2 th bk x y (th i j) :=
  ⟨fun _ h => absurd h hy, fun h => absurd hx h, fun _ _ i' j' hi' hj' q1 q2 => by rw [L1.inj hi hi' (e1.trans q1.symm), L2.inj hj hj' (e2.trans q2.symm)], fun _ _ h => absurd ⟨e1, e2⟩ (h i j hi hj), fun h => absurd hx h, fun h => absurd hx h⟩
theorem pre_c0 (hx : x < n1) (hy : ¬ y < n1) (h : ∀ i j, i < k1 → j < k2 → ¬ (o1 i = x ∧ o2 j = y - n1)) : PreL n1 t1 t2 k1 k2 o1 o2 th bk x y none :=
  ⟨fun _ h => absurd h hy, fun h => absurd hx h, fun _ _ i j hi hj q1 q2 => absurd ⟨q1, q2⟩ (h i j hi hj), fun _ _ _ => rfl, fun h => absurd hx h, fun h => absurd hx h⟩
theorem pre_d (hx : ¬ x < n1) (hy : y < n1) (L1 : Lot n1 k1 o1) (L2 : Lot n2 k2 o2) {i j : Nat} (hi : i < k1) (hj : j < k2) (e1 : o1 i = y) (e2 : o2 j = x - n1) : PreL n1 t1 t2 k1 k2 o1 o2 th bk x y (bk j i) :=
  ⟨fun h => absurd h hx, fun _ h => absurd hy h, fun h => absurd h hx, fun h => absurd h hx, fun _ _ i' j' hi' hj' q1 q2 => by rw [L1.inj hi hi' (e1.trans q1.symm), L2.inj hj hj' (e2.trans q2.symm)], fun _ _ h => absurd ⟨e1, e2⟩ (h i j hi hj)⟩
theorem pre_d0 (hx : ¬ x < n1) (hy : y < n1) (h : ∀ i j, i < k1 → j < k2 → ¬ (o1 i = y ∧ o2 j = x - n1)) : PreL n1 t1 t2 k1 k2 o1 o2 th bk x y none :=
  ⟨fun h => absurd h hx, fun _ h => absurd hy h, fun h => absurd h hx, fun h => absurd h hx, fun _ _ i j hi hj q1 q2 => absurd ⟨q1, q2⟩ (h i j hi hj), fun _ _ _ => rfl⟩
end
def spLinkedL (K : PySem.W.Frag) : Sp := fun vs H Q _ => ∃ (n1 n2 k1 k2 : Nat) (t1 t2 th bk : Mx) (o1 o2 : Nat → Nat) (v1 v2 v5 v6 : V) (b1 b2 : Addr), vs = [v1, v2, .ref b1, .ref b2, v5, v6] ∧
  IsTab K H v1 n1 n1 t1 ∧ IsTab K H v2 n2 n2 t2 ∧ TupD H b1 (row k1 (wholeN o1)) ∧ TupD H b2 (row k2 (wholeN o2)) ∧ IsTab K H v5 k1 k2 th ∧ IsTab K H v6 k2 k1 bk ∧ n1 ≤ 500 ∧ n2 ≤ 500 ∧ Lot n1 k1 o1 ∧ Lot n2 k2 o2 ∧
  ∀ (M : Mx) (v : V) (H' : Hp), Same H H' → IsTab K H' v (n1 + n2) (n1 + n2) M → Lnk n1 n2 t1 t2 k1 k2 o1 o2 th bk M → Q v H'

/- _law_linked: slots 0 _law_table 1 _law_other 2 _law_outer 3 _law_far 4 _law_there 5 _law_back 6 _law_size 7 _law_rows 8 _law_x 9 _law_row 10 _law_y 11 _law_entry_here; cells [] -/
abbrev s__law_linked : Stmt := top 48
theorem sc__law_linked : FnScope ["_law_table", "_law_other", "_law_outer", "_law_far", "_law_there", "_law_back", "_law_size", "_law_rows", "_law_x", "_law_row", "_law_y", "_law_entry_here"] ["_law_table", "_law_other", "_law_outer", "_law_far", "_law_there", "_law_back"] (fnScope s__law_linked) := fnScope_by (by decide +kernel)
section
variable {P : Program} {w : World} {K : PySem.W.Frag} {mg : Str → Option Value} {base : Heap}
theorem ok_law_linked (T : Txt mg) (D : Dx K mg "_law_linked" s__law_linked ["_law_table", "_law_other", "_law_outer", "_law_far", "_law_there", "_law_back"]) : Cal P w K mg base 1 "_law_linked" (spLinkedL K) [] := by
  refine cal D sc__law_linked (fun vs H Q E h => ?_) (fun f cdv A outer s H vs Q E hr h => ?_)
  · obtain ⟨n1, n2, k1, k2, t1, t2, th, bk, o1, o2, v1, v2, v5, v6, b1, b2, rfl, _⟩ := h
    rfl
  · obtain ⟨n1, n2, k1, k2, t1, t2, th, bk, o1, o2, v1, v2, v5, v6, b1, b2, rfl, hT1, hT2, hO1, hO2, hth, hbk, hn1, hn2, L1, L2, q⟩ := h
    have nd := sc__law_linked.nd
    refine ⟨_, (pss_cons (ps_set (i := 6) nd rfl (Or.inl rfl) (pe_callB (lenK K) (by rfl) T.len boot_len (pa_cons (pv 0) pa_nil)))
      (pss_cons (ps_set (i := 7) nd rfl (Or.inl rfl) (pe_lst pa_nil))
      (pss_cons (ps_for PassesOwn.never rfl (pi_range1 (by rfl) T.range (pa_cons (pe_op op_add (pv 6) (pe_callB (lenK K) (by rfl) T.len boot_len (pa_cons (pv 1) pa_nil))) pa_nil)) (pg_name (i := 8) nd rfl (Or.inl rfl))
        (pss_cons (ps_set (i := 9) nd rfl (Or.inl rfl) (pe_lst pa_nil))
        (pss_cons (ps_for PassesOwn.never rfl (pi_range1 (by rfl) T.range (pa_cons (pe_op op_add (pv 6) (pe_callB (lenK K) (by rfl) T.len boot_len (pa_cons (pv 1) pa_nil))) pa_nil)) (pg_name (i := 10) nd rfl (Or.inl rfl))
          (pss_cons (ps_set (i := 11) nd rfl (Or.inl rfl) pe_non)
          (pss_cons (ps_if (PW.pt (pw_and (pt_cmpR op_lt (pv 8) (pv 6) (nomark _)) (pw_and1 (pt_cmpR op_lt (pv 10) (pv 6) (nomark _))))) (pss_one (ps_set (i := 11) nd rfl (Or.inl rfl) (pe_ix (ixT K) (pe_ix (ixT K) (pv 0) (pv 8) (fun _ _ => rfl)) (pv 10) (fun _ _ => rfl)))) (pss_one (ps_if (PW.pt (pw_and (pt_cmpR op_ge (pv 8) (pv 6) (nomark _)) (pw_and1 (pt_cmpR op_ge (pv 10) (pv 6) (nomark _))))) (pss_one (ps_set (i := 11) nd rfl (Or.inl rfl) (pe_ix (ixT K) (pe_ix (ixT K) (pv 1) (pe_op op_sub (pv 8) (pv 6)) (fun _ _ => rfl)) (pe_op op_sub (pv 10) (pv 6)) (fun _ _ => rfl)))) (pss_one (ps_if (pt_cmpR op_lt (pv 8) (pv 6) (nomark _)) (pss_one (ps_if (PW.pt (pw_and (pt_cmpR (inK K) (pv 8) (pv 2) rfl) (pw_and1 (pt_cmpR (inK K) (pe_op op_sub (pv 10) (pv 6)) (pv 3) rfl)))) (pss_one (ps_set (i := 11) nd rfl (Or.inl rfl) (pe_ix (ixT K) (pe_ix (ixT K) (pv 4) (pe_tidx (pv 2) (pa_cons (pv 8) pa_nil)) (fun _ _ => rfl)) (pe_tidx (pv 3) (pa_cons (pe_op op_sub (pv 10) (pv 6)) pa_nil)) (fun _ _ => rfl)))) pss_nil)) (pss_one (ps_if (PW.pt (pw_and (pt_cmpR (inK K) (pe_op op_sub (pv 8) (pv 6)) (pv 3) rfl) (pw_and1 (pt_cmpR (inK K) (pv 10) (pv 2) rfl)))) (pss_one (ps_set (i := 11) nd rfl (Or.inl rfl) (pe_ix (ixT K) (pe_ix (ixT K) (pv 5) (pe_tidx (pv 3) (pa_cons (pe_op op_sub (pv 8) (pv 6)) pa_nil)) (fun _ _ => rfl)) (pe_tidx (pv 2) (pa_cons (pv 10) pa_nil)) (fun _ _ => rfl)))) pss_nil)))))))
          (pss_cons (ps_if (PW.pt (pw_and (pt_cmpR op_ne (pe_cmpR op_lt (pv 8) (pv 6) (nomark _)) (pe_cmpR op_lt (pv 10) (pv 6) (nomark _)) (nomark _)) (pw_and1 (pt_cmpR op_notN (pv 11) pe_non (nomark _))))) (pss_one (ps_set (i := 11) nd rfl (Or.inl rfl) (pe_op op_sub pe_int (pv 11)))) pss_nil)
          (pss_one (ps_expr (pe_bm PySem.F.plainAttrs_list PySem.F.slot_list_append PySem.F.type_list_append mt_append (pv 9) (pa_cons (pv 11) pa_nil))))))))
        (pss_one (ps_expr (pe_bm PySem.F.plainAttrs_list PySem.F.slot_list_append PySem.F.type_list_append mt_append (pv 7) (pa_cons (pe_callTy (tupK K) (by rfl) T.tuple boot_tuple (pa_cons (pv 9) pa_nil)) pa_nil)))))))
      (pss_one (ps_ret (pe_callTy (tupK K) (by rfl) T.tuple boot_tuple (pa_cons (pv 7) pa_nil))))))), ?_⟩
    obtain ⟨a1, vs1, rfl, hq1, hl1, hr1⟩ := id hT1
    obtain ⟨a2, vs2, rfl, hq2, hl2, hr2⟩ := id hT2
    obtain ⟨c5, vs5, rfl, hq5, hl5, hr5⟩ := id hth
    obtain ⟨c6, vs6, rfl, hq6, hl6, hr6⟩ := id hbk
    have eN : (n1 : Int) + (n2 : Int) = ((n1 + n2 : Nat) : Int) := by omega
    refine ⟨_, rfl, _, _, rfl, .inr hq1, ?_⟩
    rw [hl1]
    refine ⟨sz5 (by show 0 ≤ 100000; decide), nwL fun pr H1 e1 fp hp => ?_⟩
    refine ⟨_, rfl, _, rfl, _, _, rfl, .inr (e1.sqt hq2), ?_⟩
    rw [hl2]
    refine ⟨_, _, rfl, rfl, ((n1 + n2 : Nat) : Int), congrArg (fun z => [V.int z]) eN, by omega, by omega, for_it walk_rng (fun i σ' H' => ∃ x8 x9 x10 x11, σ' = [some (.ref a1), some (.ref a2), some (.ref b1), some (.ref b2), some (.ref c5), some (.ref c6), some (.int (n1 : Int)), some (.ref pr), x8, x9, x10, x11] ∧ Same H H' ∧
        RowsE K H' pr (n1 + n2) i (fun x f => ∀ y, y < n1 + n2 → PostL n1 t1 t2 k1 k2 o1 o2 th bk x y (f y)))
      ⟨none, none, none, none, rfl, e1, .nil hp⟩ (fun _ _ _ _ _ => trivial) ?_ ?_⟩
    · rintro i x σ' H2 H2' hi ⟨x8, x9, x10, x11, rfl, e2, w2⟩ ⟨rfl, rfl⟩
      have hi : i < n1 + n2 := hi
      refine ⟨sz5 (by show 0 ≤ 100000; decide), nwL fun D H3 e3 fD hD => ?_⟩
      refine ⟨_, rfl, _, rfl, _, _, rfl, .inr ((e2.trans e3).sqt hq2), ?_⟩
      rw [hl2]
      refine ⟨_, _, rfl, rfl, ((n1 + n2 : Nat) : Int), congrArg (fun z => [V.int z]) eN, by omega, by omega, for_it walk_rng (fun j σ' H' => ∃ f x10 x11, σ' = [some (.ref a1), some (.ref a2), some (.ref b1), some (.ref b2), some (.ref c5), some (.ref c6), some (.int (n1 : Int)), some (.ref pr), some (.int (i : Nat)), some (.ref D), x10, x11] ∧ Same H2' H' ∧
          H' D = some (.lst (row j f)) ∧ ∀ y, y < j → PostL n1 t1 t2 k1 k2 o1 o2 th bk i y (f y))
        ⟨fun _ => none, x10, x11, rfl, e3, hD, fun y h => absurd h (Nat.not_lt_zero _)⟩ (fun _ _ _ _ _ => trivial) ?_ ?_⟩
      · rintro j x σ' H4 H4' hj ⟨f, x10, x11, rfl, e4, hD4, hf⟩ ⟨rfl, rfl⟩
        have hj : j < n1 + n2 := hj
        have s4 := e2.trans e4
        apply via (pre := PreL n1 t1 t2 k1 k2 o1 o2 th bk i j) (st := fun e => [some (.ref a1), some (.ref a2), some (.ref b1), some (.ref b2), some (.ref c5), some (.ref c6), some (.int (n1 : Int)), some (.ref pr), some (.int (i : Nat)), some (.ref D), some (.int (j : Nat)), some (enc e)]) (H := H4')
        · intro key
          by_cases hx : i < n1
          · have hxI : (i : Int) < (n1 : Int) := by omega
            have hxG : ¬ (i : Int) ≥ (n1 : Int) := by omega
            by_cases hy : j < n1
            · have hyI : (j : Int) < (n1 : Int) := by omega
              obtain ⟨y1, d1, hy1, rfl, hr⟩ := IsTab.row hr1 hl1 hx
              exact ⟨_, rfl, _, rfl, _, _, rfl, rfl, _, rfl, iteDT hxI ⟨_, rfl, _, rfl, _, _, rfl, rfl, _, rfl, iteDT hyI ⟨_, rfl, _, rfl, _, _, _, _, rfl, rfl, s4.sqt hq1, atI_nat hy1, _, rfl, _, _, _, _, rfl, rfl, s4.sqt hr, atI_nat (row_get hy), key _ (pre_a hx hy)⟩⟩⟩
            · have hyI : ¬ (j : Int) < (n1 : Int) := by omega
              refine ⟨_, rfl, _, rfl, _, _, rfl, rfl, _, rfl, iteDT hxI ⟨_, rfl, _, rfl, _, _, rfl, rfl, _, rfl, iteDF hyI ⟨_, rfl, _, rfl, _, _, rfl, rfl, _, rfl, iteDF hxG (iteF ⟨_, rfl, _, rfl, _, _, rfl, rfl, _, rfl, iteDT hxI ⟨_, rfl, _, rfl, b1, _, rfl, .inr (s4.tupD hO1).sq, rfl, row_flat, _, rfl, iteB (fun ht => ?_) (fun hf1 => ?_)⟩⟩)⟩⟩⟩
              · obtain ⟨i', hi', ho⟩ := inV_row.mp ht
                refine ⟨_, rfl, _, rfl, _, _, rfl, rfl, _, rfl, b2, _, rfl, .inr (s4.tupD hO2).sq, rfl, row_flat, _, rfl, iteB (fun ht2 => ?_) (fun hf2 => ?_)⟩
                · obtain ⟨j', hj', ho2⟩ := inV_row.mp ht2
                  obtain ⟨w5, d5, hw5, rfl, hd5⟩ := IsTab.row hr5 hl5 hi'
                  refine ⟨_, rfl, _, rfl, b1, rfl, ⟨_, s4.tupD hO1⟩, _, rfl, oI k1 o1, _, i', rfl, by rw [← row_oI]; exact s4.tupD hO1, by rw [oI_get hi', ho], by rw [← ho]; exact oI_no L1 hi', _, _, _, _, rfl, rfl, s4.sqt hq5, atI_nat hw5, ?_⟩
                  refine ⟨_, rfl, b2, rfl, ⟨_, s4.tupD hO2⟩, _, rfl, _, rfl, _, _, rfl, rfl, oI k2 o2, _, j', rfl, by rw [← row_oI]; exact s4.tupD hO2, by rw [oI_get hj', ho2], by rw [← ho2]; exact oI_no L2 hj', _, _, _, _, rfl, rfl, s4.sqt hd5, atI_nat (row_get hj'), ?_⟩
                  exact key _ (pre_c hx hy L1 L2 hi' hj' (by omega) (by omega))
                · refine key none (pre_c0 hx hy fun i' j' h1 h2 z => ?_)
                  have := inV_row.mpr ⟨j', h2, show ((o2 j' : Nat) : Int) = (j : Int) - (n1 : Int) by omega⟩
                  rw [show inV (V.int ((j : Int) - (n1 : Int))) (row k2 (wholeN o2)) = false from hf2] at this
                  cases this
              · refine iteF (key none (pre_c0 hx hy fun i' j' h1 h2 z => ?_))
                have := inV_row.mpr ⟨i', h1, show ((o1 i' : Nat) : Int) = (i : Int) by omega⟩
                rw [show inV (V.int (i : Int)) (row k1 (wholeN o1)) = false from hf1] at this
                cases this
          · have hxI : ¬ (i : Int) < (n1 : Int) := by omega
            have hxG : (i : Int) ≥ (n1 : Int) := by omega
            by_cases hy : j < n1
            · have hyG : ¬ (j : Int) ≥ (n1 : Int) := by omega
              refine ⟨_, rfl, _, rfl, _, _, rfl, rfl, _, rfl, iteDF hxI (iteF ⟨_, rfl, _, rfl, _, _, rfl, rfl, _, rfl, iteDT hxG ⟨_, rfl, _, rfl, _, _, rfl, rfl, _, rfl, iteDF hyG ⟨_, rfl, _, rfl, _, _, rfl, rfl, _, rfl, iteDF hxI ⟨_, rfl, _, rfl, _, _, rfl, rfl, _, rfl, b2, _, rfl, .inr (s4.tupD hO2).sq, rfl, row_flat, _, rfl, iteB (fun ht => ?_) (fun hf1 => ?_)⟩⟩⟩⟩)⟩
              · obtain ⟨j', hj', ho2⟩ := inV_row.mp ht
                refine ⟨_, rfl, _, rfl, b1, _, rfl, .inr (s4.tupD hO1).sq, rfl, row_flat, _, rfl, iteB (fun ht2 => ?_) (fun hf2 => ?_)⟩
                · obtain ⟨i', hi', ho⟩ := inV_row.mp ht2
                  obtain ⟨w6, d6, hw6, rfl, hd6⟩ := IsTab.row hr6 hl6 hj'
                  refine ⟨_, rfl, _, rfl, b2, rfl, ⟨_, s4.tupD hO2⟩, _, rfl, _, rfl, _, _, rfl, rfl, oI k2 o2, _, j', rfl, by rw [← row_oI]; exact s4.tupD hO2, by rw [oI_get hj', ho2], by rw [← ho2]; exact oI_no L2 hj', _, _, _, _, rfl, rfl, s4.sqt hq6, atI_nat hw6, ?_⟩
                  refine ⟨_, rfl, b1, rfl, ⟨_, s4.tupD hO1⟩, _, rfl, oI k1 o1, _, i', rfl, by rw [← row_oI]; exact s4.tupD hO1, by rw [oI_get hi', ho], by rw [← ho]; exact oI_no L1 hi', _, _, _, _, rfl, rfl, s4.sqt hd6, atI_nat (row_get hi'), ?_⟩
                  exact key _ (pre_d hx hy L1 L2 hi' hj' (by omega) (by omega))
                · refine key none (pre_d0 hx hy fun i' j' h1 h2 z => ?_)
                  have := inV_row.mpr ⟨i', h1, show ((o1 i' : Nat) : Int) = (j : Int) by omega⟩
                  rw [show inV (V.int (j : Int)) (row k1 (wholeN o1)) = false from hf2] at this
                  cases this
              · refine iteF (key none (pre_d0 hx hy fun i' j' h1 h2 z => ?_))
                have := inV_row.mpr ⟨j', h2, show ((o2 j' : Nat) : Int) = (i : Int) - (n1 : Int) by omega⟩
                rw [show inV (V.int ((i : Int) - (n1 : Int))) (row k2 (wholeN o2)) = false from hf1] at this
                cases this
            · have hyG : (j : Int) ≥ (n1 : Int) := by omega
              obtain ⟨y2, d2, hy2, rfl, hr⟩ := IsTab.row hr2 hl2 (show i - n1 < n2 by omega)
              exact ⟨_, rfl, _, rfl, _, _, rfl, rfl, _, rfl, iteDF hxI (iteF ⟨_, rfl, _, rfl, _, _, rfl, rfl, _, rfl, iteDT hxG ⟨_, rfl, _, rfl, _, _, rfl, rfl, _, rfl, iteDT hyG ⟨_, rfl, _, rfl, _, rfl, _, _, rfl, rfl, _, _, _, _, rfl, rfl, s4.sqt hq2, atI_sub (by omega) hy2, _, rfl, _, rfl, _, _, rfl, rfl, _, _, _, _, rfl, rfl, s4.sqt hr, atI_sub (by omega) (row_get (by omega)), key _ (pre_b hx hy)⟩⟩⟩)⟩
        · intro e hpre
          have fin : ∀ e', PostL n1 t1 t2 k1 k2 o1 o2 th bk i j e' → ∃ f' x10' x11', [some (V.ref a1), some (.ref a2), some (.ref b1), some (.ref b2), some (.ref c5), some (.ref c6), some (.int (n1 : Int)), some (.ref pr), some (.int (i : Nat)), some (.ref D), some (.int (j : Nat)), some (enc e')] = [some (V.ref a1), some (.ref a2), some (.ref b1), some (.ref b2), some (.ref c5), some (.ref c6), some (.int (n1 : Int)), some (.ref pr), some (.int (i : Nat)), some (.ref D), x10', x11'] ∧
              Same H2' (upd H4' D (.lst (row j f ++ [enc e']))) ∧ upd H4' D (.lst (row j f ++ [enc e'])) D = some (.lst (row (j + 1) f')) ∧ ∀ y, y < j + 1 → PostL n1 t1 t2 k1 k2 o1 o2 th bk i y (f' y) := fun e' he => by
            refine ⟨fun y => if y = j then e' else f y, _, _, rfl, e4.mut fD, ?_, fun y hy => ?_⟩
            · rw [upd_same, row_succ, if_pos rfl]
              congr 3
              exact row_congr fun y hy => by rw [if_neg (by omega)]
            · show PostL n1 t1 t2 k1 k2 o1 o2 th bk i y (if y = j then e' else f y)
              by_cases h : y = j
              · rw [if_pos h, h]; exact he
              · rw [if_neg h]; exact hf y (by omega)
          refine ⟨_, rfl, _, rfl, _, _, rfl, rfl, _, rfl, _, rfl, _, _, rfl, rfl, rfl, _, rfl, ?_⟩
          by_cases hs : decide ((i : Int) < (n1 : Int)) = decide ((j : Int) < (n1 : Int))
          · have hs2 : i < n1 ↔ j < n1 := by
              have := decide_eq_decide.mp hs
              omega
            exact iteNT (congrArg V.bl hs) (iteF ⟨_, rfl, .inl ⟨rfl, _, SqL.of hD4⟩, _, rfl, D, _, _, rfl, rfl, hD4, sz5l (by rw [row_len]; omega), fin e ⟨e, hpre, by rw [if_pos hs2]⟩⟩)
          · have hs2 : ¬ (i < n1 ↔ j < n1) := fun z => hs (decide_eq_decide.mpr (by omega))
            refine iteNF (fun z => hs (V.bl.inj z)) ⟨_, rfl, rfl, _, rfl, ?_⟩
            cases e with
            | none => exact iteNT rfl ⟨_, rfl, .inl ⟨rfl, _, SqL.of hD4⟩, _, rfl, D, _, _, rfl, rfl, hD4, sz5l (by rw [row_len]; omega), fin none ⟨none, hpre, by rw [if_neg hs2]; rfl⟩⟩
            | some g => exact iteNF (fun z => by cases z) ⟨_, rfl, _, _, rfl, rfl, _, rfl, .inl ⟨rfl, _, SqL.of hD4⟩, _, rfl, D, _, _, rfl, rfl, hD4, sz5l (by rw [row_len]; omega), fin (some (0 - g)) ⟨some g, hpre, by rw [if_neg hs2]; rfl⟩⟩
      · rintro σ' H4 ⟨f, x10, x11, rfl, e4, hD4, hf⟩
        have s4 := e2.trans e4
        obtain ⟨ys, h1, h2, _⟩ := id (w2.same e4)
        refine ⟨_, rfl, .inl ⟨rfl, _, SqL.of h1⟩, _, rfl, D, _, rfl, SqL.of hD4, nwT fun l H5 e5 f5 hl5 => ?_⟩
        obtain ⟨ys, h1, h2, w5⟩ := ((w2.same e4).same e5).push (y := .ref l) (f := f) ⟨l, rfl, SqT.of hl5⟩ (fun y hy => hf y hy)
        exact ⟨pr, _, _, rfl, rfl, h1, sz5l (by omega), _, _, _, _, rfl, (s4.trans e5).mut fp, w5⟩
    · rintro σ' H2 ⟨x8, x9, x10, x11, rfl, e2, w2⟩
      obtain ⟨M, ys, h1, hM, tab⟩ := w2.tab
      exact ⟨_, rfl, pr, _, rfl, SqL.of h1, nwT fun l H5 e5 f5 hl5 => q M _ _ (e2.trans e5) (tab l _ e5 (SqT.of hl5)) (lnk_of L1.lt (fun x y hx hy _ => hM x hx y hy) L2.lt)⟩
end
end K60

namespace K60
open PySem L2
open C8 (Cal Def Met Mak cal0 met0 mak0 pe_c pe_mk pe_mt pe_mt0 pe_gc InsC call_isC fnScope fnBody fnArgs clsBody fnScope_by)

/-! ### tuples put together, cut -/
def rCatZ (K : PySem.W.Frag) : R2 := fun x y H Q => ∃ a b xs ys, x = .ref a ∧ y = .ref b ∧ SqT K H a xs ∧ SqT K H b ys ∧ xs.length + ys.length ≤ sizeLine ∧ ∀ p H', Same H H' → SqT K H' p (xs ++ ys) → Q (.ref p) H'
theorem catZK {X : Cx} (K : PySem.W.Frag) (h : X.K = K := by rfl) : OpR X (binaryOp .Add) (rCatZ K) := fun pins s σ H x y v u Q I rx ry ⟨a, b, xs, ys, e1, e2, h1, h2, h3, q⟩ => catAK K h pins s σ H x y v u Q I rx ry ⟨a, b, xs, ys, e1, e2, h1, h2, h3,
  fun z => q b H (Same.refl H) (by rw [z]; exact h2), fun _ z => q a H (Same.refl H) (by rw [z, List.append_nil]; exact h1), fun _ _ p hp => q p _ (Same.new hp) (SqT.of upd_same)⟩
def rSlZ (K : PySem.W.Frag) : V → Option Int → Option Int → Hp → VK → Prop := fun x lo hi H Q => ∃ a xs, x = .ref a ∧ SqT K H a xs ∧ ∀ p H', Same H H' → SqT K H' p (cutV xs lo hi) → Q (.ref p) H'
theorem slZK {X : Cx} (K : PySem.W.Frag) (h : X.K = K := by rfl) : SlR X (rSlZ K) := fun pins s σ H x v vl vu lo hi sl Q I rx hs pl pu ⟨a, xs, e1, h1, q⟩ => slK K h pins s σ H x v vl vu lo hi sl Q I rx hs pl pu ⟨a, xs, e1, h1,
  fun z => q a H (Same.refl H) (by unfold cutV; rw [z.1, z.2]; simpa using h1), fun _ p hp => q p _ (Same.new hp) (SqT.of upd_same)⟩
theorem cut_lo {xs : List V} {d : Nat} (h : d ≤ xs.length) : cutV xs none (some (d : Int)) = xs.take d := by
  unfold cutV
  rw [HT.sIx_none, HT.sIx_nat, List.drop_zero, Nat.min_eq_left h, Nat.sub_zero]
theorem cut_hi {xs : List V} {d : Nat} (h : d < xs.length) : cutV xs (some ((d : Int) + 1)) none = xs.drop (d + 1) := by
  unfold cutV
  rw [show (d : Int) + 1 = ((d + 1 : Nat) : Int) by omega, HT.sIx_none, HT.sIx_nat, Nat.min_eq_left (by omega)]
  exact List.take_of_length_le (by rw [List.length_drop]; omega)
theorem bump_row {n d : Nat} {w : Nat → Int} {m : Int} (h : d < n) : ((row n (whole w)).take d ++ [V.int (w d + m)]) ++ (row n (whole w)).drop (d + 1) = row n (whole fun x => if x = d then w x + m else w x) := by
  have e0 : (row n (whole w)).set d (enc (some (w d + m))) = row n (whole fun x => if x = d then w x + m else w x) := by
    rw [row_set]
    exact row_congr fun j hj => by
      by_cases c : j = d
      · rw [if_pos c]
        show _ = some (if j = d then w j + m else w j)
        rw [if_pos c, c]
      · rw [if_neg c]
        show some (w j) = some (if j = d then w j + m else w j)
        rw [if_neg c]
  rw [← e0, List.set_eq_take_append_cons_drop, if_pos (by rw [row_len]; exact h)]
  rw [List.append_assoc]
  rfl
theorem via2 {α : Type} {pre : α → Hp → Prop} {st : L2.St} {G : Prop} (N : L2.St → Hp → Prop) (main : (∀ e H, pre e H → N st H) → G) (key : ∀ e H, pre e H → N st H) : G := main key

/-! ### parts as tuples -/
def PartT (K : PySem.W.Frag) (H : Hp) (v : V) (n k : Nat) (t : Mx) (w : Nat → Int) (o : Nat → Nat) : Prop := ∃ (a : Addr) (tv : V) (wa oa : Addr), v = .ref a ∧ SqT K H a [tv, .ref wa, .ref oa] ∧ IsTab K H tv n n t ∧ SqT K H wa (row n (whole w)) ∧ TupD H oa (row k (wholeN o))
theorem PartT.rl {K : PySem.W.Frag} {S : Addr → Prop} {H H' : Hp} {v : V} {n k : Nat} {t : Mx} {w : Nat → Int} {o : Nat → Nat} (e : Rl S H H') (h : PartT K H v n k t w o) : PartT K H' v n k t w o :=
  let ⟨a, tv, wa, oa, h0, h1, h2, h3, h4⟩ := h
  ⟨a, tv, wa, oa, h0, e.sqt h1, h2.rl e, e.sqt h3, e.tupD h4⟩
theorem PartT.same {K : PySem.W.Frag} {H H' : Hp} {v : V} {n k : Nat} {t : Mx} {w : Nat → Int} {o : Nat → Nat} (e : Same H H') (h : PartT K H v n k t w o) : PartT K H' v n k t w o := h.rl (Same.rl e)
def spMade (K : PySem.W.Frag) : Sp := fun vs H Q _ => ∃ (k : Nat) (G : Mx) (v : V), vs = [v] ∧ IsTab K H v k k G ∧ 0 < k ∧ k ≤ 300 ∧ (∀ x, x < k → ∃ g, G x x = some g ∧ g ≤ 0) ∧ ∀ (v' : V) (t : Mx) (w : Nat → Int) (H' : Hp), Same H H' → PartT K H' v' k k t w id → VP k k t w id → Q v' H'
def spPadded (K : PySem.W.Frag) : Sp := fun vs H Q _ => ∃ (d wa oa : Addr) (n k : Nat) (t : Mx) (w : Nat → Int) (o : Nat → Nat) (tv : V) (u : Int), vs = [.ref d, tv, .ref wa, .ref oa, .int u] ∧ Dg d H ∧ IsTab K H tv n n t ∧ SqT K H wa (row n (whole w)) ∧ TupD H oa (row k (wholeN o)) ∧ VP n k t w o ∧ n ≤ 300 ∧ 0 ≤ u ∧
  ∀ (v' : V) (n' : Nat) (t' : Mx) (w' : Nat → Int) (H' : Hp), Rg d H H' → n' ≤ n + 1 → PartT K H' v' n' k t' w' o → VP n' k t' w' o → Q v' H'
def spBent (K : PySem.W.Frag) : Sp := fun vs H Q _ => ∃ (d : Addr) (n k : Nat) (t : Mx) (w : Nat → Int) (o : Nat → Nat) (v : V) (u : Int), vs = [.ref d, v, .int u] ∧ Dg d H ∧ PartT K H v n k t w o ∧ VP n k t w o ∧ n ≤ 400 ∧ 0 ≤ u ∧
  ∀ (v' : V) (t' : Mx) (w' : Nat → Int) (H' : Hp), Rg d H H' → PartT K H' v' n k t' w' o → VP n k t' w' o → Q v' H'

/- _law_made: slots 0 _law_gains_here 1 _law_many 2 _law_waits 3 _law_rows 4 _law_x 5 _law_row 6 _law_y; cells ['_law_gains_here', '_law_waits', '_law_x'] -/
abbrev s__law_made : Stmt := top 49
theorem sc__law_made : FnScope ["_law_gains_here", "_law_many", "_law_waits", "_law_rows", "_law_x", "_law_row", "_law_y"] ["_law_gains_here"] (fnScope s__law_made) := fnScope_by (by decide +kernel)
/- _law_padded: slots 0 _law_digits_here 1 _law_table 2 _law_waits 3 _law_outer 4 _law_unit 5 _law_out 6 _law_many 7 _law_last 8 _law_rows 9 _law_x; cells ['_law_digits_here', '_law_last', '_law_out', '_law_table', '_law_unit'] -/
abbrev s__law_padded : Stmt := top 50
theorem sc__law_padded : FnScope ["_law_digits_here", "_law_table", "_law_waits", "_law_outer", "_law_unit", "_law_out", "_law_many", "_law_last", "_law_rows", "_law_x"] ["_law_digits_here", "_law_table", "_law_waits", "_law_outer", "_law_unit"] (fnScope s__law_padded) := fnScope_by (by decide +kernel)
/- _law_raised: slots 0 _law_digits_here 1 _law_table 2 _law_waits 3 _law_outer 4 _law_unit 5 _law_inner 6 _law_door 7 _law_more 8 _law_rows 9 _law_x 10 _law_row; cells ['_law_outer'] -/
abbrev s__law_raised : Stmt := top 51
theorem sc__law_raised : FnScope ["_law_digits_here", "_law_table", "_law_waits", "_law_outer", "_law_unit", "_law_inner", "_law_door", "_law_more", "_law_rows", "_law_x", "_law_row"] ["_law_digits_here", "_law_table", "_law_waits", "_law_outer", "_law_unit"] (fnScope s__law_raised) := fnScope_by (by decide +kernel)
/- _law_bent: slots 0 _law_digits_here 1 _law_part_here 2 _law_unit 3 _law_many 4 _law_x 5 _law_y 6 _law_rows 7 _law_turn 8 _law_table 9 _law_waits 10 _law_outer 11 _law_row; cells [] -/
abbrev s__law_bent : Stmt := top 52
theorem sc__law_bent : FnScope ["_law_digits_here", "_law_part_here", "_law_unit", "_law_many", "_law_x", "_law_y", "_law_rows", "_law_turn", "_law_table", "_law_waits", "_law_outer", "_law_row"] ["_law_digits_here", "_law_part_here", "_law_unit"] (fnScope s__law_bent) := fnScope_by (by decide +kernel)
section
variable {P : Program} {w : World} {K : PySem.W.Frag} {mg : Str → Option Value} {base : Heap}
theorem ok_law_made (T : Txt mg) (D : Dx K mg "_law_made" s__law_made ["_law_gains_here"]) : Cal P w K mg base 1 "_law_made" (spMade K) [] := by
  refine cal D sc__law_made (fun vs H Q E h => ?_) (fun f cdv A outer s H vs Q E hr h => ?_)
  · obtain ⟨k, G, v, rfl, _⟩ := h
    rfl
  · obtain ⟨k, G, v, rfl, hG, hk0, hk, hneg, q⟩ := h
    have nd := sc__law_made.nd
    refine ⟨_, (pss_cons (ps_set (i := 1) nd rfl (Or.inl rfl) (pe_callB (lenK K) (by rfl) T.len boot_len (pa_cons (pv 0) pa_nil)))
      (pss_cons (ps_set (i := 2) nd rfl (Or.inr rfl) (pe_callTy (tupK K) (by rfl) T.tuple boot_tuple (pa_cons (pe_lc (own := [("_law_x", 4)]) (g := gName 4) (tt := tYes) rfl nd (pi_range1 (by rfl) T.range (pa_cons (pv 1) pa_nil)) (blkOk_by (N := ["_law_gains_here", "_law_many", "_law_waits", "_law_rows", "_law_x", "_law_row", "_law_y"]) (sc := fnScope s__law_made) (by decide +kernel)) (fun _ _ _ _ _ => (pg_name (i := 4) nd rfl (Or.inl rfl))) (fun _ _ _ _ _ => pts_nil) (fun _ _ _ _ _ => (pe_op op_sub pe_int (pe_ix (ixT K) (pe_ix (ixT K) (pv 0) (pv 4) (fun _ _ => rfl)) (pv 4) (fun _ _ => rfl))))) pa_nil)))
      (pss_cons (ps_set (i := 3) nd rfl (Or.inl rfl) (pe_lst pa_nil))
      (pss_cons (ps_for PassesOwn.never rfl (pi_range1 (by rfl) T.range (pa_cons (pv 1) pa_nil)) (pg_name (i := 4) nd rfl (Or.inr rfl))
        (pss_cons (ps_setLc (i := 5) (own := [("_law_y", 6)]) (g := gName 6) (tt := tYes) rfl nd rfl rfl (sw_true rfl rfl rfl (by decide +kernel)) (pi_range1 (by rfl) T.range (pa_cons (pv 1) pa_nil)) (blkOk_by (N := ["_law_gains_here", "_law_many", "_law_waits", "_law_rows", "_law_x", "_law_row", "_law_y"]) (sc := fnScope s__law_made) (by decide +kernel)) (fun _ _ _ _ _ => (pg_name (i := 6) nd rfl (Or.inl rfl))) (fun _ _ _ _ _ => pts_nil) (fun _ _ _ _ _ => (pe_ifExp (pt_cmpR op_isN (pe_ix (ixT K) (pe_ix (ixT K) (pv 0) (pv 4) (fun _ _ => rfl)) (pv 6) (fun _ _ => rfl)) pe_non (nomark _)) pe_non (pe_op op_add (pe_op op_add (pe_ix (ixT K) (pe_ix (ixT K) (pv 0) (pv 4) (fun _ _ => rfl)) (pv 6) (fun _ _ => rfl)) (pe_ix (ixT K) (pv 2) (pv 4) (fun _ _ => rfl))) (pe_ix (ixT K) (pv 2) (pv 6) (fun _ _ => rfl))))))
        (pss_cons (ps_asg pe_int (pg_sub (pv 5) (pv 4) set_list))
        (pss_one (ps_expr (pe_bm PySem.F.plainAttrs_list PySem.F.slot_list_append PySem.F.type_list_append mt_append (pv 3) (pa_cons (pe_callTy (tupK K) (by rfl) T.tuple boot_tuple (pa_cons (pv 5) pa_nil)) pa_nil)))))))
      (pss_one (ps_ret (pe_tup (pa_cons (pe_callTy (tupK K) (by rfl) T.tuple boot_tuple (pa_cons (pv 3) pa_nil)) (pa_cons (pv 2) (pa_cons (pe_callTy (tupDK K) (by rfl) T.tuple boot_tuple (pa_cons (pe_lc (own := [("_law_x", 4)]) (g := gName 4) (tt := tYes) rfl nd (pi_range1 (by rfl) T.range (pa_cons (pv 1) pa_nil)) (blkOk_by (N := ["_law_gains_here", "_law_many", "_law_waits", "_law_rows", "_law_x", "_law_row", "_law_y"]) (sc := fnScope s__law_made) (by decide +kernel)) (fun _ _ _ _ _ => (pg_name (i := 4) nd rfl (Or.inl rfl))) (fun _ _ _ _ _ => pts_nil) (fun _ _ _ _ _ => (pv 4))) pa_nil)) pa_nil)))))))))), ?_⟩
    obtain ⟨a, vs, rfl, hq, hl, hr1⟩ := id hG
    have gd : ∀ x, x < k → G x x = some (0 - (0 - (G x x).getD 0)) := fun x hx => by
      obtain ⟨g, e, _⟩ := hneg x hx
      rw [e]
      show some g = some (0 - (0 - g))
      congr 1
      omega
    have wn : ∀ x, x < k → 0 ≤ 0 - (G x x).getD 0 := fun x hx => by
      obtain ⟨g, e, z⟩ := hneg x hx
      rw [e]
      show 0 ≤ 0 - g
      omega
    refine ⟨_, rfl, _, _, rfl, .inr hq, ?_⟩
    rw [hl]
    refine ⟨_, rfl, (k : Int), rfl, by omega, by omega, lcRow No (whole fun x => 0 - (G x x).getD 0) walk_rng (by omega) no_lg (fun _ _ => trivial) YFn.same ?_ ?_⟩
    · rintro x y H1 H1' Ky hx e1 ⟨rfl, rfl⟩ ky
      have hx : x < k := hx
      obtain ⟨y1, b, hy, rfl, hb⟩ := IsTab.row hr1 hl hx
      have hg := row_get (f := G x) hx
      obtain ⟨g, eg, _⟩ := hneg x hx
      have := ky _ (.refl no_lg)
      rw [show (whole (fun x => 0 - (G x x).getD 0)) x = some (0 - g) from by show some (0 - (G x x).getD 0) = _; rw [eg]; rfl] at this
      rw [eg] at hg
      exact ⟨rfl, _, rfl, _, rfl, _, _, _, _, rfl, rfl, e1.same.sqt hq, atI_nat hy, _, rfl, _, _, _, _, rfl, rfl, e1.same.sqt hb, atI_nat hg, _, _, rfl, rfl, this⟩
    · intro D1 H1 hD1 e1 hd1
      refine ⟨D1, _, rfl, SqL.of hd1, nwT fun wa H2 e2 _ hw => ⟨sz5 (by show 0 ≤ 100000; decide), nwL fun pr H3 e3 fp hp => ?_⟩⟩
      have s2 := e1.same.trans e2
      have s3 := s2.trans e3
      have hW : SqT K H2 wa (row k (whole fun x => 0 - (G x x).getD 0)) := SqT.of hw
      refine ⟨_, rfl, (k : Int), rfl, by omega, by omega, for_it walk_rng (fun i σ' H' => ∃ x4 x5 x6, σ' = [some (.ref a), some (.int (k : Int)), some (.ref wa), some (.ref pr), x4, x5, x6] ∧ Same H2 H' ∧ RowsE K H' pr k i (fun x f => f x = some 0))
        ⟨none, none, none, rfl, e3, .nil hp⟩ (fun _ _ _ _ _ => trivial) ?_ ?_⟩
      · rintro i x σ' H4 H4' hi ⟨x4, x5, x6, rfl, e4, w4⟩ ⟨rfl, rfl⟩
        have hi : i < k := hi
        obtain ⟨y1, b, hy, rfl, hb⟩ := IsTab.row hr1 hl hi
        refine ⟨_, rfl, (k : Int), rfl, by omega, by omega, lcRow No (fun j => (G i j).map fun g => g + (0 - (G i i).getD 0) + (0 - (G j j).getD 0)) walk_rng (by omega) no_lg (fun _ _ => trivial) YFn.same ?_ ?_⟩
        · rintro j x H5 H5' Ky hj e5 ⟨rfl, rfl⟩ ky
          have hj : j < k := hj
          have s5 := s2.trans (e4.trans e5.same)
          have hW5 := (e4.trans e5.same).sqt hW
          have hg := row_get (f := G i) hj
          have := ky _ (.refl no_lg)
          refine ⟨rfl, _, rfl, _, rfl, _, _, _, _, rfl, rfl, s5.sqt hq, atI_nat hy, _, rfl, _, _, _, _, rfl, rfl, s5.sqt hb, atI_nat hg, rfl, _, rfl, ?_⟩
          cases hf : G i j with
          | none =>
            rw [hf] at this
            exact iteDT rfl this
          | some g =>
            rw [hf] at this hg
            exact iteDF (fun z => by cases z) ⟨_, rfl, _, rfl, _, _, _, _, rfl, rfl, s5.sqt hq, atI_nat hy, _, rfl, _, _, _, _, rfl, rfl, s5.sqt hb, atI_nat hg, _, rfl, _, rfl, _, _, _, _, rfl, rfl, hW5, atI_nat (row_getW hi), _, _, rfl, rfl, _, rfl, _, rfl, _, _, _, _, rfl, rfl, hW5, atI_nat (row_getW hj), _, _, rfl, rfl, this⟩
        · intro D5 H5 hD5 e5 hd5
          refine ⟨_, rfl, _, rfl, D5, _, _, i, rfl, rfl, hd5, ixN_nat (by rw [row_len]; exact hi), ?_⟩
          generalize eH6 : upd H5 D5 _ = H6
          replace eH6 : upd H5 D5 (.lst (row k (fun j => if j = i then some 0 else (G i j).map fun g => g + (0 - (G i i).getD 0) + (0 - (G j j).getD 0)))) = H6 := (congrArg (fun z => upd H5 D5 (.lst z)) (row_set (e := some 0))).symm.trans eH6
          have s46 : Same H4' H6 := eH6 ▸ e5.same.mut hD5
          have h6 : H6 D5 = some _ := eH6 ▸ upd_same
          have w6 := w4.same s46
          obtain ⟨ys, h1, h2, _⟩ := id w6
          refine ⟨_, rfl, .inl ⟨rfl, _, SqL.of h1⟩, _, rfl, D5, _, rfl, SqL.of h6, nwT fun l H7 e7 f7 hl7 => ?_⟩
          obtain ⟨ys, h1, h2, w7⟩ := (w6.same e7).push (y := .ref l) (f := fun j => if j = i then some 0 else (G i j).map fun g => g + (0 - (G i i).getD 0) + (0 - (G j j).getD 0)) ⟨l, rfl, SqT.of hl7⟩ (if_pos rfl)
          exact ⟨pr, _, _, rfl, rfl, h1, sz5l (by omega), _, _, _, rfl, ((e4.trans s46).trans e7).mut fp, w7⟩
      · rintro σ' H4 ⟨x4, x5, x6, rfl, e4, w4⟩
        obtain ⟨M, ys, h1, hM, tab⟩ := w4.tab
        refine ⟨_, rfl, pr, _, rfl, SqL.of h1, fun l f5 => ?_⟩
        generalize eH5 : upd H4 l _ = H5
        have e5 : Same H4 H5 := eH5 ▸ Same.new f5
        have hl5 : H5 l = some _ := eH5 ▸ upd_same
        have hTab := tab l _ e5 (SqT.of hl5)
        refine ⟨_, rfl, _, rfl, (k : Int), rfl, by omega, by omega, lcRow No (wholeN id) walk_rng (by omega) no_lg (fun _ _ => trivial) YFn.same ?_ ?_⟩
        · rintro j x H6 H6' Ky hj e6 ⟨rfl, rfl⟩ ky
          exact ⟨rfl, _, rfl, ky _ (.refl no_lg)⟩
        · intro D6 H6 hD6 e6 hd6
          refine ⟨D6, _, rfl, SqL.of hd6, nwD fun oa H7 e7 _ ho => ⟨sz5 (show 3 ≤ 100000 by decide), nwT fun pa H8 e8 _ h8 => ?_⟩⟩
          have s58 := (e6.same.trans e7).trans e8
          have s28 := (e4.trans e5).trans s58
          exact q _ M (fun x => 0 - (G x x).getD 0) _ (s2.trans s28) ⟨pa, _, wa, oa, rfl, SqT.of h8, hTab.same s58, s28.sqt hW, e8.tupD ho⟩ ⟨hk0, by omega, hM, wn, lot_id, hk0, by omega⟩
theorem ok_law_padded (T : Txt mg) (D : Dx K mg "_law_padded" s__law_padded ["_law_digits_here", "_law_table", "_law_waits", "_law_outer", "_law_unit"]) (c__law_take : Cal P w K mg base 1 "_law_take" spTake []) (c__law_entry : Cal P w K mg base 2 "_law_entry" spEntry []) : Cal P w K mg base 3 "_law_padded" (spPadded K) [] := by
  refine cal D sc__law_padded (fun vs H Q E h => ?_) (fun f cdv A outer s H vs Q E hr h => ?_)
  · obtain ⟨d, wa, oa, n, k, t, wt, o, tv, u, rfl, _⟩ := h
    rfl
  · obtain ⟨d, wa, oa, n, k, t, wt, o, tv, u, rfl, hd, hT, hW, hO, vp, hn, hu, q⟩ := h
    have nd := sc__law_padded.nd
    refine ⟨_, (pss_cons (ps_set (i := 5) nd rfl (Or.inr rfl) (pe_cmpR op_eq (pe_c c__law_take hr (by decide) (by rfl) (pa_cons (pv 0) (pa_cons pe_int pa_nil))) pe_int (nomark _)))
      (pss_cons (ps_set (i := 6) nd rfl (Or.inl rfl) (pe_callB (lenK K) (by rfl) T.len boot_len (pa_cons (pv 1) pa_nil)))
      (pss_cons (ps_set (i := 7) nd rfl (Or.inr rfl) (pe_lc (own := [("_law_x", 9)]) (g := gName 9) (tt := tYes) rfl nd (pi_range1 (by rfl) T.range (pa_cons (pv 6) pa_nil)) (blkOk_by (N := ["_law_digits_here", "_law_table", "_law_waits", "_law_outer", "_law_unit", "_law_out", "_law_many", "_law_last", "_law_rows", "_law_x"]) (sc := fnScope s__law_padded) (by decide +kernel)) (fun _ _ _ _ _ => (pg_name (i := 9) nd rfl (Or.inl rfl))) (fun _ _ _ _ _ => pts_nil) (fun _ _ _ _ _ => (pe_c c__law_entry hr (by decide) (by rfl) (pa_cons (pv 0) (pa_cons (pe_un un_neg pe_int) (pa_cons pe_int (pa_cons (pv 4) pa_nil))))))))
      (pss_cons (ps_setLc (i := 8) (own := [("_law_x", 9)]) (g := gName 9) (tt := tYes) rfl nd rfl rfl (sw_true rfl rfl rfl (by decide +kernel)) (pi_range1 (by rfl) T.range (pa_cons (pv 6) pa_nil)) (blkOk_by (N := ["_law_digits_here", "_law_table", "_law_waits", "_law_outer", "_law_unit", "_law_out", "_law_many", "_law_last", "_law_rows", "_law_x"]) (sc := fnScope s__law_padded) (by decide +kernel)) (fun _ _ _ _ _ => (pg_name (i := 9) nd rfl (Or.inl rfl))) (fun _ _ _ _ _ => pts_nil) (fun _ _ _ _ _ => (pe_op (catZK K) (pe_ix (ixT K) (pv 1) (pv 9) (fun _ _ => rfl)) (pe_tup (pa_cons (pe_ifExp (pt_val (pv 5)) (pe_ix (ixL K) (pv 7) (pv 9) (fun _ _ => rfl)) pe_non) pa_nil)))))
      (pss_cons (ps_expr (pe_bm PySem.F.plainAttrs_list PySem.F.slot_list_append PySem.F.type_list_append mt_append (pv 8) (pa_cons (pe_op (catZK K) (pe_callTy (tupK K) (by rfl) T.tuple boot_tuple (pa_cons (pe_lc (own := [("_law_x", 9)]) (g := gName 9) (tt := tYes) rfl nd (pi_range1 (by rfl) T.range (pa_cons (pv 6) pa_nil)) (blkOk_by (N := ["_law_digits_here", "_law_table", "_law_waits", "_law_outer", "_law_unit", "_law_out", "_law_many", "_law_last", "_law_rows", "_law_x"]) (sc := fnScope s__law_padded) (by decide +kernel)) (fun _ _ _ _ _ => (pg_name (i := 9) nd rfl (Or.inl rfl))) (fun _ _ _ _ _ => pts_nil) (fun _ _ _ _ _ => (pe_ifExp (pt_val (pv 5)) pe_non (pe_ix (ixL K) (pv 7) (pv 9) (fun _ _ => rfl))))) pa_nil)) (pe_tup (pa_cons pe_int pa_nil))) pa_nil)))
      (pss_one (ps_ret (pe_tup (pa_cons (pe_callTy (tupK K) (by rfl) T.tuple boot_tuple (pa_cons (pv 8) pa_nil)) (pa_cons (pe_op (catZK K) (pv 2) (pe_tup (pa_cons (pe_op op_mul (pe_c c__law_take hr (by decide) (by rfl) (pa_cons (pv 0) (pa_cons pe_int pa_nil))) (pv 4)) pa_nil))) (pa_cons (pv 3) pa_nil))))))))))), ?_⟩
    have one : 1 ≤ sizeLine := sz5 (show 1 ≤ 100000 by decide)
    have three : 3 ≤ sizeLine := sz5 (show 3 ≤ 100000 by decide)
    obtain ⟨a1, vs1, rfl, hq1, hl1, hr1⟩ := id hT
    refine ⟨_, rfl, d, 2, rfl, hd, by decide, fun c H1 hc e1 => ⟨rfl, ?_⟩⟩
    generalize decide (V.int (c : Int) = V.int 0) = b
    refine ⟨_, rfl, _, _, rfl, .inr (e1.rl.sqt hq1), ?_⟩
    rw [hl1]
    refine ⟨_, rfl, (n : Int), rfl, by omega, by omega, lcRowD d (fun _ _ => True) walk_rng (by omega) e1.dg (fun _ _ => trivial) YFn.same ?_ ?_⟩
    · rintro j x H5 H5' Ky hj e5 ⟨rfl, rfl⟩ ky
      exact ⟨rfl, _, rfl, _, rfl, _, rfl, d, -3, 9, u, rfl, e5.dg, by decide, by decide, hu, fun e H6 _ e6 => ky _ _ e6 trivial⟩
    · intro D5 f5 H2 hD5 e2 hd5 _
      have r2 := e1.trans e2
      refine ⟨_, rfl, (n : Int), rfl, by omega, by omega, lcS No (fun D i y H' => IsRow K H' y (n + 1) (fun y => if y < n then t i y else (if b = true then f5 i else none))) walk_rng (by omega) no_lg (fun _ _ => trivial) YFn.same (fun _ _ _ _ _ _ e h => h.rl e) (fun _ _ _ _ _ _ _ e h => h.rl e) ?_ ?_⟩
      · rintro D3 i x H3 H3' Ky hi hD3 e3 hL ⟨rfl, rfl⟩ ky
        have hi : i < n := hi
        obtain ⟨y1, db, hy, rfl, hb⟩ := IsTab.row hr1 hl1 hi
        have r3 := r2.more e3.same
        have fin : ∀ (e : Option Int) (p : Addr) (H4 : Hp), Same H3' H4 → SqT K H4 p (row n (t i) ++ [enc e]) → e = (if b = true then f5 i else none) → Ky (.ref p) H4 := fun e p H4 e4 hp he => by
          refine ky _ _ e4.rl ⟨p, rfl, ?_⟩
          rw [row_succ, if_neg (Nat.lt_irrefl _)]
          rw [show row n (fun y => if y < n then t i y else if b = true then f5 i else none) = row n (t i) from row_congr fun j hj => if_pos hj, ← he]
          exact hp
        refine ⟨rfl, _, rfl, _, rfl, _, _, _, _, rfl, rfl, r3.rl.sqt hq1, atI_nat hy, _, rfl, _, rfl, ?_⟩
        refine iteB (fun hbt => ?_) (fun hbf => ?_)
        · refine ⟨_, rfl, _, rfl, _, _, _, _, rfl, rfl, SqL.of (e3.same _ _ hd5), atI_nat (row_get hi), one, fun p fp => ?_⟩
          generalize eH4 : upd H3' p _ = H4
          have e4 : Same H3' H4 := eH4 ▸ Same.new fp
          have hp : H4 p = some _ := eH4 ▸ upd_same
          exact ⟨_, _, _, _, rfl, rfl, e4.sqt (r3.rl.sqt hb), SqT.of hp, sz5 (by rw [row_len]; show n + 1 ≤ 100000; omega), fun p' H6 e6 h6 => fin (f5 i) p' H6 (e4.trans e6) h6 (by rw [if_pos hbt])⟩
        · refine ⟨one, fun p fp => ?_⟩
          generalize eH4 : upd H3' p _ = H4
          have e4 : Same H3' H4 := eH4 ▸ Same.new fp
          have hp : H4 p = some _ := eH4 ▸ upd_same
          exact ⟨_, _, _, _, rfl, rfl, e4.sqt (r3.rl.sqt hb), SqT.of hp, sz5 (by rw [row_len]; show n + 1 ≤ 100000; omega), fun p' H6 e6 h6 => fin none p' H6 (e4.trans e6) h6 (by rw [hbf]; rfl)⟩
      · intro D6 ys H3 hD6 e3 hd6 hl6 hp6
        have s3 := e3.same
        refine ⟨_, rfl, .inl ⟨rfl, _, SqL.of hd6⟩, _, rfl, (n : Int), rfl, by omega, by omega, lcRow No (fun y => if b = true then none else f5 y) walk_rng (by omega) no_lg (fun _ _ => trivial) YFn.same ?_ ?_⟩
        · rintro j x H4 H4' Ky hj e4 ⟨rfl, rfl⟩ ky
          have hj : j < n := hj
          have := ky _ (.refl no_lg)
          refine ⟨rfl, _, rfl, _, rfl, iteB (fun hbt => ?_) (fun hbf => ?_)⟩
          · rw [if_pos hbt] at this
            exact this
          · rw [hbf, if_neg (by decide)] at this
            exact ⟨_, rfl, _, rfl, _, _, _, _, rfl, rfl, SqL.of (e4.same _ _ (s3 _ _ hd5)), atI_nat (row_get hj), this⟩
        · intro D7 H4 hD7 e4 hd7
          refine ⟨D7, _, rfl, SqL.of hd7, fun l7 fl7 => ?_⟩
          generalize eH5 : upd H4 l7 _ = H5
          have e5 : Same H4 H5 := eH5 ▸ Same.new fl7
          have h7 : H5 l7 = some _ := eH5 ▸ upd_same
          refine ⟨one, fun p8 fp8 => ?_⟩
          generalize eH6 : upd H5 p8 _ = H6
          have e6 : Same H5 H6 := eH6 ▸ Same.new fp8
          have h8 : H6 p8 = some _ := eH6 ▸ upd_same
          refine ⟨_, _, _, _, rfl, rfl, e6.sqt (SqT.of h7), SqT.of h8, sz5 (by rw [row_len]; show n + 1 ≤ 100000; omega), fun l9 H7 e7 h9 => ?_⟩
          have s37 : Same H3 H7 := ((e4.same.trans e5).trans e6).trans e7
          have hd67 := s37 _ _ hd6
          refine ⟨D6, _, _, rfl, rfl, hd67, sz5l (by omega), ?_⟩
          generalize eH8 : upd H7 D6 _ = H8
          have rl8 : Rl (At D6) H7 H8 := eH8 ▸ rl_at hd67
          have hd8 : H8 D6 = some _ := eH8 ▸ upd_same
          have s27 : Same H2 H7 := s3.trans s37
          have r8 : Rg d H H8 := eH8 ▸ (r2.more s27).mut (r2.free hD6)
          have s28 : Same H2 H8 := eH8 ▸ s27.mut hD6
          refine ⟨_, rfl, D6, _, rfl, SqL.of hd8, fun l10 fl10 => ?_⟩
          generalize eH9 : upd H8 l10 _ = H9
          have e9 : Same H8 H9 := eH9 ▸ Same.new fl10
          have h10 : H9 l10 = some _ := eH9 ▸ upd_same
          have r9 := r8.more e9
          refine ⟨_, rfl, _, rfl, d, 4, rfl, r9.dg, by decide, fun c2 H10 hc2 e10 => ⟨_, rfl, _, _, rfl, rfl, .inl ⟨by omega, by omega⟩, one, fun p11 fp11 => ?_⟩⟩
          have r10 := r9.trans e10
          generalize eH11 : upd H10 p11 _ = H11
          have e11 : Same H10 H11 := eH11 ▸ Same.new fp11
          have h11 : H11 p11 = some _ := eH11 ▸ upd_same
          refine ⟨_, _, _, _, rfl, rfl, (r10.more e11).rl.sqt hW, SqT.of h11, sz5 (by rw [row_len]; show n + 1 ≤ 100000; omega), fun wa' H12 e12 h12 => ⟨_, rfl, three, fun pa fpa => ?_⟩⟩
          generalize eH13 : upd H12 pa _ = H13
          have e13 : Same H12 H13 := eH13 ▸ Same.new fpa
          have h13 : H13 pa = some _ := eH13 ▸ upd_same
          have r13 := ((r10.more e11).more e12).more e13
          have s813 : Rl (At d) H9 H13 := (((e10.more e11).more e12).more e13).rl
          refine q _ (n + 1) (fun x => if x < n then (fun y => if y < n then t x y else (if b = true then f5 x else none)) else (fun y => if y < n then (if b = true then none else f5 y) else some 0)) (fun x => if x < n then wt x else (c2 : Int) * u) _ r13 (Nat.le_refl _) ⟨pa, _, wa', oa, rfl, SqT.of h13, ?_, ?_, r13.rl.tupD hO⟩ ⟨by omega, by omega, ?_, ?_, ⟨fun i hi => by have := vp.lot.lt i hi; omega, vp.lot.up⟩, vp.k0, vp.k5⟩
          · refine isTab_of (s813.sqt (SqT.of h10)) (by rw [List.length_append, hl6]; rfl) fun i x hx => ?_
            by_cases hi : i < ys.length
            · rw [List.getElem?_append_left hi] at hx
              have := hp6 i x hx
              rw [if_pos (show i < n by rw [← show ys.length = n from hl6]; exact hi)]
              exact (((this.same s37).rl rl8).same e9).rl s813
            · have hi2 : i = n := by
                have := (List.getElem?_eq_some_iff.mp hx).1
                rw [List.length_append, List.length_singleton] at this
                have : ys.length = n := hl6
                omega
              subst hi2
              rw [List.getElem?_append_right (by omega), show i - ys.length = 0 by omega] at hx
              cases hx
              rw [if_neg (Nat.lt_irrefl _)]
              refine ⟨l9, rfl, s813.sqt (e9.sqt (rl8.sqt ?_))⟩
              rw [row_succ, if_neg (Nat.lt_irrefl _)]
              rw [show row i (fun y => if y < i then (if b = true then none else f5 y) else some 0) = row i (fun y => if b = true then none else f5 y) from row_congr fun j hj => if_pos hj]
              exact h9
          · have e0 : row (n + 1) (whole fun x => if x < n then wt x else (c2 : Int) * u) = row n (whole wt) ++ [.int ((c2 : Int) * u)] := by
              rw [row_succ]
              congr 1
              · exact row_congr fun j hj => by show some (if j < n then wt j else _) = some (wt j); rw [if_pos hj]
              · show [V.int (if n < n then wt n else (c2 : Int) * u)] = _
                rw [if_neg (Nat.lt_irrefl _)]
            rw [e0]
            exact e13.sqt h12
          · intro x hx
            by_cases h : x < n
            · simp only [if_pos h]
              exact vp.t0 x h
            · simp only [if_neg h]
          · intro x hx
            show 0 ≤ if x < n then wt x else (c2 : Int) * u
            by_cases h : x < n
            · rw [if_pos h]; exact vp.w0 x h
            · rw [if_neg h]; exact Int.mul_nonneg (by omega) hu
theorem bump_ok {K : PySem.W.Frag} {σ : L2.St} {H : Hp} {Q : VK} {W X M : Nat} {wa : Addr} {x n : Nat} {m : Int} {w : Nat → Int} (h1 : σ[W]? = some (some (.ref wa))) (h2 : σ[X]? = some (some (.int (x : Int)))) (h3 : σ[M]? = some (some (.int m))) (hq : SqT K H wa (row n (whole w))) (hx : x < n) (hn : n ≤ 1000)
    (q : ∀ p H', Same H H' → SqT K H' p (row n (whole fun y => if y = x then w y + m else w y)) → Q (.ref p) H') :
    tOp (rCatZ K) (tOp (rCatZ K) (tSl (rSlZ K) (tVar W) tNoPart (tPart (tVar X))) (tTup (tCons (tOp (rI0 fun i j => V.int (i + j)) (tOp (rIxT K) (tVar W) (tVar X)) (tVar M)) tNil))) (tSl (rSlZ K) (tVar W) (tPart (tOp (rI0 fun i j => V.int (i + j)) (tVar X) (tC (V.int 1)))) tNoPart) σ H Q := by
  have one : 1 ≤ sizeLine := sz5 (show 1 ≤ 100000 by decide)
  refine ⟨_, h1, _, h2, _, rfl, wa, _, rfl, hq, fun p1 H1 e1 h4 => ⟨_, h1, _, h2, _, _, _, _, rfl, rfl, e1.sqt hq, atI_nat (row_getW hx), _, h3, _, _, rfl, rfl, one, fun p2 f2 => ?_⟩⟩
  generalize eH2 : upd H1 p2 _ = H2
  have e2 : Same H1 H2 := eH2 ▸ Same.new f2
  have h5 : H2 p2 = some _ := eH2 ▸ upd_same
  rw [cut_lo (by rw [row_len]; omega)] at h4
  refine ⟨_, _, _, _, rfl, rfl, e2.sqt h4, SqT.of h5, sz5 (by rw [List.length_take, row_len]; show _ + 1 ≤ 100000; omega), fun p3 H3 e3 h6 => ?_⟩
  have s3 := (e1.trans e2).trans e3
  refine ⟨_, h1, _, h2, _, _, rfl, rfl, _, rfl, wa, _, rfl, s3.sqt hq, fun p4 H4 e4 h7 => ?_⟩
  rw [cut_hi (by rw [row_len]; exact hx)] at h7
  refine ⟨_, _, _, _, rfl, rfl, e4.sqt h6, h7, sz5 (by rw [List.length_append, List.length_take, List.length_drop, row_len]; show _ + 1 + _ ≤ 100000; omega), fun p5 H5 e5 h8 => q p5 H5 ((s3.trans e4).trans e5) ?_⟩
  rw [← bump_row hx]
  exact h8
theorem ok_law_raised (T : Txt mg) (D : Dx K mg "_law_raised" s__law_raised ["_law_digits_here", "_law_table", "_law_waits", "_law_outer", "_law_unit"]) (c__law_take : Cal P w K mg base 1 "_law_take" spTake []) (c__law_padded : Cal P w K mg base 3 "_law_padded" (spPadded K) []) : Cal P w K mg base 4 "_law_raised" (spPadded K) [] := by
  refine cal D sc__law_raised (fun vs H Q E h => ?_) (fun f cdv A outer s H vs Q E hr h => ?_)
  · obtain ⟨d, wa, oa, n, k, t, wt, o, tv, u, rfl, _⟩ := h
    rfl
  · obtain ⟨d, wa, oa, n, k, t, wt, o, tv, u, rfl, hd, hT, hW, hO, vp, hn, hu, q⟩ := h
    have nd := sc__law_raised.nd
    refine ⟨_, (pss_cons (ps_setLc (i := 5) (own := [("_law_x", 9)]) (g := gName 9) (tt := _) rfl nd rfl rfl (sw_true rfl rfl rfl (by decide +kernel)) (pi_range1 (by rfl) T.range (pa_cons (pe_callB (lenK K) (by rfl) T.len boot_len (pa_cons (pv 1) pa_nil)) pa_nil)) (blkOk_by (N := ["_law_digits_here", "_law_table", "_law_waits", "_law_outer", "_law_unit", "_law_inner", "_law_door", "_law_more", "_law_rows", "_law_x", "_law_row"]) (sc := fnScope s__law_raised) (by decide +kernel)) (fun _ _ _ _ _ => (pg_name (i := 9) nd rfl (Or.inl rfl))) (fun _ _ _ _ _ => (pts_one (pt_cmpR (ninK K) (pv 9) (pv 3) rfl))) (fun _ _ _ _ _ => (pv 9)))
      (pss_cons (ps_if (pt_cmpR op_eq (pe_callB (lenK K) (by rfl) T.len boot_len (pa_cons (pv 5) pa_nil)) pe_int (nomark _)) (pss_one (ps_ret (pe_c c__law_padded hr (by decide) (by rfl) (pa_cons (pv 0) (pa_cons (pv 1) (pa_cons (pv 2) (pa_cons (pv 3) (pa_cons (pv 4) pa_nil)))))))) pss_nil)
      (pss_cons (ps_set (i := 6) nd rfl (Or.inl rfl) (pe_ix (ixL K) (pv 5) (pe_c c__law_take hr (by decide) (by rfl) (pa_cons (pv 0) (pa_cons (pe_callB (lenK K) (by rfl) T.len boot_len (pa_cons (pv 5) pa_nil)) pa_nil))) (fun _ _ => rfl)))
      (pss_cons (ps_set (i := 7) nd rfl (Or.inl rfl) (pe_op op_mul (pe_op op_add pe_int (pe_c c__law_take hr (by decide) (by rfl) (pa_cons (pv 0) (pa_cons pe_int pa_nil)))) (pv 4)))
      (pss_cons (ps_set (i := 8) nd rfl (Or.inl rfl) (pe_lst pa_nil))
      (pss_cons (ps_for PassesOwn.never rfl (pi_range1 (by rfl) T.range (pa_cons (pe_callB (lenK K) (by rfl) T.len boot_len (pa_cons (pv 1) pa_nil)) pa_nil)) (pg_name (i := 9) nd rfl (Or.inl rfl))
        (pss_cons (ps_set (i := 10) nd rfl (Or.inl rfl) (pe_callTy (listK K) (by rfl) T.list boot_list (pa_cons (pe_ix (ixT K) (pv 1) (pv 9) (fun _ _ => rfl)) pa_nil)))
        (pss_cons (ps_if (PW.pt (pw_and (pt_cmpR op_ne (pv 9) (pv 6) (nomark _)) (pw_and1 (pt_cmpR op_notN (pe_ix (ixL K) (pv 10) (pv 6) (fun _ _ => rfl)) pe_non (nomark _))))) (pss_one (ps_asg (pe_op op_add (pe_ix (ixL K) (pv 10) (pv 6) (fun _ _ => rfl)) (pv 7)) (pg_sub (pv 10) (pv 6) set_list))) pss_nil)
        (pss_one (ps_expr (pe_bm PySem.F.plainAttrs_list PySem.F.slot_list_append PySem.F.type_list_append mt_append (pv 8) (pa_cons (pe_callTy (tupK K) (by rfl) T.tuple boot_tuple (pa_cons (pv 10) pa_nil)) pa_nil)))))))
      (pss_one (ps_ret (pe_tup (pa_cons (pe_callTy (tupK K) (by rfl) T.tuple boot_tuple (pa_cons (pv 8) pa_nil)) (pa_cons (pe_op (catZK K) (pe_op (catZK K) (pe_slice (slZK K) (pv 2) po_none (po_some (pv 6))) (pe_tup (pa_cons (pe_op op_add (pe_ix (ixT K) (pv 2) (pv 6) (fun _ _ => rfl)) (pv 7)) pa_nil))) (pe_slice (slZK K) (pv 2) (po_some (pe_op op_add (pv 6) pe_int)) po_none)) (pa_cons (pv 3) pa_nil)))))))))))), ?_⟩
    have three : 3 ≤ sizeLine := sz5 (show 3 ≤ 100000 by decide)
    obtain ⟨a1, vs1, rfl, hq1, hl1, hr1⟩ := id hT
    refine ⟨_, rfl, _, _, rfl, .inr hq1, ?_⟩
    rw [hl1]
    refine ⟨(n : Int), rfl, by omega, by omega, lcF No (fun D i acc _ => ∀ y ∈ acc, ∃ x : Nat, y = .int (x : Nat) ∧ x < n) walk_rng (by omega) no_lg (fun _ _ => trivial) YFn.same (fun D hD y hy => by simp at hy) (fun _ _ _ _ _ _ h => h) (fun _ _ _ _ _ _ h => h) ?_ ?_⟩
    · rintro D1 i x acc H1 H1' Ky Kn hi hD e1 hd1 ⟨rfl, rfl⟩ hp ky kn
      refine ⟨rfl, _, rfl, _, rfl, oa, _, rfl, .inr (e1.same.tupD hO).sq, rfl, row_flat, _, rfl, iteB (fun _ => ⟨_, rfl, ky _ _ (.refl no_lg) fun y hy => ?_⟩) (fun _ => kn _ (.refl no_lg) hp)⟩
      rcases List.mem_append.mp hy with hy | hy
      · exact hp y hy
      · exact ⟨i, List.mem_singleton.mp hy, hi⟩
    · intro D1 acc H1 hD1 e1 hd1 hp
      have s1 := e1.same
      have dg1 := hd.same s1
      refine ⟨_, rfl, _, _, rfl, .inl (SqL.of hd1), rfl, _, rfl, ?_⟩
      by_cases h0 : acc.length = 0
      · refine iteDT (by rw [h0]; rfl) ⟨_, rfl, _, rfl, _, rfl, _, rfl, _, rfl, d, wa, oa, n, k, t, wt, o, _, u, rfl, dg1, hT.same s1, s1.sqt hW, s1.tupD hO, vp, hn, hu, fun v' n' t' w' H' r' hn' pt vp' => q v' n' t' w' H' ((Rg.of hd s1).trans r') hn' pt vp'⟩
      · refine iteDF (fun z => h0 (by have := V.int.inj z; omega)) ?_
        refine ⟨_, rfl, _, rfl, _, rfl, _, _, rfl, .inl (SqL.of hd1), d, acc.length, rfl, dg1, by omega, fun c H2 hc e2 => ?_⟩
        have r2 := (Rg.of hd s1).trans e2
        have nD1 : D1 ≠ d := fun z => by
          obtain ⟨ns, hns⟩ := hd
          rw [← z, hD1] at hns
          cases hns
        obtain ⟨x, hx1, hx⟩ := hp _ (List.getElem_mem hc)
        refine ⟨_, _, _, _, rfl, rfl, SqL.of (e2.lst nD1 hd1), atI_nat ((List.getElem?_eq_getElem hc).trans (congrArg some hx1)), ?_⟩
        refine ⟨_, rfl, d, 3, rfl, e2.dg, by decide, fun c3 H3 hc3 e3 => ⟨_, _, rfl, rfl, _, rfl, _, _, rfl, rfl, .inl ⟨by omega, by omega⟩, sz5 (by show 0 ≤ 100000; decide), nwL fun pr H4 e4 fp hpr => ?_⟩⟩
        have r3 := r2.trans e3
        have hm : 0 ≤ (1 + (c3 : Int)) * u := Int.mul_nonneg (by omega) hu
        revert hm
        dsimp only
        generalize (1 + (c3 : Int)) * u = m
        intro hm
        refine ⟨_, rfl, _, _, rfl, .inr ((r3.more e4).rl.sqt hq1), ?_⟩
        rw [hl1]
        refine ⟨(n : Int), rfl, by omega, by omega, for_it walk_rng (fun i σ' H' => ∃ x9 x10, σ' = [some (.ref d), some (.ref a1), some (.ref wa), some (.ref oa), some (.int u), some (.ref D1), some (.int (x : Nat)), some (.int m), some (.ref pr), x9, x10] ∧ Same H3 H' ∧ RowsE K H' pr n i (fun x f => f x = some 0))
          ⟨_, _, rfl, e4, .nil hpr⟩ (fun _ _ _ _ _ => trivial) ?_ ?_⟩
        · rintro i y σ' H5 H5' hi ⟨x9, x10, rfl, e5, w5⟩ ⟨rfl, rfl⟩
          have hi : i < n := hi
          obtain ⟨y1, db, hy, rfl, hb⟩ := IsTab.row hr1 hl1 hi
          have r5 := r3.more e5
          refine ⟨_, rfl, _, rfl, _, _, _, _, rfl, rfl, r5.rl.sqt hq1, atI_nat hy, _, _, rfl, .inr (r5.rl.sqt hb), nwL fun l H6 e6 fl hl => ?_⟩
          apply via2 (pre := fun (f : Nat → Option Int) H' => Same H5' H' ∧ H' l = some (.lst (row n f)) ∧ f i = some 0) (st := [some (.ref d), some (.ref a1), some (.ref wa), some (.ref oa), some (.int u), some (.ref D1), some (.int (x : Nat)), some (.int m), some (.ref pr), some (.int (i : Nat)), some (.ref l)])
          · intro key
            refine ⟨_, rfl, _, rfl, rfl, _, rfl, ?_⟩
            by_cases hix : i = x
            · exact iteNT (by rw [hix]) (iteF (key (t i) _ ⟨e6, hl, vp.t0 i hi⟩))
            · have hg := row_get (f := t i) hx
              refine iteNF (fun z => hix (by have := V.int.inj z; omega)) ⟨_, rfl, _, rfl, _, _, _, _, rfl, rfl, SqL.of hl, atI_nat hg, rfl, _, rfl, ?_⟩
              cases hf : t i x with
              | none => exact iteNT rfl (key (t i) _ ⟨e6, hl, vp.t0 i hi⟩)
              | some g =>
                rw [hf] at hg
                refine iteNF (fun z => by cases z) ⟨_, rfl, _, rfl, _, _, _, _, rfl, rfl, SqL.of hl, atI_nat hg, _, rfl, _, _, rfl, rfl, _, rfl, _, rfl, l, _, _, x, rfl, rfl, hl, ixN_nat (by rw [row_len]; exact hx), ?_⟩
                refine key (fun j => if j = x then some (g + m) else t i j) _ ⟨e6.mut fl, ?_, ?_⟩
                · rw [upd_same]
                  exact congrArg (fun z => some (HO.lst z)) (row_set (e := some (g + m)))
                · show (if i = x then some (g + m) else t i i) = some 0
                  rw [if_neg hix]
                  exact vp.t0 i hi
          · rintro f H7 ⟨e7, h7, hf⟩
            obtain ⟨ys, h1, h2, _⟩ := id (w5.same e7)
            refine ⟨_, rfl, .inl ⟨rfl, _, SqL.of h1⟩, _, rfl, l, _, rfl, SqL.of h7, nwT fun l8 H8 e8 f8 hl8 => ?_⟩
            obtain ⟨ys, h1, h2, w8⟩ := ((w5.same e7).same e8).push (y := .ref l8) (f := f) ⟨l8, rfl, SqT.of hl8⟩ hf
            exact ⟨pr, _, _, rfl, rfl, h1, sz5l (by omega), _, _, rfl, ((e5.trans e7).trans e8).mut fp, w8⟩
        · rintro σ' H5 ⟨x9, x10, rfl, e5, w5⟩
          obtain ⟨M, ys, h1, hM, tab⟩ := w5.tab
          refine ⟨_, rfl, pr, _, rfl, SqL.of h1, fun l6 fl6 => ?_⟩
          generalize eH6 : upd H5 l6 _ = H6
          have e6 : Same H5 H6 := eH6 ▸ Same.new fl6
          have h6 : H6 l6 = some _ := eH6 ▸ upd_same
          have hTab := tab l6 _ e6 (SqT.of h6)
          have r6 := (r3.more e5).more e6
          refine bump_ok rfl rfl rfl (r6.rl.sqt hW) hx (by omega) fun wa' H7 e7 h7 => ⟨_, rfl, three, fun pa fpa => ?_⟩
          generalize eH8 : upd H7 pa _ = H8
          have e8 : Same H7 H8 := eH8 ▸ Same.new fpa
          have h8 : H8 pa = some _ := eH8 ▸ upd_same
          have r8 := (r6.more e7).more e8
          refine q _ n M (fun y => if y = x then wt y + m else wt y) _ r8 (Nat.le_succ n) ⟨pa, _, wa', oa, rfl, SqT.of h8, hTab.same (e7.trans e8), e8.sqt h7, r8.rl.tupD hO⟩ ⟨vp.n0, vp.n5, hM, fun y hy => ?_, vp.lot, vp.k0, vp.k5⟩
          show 0 ≤ if y = x then wt y + m else wt y
          have := vp.w0 y hy
          split <;> omega
theorem ok_law_bent (T : Txt mg) (D : Dx K mg "_law_bent" s__law_bent ["_law_digits_here", "_law_part_here", "_law_unit"]) (c__law_take : Cal P w K mg base 1 "_law_take" spTake []) : Cal P w K mg base 2 "_law_bent" (spBent K) [] := by
  refine cal D sc__law_bent (fun vs H Q E h => ?_) (fun f cdv A outer s H vs Q E hr h => ?_)
  · obtain ⟨d, n, k, t, wt, o, v, u, rfl, _⟩ := h
    rfl
  · obtain ⟨d, n, k, t, wt, o, v, u, rfl, hd, ⟨pa, tv, wa, oa, rfl, hP, hT, hW, hO⟩, vp, hn, hu, q⟩ := h
    have nd := sc__law_bent.nd
    refine ⟨_, (pss_cons (ps_asg (pv 1) (pg_tup rfl (pgs_cons (pg_name (i := 8) nd rfl (Or.inl rfl)) (pgs_cons (pg_name (i := 9) nd rfl (Or.inl rfl)) (pgs_cons (pg_name (i := 10) nd rfl (Or.inl rfl)) pgs_nil)))))
      (pss_cons (ps_set (i := 3) nd rfl (Or.inl rfl) (pe_callB (lenK K) (by rfl) T.len boot_len (pa_cons (pv 8) pa_nil)))
      (pss_cons (ps_set (i := 4) nd rfl (Or.inl rfl) (pe_c c__law_take hr (by decide) (by rfl) (pa_cons (pv 0) (pa_cons (pv 3) pa_nil))))
      (pss_cons (ps_set (i := 5) nd rfl (Or.inl rfl) (pe_c c__law_take hr (by decide) (by rfl) (pa_cons (pv 0) (pa_cons (pv 3) pa_nil))))
      (pss_cons (ps_if (pt_cmpR op_eq (pv 4) (pv 5) (nomark _)) (pss_one (ps_ret (pe_tup (pa_cons (pv 8) (pa_cons (pe_op (catZK K) (pe_op (catZK K) (pe_slice (slZK K) (pv 9) po_none (po_some (pv 4))) (pe_tup (pa_cons (pe_op op_add (pe_ix (ixT K) (pv 9) (pv 4) (fun _ _ => rfl)) (pv 2)) pa_nil))) (pe_slice (slZK K) (pv 9) (po_some (pe_op op_add (pv 4) pe_int)) po_none)) (pa_cons (pv 10) pa_nil)))))) pss_nil)
      (pss_cons (ps_setLc (i := 6) (own := [("_law_row", 11)]) (g := gName 11) (tt := tYes) rfl nd rfl rfl (sw_true rfl rfl rfl (by decide +kernel)) (piT K rfl (pv 8)) (blkOk_by (N := ["_law_digits_here", "_law_part_here", "_law_unit", "_law_many", "_law_x", "_law_y", "_law_rows", "_law_turn", "_law_table", "_law_waits", "_law_outer", "_law_row"]) (sc := fnScope s__law_bent) (by decide +kernel)) (fun _ _ _ _ _ => (pg_name (i := 11) nd rfl (Or.inl rfl))) (fun _ _ _ _ _ => pts_nil) (fun _ _ _ _ _ => (pe_callTy (listK K) (by rfl) T.list boot_list (pa_cons (pv 11) pa_nil))))
      (pss_cons (ps_set (i := 7) nd rfl (Or.inl rfl) (pe_c c__law_take hr (by decide) (by rfl) (pa_cons (pv 0) (pa_cons pe_int pa_nil))))
      (pss_cons (ps_if (pt_cmpR op_isN (pe_ix (ixT K) (pe_ix (ixT K) (pv 8) (pv 4) (fun _ _ => rfl)) (pv 5) (fun _ _ => rfl)) pe_non (nomark _)) (pss_one (ps_asg (pe_op op_mul (pe_op op_sub (pv 7) pe_int) (pv 2)) (pg_sub (pe_ix (ixL K) (pv 6) (pv 4) (fun _ _ => rfl)) (pv 5) set_list))) (pss_one (ps_if (pt_cmpR op_eq (pv 7) pe_int (nomark _)) (pss_one (ps_asg pe_non (pg_sub (pe_ix (ixL K) (pv 6) (pv 4) (fun _ _ => rfl)) (pv 5) set_list))) (pss_one (ps_asg (pe_op op_add (pe_ix (ixT K) (pe_ix (ixT K) (pv 8) (pv 4) (fun _ _ => rfl)) (pv 5) (fun _ _ => rfl)) (pe_ifExp (pt_cmpR op_eq (pv 7) pe_int (nomark _)) (pv 2) (pe_op op_sub pe_int (pv 2)))) (pg_sub (pe_ix (ixL K) (pv 6) (pv 4) (fun _ _ => rfl)) (pv 5) set_list))))))
      (pss_one (ps_ret (pe_tup (pa_cons (pe_callTy (tupK K) (by rfl) T.tuple boot_tuple (pa_cons (pe_lc (own := [("_law_row", 11)]) (g := gName 11) (tt := tYes) rfl nd (piL K rfl (pv 6)) (blkOk_by (N := ["_law_digits_here", "_law_part_here", "_law_unit", "_law_many", "_law_x", "_law_y", "_law_rows", "_law_turn", "_law_table", "_law_waits", "_law_outer", "_law_row"]) (sc := fnScope s__law_bent) (by decide +kernel)) (fun _ _ _ _ _ => (pg_name (i := 11) nd rfl (Or.inl rfl))) (fun _ _ _ _ _ => pts_nil) (fun _ _ _ _ _ => (pe_callTy (tupK K) (by rfl) T.tuple boot_tuple (pa_cons (pv 11) pa_nil)))) pa_nil)) (pa_cons (pv 9) (pa_cons (pv 10) pa_nil)))))))))))))), ?_⟩
    have three : 3 ≤ sizeLine := sz5 (show 3 ≤ 100000 by decide)
    have n0 := vp.n0
    obtain ⟨a1, vs1, rfl, hq1, hl1, hr1⟩ := id hT
    refine ⟨_, rfl, _, _, rfl, hP, rfl, _, _, rfl, _, _, rfl, _, _, rfl, rfl, ?_⟩
    refine ⟨_, rfl, _, _, rfl, .inr hq1, ?_⟩
    rw [hl1]
    refine ⟨_, rfl, _, rfl, d, n, rfl, hd, n0, fun x H1 hx e1 => ⟨_, rfl, _, rfl, d, n, rfl, e1.dg, n0, fun y H2 hy e2 => ?_⟩⟩
    have r2 := e1.trans e2
    refine ⟨_, rfl, _, rfl, rfl, _, rfl, ?_⟩
    by_cases hxy : x = y
    · refine iteDT (by rw [hxy]) ⟨_, rfl, ?_⟩
      refine bump_ok rfl rfl rfl (r2.rl.sqt hW) hx (by omega) fun wa' H7 e7 h7 => ⟨_, rfl, three, fun pa' fpa => ?_⟩
      generalize eH8 : upd H7 pa' _ = H8
      have e8 : Same H7 H8 := eH8 ▸ Same.new fpa
      have h8 : H8 pa' = some _ := eH8 ▸ upd_same
      have r8 := (r2.more e7).more e8
      refine q _ t (fun y => if y = x then wt y + u else wt y) _ r8 ⟨pa', _, wa', oa, rfl, SqT.of h8, hT.rl r8.rl, e8.sqt h7, r8.rl.tupD hO⟩ ⟨vp.n0, vp.n5, vp.t0, fun y hy => ?_, vp.lot, vp.k0, vp.k5⟩
      show 0 ≤ if y = x then wt y + u else wt y
      have := vp.w0 y hy
      split <;> omega
    · refine iteDF (fun z => hxy (by have := V.int.inj z; omega)) ?_
      refine ⟨_, rfl, a1, rfl, ⟨_, r2.rl.sqt hq1⟩, lcG n t walk_tup (by omega) (fun H' e => e.sqt (r2.rl.sqt hq1)) YAt.same ?_ ?_⟩
      · rintro i z H3 H3' Ky hi e3 ⟨rfl, hz⟩ ky
        obtain ⟨b, rfl, hb⟩ := (hr1 i z hz)
        exact ⟨rfl, _, rfl, _, _, rfl, .inr (e3.sqt (r2.rl.sqt hb)), fun l hl => ky l _ (Same.new hl) hl upd_same⟩
      · intro D3 as H3 hD3 e3 fr la g3
        have la : as.length = n := la.trans hl1
        have r3 := r2.more e3
        refine ⟨_, rfl, d, 4, rfl, r3.dg, by decide, fun c H4 hc e4 => ?_⟩
        have r4 := r3.trans e4
        have nd1 : ∀ b, H2 b = none → b ≠ d := fun b hb z => by
          obtain ⟨ns, hns⟩ := r2.dg
          rw [← z, hb] at hns
          cases hns
        have g4 : Grid H4 D3 as n t := ⟨e4.lst (nd1 _ hD3) g3.lst, g3.nd, g3.np, fun i a h => e4.lst (nd1 _ (fr a (List.mem_of_getElem? h))) (g3.rows i a h)⟩
        obtain ⟨y1, db, hy1, rfl, hb⟩ := IsTab.row hr1 hl1 hx
        obtain ⟨ax, hax⟩ := has (as := as) (i := x) (by omega)
        have rx := g4.rows x ax hax
        have hg := row_get (f := t x) hy
        have fax := fr ax (List.mem_of_getElem? hax)
        apply via2 (pre := fun (e : Option Int) H' => H' = upd H4 ax (.lst ((row n (t x)).set y (enc e)))) (st := [some (.ref d), some (.ref pa), some (.int u), some (.int (n : Int)), some (.int (x : Nat)), some (.int (y : Nat)), some (.ref D3), some (.int (c : Nat)), some (.ref a1), some (.ref wa), some (.ref oa), none])
        · intro key
          refine ⟨_, rfl, _, rfl, _, _, _, _, rfl, rfl, r4.rl.sqt hq1, atI_nat hy1, _, rfl, _, _, _, _, rfl, rfl, r4.rl.sqt hb, atI_nat hg, rfl, _, rfl, ?_⟩
          cases hf : t x y with
          | none =>
            refine iteDT rfl ⟨_, rfl, _, _, rfl, rfl, _, rfl, _, _, rfl, rfl, .inl ⟨by omega, by omega⟩, _, rfl, _, rfl, _, _, _, _, rfl, rfl, SqL.of g4.lst, atI_nat (refs_at hax), _, rfl, ax, _, _, y, rfl, rfl, rx, ixN_nat (by rw [row_len]; exact hy), ?_⟩
            exact key (some _) _ rfl
          | some g =>
            rw [hf] at hg
            refine iteDF (fun z => by cases z) ⟨_, rfl, rfl, _, rfl, ?_⟩
            by_cases hc0 : c = 0
            · refine iteDT (by rw [hc0]; rfl) ⟨_, rfl, _, rfl, _, _, _, _, rfl, rfl, SqL.of g4.lst, atI_nat (refs_at hax), _, rfl, ax, _, _, y, rfl, rfl, rx, ixN_nat (by rw [row_len]; exact hy), ?_⟩
              exact key none _ rfl
            · refine iteDF (fun z => hc0 (by have := V.int.inj z; omega)) ⟨_, rfl, _, rfl, _, _, _, _, rfl, rfl, r4.rl.sqt hq1, atI_nat hy1, _, rfl, _, _, _, _, rfl, rfl, r4.rl.sqt hb, atI_nat hg, _, rfl, rfl, _, rfl, ?_⟩
              refine iteB (fun _ => ?_) (fun _ => ?_)
              · refine ⟨_, rfl, _, _, rfl, rfl, _, rfl, _, rfl, _, _, _, _, rfl, rfl, SqL.of g4.lst, atI_nat (refs_at hax), _, rfl, ax, _, _, y, rfl, rfl, rx, ixN_nat (by rw [row_len]; exact hy), ?_⟩
                exact key (some _) _ rfl
              · refine ⟨_, rfl, _, _, rfl, rfl, _, _, rfl, rfl, _, rfl, _, rfl, _, _, _, _, rfl, rfl, SqL.of g4.lst, atI_nat (refs_at hax), _, rfl, ax, _, _, y, rfl, rfl, rx, ixN_nat (by rw [row_len]; exact hy), ?_⟩
                exact key (some _) _ rfl
        · rintro e H5 rfl
          have g5 := g4.set (j := y) (e := e) hax
          have r5 := r4.mut (o := .lst ((row n (t x)).set y (enc e))) (r2.free fax)
          generalize upd H4 ax (.lst ((row n (t x)).set y (enc e))) = H5 at *
          refine ⟨_, rfl, D3, rfl, ⟨_, SqL.of g5.lst⟩, lcS No (fun D i z H' => IsRow K H' z n (put t x y e i)) walk_list (by simp; omega) no_lg (fun H' e => e.same.seq (SqL.of g5.lst)) YAt.same (fun _ _ _ _ _ _ e h => h.rl e) (fun _ _ _ _ _ _ _ e h => h.rl e) ?_ ?_⟩
          · rintro D6 i z H6 H6' Ky hi hD6 e6 hL ⟨rfl, hz⟩ ky
            obtain ⟨b, hb', rfl⟩ := refs_get hz
            exact ⟨rfl, _, rfl, b, _, rfl, SqL.of (e6.same _ _ (g5.rows i b hb')), fun l hl => ky _ _ (Same.new hl).rl ⟨l, rfl, SqT.of upd_same⟩⟩
          · intro D6 ys H6 hD6 e6 hd6 hl6 hp6
            refine ⟨D6, ys, rfl, SqL.of hd6, fun l fl => ?_⟩
            generalize eH7 : upd H6 l _ = H7
            have e7 : Same H6 H7 := eH7 ▸ Same.new fl
            have h7 : H7 l = some _ := eH7 ▸ upd_same
            refine ⟨_, rfl, _, rfl, three, fun pa' fpa => ?_⟩
            generalize eH8 : upd H7 pa' _ = H8
            have e8 : Same H7 H8 := eH8 ▸ Same.new fpa
            have h8 : H8 pa' = some _ := eH8 ▸ upd_same
            have r6 := r5.more e6.same
            have r8 := (r6.more e7).more e8
            refine q _ (put t x y e) wt _ r8 ⟨pa', _, wa, oa, rfl, SqT.of h8, isTab_of (e8.sqt (SqT.of h7)) (by rw [hl6, List.length_map]; exact la) fun i z hz => ((hp6 i z hz).same e7).same e8, r8.rl.sqt hW, r8.rl.tupD hO⟩ ⟨vp.n0, vp.n5, fun z hz => ?_, vp.w0, vp.lot, vp.k0, vp.k5⟩
            rw [put_ne (fun q => hxy (q.1.symm.trans q.2))]
            exact vp.t0 z hz
end
end K60

namespace K60
open PySem L2
open C8 (Cal Def Met Mak cal0 met0 mak0 pe_c pe_mk pe_mt pe_mt0 pe_gc InsC call_isC fnScope fnBody fnArgs clsBody fnScope_by)

theorem via3 {α : Type} {pre : α → Hp → Prop} {st : α → L2.St} {G : Prop} (N : L2.St → Hp → Prop) (main : (∀ e H, pre e H → N (st e) H) → G) (key : ∀ e H, pre e H → N (st e) H) : G := main key
theorem GainsRes.diag {n k : Nat} {t G : Mx} {w : Nat → Int} {o : Nat → Nat} (g : GainsRes n t w k o (some G)) (L : Lot n k o) (h : ∀ x, x < n → 0 ≤ w x) {i : Nat} (hi : i < k) : ∃ v, G i i = some v ∧ v ≤ 0 := by
  have e := (g.2 i i hi hi).uniq (g.1.gain (L.lt i hi))
  have := h _ (L.lt i hi)
  exact ⟨_, e, by omega⟩
def spSecond (K : PySem.W.Frag) : Sp := fun vs H Q _ => ∃ (d wa oa : Addr) (n k : Nat) (t : Mx) (w : Nat → Int) (o : Nat → Nat) (r : Option Mx) (tv gv : V) (u : Int), vs = [.ref d, tv, .ref wa, .ref oa, gv, .int u] ∧ Dg d H ∧ IsTab K H tv n n t ∧ SqT K H wa (row n (whole w)) ∧ TupD H oa (row k (wholeN o)) ∧ VP n k t w o ∧ n ≤ 300 ∧ k ≤ 299 ∧ 0 ≤ u ∧
  IsOG K H gv k r ∧ GainsRes n t w k o r ∧ ∀ (v' : V) (n' : Nat) (t' : Mx) (w' : Nat → Int) (o' : Nat → Nat) (H' : Hp), Rg d H H' → n' ≤ 301 → PartT K H' v' n' k t' w' o' → VP n' k t' w' o' → Q v' H'
def spNumbers (K : PySem.W.Frag) : Sp := fun vs H Q _ => ∃ (a : Addr) (n : Nat) (w : Nat → Int) (m : Int), vs = [.ref a, .int (n : Int), .int m] ∧ SqT K H a (row n (whole w)) ∧ (∀ x, x < n → m ≤ w x) ∧ Q (.bl true) H
def spGrid (K : PySem.W.Frag) : Sp := fun vs H Q _ => ∃ (n m : Nat) (M : Mx) (v : V) (b : Bool), vs = [v, .int (n : Int), .int (m : Int), .bl b] ∧ IsTab K H v n m M ∧ (b = true → NonNeg n m M) ∧ Q (.bl true) H

/- _law_second: slots 0 _law_digits_here 1 _law_table 2 _law_waits 3 _law_outer 4 _law_gains_here 5 _law_unit 6 _law_kind 7 _law_other 8 _law_part_here 9 _law_x; cells [] -/
abbrev s__law_second : Stmt := top 53
theorem sc__law_second : FnScope ["_law_digits_here", "_law_table", "_law_waits", "_law_outer", "_law_gains_here", "_law_unit", "_law_kind", "_law_other", "_law_part_here", "_law_x"] ["_law_digits_here", "_law_table", "_law_waits", "_law_outer", "_law_gains_here", "_law_unit"] (fnScope s__law_second) := fnScope_by (by decide +kernel)
/- _law_numbers: slots 0 _law_told 1 _law_many 2 _law_least 3 _law_number; cells [] -/
abbrev s__law_numbers : Stmt := top 54
theorem sc__law_numbers : FnScope ["_law_told", "_law_many", "_law_least", "_law_number"] ["_law_told", "_law_many", "_law_least"] (fnScope s__law_numbers) := fnScope_by (by decide +kernel)
/- _law_grid: slots 0 _law_told 1 _law_many 2 _law_wide 3 _law_numbers_here 4 _law_row 5 _law_entry_here; cells [] -/
abbrev s__law_grid : Stmt := top 55
theorem sc__law_grid : FnScope ["_law_told", "_law_many", "_law_wide", "_law_numbers_here", "_law_row", "_law_entry_here"] ["_law_told", "_law_many", "_law_wide", "_law_numbers_here"] (fnScope s__law_grid) := fnScope_by (by decide +kernel)
section
variable {P : Program} {w : World} {K : PySem.W.Frag} {mg : Str → Option Value} {base : Heap}
theorem ok_law_second (T : Txt mg) (D : Dx K mg "_law_second" s__law_second ["_law_digits_here", "_law_table", "_law_waits", "_law_outer", "_law_gains_here", "_law_unit"]) (c__law_take : Cal P w K mg base 1 "_law_take" spTake []) (c__law_part : Cal P w K mg base 4 "_law_part" (spPart K) [])
    (c__law_padded : Cal P w K mg base 3 "_law_padded" (spPadded K) []) (c__law_raised : Cal P w K mg base 4 "_law_raised" (spPadded K) []) (c__law_made : Cal P w K mg base 1 "_law_made" (spMade K) []) (c__law_bent : Cal P w K mg base 2 "_law_bent" (spBent K) []) : Cal P w K mg base 5 "_law_second" (spSecond K) [] := by
  refine cal D sc__law_second (fun vs H Q E h => ?_) (fun f cdv A outer s H vs Q E hr h => ?_)
  · obtain ⟨d, wa, oa, n, k, t, wt, o, r, tv, gv, u, rfl, _⟩ := h
    rfl
  · obtain ⟨d, wa, oa, n, k, t, wt, o, r, tv, gv, u, rfl, hd, hT, hW, hO, vp, hn, hk, hu, hg, gr, q⟩ := h
    have nd := sc__law_second.nd
    refine ⟨_, (pss_cons (ps_set (i := 6) nd rfl (Or.inl rfl) (pe_c c__law_take hr (by decide) (by rfl) (pa_cons (pv 0) (pa_cons pe_int pa_nil))))
      (pss_cons (ps_if (pt_cmpR op_eq (pv 6) pe_int (nomark _)) (pss_cons (ps_set (i := 7) nd rfl (Or.inl rfl) (pe_c c__law_part hr (by decide) (by rfl) (pa_cons (pv 0) (pa_cons (pe_op op_add (pe_callB (lenK K) (by rfl) T.len boot_len (pa_cons (pv 3) pa_nil)) (pe_c c__law_take hr (by decide) (by rfl) (pa_cons (pv 0) (pa_cons pe_int pa_nil)))) (pa_cons (pv 5) pa_nil)))))
        (pss_one (ps_ret (pe_tup (pa_cons (pe_ix (ixT K) (pv 7) pe_int (fun _ _ => rfl)) (pa_cons (pe_ix (ixT K) (pv 7) pe_int (fun _ _ => rfl)) (pa_cons (pe_callTy (tupDK K) (by rfl) T.tuple boot_tuple (pa_cons (pe_lc (own := [("_law_x", 9)]) (g := gName 9) (tt := tYes) rfl nd (pi_range1 (by rfl) T.range (pa_cons (pe_callB (lenK K) (by rfl) T.len boot_len (pa_cons (pv 3) pa_nil)) pa_nil)) (blkOk_by (N := ["_law_digits_here", "_law_table", "_law_waits", "_law_outer", "_law_gains_here", "_law_unit", "_law_kind", "_law_other", "_law_part_here", "_law_x"]) (sc := fnScope s__law_second) (by decide +kernel)) (fun _ _ _ _ _ => (pg_name (i := 9) nd rfl (Or.inl rfl))) (fun _ _ _ _ _ => pts_nil) (fun _ _ _ _ _ => (pv 9))) pa_nil)) pa_nil))))))) pss_nil)
      (pss_cons (ps_if (PW.pt (pw_or (pt_cmpR op_eq (pv 6) pe_int (nomark _)) (pw_or1 (pt_cmpR op_eq (pv 6) pe_int (nomark _))))) (pss_one (ps_set (i := 8) nd rfl (Or.inl rfl) (pe_c c__law_padded hr (by decide) (by rfl) (pa_cons (pv 0) (pa_cons (pv 1) (pa_cons (pv 2) (pa_cons (pv 3) (pa_cons (pv 5) pa_nil)))))))) (pss_one (ps_if (PW.pt (pw_or (pt_cmpR op_eq (pv 6) pe_int (nomark _)) (pw_or (pt_cmpR op_eq (pv 6) pe_int (nomark _)) (pw_or1 (pt_cmpR op_isN (pv 4) pe_non (nomark _)))))) (pss_one (ps_set (i := 8) nd rfl (Or.inl rfl) (pe_c c__law_raised hr (by decide) (by rfl) (pa_cons (pv 0) (pa_cons (pv 1) (pa_cons (pv 2) (pa_cons (pv 3) (pa_cons (pv 5) pa_nil)))))))) (pss_one (ps_set (i := 8) nd rfl (Or.inl rfl) (pe_c c__law_made hr (by decide) (by rfl) (pa_cons (pv 4) pa_nil)))))))
      (pss_cons (ps_if (pt_cmpR op_eq (pe_op op_mod (pv 6) pe_int) pe_int (nomark _)) (pss_one (ps_set (i := 8) nd rfl (Or.inl rfl) (pe_c c__law_bent hr (by decide) (by rfl) (pa_cons (pv 0) (pa_cons (pv 8) (pa_cons (pv 5) pa_nil)))))) pss_nil)
      (pss_one (ps_ret (pv 8))))))), ?_⟩
    have three : 3 ≤ sizeLine := sz5 (show 3 ≤ 100000 by decide)
    have k0 := vp.k0
    refine ⟨_, rfl, d, 8, rfl, hd, by decide, fun c H1 hc e1 => ⟨_, rfl, rfl, _, rfl, ?_⟩⟩
    have hT1 := hT.rl e1.rl
    have hW1 := e1.rl.sqt hW
    have hO1 := e1.rl.tupD hO
    by_cases h7 : c = 7
    · refine iteDT (by rw [h7]; rfl) ⟨_, rfl, _, rfl, _, _, rfl, .inr hO1.sq, ?_⟩
      rw [row_len]
      refine ⟨_, rfl, d, 2, rfl, e1.dg, by decide, fun c2 H2 hc2 e2 => ⟨_, _, rfl, rfl, _, rfl, d, k + c2, u, rfl, e2.dg, by omega, hu, fun a wa' tv' t' w' H3 e3 hq ht hw h0 h1 => ?_⟩⟩
      have r3 := (e1.trans e2).trans e3
      refine ⟨_, rfl, _, _, _, _, rfl, rfl, hq, atI_nat (j := 0) rfl, _, rfl, _, _, _, _, rfl, rfl, hq, atI_nat (j := 1) rfl, _, rfl, _, _, rfl, .inr (r3.rl.tupD hO).sq, ?_⟩
      rw [row_len]
      refine ⟨(k : Int), rfl, by omega, by omega, lcRow No (wholeN id) walk_rng (by omega) no_lg (fun _ _ => trivial) YFn.same ?_ ?_⟩
      · rintro j x H6 H6' Ky hj e6 ⟨rfl, rfl⟩ ky
        exact ⟨rfl, _, rfl, ky _ (.refl no_lg)⟩
      · intro D6 H6 hD6 e6 hd6
        refine ⟨D6, _, rfl, SqL.of hd6, nwD fun oa' H7 e7 _ ho => ⟨three, fun pa fpa => ?_⟩⟩
        generalize eH8 : upd H7 pa _ = H8
        have e8 : Same H7 H8 := eH8 ▸ Same.new fpa
        have h8 : H8 pa = some _ := eH8 ▸ upd_same
        have s8 := (e6.same.trans e7).trans e8
        exact q _ (k + c2) t' w' id _ (r3.more s8) (by omega) ⟨pa, _, wa', oa', rfl, SqT.of h8, ht.same s8, s8.sqt hw, e8.tupD ho⟩ ⟨by omega, by omega, h0, h1, ⟨fun i hi => by show i < k + c2; omega, fun i j h _ => h⟩, k0, by omega⟩
    · refine iteDF (fun z => h7 (by have := V.int.inj z; omega)) ?_
      apply via3 (pre := fun (v : V) H' => ∃ n' t' w' o', Rg d H H' ∧ n' ≤ 301 ∧ PartT K H' v n' k t' w' o' ∧ VP n' k t' w' o') (st := fun v => [some (.ref d), some tv, some (.ref wa), some (.ref oa), some gv, some (.int u), some (.int (c : Nat)), none, some v, none])
      · intro key
        refine ⟨_, rfl, rfl, _, rfl, ?_⟩
        by_cases h0 : c = 0
        · refine iteDT (by rw [h0]; rfl) (iteT ⟨_, rfl, _, rfl, _, rfl, _, rfl, _, rfl, d, wa, oa, n, k, t, wt, o, _, u, rfl, e1.dg, hT1, hW1, hO1, vp, hn, hu, fun v' n' t' w' H' r' hn' pt vp' => ?_⟩)
          exact key v' H' ⟨n', t', w', o, e1.trans r', by omega, pt, vp'⟩
        · refine iteDF (fun z => h0 (by have := V.int.inj z; omega)) ⟨_, rfl, rfl, _, rfl, ?_⟩
          by_cases h1 : c = 1
          · refine iteDT (by rw [h1]; rfl) ⟨_, rfl, _, rfl, _, rfl, _, rfl, _, rfl, d, wa, oa, n, k, t, wt, o, _, u, rfl, e1.dg, hT1, hW1, hO1, vp, hn, hu, fun v' n' t' w' H' r' hn' pt vp' => ?_⟩
            exact key v' H' ⟨n', t', w', o, e1.trans r', by omega, pt, vp'⟩
          · refine iteDF (fun z => h1 (by have := V.int.inj z; omega)) ⟨_, rfl, rfl, _, rfl, ?_⟩
            by_cases h2 : c = 2
            · refine iteDT (by rw [h2]; rfl) (iteT ⟨_, rfl, _, rfl, _, rfl, _, rfl, _, rfl, d, wa, oa, n, k, t, wt, o, _, u, rfl, e1.dg, hT1, hW1, hO1, vp, hn, hu, fun v' n' t' w' H' r' hn' pt vp' => ?_⟩)
              exact key v' H' ⟨n', t', w', o, e1.trans r', by omega, pt, vp'⟩
            · refine iteDF (fun z => h2 (by have := V.int.inj z; omega)) ⟨_, rfl, rfl, _, rfl, ?_⟩
              by_cases h3 : c = 3
              · refine iteDT (by rw [h3]; rfl) (iteT ⟨_, rfl, _, rfl, _, rfl, _, rfl, _, rfl, d, wa, oa, n, k, t, wt, o, _, u, rfl, e1.dg, hT1, hW1, hO1, vp, hn, hu, fun v' n' t' w' H' r' hn' pt vp' => ?_⟩)
                exact key v' H' ⟨n', t', w', o, e1.trans r', by omega, pt, vp'⟩
              · refine iteDF (fun z => h3 (by have := V.int.inj z; omega)) ⟨_, rfl, rfl, _, rfl, ?_⟩
                cases r with
                | none =>
                  have e0 : gv = .non := hg
                  subst e0
                  refine iteDT rfl ⟨_, rfl, _, rfl, _, rfl, _, rfl, _, rfl, d, wa, oa, n, k, t, wt, o, _, u, rfl, e1.dg, hT1, hW1, hO1, vp, hn, hu, fun v' n' t' w' H' r' hn' pt vp' => ?_⟩
                  exact key v' H' ⟨n', t', w', o, e1.trans r', by omega, pt, vp'⟩
                | some G =>
                  obtain ⟨ga, gs, rfl, hG⟩ := (show IsTab K H gv k k G from hg)
                  refine iteDF (fun z => by cases z) ⟨_, rfl, k, G, _, rfl, IsTab.rl e1.rl (show IsTab K H _ k k G from hg), k0, by omega, fun x hx => gr.diag vp.lot vp.w0 hx, fun v' t' w' H' e' pt vp' => ?_⟩
                  exact key v' H' ⟨k, t', w', id, e1.more e', by omega, pt, vp'⟩
      · rintro v H2 ⟨n', t', w', o', r2, hn', pt, vp'⟩
        refine ⟨_, rfl, _, _, rfl, rfl, show (0 : Int) < 2 by decide, rfl, _, rfl, iteB (fun _ => ?_) (fun _ => ?_)⟩
        · exact ⟨_, rfl, _, rfl, _, rfl, d, n', k, t', w', o', v, u, rfl, r2.dg, pt, vp', by omega, hu, fun v2 t2 w2 H3 r3 pt2 vp2 => ⟨_, rfl, q v2 n' t2 w2 o' H3 (r2.trans r3) hn' pt2 vp2⟩⟩
        · exact ⟨_, rfl, q v n' t' w' o' H2 r2 hn' pt vp'⟩
theorem ok_law_numbers (T : Txt mg) (D : Dx K mg "_law_numbers" s__law_numbers ["_law_told", "_law_many", "_law_least"]) : Cal P w K mg base 1 "_law_numbers" (spNumbers K) [] := by
  refine cal D sc__law_numbers (fun vs H Q E h => ?_) (fun f cdv A outer s H vs Q E hr h => ?_)
  · obtain ⟨a, n, wt, m, rfl, _⟩ := h
    rfl
  · obtain ⟨a, n, wt, m, rfl, hT, hm, q⟩ := h
    have nd := sc__law_numbers.nd
    refine ⟨_, (pss_cons (ps_if (PW.pt (pw_or (pt_not (pt_val (pe_callB (isiK K) (by rfl) T.isinstance boot_isinstance (pa_cons (pv 0) (pa_cons (pe_ty (by rfl) T.tuple boot_tuple) pa_nil))))) (pw_or1 (pt_cmpR op_ne (pe_callB (lenK K) (by rfl) T.len boot_len (pa_cons (pv 0) pa_nil)) (pv 1) (nomark _))))) (pss_one (ps_ret pe_bl)) pss_nil)
      (pss_cons (ps_for PassesOwn.never rfl (piT K rfl (pv 0)) (pg_name (i := 3) nd rfl (Or.inl rfl))
        (pss_one (ps_if (PW.pt (pw_or (pt_val (pe_callB (isiK K) (by rfl) T.isinstance boot_isinstance (pa_cons (pv 3) (pa_cons (pe_ty (by rfl) T.bool boot_bool) pa_nil)))) (pw_or (pt_not (pt_val (pe_callB (isiK K) (by rfl) T.isinstance boot_isinstance (pa_cons (pv 3) (pa_cons (pe_ty (by rfl) T.int boot_int) pa_nil))))) (pw_or1 (pt_cmpR op_lt (pv 3) (pv 2) (nomark _)))))) (pss_one (ps_ret pe_bl)) pss_nil)))
      (pss_one (ps_ret pe_bl)))), ?_⟩
    refine ⟨_, rfl, _, _, _, _, _, rfl, .ty _, ty_t hT, kit_ty k_tt, _, rfl, iteF ⟨_, rfl, _, _, rfl, .inr hT, _, rfl, rfl, _, rfl, ?_⟩⟩
    rw [row_len]
    refine iteNT rfl ⟨_, rfl, _, rfl, ⟨_, hT⟩, for_it walk_tup (fun i σ' H' => H' = H ∧ ∃ x3, σ' = [some (.ref a), some (.int (n : Int)), some (.int m), x3])
      ⟨rfl, none, rfl⟩ (fun i σ' H' _ p => by rw [p.1]; exact hT) ?_ ?_⟩
    · rintro i x σ' H1 H1' hi ⟨rfl, x3, rfl⟩ ⟨rfl, hx⟩
      obtain ⟨hi, rfl⟩ := row_isW hx
      have := hm i hi
      exact ⟨_, rfl, _, _, _, _, _, rfl, .ty _, ty_i, kit_ty k_ib, _, rfl, iteF ⟨_, rfl, _, _, _, _, _, rfl, .ty _, ty_i, kit_ty k_ii, _, rfl, iteF ⟨_, rfl, _, rfl, _, _, rfl, rfl, _, rfl, iteDF (by omega) ⟨rfl, _, rfl⟩⟩⟩⟩
    · rintro σ' H1 ⟨rfl, x3, rfl⟩
      exact q
theorem ok_law_grid (T : Txt mg) (D : Dx K mg "_law_grid" s__law_grid ["_law_told", "_law_many", "_law_wide", "_law_numbers_here"]) : Cal P w K mg base 1 "_law_grid" (spGrid K) [] := by
  refine cal D sc__law_grid (fun vs H Q E h => ?_) (fun f cdv A outer s H vs Q E hr h => ?_)
  · obtain ⟨n, m, M, v, b, rfl, _⟩ := h
    rfl
  · obtain ⟨n, m, M, v, b, rfl, ⟨a, vs, rfl, hT, hl, hrows⟩, hb, q⟩ := h
    have nd := sc__law_grid.nd
    refine ⟨_, (pss_cons (ps_if (PW.pt (pw_or (pt_not (pt_val (pe_callB (isiK K) (by rfl) T.isinstance boot_isinstance (pa_cons (pv 0) (pa_cons (pe_ty (by rfl) T.tuple boot_tuple) pa_nil))))) (pw_or1 (pt_cmpR op_ne (pe_callB (lenK K) (by rfl) T.len boot_len (pa_cons (pv 0) pa_nil)) (pv 1) (nomark _))))) (pss_one (ps_ret pe_bl)) pss_nil)
      (pss_cons (ps_for PassesOwn.never rfl (piT K rfl (pv 0)) (pg_name (i := 4) nd rfl (Or.inl rfl))
        (pss_cons (ps_if (PW.pt (pw_or (pt_not (pt_val (pe_callB (isiK K) (by rfl) T.isinstance boot_isinstance (pa_cons (pv 4) (pa_cons (pe_ty (by rfl) T.tuple boot_tuple) pa_nil))))) (pw_or1 (pt_cmpR op_ne (pe_callB (lenK K) (by rfl) T.len boot_len (pa_cons (pv 4) pa_nil)) (pv 2) (nomark _))))) (pss_one (ps_ret pe_bl)) pss_nil)
        (pss_one (ps_for PassesOwn.never rfl (piT K rfl (pv 4)) (pg_name (i := 5) nd rfl (Or.inl rfl))
          (pss_cons (ps_if (PW.pt (pw_or (pt_val (pe_callB (isiK K) (by rfl) T.isinstance boot_isinstance (pa_cons (pv 5) (pa_cons (pe_ty (by rfl) T.bool boot_bool) pa_nil)))) (pw_or1 (PW.pt (pw_and (pt_cmpR op_notN (pv 5) pe_non (nomark _)) (pw_and1 (pt_not (pt_val (pe_callB (isiK K) (by rfl) T.isinstance boot_isinstance (pa_cons (pv 5) (pa_cons (pe_ty (by rfl) T.int boot_int) pa_nil))))))))))) (pss_one (ps_ret pe_bl)) pss_nil)
          (pss_one (ps_if (PW.pt (pw_and (pt_val (pv 3)) (pw_and (pt_cmpR op_notN (pv 5) pe_non (nomark _)) (pw_and1 (pt_cmpR op_lt (pv 5) pe_int (nomark _)))))) (pss_one (ps_ret pe_bl)) pss_nil)))))))
      (pss_one (ps_ret pe_bl)))), ?_⟩
    refine ⟨_, rfl, _, _, _, _, _, rfl, .ty _, ty_t hT, kit_ty k_tt, _, rfl, iteF ⟨_, rfl, _, _, rfl, .inr hT, _, rfl, rfl, _, rfl, ?_⟩⟩
    rw [hl]
    refine iteNT rfl ⟨_, rfl, _, rfl, ⟨_, hT⟩, for_it walk_tup (fun i σ' H' => H' = H ∧ ∃ x4 x5, σ' = [some (.ref a), some (.int (n : Int)), some (.int (m : Int)), some (.bl b), x4, x5])
      ⟨rfl, none, none, rfl⟩ (fun i σ' H' _ p => by rw [p.1]; exact hT) ?_ ?_⟩
    · rintro i x σ' H1 H1' hi ⟨rfl, x4, x5, rfl⟩ ⟨rfl, hx⟩
      have hi : i < n := by
        have := (List.getElem?_eq_some_iff.mp hx).1
        omega
      obtain ⟨c, rfl, hc⟩ := hrows i x hx
      refine ⟨_, rfl, _, _, _, _, _, rfl, .ty _, ty_t hc, kit_ty k_tt, _, rfl, iteF ⟨_, rfl, _, _, rfl, .inr hc, _, rfl, rfl, _, rfl, ?_⟩⟩
      rw [row_len]
      refine iteNT rfl ⟨_, rfl, _, rfl, ⟨_, hc⟩, for_it walk_tup (fun j σ' H' => H' = H1' ∧ ∃ x5, σ' = [some (.ref a), some (.int (n : Int)), some (.int (m : Int)), some (.bl b), some (.ref c), x5])
        ⟨rfl, x5, rfl⟩ (fun i σ' H' _ p => by rw [p.1]; exact hc) ?_ ?_⟩
      · rintro j x σ' H2 H2' hj ⟨rfl, x5, rfl⟩ ⟨rfl, hx⟩
        obtain ⟨hj, rfl⟩ := row_is hx
        cases hM : M i j with
        | none =>
          refine ⟨_, rfl, _, _, _, _, _, rfl, .ty _, ty_n, kit_ty k_nb, _, rfl, iteF ⟨_, rfl, rfl, _, rfl, iteNT rfl (iteF ⟨_, rfl, _, rfl, iteB (fun _ => ?_) (fun _ => ?_)⟩)⟩⟩
          · exact ⟨_, rfl, rfl, _, rfl, iteNT rfl (iteF ⟨rfl, _, rfl⟩)⟩
          · exact iteF ⟨rfl, _, rfl⟩
        | some g =>
          refine ⟨_, rfl, _, _, _, _, _, rfl, .ty _, ty_i, kit_ty k_ib, _, rfl, iteF ⟨_, rfl, rfl, _, rfl, iteNF (fun z => by cases z) ⟨_, rfl, _, _, _, _, _, rfl, .ty _, ty_i, kit_ty k_ii, _, rfl, iteF ⟨_, rfl, _, rfl, iteB (fun hbt => ?_) (fun _ => ?_)⟩⟩⟩⟩
          · have := hb hbt i j g hi hj hM
            exact ⟨_, rfl, rfl, _, rfl, iteNF (fun z => by cases z) ⟨_, rfl, _, _, rfl, rfl, _, rfl, iteDF (by omega) ⟨rfl, _, rfl⟩⟩⟩
          · exact iteF ⟨rfl, _, rfl⟩
      · rintro σ' H2 ⟨rfl, x5, rfl⟩
        exact ⟨rfl, _, _, rfl⟩
    · rintro σ' H1 ⟨rfl, x4, x5, rfl⟩
      exact q
end
end K60

namespace K60
open PySem L2
open C8 (Cal Def Met Mak cal0 met0 mak0 pe_c pe_mk pe_mt pe_mt0 pe_gc InsC call_isC fnScope fnBody fnArgs clsBody fnScope_by)

theorem Lot.le {n k : Nat} {o : Nat → Nat} (L : Lot n k o) : k ≤ n := by
  have h : ∀ i, i < k → i ≤ o i := by
    intro i
    induction i with
    | zero => exact fun _ => Nat.zero_le _
    | succ i ih =>
      intro hi
      have h1 := ih (by omega)
      have h2 := L.up i (i + 1) (Nat.lt_succ_self i) hi
      omega
  cases k with
  | zero => exact Nat.zero_le _
  | succ k =>
    have h1 := h k (Nat.lt_succ_self k)
    have h2 := L.lt k (Nat.lt_succ_self k)
    omega
theorem sorted_uniq : ∀ xs ys : List Int, xs.Pairwise (· < ·) → ys.Pairwise (· < ·) → (∀ k, k ∈ xs ↔ k ∈ ys) → xs = ys
  | [], [], _, _, _ => rfl
  | [], y :: ys, _, _, h => by
    have := (h y).mpr (List.mem_cons_self ..)
    simp at this
  | x :: xs, [], _, _, h => by
    have := (h x).mp (List.mem_cons_self ..)
    simp at this
  | x :: xs, y :: ys, hx, hy, h => by
    have hx' := List.pairwise_cons.mp hx
    have hy' := List.pairwise_cons.mp hy
    have exy : x = y := by
      have h1 := (h x).mp (List.mem_cons_self ..)
      have h2 := (h y).mpr (List.mem_cons_self ..)
      rcases List.mem_cons.mp h1 with h1 | h1
      · exact h1
      · rcases List.mem_cons.mp h2 with h2 | h2
        · exact h2.symm
        · have z1 := hy'.1 x h1
          have z2 := hx'.1 y h2
          omega
    subst exy
    rw [sorted_uniq xs ys hx'.2 hy'.2 fun k => ?_]
    constructor
    · intro hk
      rcases List.mem_cons.mp ((h k).mp (List.mem_cons_of_mem _ hk)) with e | e
      · have := hx'.1 k hk
        omega
      · exact e
    · intro hk
      rcases List.mem_cons.mp ((h k).mpr (List.mem_cons_of_mem _ hk)) with e | e
      · have := hy'.1 k hk
        omega
      · exact e
theorem oI_sorted {n k : Nat} {o : Nat → Nat} (L : Lot n k o) : (oI k o).Pairwise (· < ·) := by
  unfold oI
  rw [List.pairwise_map]
  refine List.Pairwise.imp_of_mem (fun {a b} ha hb hab => ?_) List.pairwise_lt_range
  have := L.up a b hab (List.mem_range.mp hb)
  omega
theorem dp_lrow {K : PySem.W.Frag} {H : Hp} {a : Addr} {n : Nat} {f : Nat → Option Int} (h : SqL K H a (row n f)) : Dp K H (.ref a) (.list ((List.range n).map fun j => dE (f j))) := .lst h (dpAll_row _)
theorem lay_dE (e : Option Int) : (dE e).canLay0 = true := by cases e <;> simp [dE, PyData.canLay0]
theorem dep_dE (e : Option Int) : (dE e).depth ≤ 0 := by cases e <;> simp [dE, PyData.depth]
theorem shp_lrow {n : Nat} {f : Nat → Option Int} : SeqAt.shaped (.list ((List.range n).map fun j => dE (f j))) = true := by
  unfold SeqAt.shaped
  rw [Bool.and_eq_true, PyData.canLay0, PyData.depth]
  refine ⟨lay_map _ (fun i => lay_dE _) _, decide_eq_true ?_⟩
  have := dep_map (fun j => dE (f j)) 0 (fun j => dep_dE _) (List.range n)
  omega
theorem shp_row {n : Nat} {f : Nat → Option Int} : SeqAt.shaped (.tuple ((List.range n).map fun j => dE (f j))) = true := by
  unfold SeqAt.shaped
  rw [Bool.and_eq_true, PyData.canLay0, PyData.depth]
  refine ⟨lay_map _ (fun i => lay_dE _) _, decide_eq_true ?_⟩
  have := dep_map (fun j => dE (f j)) 0 (fun j => dep_dE _) (List.range n)
  omega
theorem iteNb {b : Bool} {A B : Prop} (h : b = true) (y : B) : if (!b) = true then A else B := by
  rw [h]
  exact iteF y
theorem shp_lay {d : PyData} (h : SeqAt.shaped d = true) : d.canLay0 = true := SeqAt.canLay_of_shaped h
theorem atI_last {xs : List V} {v : V} (h0 : 0 < xs.length) (h : xs[xs.length - 1]? = some v) : atI xs (-1) = some v := by
  unfold atI ixN
  rw [if_neg (by omega), if_pos (by omega)]
  show xs[((-1 : Int) + (xs.length : Int)).toNat]? = some v
  rw [show ((-1 : Int) + (xs.length : Int)).toNat = xs.length - 1 by omega]
  exact h
theorem Kp.congr {n : Nat} {t t' : Mx} {w : Nat → Int} (e : ∀ x y, x < n → y < n → t x y = t' x y) : Kp n t w ↔ Kp n t' w := by
  have go : ∀ {t t' : Mx}, (∀ x y, x < n → y < n → t x y = t' x y) → ∀ {x y v}, Wk n (stp t w) x y v → Wk n (stp t' w) x y v := fun {t t'} e {x y v} a => by
    induction a with
    | nil h => exact .nil h
    | @cons x y z g w' v hx es r q ih =>
      refine .cons hx ?_ ih q
      obtain ⟨ne, et⟩ := stp_some es
      rw [e x y hx r.left] at et
      rw [stp_of ne et]
      congr 1
      omega
  exact ⟨fun k x v a => k x v (go (fun x y hx hy => (e x y hx hy).symm) a), fun k x v a => k x v (go e a)⟩
theorem og_some {K : PySem.W.Frag} {H : Hp} {v : V} {k : Nat} {r : Option Mx} (h : IsOG K H v k r) : (!decide (v = .non)) = r.isSome := by
  cases r with
  | none =>
    have e : v = .non := h
    rw [decide_eq_true e]
    rfl
  | some G =>
    obtain ⟨a, vs, rfl, _⟩ := (show IsTab K H v k k G from h)
    rw [decide_eq_false (fun z => by cases z)]
    rfl
def spShown (K : PySem.W.Frag) : Sp := fun vs H Q _ => ∃ (n1 n2 k : Nat) (t1 t2 : Mx) (w1 w2 : Nat → Int) (o1 o2 : Nat → Nat) (r1 r2 : Option Mx) (vf vs_ vt g1 g2 : V) (ga : Addr), vs = [vf, vs_, .ref ga, vt] ∧ PartT K H vf n1 k t1 w1 o1 ∧ PartT K H vs_ n2 k t2 w2 o2 ∧ VP n1 k t1 w1 o1 ∧ VP n2 k t2 w2 o2 ∧ n1 ≤ 301 ∧ n2 ≤ 301 ∧ k ≤ 299 ∧
  SqT K H ga [g1, g2] ∧ IsOG K H g1 k r1 ∧ IsOG K H g2 k r2 ∧ GainsRes n1 t1 w1 k o1 r1 ∧ GainsRes n2 t2 w2 k o2 r2 ∧ Told K H vt k r1 r2 ∧ ∀ H', Same H H' → Q (.bl true) H'

/- _law_telling_shown: slots 0 _law_first 1 _law_second_here 2 _law_gains_here 3 _law_told 4 _law_many 5 _law_size 6 _law_numbers_here 7 _law_row 8 _law_fits 9 _law_own 10 _law_kept 11 _law_k 12 _law_table 13 _law_waits 14 _law_outer 15 _law_there 16 _law_back 17 _law_part_here 18 _law_whole 19 _law_linked_here 20 _law_x 21 _law_entry_here; cells ['_law_table'] -/
abbrev s__law_telling_shown : Stmt := top 56
theorem sc__law_telling_shown : FnScope ["_law_first", "_law_second_here", "_law_gains_here", "_law_told", "_law_many", "_law_size", "_law_numbers_here", "_law_row", "_law_fits", "_law_own", "_law_kept", "_law_k", "_law_table", "_law_waits", "_law_outer", "_law_there", "_law_back", "_law_part_here", "_law_whole", "_law_linked_here", "_law_x", "_law_entry_here"] ["_law_first", "_law_second_here", "_law_gains_here", "_law_told"] (fnScope s__law_telling_shown) := fnScope_by (by decide +kernel)
section
variable {P : Program} {w : World} {K : PySem.W.Frag} {mg : Str → Option Value} {base : Heap}
theorem ok_law_telling_shown (T : Txt mg) (D : Dx K mg "_law_telling_shown" s__law_telling_shown ["_law_first", "_law_second_here", "_law_gains_here", "_law_told"]) (c__law_grid : Cal P w K mg base 1 "_law_grid" (spGrid K) []) (c__law_numbers : Cal P w K mg base 1 "_law_numbers" (spNumbers K) [])
    (c__law_gains : Cal P w K mg base 1 "_law_gains" (spGainsL K) []) (c__law_same : Cal P w K mg base 4 "_law_same" (spS3 K) []) (c_gains_of : Cal P w K mg base 4 "gains_of" (spGainsOf K) []) (c__law_linked : Cal P w K mg base 1 "_law_linked" (spLinkedL K) []) (c_linked_tables : Cal P w K mg base 5 "linked_tables" (spLinkedTables K) [])
    (c_is_kept : Cal P w K mg base 5 "is_kept" (spKept K) []) (c_linked_gains : Cal P w K mg base 5 "linked_gains" (spLinkedGains K) []) : Cal P w K mg base 6 "_law_telling_shown" (spShown K) [] := by
  refine cal D sc__law_telling_shown (fun vs H Q E h => ?_) (fun f cdv A outer s H vs Q E hr h => ?_)
  · obtain ⟨n1, n2, k, t1, t2, w1, w2, o1, o2, r1, r2, vf, vs_, vt, g1, g2, ga, rfl, _⟩ := h
    rfl
  · obtain ⟨n1, n2, k, t1, t2, w1, w2, o1, o2, r1, r2, vf, vs_, vt, g1, g2, ga, rfl, p1, p2, vp1, vp2, hn1, hn2, hk, hga, hg1, hg2, gr1, gr2, told, q⟩ := h
    have nd := sc__law_telling_shown.nd
    refine ⟨_, (pss_cons (ps_if (PW.pt (pw_or (pt_not (pt_val (pe_callB (isiK K) (by rfl) T.isinstance boot_isinstance (pa_cons (pv 3) (pa_cons (pe_ty (by rfl) T.tuple boot_tuple) pa_nil))))) (pw_or (pt_cmpR op_ne (pe_callB (lenK K) (by rfl) T.len boot_len (pa_cons (pv 3) pa_nil)) pe_int (nomark _)) (pw_or1 (pt_not (pt_val (pe_callB (isiK K) (by rfl) T.isinstance boot_isinstance (pa_cons (pe_ix (ixT K) (pv 3) pe_int (fun _ _ => rfl)) (pa_cons (pe_ty (by rfl) T.tuple boot_tuple) pa_nil))))))))) (pss_one (ps_ret pe_bl)) pss_nil)
      (pss_cons (ps_asg (pv 3) (pg_tup rfl (pgs_cons (pg_name (i := 12) nd rfl (Or.inr rfl)) (pgs_cons (pg_name (i := 13) nd rfl (Or.inl rfl)) (pgs_cons (pg_name (i := 14) nd rfl (Or.inl rfl)) (pgs_cons (pg_name (i := 15) nd rfl (Or.inl rfl)) (pgs_cons (pg_name (i := 16) nd rfl (Or.inl rfl)) pgs_nil)))))))
      (pss_cons (ps_set (i := 4) nd rfl (Or.inl rfl) (pe_callB (lenK K) (by rfl) T.len boot_len (pa_cons (pv 12) pa_nil)))
      (pss_cons (ps_if (PW.pt (pw_or (pt_cmpR op_eq (pv 4) pe_int (nomark _)) (pw_or (pt_not (pt_val (pe_c c__law_grid hr (by decide) (by rfl) (pa_cons (pv 12) (pa_cons (pv 4) (pa_cons (pv 4) (pa_cons pe_bl pa_nil))))))) (pw_or1 (pt_not (pt_val (pe_c c__law_numbers hr (by decide) (by rfl) (pa_cons (pv 13) (pa_cons (pv 4) (pa_cons pe_int pa_nil)))))))))) (pss_one (ps_ret pe_bl)) pss_nil)
      (pss_cons (ps_if (PW.pt (pw_or (pt_not (pt_val (pe_callB (isiK K) (by rfl) T.isinstance boot_isinstance (pa_cons (pv 14) (pa_cons (pe_ty (by rfl) T.tuple boot_tuple) pa_nil))))) (pw_or (pt_cmpR op_eq (pe_callB (lenK K) (by rfl) T.len boot_len (pa_cons (pv 14) pa_nil)) pe_int (nomark _)) (pw_or1 (pt_not (pt_val (pe_c c__law_numbers hr (by decide) (by rfl) (pa_cons (pv 14) (pa_cons (pe_callB (lenK K) (by rfl) T.len boot_len (pa_cons (pv 14) pa_nil)) (pa_cons pe_int pa_nil)))))))))) (pss_one (ps_ret pe_bl)) pss_nil)
      (pss_cons (ps_if (PW.pt (pw_or (pt_cmpR (neDK K rfl hr.units) (pv 14) (pe_callTy (tupK K) (by rfl) T.tuple boot_tuple (pa_cons (pe_callB (cr_sortedSet rfl) (by rfl) T.sorted boot_sorted (pa_cons (pe_callTy (setK K rfl rfl) (by rfl) T.set boot_set (pa_cons (pv 14) pa_nil)) pa_nil)) pa_nil)) (nomark _)) (pw_or (pt_cmpR op_ge (pe_ix (ixT K) (pv 14) (pe_un un_neg pe_int) (fun _ _ => rfl)) (pv 4) (nomark _)) (pw_or1 (pt_cmpR (neDK K rfl hr.units) (pe_lc (own := [("_law_x", 20)]) (g := gName 20) (tt := tYes) rfl nd (pi_range1 (by rfl) T.range (pa_cons (pv 4) pa_nil)) (blkOk_by (N := ["_law_first", "_law_second_here", "_law_gains_here", "_law_told", "_law_many", "_law_size", "_law_numbers_here", "_law_row", "_law_fits", "_law_own", "_law_kept", "_law_k", "_law_table", "_law_waits", "_law_outer", "_law_there", "_law_back", "_law_part_here", "_law_whole", "_law_linked_here", "_law_x", "_law_entry_here"]) (sc := fnScope s__law_telling_shown) (by decide +kernel)) (fun _ _ _ _ _ => (pg_name (i := 20) nd rfl (Or.inl rfl))) (fun _ _ _ _ _ => pts_nil) (fun _ _ _ _ _ => (pe_ix (ixT K) (pe_ix (ixT K) (pv 12) (pv 20) (fun _ _ => rfl)) (pv 20) (fun _ _ => rfl)))) (pe_op op_rep (pe_lst (pa_cons pe_int pa_nil)) (pv 4)) (nomark _)))))) (pss_one (ps_ret pe_bl)) pss_nil)
      (pss_cons (ps_set (i := 5) nd rfl (Or.inl rfl) (pe_callB (lenK K) (by rfl) T.len boot_len (pa_cons (pe_ix (ixT K) (pv 0) pe_int (fun _ _ => rfl)) pa_nil)))
      (pss_cons (ps_if (PW.pt (pw_or (pt_not (pt_val (pe_c c__law_grid hr (by decide) (by rfl) (pa_cons (pv 15) (pa_cons (pv 5) (pa_cons (pe_callB (lenK K) (by rfl) T.len boot_len (pa_cons (pv 14) pa_nil)) (pa_cons pe_bl pa_nil))))))) (pw_or1 (pt_not (pt_val (pe_c c__law_grid hr (by decide) (by rfl) (pa_cons (pv 16) (pa_cons (pe_callB (lenK K) (by rfl) T.len boot_len (pa_cons (pv 14) pa_nil)) (pa_cons (pv 5) (pa_cons pe_bl pa_nil)))))))))) (pss_one (ps_ret pe_bl)) pss_nil)
      (pss_cons (ps_set (i := 6) nd rfl (Or.inl rfl) (pe_callTy (listK K) (by rfl) T.list boot_list (pa_cons (pv 13) pa_nil)))
      (pss_cons (ps_for PassesOwn.never rfl (piT K rfl (pe_op (catZK K) (pe_op (catZK K) (pv 12) (pv 15)) (pv 16))) (pg_name (i := 7) nd rfl (Or.inl rfl))
        (pss_one (ps_expr (pe_bm PySem.F.plainAttrs_list PySem.F.slot_list_extend PySem.F.type_list_extend mt_extend (pv 6) (pa_cons (pe_lc (own := [("_law_entry_here", 21)]) (g := gName 21) (tt := _) rfl nd (piT K rfl (pv 7)) (blkOk_by (N := ["_law_first", "_law_second_here", "_law_gains_here", "_law_told", "_law_many", "_law_size", "_law_numbers_here", "_law_row", "_law_fits", "_law_own", "_law_kept", "_law_k", "_law_table", "_law_waits", "_law_outer", "_law_there", "_law_back", "_law_part_here", "_law_whole", "_law_linked_here", "_law_x", "_law_entry_here"]) (sc := fnScope s__law_telling_shown) (by decide +kernel)) (fun _ _ _ _ _ => (pg_name (i := 21) nd rfl (Or.inl rfl))) (fun _ _ _ _ _ => (pts_one (pt_cmpR op_notN (pv 21) pe_non (nomark _)))) (fun _ _ _ _ _ => (pe_callB call_abs (by rfl) T.abs boot_abs (pa_cons (pv 21) pa_nil)))) pa_nil)))))
      (pss_cons (ps_set (i := 8) nd rfl (Or.inl rfl) (pe_and (pe_cmpR op_le (pv 4) pe_int (nomark _)) (pe_one (pe_cmpR op_le (pe_callB (maxK K rfl rfl) (by rfl) T.max boot_max (pa_cons (pv 6) pa_nil)) (pe_op op_pow pe_int pe_int) (nomark _)))))
      (pss_cons (ps_set (i := 9) nd rfl (Or.inl rfl) (pe_c c__law_gains hr (by decide) (by rfl) (pa_cons (pv 12) (pa_cons (pv 13) (pa_cons (pv 14) pa_nil)))))
      (pss_cons (ps_if (PW.pt (pw_and (pt_val (pv 8)) (pw_and1 (pt_not (pt_val (pe_c c__law_same hr (by decide) (by rfl) (pa_cons (pe_c c_gains_of hr (by decide) (by rfl) (pa_cons (pv 12) (pa_cons (pv 13) (pa_cons (pv 14) pa_nil)))) (pa_cons (pv 9) pa_nil)))))))) (pss_one (ps_ret pe_bl)) pss_nil)
      (pss_cons (ps_set (i := 10) nd rfl (Or.inl rfl) (pe_lst pa_nil))
      (pss_cons (ps_for PassesOwn.never rfl (pi_range1 (by rfl) T.range (pa_cons pe_int pa_nil)) (pg_name (i := 11) nd rfl (Or.inl rfl))
        (pss_cons (ps_set (i := 17) nd rfl (Or.inl rfl) (pe_ix (ixT K) (pe_tup (pa_cons (pv 0) (pa_cons (pv 1) pa_nil))) (pv 11) (fun _ _ => rfl)))
        (pss_cons (ps_set (i := 18) nd rfl (Or.inl rfl) (pe_c c__law_linked hr (by decide) (by rfl) (pa_cons (pe_ix (ixT K) (pv 17) pe_int (fun _ _ => rfl)) (pa_cons (pv 12) (pa_cons (pe_ix (ixT K) (pv 17) pe_int (fun _ _ => rfl)) (pa_cons (pv 14) (pa_cons (pv 15) (pa_cons (pv 16) pa_nil))))))))
        (pss_cons (ps_expr (pe_bm PySem.F.plainAttrs_list PySem.F.slot_list_append PySem.F.type_list_append mt_append (pv 10) (pa_cons (pe_cmpR op_notN (pe_c c__law_gains hr (by decide) (by rfl) (pa_cons (pv 18) (pa_cons (pe_op (catZK K) (pe_ix (ixT K) (pv 17) pe_int (fun _ _ => rfl)) (pv 13)) (pa_cons (pv 14) pa_nil)))) pe_non (nomark _)) pa_nil)))
        (pss_one (ps_if (pt_val (pv 8)) (pss_cons (ps_set (i := 19) nd rfl (Or.inl rfl) (pe_c c_linked_tables hr (by decide) (by rfl) (pa_cons (pe_ix (ixT K) (pv 17) pe_int (fun _ _ => rfl)) (pa_cons (pv 12) (pa_cons (pe_ix (ixT K) (pv 17) pe_int (fun _ _ => rfl)) (pa_cons (pv 14) (pa_cons (pv 15) (pa_cons (pv 16) pa_nil))))))))
          (pss_cons (ps_if (pt_not (pt_val (pe_c c__law_same hr (by decide) (by rfl) (pa_cons (pe_c c_is_kept hr (by decide) (by rfl) (pa_cons (pv 19) (pa_cons (pe_op (catZK K) (pe_ix (ixT K) (pv 17) pe_int (fun _ _ => rfl)) (pv 13)) pa_nil))) (pa_cons (pe_ix (ixL K) (pv 10) (pv 11) (fun _ _ => rfl)) pa_nil))))) (pss_one (ps_ret pe_bl)) pss_nil)
          (pss_one (ps_if (pt_cmpR op_eq (pe_cmpR op_isN (pe_c c_linked_gains hr (by decide) (by rfl) (pa_cons (pe_ix (ixT K) (pv 2) (pv 11) (fun _ _ => rfl)) (pa_cons (pv 9) (pa_cons (pv 15) (pa_cons (pv 16) pa_nil))))) pe_non (nomark _)) (pe_ix (ixL K) (pv 10) (pv 11) (fun _ _ => rfl)) (nomark _)) (pss_one (ps_ret pe_bl)) pss_nil)))) pss_nil))))))
      (pss_one (ps_ret (pe_cmpR op_ne (pe_ix (ixL K) (pv 10) pe_int (fun _ _ => rfl)) (pe_ix (ixL K) (pv 10) pe_int (fun _ _ => rfl)) (nomark _))))))))))))))))))), ?_⟩
    obtain ⟨n, k', t, th, bk, wt, o, a, wa, v1, v3, v4, v5, rfl, hA, hT, hW, ⟨oa, rfl, hO⟩, hth, hbk, vp, hn, nth, nbk, tells⟩ := told
    have one : 1 ≤ sizeLine := sz5 (show 1 ≤ 100000 by decide)
    have two : 2 ≤ sizeLine := sz5 (show 2 ≤ 100000 by decide)
    have n0 := vp.n0
    have k0 := vp.k0
    have kk := vp1.k0
    have hkn := vp.lot.le
    obtain ⟨a1, vs1, rfl, hq1, hl1, hr1⟩ := id hT
    obtain ⟨a4, vs4, rfl, hq4, hl4, hr4⟩ := id hth
    obtain ⟨a5, vs5, rfl, hq5, hl5, hr5⟩ := id hbk
    obtain ⟨pf, tf, wf, of, rfl, hP1, hT1, hW1, hO1⟩ := id p1
    -- its shape
    refine ⟨_, rfl, _, _, _, _, _, rfl, .ty _, ty_t hA, kit_ty k_tt, _, rfl, iteF ⟨_, rfl, _, _, rfl, .inr hA, rfl, _, rfl, iteNT rfl ⟨_, rfl, _, _, _, _, rfl, rfl, hA, atI_nat (j := 0) rfl, _, _, _, _, _, rfl, .ty _, ty_t hq1, kit_ty k_tt, _, rfl, iteF ?_⟩⟩⟩
    refine ⟨_, rfl, _, _, rfl, hA, rfl, _, _, rfl, _, _, rfl, _, _, rfl, _, _, rfl, _, _, rfl, rfl, ?_⟩
    refine ⟨_, rfl, _, _, rfl, .inr hq1, ?_⟩
    rw [hl1]
    refine ⟨_, rfl, rfl, _, rfl, iteDF (fun z => by have := V.int.inj z; omega) ⟨_, rfl, _, rfl, _, rfl, n, n, t, _, false, rfl, hT, (fun z => by cases z), _, rfl, iteF ⟨_, rfl, _, rfl, wa, n, wt, 0, rfl, hW, vp.w0, _, rfl, iteF ?_⟩⟩⟩
    refine ⟨_, rfl, _, _, _, _, _, rfl, .ty _, ty_t hO.sq, kit_ty k_tt, _, rfl, iteF ⟨_, rfl, _, _, rfl, .inr hO.sq, rfl, _, rfl, iteDF (fun z => by rw [row_len] at z; have := V.int.inj z; omega) ⟨_, rfl, _, rfl, _, _, rfl, .inr hO.sq, oa, k', fun j => ((o j : Nat) : Int), 0, by rw [row_len]; rfl, hO.sq, fun x _ => Int.natCast_nonneg _, _, rfl, iteF ?_⟩⟩⟩
    -- the outer doors are sorted
    have hOI : SqT K H oa ((oI k' o).map V.int) := by rw [← row_oI]; exact hO.sq
    refine ⟨_, rfl, _, rfl, oa, oI k' o, rfl, hOI, by simp [oI]; omega, fun sq c fsq hc => ?_⟩
    generalize eG1 : upd H sq _ = G1
    have s1 : Same H G1 := eG1 ▸ Same.new fsq
    refine ⟨sq, _, c, rfl, eG1 ▸ upd_same, by simp [oI] at hc; omega, fun ns' p hpw hmem hlen fp => ?_⟩
    have ens : ns' = oI k' o := sorted_uniq _ _ hpw (oI_sorted vp.lot) fun z => by rw [hmem z]; exact decide_eq_true_iff
    subst ens
    generalize eG2 : upd G1 p _ = G2
    have s2 : Same G1 G2 := eG2 ▸ Same.new fp
    have hp2 : G2 p = some (.lst ((oI k' o).map V.int)) := eG2 ▸ upd_same
    refine ⟨p, _, rfl, SqL.of hp2, fun l fl => ?_⟩
    generalize eG3 : upd G2 l _ = G3
    have s3 : Same G2 G3 := eG3 ▸ Same.new fl
    have hl3 : G3 l = some _ := eG3 ▸ upd_same
    have s13 := (s1.trans s2).trans s3
    rw [← row_oI] at hl3
    refine ⟨_, _, dp_row ⟨oa, rfl, s13.sqt hO.sq⟩, dp_row (n := k') (f := wholeN o) ⟨l, rfl, SqT.of hl3⟩, shp_row, shp_row, _, rfl, iteNb (SeqAt.eqv_refl _ (shp_lay shp_row)) ?_⟩
    have ho1 : (row k' (wholeN o))[(row k' (wholeN o)).length - 1]? = some (.int ((o (k' - 1) : Nat) : Int)) := by
      rw [row_len]
      exact row_getN (by omega)
    have ho2 := vp.lot.lt (k' - 1) (by omega)
    have hpos : 0 < (row k' (wholeN o)).length := by rw [row_len]; exact k0
    refine ⟨_, rfl, _, rfl, _, _, _, _, rfl, rfl, s13.sqt hO.sq, atI_last hpos ho1, _, rfl, _, _, rfl, rfl, _, rfl, iteDF (by omega) ?_⟩
    refine ⟨_, rfl, (n : Int), rfl, by omega, by omega, lcRow No (fun _ => some 0) walk_rng (by omega) no_lg (fun _ _ => trivial) YFn.same ?_ ?_⟩
    · rintro j x H6 H6' Ky hj e6 ⟨rfl, rfl⟩ ky
      have hj : j < n := hj
      obtain ⟨y1, db, hy, rfl, hb⟩ := IsTab.row hr1 hl1 hj
      have hg := row_get (f := t j) hj
      rw [vp.t0 j hj] at hg
      have s6 := s13.trans e6.same
      exact ⟨rfl, _, rfl, _, rfl, _, _, _, _, rfl, rfl, s6.sqt hq1, atI_nat hy, _, rfl, _, _, _, _, rfl, rfl, s6.sqt hb, atI_nat hg, ky _ (.refl no_lg)⟩
    intro D4 H4 hD4 e4 hd4
    refine ⟨one, fun lz flz => ?_⟩
    generalize eH5 : upd H4 lz _ = H5
    have s5 : Same H4 H5 := eH5 ▸ Same.new flz
    have hlz : H5 lz = some _ := eH5 ▸ upd_same
    refine ⟨_, rfl, _, _, _, rfl, rfl, hlz, by omega, by omega, sz5 (by simp; omega), fun lr flr => ?_⟩
    generalize eH6 : upd H5 lr _ = H6
    have s6 : Same H5 H6 := eH6 ▸ Same.new flr
    have hlr : H6 lr = some _ := eH6 ▸ upd_same
    rw [show ((n : Int).toNat) = n from rfl, rep_zero] at hlr
    have s16 := ((s13.trans e4.same).trans s5).trans s6
    refine ⟨_, _, dp_lrow (n := n) (f := fun _ => some 0) (SqL.of (s6 _ _ (s5 _ _ hd4))), dp_lrow (n := n) (f := fun _ => some 0) (SqL.of hlr), shp_lrow, shp_lrow, _, rfl, iteNb (SeqAt.eqv_refl _ (shp_lay shp_lrow)) ?_⟩
    -- the links
    refine ⟨_, rfl, _, _, _, _, rfl, rfl, s16.sqt hP1, atI_nat (j := 2) rfl, _, _, rfl, .inr (s16.tupD hO1).sq, ?_⟩
    rw [row_len]
    refine ⟨_, rfl, _, rfl, _, rfl, _, _, rfl, .inr (s16.tupD hO).sq, k, k', th, _, true, by rw [row_len]; rfl, hth.same s16, fun _ => nth, _, rfl, iteF ?_⟩
    refine ⟨_, rfl, _, rfl, _, _, rfl, .inr (s16.tupD hO).sq, _, rfl, k', k, bk, _, true, by rw [row_len]; rfl, hbk.same s16, fun _ => nbk, _, rfl, iteF ?_⟩
    -- the greatest number
    refine ⟨_, rfl, _, _, rfl, .inr (s16.sqt hW), fun ln fln => ?_⟩
    generalize eH7 : upd H6 ln _ = H7
    have s7 : Same H6 H7 := eH7 ▸ Same.new fln
    have hln : H7 ln = some _ := eH7 ▸ upd_same
    rw [row_whole] at hln
    have s17 := s16.trans s7
    refine ⟨_, rfl, _, rfl, _, _, _, _, rfl, rfl, s17.sqt hq1, s17.sqt hq4, sz5 (by rw [hl1, hl4]; omega), fun pc1 H8 s8 hpc1 => ?_⟩
    refine ⟨_, rfl, _, _, _, _, rfl, rfl, hpc1, (s17.trans s8).sqt hq5, sz5 (by rw [List.length_append, hl1, hl4, hl5]; omega), fun pc2 H9 s9 hpc2 => ?_⟩
    have s79 := s8.trans s9
    have s19 := s17.trans s79
    have rows : ∀ (i : Nat) (x : V), (vs1 ++ vs4 ++ vs5)[i]? = some x → ∃ m f, IsRow K H x m f ∧ m ≤ 300 := fun i x hx => by
      have hm := List.mem_of_getElem? hx
      rcases List.mem_append.mp hm with hm | hm
      · rcases List.mem_append.mp hm with hm | hm
        · obtain ⟨j, hj⟩ := List.getElem?_of_mem hm
          exact ⟨n, _, hr1 j x hj, by omega⟩
        · obtain ⟨j, hj⟩ := List.getElem?_of_mem hm
          exact ⟨k', _, hr4 j x hj, by omega⟩
      · obtain ⟨j, hj⟩ := List.getElem?_of_mem hm
        exact ⟨k, _, hr5 j x hj, by omega⟩
    have hlen : (vs1 ++ vs4 ++ vs5).length ≤ 303 := by rw [List.length_append, List.length_append, hl1, hl4, hl5]; omega
    refine ⟨pc2, rfl, ⟨_, hpc2⟩, for_it walk_tup (fun i σ' H' => ∃ (x7 x20 x21 : Option V) (ns : List Int), σ' = [some (.ref pf), some vs_, some (.ref ga), some (.ref a), some (.int (n : Int)), some (.int (k : Int)), some (.ref ln), x7, none, none, none, none, some (.ref a1), some (.ref wa), some (.ref oa), some (.ref a4), some (.ref a5), none, none, none, x20, x21] ∧
        Same H H' ∧ SqT K H' pc2 (vs1 ++ vs4 ++ vs5) ∧ H' ln = some (.lst (ns.map V.int)) ∧ 0 < ns.length ∧ ns.length ≤ 2 + 300 * i)
      ⟨none, _, none, _, rfl, s19, hpc2, s79 _ _ hln, by simp; omega, by simp; omega⟩ (fun i σ' H' _ ⟨_, _, _, _, _, _, e, _⟩ => e) ?_ ?_⟩
    · rintro i x σ' F1 F1' hi ⟨x7, x20, x21, ns, rfl, e1, hpc, hns, hn0, hnl⟩ ⟨rfl, hx⟩
      obtain ⟨m, f, ⟨b, rfl, hb⟩, hm⟩ := rows i x hx
      refine ⟨_, rfl, .inl ⟨rfl, _, SqL.of hns⟩, _, rfl, b, rfl, ⟨_, e1.sqt hb⟩, lcF No (fun D i acc _ => ∃ zs : List Int, acc = zs.map V.int ∧ zs.length ≤ i) walk_tup (by rw [row_len]; omega) no_lg (fun H' e => e.same.sqt (e1.sqt hb)) YAt.same (fun D hD => ⟨[], rfl, Nat.le_refl _⟩) (fun _ _ _ _ _ _ h => h) (fun _ _ _ _ _ _ h => h) ?_ ?_⟩
      · rintro D5 j y acc F2 F2' Ky Kn hj hD e2 hd2 ⟨rfl, hy⟩ ⟨zs, rfl, hz⟩ ky kn
        obtain ⟨hj, rfl⟩ := row_is hy
        refine ⟨rfl, _, rfl, rfl, _, rfl, ?_⟩
        cases hf : f j with
        | none => exact iteNT rfl (kn _ (.refl no_lg) ⟨zs, rfl, by omega⟩)
        | some g => exact iteNF (fun z => by cases z) ⟨_, rfl, _, rfl, ky _ _ (.refl no_lg) ⟨zs ++ [if g < 0 then -g else g], by rw [List.map_append]; rfl, by rw [List.length_append, List.length_singleton]; omega⟩⟩
      · rintro D5 ys F2 hD5 e2 hd5 ⟨zs, rfl, hz⟩
        rw [row_len] at hz
        have hi : i < 303 := by omega
        have fln' : H ln = none := s16.free fln
        refine ⟨ln, D5, _, _, rfl, rfl, e2.same _ _ hns, hd5, sz5 (by rw [List.length_map, List.length_map]; omega), ?_⟩
        refine ⟨_, _, _, ns ++ zs, rfl, (e1.trans e2.same).mut fln', ?_, by rw [upd_same, List.map_append], by rw [List.length_append]; omega, by rw [List.length_append]; omega⟩
        exact (rl_at (e2.same _ _ hns)).sqt (e2.same.sqt hpc)
    · rintro σ' F1 ⟨x7, x20, x21, ns, rfl, e1, hpc, hns, hn0, hnl⟩
      refine ⟨_, rfl, _, _, rfl, rfl, _, rfl, iteDT (by omega) ⟨_, rfl, _, _, rfl, SqL.of hns, hn0, fun mx _ _ => ⟨_, _, rfl, rfl, ⟨by decide, by decide, by decide⟩, _, _, rfl, rfl, ?_⟩⟩⟩
      -- the told part's own gains
      refine ⟨_, rfl, _, rfl, _, rfl, n, k', t, wt, o, _, wa, oa, rfl, hT.same e1, e1.sqt hW, e1.tupD hO, vp.lot, by omega, by omega, fun ro vo F2 e2 hgo gro => ?_⟩
      have s2 := e1.trans e2
      apply via2 (pre := fun (_ : Unit) H' => Same F2 H') (st := [some (.ref pf), some vs_, some (.ref ga), some (.ref a), some (.int (n : Int)), some (.int (k : Int)), some (.ref ln), x7, some (.bl (decide (mx ≤ 10 ^ Int.toNat 30))), some vo, none, none, some (.ref a1), some (.ref wa), some (.ref oa), some (.ref a4), some (.ref a5), none, none, none, x20, x21])
      · intro key
        refine ⟨_, rfl, _, rfl, iteB (fun _ => ?_) (fun _ => ?_)⟩
        · refine ⟨_, rfl, _, rfl, _, rfl, n, k', t, wt, o, _, wa, oa, rfl, hT.same s2, s2.sqt hW, (s2.tupD hO).sq, n0, by omega, vp.w0, vp.lot, k0, by omega, fun r3 v3' F3 e3 hg3 gr3 => ⟨_, rfl, same_og hg3 (hgo.same e3) (by omega) fun c F4 e4 hc => ⟨_, rfl, ?_⟩⟩⟩
          have hct : c = true := hc.mpr (gr3.uniq gro)
          rw [hct]
          exact iteF (key () _ (e3.trans e4))
        · exact iteF (key () _ (Same.refl F2))
      · rintro ⟨⟩ F3 e3
        have s3 := s2.trans e3
        refine ⟨sz5 (by show 0 ≤ 100000; decide), fun pk fpk => ?_⟩
        generalize eF4 : upd F3 pk _ = F4
        have e4 : Same F3 F4 := eF4 ▸ Same.new fpk
        have hpk : F4 pk = some _ := eF4 ▸ upd_same
        have s4 := s3.trans e4
        have fpk' : H pk = none := s3.free fpk
        let PK : Nat → Bool → Prop := fun i b => (i = 0 → ∃ M, Lnk n1 n t1 t k k' o1 o th bk M ∧ (b = true ↔ Kp (n1 + n) M (join n1 w1 wt))) ∧ (i = 1 → ∃ M, Lnk n2 n t2 t k k' o2 o th bk M ∧ (b = true ↔ Kp (n2 + n) M (join n2 w2 wt)))
        have data : ∀ i, i < 2 → ∃ (nj : Nat) (tj : Mx) (wj : Nat → Int) (oj : Nat → Nat) (rj : Option Mx) (vj gj : V), [V.ref pf, vs_][i]? = some vj ∧ PartT K H vj nj k tj wj oj ∧ VP nj k tj wj oj ∧ nj ≤ 301 ∧ [g1, g2][i]? = some gj ∧ IsOG K H gj k rj ∧ GainsRes nj tj wj k oj rj ∧
            ∀ (b : Bool) M, Lnk nj n tj t k k' oj o th bk M → (b = true ↔ Kp (nj + n) M (join nj wj wt)) → PK i b := fun i hi => by
          match i, hi with
          | 0, _ => exact ⟨n1, t1, w1, o1, r1, _, g1, rfl, p1, vp1, hn1, rfl, hg1, gr1, fun b M L e => ⟨fun _ => ⟨M, L, e⟩, fun z => by cases z⟩⟩
          | 1, _ => exact ⟨n2, t2, w2, o2, r2, _, g2, rfl, p2, vp2, hn2, rfl, hg2, gr2, fun b M L e => ⟨(fun z => by cases z), fun _ => ⟨M, L, e⟩⟩⟩
        refine ⟨(2 : Int), rfl, by decide, by decide, for_it walk_rng (fun i σ' H' => ∃ (x11 x17 x18 x19 : Option V) (bs : List Bool) (fits : Bool), σ' = [some (.ref pf), some vs_, some (.ref ga), some (.ref a), some (.int (n : Int)), some (.int (k : Int)), some (.ref ln), x7, some (.bl fits), some vo, some (.ref pk), x11, some (.ref a1), some (.ref wa), some (.ref oa), some (.ref a4), some (.ref a5), x17, x18, x19, x20, x21] ∧
            Same F3 H' ∧ H' pk = some (.lst (bs.map V.bl)) ∧ bs.length = i ∧ ∀ j b, bs[j]? = some b → PK j b)
          ⟨none, none, none, none, [], _, rfl, e4, hpk, rfl, fun j b z => by simp at z⟩ (fun _ _ _ _ _ => trivial) ?_ ?_⟩
        · rintro i x σ' F5 F5' hi ⟨x11, x17, x18, x19, bs, fits, rfl, e5, hbs, hbl, hPK⟩ ⟨rfl, rfl⟩
          have hi : i < 2 := hi
          obtain ⟨nj, tj, wj, oj, rj, vj, gj, hvj, pj, vpj, hnj, hgj, hogj, grj, mk⟩ := data i hi
          have s5 := s3.trans e5
          obtain ⟨pp, tvj, wja, oja, rfl, hP, hTj, hWj, hOj⟩ := pj
          refine ⟨_, rfl, _, rfl, two, fun pt fpt => ?_⟩
          generalize eF6 : upd F5' pt _ = F6
          have e6 : Same F5' F6 := eF6 ▸ Same.new fpt
          have hpt : F6 pt = some _ := eF6 ▸ upd_same
          have s6 := s5.trans e6
          have hP6 := s6.sqt hP
          refine ⟨_, rfl, _, _, _, _, rfl, rfl, SqT.of hpt, atI_nat hvj, ?_⟩
          have nj0 := vpj.n0
          refine ⟨_, rfl, _, _, _, _, rfl, rfl, hP6, atI_nat (j := 0) rfl, _, rfl, _, rfl, _, _, _, _, rfl, rfl, hP6, atI_nat (j := 2) rfl, _, rfl, _, rfl, _, rfl, nj, n, k, k', tj, t, th, bk, oj, o, tvj, _, _, _, oja, oa, rfl, hTj.same s6, hT.same s6, s6.tupD hOj, s6.tupD hO, hth.same s6, hbk.same s6, by omega, by omega, vpj.lot, vp.lot, fun M vM F7 e7 hM LM => ?_⟩
          have s7 := s6.trans e7
          have hP7 := s7.sqt hP
          have hbs7 := e7 _ _ (e6 _ _ hbs)
          refine ⟨_, rfl, .inl ⟨rfl, _, SqL.of hbs7⟩, _, rfl, _, rfl, _, _, _, _, rfl, rfl, hP7, atI_nat (j := 1) rfl, _, rfl, _, _, _, _, rfl, rfl, s7.sqt hWj, s7.sqt hW, sz5 (by rw [row_len, row_len]; omega), fun wc F8 e8 hwc => ?_⟩
          rw [row_joinW] at hwc
          have s8 := s7.trans e8
          refine ⟨_, rfl, nj + n, k', M, join nj wj wt, o, vM, wc, oa, rfl, hM.same e8, hwc, s8.tupD hO, ⟨fun i hi => by have := vp.lot.lt i hi; omega, vp.lot.up⟩, by omega, by omega, fun rM vR F9 e9 hgM grM => ?_⟩
          have s9 := s8.trans e9
          have hbs9 := e9 _ _ (e8 _ _ hbs7)
          refine ⟨rfl, pk, _, _, rfl, rfl, hbs9, sz5l (by rw [List.length_map]; omega), ?_⟩
          rw [og_some hgM]
          generalize eF10 : upd F9 pk _ = F10
          have hbs10 : F10 pk = some (.lst ((bs ++ [rM.isSome]).map V.bl)) := by rw [← eF10, upd_same, List.map_append]; rfl
          have s10 : Same H F10 := eF10 ▸ s9.mut fpk'
          have s310 : Same F3 F10 := eF10 ▸ ((((e5.trans e6).trans e7).trans e8).trans e9).mut fpk
          have hPKi : PK i rM.isSome := mk _ M LM grM.some_iff
          have atk : (bs ++ [rM.isSome])[i]? = some rM.isSome := by rw [← hbl, List.getElem?_append_right (Nat.le_refl _), Nat.sub_self]; rfl
          have atv : ((bs ++ [rM.isSome]).map V.bl)[i]? = some (V.bl rM.isSome) := by rw [List.getElem?_map, atk]; rfl
          have fin : ∀ (y19 : Option V) (H' : Hp), Same F10 H' → ∃ (x11' x17' x18' x19' : Option V) (bs' : List Bool) (fits' : Bool), [some (V.ref pf), some vs_, some (.ref ga), some (.ref a), some (.int (n : Int)), some (.int (k : Int)), some (.ref ln), x7, some (.bl fits), some vo, some (.ref pk), some (.int (i : Nat)), some (.ref a1), some (.ref wa), some (.ref oa), some (.ref a4), some (.ref a5), some (.ref pp), some vM, y19, x20, x21] =
              [some (V.ref pf), some vs_, some (.ref ga), some (.ref a), some (.int (n : Int)), some (.int (k : Int)), some (.ref ln), x7, some (.bl fits'), some vo, some (.ref pk), x11', some (.ref a1), some (.ref wa), some (.ref oa), some (.ref a4), some (.ref a5), x17', x18', x19', x20, x21] ∧
              Same F3 H' ∧ H' pk = some (.lst (bs'.map V.bl)) ∧ bs'.length = i + 1 ∧ ∀ j b, bs'[j]? = some b → PK j b := fun y19 H' e => by
            refine ⟨_, _, _, y19, bs ++ [rM.isSome], fits, rfl, s310.trans e, e _ _ hbs10, by rw [List.length_append, List.length_singleton, hbl], fun j b hj => ?_⟩
            by_cases hji : j < bs.length
            · rw [List.getElem?_append_left hji] at hj
              exact hPK j b hj
            · have : j = i := by
                have := (List.getElem?_eq_some_iff.mp hj).1
                rw [List.length_append, List.length_singleton] at this
                omega
              subst this
              rw [atk] at hj
              cases Option.some.inj hj
              exact hPKi
          refine ⟨_, rfl, _, rfl, iteB (fun _ => ?_) (fun _ => ?_)⟩
          · have hP10 := s10.sqt hP
            refine ⟨_, rfl, _, _, _, _, rfl, rfl, hP10, atI_nat (j := 0) rfl, _, rfl, _, rfl, _, _, _, _, rfl, rfl, hP10, atI_nat (j := 2) rfl, _, rfl, _, rfl, _, rfl, nj, n, k, k', tj, t, th, bk, oj, o, tvj, _, _, _, oja, oa, rfl, hTj.same s10, hT.same s10, (s10.tupD hOj).sq, (s10.tupD hO).sq, hth.same s10, hbk.same s10, ⟨nj0, by omega⟩, ⟨n0, by omega⟩, vp.t0, vpj.lot, vp.lot, ⟨kk, by omega⟩, ⟨k0, by omega⟩, nth, nbk, fun M2 vM2 F11 e11 hM2 LM2 => ?_⟩
            have s11 := s10.trans e11
            refine ⟨_, rfl, _, rfl, _, _, _, _, rfl, rfl, s11.sqt hP, atI_nat (j := 1) rfl, _, rfl, _, _, _, _, rfl, rfl, s11.sqt hWj, s11.sqt hW, sz5 (by rw [row_len, row_len]; omega), fun wc2 F12 e12 hwc2 => ?_⟩
            rw [row_joinW] at hwc2
            have wpos : ∀ x, x < nj + n → 0 ≤ join nj wj wt x := (vpj.join vp (by omega) (by omega) LM2).w0
            refine ⟨nj + n, M2, join nj wj wt, vM2, wc2, rfl, hM2.same e12, hwc2, by omega, by omega, wpos, fun b2 F13 e13 hb2 => ?_⟩
            have hbs13 := e13 _ _ (e12 _ _ (e11 _ _ hbs10))
            refine ⟨_, rfl, _, rfl, _, _, _, _, rfl, rfl, SqL.of hbs13, atI_nat atv, same_bl ⟨_, rfl, ?_⟩⟩
            have eb : (b2 == rM.isSome) = true := by
              have h1 : b2 = true ↔ rM.isSome = true := by
                rw [hb2, grM.some_iff]
                exact Kp.congr fun x y hx hy => LM2.uniq LM hx hy
              cases b2 <;> cases h2 : rM.isSome <;> simp [h2] at h1 ⊢
            rw [eb]
            refine iteF ?_
            have s13 := (s11.trans e12).trans e13
            refine ⟨_, rfl, _, rfl, _, _, _, _, rfl, rfl, s13.sqt hga, atI_nat hgj, _, rfl, _, rfl, _, rfl, k, k', rj, ro, th, bk, gj, vo, _, _, rfl, hogj.same s13, hgo.same ((e3.trans s310).trans ((e11.trans e12).trans e13)), hth.same s13, hbk.same s13, ⟨kk, by omega⟩, ⟨k0, by omega⟩, nth, nbk, fun r4 v4' F14 e14 hg4 lr => ?_⟩
            have g4 := linked_gains_ok LM vpj.lot.lt vp.lot.lt grj gro lr
            have e4i : r4.isSome = rM.isSome := by
              have h1 : r4.isSome = true ↔ rM.isSome = true := by rw [g4.some_iff, grM.some_iff]
              cases h2 : r4.isSome <;> cases h3 : rM.isSome <;> simp [h2, h3] at h1 ⊢
            refine ⟨rfl, _, rfl, _, rfl, _, _, _, _, rfl, rfl, SqL.of (e14 _ _ hbs13), atI_nat atv, rfl, _, rfl, ?_⟩
            have h5 := og_some hg4
            rw [e4i] at h5
            refine iteDF (fun z => ?_) (fin _ _ (((e11.trans e12).trans e13).trans e14))
            have z2 := V.bl.inj z
            rw [← h5] at z2
            cases hd : decide (v4' = V.non) <;> rw [hd] at z2 <;> cases z2
          · exact fin x19 _ (Same.refl F10)
        · rintro σ' F5 ⟨x11, x17, x18, x19, bs, fits, rfl, e5, hbs, hbl, hPK⟩
          have hbl : bs.length = 2 := hbl
          match bs, hbl with
          | [b0, b1], _ =>
            refine ⟨_, rfl, _, _, _, _, rfl, rfl, SqL.of hbs, atI_nat (j := 0) rfl, _, rfl, _, _, _, _, rfl, rfl, SqL.of hbs, atI_nat (j := 1) rfl, rfl, ?_⟩
            obtain ⟨M1, L1, k1⟩ := (hPK 0 b0 rfl).1 rfl
            obtain ⟨M2, L2, k2⟩ := (hPK 1 b1 rfl).2 rfl
            have tt := tells n1 n2 t1 t2 w1 w2 o1 o2 M1 M2 gr1 gr2 vp1.lot.lt vp2.lot.lt L1 L2
            have hne : b0 ≠ b1 := fun z => by
              subst z
              rw [← k1, ← k2] at tt
              cases b0 <;> simp at tt
            show Q (.bl (!decide (V.bl b0 = V.bl b1))) F5
            rw [decide_eq_false (fun z => hne (V.bl.inj z))]
            exact q _ (s3.trans e5)
end
end K60

namespace K60
open PySem L2
open C8 (Cal Def Met Mak cal0 met0 mak0 pe_c pe_mk pe_mt pe_mt0 pe_gc InsC call_isC fnScope fnBody fnArgs clsBody fnScope_by)

theorem EqOG.trans {k : Nat} : ∀ {a b c : Option Mx}, EqOG k a b → EqOG k b c → EqOG k a c
  | none, none, none, _, _ => trivial
  | some _, some _, some _, h, h' => fun i j hi hj => (h i j hi hj).trans (h' i j hi hj)
  | none, some _, _, h, _ => h.elim
  | some _, none, _, h, _ => h.elim
  | none, none, some _, _, h => h.elim
  | some _, some _, none, _, h => h.elim
theorem EqOG.isSome {k : Nat} : ∀ {a b : Option Mx}, EqOG k a b → a.isSome = b.isSome
  | none, none, _ => rfl
  | some _, some _, _ => rfl
  | none, some _, h => h.elim
  | some _, none, h => h.elim
theorem wk_congr {n : Nat} {t t' : Mx} {w : Nat → Int} (e : ∀ x y, x < n → y < n → t x y = t' x y) {x y : Nat} {v : Int} (a : Wk n (stp t w) x y v) : Wk n (stp t' w) x y v := by
  induction a with
  | nil h => exact .nil h
  | @cons x y z g w' v hx es r q ih =>
    refine .cons hx ?_ ih q
    obtain ⟨ne, et⟩ := stp_some es
    rw [e x y hx r.left] at et
    rw [stp_of ne et]
    congr 1
    omega
theorem GainsRes.congrT {n k : Nat} {t t' : Mx} {w : Nat → Int} {o : Nat → Nat} {r : Option Mx} (g : GainsRes n t w k o r) (e : ∀ x y, x < n → y < n → t x y = t' x y) : GainsRes n t' w k o r := by
  have e' : ∀ x y, x < n → y < n → t' x y = t x y := fun x y hx hy => (e x y hx hy).symm
  cases r with
  | none => exact fun k => g ((Kp.congr e).mpr k)
  | some G =>
    refine ⟨(Kp.congr e).mp g.1, fun i j hi hj => ?_⟩
    have b := g.2 i j hi hj
    unfold Gain at b ⊢
    cases h : (G i j).map (· + w (o j)) with
    | none =>
      rw [h] at b
      exact fun v a => b v (wk_congr e' a)
    | some z =>
      rw [h] at b
      exact ⟨wk_congr e b.1, fun v a => b.2 v (wk_congr e' a)⟩
theorem mk_part {K : PySem.W.Frag} {C : Addr} {H : Hp} {Q : Addr → Hp → Prop} {E : XK} {n k : Nat} {t : Mx} {w : Nat → Int} {o : Nat → Nat} {v : V} {wa oa : Addr} (hT : IsTab K H v n n t) (hW : SqT K H wa (row n (whole w))) (hO : SqT K H oa (row k (wholeN o))) (vp : VP n k t w o)
    (q : ∀ x r H', Same H H' → PartAt K C H' x n k t w o r → GainsRes n t w k o r → Q x H') : ∀ x dx, H x = none → H dx = none → dx ≠ x → spInit K C (.ref x :: ([v, .ref wa, .ref oa] ++ [])) (upd (upd H dx (.own x)) x (.ins C dx [])) (fun v H2 => v = .non ∧ Q x H2) E := by
  intro x dx hx hdx hne
  have s5 := (Same.new hdx (o := .own x))
  have s6 : Same H (upd (upd H dx (.own x)) x (.ins C dx [])) := s5.trans (Same.new (by rw [upd_ne hne.symm]; exact hx))
  exact ⟨x, dx, n, k, t, w, o, v, wa, oa, rfl, upd_same, hT.same s6, s6.sqt hW, s6.sqt hO, vp, fun r H3 keep part gr => ⟨rfl, q x r H3 (fun b u e => keep b u (ne_of_none e hx) (s6 b u e)) part gr⟩⟩
def spWholes (K : PySem.W.Frag) : Sp := fun vs H Q _ => ∃ (d : Addr) (n1 n2 k : Nat) (t1 t2 : Mx) (w1 w2 : Nat → Int) (o1 o2 : Nat → Nat) (r1 r2 : Option Mx) (vf vs_ g1 g2 : V) (ga : Addr) (u : Int), vs = [.ref d, vf, vs_, .ref ga, .int u] ∧ Dg d H ∧ PartT K H vf n1 k t1 w1 o1 ∧ PartT K H vs_ n2 k t2 w2 o2 ∧ VP n1 k t1 w1 o1 ∧ VP n2 k t2 w2 o2 ∧ n1 ≤ 301 ∧ n2 ≤ 301 ∧ k ≤ 299 ∧ 0 ≤ u ∧
  SqT K H ga [g1, g2] ∧ IsOG K H g1 k r1 ∧ IsOG K H g2 k r2 ∧ GainsRes n1 t1 w1 k o1 r1 ∧ GainsRes n2 t2 w2 k o2 r2 ∧ ∀ (b : Bool) (H' : Hp), Rg d H H' → (EqOG k r1 r2 → b = true) → Q (.bl b) H'

/- _law_wholes: slots 0 _law_digits_here 1 _law_first 2 _law_second_here 3 _law_gains_here 4 _law_unit 5 _law_size 6 _law_far 7 _law_there 8 _law_back 9 _law_own 10 _law_told 11 _law_k 12 _law_table 13 _law_waits 14 _law_part_here 15 _law_whole 16 _law_every 17 _law_outer 18 _law_due 19 _law_linked_here 20 _law_thing 21 _law_x; cells ['_law_part_here'] -/
abbrev s__law_wholes : Stmt := top 57
theorem sc__law_wholes : FnScope ["_law_digits_here", "_law_first", "_law_second_here", "_law_gains_here", "_law_unit", "_law_size", "_law_far", "_law_there", "_law_back", "_law_own", "_law_told", "_law_k", "_law_table", "_law_waits", "_law_part_here", "_law_whole", "_law_every", "_law_outer", "_law_due", "_law_linked_here", "_law_thing", "_law_x"] ["_law_digits_here", "_law_first", "_law_second_here", "_law_gains_here", "_law_unit"] (fnScope s__law_wholes) := fnScope_by (by decide +kernel)
section
variable {P : Program} {w : World} {K : PySem.W.Frag} {mg : Str → Option Value} {base : Heap} {C : Addr}
theorem ok_law_wholes (T : Txt mg) (D : Dx K mg "_law_wholes" s__law_wholes ["_law_digits_here", "_law_first", "_law_second_here", "_law_gains_here", "_law_unit"]) (c__law_take : Cal P w K mg base 1 "_law_take" spTake []) (c__law_part : Cal P w K mg base 4 "_law_part" (spPart K) []) (c__law_lot : Cal P w K mg base 2 "_law_lot" (spLotL K) [])
    (c__law_duties : Cal P w K mg base 3 "_law_duties" (spDuties K) []) (c__law_gains : Cal P w K mg base 1 "_law_gains" (spGainsL K) []) (c__law_same : Cal P w K mg base 4 "_law_same" (spS3 K) []) (c_gains_of : Cal P w K mg base 4 "gains_of" (spGainsOf K) []) (c__law_linked : Cal P w K mg base 1 "_law_linked" (spLinkedL K) [])
    (c_linked_tables : Cal P w K mg base 5 "linked_tables" (spLinkedTables K) []) (c_is_kept : Cal P w K mg base 5 "is_kept" (spKept K) []) (c_linked_gains : Cal P w K mg base 5 "linked_gains" (spLinkedGains K) []) (c_Part : Mak P w K mg base 5 "Part" C (spInit K C) [])
    (c_linked : Met P w K mg base 7 C "linked" (spPLinked K C) []) (c_gains : Met P w K mg base 1 C "gains" (spPGains K C) []) (c_kept : Met P w K mg base 1 C "kept" (spPKept K C) []) : Cal P w K mg base 8 "_law_wholes" (spWholes K) [] := by
  refine cal D sc__law_wholes (fun vs H Q E h => ?_) (fun f cdv A outer s H vs Q E hr h => ?_)
  · obtain ⟨d, n1, n2, k, t1, t2, w1, w2, o1, o2, r1, r2, vf, vs_, g1, g2, ga, u, rfl, _⟩ := h
    rfl
  · obtain ⟨d, n1, n2, k, t1, t2, w1, w2, o1, o2, r1, r2, vf, vs_, g1, g2, ga, u, rfl, hd, p1, p2, vp1, vp2, hn1, hn2, hk, hu, hga, hg1, hg2, gr1, gr2, q⟩ := h
    have nd := sc__law_wholes.nd
    refine ⟨_, (pss_cons (ps_set (i := 5) nd rfl (Or.inl rfl) (pe_op op_add pe_int (pe_c c__law_take hr (by decide) (by rfl) (pa_cons (pv 0) (pa_cons pe_int pa_nil)))))
      (pss_cons (ps_asg (pe_c c__law_part hr (by decide) (by rfl) (pa_cons (pv 0) (pa_cons (pv 5) (pa_cons (pv 4) pa_nil)))) (pg_tup rfl (pgs_cons (pg_name (i := 12) nd rfl (Or.inl rfl)) (pgs_cons (pg_name (i := 13) nd rfl (Or.inl rfl)) pgs_nil))))
      (pss_cons (ps_set (i := 6) nd rfl (Or.inl rfl) (pe_c c__law_lot hr (by decide) (by rfl) (pa_cons (pv 0) (pa_cons (pv 5) pa_nil))))
      (pss_cons (ps_set (i := 7) nd rfl (Or.inl rfl) (pe_c c__law_duties hr (by decide) (by rfl) (pa_cons (pv 0) (pa_cons (pe_callB (lenK K) (by rfl) T.len boot_len (pa_cons (pe_ix (ixT K) (pv 1) pe_int (fun _ _ => rfl)) pa_nil)) (pa_cons (pe_callB (lenK K) (by rfl) T.len boot_len (pa_cons (pv 6) pa_nil)) (pa_cons (pv 4) pa_nil))))))
      (pss_cons (ps_set (i := 8) nd rfl (Or.inl rfl) (pe_c c__law_duties hr (by decide) (by rfl) (pa_cons (pv 0) (pa_cons (pe_callB (lenK K) (by rfl) T.len boot_len (pa_cons (pv 6) pa_nil)) (pa_cons (pe_callB (lenK K) (by rfl) T.len boot_len (pa_cons (pe_ix (ixT K) (pv 1) pe_int (fun _ _ => rfl)) pa_nil)) (pa_cons (pv 4) pa_nil))))))
      (pss_cons (ps_set (i := 9) nd rfl (Or.inl rfl) (pe_c c_gains_of hr (by decide) (by rfl) (pa_cons (pv 12) (pa_cons (pv 13) (pa_cons (pv 6) pa_nil)))))
      (pss_cons (ps_if (pt_not (pt_val (pe_c c__law_same hr (by decide) (by rfl) (pa_cons (pv 9) (pa_cons (pe_c c__law_gains hr (by decide) (by rfl) (pa_cons (pv 12) (pa_cons (pv 13) (pa_cons (pv 6) pa_nil)))) pa_nil))))) (pss_one (ps_ret pe_non)) pss_nil)
      (pss_cons (ps_set (i := 10) nd rfl (Or.inl rfl) (pe_lst pa_nil))
      (pss_cons (ps_for PassesOwn.never rfl (pi_range1 (by rfl) T.range (pa_cons pe_int pa_nil)) (pg_name (i := 11) nd rfl (Or.inl rfl))
        (pss_cons (ps_set (i := 14) nd rfl (Or.inr rfl) (pe_ix (ixT K) (pe_tup (pa_cons (pv 1) (pa_cons (pv 2) pa_nil))) (pv 11) (fun _ _ => rfl)))
        (pss_cons (ps_set (i := 15) nd rfl (Or.inl rfl) (pe_c c__law_linked hr (by decide) (by rfl) (pa_cons (pe_ix (ixT K) (pv 14) pe_int (fun _ _ => rfl)) (pa_cons (pv 12) (pa_cons (pe_ix (ixT K) (pv 14) pe_int (fun _ _ => rfl)) (pa_cons (pv 6) (pa_cons (pv 7) (pa_cons (pv 8) pa_nil))))))))
        (pss_cons (ps_set (i := 16) nd rfl (Or.inl rfl) (pe_op (catZK K) (pe_ix (ixT K) (pv 14) pe_int (fun _ _ => rfl)) (pv 13)))
        (pss_cons (ps_set (i := 17) nd rfl (Or.inl rfl) (pe_op (catDK K) (pe_ix (ixT K) (pv 14) pe_int (fun _ _ => rfl)) (pe_callTy (tupDK K) (by rfl) T.tuple boot_tuple (pa_cons (pe_lc (own := [("_law_x", 21)]) (g := gName 21) (tt := tYes) rfl nd (piT K rfl (pv 6)) (blkOk_by (N := ["_law_digits_here", "_law_first", "_law_second_here", "_law_gains_here", "_law_unit", "_law_size", "_law_far", "_law_there", "_law_back", "_law_own", "_law_told", "_law_k", "_law_table", "_law_waits", "_law_part_here", "_law_whole", "_law_every", "_law_outer", "_law_due", "_law_linked_here", "_law_thing", "_law_x"]) (sc := fnScope s__law_wholes) (by decide +kernel)) (fun _ _ _ _ _ => (pg_name (i := 21) nd rfl (Or.inl rfl))) (fun _ _ _ _ _ => pts_nil) (fun _ _ _ _ _ => (pe_op op_add (pe_callB (lenK K) (by rfl) T.len boot_len (pa_cons (pe_ix (ixT K) (pv 14) pe_int (fun _ _ => rfl)) pa_nil)) (pv 21)))) pa_nil))))
        (pss_cons (ps_set (i := 18) nd rfl (Or.inl rfl) (pe_c c__law_gains hr (by decide) (by rfl) (pa_cons (pv 15) (pa_cons (pv 16) (pa_cons (pv 17) pa_nil)))))
        (pss_cons (ps_if (pt_not (pt_val (pe_c c__law_same hr (by decide) (by rfl) (pa_cons (pe_c c_linked_gains hr (by decide) (by rfl) (pa_cons (pe_ix (ixT K) (pv 3) (pv 11) (fun _ _ => rfl)) (pa_cons (pv 9) (pa_cons (pv 7) (pa_cons (pv 8) pa_nil))))) (pa_cons (pv 18) pa_nil))))) (pss_one (ps_ret pe_non)) pss_nil)
        (pss_cons (ps_set (i := 19) nd rfl (Or.inl rfl) (pe_c c_linked_tables hr (by decide) (by rfl) (pa_cons (pe_ix (ixT K) (pv 14) pe_int (fun _ _ => rfl)) (pa_cons (pv 12) (pa_cons (pe_ix (ixT K) (pv 14) pe_int (fun _ _ => rfl)) (pa_cons (pv 6) (pa_cons (pv 7) (pa_cons (pv 8) pa_nil))))))))
        (pss_cons (ps_if (PW.pt (pw_or (pt_not (pt_val (pe_c c__law_same hr (by decide) (by rfl) (pa_cons (pv 19) (pa_cons (pv 15) pa_nil))))) (pw_or1 (pt_not (pt_val (pe_c c__law_same hr (by decide) (by rfl) (pa_cons (pe_c c_is_kept hr (by decide) (by rfl) (pa_cons (pv 19) (pa_cons (pv 16) pa_nil))) (pa_cons (pe_cmpR op_notN (pv 18) pe_non (nomark _)) pa_nil)))))))) (pss_one (ps_ret pe_non)) pss_nil)
        (pss_cons (ps_set (i := 20) nd rfl (Or.inl rfl) (pe_mt c_linked hr (by decide) (pe_mk c_Part hr (by decide) (by rfl) (pa_cons (pe_ix (ixT K) (pv 14) pe_int (fun _ _ => rfl)) (pa_cons (pe_ix (ixT K) (pv 14) pe_int (fun _ _ => rfl)) (pa_cons (pe_ix (ixT K) (pv 14) pe_int (fun _ _ => rfl)) pa_nil)))) (pa_cons (pe_mk c_Part hr (by decide) (by rfl) (pa_cons (pv 12) (pa_cons (pv 13) (pa_cons (pv 6) pa_nil)))) (pa_cons (pv 7) (pa_cons (pv 8) pa_nil)))))
        (pss_cons (ps_if (PW.pt (pw_or (pt_not (pt_val (pe_c c__law_same hr (by decide) (by rfl) (pa_cons (pe_mt0 c_gains hr (by decide) (pv 20)) (pa_cons (pv 18) pa_nil))))) (pw_or1 (pt_not (pt_val (pe_c c__law_same hr (by decide) (by rfl) (pa_cons (pe_mt0 c_kept hr (by decide) (pv 20)) (pa_cons (pe_cmpR op_notN (pv 18) pe_non (nomark _)) pa_nil)))))))) (pss_one (ps_ret pe_non)) pss_nil)
        (pss_one (ps_expr (pe_bm PySem.F.plainAttrs_list PySem.F.slot_list_append PySem.F.type_list_append mt_append (pv 10) (pa_cons (pv 18) pa_nil)))))))))))))))
      (pss_one (ps_ret (pe_c c__law_same hr (by decide) (by rfl) (pa_cons (pe_ix (ixL K) (pv 10) pe_int (fun _ _ => rfl)) (pa_cons (pe_ix (ixL K) (pv 10) pe_int (fun _ _ => rfl)) pa_nil)))))))))))))), ?_⟩
    have two : 2 ≤ sizeLine := sz5 (show 2 ≤ 100000 by decide)
    have kk := vp1.k0
    obtain ⟨pf, tf, wf, of, rfl, hPf, hTf, hWf, hOf⟩ := id p1
    -- the other part, its links
    refine ⟨_, rfl, d, 3, rfl, hd, by decide, fun c H1 hc e1 => ⟨_, _, rfl, rfl, ?_⟩⟩
    refine ⟨_, rfl, _, rfl, _, rfl, d, 1 + c, u, rfl, e1.dg, by omega, hu, fun pa wa tv t wt H2 e2 hpa hT hW ht0 hw0 => ?_⟩
    refine ⟨_, _, rfl, hpa, rfl, _, _, rfl, _, _, rfl, rfl, ?_⟩
    refine ⟨_, rfl, _, rfl, d, 1 + c, rfl, e2.dg, by omega, by omega, fun vo k' o H3 e3 ⟨oa, eo, hO⟩ L k0 hk' => ?_⟩
    subst eo
    have r3 := (e1.trans e2).trans e3
    refine ⟨_, rfl, _, rfl, _, _, _, _, rfl, rfl, r3.rl.sqt hPf, atI_nat (j := 2) rfl, _, _, rfl, .inr (r3.rl.tupD hOf).sq, ?_⟩
    rw [row_len]
    refine ⟨_, rfl, _, _, rfl, .inr hO.sq, ?_⟩
    rw [row_len]
    refine ⟨_, rfl, d, k, k', u, rfl, e3.dg, by omega, by omega, hu, fun v4 th H4 e4 hth nth => ?_⟩
    have r4 := r3.trans e4
    refine ⟨_, rfl, _, rfl, _, _, rfl, .inr (e4.rl.tupD hO).sq, ?_⟩
    rw [row_len]
    refine ⟨_, rfl, _, _, _, _, rfl, rfl, r4.rl.sqt hPf, atI_nat (j := 2) rfl, _, _, rfl, .inr (r4.rl.tupD hOf).sq, ?_⟩
    rw [row_len]
    refine ⟨_, rfl, d, k', k, u, rfl, e4.dg, by omega, by omega, hu, fun v5 bk H5 e5 hbk nbk => ?_⟩
    have r5 := r4.trans e5
    have e35 := e4.trans e5
    have e25 := e3.trans e35
    have hT5 := hT.rl e25.rl
    have hW5 := e25.rl.sqt hW
    have hO5 := e35.rl.tupD hO
    have hth5 := hth.rl e5.rl
    obtain ⟨n, en⟩ : ∃ n, n = 1 + c := ⟨_, rfl⟩
    rw [← en] at hT5 hW5 L hk' ht0 hw0
    have vp : VP n k' t wt o := ⟨by omega, by omega, ht0, hw0, L, k0, by omega⟩
    have n0 : 0 < n := by omega
    refine ⟨_, rfl, _, rfl, _, rfl, n, k', t, wt, o, tv, wa, oa, rfl, hT5, hW5, hO5.sq, n0, by omega, hw0, L, k0, by omega, fun ro vo H6 e6 hgo gro => ?_⟩
    refine ⟨_, rfl, _, rfl, _, rfl, _, rfl, n, k', t, wt, o, tv, wa, oa, rfl, hT5.same e6, e6.sqt hW5, e6.tupD hO5, L, by omega, by omega, fun r7 v7 H7 e7 hg7 gr7 => same_og (hgo.same e7) hg7 (by omega) fun c8 H8 e8 hc8 => ⟨_, rfl, ?_⟩⟩
    have hct : c8 = true := hc8.mpr (gro.uniq gr7)
    rw [hct]
    refine iteF ⟨sz5 (by show 0 ≤ 100000; decide), fun pk fpk => ?_⟩
    generalize eH9 : upd H8 pk _ = H9
    have e9 : Same H8 H9 := eH9 ▸ Same.new fpk
    have hpk : H9 pk = some _ := eH9 ▸ upd_same
    have s58 : Same H5 H8 := (e6.trans e7).trans e8
    have r8 := r5.more s58
    have fpk' : H5 pk = none := s58.free fpk
    have hT8 := hT5.same s58
    have hW8 := s58.sqt hW5
    have hO8 := s58.tupD hO5
    have hth8 := hth5.same s58
    have hbk8 := hbk.same s58
    have hgo8 := (hgo.same e7).same e8
    have hga8 := r8.rl.sqt hga
    let PD : Nat → Option Mx → Prop := fun i r => (i = 0 → ∃ r', LinkRes k k' r1 ro th bk r' ∧ EqOG (k + k') r' r) ∧ (i = 1 → ∃ M, Lnk n2 n t2 t k k' o2 o th bk M ∧ GainsRes (n2 + n) M (join n2 w2 wt) (k + k') (joinO n2 k o2 o) r)
    have data : ∀ i, i < 2 → ∃ (nj : Nat) (tj : Mx) (wj : Nat → Int) (oj : Nat → Nat) (rj : Option Mx) (vj gj : V), [V.ref pf, vs_][i]? = some vj ∧ PartT K H8 vj nj k tj wj oj ∧ VP nj k tj wj oj ∧ nj ≤ 301 ∧ [g1, g2][i]? = some gj ∧ IsOG K H8 gj k rj ∧ GainsRes nj tj wj k oj rj ∧
        ∀ (M : Mx) (r r' : Option Mx), Lnk nj n tj t k k' oj o th bk M → GainsRes (nj + n) M (join nj wj wt) (k + k') (joinO nj k oj o) r → LinkRes k k' rj ro th bk r' → EqOG (k + k') r' r → PD i r := fun i hi => by
      match i, hi with
      | 0, _ => exact ⟨n1, t1, w1, o1, r1, _, g1, rfl, p1.rl r8.rl, vp1, hn1, rfl, hg1.rl r8.rl, gr1, fun M r r' LM g l e => ⟨fun _ => ⟨r', l, e⟩, fun z => by cases z⟩⟩
      | 1, _ => exact ⟨n2, t2, w2, o2, r2, _, g2, rfl, p2.rl r8.rl, vp2, hn2, rfl, hg2.rl r8.rl, gr2, fun M r r' LM g l e => ⟨(fun z => by cases z), fun _ => ⟨M, LM, g⟩⟩⟩
    refine ⟨(2 : Int), rfl, by decide, by decide, for_it walk_rng (fun i σ' H' => ∃ (x11 x14 x15 x16 x17 x18 x19 x20 x21 : Option V) (vl : List V), σ' = [some (.ref d), some (.ref pf), some vs_, some (.ref ga), some (.int u), some (.int (1 + (c : Int))), some (.ref oa), some v4, some v5, some vo, some (.ref pk), x11, some tv, some (.ref wa), x14, x15, x16, x17, x18, x19, x20, x21] ∧
        Same H8 H' ∧ H' pk = some (.lst vl) ∧ vl.length = i ∧ ∀ j v, vl[j]? = some v → ∃ r, IsOG K H' v (k + k') r ∧ PD j r)
      ⟨none, none, none, none, none, none, none, none, none, [], rfl, e9, hpk, rfl, fun j v z => by simp at z⟩ (fun _ _ _ _ _ => trivial) ?_ ?_⟩
    · rintro i x σ' F1 F1' hi ⟨x11, x14, x15, x16, x17, x18, x19, x20, x21, vl, rfl, f1, hvl, hll, hPD⟩ ⟨rfl, rfl⟩
      have hi : i < 2 := hi
      obtain ⟨nj, tj, wj, oj, rj, vj, gj, hvj, ⟨pp, tvj, wja, oja, rfl, hP, hTj, hWj, hOj⟩, vpj, hnj, hgj, hogj, grj, mk⟩ := data i hi
      have nj0 := vpj.n0
      refine ⟨_, rfl, _, rfl, two, fun pt fpt => ?_⟩
      generalize eF2 : upd F1' pt _ = F2
      have f2 : Same F1' F2 := eF2 ▸ Same.new fpt
      have hpt : F2 pt = some _ := eF2 ▸ upd_same
      have s2 := f1.trans f2
      have hP2 := s2.sqt hP
      refine ⟨_, rfl, _, _, _, _, rfl, rfl, SqT.of hpt, atI_nat hvj, ?_⟩
      refine ⟨_, rfl, _, _, _, _, rfl, rfl, hP2, atI_nat (j := 0) rfl, _, rfl, _, rfl, _, _, _, _, rfl, rfl, hP2, atI_nat (j := 2) rfl, _, rfl, _, rfl, _, rfl, nj, n, k, k', tj, t, th, bk, oj, o, tvj, _, _, _, oja, oa, rfl, hTj.same s2, hT8.same s2, s2.tupD hOj, s2.tupD hO8, hth8.same s2, hbk8.same s2, by omega, by omega, vpj.lot, L, fun M vM F3 f3 hM LM => ?_⟩
      have s3 := s2.trans f3
      refine ⟨_, rfl, _, _, _, _, rfl, rfl, s3.sqt hP, atI_nat (j := 1) rfl, _, rfl, _, _, _, _, rfl, rfl, s3.sqt hWj, s3.sqt hW8, sz5 (by rw [row_len, row_len]; omega), fun wc F4 f4 hwc => ?_⟩
      rw [row_joinW] at hwc
      have s4 := s3.trans f4
      have hO4 := s4.tupD hO8
      refine ⟨_, rfl, _, _, _, _, rfl, rfl, s4.sqt hP, atI_nat (j := 2) rfl, _, rfl, oa, rfl, ⟨_, hO4.sq⟩, lcRow No (wholeN fun j => nj + o j) walk_tup (by rw [row_len]; omega) no_lg (fun H' e => (e.same.tupD hO4).sq) YAt.same ?_ ?_⟩
      · rintro j x G1 G1' Ky hj e1 ⟨rfl, hx⟩ ky
        obtain ⟨hj, rfl⟩ := row_isN hx
        obtain ⟨aj, vsj, rfl, hqj, hlj, _⟩ := id hTj
        have z1 := s4.trans e1.same
        refine ⟨rfl, _, rfl, _, _, _, _, rfl, rfl, z1.sqt hP, atI_nat (j := 0) rfl, _, _, rfl, .inr (z1.sqt hqj), ?_⟩
        rw [hlj]
        have := ky _ (.refl no_lg)
        have eadd : ((nj : Int) + ((o j : Nat) : Int)) = ((nj + o j : Nat) : Int) := by omega
        refine ⟨_, rfl, _, _, rfl, rfl, ?_⟩
        show Ky (V.int ((nj : Int) + ((o j : Nat) : Int))) _
        rw [eadd]
        exact this
      intro D5 F5 hD5 f5 hd5
      rw [row_len] at hd5
      refine ⟨D5, _, rfl, SqL.of hd5, fun lD oD hlD hoD1 hoD2 => ?_⟩
      generalize eF6 : upd F5 lD _ = F6
      have f6 : Same F5 F6 := eF6 ▸ Same.new hlD
      have hlD6 : TupD F6 lD (row k' (wholeN fun j => nj + o j)) := ⟨oD, eF6 ▸ upd_same, hoD1, hoD2⟩
      have s6 := (s4.trans f5.same).trans f6
      refine ⟨_, _, _, _, rfl, rfl, (s6.tupD hOj).sq, hlD6.sq, row_ne kk, row_ne k0, sz5 (by rw [row_len, row_len]; omega), fun po oo hpo hoo1 hoo2 => ?_⟩
      rw [row_joinO]
      generalize eF7 : upd F6 po _ = F7
      have f7 : Same F6 F7 := eF7 ▸ Same.new hpo
      have hpo7 : TupD F7 po (row (k + k') (wholeN (joinO nj k oj o))) := ⟨oo, eF7 ▸ upd_same, hoo1, hoo2⟩
      have f47 := (f5.same.trans f6).trans f7
      have s7 := s6.trans f7
      -- the gains due
      refine ⟨_, rfl, _, rfl, _, rfl, nj + n, k + k', M, join nj wj wt, joinO nj k oj o, vM, wc, po, rfl, hM.same (f4.trans f47), f47.sqt hwc, hpo7, vpj.lot.join L, by omega, by omega, fun r vr F8 f8 hgr grr => ?_⟩
      have s8' := s7.trans f8
      refine ⟨_, rfl, _, rfl, _, _, _, _, rfl, rfl, s8'.sqt hga8, atI_nat hgj, _, rfl, _, rfl, _, rfl, k, k', rj, ro, th, bk, gj, vo, _, _, rfl, hogj.same s8', hgo8.same s8', hth8.same s8', hbk8.same s8', ⟨kk, by omega⟩, ⟨k0, by omega⟩, nth, nbk, fun r' vr' F9 f9 hgr' lr => ?_⟩
      have gr' := linked_gains_ok LM vpj.lot.lt L.lt grj gro lr
      have err := gr'.uniq grr
      refine ⟨_, rfl, same_og hgr' (hgr.same f9) (by omega) fun c10 F10 f10 hc10 => ⟨_, rfl, ?_⟩⟩
      rw [hc10.mpr err]
      have s10 := (s8'.trans f9).trans f10
      have hP10 := s10.sqt hP
      have f810 := f9.trans f10
      refine iteF ⟨_, rfl, _, _, _, _, rfl, rfl, hP10, atI_nat (j := 0) rfl, _, rfl, _, rfl, _, _, _, _, rfl, rfl, hP10, atI_nat (j := 2) rfl, _, rfl, _, rfl, _, rfl, nj, n, k, k', tj, t, th, bk, oj, o, tvj, _, _, _, oja, oa, rfl, hTj.same s10, hT8.same s10, (s10.tupD hOj).sq, (s10.tupD hO8).sq, hth8.same s10, hbk8.same s10, ⟨nj0, by omega⟩, ⟨n0, by omega⟩, vp.t0, vpj.lot, L, ⟨kk, by omega⟩, ⟨k0, by omega⟩, nth, nbk, fun M2 vM2 F11 f11 hM2 LM2 => ?_⟩
      have f311 : Same F3 F11 := (f4.trans f47).trans ((f8.trans f810).trans f11)
      refine ⟨_, rfl, _, rfl, same_tab hM2 (hM.same f311) (by omega) (by omega) fun c12 F12 f12 hc12 => ⟨_, rfl, ?_⟩⟩
      rw [hc12.mpr fun x y hx hy => LM2.uniq LM hx hy]
      have f412 : Same F4 F12 := (f47.trans (f8.trans f810)).trans (f11.trans f12)
      have wpos : ∀ x, x < nj + n → 0 ≤ join nj wj wt x := (vpj.join vp (by omega) (by omega) LM2).w0
      have hsr := og_some hgr
      refine iteF ⟨_, rfl, _, rfl, nj + n, M2, join nj wj wt, vM2, wc, rfl, hM2.same f12, f412.sqt hwc, by omega, by omega, wpos, fun b2 F13 f13 hb2 => ⟨_, rfl, rfl, same_bl ⟨_, rfl, ?_⟩⟩⟩
      have eb : (b2 == !decide (vr = V.non)) = true := by
        rw [hsr]
        have h1 : b2 = true ↔ r.isSome = true := by
          rw [hb2, grr.some_iff]
          exact Kp.congr fun x y hx hy => LM2.uniq LM hx hy
        cases b2 <;> cases h2 : r.isSome <;> simp [h2] at h1 ⊢
      rw [eb]
      have s13 := (s10.trans f11).trans (f12.trans f13)
      have hP13 := s13.sqt hP
      refine iteF ⟨_, rfl, _, _, _, _, rfl, rfl, hP13, atI_nat (j := 0) rfl, _, rfl, _, _, _, _, rfl, rfl, hP13, atI_nat (j := 1) rfl, _, rfl, _, _, _, _, rfl, rfl, hP13, atI_nat (j := 2) rfl, mk_part (hTj.same s13) (s13.sqt hWj) (s13.tupD hOj).sq vpj fun x1 rx F14 f14 px gx => ?_⟩
      obtain ⟨dx1, fs1, gv1, tv1, wa1, oa1, hx1, _, ⟨hl1, _, _⟩, _⟩ := id px
      have s14 := s13.trans f14
      refine ⟨x1, dx1, fs1, rfl, hx1, hl1, _, rfl, _, rfl, _, rfl, mk_part (hT8.same s14) (s14.sqt hW8) (s14.tupD hO8).sq vp fun x2 ry F15 f15 py gy => ?_⟩
      have s15 := s14.trans f15
      refine ⟨_, rfl, _, rfl, x1, x2, nj, n, k, k', tj, t, th, bk, wj, wt, oj, o, rx, ry, v4, v5, rfl, px.same f15, py, vpj, vp, by omega, by omega, hth8.same s15, hbk8.same s15, nth, nbk, fun x3 T3 r3' F16 f16 L3 p3 g3 => ?_⟩
      have g3' := g3.congrT (t' := M) fun x y hx hy => L3.uniq LM hx hy
      have e3r := g3'.uniq grr
      obtain ⟨dx3, fs3, gv3, tv3, wa3, oa3, hx3, _, ⟨_, hg3, hk3⟩, _⟩ := id p3
      have f816 : Same F8 F16 := ((f810.trans f11).trans (f12.trans f13)).trans ((f14.trans f15).trans f16)
      refine ⟨_, rfl, x3, dx3, fs3, rfl, hx3, hg3, x3, _, _, _, _, _, r3', rfl, p3, fun vg hvg => ⟨_, rfl, same_og hvg (hgr.same f816) (by omega) fun c17 F17 f17 hc17 => ⟨_, rfl, ?_⟩⟩⟩
      rw [hc17.mpr e3r]
      have p3' := p3.same f17
      refine iteF ⟨_, rfl, x3, dx3, fs3, rfl, f17 _ _ hx3, hk3, x3, _, _, _, _, _, r3', rfl, p3', _, rfl, rfl, same_bl ⟨_, rfl, ?_⟩⟩
      have eb2 : (r3'.isSome == !decide (vr = V.non)) = true := by
        rw [hsr, e3r.isSome]
        cases r.isSome <;> rfl
      rw [eb2]
      have f917 : Same F1' F17 := ((f2.trans f3).trans ((f4.trans f47).trans f8)).trans (f816.trans f17)
      have hvl17 := f917 _ _ hvl
      refine iteF ⟨_, rfl, .inl ⟨rfl, _, SqL.of hvl17⟩, _, rfl, pk, _, _, rfl, rfl, hvl17, sz5l (by omega), ?_⟩
      have fpk8 : H8 pk = none := fpk
      refine ⟨_, _, _, _, _, _, _, _, _, vl ++ [vr], rfl, (f1.trans f917).mut fpk8, upd_same, by rw [List.length_append, List.length_singleton, hll], fun j v hj => ?_⟩
      have rlp : Rl (At pk) F17 (upd F17 pk (.lst (vl ++ [vr]))) := rl_at hvl17
      by_cases hji : j < vl.length
      · rw [List.getElem?_append_left hji] at hj
        obtain ⟨r0, q1, q2⟩ := hPD j v hj
        exact ⟨r0, (q1.same f917).rl rlp, q2⟩
      · have hj2 : j = i := by
          have := (List.getElem?_eq_some_iff.mp hj).1
          rw [List.length_append, List.length_singleton] at this
          omega
        subst hj2
        rw [List.getElem?_append_right (by omega), show j - vl.length = 0 by omega] at hj
        cases hj
        exact ⟨r, (hgr.same (f816.trans f17)).rl rlp, mk M r r' LM grr lr err⟩
    · rintro σ' F1 ⟨x11, x14, x15, x16, x17, x18, x19, x20, x21, vl, rfl, f1, hvl, hll, hPD⟩
      have hll : vl.length = 2 := hll
      match vl, hll with
      | [v0, v1'], _ =>
        obtain ⟨d0, hd0, P0, _⟩ := hPD 0 v0 rfl
        obtain ⟨d1, hd1, _, P1⟩ := hPD 1 v1' rfl
        refine ⟨_, rfl, _, _, _, _, rfl, rfl, SqL.of hvl, atI_nat (j := 0) rfl, _, rfl, _, _, _, _, rfl, rfl, SqL.of hvl, atI_nat (j := 1) rfl, same_og hd0 hd1 (by omega) fun b F2 f2 hb => q b F2 ((r8.more f1).more f2) fun he => hb.mpr ?_⟩
        obtain ⟨r', lr, q1⟩ := P0 rfl
        obtain ⟨M, LM, g2'⟩ := P1 rfl
        have lr2 := lr.congr he (EqOG.refl ro)
        have g3 := linked_gains_ok LM vp2.lot.lt L.lt gr2 gro lr2
        exact q1.symm.trans (g3.uniq g2')
end
end K60

namespace K60
open PySem L2
open C8 (Cal Def Met Mak cal0 met0 mak0 pe_c pe_mk pe_mt pe_mt0 pe_gc InsC call_isC fnScope fnBody fnArgs clsBody fnScope_by)

def spLaw (K : PySem.W.Frag) : Sp := fun vs H Q _ => ∃ (c : Addr) (ns : List Int), vs = [.ref c] ∧ SqL K H c (ns.map V.int) ∧ ns.length ≤ 63 ∧ ∀ H', Q (.bl true) H'

/- law: slots 0 _law_script 1 _law_digits_here 2 _law_unit 3 _law_first 4 _law_due 5 _law_second_here 6 _law_other 7 _law_gains_here 8 _law_alike 9 _law_k 10 _law_told 11 _law_table 12 _law_waits 13 _law_same_here; cells [] -/
abbrev s_law : Stmt := top 58
theorem sc_law : FnScope ["_law_script", "_law_digits_here", "_law_unit", "_law_first", "_law_due", "_law_second_here", "_law_other", "_law_gains_here", "_law_alike", "_law_k", "_law_told", "_law_table", "_law_waits", "_law_same_here"] ["_law_script"] (fnScope s_law) := fnScope_by (by decide +kernel)
section
variable {P : Program} {w : World} {K : PySem.W.Frag} {mg : Str → Option Value} {base : Heap}
theorem ok_law {f : Addr} {fd : FuncData} (T : Txt mg) (F : C8.Fun K "law" "law" s_law f fd) (c__law_digits : Cal P w K mg base 1 "_law_digits" (spDigits K) []) (c__law_take : Cal P w K mg base 1 "_law_take" spTake []) (c__law_part : Cal P w K mg base 4 "_law_part" (spPart K) []) (c__law_lot : Cal P w K mg base 2 "_law_lot" (spLotL K) [])
    (c__law_gains : Cal P w K mg base 1 "_law_gains" (spGainsL K) []) (c__law_second : Cal P w K mg base 5 "_law_second" (spSecond K) []) (c_gains_of : Cal P w K mg base 4 "gains_of" (spGainsOf K) []) (c__law_same : Cal P w K mg base 4 "_law_same" (spS3 K) []) (c_same_gains : Cal P w K mg base 1 "same_gains" (spSame K) [])
    (c__law_wholes : Cal P w K mg base 8 "_law_wholes" (spWholes K) []) (c_telling_part : Cal P w K mg base 2 "telling_part" (spTelling K) []) (c__law_telling_shown : Cal P w K mg base 6 "_law_telling_shown" (spShown K) []) : FnOk P w K mg base C8.CX0 9 f fd ["_law_script"] (spLaw K) := by
  refine C8.fn0 F sc_law (fun vs H Q E h => ?_) (fun cdv A outer s H vs Q E hr h => ?_)
  · obtain ⟨c, ns, rfl, _⟩ := h
    rfl
  · obtain ⟨c, ns, rfl, hc, hns, q⟩ := h
    have nd := sc_law.nd
    refine ⟨_, (pss_cons (ps_set (i := 1) nd rfl (Or.inl rfl) (pe_c c__law_digits hr (by decide) (by rfl) (pa_cons (pv 0) pa_nil)))
      (pss_cons (ps_set (i := 2) nd rfl (Or.inl rfl) (pe_ifExp (pt_cmpR op_eq (pe_c c__law_take hr (by decide) (by rfl) (pa_cons (pv 1) (pa_cons pe_int pa_nil))) pe_int (nomark _)) (pe_op op_add (pe_op op_pow pe_int pe_int) (pe_c c__law_take hr (by decide) (by rfl) (pa_cons (pv 1) (pa_cons pe_int pa_nil)))) pe_int))
      (pss_cons (ps_asg (pe_c c__law_part hr (by decide) (by rfl) (pa_cons (pv 1) (pa_cons (pe_op op_add pe_int (pe_c c__law_take hr (by decide) (by rfl) (pa_cons (pv 1) (pa_cons pe_int pa_nil)))) (pa_cons (pv 2) pa_nil)))) (pg_tup rfl (pgs_cons (pg_name (i := 11) nd rfl (Or.inl rfl)) (pgs_cons (pg_name (i := 12) nd rfl (Or.inl rfl)) pgs_nil))))
      (pss_cons (ps_set (i := 3) nd rfl (Or.inl rfl) (pe_tup (pa_cons (pv 11) (pa_cons (pv 12) (pa_cons (pe_c c__law_lot hr (by decide) (by rfl) (pa_cons (pv 1) (pa_cons (pe_callB (lenK K) (by rfl) T.len boot_len (pa_cons (pv 11) pa_nil)) pa_nil))) pa_nil)))))
      (pss_cons (ps_set (i := 4) nd rfl (Or.inl rfl) (pe_c c__law_gains hr (by decide) (by rfl) (pa_cons (pv 11) (pa_cons (pv 12) (pa_cons (pe_ix (ixT K) (pv 3) pe_int (fun _ _ => rfl)) pa_nil)))))
      (pss_cons (ps_set (i := 5) nd rfl (Or.inl rfl) (pe_c c__law_second hr (by decide) (by rfl) (pa_cons (pv 1) (pa_cons (pv 11) (pa_cons (pv 12) (pa_cons (pe_ix (ixT K) (pv 3) pe_int (fun _ _ => rfl)) (pa_cons (pv 4) (pa_cons (pv 2) pa_nil))))))))
      (pss_cons (ps_set (i := 6) nd rfl (Or.inl rfl) (pe_c c__law_gains hr (by decide) (by rfl) (pa_cons (pe_ix (ixT K) (pv 5) pe_int (fun _ _ => rfl)) (pa_cons (pe_ix (ixT K) (pv 5) pe_int (fun _ _ => rfl)) (pa_cons (pe_ix (ixT K) (pv 5) pe_int (fun _ _ => rfl)) pa_nil)))))
      (pss_cons (ps_set (i := 7) nd rfl (Or.inl rfl) (pe_tup (pa_cons (pe_c c_gains_of hr (by decide) (by rfl) (pa_cons (pv 11) (pa_cons (pv 12) (pa_cons (pe_ix (ixT K) (pv 3) pe_int (fun _ _ => rfl)) pa_nil)))) (pa_cons (pe_c c_gains_of hr (by decide) (by rfl) (pa_cons (pe_ix (ixT K) (pv 5) pe_int (fun _ _ => rfl)) (pa_cons (pe_ix (ixT K) (pv 5) pe_int (fun _ _ => rfl)) (pa_cons (pe_ix (ixT K) (pv 5) pe_int (fun _ _ => rfl)) pa_nil)))) pa_nil))))
      (pss_cons (ps_if (PW.pt (pw_or (pt_not (pt_val (pe_c c__law_same hr (by decide) (by rfl) (pa_cons (pe_ix (ixT K) (pv 7) pe_int (fun _ _ => rfl)) (pa_cons (pv 4) pa_nil))))) (pw_or1 (pt_not (pt_val (pe_c c__law_same hr (by decide) (by rfl) (pa_cons (pe_ix (ixT K) (pv 7) pe_int (fun _ _ => rfl)) (pa_cons (pv 6) pa_nil)))))))) (pss_one (ps_ret pe_bl)) pss_nil)
      (pss_cons (ps_set (i := 8) nd rfl (Or.inl rfl) (pe_c c__law_same hr (by decide) (by rfl) (pa_cons (pv 4) (pa_cons (pv 6) pa_nil))))
      (pss_cons (ps_if (pt_not (pt_val (pe_c c__law_same hr (by decide) (by rfl) (pa_cons (pe_c c_same_gains hr (by decide) (by rfl) (pa_cons (pe_ix (ixT K) (pv 7) pe_int (fun _ _ => rfl)) (pa_cons (pe_ix (ixT K) (pv 7) pe_int (fun _ _ => rfl)) pa_nil))) (pa_cons (pv 8) pa_nil))))) (pss_one (ps_ret pe_bl)) pss_nil)
      (pss_cons (ps_for PassesOwn.never rfl (pi_range1 (by rfl) T.range (pa_cons pe_int pa_nil)) (pg_name (i := 9) nd rfl (Or.inl rfl))
        (pss_cons (ps_set (i := 13) nd rfl (Or.inl rfl) (pe_c c__law_wholes hr (by decide) (by rfl) (pa_cons (pv 1) (pa_cons (pv 3) (pa_cons (pv 5) (pa_cons (pv 7) (pa_cons (pv 2) pa_nil)))))))
        (pss_one (ps_if (PW.pt (pw_or (pt_cmpR op_isN (pv 13) pe_non (nomark _)) (pw_or1 (PW.pt (pw_and (pt_val (pv 8)) (pw_and1 (pt_not (pt_val (pv 13))))))))) (pss_one (ps_ret pe_bl)) pss_nil))))
      (pss_cons (ps_set (i := 10) nd rfl (Or.inl rfl) (pe_c c_telling_part hr (by decide) (by rfl) (pa_cons (pe_ix (ixT K) (pv 7) pe_int (fun _ _ => rfl)) (pa_cons (pe_ix (ixT K) (pv 7) pe_int (fun _ _ => rfl)) pa_nil))))
      (pss_cons (ps_if (pt_val (pv 8)) (pss_one (ps_ret (pe_cmpR op_isN (pv 10) pe_non (nomark _)))) pss_nil)
      (pss_one (ps_ret (pe_c c__law_telling_shown hr (by decide) (by rfl) (pa_cons (pv 3) (pa_cons (pv 5) (pa_cons (pv 7) (pa_cons (pv 10) pa_nil))))))))))))))))))))), ?_⟩
    have two : 2 ≤ sizeLine := sz5 (show 2 ≤ 100000 by decide)
    have three : 3 ≤ sizeLine := sz5 (show 3 ≤ 100000 by decide)
    refine ⟨_, rfl, c, ns, rfl, hc, hns, fun d H1 e1 hd1 => ?_⟩
    apply via3 (pre := fun (u : Int) H' => 0 ≤ u ∧ Dg d H') (st := fun u => [some (.ref c), some (.ref d), some (.int u), none, none, none, none, none, none, none, none, none, none, none])
    · intro key
      refine ⟨_, rfl, d, 8, rfl, hd1, by decide, fun c1 H2 hc1 e2 => ⟨rfl, _, rfl, iteB (fun _ => ?_) (fun _ => ?_)⟩⟩
      rotate_left
      · exact key 1 _ ⟨by decide, e2.dg⟩
      · refine ⟨_, _, rfl, rfl, ⟨by decide, by decide, by decide⟩, _, rfl, d, 900, rfl, e2.dg, by decide, fun c2 H3 hc2 e3 => ⟨_, _, rfl, rfl, ?_⟩⟩
        have hp : (0 : Int) ≤ 10 ^ Int.toNat 23 := by decide
        exact key (10 ^ Int.toNat 23 + (c2 : Int)) _ ⟨Int.add_nonneg hp (Int.natCast_nonneg _), e3.dg⟩
    · rintro u H2 ⟨hu, hd2⟩
      -- the first part
      refine ⟨_, rfl, _, rfl, d, 4, rfl, hd2, by decide, fun c3 H3 hc3 e3 => ⟨_, _, rfl, rfl, _, rfl, d, 1 + c3, u, rfl, e3.dg, by omega, hu, fun pa wa tv t wt H4 e4 hpa hT hW ht0 hw0 => ?_⟩⟩
      refine ⟨_, _, rfl, hpa, rfl, _, _, rfl, _, _, rfl, rfl, ?_⟩
      obtain ⟨n, en⟩ : ∃ n, n = 1 + c3 := ⟨_, rfl⟩
      rw [← en] at hT hW ht0 hw0
      obtain ⟨a1, vs1, rfl, hq1, hl1, hr1⟩ := id hT
      refine ⟨_, rfl, _, rfl, _, rfl, _, rfl, _, _, rfl, .inr hq1, ?_⟩
      rw [hl1]
      refine ⟨d, n, rfl, e4.dg, by omega, by omega, fun vo k o H5 e5 ⟨oa, eo, hO⟩ L k0 hk => ⟨three, fun pf fpf => ?_⟩⟩
      subst eo
      generalize eH6 : upd H5 pf _ = H6
      have e6 : Same H5 H6 := eH6 ▸ Same.new fpf
      have hpf : H6 pf = some _ := eH6 ▸ upd_same
      have e46 := e5.more e6
      have hT6 := hT.rl e46.rl
      have hW6 := e46.rl.sqt hW
      have hO6 := e6.tupD hO
      have hd6 := e46.dg
      have n0 : 0 < n := by omega
      have vp : VP n k t wt o := ⟨n0, by omega, ht0, hw0, L, k0, by omega⟩
      have hpf6 : SqT K H6 pf [.ref a1, .ref wa, .ref oa] := SqT.of hpf
      refine ⟨_, rfl, _, rfl, _, rfl, _, _, _, _, rfl, rfl, hpf6, atI_nat (j := 2) rfl, n, k, t, wt, o, _, wa, oa, rfl, hT6, hW6, hO6, L, by omega, by omega, fun r1 v1 H7 e7 hg1 gr1 => ?_⟩
      -- the second
      have hd7 := hd6.same e7
      refine ⟨_, rfl, _, rfl, _, rfl, _, rfl, _, _, _, _, rfl, rfl, e7.sqt hpf6, atI_nat (j := 2) rfl, _, rfl, _, rfl, d, wa, oa, n, k, t, wt, o, r1, _, v1, u, rfl, hd7, hT6.same e7, e7.sqt hW6, e7.tupD hO6, vp, by omega, by omega, hu, hg1, gr1, fun vs2 n2 t2 w2 o2 H8 e8 hn2 pt2 vp2 => ?_⟩
      obtain ⟨p2, tv2, wa2, oa2, rfl, hP2, hT2, hW2, hO2⟩ := id pt2
      have n20 := vp2.n0
      refine ⟨_, rfl, _, _, _, _, rfl, rfl, hP2, atI_nat (j := 0) rfl, _, rfl, _, _, _, _, rfl, rfl, hP2, atI_nat (j := 1) rfl, _, rfl, _, _, _, _, rfl, rfl, hP2, atI_nat (j := 2) rfl, n2, k, t2, w2, o2, tv2, wa2, oa2, rfl, hT2, hW2, hO2, vp2.lot, by omega, by omega, fun r2 v2 H9 e9 hg2 gr2 => ?_⟩
      have e69 : Rg d H6 H9 := ((Rg.of hd6 e7).trans e8).more e9
      have e79 : Rg d H7 H9 := e8.more e9
      have pf9 := e69.rl.sqt hpf6
      refine ⟨_, rfl, _, rfl, _, rfl, _, _, _, _, rfl, rfl, pf9, atI_nat (j := 2) rfl, n, k, t, wt, o, _, wa, oa, rfl, hT6.rl e69.rl, e69.rl.sqt hW6, (e69.rl.tupD hO6).sq, n0, by omega, hw0, L, k0, by omega, fun q1 y1 H10 e10 hy1 gq1 => ?_⟩
      have e810 := e9.trans e10
      have hP10 := e810.sqt hP2
      refine ⟨_, rfl, _, _, _, _, rfl, rfl, hP10, atI_nat (j := 0) rfl, _, rfl, _, _, _, _, rfl, rfl, hP10, atI_nat (j := 1) rfl, _, rfl, _, _, _, _, rfl, rfl, hP10, atI_nat (j := 2) rfl, n2, k, t2, w2, o2, tv2, wa2, oa2, rfl, hT2.same e810, e810.sqt hW2, (e810.tupD hO2).sq, n20, by omega, vp2.w0, vp2.lot, k0, by omega, fun q2 y2 H11 e11 hy2 gq2 => ⟨two, fun ga fga => ?_⟩⟩
      generalize eH12 : upd H11 ga _ = H12
      have e12 : Same H11 H12 := eH12 ▸ Same.new fga
      have hga : H12 ga = some _ := eH12 ▸ upd_same
      have hga12 : SqT K H12 ga [y1, y2] := SqT.of hga
      have e912 := (e10.trans e11).trans e12
      have hy1' := (hy1.same e11).same e12
      have hy2' := hy2.same e12
      have hg1' := (hg1.rl e79.rl).same e912
      have hg2' := hg2.same e912
      refine ⟨_, rfl, _, _, _, _, rfl, rfl, hga12, atI_nat (j := 0) rfl, _, rfl, same_og hy1' hg1' (by omega) fun b13 H13 e13 hb13 => ⟨_, rfl, ?_⟩⟩
      rw [hb13.mpr (gq1.uniq gr1)]
      refine iteF ⟨_, rfl, _, _, _, _, rfl, rfl, e13.sqt hga12, atI_nat (j := 1) rfl, _, rfl, same_og (hy2'.same e13) (hg2'.same e13) (by omega) fun b14 H14 e14 hb14 => ⟨_, rfl, ?_⟩⟩
      rw [hb14.mpr (gq2.uniq gr2)]
      have e1214 := e13.trans e14
      refine iteF ⟨_, rfl, _, rfl, same_og (hg1'.same e1214) (hg2'.same e1214) (by omega) fun alike H15 e15 hal => ?_⟩
      have e1215 := e1214.trans e15
      have hga15 := e1215.sqt hga12
      have hal2 : alike = true ↔ EqOG k q1 q2 := by
        rw [hal]
        exact ⟨fun z => ((gq1.uniq gr1).trans z).trans (gr2.uniq gq2), fun z => ((gr1.uniq gq1).trans z).trans (gq2.uniq gr2)⟩
      refine ⟨_, rfl, _, _, _, _, rfl, rfl, hga15, atI_nat (j := 0) rfl, _, rfl, _, _, _, _, rfl, rfl, hga15, atI_nat (j := 1) rfl, k, q1, q2, y1, y2, rfl, hy1'.same e1215, hy2'.same e1215, fun bs hbs => ⟨_, rfl, same_bl ⟨_, rfl, ?_⟩⟩⟩
      have eb : (bs == alike) = true := by
        have h1 : bs = true ↔ alike = true := by rw [hbs, hal2]
        cases bs <;> cases alike <;> simp at h1 ⊢
      rw [eb]
      have e915 := e912.trans e1215
      have e615 := e69.more e915
      have pf15 : PartT K H15 (.ref pf) n k t wt o := ⟨pf, _, wa, oa, rfl, e615.rl.sqt hpf6, hT6.rl e615.rl, e615.rl.sqt hW6, e615.rl.tupD hO6⟩
      have p215 : PartT K H15 (.ref p2) n2 k t2 w2 o2 := pt2.same (e9.trans e915)
      have hy115 := hy1'.same e1215
      have hy215 := hy2'.same e1215
      -- twice with another part
      refine iteF ⟨(2 : Int), rfl, by decide, by decide, for_it walk_rng (fun i σ' H' => ∃ x9 x13, σ' = [some (.ref c), some (.ref d), some (.int u), some (.ref pf), some v1, some (.ref p2), some v2, some (.ref ga), some (.bl alike), x9, none, some (.ref a1), some (.ref wa), x13] ∧ Rg d H15 H')
        ⟨none, none, rfl, Rg.refl e615.dg⟩ (fun _ _ _ _ _ => trivial) ?_ ?_⟩
      · rintro i x σ' F1 F1' hi ⟨x9, x13, rfl, f1⟩ ⟨rfl, rfl⟩
        refine ⟨_, rfl, _, rfl, _, rfl, _, rfl, _, rfl, d, n, n2, k, t, t2, wt, w2, o, o2, q1, q2, _, _, y1, y2, ga, u, rfl, f1.dg, pf15.rl f1.rl, p215.rl f1.rl, vp, vp2, by omega, hn2, by omega, hu, f1.rl.sqt hga15, hy115.rl f1.rl, hy215.rl f1.rl, gq1, gq2, fun b F2 f2 hb => ?_⟩
        refine ⟨_, rfl, rfl, _, rfl, iteDF (fun z => by cases z) ⟨_, rfl, _, rfl, iteB (fun ht => ?_) (fun hf => ?_)⟩⟩
        · refine ⟨_, rfl, _, rfl, ?_⟩
          rw [hb (hal2.mp ht)]
          exact iteF ⟨_, _, rfl, f1.trans f2⟩
        · exact iteF ⟨_, _, rfl, f1.trans f2⟩
      · rintro σ' F1 ⟨x9, x13, rfl, f1⟩
        have hgaF := f1.rl.sqt hga15
        refine ⟨_, rfl, _, _, _, _, rfl, rfl, hgaF, atI_nat (j := 0) rfl, _, rfl, _, _, _, _, rfl, rfl, hgaF, atI_nat (j := 1) rfl, k, q1, q2, y1, y2, rfl, hy115.rl f1.rl, hy215.rl f1.rl, k0, by omega, fun vt F2 f2 hvt => ?_⟩
        refine ⟨_, rfl, _, rfl, iteB (fun ht => ?_) (fun hf => ?_)⟩
        · rcases hvt with ⟨_, rfl⟩ | ⟨hne, _⟩
          · exact ⟨_, rfl, rfl, q _⟩
          · exact absurd (hal2.mp ht) hne
        · rcases hvt with ⟨he, _⟩ | ⟨_, told⟩
          · rw [hal2.mpr he] at hf
            cases hf
          · have f12 := f1.more f2
            exact ⟨_, rfl, _, rfl, _, rfl, _, rfl, n, n2, k, t, t2, wt, w2, o, o2, q1, q2, _, _, vt, y1, y2, ga, rfl, pf15.rl f12.rl, p215.rl f12.rl, vp, vp2, by omega, hn2, by omega, f12.rl.sqt hga15, hy115.rl f12.rl, hy215.rl f12.rl, gq1, gq2, told, fun H' _ => q H'⟩
end
end K60

namespace K60
open PySem L2
open C8 (Cal Def Met Mak cal0 met0 mak0 pe_c pe_mk pe_mt pe_mt0 pe_gc InsC call_isC fnScope fnBody fnArgs clsBody fnScope_by)

/-! ### all the promises -/
theorem all_ok {P : Program} {w : World} {K : PySem.W.Frag} {mg : Str → Option Value} {base : Heap} {C f : Addr} {fd : FuncData} (T : Txt mg) (TP : PTxt K mg C)
    (d_is_integer : Dx K mg "is_integer" s_is_integer ["thing"])
    (d_is_number : Dx K mg "is_number" s_is_number ["thing"])
    (d__lessened : Dx K mg "_lessened" s__lessened ["entry", "units"])
    (d__turned : Dx K mg "_turned" s__turned ["units"])
    (d_is_lot : Dx K mg "is_lot" s_is_lot ["size", "thing"])
    (d__are_part_waits : Dx K mg "_are_part_waits" s__are_part_waits ["size", "thing"])
    (d_need_table_waits : Dx K mg "need_table_waits" s_need_table_waits ["size", "waits"])
    (d__are_duty_rows : Dx K mg "_are_duty_rows" s__are_duty_rows ["high", "wide", "thing"])
    (d__look_at_links : Dx K mg "_look_at_links" s__look_at_links ["near", "away", "there", "back"])
    (d_is_table_row : Dx K mg "is_table_row" s_is_table_row ["size", "at", "row"])
    (d_is_table : Dx K mg "is_table" s_is_table ["thing"])
    (d_step_gains : Dx K mg "step_gains" s_step_gains ["table", "waits"])
    (d__side_by_side : Dx K mg "_side_by_side" s__side_by_side ["rows", "others"])
    (d__best_of_two : Dx K mg "_best_of_two" s__best_of_two ["rows", "others"])
    (d__greatest_walks : Dx K mg "_greatest_walks" s__greatest_walks ["rows"])
    (d_gains_of : Dx K mg "gains_of" s_gains_of ["table", "waits", "outer"])
    (d_ring_behind : Dx K mg "ring_behind" s_ring_behind ["before", "door"])
    (d_greatest_sums : Dx K mg "greatest_sums" s_greatest_sums ["gains"])
    (d_barring_doors : Dx K mg "barring_doors" s_barring_doors ["table", "waits"])
    (d_is_kept : Dx K mg "is_kept" s_is_kept ["table", "waits"])
    (d_linked_tables : Dx K mg "linked_tables" s_linked_tables ["table", "other", "outer", "far", "there", "back"])
    (d_linked_gains : Dx K mg "linked_gains" s_linked_gains ["gains", "other", "there", "back"])
    (d_Part_init : Dk K C "Part.__init__" s_Part_init ["self", "table", "waits", "outer"])
    (d_Part_kept : Dm K C "kept" "Part.kept" s_Part_kept ["self"])
    (d_Part_gains : Dm K C "gains" "Part.gains" s_Part_gains ["self"])
    (d_Part_linked : Dm K C "linked" "Part.linked" s_Part_linked ["self", "other", "there", "back"])
    (d_same_gains : Dx K mg "same_gains" s_same_gains ["gains", "other"])
    (d__first_differing : Dx K mg "_first_differing" s__first_differing ["gains", "other"])
    (d_telling_part : Dx K mg "telling_part" s_telling_part ["gains", "other"])
    (d__law_digits : Dx K mg "_law_digits" s__law_digits ["_law_script"])
    (d__law_take : Dx K mg "_law_take" s__law_take ["_law_digits_here", "_law_many"])
    (d__law_entry : Dx K mg "_law_entry" s__law_entry ["_law_digits_here", "_law_low", "_law_many", "_law_unit"])
    (d__law_square : Dx K mg "_law_square" s__law_square ["_law_digits_here", "_law_many", "_law_unit"])
    (d__law_lot : Dx K mg "_law_lot" s__law_lot ["_law_digits_here", "_law_many"])
    (d__law_part : Dx K mg "_law_part" s__law_part ["_law_digits_here", "_law_many", "_law_unit"])
    (d__law_duties : Dx K mg "_law_duties" s__law_duties ["_law_digits_here", "_law_many", "_law_other", "_law_unit"])
    (d__law_same : Dx K mg "_law_same" s__law_same ["_law_told", "_law_due"])
    (d__law_gains : Dx K mg "_law_gains" s__law_gains ["_law_table", "_law_waits", "_law_outer"])
    (d__law_linked : Dx K mg "_law_linked" s__law_linked ["_law_table", "_law_other", "_law_outer", "_law_far", "_law_there", "_law_back"])
    (d__law_made : Dx K mg "_law_made" s__law_made ["_law_gains_here"])
    (d__law_padded : Dx K mg "_law_padded" s__law_padded ["_law_digits_here", "_law_table", "_law_waits", "_law_outer", "_law_unit"])
    (d__law_raised : Dx K mg "_law_raised" s__law_raised ["_law_digits_here", "_law_table", "_law_waits", "_law_outer", "_law_unit"])
    (d__law_bent : Dx K mg "_law_bent" s__law_bent ["_law_digits_here", "_law_part_here", "_law_unit"])
    (d__law_second : Dx K mg "_law_second" s__law_second ["_law_digits_here", "_law_table", "_law_waits", "_law_outer", "_law_gains_here", "_law_unit"])
    (d__law_numbers : Dx K mg "_law_numbers" s__law_numbers ["_law_told", "_law_many", "_law_least"])
    (d__law_grid : Dx K mg "_law_grid" s__law_grid ["_law_told", "_law_many", "_law_wide", "_law_numbers_here"])
    (d__law_telling_shown : Dx K mg "_law_telling_shown" s__law_telling_shown ["_law_first", "_law_second_here", "_law_gains_here", "_law_told"])
    (d__law_wholes : Dx K mg "_law_wholes" s__law_wholes ["_law_digits_here", "_law_first", "_law_second_here", "_law_gains_here", "_law_unit"])
    (F : C8.Fun K "law" "law" s_law f fd) : FnOk P w K mg base C8.CX0 9 f fd ["_law_script"] (spLaw K) := by
  have c_is_integer : Cal P w K mg base 1 "is_integer" spInteger [] := ok_is_integer T d_is_integer
  have c_is_number : Cal P w K mg base 2 "is_number" spNumber [] := ok_is_number T d_is_number c_is_integer
  have c__lessened : Cal P w K mg base 1 "_lessened" spLessened [] := ok_lessened T d__lessened
  have c__turned : Cal P w K mg base 1 "_turned" spTurned [] := ok_turned T d__turned
  have c_is_lot : Cal P w K mg base 2 "is_lot" (spLot K) [] := ok_is_lot T d_is_lot c_is_integer
  have c__are_part_waits : Cal P w K mg base 3 "_are_part_waits" (spPartWaits K) [] := ok_are_part_waits T d__are_part_waits c_is_number
  have c_need_table_waits : Cal P w K mg base 3 "need_table_waits" (spNeedWaits K) [] := ok_need_table_waits T d_need_table_waits c_is_number
  have c__are_duty_rows : Cal P w K mg base 3 "_are_duty_rows" (spDutyRows K) [] := ok_are_duty_rows T d__are_duty_rows c_is_number
  have c__look_at_links : Cal P w K mg base 4 "_look_at_links" (spLinks K) [] := ok_look_at_links T d__look_at_links c__are_duty_rows
  have c_is_table_row : Cal P w K mg base 2 "is_table_row" (spTableRow K) [] := ok_is_table_row T d_is_table_row c_is_integer
  have c_is_table : Cal P w K mg base 3 "is_table" (spTable K) [] := ok_is_table T d_is_table c_is_table_row
  have c_step_gains : Cal P w K mg base 1 "step_gains" (spStepGains K) [] := ok_step_gains T d_step_gains
  have c__side_by_side : Cal P w K mg base 1 "_side_by_side" (spSide K) [] := ok_side_by_side T d__side_by_side
  have c__best_of_two : Cal P w K mg base 1 "_best_of_two" spTwo [] := ok_best_of_two T d__best_of_two
  have c__greatest_walks : Cal P w K mg base 1 "_greatest_walks" spWalks [] := ok_greatest_walks T d__greatest_walks
  have c_gains_of : Cal P w K mg base 4 "gains_of" (spGainsOf K) [] := ok_gains_of T d_gains_of c__are_part_waits c_is_lot c__greatest_walks c__lessened
  have c_ring_behind : Cal P w K mg base 1 "ring_behind" spRing [] := ok_ring_behind T d_ring_behind
  have c_greatest_sums : Cal P w K mg base 2 "greatest_sums" spSums [] := ok_greatest_sums T d_greatest_sums c_ring_behind
  have c_barring_doors : Cal P w K mg base 4 "barring_doors" (spBarring K) [] := ok_barring_doors T d_barring_doors c_need_table_waits c_step_gains c_greatest_sums
  have c_is_kept : Cal P w K mg base 5 "is_kept" (spKept K) [] := ok_is_kept T d_is_kept c_barring_doors
  have c_linked_tables : Cal P w K mg base 5 "linked_tables" (spLinkedTables K) [] := ok_linked_tables T d_linked_tables c_is_table c_is_lot c__look_at_links c__side_by_side c__turned
  have c_linked_gains : Cal P w K mg base 5 "linked_gains" (spLinkedGains K) [] := ok_linked_gains T d_linked_gains c__look_at_links c__side_by_side c__turned c__best_of_two c__greatest_walks
  have c_Part : Mak P w K mg base 5 "Part" C (spInit K C) [] := ok_Part T TP d_Part_init c_is_table c_gains_of
  have c_kept : Met P w K mg base 1 C "kept" (spPKept K C) [] := ok_Part_kept T TP d_Part_kept
  have c_gains : Met P w K mg base 1 C "gains" (spPGains K C) [] := ok_Part_gains T TP d_Part_gains
  have c_linked : Met P w K mg base 7 C "linked" (spPLinked K C) [] := ok_Part_linked T TP d_Part_linked c_linked_tables c_Part
  have c_same_gains : Cal P w K mg base 1 "same_gains" (spSame K) [] := ok_same_gains T d_same_gains
  have c__first_differing : Cal P w K mg base 1 "_first_differing" (spFirst K) [] := ok_first_differing T d__first_differing
  have c_telling_part : Cal P w K mg base 2 "telling_part" (spTelling K) [] := ok_telling_part T d_telling_part c__first_differing
  have c__law_digits : Cal P w K mg base 1 "_law_digits" (spDigits K) [] := ok_law_digits T d__law_digits
  have c__law_take : Cal P w K mg base 1 "_law_take" spTake [] := ok_law_take T d__law_take
  have c__law_entry : Cal P w K mg base 2 "_law_entry" spEntry [] := ok_law_entry T d__law_entry c__law_take
  have c__law_square : Cal P w K mg base 3 "_law_square" (spSquare K) [] := ok_law_square T d__law_square c__law_take c__law_entry
  have c__law_lot : Cal P w K mg base 2 "_law_lot" (spLotL K) [] := ok_law_lot T d__law_lot c__law_take
  have c__law_part : Cal P w K mg base 4 "_law_part" (spPart K) [] := ok_law_part T d__law_part c__law_take c__law_square
  have c__law_duties : Cal P w K mg base 3 "_law_duties" (spDuties K) [] := ok_law_duties T d__law_duties c__law_entry
  have c__law_same : Cal P w K mg base 4 "_law_same" (spS3 K) [] := ok_law_same T d__law_same
  have c__law_gains : Cal P w K mg base 1 "_law_gains" (spGainsL K) [] := ok_law_gains T d__law_gains
  have c__law_linked : Cal P w K mg base 1 "_law_linked" (spLinkedL K) [] := ok_law_linked T d__law_linked
  have c__law_made : Cal P w K mg base 1 "_law_made" (spMade K) [] := ok_law_made T d__law_made
  have c__law_padded : Cal P w K mg base 3 "_law_padded" (spPadded K) [] := ok_law_padded T d__law_padded c__law_take c__law_entry
  have c__law_raised : Cal P w K mg base 4 "_law_raised" (spPadded K) [] := ok_law_raised T d__law_raised c__law_take c__law_padded
  have c__law_bent : Cal P w K mg base 2 "_law_bent" (spBent K) [] := ok_law_bent T d__law_bent c__law_take
  have c__law_second : Cal P w K mg base 5 "_law_second" (spSecond K) [] := ok_law_second T d__law_second c__law_take c__law_part c__law_padded c__law_raised c__law_made c__law_bent
  have c__law_numbers : Cal P w K mg base 1 "_law_numbers" (spNumbers K) [] := ok_law_numbers T d__law_numbers
  have c__law_grid : Cal P w K mg base 1 "_law_grid" (spGrid K) [] := ok_law_grid T d__law_grid
  have c__law_telling_shown : Cal P w K mg base 6 "_law_telling_shown" (spShown K) [] := ok_law_telling_shown T d__law_telling_shown c__law_grid c__law_numbers c__law_gains c__law_same c_gains_of c__law_linked c_linked_tables c_is_kept c_linked_gains
  have c__law_wholes : Cal P w K mg base 8 "_law_wholes" (spWholes K) [] := ok_law_wholes T d__law_wholes c__law_take c__law_part c__law_lot c__law_duties c__law_gains c__law_same c_gains_of c__law_linked c_linked_tables c_is_kept c_linked_gains c_Part c_linked c_gains c_kept
  exact ok_law T F c__law_digits c__law_take c__law_part c__law_lot c__law_gains c__law_second c_gains_of c__law_same c_same_gains c__law_wholes c_telling_part c__law_telling_shown

/-! ### what the top has left -/
section
variable {K : PySem.W.Frag} {h : Heap} {mg : Str → Option Value} {C f : Addr} {x m qual : Str} {st : Stmt} {ps : List Str} {oc kV dc pm cd ct : Value} {od an : Option Addr} {sl : Array (Option Value)}
theorem binds_mk (l : K.lookup f = some ⟨oc, od, .func (PySem.W.fnOf x qual (fnArgs st) (fnBody st) (fnScope st) .none kV dc pm an cd ct), sl⟩) (c : PySem.W.codeIn K cd qual = true)
    (hb : ∀ (kV doc pm : Value) (an : Option Addr) (cdv ct : Value) (us : List Value), us.length = ps.length → bindArgs (PySem.W.fnOf x qual (fnArgs st) (fnBody st) (fnScope st) .none kV doc pm an cdv ct) ⟨us, []⟩ = pure (ps.zip us)) :
    C8.Fun K x qual st f (PySem.W.fnOf x qual (fnArgs st) (fnBody st) (fnScope st) .none kV dc pm an cd ct) ∧ Binds K (PySem.W.fnOf x qual (fnArgs st) (fnBody st) (fnScope st) .none kV dc pm an cd ct) ps [] :=
  have F : C8.Fun K x qual st f (PySem.W.fnOf x qual (fnArgs st) (fnBody st) (fnScope st) .none kV dc pm an cd ct) := ⟨oc, od, .none, kV, dc, pm, an, cd, ct, sl, rfl, l, c⟩
  ⟨F, F.binds rfl hb⟩
theorem dx_mk (X : K.In h) (G : h.Ns mainGlobals mg) (a : PySem.W.nsIn K mainGlobals x = some (some (.ref f))) (l : K.lookup f = some ⟨oc, od, .func (PySem.W.fnOf x x (fnArgs st) (fnBody st) (fnScope st) .none kV dc pm an cd ct), sl⟩) (c : PySem.W.codeIn K cd x = true) (k : PySem.W.keepIn K (.ref f) = true)
    (hb : ∀ (kV doc pm : Value) (an : Option Addr) (cdv ct : Value) (us : List Value), us.length = ps.length → bindArgs (PySem.W.fnOf x x (fnArgs st) (fnBody st) (fnScope st) .none kV doc pm an cdv ct) ⟨us, []⟩ = pure (ps.zip us)) : Dx K mg x st ps :=
  have b := binds_mk l c hb
  ⟨f, _, ⟨b.1, PySem.W.mg_of X G a, k⟩, b.2⟩
theorem dx_then {goal : Prop} (X : K.In h) (G : h.Ns mainGlobals mg) (a : PySem.W.nsIn K mainGlobals x = some (some (.ref f))) (l : K.lookup f = some ⟨oc, od, .func (PySem.W.fnOf x x (fnArgs st) (fnBody st) (fnScope st) .none kV dc pm an cd ct), sl⟩) (c : PySem.W.codeIn K cd x = true) (k : PySem.W.keepIn K (.ref f) = true)
    (hb : ∀ (kV doc pm : Value) (an : Option Addr) (cdv ct : Value) (us : List Value), us.length = ps.length → bindArgs (PySem.W.fnOf x x (fnArgs st) (fnBody st) (fnScope st) .none kV doc pm an cdv ct) ⟨us, []⟩ = pure (ps.zip us)) (next : Dx K mg x st ps → goal) : goal := next (dx_mk X G a l c k hb)
theorem dm_mk (a : PySem.W.findIn K (.ref C) m = some (some (.ref f))) (i : PySem.W.isFn K (.ref f) = true) (l : K.lookup f = some ⟨oc, od, .func (PySem.W.fnOf m qual (fnArgs st) (fnBody st) (fnScope st) .none kV dc pm an cd ct), sl⟩) (c : PySem.W.codeIn K cd qual = true) (k : PySem.W.keepIn K (.ref f) = true)
    (hb : ∀ (kV doc pm : Value) (an : Option Addr) (cdv ct : Value) (us : List Value), us.length = ps.length → bindArgs (PySem.W.fnOf m qual (fnArgs st) (fnBody st) (fnScope st) .none kV doc pm an cdv ct) ⟨us, []⟩ = pure (ps.zip us)) : Dm K C m qual st ps :=
  have b := binds_mk l c hb
  ⟨f, _, ⟨a, i, k⟩, b.1, b.2⟩
theorem dk_mk (mk : PySem.W.makesIn K C = true) (kc : PySem.W.keepIn K (.ref C) = true) (a : PySem.W.findIn K (.ref C) "__init__" = some (some (.ref f))) (i : PySem.W.isFn K (.ref f) = true) (l : K.lookup f = some ⟨oc, od, .func (PySem.W.fnOf "__init__" qual (fnArgs st) (fnBody st) (fnScope st) .none kV dc pm an cd ct), sl⟩) (c : PySem.W.codeIn K cd qual = true)
    (hb : ∀ (kV doc pm : Value) (an : Option Addr) (cdv ct : Value) (us : List Value), us.length = ps.length → bindArgs (PySem.W.fnOf "__init__" qual (fnArgs st) (fnBody st) (fnScope st) .none kV doc pm an cdv ct) ⟨us, []⟩ = pure (ps.zip us)) : Dk K C qual st ps :=
  have b := binds_mk l c hb
  ⟨f, _, ⟨mk, a, i, kc⟩, b.1, b.2⟩
end
theorem part_mk {K : PySem.W.Frag} {h : Heap} {mg : Str → Option Value} {C f1 f2 f3 f4 : Addr} {oc1 kV1 dc1 pm1 cd1 ct1 oc2 kV2 dc2 pm2 cd2 ct2 oc3 kV3 dc3 pm3 cd3 ct3 oc4 kV4 dc4 pm4 cd4 ct4 : Value} {od1 an1 od2 an2 od3 an3 od4 an4 : Option Addr} {sl1 sl2 sl3 sl4 : Array (Option Value)} (X : K.In h) (G : h.Ns mainGlobals mg)
    (aC : PySem.W.nsIn K mainGlobals "Part" = some (some (.ref C))) (pg : PySem.W.plainGet K C Str.empty = true) (hd : PySem.W.hasDictIn K C = true) (po : PySem.W.plainOver K C = true) (sa : PySem.W.findIn K (.ref C) "__setattr__" = some (some (.builtin "object.__setattr__"))) (mk : PySem.W.makesIn K C = true) (kc : PySem.W.keepIn K (.ref C) = true)
    (nG : PySem.W.findIn K (.ref C) "_gains" = some none) (nT : PySem.W.findIn K (.ref C) "_table" = some none) (nW : PySem.W.findIn K (.ref C) "_waits" = some none) (nO : PySem.W.findIn K (.ref C) "_outer" = some none)
    (ha : PySem.W.findIn K (.ref C) "__class__" = some (some (.builtin "object.__class__"))) (hn : PySem.W.specialIn K (.builtin "object.__class__") "__get__" = some (some (.builtin "getset_descriptor.__get__"))) (htk : PySem.W.takesIn K (.builtin "object.__class__") = some true) (hm : PySem.W.mroIn K C (.type "object") = some true)
    (a1 : PySem.W.findIn K (.ref C) "__init__" = some (some (.ref f1))) (i1 : PySem.W.isFn K (.ref f1) = true) (l1 : K.lookup f1 = some ⟨oc1, od1, .func (PySem.W.fnOf "__init__" "Part.__init__" (fnArgs s_Part_init) (fnBody s_Part_init) (fnScope s_Part_init) .none kV1 dc1 pm1 an1 cd1 ct1), sl1⟩) (c1 : PySem.W.codeIn K cd1 "Part.__init__" = true)
    (a2 : PySem.W.findIn K (.ref C) "kept" = some (some (.ref f2))) (i2 : PySem.W.isFn K (.ref f2) = true) (l2 : K.lookup f2 = some ⟨oc2, od2, .func (PySem.W.fnOf "kept" "Part.kept" (fnArgs s_Part_kept) (fnBody s_Part_kept) (fnScope s_Part_kept) .none kV2 dc2 pm2 an2 cd2 ct2), sl2⟩) (c2 : PySem.W.codeIn K cd2 "Part.kept" = true) (k2 : PySem.W.keepIn K (.ref f2) = true)
    (a3 : PySem.W.findIn K (.ref C) "gains" = some (some (.ref f3))) (i3 : PySem.W.isFn K (.ref f3) = true) (l3 : K.lookup f3 = some ⟨oc3, od3, .func (PySem.W.fnOf "gains" "Part.gains" (fnArgs s_Part_gains) (fnBody s_Part_gains) (fnScope s_Part_gains) .none kV3 dc3 pm3 an3 cd3 ct3), sl3⟩) (c3 : PySem.W.codeIn K cd3 "Part.gains" = true) (k3 : PySem.W.keepIn K (.ref f3) = true)
    (a4 : PySem.W.findIn K (.ref C) "linked" = some (some (.ref f4))) (i4 : PySem.W.isFn K (.ref f4) = true) (l4 : K.lookup f4 = some ⟨oc4, od4, .func (PySem.W.fnOf "linked" "Part.linked" (fnArgs s_Part_linked) (fnBody s_Part_linked) (fnScope s_Part_linked) .none kV4 dc4 pm4 an4 cd4 ct4), sl4⟩) (c4 : PySem.W.codeIn K cd4 "Part.linked" = true) (k4 : PySem.W.keepIn K (.ref f4) = true) :
    ∃ C, PTxt K mg C ∧ Dk K C "Part.__init__" s_Part_init ["self", "table", "waits", "outer"] ∧ Dm K C "kept" "Part.kept" s_Part_kept ["self"] ∧ Dm K C "gains" "Part.gains" s_Part_gains ["self"] ∧ Dm K C "linked" "Part.linked" s_Part_linked ["self", "other", "there", "back"] :=
  have cl : Cls K C := ⟨pg, hd, po, sa⟩
  ⟨C, ⟨cl, nG, nT, nW, nO, ⟨cl, ha, hn, htk, hm, if_pos (beq_self_eq_true _)⟩, ⟨_, PySem.W.mg_of X G aC, rfl⟩⟩,
    dk_mk mk kc a1 i1 l1 c1 (fun _ _ _ _ _ _ us hl => match us, hl with | [_, _, _, _], _ => rfl), dm_mk a2 i2 l2 c2 k2 (fun _ _ _ _ _ _ us hl => match us, hl with | [_], _ => rfl), dm_mk a3 i3 l3 c3 k3 (fun _ _ _ _ _ _ us hl => match us, hl with | [_], _ => rfl), dm_mk a4 i4 l4 c4 k4 (fun _ _ _ _ _ _ us hl => match us, hl with | [_, _, _, _], _ => rfl)⟩
theorem law_fn {l : PySem.W.OpenLaw} {w : World} {K : PySem.W.Frag} {h : Heap} {mg : Str → Option Value} {fa f : Addr} {oc kV dc pm cd ct : Value} {od an : Option Addr} {sl : Array (Option Value)} (X : K.In h) (G : h.Ns mainGlobals mg) (hfa : mg "law" = some (.ref fa))
    (a : PySem.W.nsIn K mainGlobals "law" = some (some (.ref f))) (lk : K.lookup f = some ⟨oc, od, .func (PySem.W.fnOf "law" "law" (fnArgs s_law) (fnBody s_law) (fnScope s_law) .none kV dc pm an cd ct), sl⟩) (cc : PySem.W.codeIn K cd "law" = true)
    (c : ∀ (base : Heap) (f : Addr) (fd : FuncData), C8.Fun K "law" "law" s_law f fd → FnOk l.prog w K mg base C8.CX0 9 f fd ["_law_script"] (spLaw K)) :
    ∃ fd : FuncData, (∀ (s : Shared) (v : Value), BindsTo s fd ⟨[v], []⟩ [("_law_script", v)]) ∧ ∀ base : Heap, K.In base → base.Ns mainGlobals mg → FnOk l.prog w K mg base C8.CX0 9 fa fd ["_law_script"] (spLaw K) := by
  have e := hfa.symm.trans (PySem.W.mg_of X G a)
  cases e
  exact ⟨PySem.W.fnOf "law" "law" (fnArgs s_law) (fnBody s_law) (fnScope s_law) .none kV dc pm an cd ct, fun s v => .of_eq rfl, fun base _ _ => c base fa _ ⟨oc, od, .none, kV, dc, pm, an, cd, ct, sl, rfl, lk, cc⟩⟩
theorem walk {l : PySem.W.OpenLaw} {q : Program} {loose : List Str} {XP : (Str → Option Value) → Heap → Prop} {YP : World → Heap → Prop} {d : DefRec} {K : Params → PySem.W.Frag} (hn : l.most = some 63) (hdf : d.params.defaults = [])
    (hY : ∀ (w : World) (h : Heap), YP w h → (K w.params).In h)
    (F : ∀ (w : World) (mg : Str → Option Value) (fa : Addr) (h : Heap), (K w.params).In h → h.Ns mainGlobals mg → mg d.name = some (.ref fa) →
      ∃ fd : FuncData, (∀ (s : Shared) (u : Value), BindsTo s fd ⟨[u], []⟩ [("_law_script", u)]) ∧ ∀ base : Heap, (K w.params).In base → base.Ns mainGlobals mg → FnOk l.prog w (K w.params) mg base C8.CX0 9 fa fd ["_law_script"] (spLaw (K w.params))) :
    PySem.W.WalkO q loose XP YP l.row.toRowW d [] (fun f vs => PySem.call f vs) :=
  L2.walk_of (n := 63) (k := 9) (x := "_law_script") (CX := fun _ => C8.CX0) (sp := fun w => spLaw (K w.params)) hn (by decide) hdf ⟨rfl, by decide, by decide⟩ hY F (fun _ _ a ns hl _ hS => ⟨a, ns, rfl, hS, hl, fun _ => rfl⟩) fun _ _ _ _ _ z => z
end K60

open PySem PySem.W PyProof.Rows
set_option maxRecDepth 100000 in
set_option maxHeartbeats 0 in
theorem PySem.Challenge.cw_bestunmoved_k60_whole_parts_exchanged_by_holds : PySem.Challenge.rw_bestunmoved_k60_whole_parts_exchanged_by.Holds := by
  w_on; o_law; k_head; (case hw => w_witness2)
  k_fill
  refine K60.walk (l := PySem.Challenge.rw_bestunmoved_k60_whole_parts_exchanged_by) rfl rfl (fun w h Y => PySem.W.kIn_of Y) ?F
  case F =>
    intro w mg fa h KX G hmg
    have t_isinstance : mg "isinstance" = none := PySem.W.mg_none_of KX G (by k_is)
    have t_len : mg "len" = none := PySem.W.mg_none_of KX G (by k_is)
    have t_all : mg "all" = none := PySem.W.mg_none_of KX G (by k_is)
    have t_abs : mg "abs" = none := PySem.W.mg_none_of KX G (by k_is)
    have t_sorted : mg "sorted" = none := PySem.W.mg_none_of KX G (by k_is)
    have t_max : mg "max" = none := PySem.W.mg_none_of KX G (by k_is)
    have t_min : mg "min" = none := PySem.W.mg_none_of KX G (by k_is)
    have t_int : mg "int" = none := PySem.W.mg_none_of KX G (by k_is)
    have t_bool : mg "bool" = none := PySem.W.mg_none_of KX G (by k_is)
    have t_str : mg "str" = none := PySem.W.mg_none_of KX G (by k_is)
    have t_tuple : mg "tuple" = none := PySem.W.mg_none_of KX G (by k_is)
    have t_list : mg "list" = none := PySem.W.mg_none_of KX G (by k_is)
    have t_set : mg "set" = none := PySem.W.mg_none_of KX G (by k_is)
    have t_range : mg "range" = none := PySem.W.mg_none_of KX G (by k_is)
    have t_enumerate : mg "enumerate" = none := PySem.W.mg_none_of KX G (by k_is)
    have t_zip : mg "zip" = none := PySem.W.mg_none_of KX G (by k_is)
    have T : K60.Txt mg := ⟨t_isinstance, t_len, t_all, t_abs, t_sorted, t_max, t_min, t_int, t_bool, t_str, t_tuple, t_list, t_set, t_range, t_enumerate, t_zip⟩
    obtain ⟨C, TP, d_Part_init, d_Part_kept, d_Part_gains, d_Part_linked⟩ : ∃ C, K60.PTxt _ mg C ∧ _ := by
      refine' K60.part_mk KX G ?aC ?pg ?hd ?po ?sa ?mk ?kc ?nG ?nT ?nW ?nO ?ha ?hn ?htk ?hm ?a1 ?i1 ?l1 ?c1 ?a2 ?i2 ?l2 ?c2 ?k2 ?a3 ?i3 ?l3 ?c3 ?k3 ?a4 ?i4 ?l4 ?c4 ?k4
      (case aC => k_is)
      (case pg => k_is)
      (case hd => k_is)
      (case po => k_is)
      (case sa => k_is)
      (case mk => k_is)
      (case kc => k_is)
      (case nG => k_is)
      (case nT => k_is)
      (case nW => k_is)
      (case nO => k_is)
      (case ha => k_is)
      (case hn => k_is)
      (case htk => k_is)
      (case hm => k_is)
      (case a1 => k_is)
      (case i1 => k_is)
      (case l1 => k_is)
      (case c1 => k_is)
      (case a2 => k_is)
      (case i2 => k_is)
      (case l2 => k_is)
      (case c2 => k_is)
      (case k2 => k_is)
      (case a3 => k_is)
      (case i3 => k_is)
      (case l3 => k_is)
      (case c3 => k_is)
      (case k3 => k_is)
      (case a4 => k_is)
      (case i4 => k_is)
      (case l4 => k_is)
      (case c4 => k_is)
      (case k4 => k_is)
    refine' K60.dx_then (x := "is_integer") (st := K60.s_is_integer) (ps := ["thing"]) KX G ?a3032 ?l3032 ?c3032 ?k3032 (fun _ _ _ _ _ _ us hl => match us, hl with | [_], _ => rfl) ?n3032
    (case a3032 => k_is)
    (case l3032 => k_is)
    (case c3032 => k_is)
    (case k3032 => k_is)
    intro d_is_integer
    refine' K60.dx_then (x := "is_number") (st := K60.s_is_number) (ps := ["thing"]) KX G ?a3343 ?l3343 ?c3343 ?k3343 (fun _ _ _ _ _ _ us hl => match us, hl with | [_], _ => rfl) ?n3343
    (case a3343 => k_is)
    (case l3343 => k_is)
    (case c3343 => k_is)
    (case k3343 => k_is)
    intro d_is_number
    refine' K60.dx_then (x := "_lessened") (st := K60.s__lessened) (ps := ["entry", "units"]) KX G ?a3651 ?l3651 ?c3651 ?k3651 (fun _ _ _ _ _ _ us hl => match us, hl with | [_, _], _ => rfl) ?n3651
    (case a3651 => k_is)
    (case l3651 => k_is)
    (case c3651 => k_is)
    (case k3651 => k_is)
    intro d__lessened
    refine' K60.dx_then (x := "_turned") (st := K60.s__turned) (ps := ["units"]) KX G ?a3971 ?l3971 ?c3971 ?k3971 (fun _ _ _ _ _ _ us hl => match us, hl with | [_], _ => rfl) ?n3971
    (case a3971 => k_is)
    (case l3971 => k_is)
    (case c3971 => k_is)
    (case k3971 => k_is)
    intro d__turned
    refine' K60.dx_then (x := "is_lot") (st := K60.s_is_lot) (ps := ["size", "thing"]) KX G ?a4273 ?l4273 ?c4273 ?k4273 (fun _ _ _ _ _ _ us hl => match us, hl with | [_, _], _ => rfl) ?n4273
    (case a4273 => k_is)
    (case l4273 => k_is)
    (case c4273 => k_is)
    (case k4273 => k_is)
    intro d_is_lot
    refine' K60.dx_then (x := "_are_part_waits") (st := K60.s__are_part_waits) (ps := ["size", "thing"]) KX G ?a4583 ?l4583 ?c4583 ?k4583 (fun _ _ _ _ _ _ us hl => match us, hl with | [_, _], _ => rfl) ?n4583
    (case a4583 => k_is)
    (case l4583 => k_is)
    (case c4583 => k_is)
    (case k4583 => k_is)
    intro d__are_part_waits
    refine' K60.dx_then (x := "need_table_waits") (st := K60.s_need_table_waits) (ps := ["size", "waits"]) KX G ?a4920 ?l4920 ?c4920 ?k4920 (fun _ _ _ _ _ _ us hl => match us, hl with | [_, _], _ => rfl) ?n4920
    (case a4920 => k_is)
    (case l4920 => k_is)
    (case c4920 => k_is)
    (case k4920 => k_is)
    intro d_need_table_waits
    refine' K60.dx_then (x := "_are_duty_rows") (st := K60.s__are_duty_rows) (ps := ["high", "wide", "thing"]) KX G ?a5260 ?l5260 ?c5260 ?k5260 (fun _ _ _ _ _ _ us hl => match us, hl with | [_, _, _], _ => rfl) ?n5260
    (case a5260 => k_is)
    (case l5260 => k_is)
    (case c5260 => k_is)
    (case k5260 => k_is)
    intro d__are_duty_rows
    refine' K60.dx_then (x := "_look_at_links") (st := K60.s__look_at_links) (ps := ["near", "away", "there", "back"]) KX G ?a5605 ?l5605 ?c5605 ?k5605 (fun _ _ _ _ _ _ us hl => match us, hl with | [_, _, _, _], _ => rfl) ?n5605
    (case a5605 => k_is)
    (case l5605 => k_is)
    (case c5605 => k_is)
    (case k5605 => k_is)
    intro d__look_at_links
    refine' K60.dx_then (x := "is_table_row") (st := K60.s_is_table_row) (ps := ["size", "at", "row"]) KX G ?a5961 ?l5961 ?c5961 ?k5961 (fun _ _ _ _ _ _ us hl => match us, hl with | [_, _, _], _ => rfl) ?n5961
    (case a5961 => k_is)
    (case l5961 => k_is)
    (case c5961 => k_is)
    (case k5961 => k_is)
    intro d_is_table_row
    refine' K60.dx_then (x := "is_table") (st := K60.s_is_table) (ps := ["thing"]) KX G ?a6296 ?l6296 ?c6296 ?k6296 (fun _ _ _ _ _ _ us hl => match us, hl with | [_], _ => rfl) ?n6296
    (case a6296 => k_is)
    (case l6296 => k_is)
    (case c6296 => k_is)
    (case k6296 => k_is)
    intro d_is_table
    refine' K60.dx_then (x := "step_gains") (st := K60.s_step_gains) (ps := ["table", "waits"]) KX G ?a6601 ?l6601 ?c6601 ?k6601 (fun _ _ _ _ _ _ us hl => match us, hl with | [_, _], _ => rfl) ?n6601
    (case a6601 => k_is)
    (case l6601 => k_is)
    (case c6601 => k_is)
    (case k6601 => k_is)
    intro d_step_gains
    refine' K60.dx_then (x := "_side_by_side") (st := K60.s__side_by_side) (ps := ["rows", "others"]) KX G ?a6924 ?l6924 ?c6924 ?k6924 (fun _ _ _ _ _ _ us hl => match us, hl with | [_, _], _ => rfl) ?n6924
    (case a6924 => k_is)
    (case l6924 => k_is)
    (case c6924 => k_is)
    (case k6924 => k_is)
    intro d__side_by_side
    refine' K60.dx_then (x := "_best_of_two") (st := K60.s__best_of_two) (ps := ["rows", "others"]) KX G ?a7256 ?l7256 ?c7256 ?k7256 (fun _ _ _ _ _ _ us hl => match us, hl with | [_, _], _ => rfl) ?n7256
    (case a7256 => k_is)
    (case l7256 => k_is)
    (case c7256 => k_is)
    (case k7256 => k_is)
    intro d__best_of_two
    refine' K60.dx_then (x := "_greatest_walks") (st := K60.s__greatest_walks) (ps := ["rows"]) KX G ?a7585 ?l7585 ?c7585 ?k7585 (fun _ _ _ _ _ _ us hl => match us, hl with | [_], _ => rfl) ?n7585
    (case a7585 => k_is)
    (case l7585 => k_is)
    (case c7585 => k_is)
    (case k7585 => k_is)
    intro d__greatest_walks
    refine' K60.dx_then (x := "gains_of") (st := K60.s_gains_of) (ps := ["table", "waits", "outer"]) KX G ?a7910 ?l7910 ?c7910 ?k7910 (fun _ _ _ _ _ _ us hl => match us, hl with | [_, _, _], _ => rfl) ?n7910
    (case a7910 => k_is)
    (case l7910 => k_is)
    (case c7910 => k_is)
    (case k7910 => k_is)
    intro d_gains_of
    refine' K60.dx_then (x := "ring_behind") (st := K60.s_ring_behind) (ps := ["before", "door"]) KX G ?a8239 ?l8239 ?c8239 ?k8239 (fun _ _ _ _ _ _ us hl => match us, hl with | [_, _], _ => rfl) ?n8239
    (case a8239 => k_is)
    (case l8239 => k_is)
    (case c8239 => k_is)
    (case k8239 => k_is)
    intro d_ring_behind
    refine' K60.dx_then (x := "greatest_sums") (st := K60.s_greatest_sums) (ps := ["gains"]) KX G ?a8565 ?l8565 ?c8565 ?k8565 (fun _ _ _ _ _ _ us hl => match us, hl with | [_], _ => rfl) ?n8565
    (case a8565 => k_is)
    (case l8565 => k_is)
    (case c8565 => k_is)
    (case k8565 => k_is)
    intro d_greatest_sums
    refine' K60.dx_then (x := "barring_doors") (st := K60.s_barring_doors) (ps := ["table", "waits"]) KX G ?a8885 ?l8885 ?c8885 ?k8885 (fun _ _ _ _ _ _ us hl => match us, hl with | [_, _], _ => rfl) ?n8885
    (case a8885 => k_is)
    (case l8885 => k_is)
    (case c8885 => k_is)
    (case k8885 => k_is)
    intro d_barring_doors
    refine' K60.dx_then (x := "is_kept") (st := K60.s_is_kept) (ps := ["table", "waits"]) KX G ?a9217 ?l9217 ?c9217 ?k9217 (fun _ _ _ _ _ _ us hl => match us, hl with | [_, _], _ => rfl) ?n9217
    (case a9217 => k_is)
    (case l9217 => k_is)
    (case c9217 => k_is)
    (case k9217 => k_is)
    intro d_is_kept
    refine' K60.dx_then (x := "linked_tables") (st := K60.s_linked_tables) (ps := ["table", "other", "outer", "far", "there", "back"]) KX G ?a9531 ?l9531 ?c9531 ?k9531 (fun _ _ _ _ _ _ us hl => match us, hl with | [_, _, _, _, _, _], _ => rfl) ?n9531
    (case a9531 => k_is)
    (case l9531 => k_is)
    (case c9531 => k_is)
    (case k9531 => k_is)
    intro d_linked_tables
    refine' K60.dx_then (x := "linked_gains") (st := K60.s_linked_gains) (ps := ["gains", "other", "there", "back"]) KX G ?a9908 ?l9908 ?c9908 ?k9908 (fun _ _ _ _ _ _ us hl => match us, hl with | [_, _, _, _], _ => rfl) ?n9908
    (case a9908 => k_is)
    (case l9908 => k_is)
    (case c9908 => k_is)
    (case k9908 => k_is)
    intro d_linked_gains
    refine' K60.dx_then (x := "same_gains") (st := K60.s_same_gains) (ps := ["gains", "other"]) KX G ?a10260 ?l10260 ?c10260 ?k10260 (fun _ _ _ _ _ _ us hl => match us, hl with | [_, _], _ => rfl) ?n10260
    (case a10260 => k_is)
    (case l10260 => k_is)
    (case c10260 => k_is)
    (case k10260 => k_is)
    intro d_same_gains
    refine' K60.dx_then (x := "_first_differing") (st := K60.s__first_differing) (ps := ["gains", "other"]) KX G ?a10592 ?l10592 ?c10592 ?k10592 (fun _ _ _ _ _ _ us hl => match us, hl with | [_, _], _ => rfl) ?n10592
    (case a10592 => k_is)
    (case l10592 => k_is)
    (case c10592 => k_is)
    (case k10592 => k_is)
    intro d__first_differing
    refine' K60.dx_then (x := "telling_part") (st := K60.s_telling_part) (ps := ["gains", "other"]) KX G ?a10942 ?l10942 ?c10942 ?k10942 (fun _ _ _ _ _ _ us hl => match us, hl with | [_, _], _ => rfl) ?n10942
    (case a10942 => k_is)
    (case l10942 => k_is)
    (case c10942 => k_is)
    (case k10942 => k_is)
    intro d_telling_part
    refine' K60.dx_then (x := "_law_digits") (st := K60.s__law_digits) (ps := ["_law_script"]) KX G ?a11280 ?l11280 ?c11280 ?k11280 (fun _ _ _ _ _ _ us hl => match us, hl with | [_], _ => rfl) ?n11280
    (case a11280 => k_is)
    (case l11280 => k_is)
    (case c11280 => k_is)
    (case k11280 => k_is)
    intro d__law_digits
    refine' K60.dx_then (x := "_law_take") (st := K60.s__law_take) (ps := ["_law_digits_here", "_law_many"]) KX G ?a11609 ?l11609 ?c11609 ?k11609 (fun _ _ _ _ _ _ us hl => match us, hl with | [_, _], _ => rfl) ?n11609
    (case a11609 => k_is)
    (case l11609 => k_is)
    (case c11609 => k_is)
    (case k11609 => k_is)
    intro d__law_take
    refine' K60.dx_then (x := "_law_entry") (st := K60.s__law_entry) (ps := ["_law_digits_here", "_law_low", "_law_many", "_law_unit"]) KX G ?a11953 ?l11953 ?c11953 ?k11953 (fun _ _ _ _ _ _ us hl => match us, hl with | [_, _, _, _], _ => rfl) ?n11953
    (case a11953 => k_is)
    (case l11953 => k_is)
    (case c11953 => k_is)
    (case k11953 => k_is)
    intro d__law_entry
    refine' K60.dx_then (x := "_law_square") (st := K60.s__law_square) (ps := ["_law_digits_here", "_law_many", "_law_unit"]) KX G ?a12331 ?l12331 ?c12331 ?k12331 (fun _ _ _ _ _ _ us hl => match us, hl with | [_, _, _], _ => rfl) ?n12331
    (case a12331 => k_is)
    (case l12331 => k_is)
    (case c12331 => k_is)
    (case k12331 => k_is)
    intro d__law_square
    refine' K60.dx_then (x := "_law_lot") (st := K60.s__law_lot) (ps := ["_law_digits_here", "_law_many"]) KX G ?a12697 ?l12697 ?c12697 ?k12697 (fun _ _ _ _ _ _ us hl => match us, hl with | [_, _], _ => rfl) ?n12697
    (case a12697 => k_is)
    (case l12697 => k_is)
    (case c12697 => k_is)
    (case k12697 => k_is)
    intro d__law_lot
    refine' K60.dx_then (x := "_law_part") (st := K60.s__law_part) (ps := ["_law_digits_here", "_law_many", "_law_unit"]) KX G ?a13038 ?l13038 ?c13038 ?k13038 (fun _ _ _ _ _ _ us hl => match us, hl with | [_, _, _], _ => rfl) ?n13038
    (case a13038 => k_is)
    (case l13038 => k_is)
    (case c13038 => k_is)
    (case k13038 => k_is)
    intro d__law_part
    refine' K60.dx_then (x := "_law_duties") (st := K60.s__law_duties) (ps := ["_law_digits_here", "_law_many", "_law_other", "_law_unit"]) KX G ?a13398 ?l13398 ?c13398 ?k13398 (fun _ _ _ _ _ _ us hl => match us, hl with | [_, _, _, _], _ => rfl) ?n13398
    (case a13398 => k_is)
    (case l13398 => k_is)
    (case c13398 => k_is)
    (case k13398 => k_is)
    intro d__law_duties
    refine' K60.dx_then (x := "_law_same") (st := K60.s__law_same) (ps := ["_law_told", "_law_due"]) KX G ?a13781 ?l13781 ?c13781 ?k13781 (fun _ _ _ _ _ _ us hl => match us, hl with | [_, _], _ => rfl) ?n13781
    (case a13781 => k_is)
    (case l13781 => k_is)
    (case c13781 => k_is)
    (case k13781 => k_is)
    intro d__law_same
    refine' K60.dx_then (x := "_law_gains") (st := K60.s__law_gains) (ps := ["_law_table", "_law_waits", "_law_outer"]) KX G ?a14117 ?l14117 ?c14117 ?k14117 (fun _ _ _ _ _ _ us hl => match us, hl with | [_, _, _], _ => rfl) ?n14117
    (case a14117 => k_is)
    (case l14117 => k_is)
    (case c14117 => k_is)
    (case k14117 => k_is)
    intro d__law_gains
    refine' K60.dx_then (x := "_law_linked") (st := K60.s__law_linked) (ps := ["_law_table", "_law_other", "_law_outer", "_law_far", "_law_there", "_law_back"]) KX G ?a14476 ?l14476 ?c14476 ?k14476 (fun _ _ _ _ _ _ us hl => match us, hl with | [_, _, _, _, _, _], _ => rfl) ?n14476
    (case a14476 => k_is)
    (case l14476 => k_is)
    (case c14476 => k_is)
    (case k14476 => k_is)
    intro d__law_linked
    refine' K60.dx_then (x := "_law_made") (st := K60.s__law_made) (ps := ["_law_gains_here"]) KX G ?a14886 ?l14886 ?c14886 ?k14886 (fun _ _ _ _ _ _ us hl => match us, hl with | [_], _ => rfl) ?n14886
    (case a14886 => k_is)
    (case l14886 => k_is)
    (case c14886 => k_is)
    (case k14886 => k_is)
    intro d__law_made
    refine' K60.dx_then (x := "_law_padded") (st := K60.s__law_padded) (ps := ["_law_digits_here", "_law_table", "_law_waits", "_law_outer", "_law_unit"]) KX G ?a15213 ?l15213 ?c15213 ?k15213 (fun _ _ _ _ _ _ us hl => match us, hl with | [_, _, _, _, _], _ => rfl) ?n15213
    (case a15213 => k_is)
    (case l15213 => k_is)
    (case c15213 => k_is)
    (case k15213 => k_is)
    intro d__law_padded
    refine' K60.dx_then (x := "_law_raised") (st := K60.s__law_raised) (ps := ["_law_digits_here", "_law_table", "_law_waits", "_law_outer", "_law_unit"]) KX G ?a15614 ?l15614 ?c15614 ?k15614 (fun _ _ _ _ _ _ us hl => match us, hl with | [_, _, _, _, _], _ => rfl) ?n15614
    (case a15614 => k_is)
    (case l15614 => k_is)
    (case c15614 => k_is)
    (case k15614 => k_is)
    intro d__law_raised
    refine' K60.dx_then (x := "_law_bent") (st := K60.s__law_bent) (ps := ["_law_digits_here", "_law_part_here", "_law_unit"]) KX G ?a16015 ?l16015 ?c16015 ?k16015 (fun _ _ _ _ _ _ us hl => match us, hl with | [_, _, _], _ => rfl) ?n16015
    (case a16015 => k_is)
    (case l16015 => k_is)
    (case c16015 => k_is)
    (case k16015 => k_is)
    intro d__law_bent
    refine' K60.dx_then (x := "_law_second") (st := K60.s__law_second) (ps := ["_law_digits_here", "_law_table", "_law_waits", "_law_outer", "_law_gains_here", "_law_unit"]) KX G ?a16380 ?l16380 ?c16380 ?k16380 (fun _ _ _ _ _ _ us hl => match us, hl with | [_, _, _, _, _, _], _ => rfl) ?n16380
    (case a16380 => k_is)
    (case l16380 => k_is)
    (case c16380 => k_is)
    (case k16380 => k_is)
    intro d__law_second
    refine' K60.dx_then (x := "_law_numbers") (st := K60.s__law_numbers) (ps := ["_law_told", "_law_many", "_law_least"]) KX G ?a16803 ?l16803 ?c16803 ?k16803 (fun _ _ _ _ _ _ us hl => match us, hl with | [_, _, _], _ => rfl) ?n16803
    (case a16803 => k_is)
    (case l16803 => k_is)
    (case c16803 => k_is)
    (case k16803 => k_is)
    intro d__law_numbers
    refine' K60.dx_then (x := "_law_grid") (st := K60.s__law_grid) (ps := ["_law_told", "_law_many", "_law_wide", "_law_numbers_here"]) KX G ?a17166 ?l17166 ?c17166 ?k17166 (fun _ _ _ _ _ _ us hl => match us, hl with | [_, _, _, _], _ => rfl) ?n17166
    (case a17166 => k_is)
    (case l17166 => k_is)
    (case c17166 => k_is)
    (case k17166 => k_is)
    intro d__law_grid
    refine' K60.dx_then (x := "_law_telling_shown") (st := K60.s__law_telling_shown) (ps := ["_law_first", "_law_second_here", "_law_gains_here", "_law_told"]) KX G ?a17543 ?l17543 ?c17543 ?k17543 (fun _ _ _ _ _ _ us hl => match us, hl with | [_, _, _, _], _ => rfl) ?n17543
    (case a17543 => k_is)
    (case l17543 => k_is)
    (case c17543 => k_is)
    (case k17543 => k_is)
    intro d__law_telling_shown
    refine' K60.dx_then (x := "_law_wholes") (st := K60.s__law_wholes) (ps := ["_law_digits_here", "_law_first", "_law_second_here", "_law_gains_here", "_law_unit"]) KX G ?a17953 ?l17953 ?c17953 ?k17953 (fun _ _ _ _ _ _ us hl => match us, hl with | [_, _, _, _, _], _ => rfl) ?n17953
    (case a17953 => k_is)
    (case l17953 => k_is)
    (case c17953 => k_is)
    (case k17953 => k_is)
    intro d__law_wholes
    refine' K60.law_fn KX G hmg ?az ?lz ?cz fun base f fd F => K60.all_ok T TP d_is_integer d_is_number d__lessened d__turned d_is_lot d__are_part_waits d_need_table_waits d__are_duty_rows d__look_at_links d_is_table_row d_is_table d_step_gains d__side_by_side d__best_of_two d__greatest_walks d_gains_of d_ring_behind d_greatest_sums d_barring_doors d_is_kept d_linked_tables d_linked_gains d_Part_init d_Part_kept d_Part_gains d_Part_linked d_same_gains d__first_differing d_telling_part d__law_digits d__law_take d__law_entry d__law_square d__law_lot d__law_part d__law_duties d__law_same d__law_gains d__law_linked d__law_made d__law_padded d__law_raised d__law_bent d__law_second d__law_numbers d__law_grid d__law_telling_shown d__law_wholes F
    (case az => k_is)
    (case lz => k_is)
    (case cz => k_is)

