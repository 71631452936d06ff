import PyProof.Rows.All
import Wide.All
import OpenK.AllK
import Wide.FinOn
import HandS.ForMost
import HandS.Star
import HandS.IterVal
import HandS.Property
import HandS.MakeKwOnly
import HandS.TupAny
import HandS.IsInst
import HandS.TupLe
import HandS.Sort
import HandS.WordsExc
import HandS.TryOnly
import HandS.Style
import HandS.Wide
import HandS.Walk
import HandS.Evl
import KE.GoesEnum
import KE.KDictDisplayH
import PySem.Challenge.RW_oneorderalone_k91_whole_closings
set_option Elab.async false
set_option linter.all false
set_option maxRecDepth 100000
set_option maxHeartbeats 4000000
/-! plain law, part 1: shortest distances, feasible places -/
namespace K9
/-- a table of distances, none: no bound -/
abbrev G := Nat → Nat → Option Int
def near : Option Int → Option Int → Option Int
  | none, b => b
  | some a, none => some a
  | some a, some b => if a ≤ b then some a else some b
def plusO : Option Int → Option Int → Option Int
  | some a, some b => some (a + b)
  | _, _ => none
def leO (x y : Option Int) : Prop := ∀ d, y = some d → ∃ c, x = some c ∧ c ≤ d
theorem leO.refl (x : Option Int) : leO x x := fun d h => ⟨d, h, Int.le_refl d⟩
theorem leO.trans {x y z : Option Int} (a : leO x y) (b : leO y z) : leO x z := fun d h => by
  obtain ⟨c, hc, l⟩ := b d h
  obtain ⟨e, he, l2⟩ := a c hc
  exact ⟨e, he, by omega⟩
theorem near_l (a b : Option Int) : leO (near a b) a := fun d h => by
  subst h
  cases b with
  | none => exact ⟨d, rfl, Int.le_refl d⟩
  | some e =>
    simp only [near]
    split
    · exact ⟨d, rfl, Int.le_refl d⟩
    · exact ⟨e, rfl, by omega⟩
theorem near_r (a b : Option Int) : leO (near a b) b := fun d h => by
  subst h
  cases a with
  | none => exact ⟨d, rfl, Int.le_refl d⟩
  | some e =>
    simp only [near]
    split
    · exact ⟨e, rfl, by omega⟩
    · exact ⟨d, rfl, Int.le_refl d⟩
theorem near_or (a b : Option Int) : near a b = a ∨ near a b = b := by
  cases a with
  | none => exact .inr rfl
  | some x =>
    cases b with
    | none => exact .inl rfl
    | some y =>
      simp only [near]
      split
      · exact .inl rfl
      · exact .inr rfl
theorem near_self {a b : Option Int} (h : leO a b) : near a b = a := by
  cases b with
  | none => cases a <;> rfl
  | some y =>
    obtain ⟨c, rfl, l⟩ := h y rfl
    simp only [near]
    rw [if_pos l]
theorem plusO_some {a b : Option Int} {d : Int} (h : plusO a b = some d) : ∃ x y, a = some x ∧ b = some y ∧ d = x + y := by
  cases a with
  | none => cases h
  | some x =>
    cases b with
    | none => cases h
    | some y => exact ⟨x, y, rfl, rfl, (Option.some.inj h).symm⟩
theorem plusO_mono {a b c d : Option Int} (h1 : leO a c) (h2 : leO b d) : leO (plusO a b) (plusO c d) := fun z hz => by
  obtain ⟨x, y, rfl, rfl, rfl⟩ := plusO_some hz
  obtain ⟨x', rfl, l1⟩ := h1 x rfl
  obtain ⟨y', rfl, l2⟩ := h2 y rfl
  exact ⟨x' + y', rfl, by omega⟩
/-- one middle point -/
def stepG (m : Nat) (g : G) : G := fun i j => near (g i j) (plusO (g i m) (g m j))
def fwk : Nat → G → G
  | 0, g => g
  | m + 1, g => stepG m (fwk m g)
/-- all middle points below n -/
abbrev fw (n : Nat) (g : G) : G := fwk n g
/-- places that keep all distances -/
def Pot (p : Nat → Int) (n : Nat) (g : G) : Prop := ∀ i j, i < n → j < n → ∀ d, g i j = some d → p j - p i ≤ d
def Feas (n : Nat) (g : G) : Prop := ∃ p, Pot p n g
def NN (n : Nat) (g : G) : Prop := ∀ i, i < n → ∀ d, g i i = some d → 0 ≤ d
/-- the diagonal stands, at or below nought -/
def DS (n : Nat) (g : G) : Prop := ∀ i, i < n → ∃ d, g i i = some d ∧ d ≤ 0
def Conn (n : Nat) (g : G) : Prop := ∀ i, i + 1 < n → ∃ d, g (i + 1) i = some d
theorem step_le (m : Nat) (g : G) (i j : Nat) : leO (stepG m g i j) (g i j) := near_l _ _
theorem fwk_le : ∀ (m : Nat) (g : G) (i j : Nat), leO (fwk m g i j) (g i j)
  | 0, _, _, _ => leO.refl _
  | m + 1, g, i, j => (step_le m _ i j).trans (fwk_le m g i j)
theorem fwk_anti {k m : Nat} (h : k ≤ m) (g : G) (i j : Nat) : leO (fwk m g i j) (fwk k g i j) := by
  induction m with
  | zero =>
    obtain rfl : k = 0 := by omega
    exact leO.refl _
  | succ m ih =>
    by_cases e : k = m + 1
    · subst e
      exact leO.refl _
    · exact (step_le m _ i j).trans (ih (by omega))
theorem step_pot {p : Nat → Int} {n m : Nat} {g : G} (h : Pot p n g) (hm : m < n) : Pot p n (stepG m g) := fun i j hi hj d e => by
  rcases near_or (g i j) (plusO (g i m) (g m j)) with q | q
  · exact h i j hi hj d (q.symm.trans e)
  · obtain ⟨x, y, h1, h2, rfl⟩ := plusO_some (q.symm.trans e)
    have a := h i m hi hm x h1
    have b := h m j hm hj y h2
    omega
theorem fwk_pot {p : Nat → Int} {n : Nat} {g : G} (h : Pot p n g) : ∀ m, m ≤ n → Pot p n (fwk m g)
  | 0, _ => h
  | m + 1, hm => step_pot (fwk_pot h m (by omega)) (by omega)
theorem DS.le {n : Nat} {g g' : G} (h : DS n g) (l : ∀ i, leO (g' i i) (g i i)) : DS n g' := fun i hi => by
  obtain ⟨d, e, hd⟩ := h i hi
  obtain ⟨c, e2, hc⟩ := l i d e
  exact ⟨c, e2, by omega⟩
theorem NN.le {n : Nat} {g g' : G} (h : NN n g') (l : ∀ i, leO (g' i i) (g i i)) : NN n g := fun i hi d e => by
  obtain ⟨c, e2, hc⟩ := l i d e
  have := h i hi c e2
  omega
def Tri (n m : Nat) (g : G) : Prop := ∀ k, k < m → ∀ i j, i < n → j < n → leO (g i j) (plusO (g i k) (g k j))
theorem step_tri {n m : Nat} {g : G} (h : Tri n m g) (hm : m < n) (h0 : g m m = some 0) : Tri n (m + 1) (stepG m g) := by
  intro k hk i j hi hj
  have e1 : ∀ a, stepG m g a m = g a m := fun a => near_self fun d e => by
    rw [h0] at e
    obtain ⟨x, y, h1, h2, rfl⟩ := plusO_some e
    cases h2
    exact ⟨x, h1, by omega⟩
  have e2 : ∀ b, stepG m g m b = g m b := fun b => near_self fun d e => by
    rw [h0] at e
    obtain ⟨x, y, h1, h2, rfl⟩ := plusO_some e
    cases h1
    exact ⟨y, h2, by omega⟩
  by_cases hkm : k = m
  · subst hkm
    rw [e1, e2]
    exact near_r _ _
  · have hk' : k < m := by omega
    intro d e
    obtain ⟨x, y, hx, hy, rfl⟩ := plusO_some e
    have t : ∀ a b, a < n → b < n → leO (g a b) (plusO (g a k) (g k b)) := fun a b ha hb => h k hk' a b ha hb
    have key : ∀ z, leO (near (g i j) (plusO (g i m) (g m j))) z → leO (stepG m g i j) z := fun z hz => hz
    rcases near_or (g i k) (plusO (g i m) (g m k)) with q1 | q1
    · rcases near_or (g k j) (plusO (g k m) (g m j)) with q2 | q2
      · have a1 : g i k = some x := q1.symm.trans hx
        have a2 : g k j = some y := q2.symm.trans hy
        exact (key _ (near_l _ _)).trans (t i j hi hj) (x + y) (by rw [a1, a2]; rfl)
      · have a1 : g i k = some x := q1.symm.trans hx
        obtain ⟨u, v, a2, a3, rfl⟩ := plusO_some (q2.symm.trans hy)
        obtain ⟨c, hc, lc⟩ := t i m hi hm (x + u) (by rw [a1, a2]; rfl)
        obtain ⟨f, hf, lf⟩ := key _ (near_r _ _) (c + v) (by rw [hc, a3]; rfl)
        exact ⟨f, hf, by omega⟩
    · obtain ⟨u, v, a2, a3, rfl⟩ := plusO_some (q1.symm.trans hx)
      rcases near_or (g k j) (plusO (g k m) (g m j)) with q2 | q2
      · have a1 : g k j = some y := q2.symm.trans hy
        obtain ⟨c, hc, lc⟩ := t m j hm hj (v + y) (by rw [a3, a1]; rfl)
        obtain ⟨f, hf, lf⟩ := key _ (near_r _ _) (u + c) (by rw [hc, a2]; rfl)
        exact ⟨f, hf, by omega⟩
      · obtain ⟨u', v', b2, b3, rfl⟩ := plusO_some (q2.symm.trans hy)
        obtain ⟨c, hc, lc⟩ := t m m hm hm (v + u') (by rw [a3, b2]; rfl)
        rw [h0] at hc
        obtain rfl := Option.some.inj hc
        obtain ⟨f, hf, lf⟩ := key _ (near_r _ _) (u + v') (by rw [a2, b3]; rfl)
        exact ⟨f, hf, by omega⟩
theorem fwk_tri {n : Nat} {g : G} (hd : DS n g) (hn : NN n (fw n g)) : ∀ m, m ≤ n → Tri n m (fwk m g)
  | 0, _ => fun k hk => by omega
  | m + 1, hm => step_tri (fwk_tri hd hn m (by omega)) (by omega) (by
      obtain ⟨d, e, l⟩ := (hd.le (g' := fwk m g) fun i => fwk_le m g i i) m (by omega)
      have := (hn.le (g := fwk m g) fun i => fwk_anti (by omega) g i i) m (by omega) d e
      obtain rfl : d = 0 := by omega
      exact e)
theorem fw_tri {n : Nat} {g : G} (hd : DS n g) (hn : NN n (fw n g)) : Tri n n (fw n g) := fwk_tri hd hn n (Nat.le_refl n)
theorem col0 {n : Nat} {g : G} (ht : Tri n n g) (hd : DS n g) (hc : Conn n g) : ∀ i, i < n → ∃ d, g i 0 = some d
  | 0, h => by
    obtain ⟨d, e, _⟩ := hd 0 h
    exact ⟨d, e⟩
  | i + 1, h => by
    obtain ⟨d, e⟩ := hc i h
    obtain ⟨c, e2⟩ := col0 ht hd hc i (by omega)
    obtain ⟨f, hf, _⟩ := ht i (by omega) (i + 1) 0 h (by omega) (d + c) (by rw [e, e2]; rfl)
    exact ⟨f, hf⟩
theorem pot_of_tri {n : Nat} {g : G} (ht : Tri n n g) (hd : DS n g) (hc : Conn n g) : Feas n g := by
  refine ⟨fun i => match g i 0 with | some d => -d | none => 0, fun i j hi hj d e => ?_⟩
  obtain ⟨a, ha⟩ := col0 ht hd hc i hi
  obtain ⟨b, hb⟩ := col0 ht hd hc j hj
  obtain ⟨f, hf, lf⟩ := ht j hj i 0 hi (by omega) (d + b) (by rw [e, hb]; rfl)
  rw [ha] at hf
  obtain rfl := Option.some.inj hf
  simp only [ha, hb]
  omega
theorem Conn.le {n : Nat} {g g' : G} (h : Conn n g) (l : ∀ i j, leO (g' i j) (g i j)) : Conn n g' := fun i hi => by
  obtain ⟨d, e⟩ := h i hi
  obtain ⟨c, hc, _⟩ := l (i + 1) i d e
  exact ⟨c, hc⟩
theorem Pot.mono {p : Nat → Int} {n : Nat} {g g' : G} (h : Pot p n g') (l : ∀ i j, leO (g' i j) (g i j)) : Pot p n g := fun i j hi hj d e => by
  obtain ⟨c, hc, lc⟩ := l i j d e
  have := h i j hi hj c hc
  omega
theorem fw_feas {n : Nat} {g : G} (hd : DS n g) (hc : Conn n g) (hn : NN n (fw n g)) : Feas n (fw n g) :=
  pot_of_tri (fw_tri hd hn) (hd.le fun i => fwk_le n g i i) (hc.le fun i j => fwk_le n g i j)
/-- no negative end of the diagonal exactly if there are places -/
theorem fw_iff {n : Nat} {g : G} (hd : DS n g) (hc : Conn n g) : NN n (fw n g) ↔ Feas n g := by
  constructor
  · intro h
    obtain ⟨p, hp⟩ := fw_feas hd hc h
    exact ⟨p, hp.mono fun i j => fwk_le n g i j⟩
  · rintro ⟨p, hp⟩ i hi d e
    have := fwk_pot hp n (Nat.le_refl n) i i hi hi d e
    omega
/-! ### the same, in place -/
def setG (g : G) (a b : Nat) (v : Option Int) : G := fun i j => if i = a ∧ j = b then v else g i j
def cellG (m a b : Nat) (g : G) : G := setG g a b (near (g a b) (plusO (g a m) (g m b)))
def rowG (m a : Nat) : Nat → G → G
  | 0, g => g
  | b + 1, g => cellG m a b (rowG m a b g)
def rowsG (n m : Nat) : Nat → G → G
  | 0, g => g
  | a + 1, g => rowG m a n (rowsG n m a g)
def ink (n : Nat) : Nat → G → G
  | 0, g => g
  | m + 1, g => rowsG n m n (ink n m g)
theorem cell_le (m a b : Nat) (g : G) (i j : Nat) : leO (cellG m a b g i j) (g i j) := by
  unfold cellG setG
  split
  · rename_i h
    obtain ⟨rfl, rfl⟩ := h
    exact near_l _ _
  · exact leO.refl _
theorem row_le (m a : Nat) : ∀ (b : Nat) (g : G) (i j : Nat), leO (rowG m a b g i j) (g i j)
  | 0, _, _, _ => leO.refl _
  | b + 1, g, i, j => (cell_le m a b _ i j).trans (row_le m a b g i j)
theorem rows_le (n m : Nat) : ∀ (a : Nat) (g : G) (i j : Nat), leO (rowsG n m a g i j) (g i j)
  | 0, _, _, _ => leO.refl _
  | a + 1, g, i, j => (row_le m a n _ i j).trans (rows_le n m a g i j)
theorem ink_le (n : Nat) : ∀ (m : Nat) (g : G) (i j : Nat), leO (ink n m g i j) (g i j)
  | 0, _, _, _ => leO.refl _
  | m + 1, g, i, j => (rows_le n m n _ i j).trans (ink_le n m g i j)
section
variable {g : G} {m : Nat} (h0 : g m m = some 0)
include h0
theorem st_col (a : Nat) : stepG m g a m = g a m := near_self fun d e => by
  rw [h0] at e
  obtain ⟨x, y, h1, h2, rfl⟩ := plusO_some e
  cases h2
  exact ⟨x, h1, by omega⟩
theorem st_row (b : Nat) : stepG m g m b = g m b := near_self fun d e => by
  rw [h0] at e
  obtain ⟨x, y, h1, h2, rfl⟩ := plusO_some e
  cases h1
  exact ⟨y, h2, by omega⟩
theorem row_eq {n a : Nat} {h : G} (hh : ∀ i j, h i j = if i < a ∧ j < n then stepG m g i j else g i j) : ∀ b, b ≤ n → ∀ i j, rowG m a b h i j = if (i < a ∧ j < n) ∨ (i = a ∧ j < b) then stepG m g i j else g i j
  | 0, _, i, j => by
    show h i j = _
    rw [hh]
    by_cases q : i < a ∧ j < n
    · rw [if_pos q, if_pos (.inl q)]
    · rw [if_neg q, if_neg (by omega)]
  | b + 1, hb, i, j => by
    have ih := row_eq hh b (by omega)
    have c1 : rowG m a b h a m = g a m := by
      rw [ih]
      split
      · exact st_col h0 a
      · rfl
    have c2 : rowG m a b h m b = g m b := by
      rw [ih]
      split
      · exact st_row h0 b
      · rfl
    have c3 : rowG m a b h a b = g a b := by
      rw [ih, if_neg (by omega)]
    show cellG m a b (rowG m a b h) i j = _
    unfold cellG setG
    by_cases q : i = a ∧ j = b
    · obtain ⟨rfl, rfl⟩ := q
      rw [if_pos ⟨rfl, rfl⟩, if_pos (.inr ⟨rfl, by omega⟩), c1, c2, c3]
      rfl
    · rw [if_neg q, ih]
      by_cases q2 : (i < a ∧ j < n) ∨ (i = a ∧ j < b)
      · rw [if_pos q2, if_pos (by omega)]
      · rw [if_neg q2, if_neg (by omega)]
theorem rows_eq (n : Nat) : ∀ a i j, rowsG n m a g i j = if i < a ∧ j < n then stepG m g i j else g i j
  | 0, i, j => by
    rw [if_neg (by omega)]
    rfl
  | a + 1, i, j => by
    show rowG m a n (rowsG n m a g) i j = _
    rw [row_eq h0 (rows_eq n a) n (Nat.le_refl n)]
    by_cases q : i < a + 1 ∧ j < n
    · rw [if_pos q, if_pos (by omega)]
    · rw [if_neg q, if_neg (by omega)]
end
def EqOn (n : Nat) (g g' : G) : Prop := ∀ i j, i < n → j < n → g i j = g' i j
theorem step_cong {n m : Nat} {g g' : G} (h : EqOn n g g') (hm : m < n) : EqOn n (stepG m g) (stepG m g') := fun i j hi hj => by
  unfold stepG
  rw [h i j hi hj, h i m hi hm, h m j hm hj]
def NegD (n : Nat) (g : G) : Prop := ∃ i d, i < n ∧ g i i = some d ∧ d < 0
theorem NegD.le {n : Nat} {g g' : G} (h : NegD n g) (l : ∀ i, leO (g' i i) (g i i)) : NegD n g' := by
  obtain ⟨i, d, hi, e, hd⟩ := h
  obtain ⟨c, e2, hc⟩ := l i d e
  exact ⟨i, c, hi, e2, by omega⟩
theorem ink_fwk {n : Nat} {g : G} (hd : DS n g) : ∀ m, m ≤ n → EqOn n (ink n m g) (fwk m g) ∨ (NegD n (ink n m g) ∧ NegD n (fwk m g))
  | 0, _ => .inl fun _ _ _ _ => rfl
  | m + 1, hm => by
    rcases ink_fwk hd m (by omega) with h | ⟨h1, h2⟩
    · obtain ⟨d, e, l⟩ := (hd.le (g' := ink n m g) fun i => ink_le n m g i i) m (by omega)
      by_cases h0 : d = 0
      · subst h0
        refine .inl fun i j hi hj => ?_
        show rowsG n m n (ink n m g) i j = _
        rw [rows_eq e n n i j, if_pos ⟨hi, hj⟩]
        exact step_cong h (by omega) i j hi hj
      · have b1 : NegD n (ink n m g) := ⟨m, d, by omega, e, by omega⟩
        have b2 : NegD n (fwk m g) := ⟨m, d, by omega, by rw [← h m m (by omega) (by omega)]; exact e, by omega⟩
        exact .inr ⟨b1.le fun i => rows_le n m n _ i i, b2.le fun i => step_le m _ i i⟩
    · exact .inr ⟨h1.le fun i => rows_le n m n _ i i, h2.le fun i => step_le m _ i i⟩
theorem not_neg {n : Nat} {g : G} : ¬ NegD n g ↔ NN n g := by
  constructor
  · intro h i hi d e
    by_cases q : 0 ≤ d
    · exact q
    · exact absurd ⟨i, d, hi, e, by omega⟩ h
  · rintro h ⟨i, d, hi, e, l⟩
    have := h i hi d e
    omega
/-- in place: the same verdict -/
theorem ink_neg {n : Nat} {g : G} (hd : DS n g) : NegD n (ink n n g) ↔ NegD n (fw n g) := by
  rcases ink_fwk hd n (Nat.le_refl n) with h0 | ⟨h1, h2⟩
  · have h : EqOn n (ink n n g) (fw n g) := h0
    constructor
    · rintro ⟨i, d, hi, e, l⟩
      exact ⟨i, d, hi, by rw [← h i i hi hi]; exact e, l⟩
    · rintro ⟨i, d, hi, e, l⟩
      exact ⟨i, d, hi, by rw [h i i hi hi]; exact e, l⟩
  · exact ⟨fun _ => h2, fun _ => h1⟩
/-- .. and the same distances where there are places -/
theorem ink_eq {n : Nat} {g : G} (hd : DS n g) (hn : ¬ NegD n (ink n n g)) : EqOn n (ink n n g) (fw n g) := by
  rcases ink_fwk hd n (Nat.le_refl n) with h | ⟨h1, _⟩
  · exact h
  · exact absurd h1 hn
/-! ### limits -/
structure Lim where
  lo : Nat
  hi : Nat
  le : Nat
  gr : Option Nat
def plainG (lots : Nat) : G := fun i j => if i = j then some 0 else if j + 1 = i then (if lots = 0 then some (-2) else some (-1)) else none
def extraG (l : Lim) : G := fun i j => if i = l.hi ∧ j = l.lo then some (-(l.le : Int) - 1) else if i = l.lo ∧ j = l.hi then l.gr.map (fun g => (g : Int) + 1) else none
def limG (g : G) (l : Lim) : G := fun i j => near (g i j) (extraG l i j)
def limsG (lots : Nat) (ls : List Lim) : G := ls.foldl limG (plainG lots)
def farG (lots : Nat) (ls : List Lim) : G := fw (lots + 2) (limsG lots ls)
def WfL (n : Nat) (l : Lim) : Prop := l.lo < l.hi ∧ l.hi < n
def LimOk (p : Nat → Int) (l : Lim) : Prop := (l.le : Int) + 1 ≤ p l.hi - p l.lo ∧ ∀ g, l.gr = some g → p l.hi - p l.lo ≤ (g : Int) + 1
theorem foldl_le : ∀ (ls : List Lim) (g : G) (i j : Nat), leO (ls.foldl limG g i j) (g i j)
  | [], _, _, _ => leO.refl _
  | l :: r, g, i, j => (foldl_le r (limG g l) i j).trans (near_l _ _)
theorem lim_pot {p : Nat → Int} {n : Nat} {g : G} {l : Lim} (hl : WfL n l) : Pot p n (limG g l) ↔ Pot p n g ∧ LimOk p l := by
  obtain ⟨h1, h2⟩ := hl
  constructor
  · intro h
    refine ⟨h.mono fun i j => near_l _ _, ?_, fun gg eg => ?_⟩
    · obtain ⟨c, hc, lc⟩ := near_r (g l.hi l.lo) (extraG l l.hi l.lo) (-(l.le : Int) - 1) (by unfold extraG; rw [if_pos ⟨rfl, rfl⟩])
      have := h l.hi l.lo h2 (by omega) c hc
      omega
    · obtain ⟨c, hc, lc⟩ := near_r (g l.lo l.hi) (extraG l l.lo l.hi) ((gg : Int) + 1) (by unfold extraG; rw [if_neg (by omega), if_pos ⟨rfl, rfl⟩, eg]; rfl)
      have := h l.lo l.hi (by omega) h2 c hc
      omega
  · rintro ⟨h, k1, k2⟩ i j hi hj d e
    rcases near_or (g i j) (extraG l i j) with q | q
    · exact h i j hi hj d (q.symm.trans e)
    · have e2 : extraG l i j = some d := q.symm.trans e
      unfold extraG at e2
      split at e2
      · rename_i c
        obtain ⟨rfl, rfl⟩ := c
        obtain rfl := Option.some.inj e2
        omega
      · split at e2
        · rename_i c
          obtain ⟨rfl, rfl⟩ := c
          cases hg : l.gr with
          | none =>
            rw [hg] at e2
            cases e2
          | some gg =>
            rw [hg] at e2
            have := k2 gg hg
            obtain rfl := Option.some.inj e2
            omega
        · cases e2
theorem foldl_pot {p : Nat → Int} {n : Nat} : ∀ {ls : List Lim} {g : G}, (∀ l ∈ ls, WfL n l) → (Pot p n (ls.foldl limG g) ↔ Pot p n g ∧ ∀ l ∈ ls, LimOk p l)
  | [], g, _ => ⟨fun h => ⟨h, fun l hl => by cases hl⟩, fun h => h.1⟩
  | l :: r, g, h => by
    show Pot p n (r.foldl limG (limG g l)) ↔ _
    rw [foldl_pot fun x hx => h x (List.mem_cons_of_mem _ hx), lim_pot (h l (List.mem_cons_self ..))]
    constructor
    · rintro ⟨⟨a, b⟩, c⟩
      refine ⟨a, fun x hx => ?_⟩
      rcases List.mem_cons.mp hx with rfl | hx
      · exact b
      · exact c x hx
    · rintro ⟨a, c⟩
      exact ⟨⟨a, c l (List.mem_cons_self ..)⟩, fun x hx => c x (List.mem_cons_of_mem _ hx)⟩
theorem plain_ds (lots n : Nat) : DS n (plainG lots) := fun i _ => ⟨0, by unfold plainG; rw [if_pos rfl], Int.le_refl 0⟩
theorem plain_conn (lots n : Nat) : Conn n (plainG lots) := fun i _ => by
  by_cases h : lots = 0
  · exact ⟨-2, by unfold plainG; rw [if_neg (by omega), if_pos rfl, if_pos h]⟩
  · exact ⟨-1, by unfold plainG; rw [if_neg (by omega), if_pos rfl, if_neg h]⟩
theorem lims_ds (lots n : Nat) (ls : List Lim) : DS n (limsG lots ls) := (plain_ds lots n).le fun i => foldl_le ls _ i i
theorem lims_conn (lots n : Nat) (ls : List Lim) : Conn n (limsG lots ls) := (plain_conn lots n).le fun i j => foldl_le ls _ i j
theorem far_ds (lots : Nat) (ls : List Lim) : DS (lots + 2) (farG lots ls) := (lims_ds lots _ ls).le fun i => fwk_le _ _ i i
theorem far_iff (lots : Nat) (ls : List Lim) : NN (lots + 2) (farG lots ls) ↔ Feas (lots + 2) (limsG lots ls) := fw_iff (lims_ds lots _ ls) (lims_conn lots _ ls)
/-- the law's own distances -/
def lawG (lots : Nat) (ls : List Lim) : G := ink (lots + 2) (lots + 2) (limsG lots ls)
theorem law_iff (lots : Nat) (ls : List Lim) : NN (lots + 2) (lawG lots ls) ↔ Feas (lots + 2) (limsG lots ls) := by
  rw [← far_iff, ← not_neg, ← not_neg]
  exact not_congr (ink_neg (lims_ds lots _ ls))
theorem law_eq (lots : Nat) (ls : List Lim) (h : NN (lots + 2) (lawG lots ls)) : EqOn (lots + 2) (lawG lots ls) (farG lots ls) := ink_eq (lims_ds lots _ ls) (not_neg.mpr h)
/-- places of a universe -/
def Places (p : Nat → Int) (lots : Nat) (ls : List Lim) : Prop := (∀ i, i < lots + 1 → p i + (if lots = 0 then 2 else 1) ≤ p (i + 1)) ∧ ∀ l ∈ ls, LimOk p l
theorem plain_pot {p : Nat → Int} {lots : Nat} : Pot p (lots + 2) (plainG lots) ↔ ∀ i, i < lots + 1 → p i + (if lots = 0 then 2 else 1) ≤ p (i + 1) := by
  constructor
  · intro h i hi
    by_cases c : lots = 0
    · have := h (i + 1) i (by omega) (by omega) (-2) (by unfold plainG; rw [if_neg (by omega), if_pos rfl, if_pos c])
      rw [if_pos c]
      omega
    · have := h (i + 1) i (by omega) (by omega) (-1) (by unfold plainG; rw [if_neg (by omega), if_pos rfl, if_neg c])
      rw [if_neg c]
      omega
  · intro h i j hi hj d e
    unfold plainG at e
    split at e
    · rename_i c
      subst c
      obtain rfl := Option.some.inj e
      omega
    · split at e
      · rename_i c
        subst c
        have := h j (by omega)
        split at e
        · rename_i c2
          rw [if_pos c2] at this
          obtain rfl := Option.some.inj e
          omega
        · rename_i c2
          rw [if_neg c2] at this
          obtain rfl := Option.some.inj e
          omega
      · cases e
theorem feas_iff {lots : Nat} {ls : List Lim} (h : ∀ l ∈ ls, WfL (lots + 2) l) : Feas (lots + 2) (limsG lots ls) ↔ ∃ p, Places p lots ls := by
  unfold Feas limsG Places
  constructor
  · rintro ⟨p, hp⟩
    obtain ⟨a, b⟩ := (foldl_pot h).mp hp
    exact ⟨p, plain_pot.mp a, b⟩
  · rintro ⟨p, a, b⟩
    exact ⟨p, (foldl_pot h).mpr ⟨plain_pot.mpr a, b⟩⟩
end K9

/-! plain law, part 2: rows of numbers in a box; walks that close -/
namespace K9
/-! ### the box -/
def vecs (most : Nat) : Nat → List (List Int)
  | 0 => [[]]
  | k + 1 => (vecs most k).flatMap fun r => (List.range (most + 1)).map fun (x : Nat) => r ++ [(x : Int)]
theorem mem_vecs (most : Nat) : ∀ (k : Nat) (v : List Int), v ∈ vecs most k ↔ v.length = k ∧ ∀ x ∈ v, 0 ≤ x ∧ x ≤ (most : Int)
  | 0, v => by
    simp only [vecs, List.mem_singleton]
    constructor
    · rintro rfl
      exact ⟨rfl, fun x hx => by cases hx⟩
    · rintro ⟨h, _⟩
      exact List.length_eq_zero_iff.mp h
  | k + 1, v => by
    simp only [vecs, List.mem_flatMap, List.mem_map, List.mem_range]
    constructor
    · rintro ⟨r, hr, x, hx, rfl⟩
      obtain ⟨h1, h2⟩ := (mem_vecs most k r).mp hr
      refine ⟨by simp [h1], fun y hy => ?_⟩
      rcases List.mem_append.mp hy with hy | hy
      · exact h2 y hy
      · obtain rfl := List.mem_singleton.mp hy
        omega
    · rintro ⟨h1, h2⟩
      have hne : v ≠ [] := fun e => by
        subst e
        simp at h1
      refine ⟨v.dropLast, (mem_vecs most k _).mpr ⟨by simp [h1], fun x hx => h2 x (List.dropLast_subset v hx)⟩, (v.getLast hne).toNat, ?_, ?_⟩
      · have := h2 _ (List.getLast_mem hne)
        omega
      · have := h2 _ (List.getLast_mem hne)
        have e : (((v.getLast hne).toNat : Nat) : Int) = v.getLast hne := by omega
        rw [e]
        exact List.dropLast_concat_getLast hne
/-- how many things lie between two points -/
def many (v : List Int) (lo hi : Nat) : Int := ((v.take hi).drop lo).sum + hi - lo - 1
def inLim (v : List Int) (l : Lim) : Prop := (l.le : Int) ≤ many v l.lo l.hi ∧ ∀ g, l.gr = some g → many v l.lo l.hi ≤ (g : Int)
def inCell (ls : List Lim) (v : List Int) : Prop := 1 ≤ v.sum + v.length - 1 ∧ ∀ l ∈ ls, inLim v l
theorem sum_app : ∀ (a b : List Int), (a ++ b).sum = a.sum + b.sum
  | [], b => by simp
  | x :: a, b => by
    rw [List.cons_append, List.sum_cons, List.sum_cons, sum_app a b]
    omega
theorem take_split (v : List Int) {lo hi : Nat} (h : lo ≤ hi) : v.take hi = v.take lo ++ (v.take hi).drop lo := by
  have := List.take_append_drop lo (v.take hi)
  rw [List.take_take, Nat.min_eq_left h] at this
  exact this.symm
theorem many_eq (v : List Int) {lo hi : Nat} (h : lo ≤ hi) : many v lo hi = ((v.take hi).sum + hi) - ((v.take lo).sum + lo) - 1 := by
  unfold many
  have := congrArg List.sum (take_split v h)
  rw [sum_app] at this
  omega
theorem sum_nonneg : ∀ (v : List Int), (∀ x ∈ v, 0 ≤ x) → 0 ≤ v.sum
  | [], _ => by simp
  | x :: r, h => by
    rw [List.sum_cons]
    have a := h x (List.mem_cons_self ..)
    have b := sum_nonneg r fun y hy => h y (List.mem_cons_of_mem _ hy)
    omega
theorem sum_ge : ∀ (v : List Int), (∀ x ∈ v, 0 ≤ x) → ∀ x ∈ v, x ≤ v.sum
  | [], _, x, hx => by cases hx
  | y :: r, h, x, hx => by
    rw [List.sum_cons]
    have a := h y (List.mem_cons_self ..)
    have b := sum_nonneg r fun z hz => h z (List.mem_cons_of_mem _ hz)
    rcases List.mem_cons.mp hx with rfl | hx
    · omega
    · have := sum_ge r (fun z hz => h z (List.mem_cons_of_mem _ hz)) x hx
      omega
def clamp (t : Int) (v : List Int) : List Int := v.map fun x => if x ≤ t then x else t
theorem clamp_le : ∀ (t : Int) (v : List Int), (clamp t v).sum ≤ v.sum
  | _, [] => by simp [clamp]
  | t, x :: r => by
    have := clamp_le t r
    show ((if x ≤ t then x else t) :: clamp t r).sum ≤ _
    rw [List.sum_cons, List.sum_cons]
    split <;> omega
theorem clamp_ge : ∀ (t : Int) (v : List Int), 0 ≤ t → (∀ x ∈ v, 0 ≤ x) → v.sum ≤ (clamp t v).sum ∨ t ≤ (clamp t v).sum
  | _, [], _, _ => by simp [clamp]
  | t, x :: r, ht, h => by
    have a := h x (List.mem_cons_self ..)
    have hr := fun y hy => h y (List.mem_cons_of_mem _ hy)
    have b := clamp_ge t r ht hr
    have c : 0 ≤ (clamp t r).sum := sum_nonneg _ fun y hy => by
      obtain ⟨z, hz, rfl⟩ := List.mem_map.mp hy
      have := hr z hz
      split <;> omega
    show _ ≤ ((if x ≤ t then x else t) :: clamp t r).sum ∨ _ ≤ ((if x ≤ t then x else t) :: clamp t r).sum
    rw [List.sum_cons, List.sum_cons]
    split <;> omega
theorem many_clamp {t : Int} (ht : 0 ≤ t) (v : List Int) (hv : ∀ x ∈ v, 0 ≤ x) (lo hi : Nat) (h : lo < hi) : many (clamp t v) lo hi ≤ many v lo hi ∧ (many v lo hi ≤ many (clamp t v) lo hi ∨ t ≤ many (clamp t v) lo hi) := by
  have e : ((clamp t v).take hi).drop lo = clamp t ((v.take hi).drop lo) := by
    unfold clamp
    rw [List.map_drop, List.map_take]
  have a := clamp_le t ((v.take hi).drop lo)
  have b := clamp_ge t ((v.take hi).drop lo) ht fun x hx => hv x (List.mem_of_mem_take (List.mem_of_mem_drop hx))
  unfold many
  rw [e]
  omega
/-- the places of a row of numbers -/
def plc (v : List Int) (i : Nat) : Int := (v.take i).sum + i
theorem plc_succ (v : List Int) (i : Nat) (h : i < v.length) : plc v (i + 1) = plc v i + v[i] + 1 := by
  unfold plc
  rw [List.take_add_one, List.getElem?_eq_getElem h, sum_app]
  simp
  omega
theorem lim_of_plc {v : List Int} {l : Lim} (h : l.lo < l.hi) : inLim v l ↔ LimOk (plc v) l := by
  unfold inLim LimOk plc
  rw [many_eq v (Nat.le_of_lt h)]
  constructor
  · rintro ⟨a, b⟩
    refine ⟨by omega, fun g hg => ?_⟩
    have := b g hg
    omega
  · rintro ⟨a, b⟩
    refine ⟨by omega, fun g hg => ?_⟩
    have := b g hg
    omega
/-- the numbers of places -/
def numsOf (p : Nat → Int) (k : Nat) : List Int := (List.range k).map fun i => p (i + 1) - p i - 1
theorem numsOf_take (p : Nat → Int) (k : Nat) : ∀ i, i ≤ k → ((numsOf p k).take i).sum + i = p i - p 0
  | 0, _ => by simp
  | i + 1, h => by
    have ih := numsOf_take p k i (by omega)
    have hl : i < (numsOf p k).length := by
      unfold numsOf
      rw [List.length_map, List.length_range]
      omega
    rw [List.take_add_one, List.getElem?_eq_getElem hl, sum_app]
    have : (numsOf p k)[i] = p (i + 1) - p i - 1 := by simp [numsOf]
    rw [this]
    simp
    omega
theorem box_iff {lots : Nat} {ls : List Lim} (h : ∀ l ∈ ls, WfL (lots + 2) l ∧ l.le ≤ 3) : (∃ v ∈ vecs (if 0 < lots then 4 else 6) (lots + 1), inCell ls v) ↔ ∃ p, Places p lots ls := by
  constructor
  · rintro ⟨v, hv, c1, c2⟩
    obtain ⟨h1, h2⟩ := (mem_vecs _ _ _).mp hv
    refine ⟨plc v, fun i hi => ?_, fun l hl => (lim_of_plc (h l hl).1.1).mp (c2 l hl)⟩
    have := (h2 _ (List.getElem_mem (show i < v.length by omega))).1
    rw [plc_succ v i (by omega)]
    by_cases c : lots = 0
    · subst c
      obtain rfl : i = 0 := by omega
      match v, h1, c1 with
      | [x], _, c1 =>
        simp at c1 ⊢
        simp [plc]
        omega
    · rw [if_neg c]
      omega
  · rintro ⟨p, a, b⟩
    have ht : (0 : Int) ≤ ((if 0 < lots then 4 else 6 : Nat) : Int) := Int.natCast_nonneg _
    have h4 : (4 : Int) ≤ ((if 0 < lots then 4 else 6 : Nat) : Int) := by split <;> decide
    have hlen : (numsOf p (lots + 1)).length = lots + 1 := by simp [numsOf]
    have hpos : ∀ x ∈ numsOf p (lots + 1), 0 ≤ x := fun x hx => by
      obtain ⟨i, hi, rfl⟩ := List.mem_map.mp hx
      have := a i (List.mem_range.mp hi)
      split at this <;> omega
    refine ⟨clamp ((if 0 < lots then 4 else 6 : Nat) : Int) (numsOf p (lots + 1)), (mem_vecs _ _ _).mpr ⟨by simp [clamp, hlen], fun x hx => ?_⟩, ?_, fun l hl => ?_⟩
    · obtain ⟨y, hy, rfl⟩ := List.mem_map.mp hx
      have := hpos y hy
      split <;> omega
    · have hnn : 0 ≤ (clamp ((if 0 < lots then 4 else 6 : Nat) : Int) (numsOf p (lots + 1))).sum := sum_nonneg _ fun x hx => by
        obtain ⟨y, hy, rfl⟩ := List.mem_map.mp hx
        have := hpos y hy
        split <;> omega
      have hl2 : (clamp ((if 0 < lots then 4 else 6 : Nat) : Int) (numsOf p (lots + 1))).length = lots + 1 := by simp [clamp, hlen]
      rw [hl2]
      by_cases c : lots = 0
      · subst c
        have a0 : p 0 + 2 ≤ p 1 := by
          have := a 0 (by omega)
          rw [if_pos rfl] at this
          exact this
        have e : numsOf p (0 + 1) = [p 1 - p 0 - 1] := rfl
        rw [e]
        show 1 ≤ ([if p 1 - p 0 - 1 ≤ 6 then p 1 - p 0 - 1 else 6] : List Int).sum + ((0 + 1 : Nat) : Int) - 1
        simp
        split <;> omega
      · omega
    · obtain ⟨⟨w1, w2⟩, w3⟩ := h l hl
      obtain ⟨m1, m2⟩ := many_clamp ht (numsOf p (lots + 1)) hpos l.lo l.hi w1
      obtain ⟨b1, b2⟩ := b l hl
      have e : many (numsOf p (lots + 1)) l.lo l.hi = p l.hi - p l.lo - 1 := by
        rw [many_eq _ (Nat.le_of_lt w1), numsOf_take p (lots + 1) l.hi (by omega), numsOf_take p (lots + 1) l.lo (by omega)]
        omega
      refine ⟨by omega, fun g hg => ?_⟩
      have := b2 g hg
      omega
end K9

/-! plain law, part 3: closings -/
namespace K9
/-- a step: which bounds, from, to, how far -/
structure S4 where
  c : Int
  a : Int
  b : Int
  d : Int
def sumS (st : List S4) : Int := (st.map (·.d)).sum
theorem sumS_app (a b : List S4) : sumS (a ++ b) = sumS a + sumS b := by
  unfold sumS
  rw [List.map_append, sum_app]
/-! ### the least step -/
def sbs : Nat → List G → Nat → Nat → List (Nat × Int)
  | _, [], _, _ => []
  | i, g :: r, a, b => match g a b with
    | some d => (i, d) :: sbs (i + 1) r a b
    | none => sbs (i + 1) r a b
def better (best : Option (Nat × Int)) (x : Nat × Int) : Option (Nat × Int) := match best with
  | none => some x
  | some y => if x.2 < y.2 then some x else some y
def best (gs : List G) (a b : Nat) : Option (Nat × Int) := (sbs 0 gs a b).foldl better none
theorem mem_sbs : ∀ (i : Nat) (gs : List G) (a b : Nat) (x : Nat × Int), x ∈ sbs i gs a b ↔ ∃ j g, gs[j]? = some g ∧ g a b = some x.2 ∧ x.1 = i + j
  | i, [], a, b, x => by
    simp [sbs]
  | i, g :: r, a, b, x => by
    have ih := mem_sbs (i + 1) r a b x
    have key : (∃ j g', (g :: r)[j]? = some g' ∧ g' a b = some x.2 ∧ x.1 = i + j) ↔ (g a b = some x.2 ∧ x.1 = i) ∨ ∃ j g', r[j]? = some g' ∧ g' a b = some x.2 ∧ x.1 = i + 1 + j := by
      constructor
      · rintro ⟨j, g', h1, h2, h3⟩
        match j, h1, h3 with
        | 0, h1, h3 =>
          obtain rfl := Option.some.inj h1
          exact .inl ⟨h2, by omega⟩
        | j + 1, h1, h3 => exact .inr ⟨j, g', h1, h2, by omega⟩
      · rintro (⟨h1, h2⟩ | ⟨j, g', h1, h2, h3⟩)
        · exact ⟨0, g, rfl, h1, by omega⟩
        · exact ⟨j + 1, g', h1, h2, by omega⟩
    rw [key]
    cases hg : g a b with
    | none =>
      simp only [sbs, hg]
      rw [ih]
      constructor
      · exact .inr
      · rintro (⟨h, _⟩ | h)
        · cases h
        · exact h
    | some d =>
      simp only [sbs, hg, List.mem_cons]
      rw [ih]
      constructor
      · rintro (rfl | h)
        · exact .inl ⟨rfl, rfl⟩
        · exact .inr h
      · rintro (⟨h1, h2⟩ | h)
        · left
          obtain ⟨x1, x2⟩ := x
          cases h1
          cases h2
          rfl
        · exact .inr h
theorem fold_best : ∀ (l : List (Nat × Int)) (o : Option (Nat × Int)),
    (∀ x, l.foldl better o = some x → o = some x ∨ x ∈ l) ∧ (∀ y, (o = some y ∨ y ∈ l) → ∃ x, l.foldl better o = some x ∧ x.2 ≤ y.2)
  | [], o => ⟨fun x h => .inl h, fun y h => by
      rcases h with h | h
      · exact ⟨y, h, Int.le_refl _⟩
      · cases h⟩
  | z :: r, o => by
    obtain ⟨h1, h2⟩ := fold_best r (better o z)
    refine ⟨fun x hx => ?_, fun y hy => ?_⟩
    · rcases h1 x hx with h | h
      · cases o with
        | none =>
          obtain rfl := Option.some.inj h
          exact .inr (List.mem_cons_self ..)
        | some w =>
          simp only [better] at h
          split at h
          · obtain rfl := Option.some.inj h
            exact .inr (List.mem_cons_self ..)
          · exact .inl h
      · exact .inr (List.mem_cons_of_mem _ h)
    · have hb : ∀ y, (o = some y ∨ y = z) → ∃ w, better o z = some w ∧ w.2 ≤ y.2 := fun y hy => by
        cases o with
        | none =>
          rcases hy with hy | rfl
          · cases hy
          · exact ⟨y, rfl, Int.le_refl _⟩
        | some w =>
          simp only [better]
          split
          · rename_i c
            rcases hy with hy | rfl
            · obtain rfl := Option.some.inj hy
              exact ⟨z, rfl, by omega⟩
            · exact ⟨y, rfl, Int.le_refl _⟩
          · rename_i c
            rcases hy with hy | rfl
            · obtain rfl := Option.some.inj hy
              exact ⟨w, rfl, Int.le_refl _⟩
            · exact ⟨w, rfl, by omega⟩
      rcases hy with hy | hy
      · obtain ⟨w, hw, lw⟩ := hb y (.inl hy)
        obtain ⟨x, hx, lx⟩ := h2 w (.inl hw)
        exact ⟨x, hx, by omega⟩
      · rcases List.mem_cons.mp hy with rfl | hy
        · obtain ⟨w, hw, lw⟩ := hb y (.inr rfl)
          obtain ⟨x, hx, lx⟩ := h2 w (.inl hw)
          exact ⟨x, hx, by omega⟩
        · exact h2 y (.inr hy)
theorem best_of {gs : List G} {a b : Nat} {x : Nat × Int} (h : best gs a b = some x) : ∃ g, gs[x.1]? = some g ∧ g a b = some x.2 := by
  rcases (fold_best (sbs 0 gs a b) none).1 x h with h | h
  · cases h
  · obtain ⟨j, g, h1, h2, h3⟩ := (mem_sbs 0 gs a b x).mp h
    obtain rfl : x.1 = j := by omega
    exact ⟨g, h1, h2⟩
theorem best_le {gs : List G} {a b j : Nat} {g : G} {d : Int} (h1 : gs[j]? = some g) (h2 : g a b = some d) : ∃ x, best gs a b = some x ∧ x.2 ≤ d :=
  (fold_best (sbs 0 gs a b) none).2 (j, d) (.inr ((mem_sbs 0 gs a b (j, d)).mpr ⟨j, g, h1, h2, by omega⟩))
/-! ### longer walks -/
structure En where
  v : Nat
  tot : Int
  st : List S4
def putE : List En → En → List En
  | [], e => [e]
  | x :: r, e => if x.v = e.v then e :: r else x :: putE r e
def getE : List En → Nat → Option En
  | [], _ => none
  | x :: r, v => if x.v = v then some x else getE r v
def relax (gs : List G) (w : En) (acc : List En) (to : Nat) : List En := match best gs w.v to with
  | none => acc
  | some x => if w.v = to then acc else match getE acc to with
    | none => putE acc ⟨to, w.tot + x.2, w.st ++ [⟨(x.1 : Int), (w.v : Int), (to : Int), x.2⟩]⟩
    | some e => if w.tot + x.2 < e.tot then putE acc ⟨to, w.tot + x.2, w.st ++ [⟨(x.1 : Int), (w.v : Int), (to : Int), x.2⟩]⟩ else acc
def relaxAll (gs : List G) (n : Nat) (acc : List En) (w : En) : List En := (List.range n).foldl (relax gs w) acc
def longer (gs : List G) (n : Nat) (W : List En) : List En := W.foldl (relaxAll gs n) []
theorem mem_putE : ∀ {acc : List En} {e x : En}, x ∈ putE acc e → x = e ∨ x ∈ acc
  | [], e, x, h => by
    simp [putE] at h
    exact .inl h
  | y :: r, e, x, h => by
    simp only [putE] at h
    split at h
    · rcases List.mem_cons.mp h with h | h
      · exact .inl h
      · exact .inr (List.mem_cons_of_mem _ h)
    · rcases List.mem_cons.mp h with h | h
      · exact .inr (h ▸ List.mem_cons_self ..)
      · rcases mem_putE h with h | h
        · exact .inl h
        · exact .inr (List.mem_cons_of_mem _ h)
theorem putE_self : ∀ (acc : List En) (e : En), e ∈ putE acc e
  | [], e => List.mem_cons_self ..
  | y :: r, e => by
    simp only [putE]
    split
    · exact List.mem_cons_self ..
    · exact List.mem_cons_of_mem _ (putE_self r e)
theorem putE_other : ∀ {acc : List En} {e x : En}, x ∈ acc → x.v ≠ e.v → x ∈ putE acc e
  | y :: r, e, x, h, hne => by
    simp only [putE]
    split
    · rename_i c
      rcases List.mem_cons.mp h with rfl | h
      · exact absurd c hne
      · exact List.mem_cons_of_mem _ h
    · rcases List.mem_cons.mp h with rfl | h
      · exact List.mem_cons_self ..
      · exact List.mem_cons_of_mem _ (putE_other h hne)
theorem putE_keys : ∀ (acc : List En) (e : En) (v : Nat), v ∈ (putE acc e).map (·.v) ↔ v = e.v ∨ v ∈ acc.map (·.v)
  | [], e, v => by simp [putE]
  | y :: r, e, v => by
    simp only [putE]
    split
    · rename_i c
      simp only [List.map_cons, List.mem_cons, c]
      constructor
      · rintro (h | h)
        · exact .inl h
        · exact .inr (.inr h)
      · rintro (h | h | h)
        · exact .inl h
        · exact .inl h
        · exact .inr h
    · simp only [List.map_cons, List.mem_cons, putE_keys r e v]
      constructor
      · rintro (h | h | h)
        · exact .inr (.inl h)
        · exact .inl h
        · exact .inr (.inr h)
      · rintro (h | h | h)
        · exact .inr (.inl h)
        · exact .inl h
        · exact .inr (.inr h)
theorem putE_nd : ∀ {acc : List En} {e : En}, (acc.map (·.v)).Nodup → ((putE acc e).map (·.v)).Nodup
  | [], e, _ => by simp [putE]
  | y :: r, e, h => by
    rw [List.map_cons, List.nodup_cons] at h
    obtain ⟨h1, h2⟩ := h
    simp only [putE]
    split
    · rename_i c
      rw [List.map_cons, List.nodup_cons]
      exact ⟨by rw [← c]; exact h1, h2⟩
    · rename_i c
      rw [List.map_cons, List.nodup_cons]
      refine ⟨fun q => ?_, putE_nd h2⟩
      rcases (putE_keys r e y.v).mp q with q | q
      · exact c q
      · exact h1 q
theorem getE_some : ∀ {acc : List En} {v : Nat} {e : En}, getE acc v = some e → e ∈ acc ∧ e.v = v
  | y :: r, v, e, h => by
    simp only [getE] at h
    split at h
    · rename_i c
      obtain rfl := Option.some.inj h
      exact ⟨List.mem_cons_self .., c⟩
    · obtain ⟨a, b⟩ := getE_some h
      exact ⟨List.mem_cons_of_mem _ a, b⟩
theorem getE_none : ∀ {acc : List En} {v : Nat}, getE acc v = none → v ∉ acc.map (·.v)
  | [], v, _ => by simp
  | y :: r, v, h => by
    simp only [getE] at h
    split at h
    · cases h
    · rename_i c
      rw [List.map_cons, List.mem_cons]
      rintro (q | q)
      · exact c q.symm
      · exact getE_none h q
theorem getE_of : ∀ {acc : List En} {e : En}, (acc.map (·.v)).Nodup → e ∈ acc → getE acc e.v = some e
  | y :: r, e, hn, h => by
    rw [List.map_cons, List.nodup_cons] at hn
    simp only [getE]
    rcases List.mem_cons.mp h with rfl | h
    · rw [if_pos rfl]
    · rw [if_neg (show ¬ y.v = e.v from fun q => hn.1 (q ▸ List.mem_map_of_mem h))]
      exact getE_of hn.2 h
/-- steps of the bounds themselves, from u to v -/
def Wk (gs : List G) (n : Nat) : Nat → List S4 → Nat → Prop
  | u, [], v => u = v
  | u, s :: r, v => s.a = (u : Int) ∧ ∃ (i b : Nat) (g : G), s.c = (i : Int) ∧ s.b = (b : Int) ∧ b < n ∧ gs[i]? = some g ∧ g u b = some s.d ∧ Wk gs n b r v
theorem Wk.snoc {gs : List G} {n : Nat} {s : S4} {v x i : Nat} {g : G} : ∀ {u : Nat} {st : List S4}, Wk gs n u st v → s.a = (v : Int) → s.c = (i : Int) → s.b = (x : Int) → x < n → gs[i]? = some g → g v x = some s.d → Wk gs n u (st ++ [s]) x
  | u, [], h, h1, h2, h3, h4, h5, h6 => by
    obtain rfl : u = v := h
    exact ⟨h1, i, x, g, h2, h3, h4, h5, h6, rfl⟩
  | u, y :: r, h, h1, h2, h3, h4, h5, h6 => by
    obtain ⟨a, j, b, g', e1, e2, e3, e4, e5, e6⟩ := h
    exact ⟨a, j, b, g', e1, e2, e3, e4, e5, Wk.snoc e6 h1 h2 h3 h4 h5 h6⟩
/-- walks of k edges between different points: their weights -/
inductive Wa (gs : List G) (n : Nat) : Nat → Nat → Nat → Int → Prop
  | nil (u : Nat) : Wa gs n 0 u u 0
  | snoc {k u v x i : Nat} {w d : Int} {g : G} : Wa gs n k u v w → x < n → v ≠ x → gs[i]? = some g → g v x = some d → Wa gs n (k + 1) u x (w + d)
structure EnOk (gs : List G) (n k u : Nat) (e : En) : Prop where
  lt : e.v < n
  wk : Wk gs n u e.st e.v
  sum : sumS e.st = e.tot
  len : e.st.length = k
structure WOK (gs : List G) (n k u : Nat) (W : List En) : Prop where
  nd : (W.map (·.v)).Nodup
  ok : ∀ e ∈ W, EnOk gs n k u e
  opt : ∀ v w, Wa gs n k u v w → ∃ e ∈ W, e.v = v ∧ e.tot ≤ w
theorem wok0 {gs : List G} {n u : Nat} (hu : u < n) : WOK gs n 0 u [⟨u, 0, []⟩] := by
  refine ⟨by simp, fun e he => ?_, fun v w h => ?_⟩
  · obtain rfl := List.mem_singleton.mp he
    exact ⟨hu, rfl, rfl, rfl⟩
  · cases h
    exact ⟨_, List.mem_cons_self .., rfl, Int.le_refl 0⟩
/-- what stays true while walks are made longer -/
structure Acc (gs : List G) (n k u : Nat) (acc : List En) : Prop where
  nd : (acc.map (·.v)).Nodup
  ok : ∀ e ∈ acc, EnOk gs n (k + 1) u e
def Has (acc : List En) (v : Nat) (w : Int) : Prop := ∃ e ∈ acc, e.v = v ∧ e.tot ≤ w
theorem relax_put {gs : List G} {n k u to : Nat} {w : En} {acc : List En} {x : Nat × Int} (hA : Acc gs n k u acc) (hw : EnOk gs n k u w) (hto : to < n) (hb : best gs w.v to = some x) :
    Acc gs n k u (putE acc ⟨to, w.tot + x.2, w.st ++ [⟨(x.1 : Int), (w.v : Int), (to : Int), x.2⟩]⟩) := by
  refine ⟨putE_nd hA.nd, fun e he => ?_⟩
  rcases mem_putE he with rfl | he
  · obtain ⟨g, h1, h2⟩ := best_of hb
    refine ⟨hto, hw.wk.snoc rfl rfl rfl hto h1 h2, ?_, ?_⟩
    · show sumS _ = w.tot + x.2
      rw [sumS_app, hw.sum]
      simp [sumS]
    · simp [hw.len]
  · exact hA.ok e he
theorem relax_acc {gs : List G} {n k u to : Nat} {w : En} {acc : List En} (hA : Acc gs n k u acc) (hw : EnOk gs n k u w) (hto : to < n) : Acc gs n k u (relax gs w acc to) := by
  unfold relax
  split
  · exact hA
  · rename_i x hx
    split
    · exact hA
    · split
      · exact relax_put hA hw hto hx
      · split
        · exact relax_put hA hw hto hx
        · exact hA
theorem has_put {acc : List En} {e : En} {v : Nat} {w : Int} (h : Has acc v w) (hn : (acc.map (·.v)).Nodup) (hl : ∀ x, getE acc e.v = some x → e.tot < x.tot) : Has (putE acc e) v w := by
  obtain ⟨x, hx, rfl, hw⟩ := h
  by_cases c : x.v = e.v
  · have := hl x (by rw [← c]; exact getE_of hn hx)
    exact ⟨e, putE_self acc e, c.symm, by omega⟩
  · exact ⟨x, putE_other hx c, rfl, hw⟩
theorem relax_has {gs : List G} {to v : Nat} {w : En} {acc : List En} {z : Int} (h : Has acc v z) (hn : (acc.map (·.v)).Nodup) : Has (relax gs w acc to) v z := by
  unfold relax
  split
  · exact h
  · rename_i x hx
    split
    · exact h
    · split
      · rename_i hg
        exact has_put h hn fun y hy => by
          rw [show getE acc to = _ from hg] at hy
          cases hy
      · rename_i e hg
        split
        · rename_i c
          exact has_put h hn fun y hy => by
            rw [show getE acc to = _ from hg] at hy
            obtain rfl := Option.some.inj hy
            exact c
        · exact h
theorem relax_new {gs : List G} {to : Nat} {w : En} {acc : List En} {x : Nat × Int} (hb : best gs w.v to = some x) (hne : w.v ≠ to) : Has (relax gs w acc to) to (w.tot + x.2) := by
  unfold relax
  rw [hb]
  simp only [if_neg hne]
  split
  · exact ⟨_, putE_self _ _, rfl, Int.le_refl _⟩
  · rename_i e hg
    split
    · exact ⟨_, putE_self _ _, rfl, Int.le_refl _⟩
    · obtain ⟨a, b⟩ := getE_some hg
      exact ⟨e, a, b, by omega⟩
theorem relaxL {gs : List G} {n k u : Nat} {w : En} (hw : EnOk gs n k u w) : ∀ (l : List Nat) (acc : List En), (∀ t ∈ l, t < n) → Acc gs n k u acc →
    Acc gs n k u (l.foldl (relax gs w) acc) ∧ (∀ v z, Has acc v z → Has (l.foldl (relax gs w) acc) v z) ∧ ∀ t ∈ l, ∀ x, best gs w.v t = some x → w.v ≠ t → Has (l.foldl (relax gs w) acc) t (w.tot + x.2)
  | [], acc, _, hA => ⟨hA, fun _ _ h => h, fun t ht => by cases ht⟩
  | t :: r, acc, hl, hA => by
    have hA1 := relax_acc hA hw (hl t (List.mem_cons_self ..))
    obtain ⟨a, b, c⟩ := relaxL hw r (relax gs w acc t) (fun y hy => hl y (List.mem_cons_of_mem _ hy)) hA1
    refine ⟨a, fun v z h => b v z (relax_has h hA.nd), fun y hy x hx hne => ?_⟩
    rcases List.mem_cons.mp hy with rfl | hy
    · exact b _ _ (relax_new hx hne)
    · exact c y hy x hx hne
theorem longerL {gs : List G} {n k u : Nat} : ∀ (W acc : List En), (∀ e ∈ W, EnOk gs n k u e) → Acc gs n k u acc →
    Acc gs n k u (W.foldl (relaxAll gs n) acc) ∧ (∀ v z, Has acc v z → Has (W.foldl (relaxAll gs n) acc) v z) ∧ ∀ w ∈ W, ∀ t, t < n → ∀ x, best gs w.v t = some x → w.v ≠ t → Has (W.foldl (relaxAll gs n) acc) t (w.tot + x.2)
  | [], acc, _, hA => ⟨hA, fun _ _ h => h, fun t ht => by cases ht⟩
  | w :: r, acc, hW, hA => by
    obtain ⟨a1, b1, c1⟩ := relaxL (hW w (List.mem_cons_self ..)) (List.range n) acc (fun t ht => List.mem_range.mp ht) hA
    obtain ⟨a, b, c⟩ := longerL r (relaxAll gs n acc w) (fun e he => hW e (List.mem_cons_of_mem _ he)) a1
    refine ⟨a, fun v z h => b v z (b1 v z h), fun y hy t ht x hx hne => ?_⟩
    rcases List.mem_cons.mp hy with rfl | hy
    · exact b _ _ (c1 t (List.mem_range.mpr ht) x hx hne)
    · exact c y hy t ht x hx hne
theorem wok_succ {gs : List G} {n k u : Nat} {W : List En} (h : WOK gs n k u W) : WOK gs n (k + 1) u (longer gs n W) := by
  obtain ⟨a, b, c⟩ := longerL (gs := gs) W [] h.ok ⟨List.nodup_nil, fun e he => by cases he⟩
  refine ⟨a.nd, a.ok, fun v w hw => ?_⟩
  cases hw with
  | snoc h1 hx hne hi hd =>
    obtain ⟨e, he, ev, le⟩ := h.opt _ _ h1
    obtain ⟨x, hbx, lx⟩ := best_le hi hd
    subst ev
    obtain ⟨e2, m2, v2, l2⟩ := c e he v hx x hbx hne
    exact ⟨e2, m2, v2, by omega⟩
/-! ### what a closing is, and none -/
structure Good (gs : List G) (n u : Nat) (st : List S4) : Prop where
  lt : u < n
  wk : Wk gs n u st u
  ne : st ≠ []
  neg : sumS st < 0
  len : st.length ≤ n
/-- nothing closes -/
structure NoCl (gs : List G) (n : Nat) : Prop where
  nn : ∀ g ∈ gs, NN n g
  wa : ∀ u, u < n → ∀ k, 1 ≤ k → k ≤ n → ∀ w, Wa gs n k u u w → 0 ≤ w
theorem wok_neg {gs : List G} {n k u : Nat} {W : List En} (h : WOK gs n k u W) (hq : ∀ e, getE W u = some e → 0 ≤ e.tot) {w : Int} (hw : Wa gs n k u u w) : 0 ≤ w := by
  obtain ⟨e, he, ev, le⟩ := h.opt _ _ hw
  have := hq e (ev ▸ getE_of h.nd he)
  omega
/-- places forbid a closing -/
theorem wk_pot {gs : List G} {n : Nat} {p : Nat → Int} (hp : ∀ g ∈ gs, Pot p n g) : ∀ {u v : Nat} {st : List S4}, u < n → Wk gs n u st v → p v - p u ≤ sumS st
  | u, v, [], _, h => by
    obtain rfl : u = v := h
    simp [sumS]
  | u, v, s :: r, hu, h => by
    obtain ⟨_, i, b, g, _, _, hb, hi, hd, hr⟩ := h
    have h1 := hp g (List.mem_of_getElem? hi) u b hu hb _ hd
    have h2 := wk_pot hp hb hr
    have : sumS (s :: r) = s.d + sumS r := by
      unfold sumS
      rw [List.map_cons, List.sum_cons]
    omega
theorem good_no {gs : List G} {n u : Nat} {st : List S4} (h : Good gs n u st) : ¬ ∃ p, ∀ g ∈ gs, Pot p n g := by
  rintro ⟨p, hp⟩
  have := wk_pot hp h.lt h.wk
  have := h.neg
  omega
/-! ### from none to places -/
/-- all bounds together -/
def comb (gs : List G) : G := fun i j => gs.foldl (fun o g => near o (g i j)) none
theorem comb_le : ∀ (gs : List G) (o : Option Int) (i j : Nat), leO (gs.foldl (fun o g => near o (g i j)) o) o ∧ ∀ g ∈ gs, leO (gs.foldl (fun o g => near o (g i j)) o) (g i j)
  | [], o, i, j => ⟨leO.refl _, fun g hg => by cases hg⟩
  | g :: r, o, i, j => by
    obtain ⟨a, b⟩ := comb_le r (near o (g i j)) i j
    refine ⟨a.trans (near_l _ _), fun x hx => ?_⟩
    rcases List.mem_cons.mp hx with rfl | hx
    · exact a.trans (near_r _ _)
    · exact b x hx
theorem comb_mem : ∀ (gs : List G) (o : Option Int) (i j : Nat) (d : Int), gs.foldl (fun o g => near o (g i j)) o = some d → o = some d ∨ ∃ g ∈ gs, g i j = some d
  | [], o, i, j, d, h => .inl h
  | g :: r, o, i, j, d, h => by
    rcases comb_mem r _ i j d h with h | ⟨x, hx, e⟩
    · rcases near_or o (g i j) with q | q
      · exact .inl (q.symm.trans h)
      · exact .inr ⟨g, List.mem_cons_self .., q.symm.trans h⟩
    · exact .inr ⟨x, List.mem_cons_of_mem _ hx, e⟩
/-- a path of g: from u over the points of l -/
def Pa (g : G) (n : Nat) : Nat → List Nat → Int → Prop
  | _, [], w => w = 0
  | u, v :: r, w => ∃ d, g u v = some d ∧ v < n ∧ Pa g n v r (w - d)
def fin (u : Nat) (l : List Nat) : Nat := l.getLast?.getD u
theorem fin_cons (u v : Nat) (r : List Nat) : fin u (v :: r) = fin v r := by
  unfold fin
  cases r with
  | nil => rfl
  | cons x y => rw [List.getLast?_cons_cons]; cases h : (x :: y).getLast? with
    | none => simp at h
    | some z => rfl
theorem Pa.app {g : G} {n : Nat} : ∀ {u : Nat} {l m : List Nat} {w z : Int}, Pa g n u l w → Pa g n (fin u l) m z → Pa g n u (l ++ m) (w + z)
  | u, [], m, w, z, h, h2 => by
    obtain rfl : w = 0 := h
    rw [Int.zero_add]
    exact h2
  | u, v :: r, m, w, z, h, h2 => by
    obtain ⟨d, e, hv, hr⟩ := h
    rw [fin_cons] at h2
    have := Pa.app hr h2
    exact ⟨d, e, hv, by rw [show w + z - d = w - d + z by omega]; exact this⟩
theorem fin_app (u : Nat) (l m : List Nat) : fin u (l ++ m) = fin (fin u l) m := by
  induction l generalizing u with
  | nil => rfl
  | cons x r ih => rw [List.cons_append, fin_cons, fin_cons, ih]
theorem Pa.split {g : G} {n : Nat} : ∀ {u : Nat} {l m : List Nat} {w : Int}, Pa g n u (l ++ m) w → ∃ z, Pa g n u l z ∧ Pa g n (fin u l) m (w - z)
  | u, [], m, w, h => ⟨0, rfl, by rw [Int.sub_zero]; exact h⟩
  | u, v :: r, m, w, h => by
    obtain ⟨d, e, hv, hr⟩ := h
    obtain ⟨z, h1, h2⟩ := Pa.split hr
    refine ⟨z + d, ⟨d, e, hv, by rw [show z + d - d = z by omega]; exact h1⟩, ?_⟩
    rw [fin_cons, show w - (z + d) = w - d - z by omega]
    exact h2
theorem fwk_path {n : Nat} {g : G} : ∀ m, m ≤ n → ∀ i j d, j < n → fwk m g i j = some d → ∃ l, l ≠ [] ∧ fin i l = j ∧ Pa g n i l d
  | 0, _, i, j, d, hj, h => ⟨[j], by simp, rfl, d, h, hj, by show d - d = 0; omega⟩
  | m + 1, hm, i, j, d, hj, h => by
    rcases near_or (fwk m g i j) (plusO (fwk m g i m) (fwk m g m j)) with q | q
    · exact fwk_path m (by omega) i j d hj (q.symm.trans h)
    · obtain ⟨x, y, h1, h2, rfl⟩ := plusO_some (q.symm.trans h)
      obtain ⟨l1, n1, f1, p1⟩ := fwk_path (n := n) m (by omega) i m x (by omega) h1
      obtain ⟨l2, n2, f2, p2⟩ := fwk_path (n := n) m (by omega) m j y hj h2
      exact ⟨l1 ++ l2, by simp [n1], by rw [fin_app, f1, f2], p1.app (by rw [f1]; exact p2)⟩
theorem nodup_le : ∀ (n : Nat) (l : List Nat), l.Nodup → (∀ x ∈ l, x < n) → l.length ≤ n
  | 0, l, _, h => by
    cases l with
    | nil => exact Nat.le_refl 0
    | cons x r => exact absurd (h x (List.mem_cons_self ..)) (by omega)
  | n + 1, l, hn, h => by
    have ih := nodup_le n (l.erase n) (hn.erase n) fun x hx => by
      have h1 := h x (List.mem_of_mem_erase hx)
      have h2 : x ≠ n := fun e => by
        subst e
        exact (List.Nodup.not_mem_erase hn) hx
      omega
    have := List.length_erase (a := n) (l := l)
    split at this <;> omega
theorem dup_split : ∀ (l : List Nat), ¬ l.Nodup → ∃ a x b c, l = a ++ x :: (b ++ x :: c)
  | [], h => absurd List.nodup_nil h
  | y :: r, h => by
    by_cases hy : y ∈ r
    · obtain ⟨b, c, e⟩ := List.append_of_mem hy
      exact ⟨[], y, b, c, by rw [e]; rfl⟩
    · obtain ⟨a, x, b, c, e⟩ := dup_split r fun q => h (List.nodup_cons.mpr ⟨hy, q⟩)
      exact ⟨y :: a, x, b, c, by rw [e]; rfl⟩
theorem Pa.lt {g : G} {n : Nat} : ∀ {u : Nat} {l : List Nat} {w : Int}, Pa g n u l w → ∀ x ∈ l, x < n
  | u, [], w, _, x, hx => by cases hx
  | u, v :: r, w, h, x, hx => by
    obtain ⟨d, e, hv, hr⟩ := h
    rcases List.mem_cons.mp hx with rfl | hx
    · exact hv
    · exact hr.lt x hx
/-- a negative closed path holds a negative one without a point twice -/
theorem simple {g : G} {n : Nat} : ∀ (k : Nat) (u : Nat) (l : List Nat) (w : Int), l.length ≤ k → l ≠ [] → fin u l = u → Pa g n u l w → w < 0 → ∃ v m z, m ≠ [] ∧ m.Nodup ∧ fin v m = v ∧ Pa g n v m z ∧ z < 0
  | 0, u, l, w, hk, hne, _, _, _ => absurd (List.length_eq_zero_iff.mp (by omega)) hne
  | k + 1, u, l, w, hk, hne, hf, hp, hw => by
    by_cases hn : l.Nodup
    · exact ⟨u, l, w, hne, hn, hf, hp, hw⟩
    · obtain ⟨a, x, b, c, rfl⟩ := dup_split l hn
      rw [show a ++ x :: (b ++ x :: c) = (a ++ [x]) ++ ((b ++ [x]) ++ c) by simp] at hp hf
      obtain ⟨z1, p1, q1⟩ := hp.split
      obtain ⟨z2, p2, q2⟩ := q1.split
      have f1 : fin u (a ++ [x]) = x := by rw [fin_app]; rfl
      have f2 : fin x (b ++ [x]) = x := by rw [fin_app]; rfl
      rw [f1] at p2 q2
      rw [f2] at q2
      rw [fin_app, fin_app, f1, f2] at hf
      simp at hk
      by_cases hz : z2 < 0
      · exact simple k x (b ++ [x]) z2 (by simp; omega) (by simp) f2 p2 hz
      · refine simple k u ((a ++ [x]) ++ c) (z1 + (w - z1 - z2)) (by simp; omega) (by simp) ?_ (p1.app (by rw [f1]; exact q2)) (by omega)
        rw [fin_app, f1]
        exact hf
/-- a path without a point twice is a walk between different points -/
theorem pa_wa {gs : List G} {n : Nat} : ∀ {u s k : Nat} {l : List Nat} {w z : Int}, Pa (comb gs) n u l w → (u :: l).Nodup → Wa gs n k s u z → Wa gs n (k + l.length) s (fin u l) (z + w)
  | u, s, k, [], w, z, h, _, hw => by
    obtain rfl : w = 0 := h
    rw [Int.add_zero]
    exact hw
  | u, s, k, v :: r, w, z, h, hn, hw => by
    obtain ⟨d, e, hv, hr⟩ := h
    rw [List.nodup_cons] at hn
    rcases comb_mem gs none u v d e with q | ⟨g, hg, eg⟩
    · cases q
    · obtain ⟨i, hi⟩ := List.getElem?_of_mem hg
      have := pa_wa hr hn.2 (Wa.snoc hw hv (fun q => hn.1 (q ▸ List.mem_cons_self ..)) hi eg)
      rw [fin_cons, List.length_cons, show k + (r.length + 1) = k + 1 + r.length by omega, show z + w = z + d + (w - d) by omega]
      exact this
theorem no_neg {gs : List G} {n : Nat} (h : NoCl gs n) : NN n (fw n (comb gs)) := by
  intro i hi d e
  by_cases hd : 0 ≤ d
  · exact hd
  · obtain ⟨l, n1, f1, p1⟩ := fwk_path n (Nat.le_refl n) i i d hi e
    obtain ⟨v, m, z, hm, hnd, hf, hp, hz⟩ := simple l.length i l d (Nat.le_refl _) n1 f1 p1 (by omega)
    exfalso
    have hlen := nodup_le n m hnd hp.lt
    -- m = front ++ [v]
    obtain ⟨x, hx⟩ : ∃ x, m.getLast? = some x := by
      cases q : m.getLast? with
      | none => exact absurd (List.getLast?_eq_none_iff.mp q) hm
      | some x => exact ⟨x, rfl⟩
    have hxv : x = v := by
      unfold fin at hf
      rw [hx] at hf
      exact hf
    subst hxv
    have hmem : x ∈ m := List.mem_of_getLast? hx
    match m, hp, hnd, hx, hf, hlen, hmem with
    | [y], hp, hnd, hx, hf, hlen, hmem =>
      obtain rfl : y = x := by simpa using hx
      obtain ⟨d', e', hv, hr⟩ := hp
      have hr' : z - d' = 0 := hr
      rcases comb_mem gs none y y d' e' with q | ⟨g, hg, eg⟩
      · cases q
      · have := h.nn g hg y hv d' eg
        omega
    | y :: y2 :: r, hp, hnd, hx, hf, hlen, hmem =>
      have hxn : x < n := hp.lt x hmem
      obtain ⟨d', e', hv, hr⟩ := hp
      have hxr : x ∈ y2 :: r := List.mem_of_getLast? (by rw [List.getLast?_cons_cons] at hx; exact hx)
      have hxy : x ≠ y := fun q => (List.nodup_cons.mp hnd).1 (q ▸ hxr)
      rcases comb_mem gs none x y d' e' with q | ⟨g, hg, eg⟩
      · cases q
      · obtain ⟨i', hi'⟩ := List.getElem?_of_mem hg
        have w1 := Wa.snoc (Wa.nil (gs := gs) (n := n) x) hv hxy hi' eg
        have w2 := pa_wa hr hnd w1
        rw [← fin_cons x, hf] at w2
        have := h.wa x hxn _ (by omega) (by simp at hlen ⊢; omega) _ w2
        omega
theorem no_feas {gs : List G} {n : Nat} (hne : gs ≠ []) (hd : ∀ g ∈ gs, DS n g) (hc : ∀ g ∈ gs, Conn n g) (h : NoCl gs n) : ∃ p, ∀ g ∈ gs, Pot p n g := by
  obtain ⟨g, hg⟩ := List.exists_mem_of_ne_nil gs hne
  have cl : ∀ g ∈ gs, ∀ i j, leO (comb gs i j) (g i j) := fun g hg i j => (comb_le gs none i j).2 g hg
  obtain ⟨p, hp⟩ := (fw_iff ((hd g hg).le fun i => cl g hg i i) ((hc g hg).le fun i j => cl g hg i j)).mp (no_neg h)
  exact ⟨p, fun g hg => hp.mono fun i j => cl g hg i j⟩
end K9

/-! plain law, part 4: what closes -/
namespace K9
def okS (n : Nat) (gs : List G) (s : S4) : Prop := 0 ≤ s.c ∧ s.c < (gs.length : Int) ∧ 0 ≤ s.a ∧ s.a < (n : Int) ∧ 0 ≤ s.b ∧ s.b < (n : Int) ∧
  ∀ g, gs[s.c.toNat]? = some g → NN n g → ∃ m, g s.a.toNat s.b.toNat = some m ∧ m ≤ s.d
/-- where a walk stands ahead of its i-th step -/
def endAt (e : Int) (st : List S4) : Nat → Int
  | 0 => e
  | i + 1 => match st[i]? with
    | some s => s.b
    | none => 0
def Closes (n : Nat) (gs : List G) (st : List S4) : Prop := ∃ s0 sl, st[0]? = some s0 ∧ st[st.length - 1]? = some sl ∧ s0.a = sl.b ∧ (∀ i s, st[i]? = some s → s.a = endAt s0.a st i ∧ okS n gs s) ∧ sumS st < 0
theorem Wk.steps {gs : List G} {n : Nat} : ∀ {u v : Nat} {st : List S4}, u < n → Wk gs n u st v → (∀ i s, st[i]? = some s → s.a = endAt (u : Int) st i ∧ ∃ (c a b : Nat) (g : G), s.c = (c : Int) ∧ s.a = (a : Int) ∧ s.b = (b : Int) ∧ a < n ∧ b < n ∧ gs[c]? = some g ∧ g a b = some s.d) ∧ endAt (u : Int) st st.length = (v : Int)
  | u, v, [], hu, h => by
    obtain rfl : u = v := h
    exact ⟨fun i s e => by simp at e, rfl⟩
  | u, v, s :: r, hu, h => by
    obtain ⟨h1, c, b, g, h2, h3, h4, h5, h6, h7⟩ := h
    obtain ⟨i1, i2⟩ := Wk.steps h4 h7
    have shift : ∀ i, endAt (u : Int) (s :: r) (i + 1) = endAt (b : Int) r i := fun i => by
      cases i with
      | zero => simp [endAt, h3]
      | succ i =>
        simp only [endAt, List.getElem?_cons_succ]
    refine ⟨fun i x e => ?_, ?_⟩
    · cases i with
      | zero =>
        obtain rfl := Option.some.inj e
        exact ⟨h1, c, u, b, g, h2, h1, h3, hu, h4, h5, h6⟩
      | succ i =>
        rw [shift]
        exact i1 i x e
    · rw [List.length_cons, shift]
      exact i2
theorem endAt_succ {e : Int} {st : List S4} {i : Nat} {s : S4} (h : st[i]? = some s) : endAt e st (i + 1) = s.b := by
  simp only [endAt, h]
theorem Good.closes {gs : List G} {n u : Nat} {st : List S4} (h : Good gs n u st) : Closes n gs st := by
  obtain ⟨h1, h2⟩ := h.wk.steps h.lt
  have hl : 0 < st.length := List.length_pos_iff.mpr h.ne
  have e0 : st[0]? = some st[0] := List.getElem?_eq_getElem hl
  have el : st[st.length - 1]? = some st[st.length - 1] := List.getElem?_eq_getElem (by omega)
  have a0 : st[0].a = (u : Int) := (h1 0 _ e0).1
  have al : st[st.length - 1].b = (u : Int) := by
    rw [← h2, ← endAt_succ (e := (u : Int)) el, show st.length - 1 + 1 = st.length by omega]
  refine ⟨_, _, e0, el, by rw [a0, al], fun i s hs => ?_, h.neg⟩
  obtain ⟨b1, c, a, b, g, k1, k2, k3, k4, k5, k6, k7⟩ := h1 i s hs
  refine ⟨by rw [a0]; exact b1, by omega, ?_, by omega, by omega, by omega, by omega, fun g' hg' _ => ?_⟩
  · rw [k1]
    have := (List.getElem?_eq_some_iff.mp k6).1
    omega
  · rw [k1, Int.toNat_natCast, k6] at hg'
    obtain rfl := Option.some.inj hg'
    exact ⟨s.d, by rw [k2, k3, Int.toNat_natCast, Int.toNat_natCast]; exact k7, Int.le_refl _⟩
theorem not_ok {n : Nat} {gs : List G} {st : List S4} {s : S4} (hs : s ∈ st) (h : ¬ okS n gs s) : ¬ Closes n gs st := by
  rintro ⟨s0, sl, _, _, _, hk, _⟩
  obtain ⟨i, hi⟩ := List.getElem?_of_mem hs
  exact h (hk i s hi).2
theorem not_sum {n : Nat} {gs : List G} {st : List S4} (h : 0 ≤ sumS st) : ¬ Closes n gs st := by
  rintro ⟨s0, sl, _, _, _, _, hk⟩
  omega
/-- one step left out -/
def cut (st : List S4) (i : Nat) : List S4 := st.take i ++ st.drop (i + 1)
theorem not_cut {gs : List G} {n u i : Nat} {st : List S4} {s : S4} (h : Good gs n u st) (hi : st[i]? = some s) (hl : 1 < st.length) (hne : s.a ≠ s.b) : ¬ Closes n gs (cut st i) := by
  rintro ⟨s0, sl, e0, el, ec, hk, _⟩
  obtain ⟨h1, h2⟩ := h.wk.steps h.lt
  have hil : i < st.length := (List.getElem?_eq_some_iff.mp hi).1
  have len : (cut st i).length = st.length - 1 := by
    unfold cut
    rw [List.length_append, List.length_take, List.length_drop]
    omega
  have lo : ∀ j, j < i → (cut st i)[j]? = st[j]? := fun j hj => by
    unfold cut
    rw [List.getElem?_append_left (by rw [List.length_take]; omega), List.getElem?_take_of_lt hj]
  have hi' : ∀ j, i ≤ j → (cut st i)[j]? = st[j + 1]? := fun j hj => by
    unfold cut
    rw [List.getElem?_append_right (by rw [List.length_take]; omega), List.length_take, List.getElem?_drop]
    congr 1
    omega
  have sa := (h1 i s hi).1
  have sb : endAt (u : Int) st (i + 1) = s.b := endAt_succ hi
  have lastb : ∀ x, st[st.length - 1]? = some x → x.b = (u : Int) := fun x hx => by
    rw [← h2, ← endAt_succ (e := (u : Int)) hx, show st.length - 1 + 1 = st.length by omega]
  rw [len] at el
  by_cases c0 : i = 0
  · subst c0
    rw [hi' 0 (Nat.le_refl _)] at e0
    rw [hi' _ (Nat.zero_le _), show st.length - 1 - 1 + 1 = st.length - 1 by omega] at el
    have k1 := (h1 _ _ e0).1
    have k2 := lastb _ el
    have k3 : s.a = (u : Int) := sa
    rw [show endAt (u : Int) st (0 + 1) = s.b from sb] at k1
    exact hne (by omega)
  · by_cases cl : i = st.length - 1
    · rw [lo 0 (by omega)] at e0
      rw [lo _ (by omega)] at el
      have k1 : s0.a = (u : Int) := (h1 _ _ e0).1
      have k2 := endAt_succ (e := (u : Int)) el
      rw [show st.length - 1 - 1 + 1 = i by omega] at k2
      have k3 := lastb s (by rw [← cl]; exact hi)
      exact hne (by omega)
    · obtain ⟨j, rfl⟩ : ∃ j, i = j + 1 := ⟨i - 1, by omega⟩
      have hx : st[j + 1 + 1]? = some st[j + 1 + 1] := List.getElem?_eq_getElem (by omega)
      have hp : st[j]? = some st[j] := List.getElem?_eq_getElem (by omega)
      have q1 := (hk (j + 1) _ ((hi' (j + 1) (Nat.le_refl _)).trans hx)).1
      rw [endAt_succ ((lo j (by omega)).trans hp)] at q1
      have q2 := (h1 _ _ hx).1
      rw [sb] at q2
      have q3 := endAt_succ (e := (u : Int)) hp
      exact hne (by omega)
end K9

/-! plain law, part 5: cells together, and the law's own examples -/
namespace K9
theorem Pot.le {p : Nat → Int} {n : Nat} {g g' : G} (h : Pot p n g') (l : ∀ i j, leO (g' i j) (g i j)) : Pot p n g := fun i j hi hj d e => by
  obtain ⟨c, e2, hc⟩ := l i j d e
  have := h i j hi hj c e2
  omega
theorem far_pot {p : Nat → Int} {lots : Nat} {ls : List Lim} (hw : ∀ l ∈ ls, WfL (lots + 2) l) : Pot p (lots + 2) (farG lots ls) ↔ Places p lots ls := by
  have e : Pot p (lots + 2) (limsG lots ls) ↔ Places p lots ls := by
    unfold limsG Places
    rw [foldl_pot hw, plain_pot]
  rw [← e]
  exact ⟨fun h => h.le fun i j => fwk_le _ _ i j, fun h => fwk_pot h _ (Nat.le_refl _)⟩
theorem far_conn (lots : Nat) (ls : List Lim) : Conn (lots + 2) (farG lots ls) := (lims_conn lots _ ls).le fun i j => fwk_le _ _ i j
theorem far_nn {p : Nat → Int} {lots : Nat} {ls : List Lim} (hw : ∀ l ∈ ls, WfL (lots + 2) l) (h : Places p lots ls) : NN (lots + 2) (farG lots ls) :=
  (far_iff lots ls).mpr ((feas_iff hw).mpr ⟨p, h⟩)
theorem far_no {lots : Nat} {ls : List Lim} (hw : ∀ l ∈ ls, WfL (lots + 2) l) (h : ¬ ∃ p, Places p lots ls) : ¬ NN (lots + 2) (farG lots ls) := fun z => h ((feas_iff hw).mp ((far_iff lots ls).mp z))
/-- cells fit together where their limits do -/
theorem joint {lots : Nat} {rows : List (List Lim)} (hne : rows ≠ []) (hw : ∀ r ∈ rows, ∀ l ∈ r, WfL (lots + 2) l) : (∃ p, ∀ g ∈ rows.map (farG lots), Pot p (lots + 2) g) ↔ ∃ p, Places p lots rows.flatten := by
  constructor
  · rintro ⟨p, hp⟩
    refine ⟨p, ?_, fun l hl => ?_⟩
    · obtain ⟨r, hr⟩ := List.exists_mem_of_ne_nil rows hne
      exact ((far_pot (hw r hr)).mp (hp _ (List.mem_map_of_mem hr))).1
    · obtain ⟨r, hr, hl2⟩ := List.mem_flatten.mp hl
      exact ((far_pot (hw r hr)).mp (hp _ (List.mem_map_of_mem hr))).2 l hl2
  · rintro ⟨p, hp⟩
    refine ⟨p, fun g hg => ?_⟩
    obtain ⟨r, hr, rfl⟩ := List.mem_map.mp hg
    exact (far_pot (hw r hr)).mpr ⟨hp.1, fun l hl => hp.2 l (List.mem_flatten.mpr ⟨r, hr, hl⟩)⟩
theorem fit_no_good {lots u : Nat} {rows : List (List Lim)} {st : List S4} (hne : rows ≠ []) (hw : ∀ r ∈ rows, ∀ l ∈ r, WfL (lots + 2) l) (hf : ∃ p, Places p lots rows.flatten) : ¬ Good (rows.map (farG lots)) (lots + 2) u st := fun h => good_no h ((joint hne hw).mpr hf)
theorem unfit_no_nocl {lots : Nat} {rows : List (List Lim)} (hne : rows ≠ []) (hw : ∀ r ∈ rows, ∀ l ∈ r, WfL (lots + 2) l) (hf : ¬ ∃ p, Places p lots rows.flatten) : ¬ NoCl (rows.map (farG lots)) (lots + 2) := fun h => by
  refine hf ((joint hne hw).mp (no_feas (fun e => hne (List.map_eq_nil_iff.mp e)) (fun g hg => ?_) (fun g hg => ?_) h))
  · obtain ⟨r, hr, rfl⟩ := List.mem_map.mp hg
    exact far_ds lots r
  · obtain ⟨r, hr, rfl⟩ := List.mem_map.mp hg
    exact far_conn lots r
/-! ### wrong answers -/
theorem at_mem {st : List S4} {i : Nat} {s' : S4} : s' ∈ st.take i ++ [s'] ++ st.drop (i + 1) := by simp
theorem sum_swap {st : List S4} {i : Nat} {s s' : S4} (h : st[i]? = some s) : sumS (st.take i ++ [s'] ++ st.drop (i + 1)) = sumS st - s.d + s'.d := by
  have e : st = st.take i ++ [s] ++ st.drop (i + 1) := by
    have h1 : st.take (i + 1) = st.take i ++ [s] := by
      rw [List.take_add_one, h]
      rfl
    rw [← h1, List.take_append_drop]
  have h2 : sumS st = sumS (st.take i) + s.d + sumS (st.drop (i + 1)) := by
    conv => lhs; rw [e]
    rw [sumS_app, sumS_app]
    show _ + ([s.d] : List Int).sum + _ = _
    simp
  rw [sumS_app, sumS_app, h2]
  show _ + ([s'.d] : List Int).sum + _ = _
  simp
  omega
/-! ### the law's examples -/
def oneL (m : Nat) : List Lim := [⟨0, 1, m + 1, none⟩]
def twoL (m : Nat) : List Lim := [⟨0, 2, 0, some (m + 1)⟩]
def voidL : List Lim := [⟨0, 1, 2, some 2⟩, ⟨0, 1, 5, some 5⟩]
theorem one_wf (m : Nat) : ∀ l ∈ oneL m, WfL (2 + 2) l := fun l h => by
  rw [List.mem_singleton.mp h]
  exact ⟨by show 0 < 1; decide, by show 1 < 4; decide⟩
theorem two_wf (m : Nat) : ∀ l ∈ twoL m, WfL (2 + 2) l := fun l h => by
  rw [List.mem_singleton.mp h]
  exact ⟨by show 0 < 2; decide, by show 2 < 4; decide⟩
theorem void_wf : ∀ l ∈ voidL, WfL (1 + 2) l := fun l h => by
  rcases List.mem_cons.mp h with rfl | h
  · exact ⟨by show 0 < 1; decide, by show 1 < 3; decide⟩
  · rw [List.mem_singleton.mp h]
    exact ⟨by show 0 < 1; decide, by show 1 < 3; decide⟩
theorem le_of_pot {p : Nat → Int} {n i j : Nat} {g : G} (h : Pot p n g) (hi : i < n) (hj : j < n) {d M : Int} (e : g i j = some M) (hM : M ≤ d) : p j - p i ≤ d := by
  have := h i j hi hj M e
  omega
theorem one_pot (m : Nat) : Places (fun i => if i = 0 then 0 else (m : Int) + 1 + i) 2 (oneL m) := by
  refine ⟨fun i hi => ?_, fun l h => ?_⟩
  · match i, hi with
    | 0, _ => simp; omega
    | 1, _ => simp; omega
    | 2, _ => simp; omega
    | i + 3, h => omega
  · rw [List.mem_singleton.mp h]
    exact ⟨by simp, fun g e => nomatch e⟩
theorem two_pot (m : Nat) : Places (fun i => (i : Int)) 2 (twoL m) := by
  refine ⟨fun i hi => by simp, fun l h => ?_⟩
  rw [List.mem_singleton.mp h]
  refine ⟨by simp, fun g e => ?_⟩
  cases e
  simp
  omega
theorem free_pot : Places (fun i => (i : Int)) 1 [] := ⟨fun i hi => by simp, fun l h => nomatch h⟩
theorem void_no : ¬ ∃ p, Places p 1 voidL := by
  rintro ⟨p, _, h⟩
  have h1 := (h ⟨0, 1, 2, some 2⟩ (by simp [voidL])).2 2 rfl
  have h2 := (h ⟨0, 1, 5, some 5⟩ (by simp [voidL])).1
  simp at h1 h2
  omega
theorem one_10 (m : Nat) : ∃ d, farG 2 (oneL m) 1 0 = some d ∧ d ≤ -(m : Int) - 2 := by
  refine fwk_le 4 (limsG 2 (oneL m)) 1 0 _ ?_
  show near (plainG 2 1 0) (extraG ⟨0, 1, m + 1, none⟩ 1 0) = _
  show near (some (-1)) (some (-((m + 1 : Nat) : Int) - 1)) = _
  simp only [near]
  rw [if_neg (by omega)]
  congr 1
  omega
theorem one_21 (m : Nat) : ∃ d, farG 2 (oneL m) 2 1 = some d ∧ d ≤ -1 := fwk_le 4 (limsG 2 (oneL m)) 2 1 _ rfl
theorem two_02 (m : Nat) : ∃ d, farG 2 (twoL m) 0 2 = some d ∧ d ≤ (m : Int) + 2 := by
  refine fwk_le 4 (limsG 2 (twoL m)) 0 2 _ ?_
  show near (plainG 2 0 2) (extraG ⟨0, 2, 0, some (m + 1)⟩ 0 2) = _
  show some (((m + 1 : Nat) : Int) + 1) = _
  congr 1
def T0 (m : Nat) : S4 := ⟨1, 0, 2, (m : Int) + 2⟩
def T1 : S4 := ⟨0, 2, 1, -1⟩
def T2 (d : Int) : S4 := ⟨0, 1, 0, d⟩
theorem ok0 (m : Nat) : okS 4 [farG 2 (oneL m), farG 2 (twoL m)] (T0 m) := ⟨(by show (0 : Int) ≤ 1; decide), (by show (1 : Int) < 2; decide), (by show (0 : Int) ≤ 0; decide), (by show (0 : Int) < 4; decide), (by show (0 : Int) ≤ 2; decide), (by show (2 : Int) < 4; decide), fun g e _ => by
  cases e
  exact two_02 m⟩
theorem ok1 (m : Nat) : okS 4 [farG 2 (oneL m), farG 2 (twoL m)] T1 := ⟨by decide, by show (0 : Int) < 2; decide, by decide, by decide, by decide, by decide, fun g e _ => by
  cases e
  exact one_21 m⟩
theorem ok2 (m : Nat) : okS 4 [farG 2 (oneL m), farG 2 (twoL m)] (T2 (0 - (m : Int) - 2)) := ⟨(by show (0 : Int) ≤ 0; decide), (by show (0 : Int) < 2; decide), (by show (0 : Int) ≤ 1; decide), (by show (1 : Int) < 4; decide), (by show (0 : Int) ≤ 0; decide), (by show (0 : Int) < 4; decide), fun g e _ => by
  cases e
  obtain ⟨d, e1, e2⟩ := one_10 m
  exact ⟨d, e1, by show d ≤ 0 - (m : Int) - 2; omega⟩⟩
theorem ex_a (m : Nat) : Closes 4 [farG 2 (oneL m), farG 2 (twoL m)] [T0 m, T1, T2 (0 - (m : Int) - 2)] := by
  refine ⟨T0 m, T2 (0 - (m : Int) - 2), rfl, rfl, rfl, fun i s e => ?_, ?_⟩
  · match i, e with
    | 0, e => cases e; exact ⟨rfl, ok0 m⟩
    | 1, e => cases e; exact ⟨rfl, ok1 m⟩
    | 2, e => cases e; exact ⟨rfl, ok2 m⟩
    | i + 3, e => simp at e
  · show ([(m : Int) + 2, -1, 0 - (m : Int) - 2] : List Int).sum < 0
    simp
    omega
theorem ex_b (m : Nat) : Closes 4 [farG 2 (oneL m), farG 2 (twoL m)] [T1, T2 (0 - (m : Int) - 2), T0 m] := by
  refine ⟨T1, T0 m, rfl, rfl, rfl, fun i s e => ?_, ?_⟩
  · match i, e with
    | 0, e => cases e; exact ⟨rfl, ok1 m⟩
    | 1, e => cases e; exact ⟨rfl, ok2 m⟩
    | 2, e => cases e; exact ⟨rfl, ok0 m⟩
    | i + 3, e => simp at e
  · show ([-1, 0 - (m : Int) - 2, (m : Int) + 2] : List Int).sum < 0
    simp
    omega
theorem ex_c (m : Nat) : ¬ Closes 4 [farG 2 (twoL m), farG 2 (oneL m)] [T0 m, T1, T2 (0 - (m : Int) - 2)] := by
  refine not_ok (s := T2 (0 - (m : Int) - 2)) (by simp) fun h => ?_
  obtain ⟨d, e1, e2⟩ := h.2.2.2.2.2.2 _ rfl (far_nn (two_wf m) (two_pot m))
  have := le_of_pot ((far_pot (two_wf m)).mpr (two_pot m)) (i := 1) (j := 0) (by decide) (by decide) e1 e2
  simp [T2] at this
  omega
theorem ex_d (m : Nat) : ¬ Closes 4 [farG 2 (oneL m), farG 2 (twoL m)] [T2 (0 - (m : Int) - 2), T1, T0 m] := by
  rintro ⟨s0, _, _, _, _, h, _⟩
  have := (h 1 T1 rfl).1
  simp [T1, T2, endAt] at this
theorem ex_e (m : Nat) : ¬ Closes 4 [farG 2 (oneL m), farG 2 (twoL m)] [T0 m, T1, T2 (0 - (m : Int) - 3)] := by
  refine not_ok (s := T2 (0 - (m : Int) - 3)) (by simp) fun h => ?_
  obtain ⟨d, e1, e2⟩ := h.2.2.2.2.2.2 _ rfl (far_nn (one_wf m) (one_pot m))
  have := le_of_pot ((far_pot (one_wf m)).mpr (one_pot m)) (i := 1) (j := 0) (by decide) (by decide) e1 e2
  simp [T2] at this
  omega
theorem ex_f (m : Nat) : ¬ Closes 4 [farG 2 (oneL m), farG 2 (twoL m)] [T0 m, T1, T2 (0 - (m : Int) - 1)] := by
  refine not_sum ?_
  show 0 ≤ ([(m : Int) + 2, -1, 0 - (m : Int) - 1] : List Int).sum
  simp
  omega
theorem ex_g (m : Nat) : ¬ NoCl [farG 2 (oneL m), farG 2 (twoL m)] 4 := fun h => by
  refine unfit_no_nocl (lots := 2) (rows := [oneL m, twoL m]) (by simp) ?_ ?_ h
  · intro r hr
    rcases List.mem_cons.mp hr with rfl | hr
    · exact one_wf m
    · rw [List.mem_singleton.mp hr]
      exact two_wf m
  · rintro ⟨p, h1, h2⟩
    have a1 := h1 1 (by decide)
    have a2 := (h2 ⟨0, 1, m + 1, none⟩ (by simp [oneL])).1
    have a3 := (h2 ⟨0, 2, 0, some (m + 1)⟩ (by simp [twoL])).2 (m + 1) rfl
    simp at a1 a2 a3
    omega
def U (c : Int) : S4 := ⟨c, 0, 0, -7⟩
theorem ex_h : Closes 3 [farG 1 voidL] [U 0] := by
  refine ⟨U 0, U 0, rfl, rfl, rfl, fun i s e => ?_, by decide⟩
  match i, e with
  | 0, e =>
    cases e
    refine ⟨rfl, by decide, by show (0 : Int) < 1; decide, by decide, by decide, by decide, by decide, fun g e z => ?_⟩
    cases e
    exact absurd z (far_no void_wf void_no)
  | i + 1, e => simp at e
theorem ex_i : ¬ Closes 3 [farG 1 voidL, farG 1 []] [U 1] := by
  refine not_ok (s := U 1) (by simp) fun h => ?_
  have wf : ∀ l ∈ ([] : List Lim), WfL (1 + 2) l := fun l h => nomatch h
  obtain ⟨d, e1, e2⟩ := h.2.2.2.2.2.2 _ rfl (far_nn wf free_pot)
  have := le_of_pot ((far_pot wf).mpr free_pot) (i := 0) (j := 0) (by decide) (by decide) e1 e2
  simp [U] at this
end K9

/-! rules of our own beside the layer's -/
namespace K9
open PySem PySem.Spec PyProof.Rows L2

section
variable {X : Cx} {CX : CXT} {k i : Nat} {f : Addr} {sp : Sp} {E : XK} {x : Str} {e a b c d : Expr} {es : List Expr} {te ta tb tc td : TE} {t : TA} {p pos : Pos}
def tCl (sp : Sp) (E : XK) (t : TA) : TE := fun σ H Q => t σ H fun vs H1 => sp vs H1 Q E
/-- x(e, ..), x a def of the module with a promise by places -/
theorem call_r (F : FnR X.prog X.w X.K X.mg X.base CX k f sp) (hr : Room k X.A) (hk : PySem.W.keepIn X.K (.ref f) = true) (hg : Gl X x) (hm : X.mg x = some (.ref f)) (hx : Passes CX X E) (ha : PA X (e :: es) t)
    (hd : (x == ("__debug__" : Str)) = false := by decide) (he : starEach (e :: es) X.env = (false, eval e X.env) :: starEach es X.env := by rfl) (hpl : (backTo pos (starEach es X.env)).any (·.1) = false := by rfl) :
    PE X (.Call (.Name x p) (e :: es) [] pos) (tCl sp E t) :=
  ⟨fun pins s σ H Q I h => wpAny_Call_Name_kw (ld_glob I hg hm (PySem.W.callWith_K (h₀ := X.base) I.ok.mod.kin hk
    (thn (ha.run pos pins s σ H _ I h) fun us s1 ⟨vs, H1, I1, r, q⟩ => ⟨I1.kIn, wpAny_call (run_fnR F hr hx I1 r q)⟩) he hpl) hd)⟩

/-- a op1 b op2 c op3 d, a test -/
def tCh3 (r1 r2 r3 : R2) (ta tb tc td : TE) : TT := fun σ H Q => ta σ H fun x H1 => tb σ H1 fun y H2 => r1 x y H2 fun z1 H3 => ∃ k1, z1 = .bl k1 ∧
  (if k1 = true then tc σ H3 fun w H4 => r2 y w H4 fun z2 H5 => ∃ k2, z2 = .bl k2 ∧ (if k2 = true then td σ H5 fun v H6 => r3 w v H6 fun z3 H7 => ∃ k3, z3 = .bl k3 ∧ Q k3 H7 else Q false H5) else Q false H3)
theorem pt_ch3 {o1 o2 o3 : CmpOp} {r1 r2 r3 : R2} (h1 : OpR X (compareOp o1) r1) (h2 : OpR X (compareOp o2) r2) (h3 : OpR X (compareOp o3) r3) (ha : PE X a ta) (hb : PE X b tb) (hc : PE X c tc) (hd : PE X d td)
    (hm : lastMarks [o1, o2, o3] [b, c, d] = false := by with_unfolding_all rfl) : PT X (.Compare a [o1, o2, o3] [b, c, d] pos) (tCh3 r1 r2 r3 ta tb tc td) := by
  refine ⟨fun pins s σ H Q I h => isTrue_chain ?_ hm⟩
  refine thn (ha.run pins s σ H _ I h) fun v1 s1 ⟨x, H1, I1, e1, q1⟩ => test_link (thn (hb.run pins s1 σ H1 _ I1 q1) fun v2 s2 ⟨y, H2, I2, e2, q2⟩ => thn (h1 pins s2 σ H2 x y v1 v2 _ I2 e1 e2 q2) fun u1 s3 ⟨z, H3, I3, e3, k1, ez, q3⟩ => ?_)
  subst ez
  cases e3
  refine wpAny_truthy_bool ?_
  cases k1 with
  | false => exact ite_ff ⟨H3, I3, q3⟩
  | true =>
    refine ite_tt (test_link (thn (hc.run pins s3 σ H3 _ I3 q3) fun v3 s4 ⟨w', H4, I4, e4, q4⟩ => thn (h2 pins s4 σ H4 y w' v2 v3 _ I4 e2 e4 q4) fun u2 s5 ⟨z2, H5, I5, e5, k2, ez2, q5⟩ => ?_))
    subst ez2
    cases e5
    refine wpAny_truthy_bool ?_
    cases k2 with
    | false => exact ite_ff ⟨H5, I5, q5⟩
    | true =>
      refine ite_tt (test_last (thn (hd.run pins s5 σ H5 _ I5 q5) fun v4 s6 ⟨w2, H6, I6, e6, q6⟩ => thn (h3 pins s6 σ H6 w' w2 v3 v4 _ I6 e4 e6 q6) fun u3 s7 ⟨z3, H7, I7, e7, k3, ez3, q7⟩ => ?_))
      subst ez3
      cases e7
      exact wpAny_truthy_bool ⟨H7, I7, q7⟩
/-- range(n) as a value -/
theorem rng1 : CallR X (.type "range") (fun vs H Q => ∃ j, vs = [V.int j] ∧ ∀ p, H p = none → Q (.ref p) (upd H p (.rng 0 j))) := by
  intro pins s σ H vs us Q I r ⟨j, ev, q⟩
  subst ev
  cases r with
  | cons r rr =>
    cases rr
    obtain ⟨t, rfl⟩ := r
    exact call_range_1 ⟨.ref s.heap.objs.size, upd H s.heap.objs.size (.rng 0 j), I.laid (t' := s.toks + 1 + 1) (fun b o z => Heap.get?_push_of_some _ z) (Nat.le_refl _)
      ⟨s.toks, t, s.toks + 1, Heap.get?_push_size _ rfl⟩, rfl, q _ (I.hok.fresh (Nat.le_refl _))⟩
/-- i not in r, r a range -/
theorem not_in_rng : OpR X (compareOp .NotIn) (fun x y H Q => ∃ i a lo hi, x = V.int i ∧ y = V.ref a ∧ H a = some (.rng lo hi) ∧ Q (.bl (!decide (lo ≤ i ∧ i < hi))) H) := by
  intro pins s σ H x y v u Q I rx ry ⟨i, a, lo, hi, ex, ey, ha, q⟩
  subst ex ey
  obtain ⟨k, rfl⟩ := rx
  obtain rfl : u = Value.ref a := ry
  obtain ⟨t1, t2, t3, ho⟩ := I.hok a _ ha
  show wpAny _ _ (do return Value.bool (!(← contains (Value.ref a) (Value.int i k)))) _ _ s
  have hT : s.TypeIs (.ref a) "range" := ⟨_, ho, rfl⟩
  refine wpAny_bind (wpAny_contains_slot hT F.slot_range_contains (call_meets F.slot_range_contains hT F.entry_range_contains (F.args_range_contains_2 _ _) (q_contains a lo hi i t1 t2 t3 k)
    ⟨ho, wpAny_truthy_bool (wpAny_pure ⟨.bl (!decide (lo ≤ i ∧ i < hi)), H, I, ?_, q⟩)⟩))
  show Value.bool _ = Value.bool _
  rw [place1]
/-- for x in r, r a range that stands -/
def iRngV (te : TE) : TI := fun σ H R => te σ H fun x H1 => ∃ (p : Addr) (j : Int), x = .ref p ∧ H1 p = some (.rng 0 j) ∧ -(2 ^ 62) ≤ j ∧ j < 2 ^ 62 ∧ R (Itr 0 j.toNat) H1
theorem pi_rngV {tg : Expr} (he : PE X e te) : PI X tg e (iRngV te) := by
  refine ⟨fun pins s σ H R I h => thn (he.run pins s σ H _ I h) fun v s1 ⟨x, H1, I1, r1, p, j, ex, hp, l1, l2, q⟩ => ?_⟩
  subst ex
  obtain rfl : v = Value.ref p := r1
  obtain ⟨t1, t2, t3, ho⟩ := I1.hok p _ hp
  refine wpAny_pyIter_range (a := 0) (b := j) (c := 1) (t := t1) (u := t2) (v := t3) ho (small_one (by omega) (by omega) l1 l2) ?_
  have I2 : Inv X pins σ H1 { s1 with heap := s1.heap.push { cls := .type "range_iterator", data := .fields #[rawInt 0, rawInt (Builtin.Range.rangeSize 0 j 1), rawInt 1] } } := I1.kept (t' := s1.toks) fun b o z => Heap.get?_push_of_some _ z
  refine ⟨s1.heap.objs.size, [s1.heap.objs.size], _, _, H1, rfl, I2, turn_range _ 0 j.toNat, ?_, fun b hb => ?_, q⟩
  · have e1 : (0 : Int) + ((0 : Nat) : Int) * 1 = 0 := by simp
    have e2 : ((j.toNat : Nat) : Int) - ((0 : Nat) : Int) = Builtin.Range.rangeSize 0 j 1 := by
      rw [rangeSize_one]
      split <;> omega
    show IsRangeIter _ _ (0 + ((0 : Nat) : Int) * 1) (((j.toNat : Nat) : Int) - ((0 : Nat) : Int)) 1
    rw [e1, e2]
    exact Heap.get?_push_size _ rfl
  · obtain rfl : b = s1.heap.objs.size := by simpa using hb
    exact I1.fpOk (Nat.le_refl _) (I1.hok.fresh (Nat.le_refl _))

/-! ### enumerate(t), t a tuple -/
theorem meets_enum1 {v : Value} {o : Obj} {B0 : Heap → Prop} (B : Begins v o B0) :
    Meets (Builtin.«enumerate.__new__» ⟨[.type "enumerate", v], []⟩) (fun _ R s => B0 s.heap ∧
      R (.ok (.ret (.ref (s.heap.push o).objs.size))) { s with heap := (s.heap.push o).push { cls := .type "enumerate", data := .fields #[.none, .bool false, .ref s.heap.objs.size, rawInt 0, .none, .none] } }) :=
  .of_wp fun prog w A R s h => by
    obtain ⟨hp, g, d, tk, os⟩ := s
    obtain ⟨h1, h⟩ := h
    have hsub := sub_enumerate
    have q1 : ∀ {A' : Around} {E : Value → Shared → Prop} {Q : Value → Shared → Prop}, Q (.ref hp.objs.size) ⟨hp.push o, g, d, tk, os⟩ → wpAny (model prog w) A' (pyIter v) Q E ⟨hp, g, d, tk, os⟩ :=
      fun q => B.iter prog w _ _ ⟨hp, g, d, tk, os⟩ _ h1 q
    wp_walk using q1
    refine wpAny_stack_any fun st => wpAny_pure ?_
    split
    · rename_i c _ _ _ _ _
      cases (c == Value.type "enumerate") <;> (wp_walk using q1; exact ⟨_, rfl, h⟩)
    · wp_walk using q1
      exact ⟨_, rfl, h⟩
theorem enum1_begins {prog : Program} {w : World} {A : Around} {E : Value → Shared → Prop} {s : Shared} {v : Value} {o : Obj} {B0 : Heap → Prop} {Q : Value → Shared → Prop} (B : Begins v o B0) (h1 : B0 s.heap)
    (h : ∀ h', IsEnum h' (s.heap.objs.size + 1) s.heap.objs.size 0 .none → h'.get? s.heap.objs.size = some o → h'.objs.size = s.heap.objs.size + 2 →
      (∀ b o, s.heap.get? b = some o → h'.get? b = some o) → Q (.ref (s.heap.objs.size + 1)) { s with heap := h' }) :
    wpAny (model prog w) A (call (.type "enumerate") [v]) Q E s := by
  refine callType_new F.called_enumerate (by decide) (F.typeCall_enumerate_1 _) (F.newCall_enumerate_1 _) (fun obj => F.args_object_init_2 obj _) F.entry_enumerate_new (meets_enum1 B) ⟨h1, ?_⟩
  have hz : (s.heap.push o).objs.size = s.heap.objs.size + 1 := Heap.size_push ..
  show _ ∧ _
  rw [hz]
  have he : IsEnum ((s.heap.push o).push { cls := .type "enumerate", data := .fields #[.none, .bool false, .ref s.heap.objs.size, rawInt 0, .none, .none] }) (s.heap.objs.size + 1) s.heap.objs.size 0 .none := by
    have z := Heap.get?_push_size (s.heap.push o) (o := { cls := .type "enumerate", data := .fields #[.none, .bool false, .ref s.heap.objs.size, rawInt 0, .none, .none] }) rfl
    rw [hz] at z
    exact z
  exact ⟨⟨_, he, rfl⟩, h _ he (Heap.get?_push_of_some _ (Heap.get?_push_size _ B.free)) (by rw [Heap.size_push, hz]) fun b o z => Heap.get?_push_of_some _ (Heap.get?_push_of_some _ z)⟩
/-- the tuple at a, each item in a new pair with its place -/
def IteT (K : PySem.W.Frag) (a : Addr) : It :=
  ⟨fun i H => ∃ (xs : List V) (x : V), SqT K H a xs ∧ xs[i]? = some x, fun i H v H' => ∃ T x, v = .ref T ∧ H T = none ∧ H' = upd H T (.tup [.int (i : Nat), x]) ∧ ∀ xs, SqT K H a xs → xs[i]? = some x, fun i H => ∃ xs : List V, SqT K H a xs ∧ xs.length = i⟩
theorem turn_enumT {P : Program} {w : World} {K : PySem.W.Frag} {elts : List Expr} {kk : Nat} {tpos : Pos} (a e it : Addr) (hai : a ≠ it) (hae : a ≠ e) :
    Turn P w K (.Tuple elts kk tpos) (IteT K a) [e, it] e (fun i h => (∃ old, IsEnum h e it ((i : Nat) : Int) old) ∧ h.IsTupleIter it a i ∧ e ≠ it) where
  mem := List.mem_cons_self ..
  obj := fun i h st b hb => by
    obtain ⟨⟨old, he⟩, ⟨o, ho, hc, hd⟩, _⟩ := st
    rcases List.mem_cons.mp hb with rfl | hb
    · exact ⟨_, he, fun v q => nomatch q⟩
    · obtain rfl := List.mem_singleton.mp hb
      exact ⟨o, ho, fun v q => by rw [hd] at q; cases q⟩
  keep := fun i h h' ⟨⟨old, he⟩, hi, hne⟩ kp => ⟨⟨old, kp e (List.mem_cons_self ..) _ he⟩, hi.at fun o q => kp it (List.mem_cons_of_mem _ (List.mem_cons_self ..)) o q, hne⟩
  item := by
    intro X hP hw hK hc i pins s σ H E I hf ⟨⟨old, he⟩, hit, hne⟩ ⟨xs, x, hq, hx⟩
    subst hP hw hK
    obtain ⟨its, rv, pt, hz⟩ := I.tuple hq
    obtain ⟨u, hu, ru⟩ := rv.get hx
    have hel : e < s.heap.objs.size := Heap.lt_size he
    have hil : it < s.heap.objs.size := by
      obtain ⟨_, q, _⟩ := hit
      exact Heap.lt_size q
    have hlt : i < its.toArray.size := by
      rw [List.size_toArray]
      exact (List.getElem?_eq_some_iff.mp hu).1
    refine wpAny_pyNext_enum_itemD (Draws.tuple (prog := X.prog) (w := X.w) (A := X.A.in1) (I.ok.hd hc) it a hai its.toArray) he ⟨hit, pt⟩ hlt hne (by
      intro hm
      rcases List.mem_cons.mp hm with q | hm
      · exact hne q
      · exact hae (List.mem_singleton.mp hm).symm) fun y h' tk hy ho hs' hT hsz hk => ?_
    have ey : y = u := by
      have z : its.toArray[i]? = some y := hy
      rw [List.getElem?_toArray, hu] at z
      exact (Option.some.inj z).symm
    subst ey
    refine ⟨_, rfl, wpAny_letOwnedTupleGo_enum (s := { s with heap := h', toks := tk + 1 }) ho fun h'' he' sb => ?_⟩
    have hT2 : h''.get? s.heap.objs.size = some { cls := .type "tuple", data := .seq #[.int i tk, y] } := (sb.2 _ (Nat.ne_of_gt hel)).trans hT
    have nw : ObjOk X.prog X.w (upd H s.heap.objs.size (.tup [.int (i : Nat), x])) h'' s.heap.objs.size (.tup [.int (i : Nat), x]) :=
      ⟨by show 2 ≤ sizeLine; decide, [.int i tk, y], .cons ⟨_, rfl⟩ (.cons ru .nil), ⟨_, hT2, rfl, _, rfl⟩⟩
    have I1 : Inv X pins σ (upd H s.heap.objs.size (.tup [.int (i : Nat), x])) { s with heap := h'', toks := tk + 1 } :=
      I.turnedNew (ch := [e, it]) (fun b ob hb q => (sb.2 b (fun z => hb (by simp [z]))).trans (hk b ob (fun z => hb (by simp [z])) (fun z => hb (by simp [z])) q)) hf (Nat.le_refl _) nw
    refine ⟨.ref s.heap.objs.size, _, I1, rfl, ⟨_, x, rfl, I.hok.fresh (Nat.le_refl _), rfl, fun ys hy => by rw [I.tuple_inj hy hq]; exact hx⟩, ⟨⟨y, ?_⟩, hs'.1.at fun o q => (sb.2 it (Ne.symm hne)).trans q, hne⟩, fun b hb => ?_⟩
    · rw [show ((i + 1 : Nat) : Int) = (i : Int) + 1 by omega]
      exact he'
    · have hb' : b < s.heap.objs.size := by
        rcases List.mem_cons.mp hb with z | z
        · rw [z]; exact hel
        · rw [List.mem_singleton.mp z]; exact hil
      rw [upd_ne (Nat.ne_of_lt hb')]
      exact (hf b hb).1
  done := by
    intro X hP hw hK hc i pins s σ H E I hf ⟨⟨old, he⟩, hit, hne⟩ ⟨xs, hq, hx⟩
    subst hP hw hK
    obtain ⟨its, rv, pt, hz⟩ := I.tuple hq
    obtain ⟨f0, f1, f2, f3, f4, f5⟩ := hf it (List.mem_cons_of_mem _ (List.mem_cons_self ..))
    have hl : its.toArray.size = i := by
      rw [List.size_toArray, ← rv.length]
      exact hx
    exact wpAny_pyNext_enum_endD (Draws.tuple (prog := X.prog) (w := X.w) (A := X.A.in1) (I.ok.hd hc) it a hai its.toArray) he (by rw [hl]; exact ⟨hit, pt⟩) fun h' eb =>
      ⟨rfl, I.turned (t' := s.toks) (fun b o hb q => eb b o hb q) f0 f1 f3 f4 f5⟩
  self := fun A i s Q E ⟨⟨_, he⟩, _⟩ h => wpAny_pyIter_enum he h
def iEnumT (K : PySem.W.Frag) (ta : TA) : TI := fun σ H R => ta σ H fun vs H1 => ∃ a xs, vs = [.ref a] ∧ SqT K H1 a xs ∧ R (IteT K a) H1
theorem pi_enumT {X : Cx} {e : Expr} {ta : TA} {p pos tpos : Pos} {elts : List Expr} {kk : Nat} (hg : Gl X "enumerate") (hm : X.mg "enumerate" = none) (ha : PA X [e] ta) (hs : starEach [e] X.env = [(false, eval e X.env)] := by rfl) :
    PI X (.Tuple elts kk tpos) (.Call (.Name "enumerate" p) [e] [] pos) (iEnumT X.K ta) := by
  refine ⟨fun pins s σ H R I h => Call_ (ld_blt I hg hm boot_enumerate (PyProof.Rows.callWith_type1 (thn (ha.run pos pins s σ H _ I h) fun us s1 ⟨vs, H1, I1, r1, a, xs, ex, hq, q⟩ => ?_) hs rfl))⟩
  subst ex
  cases r1 with
  | cons r rr =>
    cases rr
    cases r
    obtain ⟨its, rv, pt, hz⟩ := I1.tuple hq
    have la : a < s1.heap.objs.size := by
      obtain ⟨o, ho, _⟩ := pt
      exact Heap.lt_size ho
    refine enum1_begins (begins_tuple a its.toArray) pt fun h' he hit hsz hk => wpAny_pyIter_enum he ?_
    have I2 : Inv X pins σ H1 { s1 with heap := h' } := I1.kept (t' := s1.toks) hk
    refine ⟨s1.heap.objs.size + 1, [s1.heap.objs.size + 1, s1.heap.objs.size], _, _, H1, rfl, I2, turn_enumT a (s1.heap.objs.size + 1) s1.heap.objs.size (Nat.ne_of_lt la) (Nat.ne_of_lt (Nat.lt_succ_of_lt la)), ⟨⟨.none, he⟩, ⟨_, hit, rfl, rfl⟩, Nat.succ_ne_self _⟩, fun b hb => ?_, q⟩
    have hle : s1.heap.objs.size ≤ b := by
      rcases List.mem_cons.mp hb with z | z
      · rw [z]; exact Nat.le_add_right _ _
      · rw [List.mem_singleton.mp z]; exact Nat.le_refl _
    exact I1.fpOk hle (I1.hok.fresh hle)

/-! ### a display of two pairs whose keys are tuples -/
def tDisp2 (trs : List (TE × TE)) : TE := fun σ H Q => ∀ p, H p = none → tPairs trs σ (upd H p (.dT [])) fun ps H2 => H2 p = some (.dT []) ∧ ∃ (k1 k2 : List Key) (v1 v2 : V) (b1 b2 : Addr), ps = [(.ref b1, v1), (.ref b2, v2)] ∧
  H2 b1 = some (.tup (k1.map kV)) ∧ H2 b2 = some (.tup (k2.map kV)) ∧ Q (.ref p) (upd H2 p (.dT (putK (putK [] k1 v1) k2 v2)))
theorem pe_disp2 {X : Cx} {pos : Pos} {keys : List (Option Expr)} {values : List Expr} {trs : List (TE × TE)} (hu : X.A.units + 1 < cLine) (h : PPs X pos keys values trs) (hall : keys.all (·.isSome) = true) (hl : keys.length = values.length) (h0 : keys ≠ [])
    (h15 : keys.length ≤ 15) : PE X (.Dict keys values pos) (tDisp2 trs) := by
  refine ⟨fun pins s σ H Q I q => ?_⟩
  have hn := I.hok.fresh (Nat.le_refl s.heap.objs.size)
  have I1 := I.laid (a := s.heap.objs.size) (o := .dT []) (h' := s.heap.push { cls := .type "dict", data := .dict #[] }) (t' := s.toks) (fun _ _ z => Heap.get?_push_of_some _ z) (Nat.le_refl _) (dt_empty s.heap I.big)
  have hp := pairTrees_length keys values X.env pos hall hl
  rw [arm_eval_Dict, zip_pairTrees keys values X.env pos hall hl, dictDisplay_pairs (pairTrees keys values X.env pos) (fun e => h0 (List.length_eq_zero_iff.mp (by rw [← hp, e]; rfl))) (by omega)]
  refine wpAny_bind (wpAny_standAt (wpAny_bind (wpAny_subDictH (knd := tupleKind (mixKind X.prog X.w)) (show X.A.units < cLine by omega) (by omega) (thn (h.run pins _ σ _ _ I1 (q _ hn)) fun ws s2 ⟨ps, H2, I2, rel, e, k1, k2, v1, v2, b1, b2, ep, hb1, hb2, q2⟩ => ?_))))
  subst ep
  obtain ⟨z, hd, xs, kt, dd⟩ := dt_of I2.hok e
  cases kt
  cases rel with
  | @cons _ w1 _ _ r1 rr =>
    cases rr with
    | @cons _ w2 _ _ r2 rr =>
      cases rr
      obtain ⟨r11, r12⟩ := r1
      obtain ⟨r21, r22⟩ := r2
      obtain ⟨w11, w12⟩ := w1
      obtain ⟨w21, w22⟩ := w2
      cases (show w11 = Value.ref b1 from r11)
      cases (show w21 = Value.ref b2 from r21)
      refine ⟨[(k1, b1, w12), (k2, b2, w22)], ⟨rfl, rfl, key_of I2.hok hb1, rfl, rfl, key_of I2.hok hb2, trivial⟩, dd, fun h' tk dd' hs => wpAny_pure ⟨.ref s.heap.objs.size, _, ?_, rfl, q2⟩⟩
      have kt : KT H2 (putK (putK [] k1 v1) k2 v2) (storedAllH [] [(k1, b1, w12), (k2, b2, w22)]) := (KT.put (KT.put (H := H2) .nil k1 hb1 r12) k2 hb2 r22)
      obtain ⟨ob, es, ep, g1, g2, g3, g4, _, g5⟩ := dd'
      have hz : (putK (putK ([] : List (List Key × V)) k1 v1) k2 v2).length ≤ sizeLine := by
        have a1 := length_putK ([] : List (List Key × V)) k1 v1
        have a2 := length_putK (putK ([] : List (List Key × V)) k1 v1) k2 v2
        rw [sizeLine_eq]
        simp at a1
        omega
      refine d_write I2 (by rw [e]; exact True.intro) hs ⟨ob, g1⟩ ⟨hz, hd, _, kt.keeps fun c ys ec => ?_, ob, es, ep, g1, g2, g3, g4, g5⟩
      rw [upd_ne (ne_of ec e (fun z => nomatch z))]
      exact ec
end

/-! ### t[::-1] of three -/
theorem rev3_item {prog : Program} {w : World} {A : Around} {E : Value → Shared → Prop} {s : Shared} {t sl : Addr} {x y z : Value} {tk : Tok} {Q : Value → Shared → Prop} (ht : IsTup s.heap t #[x, y, z]) (hs : s.heap.IsSliceOf sl .none .none (.int (-1) tk))
    (h : Q (.ref s.heap.objs.size) { s with heap := s.heap.push { cls := .type "tuple", data := .seq #[z, y, x] } }) : wpAny (model prog w) A (getItem (.ref t) (.ref sl)) Q E s := by
  obtain ⟨os, hos, hcs, hds⟩ := id hs
  have hTs : s.TypeIs (.ref sl) "slice" := ⟨os, hos, hcs⟩
  have happ : ∀ {A' : Around} {E' : Value → Shared → Prop} {Q' : Int × Int × Nat → Shared → Prop}, Q' (2, -1, 3) s → wpAny (model prog w) A' (Builtin.Slice.sliceApplied (.ref sl) (pure 3)) Q' E' s := fun q => by
    unfold Builtin.Slice.sliceApplied Builtin.Slice.sliceFields
    refine wpAny_bind (wpAny_bind (wpAny_field hos hds (x := .none) rfl (wpAny_bind (wpAny_field hos hds (x := .none) rfl (wpAny_bind (wpAny_field hos hds (x := .int (-1) tk) rfl (wpAny_pure ?_)))))))
    refine wpAny_bind (slicePart_int ?_)
    show wpAny _ _ (if ((-1 : Int) == 0) = true then _ else _) _ _ s
    rw [if_neg (by decide)]
    exact wpAny_bind (slicePart_none (wpAny_bind (slicePart_none (wpAny_bind (wpAny_pure (wpAny_pure q))))))
  unfold getItem
  try with_reducible refine wpAny_holding ?_
  first | refine wpAny_bind (wpAny_pure ?_) | skip
  refine wpAny_bind (wpAny_sequenceKey ht.typeIs (by decide) ?_)
  refine wpAny_bind (wpAny_callSpecial?_slot (name := Str.ofString "__getitem__") ht.typeIs PyProof.Rows.slot_tuple_getitem
    (wpAny_call_entry PyProof.Rows.slot_tuple_getitem ht.typeIs entry_tuple_getitem ?_ (args_tuple_getitem _ _)))
  show wpAny _ _ (Builtin.Tuple.tupleItemsOf (.ref t) >>= _) _ _ s
  refine wpAny_bind (tupleItemsOf_ ht ?_)
  refine wpAny_bind (wpAny_typeOf hTs ?_)
  rw [if_pos (by decide)]
  refine wpAny_bind (happ ?_)
  show wpAny _ _ (if ((2 : Int) == 0 && (-1 : Int) == 1 && (3 : Nat) == 3) = true then _ else _) _ _ s
  rw [if_neg (by decide)]
  have hsz : sizeOk (.seq #[z, y, x]) := by show 3 ≤ sizeLine; decide
  show wpAny _ _ (Builtin.Tuple.tupleExact #[z, y, x] >>= _) _ _ s
  first
    | exact wpAny_bind (m := Builtin.Tuple.tupleExact _) (wpAny_newObj_type (wpAny_pure ⟨_, rfl, wpAny_pure h⟩) hsz)
    | exact wpAny_bind (m := Builtin.Tuple.tupleExact _) (wpAny_newObj_type (wpAny_bind (wpAny_pure (wpAny_pure ⟨_, rfl, wpAny_pure h⟩))) hsz)
/-- t[::-1], t of three items -/
def tRev3 (K : PySem.W.Frag) (te : TE) : TE := fun σ H Q => te σ H fun x H1 => ∃ a p q r, x = .ref a ∧ SqT K H1 a [p, q, r] ∧ ∀ d, H1 d = none → Q (.ref d) (upd H1 d (.tup [r, q, p]))
theorem pe_rev3 {X : Cx} {e : Expr} {te : TE} {k : Nat} {p1 p2 p3 pos : Pos} (he : PE X e te) : PE X (.Subscript e (.Slice none none (some (.UnaryOp .USub (.Constant (.int 1) k p1) p2)) p3) pos) (tRev3 X.K te) := by
  refine ⟨fun pins s σ H Q I h => Subscript_ (thn (he.run pins s σ H _ I h) fun v s1 ⟨x, H1, I1, r1, a, p, q, r, ex, hx, hq⟩ => ?_)⟩
  subst ex
  cases r1
  have hst : PO X (some (.UnaryOp .USub (.Constant (.int 1) k p1) p2)) (tPart (tUn (rU fun i => .int (-i)) (tC (.int 1)))) := po_some (pe_un un_neg pe_int)
  refine wpAny_Slice (thn (po_none.run pins s1 σ H1 (fun o H2 => o = none ∧ H2 = H1) I1 ⟨rfl, rfl⟩) fun vl s2 ⟨l, H2, I2, pl, el, e2⟩ => ?_)
  subst el e2
  refine thn (po_none.run pins s2 σ H2 (fun o H3 => o = none ∧ H3 = H2) I2 ⟨rfl, rfl⟩) fun vu s3 ⟨u, H3, I3, pu, eu, e3⟩ => ?_
  subst eu e3
  refine thn (hst.run pins s3 σ H3 (fun o H4 => o = some (-1) ∧ H4 = H3) I3 ⟨1, rfl, -1, rfl, rfl, rfl⟩) fun vs s4 ⟨o, H4, I4, ps, eo, e4⟩ => ?_
  subst eo e4
  cases pl
  cases pu
  cases ps with
  | int _ tk =>
    have I5 : Inv X pins σ H4 { s4 with heap := s4.heap.push { cls := .type "slice", data := .fields #[.none, .none, .int (-1) tk] } } := I4.kept (t' := s4.toks) fun b ob z => Heap.get?_push_of_some _ z
    obtain ⟨its, rr, ht, hz⟩ := I5.tuple hx
    cases rr with
    | @cons _ u1 _ _ ra rr =>
      cases rr with
      | @cons _ u2 _ _ rb rr =>
        cases rr with
        | @cons _ u3 _ _ rc rr =>
          cases rr
          show wpAny (model X.prog X.w) X.A (subscriptTail e (.Slice none none (some (.UnaryOp .USub (.Constant (.int 1) k p1) p2)) p3) (.ref a) (.ref s4.heap.objs.size)) (EP X pins σ Q) X.xe { s4 with heap := s4.heap.push { cls := .type "slice", data := .fields #[.none, .none, .int (-1) tk] } }
          refine tail_any (ops := [.ref a, .ref s4.heap.objs.size]) ht.typeIs (PyProof.Rows.slot_tuple_getitem.lookup) ?_ (by with_unfolding_all rfl)
          refine rev3_item ht (Heap.IsSliceOf.new _ .none .none (.int (-1) tk)) ?_
          refine ⟨.ref _, _, I5.laid (t' := s4.toks) (o := .tup [r, q, p]) (fun b ob z => Heap.get?_push_of_some _ z) (Nat.le_refl _) ?_, rfl, hq _ (I5.hok.fresh (Nat.le_refl _))⟩
          exact ⟨by show 3 ≤ sizeLine; decide, [u3, u2, u1], .cons rc (.cons rb (.cons ra .nil)), ⟨_, Heap.get?_push_size _ rfl, rfl, _, rfl⟩⟩
end K9

/-! the text by places, grids in the heap, what a def is worth to its callers -/
namespace K9
open PySem PySem.Spec PyProof.Rows L2
/-! ### the text -/
def top (i : Nat) : Stmt := PySem.Challenge.pw_oneorderalone_k91_whole_closings.main.body.getD i (.Pass ⟨0, 0, 0, 0⟩)
abbrev sNear : Stmt := top 8
abbrev sPlus : Stmt := top 11
abbrev sPlainD : Stmt := top 12
abbrev sPlainG : Stmt := top 13
abbrev sClosed : Stmt := top 14
abbrev sChkP : Stmt := top 16
abbrev sChkL : Stmt := top 17
abbrev sLimG : Stmt := top 18
abbrev sInit : Stmt := inClass (top 19) 0
abbrev sPoss : Stmt := inClass (top 19) 3
abbrev sBetw : Stmt := top 22
abbrev sBest : Stmt := top 23
abbrev sLonger : Stmt := top 24
abbrev sClosing : Stmt := top 25
abbrev sCloses : Stmt := top 26
abbrev sState : Stmt := top 28
abbrev sDraw : Stmt := top 29
abbrev sVecs : Stmt := top 30
abbrev sThings : Stmt := top 31
abbrev sInCell : Stmt := top 32
abbrev sLimits : Stmt := top 33
abbrev sCallAll : Stmt := top 34
abbrev sNearer : Stmt := top 35
abbrev sFar : Stmt := top 36
abbrev sLCloses : Stmt := top 37
abbrev sLCall : Stmt := top 38
abbrev sLaw : Stmt := top 39
/-! ### values -/
def ov : Option Int → V
  | none => .non
  | some i => .int i
theorem ov_some {o : Option Int} {i : Int} (h : ov o = .int i) : o = some i := by
  cases o with
  | none => cases h
  | some j => cases h; rfl
theorem ov_none (o : Option Int) : decide (ov o = .non) = o.isNone := by
  cases o <;> rfl
/-- a row of a grid -/
def rowV (n : Nat) (g : G) (i : Nat) : List V := (List.range n).map fun j => ov (g i j)
theorem rowV_get {n j : Nat} {g : G} {i : Nat} (h : j < n) : (rowV n g i)[j]? = some (ov (g i j)) := by
  unfold rowV
  rw [List.getElem?_map, List.getElem?_range h]
  rfl
theorem rowV_len (n : Nat) (g : G) (i : Nat) : (rowV n g i).length = n := by
  unfold rowV
  rw [List.length_map, List.length_range]
/-- a grid at p: a tuple of tuples -/
def GridAt (H : Hp) (p : Addr) (n : Nat) (g : G) : Prop := ∃ rs : List Addr, H p = some (.tup (rs.map V.ref)) ∧ rs.length = n ∧ ∀ i r, rs[i]? = some r → H r = some (.tup (rowV n g i))
theorem GridAt.same {H H' : Hp} {p : Addr} {n : Nat} {g : G} (h : GridAt H p n g) (s : Same H H') : GridAt H' p n g := by
  obtain ⟨rs, a, b, c⟩ := h
  exact ⟨rs, s _ _ a, b, fun i r e => s _ _ (c i r e)⟩
theorem GridAt.eqOn {H : Hp} {p : Addr} {n : Nat} {g g' : G} (h : GridAt H p n g) (e : EqOn n g g') : GridAt H p n g' := by
  obtain ⟨rs, a, b, c⟩ := h
  refine ⟨rs, a, b, fun i r er => ?_⟩
  rw [c i r er]
  have hi : i < n := by
    rw [← b]
    exact (List.getElem?_eq_some_iff.mp er).1
  congr 2
  unfold rowV
  apply List.map_congr_left
  intro j hj
  rw [e i j hi (List.mem_range.mp hj)]
theorem GridAt.row {H : Hp} {p : Addr} {n i : Nat} {g : G} (h : GridAt H p n g) (hi : i < n) : ∃ (rs : List Addr) (r : Addr), H p = some (.tup (rs.map V.ref)) ∧ rs.length = n ∧ (rs.map V.ref)[i]? = some (.ref r) ∧ H r = some (.tup (rowV n g i)) := by
  obtain ⟨rs, a, b, c⟩ := h
  have e : rs[i]? = some rs[i] := List.getElem?_eq_getElem (by omega)
  exact ⟨rs, rs[i], a, b, by rw [List.getElem?_map, e]; rfl, c i _ e⟩
theorem same_new {H : Hp} {p : Addr} {o : HO} (h : H p = none) : Same H (upd H p o) := fun b u e => by
  rw [upd_ne (ne_of_none e h)]
  exact e
/-- stored at an object that was new -/
theorem same_over {H H1 : Hp} {p : Addr} {o : HO} (s : Same H H1) (h : H p = none) : Same H (upd H1 p o) := fun b u e => by
  rw [upd_ne (ne_of_none e h)]
  exact s _ _ e
theorem atN {xs : List V} {i : Nat} {v : V} (h : xs[i]? = some v) : atI xs (i : Int) = some v := atI_nat h
/-! ### a def to its callers -/
section
variable {P : Program} {w : World} {K : PySem.W.Frag} {mg : Str → Option Value} {base : Heap}
/-- the module's name x holds a def that keeps sp -/
def HasD (P : Program) (w : World) (K : PySem.W.Frag) (mg : Str → Option Value) (base : Heap) (CX : CXT) (k : Nat) (x : Str) (sp : Sp) : Prop := ∃ f, mg x = some (.ref f) ∧ PySem.W.keepIn K (.ref f) = true ∧ FnR P w K mg base CX k f sp
theorem has_of {CX : CXT} {k : Nat} {f : Addr} {fd : FuncData} {ps : List Str} {sp : Sp} {x : Str} (G : FnOk P w K mg base CX k f fd ps sp) (hb : Binds K fd ps []) (hm : mg x = some (.ref f)) (hk : PySem.W.keepIn K (.ref f) = true) : HasD P w K mg base CX k x sp :=
  ⟨f, hm, hk, (G.raw hb .nil).imp fun vs H Q E h => by rw [List.append_nil]; exact h⟩
end
section
variable {X : Cx} {CX : CXT} {k : Nat} {sp : Sp} {E : XK} {x : Str} {e : Expr} {es : List Expr} {t : TA} {p pos : Pos}
theorem call_h (h : HasD X.prog X.w X.K X.mg X.base CX k x sp) (hr : Room k X.A) (hg : Gl X x) (hx : Passes CX X E) (ha : PA X (e :: es) t) (hd : (x == ("__debug__" : Str)) = false := by decide)
    (he : starEach (e :: es) X.env = (false, eval e X.env) :: starEach es X.env := by rfl) (hpl : (backTo pos (starEach es X.env)).any (·.1) = false := by rfl) : PE X (.Call (.Name x p) (e :: es) [] pos) (tCl sp E t) := by
  obtain ⟨f, hm, hk, F⟩ := h
  exact call_r F hr hk hg hm hx ha hd he hpl
end
end K9

namespace K9
open PySem PySem.Spec PyProof.Rows L2
section
variable {P : Program} {w : World} {K : PySem.W.Frag} {mg : Str → Option Value} {base : Heap}
/-! ### nearest, plus -/
def spNear : Sp := fun vs H Q _ => ∃ a b, vs = [ov a, ov b] ∧ Q (ov (near a b)) H
theorem scNear : FnScope ["first", "second"] ["first", "second"] (defScope sNear) := ⟨rfl, rfl, rfl, by decide +kernel, rfl, by decide +kernel, by decide +kernel⟩
theorem ok_near {f : Addr} {fd : FuncData} (F : Fun K "nearest" "nearest" sNear f fd) : FnOk P w K mg base CX0 1 f fd ["first", "second"] spNear := by
  refine F.ok scNear (fun vs H Q E ⟨a, b, e, _⟩ => by rw [e]; rfl) (fun cdv A outer s H vs Q E hr ⟨a, b, e, q⟩ => ?_)
  subst e
  refine ⟨_, pss_cons (ps_if (pt_cmpR op_isN (pv 0) pe_non (nomark _)) (pss_one (ps_ret (pv 1))) pss_nil)
    (pss_cons (ps_if (pt_cmpR op_isN (pv 1) pe_non (nomark _)) (pss_one (ps_ret (pv 0))) pss_nil)
    (pss_one (ps_ret (pe_ifExp (pt_cmpR op_le (pv 0) (pv 1) (nomark _)) (pv 0) (pv 1))))), ?_⟩
  refine ⟨_, rfl, rfl, _, rfl, ?_⟩
  rw [ov_none]
  cases a with
  | none => exact iteT ⟨_, rfl, q⟩
  | some i =>
    refine iteF ⟨_, rfl, rfl, _, rfl, ?_⟩
    rw [ov_none]
    cases b with
    | none => exact iteT ⟨_, rfl, q⟩
    | some j =>
      refine iteF ⟨_, rfl, _, rfl, i, j, rfl, rfl, _, rfl, ?_⟩
      have e : near (some i) (some j) = if i ≤ j then some i else some j := rfl
      rw [e] at q
      by_cases h : i ≤ j
      · rw [if_pos h] at q
        rw [decide_eq_true h]
        exact iteT ⟨_, rfl, q⟩
      · rw [if_neg h] at q
        rw [decide_eq_false h]
        exact iteF ⟨_, rfl, q⟩
def spPlus : Sp := fun vs H Q _ => ∃ a b, vs = [ov a, ov b] ∧ Q (ov (plusO a b)) H
theorem scPlus : FnScope ["first", "second"] ["first", "second"] (defScope sPlus) := ⟨rfl, rfl, rfl, by decide +kernel, rfl, by decide +kernel, by decide +kernel⟩
theorem ok_plus {f : Addr} {fd : FuncData} (F : Fun K "plus" "plus" sPlus f fd) : FnOk P w K mg base CX0 1 f fd ["first", "second"] spPlus := by
  refine F.ok scPlus (fun vs H Q E ⟨a, b, e, _⟩ => by rw [e]; rfl) (fun cdv A outer s H vs Q E hr ⟨a, b, e, q⟩ => ?_)
  subst e
  refine ⟨_, pss_cons (ps_if (PW.pt (pw_or (pt_cmpR op_isN (pv 0) pe_non (nomark _)) (pw_or1 (pt_cmpR op_isN (pv 1) pe_non (nomark _))))) (pss_one (ps_ret pe_non)) pss_nil)
    (pss_one (ps_ret (pe_op op_add (pv 0) (pv 1)))), ?_⟩
  refine ⟨_, rfl, rfl, _, rfl, ?_⟩
  rw [ov_none]
  cases a with
  | none => exact iteT (iteT q)
  | some i =>
    refine iteF ⟨_, rfl, rfl, _, rfl, ?_⟩
    rw [ov_none]
    cases b with
    | none => exact iteT q
    | some j => exact iteF ⟨_, rfl, _, rfl, i, j, rfl, rfl, q⟩
/-! ### plain_distance, plain_grid -/
def spPlainD : Sp := fun vs H Q _ => ∃ lots a b : Nat, vs = [.int lots, .int a, .int b] ∧ Q (ov (plainG lots a b)) H
theorem scPlainD : FnScope ["lots", "at", "to"] ["lots", "at", "to"] (defScope sPlainD) := ⟨rfl, rfl, rfl, by decide +kernel, rfl, by decide +kernel, by decide +kernel⟩
theorem ok_plainD {f : Addr} {fd : FuncData} (F : Fun K "plain_distance" "plain_distance" sPlainD f fd) : FnOk P w K mg base CX0 1 f fd ["lots", "at", "to"] spPlainD := by
  refine F.ok scPlainD (fun vs H Q E ⟨l, a, b, e, _⟩ => by rw [e]; rfl) (fun cdv A outer s H vs Q E hr ⟨l, a, b, e, q⟩ => ?_)
  subst e
  refine ⟨_, pss_cons (ps_if (pt_cmpR op_eq (pv 1) (pv 2) (nomark _)) (pss_one (ps_ret pe_int)) pss_nil)
    (pss_cons (ps_if (pt_cmpR op_eq (pv 2) (pe_op op_sub (pv 1) pe_int) (nomark _)) (pss_one (ps_ret (pe_ifExp (pt_cmpR op_eq (pv 0) pe_int (nomark _)) (pe_un un_neg pe_int) (pe_un un_neg pe_int)))) pss_nil)
    (pss_one (ps_ret pe_non))), ?_⟩
  refine ⟨_, rfl, _, rfl, rfl, _, rfl, ite2 (fun h => ?_) (fun h => ?_)⟩
  · have h1 : (V.int a) = V.int b := of_decide_eq_true h
    have h2 : a = b := by
      have := V.int.inj h1
      omega
    have e : plainG l a b = some 0 := by
      unfold plainG
      rw [if_pos h2]
    rw [e] at q
    exact q
  · have h2 : a ≠ b := fun z => h (decide_eq_true (by rw [z]))
    refine ⟨_, rfl, _, rfl, _, _, rfl, rfl, rfl, _, rfl, ite2 (fun h3 => ?_) (fun h3 => ?_)⟩
    · have h4 : (V.int b) = V.int ((a : Int) - 1) := of_decide_eq_true h3
      have h5 : b + 1 = a := by
        have := V.int.inj h4
        omega
      refine ⟨_, rfl, rfl, _, rfl, ite2 (fun h6 => ?_) (fun h6 => ?_)⟩
      · have h7 : l = 0 := by
          have := V.int.inj (of_decide_eq_true h6)
          omega
        have e : plainG l a b = some (-2) := by
          unfold plainG
          rw [if_neg h2, if_pos h5, if_pos h7]
        rw [e] at q
        exact ⟨_, rfl, q⟩
      · have h7 : l ≠ 0 := fun z => h6 (decide_eq_true (by rw [z]; rfl))
        have e : plainG l a b = some (-1) := by
          unfold plainG
          rw [if_neg h2, if_pos h5, if_neg h7]
        rw [e] at q
        exact ⟨_, rfl, q⟩
    · have h5 : ¬ b + 1 = a := fun z => h3 (decide_eq_true (by
        congr 1
        omega))
      have e : plainG l a b = none := by
        unfold plainG
        rw [if_neg h2, if_neg h5]
      rw [e] at q
      exact q
end
end K9

namespace K9
open PySem PySem.Spec PyProof.Rows L2
/-! ### comprehensions that only make objects -/
section
variable {te : TE} {σ : L2.St} {H1 : Hp} {D : Addr} {Qd : Hp → Prop}
theorem wipe_one (σ : L2.St) (i : Nat) (v : Option V) : wipe ((wipe σ [i]).set i v) [i] = wipe σ [i] := by
  show ((σ.set i none).set i v).set i none = σ.set i none
  rw [List.set_set, List.set_set]
theorem lc_grow {n i0 : Nat} (R : Nat → V → Hp → Prop) (hD : H1 D = none) (hn : n ≤ 1000) (hS : ∀ i y H H', R i y H → Same H H' → R i y H') (hU : ∀ i y H xs zs, R i y H → H D = some (.lst xs) → R i y (upd H D (.lst zs)))
    (hs : ∀ i H acc (Kq : VK), i < n → Same H1 H → H D = some (.lst acc) → (∀ y H4, Same H H4 → R i y H4 → Kq y H4) → te ((wipe σ [i0]).set i0 (some (.int (i : Int)))) H Kq)
    (hd : ∀ H ys, Same H1 H → H D = some (.lst ys) → ys.length = n → (∀ i y, ys[i]? = some y → R i y H) → Qd H) :
    ∃ W : Nat → Nat → Hp → Prop, (∃ m, W 0 m (upd H1 D (.lst []))) ∧ ∀ i m H, W i m H →
      ((Itr 0 n).stop i H ∧ Qd H) ∨ ((Itr 0 n).go i H ∧ ∃ Nx : Hp → Prop, (∀ H', Nx H' → ∃ m', m' < m ∧ W (i + 1) m' H') ∧ ∀ x H', (Itr 0 n).yld i H x H' → gName i0 x (wipe σ [i0]) H' fun σ2 H2 => wipe σ2 [i0] = wipe σ [i0] ∧ tYes σ2 H2 fun b H3 =>
        if b = true then te σ2 H3 fun y H4 => ∃ acc, H4 D = some (.lst acc) ∧ acc.length < sizeLine ∧ Nx (upd H4 D (.lst (acc ++ [y]))) else Nx H3) := by
  refine lc_range (lo := 0) (n := n) (fun i H => Same H1 H ∧ ∃ ys, H D = some (.lst ys) ∧ ys.length = i ∧ ∀ j y, ys[j]? = some y → R j y H) ⟨same_new hD, [], upd_same, rfl, fun j y e => by simp at e⟩ ?_ ?_
  · rintro i H hi ⟨sm, ys, eD, len, hR⟩
    rw [Int.zero_add]
    refine ⟨wipe_one _ _ _, ?_⟩
    unfold tYes
    dsimp only
    rw [if_pos rfl]
    refine hs i H ys _ hi sm eD fun y H4 s4 r4 => ?_
    have e4 : H4 D = some (.lst ys) := s4 _ _ eD
    refine ⟨ys, e4, small1000 (by omega), same_over (sm.trans s4) hD, ys ++ [y], upd_same, by simp [len], fun j z ez => ?_⟩
    by_cases hj : j < ys.length
    · rw [List.getElem?_append_left hj] at ez
      exact hU _ _ _ _ _ (hS _ _ _ _ (hR j z ez) s4) e4
    · rw [List.getElem?_append_right (by omega)] at ez
      have hj2 : j - ys.length = 0 := by
        have := (List.getElem?_eq_some_iff.mp ez).1
        simp at this
        omega
      rw [hj2] at ez
      cases ez
      have : j = i := by omega
      subst this
      exact hU _ _ _ _ _ r4 e4
  · rintro H ⟨sm, ys, eD, len, hR⟩
    exact hd H ys sm eD len hR
end
def arg0 : Expr → Expr
  | .Call _ (a :: _) _ _ => a
  | e => e
def retE : Stmt → Expr
  | .Return (some e) _ => e
  | .Assign _ e _ => e
  | _ => .Constant .none 0 ⟨0, 0, 0, 0⟩
def lcSc : Expr → Scope
  | .ListComp _ _ sc _ => sc
  | _ => { kind := .function, names := [], isGenerator := false, isCoroutine := false }
def nth (s : Stmt) (i : Nat) : Stmt := (defBody s).getD i (.Pass ⟨0, 0, 0, 0⟩)
/-- what grids are built by: rows at new addresses -/
def rowR (n : Nat) (g : G) (i : Nat) (y : V) (H : Hp) : Prop := ∃ r, y = .ref r ∧ H r = some (.tup (rowV n g i))
theorem rowR_same {n : Nat} {g : G} {i : Nat} {y : V} {H H' : Hp} (h : rowR n g i y H) (s : Same H H') : rowR n g i y H' := by
  obtain ⟨r, e, h⟩ := h
  exact ⟨r, e, s _ _ h⟩
theorem rowR_upd {n : Nat} {g : G} {i : Nat} {y : V} {H : Hp} {D : Addr} {xs zs : List V} (h : rowR n g i y H) (e : H D = some (.lst xs)) : rowR n g i y (upd H D (.lst zs)) := by
  obtain ⟨r, e1, h⟩ := h
  exact ⟨r, e1, by rw [upd_ne (ne_of h e (fun q => nomatch q))]; exact h⟩
theorem grid_of {H : Hp} {p : Addr} {n : Nat} {g : G} {ys : List V} (hp : H p = some (.tup ys)) (hl : ys.length = n) (h : ∀ i y, ys[i]? = some y → rowR n g i y H) : GridAt H p n g := by
  have e : ∃ rs : List Addr, ys = rs.map V.ref := by
    have key : ∀ (ys : List V), (∀ y ∈ ys, ∃ r, y = V.ref r) → ∃ rs : List Addr, ys = rs.map V.ref := by
      intro ys
      induction ys with
      | nil => exact fun _ => ⟨[], rfl⟩
      | cons y t ih =>
        intro h
        obtain ⟨rs, e⟩ := ih fun z hz => h z (List.mem_cons_of_mem _ hz)
        obtain ⟨r, e2⟩ := h y (List.mem_cons_self ..)
        exact ⟨r :: rs, by rw [e, e2]; rfl⟩
    refine key ys fun y hy => ?_
    obtain ⟨i, hi⟩ := List.getElem?_of_mem hy
    obtain ⟨r, e, _⟩ := h i y hi
    exact ⟨r, e⟩
  obtain ⟨rs, rfl⟩ := e
  refine ⟨rs, hp, by rw [← hl, List.length_map], fun i r er => ?_⟩
  obtain ⟨r', e, h'⟩ := h i (.ref r) (by rw [List.getElem?_map, er]; rfl)
  cases e
  exact h'
theorem row_of {n : Nat} {g : G} {i : Nat} {ys : List V} (hl : ys.length = n) (h : ∀ j y, ys[j]? = some y → y = ov (g i j)) : ys = rowV n g i := by
  apply List.ext_getElem?
  intro j
  by_cases hj : j < n
  · have e : ys[j]? = some ys[j] := List.getElem?_eq_getElem (by omega)
    rw [e, rowV_get hj, h j _ e]
  · rw [List.getElem?_eq_none (by omega), List.getElem?_eq_none (by rw [rowV_len]; omega)]
/-! ### rules that name the written part (for the blocks of comprehensions) -/
section
variable {X : Cx} {a b e : Expr} {ta tb te : TE} {pos : Pos}
def rTupOf (K : PySem.W.Frag) : List V → Hp → VK → Prop := fun xs H Q => ∃ p ys, xs = [.ref p] ∧ ((SqL K H p ys ∧ ∀ l, H l = none → Q (.ref l) (upd H l (.tup ys))) ∨ (SqT K H p ys ∧ Q (.ref p) H))
theorem tupK (K : PySem.W.Frag) (hK : X.K = K := by rfl) : CallR X (.type "tuple") (rTupOf K) := by
  subst hK
  exact call_tuple_of
theorem ixK (K : PySem.W.Frag) (ha : PE X a ta) (hb : PE X b tb) (hs : PlainIx b) (hK : X.K = K := by rfl) : PE X (.Subscript a b pos) (tOp (rIxT K) ta tb) := by
  subst hK
  exact pe_ix ix_tup ha hb hs
theorem ixLK (K : PySem.W.Frag) (ha : PE X a ta) (hb : PE X b tb) (hs : PlainIx b) (hK : X.K = K := by rfl) : PE X (.Subscript a b pos) (tOp (rIxL K) ta tb) := by
  subst hK
  exact pe_ix ix_list ha hb hs
theorem fldK (K : PySem.W.Frag) {f : Str} (he : PE X e te) (hb : attributeBase e f X.env (eval e X.env) = eval e X.env) (hK : X.K = K := by rfl) : PE X (.Attribute e f pos) (tFld K te f) := by
  subst hK
  exact pe_fld he hb
end
section
variable {P : Program} {w : World} {K : PySem.W.Frag} {mg : Str → Option Value} {base : Heap}
/-! ### plain_grid -/
def spPlainG : Sp := fun vs H Q _ => ∃ lots : Nat, vs = [.int lots] ∧ lots ≤ 100 ∧ ∀ p H', Same H H' → H p = none → GridAt H' p (lots + 2) (plainG lots) → Q (.ref p) H'
theorem scPlainG : FnScope ["lots", "many", "at", "to"] ["lots"] (defScope sPlainG) := ⟨rfl, rfl, rfl, by decide +kernel, rfl, by decide +kernel, by decide +kernel⟩
def lcPG : Expr := arg0 (retE (nth sPlainG 1))
theorem boot_tuple : bootBuiltins "tuple" = some (.type "tuple") := by decide +kernel
theorem ok_plainG {f : Addr} {fd : FuncData} (F : Fun K "plain_grid" "plain_grid" sPlainG f fd) (hd : HasD P w K mg base CX0 1 "plain_distance" spPlainD) (mt : mg "tuple" = none) (mr : mg "range" = none) : FnOk P w K mg base CX0 2 f fd ["lots"] spPlainG := by
  refine F.ok scPlainG (fun vs H Q E ⟨a, e, _⟩ => by rw [e]; rfl) (fun cdv A outer s H vs Q E hr ⟨lots, e, hl, q⟩ => ?_)
  subst e
  refine ⟨_, pss_cons (ps_set (i := 1) scPlainG.nd rfl (Or.inr rfl) (pe_op op_add (pv 0) pe_int))
    (pss_one (ps_ret (pe_callTy (tupK K) (by rfl) mt boot_tuple (pa_cons (pe_lc (own := [("at", 2)]) (g := gName 2) (tt := tYes) rfl scPlainG.nd (pi_range1 (by rfl) mr (pa_cons (pv 1) pa_nil)) (blkOk_by (N := ["lots", "many", "at", "to"]) (sc := defScope sPlainG) (by decide +kernel))
      (fun _ _ _ _ _ => pg_name (i := 2) scPlainG.nd rfl (Or.inr rfl)) (fun _ _ _ _ _ => pts_nil) (fun _ _ _ _ _ =>
        pe_callTy (tupK K) (by rfl) mt boot_tuple (pa_cons (pe_lc (own := [("to", 3)]) (g := gName 3) (tt := tYes) rfl scPlainG.nd (pi_range1 (by rfl) mr (pa_cons (pv 1) pa_nil)) (blkOk_by (by kernel_rfl))
          (fun _ _ _ _ _ => pg_name (i := 3) scPlainG.nd rfl (Or.inl rfl)) (fun _ _ _ _ _ => pts_nil) (fun _ _ _ _ _ =>
            call_h hd hr (by rfl) pass0 (pa_cons (pv 0) (pa_cons (pv 2) (pa_cons (pv 3) pa_nil))))) pa_nil))) pa_nil)))), ?_⟩
  refine ⟨_, rfl, _, _, rfl, rfl, _, rfl, _, rfl, by omega, by omega, fun D nD => ?_⟩
  rw [show ((lots : Int) + 2).toNat = lots + 2 by omega]
  refine lc_grow (n := lots + 2) (rowR (lots + 2) (plainG lots)) nD (by omega) (fun i y H H' => rowR_same) (fun i y H xs zs => rowR_upd) (fun i H2 acc Kq hi s2 eD cont => ?_) (fun H2 ys s2 eD len hR => ?_)
  · refine ⟨_, rfl, _, rfl, by omega, by omega, fun D2 nD2 => ?_⟩
    rw [show ((lots : Int) + 2).toNat = lots + 2 by omega]
    refine lc_grow (n := lots + 2) (fun j y _ => y = ov (plainG lots i j)) nD2 (by omega) (fun _ _ _ _ h _ => h) (fun _ _ _ _ _ h _ => h) (fun j H3 acc2 Kq2 hj s3 eD2 cont2 => ?_) (fun H3 ys s3 eD2 len hR => ?_)
    · exact ⟨_, rfl, _, rfl, _, rfl, lots, i, j, rfl, cont2 _ _ (Same.refl _) rfl⟩
    · refine ⟨_, ys, rfl, .inl ⟨SqL.of eD2, fun r nr => ?_⟩⟩
      refine cont _ _ ((s3.trans (same_new nr))) ⟨r, rfl, ?_⟩
      rw [upd_same, row_of (g := plainG lots) (i := i) len hR]
  · refine ⟨_, ys, rfl, .inl ⟨SqL.of eD, fun p np => ?_⟩⟩
    refine q p _ (s2.trans (same_new np)) (s2.free np) (grid_of upd_same len fun i y e => rowR_same (hR i y e) (same_new np))
end
end K9

namespace K9
open PySem PySem.Spec PyProof.Rows L2
theorem rd2 {K : PySem.W.Frag} {a b c i j n : Nat} {p : Addr} {g : G} {σ : L2.St} {H : Hp} {Q : VK} (ha : σ[a]? = some (some (.ref p))) (hb : σ[b]? = some (some (.int (i : Nat)))) (hc : σ[c]? = some (some (.int (j : Nat))))
    (hg : GridAt H p n g) (hi : i < n) (hj : j < n) (q : Q (ov (g i j)) H) : tOp (rIxT K) (tOp (rIxT K) (tVar a) (tVar b)) (tVar c) σ H Q := by
  obtain ⟨rs, r, e1, e2, e3, e4⟩ := hg.row hi
  exact ⟨_, ha, _, hb, p, _, _, _, rfl, rfl, SqT.of e1, atN e3, _, hc, r, _, _, _, rfl, rfl, SqT.of e4, atN (rowV_get hj), q⟩
section
variable {P : Program} {w : World} {K : PySem.W.Frag} {mg : Str → Option Value} {base : Heap}
/-! ### closed_grid -/
def spClosed : Sp := fun vs H Q _ => ∃ (p : Addr) (n : Nat) (g : G), vs = [.ref p] ∧ n ≤ 102 ∧ GridAt H p n g ∧ ∀ p' H', Same H H' → GridAt H' p' n (fw n g) → Q (.ref p') H'
theorem scClosed : FnScope ["grid", "points", "middle", "at", "to"] ["grid"] (defScope sClosed) := ⟨rfl, rfl, rfl, by decide +kernel, rfl, by decide +kernel, by decide +kernel⟩
theorem boot_rng : bootBuiltins "range" = some (.type "range") := by decide +kernel
theorem ok_closed {f : Addr} {fd : FuncData} (F : Fun K "closed_grid" "closed_grid" sClosed f fd) (hn : HasD P w K mg base CX0 1 "nearest" spNear) (hp : HasD P w K mg base CX0 1 "plus" spPlus) (mt : mg "tuple" = none) (mr : mg "range" = none) (ml : mg "len" = none) :
    FnOk P w K mg base CX0 2 f fd ["grid"] spClosed := by
  refine F.ok scClosed (fun vs H Q E ⟨p, n, g, e, _⟩ => by rw [e]; rfl) (fun cdv A outer s H vs Q E hr ⟨p, n, g, e, hl, hg, q⟩ => ?_)
  subst e
  refine ⟨_, pss_cons (ps_set (i := 1) scClosed.nd rfl (Or.inr rfl) (pe_callTy rng1 (by rfl) mr boot_rng (pa_cons (pe_callB call_len_seq (by rfl) ml PySem.boot_len (pa_cons (pv 0) pa_nil)) pa_nil)))
    (pss_cons (ps_for PassesOwn.never rfl (pi_range1 (by rfl) mr (pa_cons (pe_callB call_len_seq (by rfl) ml PySem.boot_len (pa_cons (pv 0) pa_nil)) pa_nil)) (pg_name (i := 2) scClosed.nd rfl (Or.inr rfl))
      (pss_one (ps_set (i := 0) scClosed.nd rfl (Or.inr rfl) (pe_callTy (tupK K) (by rfl) mt boot_tuple (pa_cons (pe_lc (own := [("at", 3)]) (g := gName 3) (tt := tYes) rfl scClosed.nd (pi_rngV (pv 1)) (blkOk_by (by kernel_rfl))
        (fun _ _ _ _ _ => pg_name (i := 3) scClosed.nd rfl (Or.inr rfl)) (fun _ _ _ _ _ => pts_nil) (fun _ _ _ _ _ =>
          pe_callTy (tupK K) (by rfl) mt boot_tuple (pa_cons (pe_lc (own := [("to", 4)]) (g := gName 4) (tt := tYes) rfl scClosed.nd (pi_rngV (pv 1)) (blkOk_by (by kernel_rfl))
            (fun _ _ _ _ _ => pg_name (i := 4) scClosed.nd rfl (Or.inl rfl)) (fun _ _ _ _ _ => pts_nil) (fun _ _ _ _ _ =>
              call_h hn hr (by rfl) pass0 (pa_cons (ixK K (ixK K (pv 0) (pv 3) (fun _ _ => rfl)) (pv 4) (fun _ _ => rfl))
                (pa_cons (call_h hp hr (by rfl) pass0 (pa_cons (ixK K (ixK K (pv 0) (pv 3) (fun _ _ => rfl)) (pv 2) (fun _ _ => rfl)) (pa_cons (ixK K (ixK K (pv 0) (pv 2) (fun _ _ => rfl)) (pv 4) (fun _ _ => rfl)) pa_nil))) pa_nil)))) pa_nil))) pa_nil)))))
    (pss_one (ps_ret (pv 0)))), ?_⟩
  obtain ⟨rs, e1, e2, e3⟩ := id hg
  have elen : ((rs.map V.ref).length : Int) = (n : Int) := by
    rw [List.length_map, e2]
  refine ⟨_, rfl, p, _, rfl, .inr (SqT.of e1), _, rfl, fun r nr => ?_⟩
  rw [elen]
  have s1 : Same H (upd H r (.rng 0 (n : Int))) := same_new nr
  refine ⟨_, rfl, p, _, rfl, .inr (SqT.of (s1 _ _ e1)), _, rfl, by rw [elen]; omega, by rw [elen]; omega, ?_⟩
  rw [elen, Int.toNat_natCast]
  refine for_range (lo := 0) (n := n) (fun i σ H' => ∃ (p' : Addr) (v2 : Option V), σ = [some (.ref p'), some (.ref r), v2, none, none] ∧ Same H H' ∧ H' r = some (.rng 0 (n : Int)) ∧ GridAt H' p' n (fwk i g)) ⟨p, none, rfl, s1, upd_same, hg.same s1⟩ ?_ ?_
  · rintro i σ H2 hi ⟨p', v2, rfl, s2, er, hg2⟩
    rw [Int.zero_add]
    refine ⟨_, rfl, r, (n : Int), rfl, er, by omega, by omega, fun D nD => ?_⟩
    rw [Int.toNat_natCast]
    refine lc_grow (n := n) (rowR n (stepG i (fwk i g))) nD (by omega) (fun i y H H' => rowR_same) (fun i y H xs zs => rowR_upd) (fun a H3 acc Kq ha s3 eD cont => ?_) (fun H3 ys s3 eD len hR => ?_)
    · refine ⟨_, rfl, r, (n : Int), rfl, s3 _ _ er, by omega, by omega, fun D2 nD2 => ?_⟩
      rw [Int.toNat_natCast]
      refine lc_grow (n := n) (fun b y _ => y = ov (stepG i (fwk i g) a b)) nD2 (by omega) (fun _ _ _ _ h _ => h) (fun _ _ _ _ _ h _ => h) (fun b H4 acc2 Kq2 hb s4 eD2 cont2 => ?_) (fun H4 ys s4 eD2 len hR => ?_)
      · have hg4 := hg2.same (s3.trans s4)
        refine rd2 (i := a) (j := b) rfl rfl rfl hg4 ha hb ?_
        refine rd2 (i := a) (j := i) rfl rfl rfl hg4 ha hi ?_
        refine rd2 (i := i) (j := b) rfl rfl rfl hg4 hi hb ?_
        exact ⟨_, _, rfl, _, _, rfl, cont2 _ _ (Same.refl _) rfl⟩
      · refine ⟨_, ys, rfl, .inl ⟨SqL.of eD2, fun t nt => ?_⟩⟩
        refine cont _ _ ((s4.trans (same_new nt))) ⟨t, rfl, ?_⟩
        rw [upd_same, row_of (g := stepG i (fwk i g)) (i := a) len hR]
    · refine ⟨_, ys, rfl, .inl ⟨SqL.of eD, fun t nt => ?_⟩⟩
      refine ⟨t, some (.int (i : Int)), rfl, (s2.trans s3).trans (same_new nt), same_new nt _ _ (s3 _ _ er), ?_⟩
      exact grid_of upd_same len fun i y e => rowR_same (hR i y e) (same_new nt)
  · rintro σ H2 ⟨p', v2, rfl, s2, er, hg2⟩
    exact ⟨_, rfl, q p' H2 s2 hg2⟩
end
end K9

namespace K9
open PySem PySem.Spec PyProof.Rows L2
def ovN : Option Nat → V
  | none => .non
  | some g => .int (g : Int)
/-- a limit at t -/
def limT (l : Lim) : HO := .tup [.int (l.lo : Int), .int (l.hi : Int), .int (l.le : Int), ovN l.gr]
def ValidL (lots : Nat) (l : Lim) : Prop := l.lo < l.hi ∧ l.hi ≤ lots + 1 ∧ l.le ≤ 99 ∧ ∀ g, l.gr = some g → l.le ≤ g ∧ g ≤ 99
section
variable {P : Program} {w : World} {K : PySem.W.Frag} {mg : Str → Option Value} {base : Heap}
/-! ### check_points, check_limit -/
def spChkP : Sp := fun vs H Q _ => ∃ lots a b : Nat, vs = [.int lots, .int a, .int b] ∧ a < b ∧ b ≤ lots + 1 ∧ Q .non H
theorem scChkP : FnScope ["lots", "first", "second"] ["lots", "first", "second"] (defScope sChkP) := ⟨rfl, rfl, rfl, by decide +kernel, rfl, by decide +kernel, by decide +kernel⟩
theorem ok_chkP {f : Addr} {fd : FuncData} (F : Fun K "check_points" "check_points" sChkP f fd) : FnOk P w K mg base CX0 1 f fd ["lots", "first", "second"] spChkP := by
  refine F.ok scChkP (fun vs H Q E ⟨l, a, b, e, _⟩ => by rw [e]; rfl) (fun cdv A outer s H vs Q E hr ⟨l, a, b, e, h1, h2, q⟩ => ?_)
  subst e
  refine ⟨_, pss_one (ps_if (pt_not (pt_ch3 op_le op_lt op_le pe_int (pv 1) (pv 2) (pe_op op_add (pv 0) pe_int))) (pss_one ps_never) pss_nil), ?_⟩
  refine ⟨_, rfl, _, _, rfl, rfl, _, rfl, ?_⟩
  rw [decide_eq_true (show (0 : Int) ≤ (a : Int) by omega)]
  refine iteT ⟨_, rfl, _, _, rfl, rfl, _, rfl, ?_⟩
  rw [decide_eq_true (show (a : Int) < (b : Int) by omega)]
  refine iteT ⟨_, rfl, _, _, rfl, rfl, _, _, rfl, rfl, _, rfl, ?_⟩
  rw [decide_eq_true (show (b : Int) ≤ (l : Int) + 1 by omega)]
  exact iteF q
def spChkL : Sp := fun vs H Q _ => ∃ (lots : Nat) (t : Addr) (l : Lim), vs = [.int lots, .ref t] ∧ H t = some (limT l) ∧ ValidL lots l ∧ Q .non H
theorem scChkL : FnScope ["lots", "limit", "first", "second", "least", "greatest"] ["lots", "limit"] (defScope sChkL) := ⟨rfl, rfl, rfl, by decide +kernel, rfl, by decide +kernel, by decide +kernel⟩
theorem ok_chkL {f : Addr} {fd : FuncData} {tk : Tok} (F : Fun K "check_limit" "check_limit" sChkL f fd) (hc : HasD P w K mg base CX0 1 "check_points" spChkP) (mM : mg "MOST_BETWEEN" = some (.int 99 tk)) : FnOk P w K mg base CX0 2 f fd ["lots", "limit"] spChkL := by
  refine F.ok scChkL (fun vs H Q E ⟨l, t, li, e, _⟩ => by rw [e]; rfl) (fun cdv A outer s H vs Q E hr ⟨lots, t, l, e, ht, hv, q⟩ => ?_)
  subst e
  obtain ⟨v1, v2, v3, v4⟩ := hv
  refine ⟨_, pss_cons (ps_asg (pv 1) (pg_tup rfl (pgs_cons (pg_name (i := 2) scChkL.nd rfl (Or.inl rfl)) (pgs_cons (pg_name (i := 3) scChkL.nd rfl (Or.inl rfl)) (pgs_cons (pg_name (i := 4) scChkL.nd rfl (Or.inl rfl)) (pgs_cons (pg_name (i := 5) scChkL.nd rfl (Or.inl rfl)) pgs_nil))))))
    (pss_cons (ps_expr (call_h hc hr (by rfl) pass0 (pa_cons (pv 0) (pa_cons (pv 2) (pa_cons (pv 3) pa_nil)))))
    (pss_cons (ps_if (pt_not (pt_chain op_le op_le pe_int (pv 4) (pe_glob (v := .int 99) (by rfl) mM ⟨_, rfl⟩))) (pss_one ps_never) pss_nil)
    (pss_one (ps_if (PW.pt (pw_and (pt_cmpR op_notN (pv 5) pe_non (nomark _)) (pw_and1 (pt_not (pt_chain op_le op_le (pv 4) (pv 5) (pe_glob (v := .int 99) (by rfl) mM ⟨_, rfl⟩)))))) (pss_one ps_never) pss_nil)))), ?_⟩
  refine ⟨_, rfl, t, _, rfl, SqT.of ht, rfl, _, _, rfl, _, _, rfl, _, _, rfl, _, _, rfl, rfl, ?_⟩
  refine ⟨_, rfl, _, rfl, _, rfl, lots, l.lo, l.hi, rfl, v1, v2, ?_⟩
  refine ⟨_, rfl, _, _, rfl, rfl, _, rfl, ?_⟩
  rw [decide_eq_true (show (0 : Int) ≤ (l.le : Int) by omega)]
  refine iteT ⟨_, _, rfl, rfl, _, rfl, ?_⟩
  rw [decide_eq_true (show (l.le : Int) ≤ 99 by omega)]
  refine iteF ⟨_, rfl, rfl, _, rfl, ?_⟩
  cases hg : l.gr with
  | none => exact iteF (iteF q)
  | some g =>
    obtain ⟨w1, w2⟩ := v4 g hg
    refine iteT ⟨_, rfl, _, rfl, _, _, rfl, rfl, _, rfl, ?_⟩
    rw [decide_eq_true (show (l.le : Int) ≤ (g : Int) by omega)]
    refine iteT ⟨_, _, rfl, rfl, _, rfl, ?_⟩
    rw [decide_eq_true (show (g : Int) ≤ 99 by omega)]
    exact iteF q
/-! ### limited_grid -/
def exK (a b : Nat) : List Key := [.inl (a : Int), .inl (b : Int)]
theorem exK_eq {a b c d : Nat} : exK a b = exK c d ↔ a = c ∧ b = d := by
  unfold exK
  constructor
  · intro h
    have h1 := (List.cons.inj h).1
    have h2 := (List.cons.inj (List.cons.inj h).2).1
    have h3 := Sum.inl.inj h1
    have h4 := Sum.inl.inj h2
    omega
  · rintro ⟨rfl, rfl⟩
    rfl
theorem ex_get (l : Lim) (hl : l.lo < l.hi) (i j : Nat) : (valV (putK (putK [] (exK l.hi l.lo) (.int (-(l.le : Int) - 1))) (exK l.lo l.hi) (ov (l.gr.map fun g => (g : Int) + 1))) (exK i j)).getD .non = ov (extraG l i j) := by
  rw [valV_put, valV_put]
  unfold extraG
  by_cases h1 : i = l.hi ∧ j = l.lo
  · rw [if_neg (fun q => by have := exK_eq.mp q; omega), if_pos (exK_eq.mpr h1), if_pos h1]
    rfl
  · rw [if_neg h1]
    by_cases h2 : i = l.lo ∧ j = l.hi
    · rw [if_pos (exK_eq.mpr h2), if_pos h2]
      rfl
    · rw [if_neg (fun q => h2 (exK_eq.mp q)), if_neg (fun q => h1 (exK_eq.mp q)), if_neg h2]
      rfl
theorem up_read {Kq : VK} {H : Hp} {σ : L2.St} {gr : Option Nat} (hs : σ[5]? = some (some (ovN gr))) (h : Kq (ov (gr.map fun g => (g : Int) + 1)) H) :
    tIf (tTest (tOp (fun x y H Q => y = .non ∧ Q (.bl (decide (x = .non))) H) (tVar 5) (tC .non))) (tC .non) (tOp (rI0 fun i j => .int (i + j)) (tVar 5) (tC (.int 1))) σ H Kq := by
  refine ⟨_, hs, rfl, _, rfl, ?_⟩
  cases gr with
  | none => exact iteT h
  | some g => exact iteF ⟨_, hs, _, _, rfl, rfl, h⟩
def spLimG : Sp := fun vs H Q _ => ∃ (p t : Addr) (n : Nat) (g : G) (l : Lim), vs = [.ref p, .ref t] ∧ n ≤ 102 ∧ GridAt H p n g ∧ H t = some (limT l) ∧ l.lo < l.hi ∧ ∀ p' H', Same H H' → GridAt H' p' n (limG g l) → Q (.ref p') H'
theorem scLimG : FnScope ["grid", "limit", "first", "second", "least", "greatest", "many", "upper", "extra", "at", "to"] ["grid", "limit"] (defScope sLimG) := ⟨rfl, rfl, rfl, by decide +kernel, rfl, by decide +kernel, by decide +kernel⟩
theorem ok_limG {f : Addr} {fd : FuncData} (F : Fun K "limited_grid" "limited_grid" sLimG f fd) (hn : HasD P w K mg base CX0 1 "nearest" spNear) (mt : mg "tuple" = none) (mr : mg "range" = none) (ml : mg "len" = none) :
    FnOk P w K mg base CX0 2 f fd ["grid", "limit"] spLimG := by
  refine F.ok scLimG (fun vs H Q E ⟨p, t, n, g, l, e, _⟩ => by rw [e]; rfl) (fun cdv A outer s H vs Q E hr ⟨p, t, n, g, l, e, hz, hg, ht, hl, q⟩ => ?_)
  subst e
  refine ⟨_, pss_cons (ps_asg (pv 1) (pg_tup rfl (pgs_cons (pg_name (i := 2) scLimG.nd rfl (Or.inl rfl)) (pgs_cons (pg_name (i := 3) scLimG.nd rfl (Or.inl rfl)) (pgs_cons (pg_name (i := 4) scLimG.nd rfl (Or.inl rfl)) (pgs_cons (pg_name (i := 5) scLimG.nd rfl (Or.inl rfl)) pgs_nil))))))
    (pss_cons (ps_set (i := 6) scLimG.nd rfl (Or.inr rfl) (pe_callB call_len_seq (by rfl) ml PySem.boot_len (pa_cons (pv 0) pa_nil)))
    (pss_cons (ps_set (i := 7) scLimG.nd rfl (Or.inl rfl) (pe_ifExp (pt_cmpR op_isN (pv 5) pe_non (nomark _)) pe_non (pe_op op_add (pv 5) pe_int)))
    (pss_cons (ps_set (i := 8) scLimG.nd rfl (Or.inr rfl) (pe_disp2 (hu_of hr) (pps_cons (pe_tup (pa_cons (pv 3) (pa_cons (pv 2) pa_nil))) (pe_op op_sub (pe_un un_neg (pv 4)) pe_int) (pps_cons (pe_tup (pa_cons (pv 2) (pa_cons (pv 3) pa_nil))) (pv 7) pps_nil)) (by rfl) (by rfl) (fun z => by cases z) (by decide)))
    (pss_one (ps_ret (pe_callTy (tupK K) (by rfl) mt boot_tuple (pa_cons (pe_lc (own := [("at", 9)]) (g := gName 9) (tt := tYes) rfl scLimG.nd (pi_range1 (by rfl) mr (pa_cons (pv 6) pa_nil)) (blkOk_by (by kernel_rfl))
      (fun _ _ _ _ _ => pg_name (i := 9) scLimG.nd rfl (Or.inr rfl)) (fun _ _ _ _ _ => pts_nil) (fun _ _ _ _ _ =>
        pe_callTy (tupK K) (by rfl) mt boot_tuple (pa_cons (pe_lc (own := [("to", 10)]) (g := gName 10) (tt := tYes) rfl scLimG.nd (pi_range1 (by rfl) mr (pa_cons (pv 6) pa_nil)) (blkOk_by (by kernel_rfl))
          (fun _ _ _ _ _ => pg_name (i := 10) scLimG.nd rfl (Or.inl rfl)) (fun _ _ _ _ _ => pts_nil) (fun _ _ _ _ _ =>
            call_h hn hr (by rfl) pass0 (pa_cons (ixK K (ixK K (pv 0) (pv 9) (fun _ _ => rfl)) (pv 10) (fun _ _ => rfl))
              (pa_cons (pe_dget1 (hu_of hr) (pv 8) (pe_tup (pa_cons (pv 9) (pa_cons (pv 10) pa_nil))) ⟨rfl, rfl, rfl, rfl⟩) pa_nil)))) pa_nil))) pa_nil))))))), ?_⟩
  obtain ⟨rs, e1, e2, e3⟩ := id hg
  have elen : ((rs.map V.ref).length : Int) = (n : Int) := by
    rw [List.length_map, e2]
  refine ⟨_, rfl, t, _, rfl, SqT.of ht, rfl, _, _, rfl, _, _, rfl, _, _, rfl, _, _, rfl, rfl, ?_⟩
  refine ⟨_, rfl, p, _, rfl, .inr (SqT.of e1), ?_⟩
  rw [elen]
  refine up_read rfl ?_
  -- extra
  intro d nd
  have s1 : Same H (upd H d (.dT [])) := same_new nd
  refine ⟨_, rfl, _, rfl, (by show 2 ≤ sizeLine; decide), fun b1 nb1 => ?_⟩
  have s2 := s1.trans (same_new (o := .tup [.int (l.hi : Int), .int (l.lo : Int)]) nb1)
  refine ⟨_, rfl, _, rfl, _, _, rfl, rfl, _, rfl, _, rfl, (by show 2 ≤ sizeLine; decide), fun b2 nb2 => ?_⟩
  have s3 := s2.trans (same_new (o := .tup [.int (l.lo : Int), .int (l.hi : Int)]) nb2)
  have ed1 : (upd (upd H d (.dT [])) b1 (.tup [.int (l.hi : Int), .int (l.lo : Int)])) d = some (.dT []) := same_new nb1 _ _ upd_same
  have ed2 := same_new (o := .tup [.int (l.lo : Int), .int (l.hi : Int)]) nb2 _ _ ed1
  refine ⟨_, rfl, ed2, exK l.hi l.lo, exK l.lo l.hi, _, _, b1, b2, rfl, same_new nb2 _ _ upd_same, upd_same, ?_⟩
  have s4 := same_over (o := .dT (putK (putK [] (exK l.hi l.lo) (.int (-(l.le : Int) - 1))) (exK l.lo l.hi) (ov (l.gr.map fun g => (g : Int) + 1)))) s3 nd
  generalize hH4 : upd (upd (upd (upd H d (.dT [])) b1 (.tup [.int (l.hi : Int), .int (l.lo : Int)])) b2 (.tup [.int (l.lo : Int), .int (l.hi : Int)])) d (.dT (putK (putK [] (exK l.hi l.lo) (.int (-(l.le : Int) - 1))) (exK l.lo l.hi) (ov (l.gr.map fun g => (g : Int) + 1)))) = H4 at s4 ⊢
  have ed : H4 d = some (.dT (putK (putK [] (exK l.hi l.lo) (.int (-(l.le : Int) - 1))) (exK l.lo l.hi) (ov (l.gr.map fun g => (g : Int) + 1)))) := by
    rw [← hH4]
    exact upd_same
  clear hH4
  refine ⟨_, rfl, _, rfl, by omega, by omega, fun D nD => ?_⟩
  rw [Int.toNat_natCast]
  refine lc_grow (n := n) (rowR n (limG g l)) nD (by omega) (fun i y H H' => rowR_same) (fun i y H xs zs => rowR_upd) (fun a H5 acc Kq ha s5 eD cont => ?_) (fun H5 ys s5 eD len hR => ?_)
  · refine ⟨_, rfl, _, rfl, by omega, by omega, fun D2 nD2 => ?_⟩
    rw [Int.toNat_natCast]
    refine lc_grow (n := n) (fun b y _ => y = ov (limG g l a b)) nD2 (by omega) (fun _ _ _ _ h _ => h) (fun _ _ _ _ _ h _ => h) (fun b H6 acc2 Kq2 hb s6 eD2 cont2 => ?_) (fun H6 ys s6 eD2 len hR => ?_)
    · have s46 := s5.trans s6
      refine rd2 (i := a) (j := b) rfl rfl rfl (hg.same (s4.trans s46)) ha hb ?_
      have ed6 := s46 _ _ ed
      refine ⟨_, rfl, d, rfl, .inr ⟨_, .inl ed6⟩, _, rfl, _, rfl, (by show 2 ≤ sizeLine; decide), fun t2 nt2 => ⟨_, DGet.t (k := exK a b) (same_new nt2 _ _ ed6) upd_same, ?_⟩⟩
      rw [ex_get l hl]
      exact ⟨_, _, rfl, cont2 _ _ (same_new nt2) rfl⟩
    · refine ⟨_, ys, rfl, .inl ⟨SqL.of eD2, fun t2 nt2 => ?_⟩⟩
      refine cont _ _ ((s6.trans (same_new nt2))) ⟨t2, rfl, ?_⟩
      rw [upd_same, row_of (g := limG g l) (i := a) len hR]
  · refine ⟨_, ys, rfl, .inl ⟨SqL.of eD, fun t2 nt2 => ?_⟩⟩
    refine q t2 _ ((s4.trans s5).trans (same_new nt2)) (grid_of upd_same len fun i y e => rowR_same (hR i y e) (same_new nt2))
end
end K9

namespace K9
open PySem PySem.Spec PyProof.Rows L2
/-! ### the fields of Bounds -/
def bf (lots : Nat) (p : Addr) : List (Str × V) := putF "far" (.ref p) (putF "lots" (.int (lots : Int)) [])
theorem nfl : ¬ (("lots" : Str) = "far") := by decide +kernel
theorem bf_far (lots : Nat) (p : Addr) : (bf lots p).lookup ("far" : Str) = some (.ref p) := by
  unfold bf
  rw [lookup_putF, if_pos rfl]
theorem bf_lots (lots : Nat) (p : Addr) : (bf lots p).lookup ("lots" : Str) = some (.int (lots : Int)) := by
  unfold bf
  rw [lookup_putF, if_neg nfl, lookup_putF, if_pos rfl]
/-- Bounds at x: so many lots, its grid -/
def BAt (C : Addr) (H : Hp) (x : Addr) (lots : Nat) (g : G) : Prop := ∃ dx p, H x = some (.ins C dx (bf lots p)) ∧ GridAt H p (lots + 2) g
theorem BAt.same {C x : Addr} {H H' : Hp} {lots : Nat} {g : G} (h : BAt C H x lots g) (s : Same H H') : BAt C H' x lots g := by
  obtain ⟨dx, p, a, b⟩ := h
  exact ⟨dx, p, s _ _ a, b.same s⟩
/-- a list of limits at t -/
def LimsAt (H : Hp) (t : Addr) (ls : List Lim) : Prop := ∃ ts : List Addr, H t = some (.lst (ts.map V.ref)) ∧ ts.length = ls.length ∧ ∀ (i : Nat) (a : Addr) (l : Lim), ts[i]? = some a → ls[i]? = some l → H a = some (limT l)
theorem LimsAt.same {H H' : Hp} {t : Addr} {ls : List Lim} (h : LimsAt H t ls) (s : Same H H') : LimsAt H' t ls := by
  obtain ⟨ts, a, b, c⟩ := h
  exact ⟨ts, s _ _ a, b, fun i a l e1 e2 => s _ _ (c i a l e1 e2)⟩
/-- what is asked of the class as the top has made it -/
structure BCls (K : PySem.W.Frag) (mg : Str → Option Value) (C : Addr) : Prop where
  cl : Cls K C
  nL : NoAttr K C "lots"
  nF : NoAttr K C "far"
  mgC : mg "Bounds" = some (.ref C)
theorem boot_all : bootBuiltins "all" = some (.builtin "all") := by decide +kernel
section
variable {P : Program} {w : World} {K : PySem.W.Frag} {mg : Str → Option Value} {base : Heap}
def spInit (C : Addr) : Sp := fun vs H Q _ => ∃ (x dx t : Addr) (lots : Nat) (ls : List Lim), vs = [.ref x, .int lots, .ref t, .non] ∧ H x = some (.ins C dx []) ∧ LimsAt H t ls ∧ lots ≤ 100 ∧ (∀ l ∈ ls, ValidL lots l) ∧
  ∀ H', BAt C H' x lots (farG lots ls) → (∀ b o, H b = some o → b ≠ x → H' b = some o) → Q .non H'
theorem scInit : FnScope ["self", "lots", "limits", "far", "grid", "limit"] ["self", "lots", "limits", "far"] (defScope sInit) := ⟨rfl, rfl, rfl, by decide +kernel, rfl, by decide +kernel, by decide +kernel⟩
theorem ok_init {f C : Addr} {fd : FuncData} (F : FunD K "__init__" "Bounds.__init__" (defArgs sInit) (defBody sInit) (defScope sInit) [] [("far", .non)] f fd) (B : BCls K mg C)
    (hp : HasD P w K mg base CX0 2 "plain_grid" spPlainG) (hc : HasD P w K mg base CX0 2 "check_limit" spChkL) (hl : HasD P w K mg base CX0 2 "limited_grid" spLimG) (hf : HasD P w K mg base CX0 2 "closed_grid" spClosed) :
    FnOk P w K mg base CX0 3 f fd ["self", "lots", "limits", "far"] (spInit C) := by
  refine F.ok scInit (fun vs H Q E ⟨x, dx, t, l, ls, e, _⟩ => by rw [e]; rfl) (fun cdv A outer s H vs Q E hr ⟨x, dx, t, lots, ls, e, hx, ht, hz, hv, q⟩ => ?_)
  subst e
  refine ⟨_, PSs.nox (pss_cons (ps_if (pt_cmpR op_isN (pv 3) pe_non (nomark _))
      (pss_cons (ps_if (pt_cmpR op_lt (pv 1) pe_int (nomark _)) (pss_one ps_never) pss_nil)
      (pss_cons (ps_set (i := 4) scInit.nd rfl (Or.inl rfl) (call_h hp hr (by rfl) pass0 (pa_cons (pv 1) pa_nil)))
      (pss_cons (ps_for PassesOwn.never rfl (pi_list (pv 2)) (pg_name (i := 5) scInit.nd rfl (Or.inl rfl)) (pss_one (ps_expr (call_h hc hr (by rfl) pass0 (pa_cons (pv 1) (pa_cons (pv 5) pa_nil))))))
      (pss_cons (ps_for PassesOwn.never rfl (pi_list (pv 2)) (pg_name (i := 5) scInit.nd rfl (Or.inl rfl)) (pss_one (ps_set (i := 4) scInit.nd rfl (Or.inl rfl) (call_h hl hr (by rfl) pass0 (pa_cons (pv 4) (pa_cons (pv 5) pa_nil))))))
      (pss_one (ps_set (i := 3) scInit.nd rfl (Or.inl rfl) (call_h hf hr (by rfl) pass0 (pa_cons (pv 4) pa_nil)))))))) pss_nil)
    (pss_cons (ps_fld (pv 0) (pv 1) rfl) (pss_one (ps_fld (pv 0) (pv 3) rfl)))), ?_⟩
  refine ⟨_, rfl, rfl, _, rfl, iteT ?_⟩
  refine ⟨_, rfl, _, _, rfl, rfl, _, rfl, ?_⟩
  rw [decide_eq_false (show ¬ (lots : Int) < 0 by omega)]
  refine iteF ?_
  refine ⟨_, rfl, lots, rfl, hz, fun p H1 s1 np hg => ?_⟩
  obtain ⟨ts, e1, e2, e3⟩ := id ht
  refine ⟨_, rfl, t, rfl, ⟨_, SqL.of (s1 _ _ e1)⟩, for_list (K := K) (a := t) (xs := ts.map V.ref) (fun i σ H2 => ∃ v : Option V, σ = [some (.ref x), some (.int lots), some (.ref t), some .non, some (.ref p), v] ∧ H2 = H1)
    ⟨none, rfl, rfl⟩ (fun i σ H2 _ ⟨_, _, e⟩ => by rw [e]; exact SqL.of (s1 _ _ e1)) ?_ ?_⟩
  · rintro i y σ H2 hi ⟨v, rfl, rfl⟩
    obtain ⟨a, ha, rfl⟩ : ∃ a, ts[i]? = some a ∧ y = V.ref a := by
      rw [List.getElem?_map] at hi
      cases q : ts[i]? with
      | none => rw [q] at hi; cases hi
      | some a => rw [q] at hi; exact ⟨a, rfl, (Option.some.inj hi).symm⟩
    have hil : i < ls.length := by
      rw [← e2]
      exact (List.getElem?_eq_some_iff.mp ha).1
    exact ⟨_, rfl, _, rfl, lots, a, ls[i], rfl, s1 _ _ (e3 i a _ ha (List.getElem?_eq_getElem hil)), hv _ (List.getElem_mem hil), some (.ref a), rfl, rfl⟩
  · rintro σ H2 ⟨v, rfl, rfl⟩
    refine ⟨_, rfl, t, rfl, ⟨_, SqL.of (s1 _ _ e1)⟩, for_list (K := K) (a := t) (xs := ts.map V.ref) (fun i σ H3 => ∃ (v : Option V) (p3 : Addr), σ = [some (.ref x), some (.int lots), some (.ref t), some .non, some (.ref p3), v] ∧ Same H H3 ∧ GridAt H3 p3 (lots + 2) ((ls.take i).foldl limG (plainG lots)))
      ⟨v, p, rfl, s1, hg⟩ (fun i σ H3 _ ⟨_, _, _, s3, _⟩ => SqL.of (s3 _ _ e1)) ?_ ?_⟩
    · rintro i y σ H3 hi ⟨v3, p3, rfl, s3, hg3⟩
      obtain ⟨a, ha, rfl⟩ : ∃ a, ts[i]? = some a ∧ y = V.ref a := by
        rw [List.getElem?_map] at hi
        cases q : ts[i]? with
        | none => rw [q] at hi; cases hi
        | some a => rw [q] at hi; exact ⟨a, rfl, (Option.some.inj hi).symm⟩
      have hil : i < ls.length := by
        rw [← e2]
        exact (List.getElem?_eq_some_iff.mp ha).1
      have hl1 := (hv _ (List.getElem_mem hil)).1
      refine ⟨_, rfl, _, rfl, p3, a, lots + 2, _, ls[i], rfl, by omega, hg3, s3 _ _ (e3 i a _ ha (List.getElem?_eq_getElem hil)), hl1, fun p4 H4 s4 hg4 => ?_⟩
      refine ⟨some (.ref a), p4, rfl, s3.trans s4, ?_⟩
      rw [List.take_add_one, List.getElem?_eq_getElem hil, List.foldl_append]
      exact hg4
    · rintro σ H3 ⟨v3, p3, rfl, s3, hg3⟩
      rw [List.take_of_length_le (by rw [List.length_map, e2]; exact Nat.le_refl _)] at hg3
      refine ⟨_, rfl, p3, lots + 2, _, rfl, by omega, hg3, fun p5 H5 s5 hg5 => ?_⟩
      have sx := (s3.trans s5) _ _ hx
      refine ⟨_, rfl, _, rfl, x, C, dx, [], rfl, sx, B.cl, B.nL, (by show 0 < 1000; decide), _, rfl, _, rfl, x, C, dx, _, rfl, upd_same, B.cl, B.nF, (by show 1 < 1000; decide), ?_⟩
      refine q _ ⟨dx, p5, upd_same, ?_⟩ fun b o e hb => ?_
      · obtain ⟨rs, g1, g2, g3⟩ := hg5
        refine ⟨rs, ?_, g2, fun i r er => ?_⟩
        · have n5 := ne_of g1 sx (fun z => nomatch z)
          rw [upd_ne n5, upd_ne n5]
          exact g1
        · have n5 := ne_of (g3 i r er) sx (fun z => nomatch z)
          rw [upd_ne n5, upd_ne n5]
          exact g3 i r er
      · rw [upd_ne hb, upd_ne hb]
        exact (s3.trans s5) _ _ e
end
end K9

namespace K9
open PySem PySem.Spec PyProof.Rows L2
section
variable {P : Program} {w : World} {K : PySem.W.Frag} {mg : Str → Option Value} {base : Heap}
/-! ### possible -/
def spPoss (C : Addr) : Sp := fun vs H Q _ => ∃ (x : Addr) (lots : Nat) (g : G), vs = [.ref x] ∧ BAt C H x lots g ∧ lots ≤ 100 ∧ DS (lots + 2) g ∧ ∀ b H', (b = true ↔ NN (lots + 2) g) → Same H H' → Q (.bl b) H'
theorem scPoss : FnScope ["self", "at"] ["self"] (defScope sPoss) := ⟨rfl, rfl, rfl, by decide +kernel, rfl, by decide +kernel, by decide +kernel⟩
theorem ok_poss {f C : Addr} {fd : FuncData} (F : Fun K "possible" "Bounds.possible" sPoss f fd) (B : BCls K mg C) (ma : mg "all" = none) (mr : mg "range" = none) (ml : mg "len" = none) :
    FnOk P w K mg base CX0 1 f fd ["self"] (spPoss C) := by
  refine F.ok scPoss (fun vs H Q E ⟨x, l, g, e, _⟩ => by rw [e]; rfl) (fun cdv A outer s H vs Q E hr ⟨x, lots, g, e, hB, hz, hd, q⟩ => ?_)
  subst e
  refine ⟨_, pss_one (ps_ret (pe_callB (cr_all rfl) (by rfl) ma boot_all (pa_cons (pe_lc (own := [("at", 1)]) (g := gName 1) (tt := tYes) rfl scPoss.nd (pi_range1 (by rfl) mr (pa_cons (pe_callB call_len_seq (by rfl) ml PySem.boot_len (pa_cons (pe_fld (pv 0) rfl) pa_nil)) pa_nil)) (blkOk_by (by kernel_rfl))
      (fun _ _ _ _ _ => pg_name (i := 1) scPoss.nd rfl (Or.inl rfl)) (fun _ _ _ _ _ => pts_nil) (fun _ _ _ _ _ =>
        pe_cmpR op_ge (ixK K (ixK K (fldK K (pv 0) rfl) (pv 1) (fun _ _ => rfl)) (pv 1) (fun _ _ => rfl)) pe_int (nomark _))) pa_nil))), ?_⟩
  obtain ⟨dx, p, h1, hg⟩ := id hB
  obtain ⟨rs, e1, e2, e3⟩ := id hg
  have elen : ((rs.map V.ref).length : Int) = ((lots + 2 : Nat) : Int) := by
    rw [List.length_map, e2]
  refine ⟨_, rfl, x, C, dx, _, _, rfl, h1, B.cl, B.nF, bf_far _ _, p, _, rfl, .inr (SqT.of e1), ?_⟩
  rw [elen]
  refine ⟨_, rfl, by omega, by omega, fun D nD => ?_⟩
  rw [Int.toNat_natCast]
  refine lc_grow (n := lots + 2) (fun i y _ => ∃ d, g i i = some d ∧ y = .bl (decide (0 ≤ d))) nD (by omega) (fun _ _ _ _ h _ => h) (fun _ _ _ _ _ h _ => h) (fun i H2 acc Kq hi s2 eD cont => ?_) (fun H2 ys s2 eD len hR => ?_)
  · obtain ⟨d, ed, _⟩ := hd i hi
    obtain ⟨rs', r, g1, g2, g3, g4⟩ := (hg.same s2).row hi
    refine ⟨_, rfl, x, C, dx, _, _, rfl, s2 _ _ h1, B.cl, B.nF, bf_far _ _, _, rfl, p, _, _, _, rfl, rfl, SqT.of g1, atN g3, _, rfl, r, _, _, _, rfl, rfl, SqT.of g4, atN (rowV_get hi), ?_⟩
    rw [ed]
    exact ⟨d, 0, rfl, rfl, cont _ _ (Same.refl _) ⟨d, ed, rfl⟩⟩
  · obtain ⟨bs, rfl⟩ : ∃ bs : List Bool, ys = bs.map V.bl := by
      have key : ∀ (ys : List V), (∀ y ∈ ys, ∃ b, y = V.bl b) → ∃ bs : List Bool, ys = bs.map V.bl := by
        intro ys
        induction ys with
        | nil => exact fun _ => ⟨[], rfl⟩
        | cons y t ih =>
          intro h
          obtain ⟨bs, e⟩ := ih fun z hz => h z (List.mem_cons_of_mem _ hz)
          obtain ⟨b, e2⟩ := h y (List.mem_cons_self ..)
          exact ⟨b :: bs, by rw [e, e2]; rfl⟩
      refine key ys fun y hy => ?_
      obtain ⟨i, hi⟩ := List.getElem?_of_mem hy
      obtain ⟨d, _, e⟩ := hR i y hi
      exact ⟨_, e⟩
    refine ⟨D, bs, rfl, SqL.of eD, q _ _ ?_ s2⟩
    rw [List.all_eq_true]
    constructor
    · intro h i hi d ed
      have hb : i < bs.length := by
        rw [List.length_map] at len
        omega
      obtain ⟨d', ed', e'⟩ := hR i (.bl bs[i]) (by rw [List.getElem?_map, List.getElem?_eq_getElem hb]; rfl)
      rw [ed] at ed'
      obtain rfl := Option.some.inj ed'
      have h2 : bs[i] = true := h _ (List.getElem_mem hb)
      rw [h2] at e'
      exact of_decide_eq_true (V.bl.inj e').symm
    · intro h b hb
      obtain ⟨i, hi⟩ := List.getElem?_of_mem hb
      obtain ⟨d, ed, e'⟩ := hR i (.bl b) (by rw [List.getElem?_map, hi]; rfl)
      have hi2 : i < lots + 2 := by
        have := (List.getElem?_eq_some_iff.mp hi).1
        rw [List.length_map] at len
        omega
      rw [V.bl.inj e']
      exact decide_eq_true (h i hi2 d ed)
end
/-! ### a tuple walked with places -/
theorem pg_tupK {X : Cx} (K : PySem.W.Frag) {es : List Expr} {k n : Nat} {pos : Pos} {t : TGs} (hc : X.calm = true) (h : PGs X es t) (hK : X.K = K := by rfl)
    (hn : (assignEach es X.env).length = n := by rfl) (hst : (assignEach es X.env).findIdx? (·.1) = none := by rfl) : PG X (.Tuple es k pos) (gTup K n t) := by
  subst hK
  exact pg_tup hc h hn hst
theorem lc_enumT {K : PySem.W.Frag} {a : Addr} {xs : List V} {g : TG} {tt : TT} {te : TE} {vs : List Nat} {σ : L2.St} {H1 : Hp} {D : Addr} {Qd : Hp → Prop} (Pv : Nat → Hp → Prop) (h0 : Pv 0 (upd H1 D (.lst []))) (hl : ∀ i H, Pv i H → SqT K H a xs)
    (hs : ∀ i x T H, xs[i]? = some x → Pv i H → H T = none → g (.ref T) (wipe σ vs) (upd H T (.tup [.int (i : Nat), x])) fun σ2 H2 => wipe σ2 vs = wipe σ vs ∧ tt σ2 H2 fun b H3 =>
      if b = true then te σ2 H3 fun y H4 => ∃ acc, H4 D = some (.lst acc) ∧ acc.length < sizeLine ∧ Pv (i + 1) (upd H4 D (.lst (acc ++ [y]))) else Pv (i + 1) H3) (hd : ∀ H, Pv xs.length H → Qd H) :
    ∃ W : Nat → Nat → Hp → Prop, (∃ m, W 0 m (upd H1 D (.lst []))) ∧ ∀ i m H, W i m H →
      ((IteT K a).stop i H ∧ Qd H) ∨ ((IteT K a).go i H ∧ ∃ Nx : Hp → Prop, (∀ H', Nx H' → ∃ m', m' < m ∧ W (i + 1) m' H') ∧ ∀ x H', (IteT K a).yld i H x H' → g x (wipe σ vs) H' fun σ2 H2 => wipe σ2 vs = wipe σ vs ∧ tt σ2 H2 fun b H3 =>
        if b = true then te σ2 H3 fun y H4 => ∃ acc, H4 D = some (.lst acc) ∧ acc.length < sizeLine ∧ Nx (upd H4 D (.lst (acc ++ [y]))) else Nx H3) := by
  refine ⟨fun i m H => m = xs.length - i ∧ i ≤ xs.length ∧ Pv i H, ⟨xs.length, by simp, Nat.zero_le _, h0⟩, ?_⟩
  rintro i m H ⟨rfl, hi, p⟩
  by_cases hlt : i < xs.length
  · refine .inr ⟨⟨xs, xs[i], hl i H p, List.getElem?_eq_getElem hlt⟩, Pv (i + 1), fun H' p' => ⟨xs.length - (i + 1), by omega, rfl, hlt, p'⟩, fun x H' hy => ?_⟩
    obtain ⟨T, y, rfl, nT, rfl, hq⟩ := hy
    exact hs i y T H (hq xs (hl i H p)) p nT
  · obtain rfl : i = xs.length := by omega
    exact .inl ⟨⟨xs, hl _ H p, rfl⟩, hd H p⟩
theorem for_enumT {K : PySem.W.Frag} {a : Addr} {xs : List V} {g : TG} {tb : TS} {D : Ends} {σ : L2.St} {H : Hp} (Pv : Nat → L2.St → Hp → Prop) (h0 : Pv 0 σ H) (hl : ∀ i σ H, Pv i σ H → SqT K H a xs)
    (hs : ∀ i x T σ H, xs[i]? = some x → Pv i σ H → H T = none → g (.ref T) σ (upd H T (.tup [.int (i : Nat), x])) fun σ2 H2 => tb { D with nx := Pv (i + 1), ct := Pv (i + 1), bk := D.nx } σ2 H2) (hd : ∀ σ H, Pv xs.length σ H → D.nx σ H) :
    ∃ W : Nat → Nat → L2.St → Hp → Prop, (∃ m, W 0 m σ H) ∧ ∀ i m σ H, W i m σ H →
      ((IteT K a).stop i H ∧ D.nx σ H) ∨ ((IteT K a).go i H ∧ ∃ N : L2.St → Hp → Prop, (∀ σ' H', N σ' H' → ∃ m', m' < m ∧ W (i + 1) m' σ' H') ∧ ∀ x H', (IteT K a).yld i H x H' → g x σ H' fun σ2 H2 => tb { D with nx := N, ct := N, bk := D.nx } σ2 H2) := by
  refine ⟨fun i m σ H => m = xs.length - i ∧ i ≤ xs.length ∧ Pv i σ H, ⟨xs.length, by simp, Nat.zero_le _, h0⟩, ?_⟩
  rintro i m σ H ⟨rfl, hi, p⟩
  by_cases hlt : i < xs.length
  · refine .inr ⟨⟨xs, xs[i], hl i σ H p, List.getElem?_eq_getElem hlt⟩, Pv (i + 1), fun σ' H' p' => ⟨xs.length - (i + 1), by omega, rfl, hlt, p'⟩, fun x H' hy => ?_⟩
    obtain ⟨T, y, rfl, nT, rfl, hq⟩ := hy
    exact hs i y T σ H (hq xs (hl i σ H p)) p nT
  · obtain rfl : i = xs.length := by omega
    exact .inl ⟨⟨xs, hl _ σ H p, rfl⟩, hd σ H p⟩
/-! ### the cells of a call -/
/-- a tuple of Bounds of so many lots -/
def CsAt (C : Addr) (H : Hp) (a : Addr) (lots : Nat) (gs : List G) : Prop := ∃ xs : List Addr, H a = some (.tup (xs.map V.ref)) ∧ xs.length = gs.length ∧ ∀ (i : Nat) (x : Addr) (g : G), xs[i]? = some x → gs[i]? = some g → BAt C H x lots g
theorem CsAt.same {C a : Addr} {H H' : Hp} {lots : Nat} {gs : List G} (h : CsAt C H a lots gs) (s : Same H H') : CsAt C H' a lots gs := by
  obtain ⟨xs, e1, e2, e3⟩ := h
  exact ⟨xs, s _ _ e1, e2, fun i x g h1 h2 => (e3 i x g h1 h2).same s⟩
/-- steps found, in a list of pairs -/
def PsAt (H : Hp) (D : Addr) (ps : List (Nat × Int)) : Prop := ∃ ts : List Addr, H D = some (.lst (ts.map V.ref)) ∧ ts.length = ps.length ∧ ∀ (i : Nat) (t : Addr) (x : Nat × Int), ts[i]? = some t → ps[i]? = some x → H t = some (.tup [.int (x.1 : Int), .int x.2])
theorem PsAt.grow {H H' : Hp} {D : Addr} {ts : List Addr} {ps : List (Nat × Int)} {t : Addr} {x : Nat × Int} (h2 : ts.length = ps.length) (h3 : ∀ (i : Nat) (t : Addr) (x : Nat × Int), ts[i]? = some t → ps[i]? = some x → H t = some (.tup [.int (x.1 : Int), .int x.2])) (hk : ∀ t o, H t = some (.tup o) → H' t = some (.tup o))
    (ht : H' t = some (.tup [.int (x.1 : Int), .int x.2])) (hD : H' D = some (.lst ((ts ++ [t]).map V.ref))) : PsAt H' D (ps ++ [x]) := by
  refine ⟨ts ++ [t], hD, by simp [h2], fun i u y e1 e2 => ?_⟩
  by_cases hi : i < ts.length
  · rw [List.getElem?_append_left hi] at e1
    rw [List.getElem?_append_left (by omega)] at e2
    exact hk _ _ (h3 i u y e1 e2)
  · rw [List.getElem?_append_right (by omega)] at e1
    rw [List.getElem?_append_right (by omega)] at e2
    have hz : i - ts.length = 0 := by
      have := (List.getElem?_eq_some_iff.mp e1).1
      simp at this
      omega
    rw [hz] at e1
    rw [show i - ps.length = 0 by omega] at e2
    cases e1
    cases e2
    exact ht
theorem sbs_snoc : ∀ (i : Nat) (gs : List G) (g : G) (a b : Nat), sbs i (gs ++ [g]) a b = sbs i gs a b ++ (match g a b with | some d => [(i + gs.length, d)] | none => [])
  | i, [], g, a, b => by
    simp only [List.nil_append, sbs, List.length_nil, Nat.add_zero]
    all_goals (cases g a b <;> rfl)
  | i, h :: r, g, a, b => by
    have ih := sbs_snoc (i + 1) r g a b
    simp only [List.cons_append, sbs, List.length_cons]
    rw [ih, show i + 1 + r.length = i + (r.length + 1) by omega]
    cases h a b <;> rfl
theorem sbs_le : ∀ (i : Nat) (gs : List G) (a b : Nat), (sbs i gs a b).length ≤ gs.length
  | _, [], _, _ => Nat.le_refl _
  | i, g :: r, a, b => by
    have ih := sbs_le (i + 1) r a b
    simp only [sbs]
    cases g a b <;> simp only [List.length_cons] <;> omega
theorem sbs_len (gs : List G) (k a b : Nat) : (sbs 0 (gs.take k) a b).length ≤ gs.length := by
  have h := sbs_le 0 (gs.take k) a b
  rw [List.length_take] at h
  omega
section
variable {P : Program} {w : World} {K : PySem.W.Frag} {mg : Str → Option Value} {base : Heap}
theorem rd3 {C x : Addr} {c a b i j lots : Nat} {g : G} {σ : L2.St} {H : Hp} {Q : VK} (B : BCls K mg C) (hB : BAt C H x lots g) (hc : σ[c]? = some (some (.ref x))) (ha : σ[a]? = some (some (.int (i : Nat)))) (hb : σ[b]? = some (some (.int (j : Nat))))
    (hi : i < lots + 2) (hj : j < lots + 2) (q : Q (ov (g i j)) H) : tOp (rIxT K) (tOp (rIxT K) (tFld K (tVar c) "far") (tVar a)) (tVar b) σ H Q := by
  obtain ⟨dx, p, h1, hg⟩ := hB
  obtain ⟨rs, r, g1, g2, g3, g4⟩ := hg.row hi
  exact ⟨_, hc, x, C, dx, _, _, rfl, h1, B.cl, B.nF, bf_far _ _, _, ha, p, _, _, _, rfl, rfl, SqT.of g1, atN g3, _, hb, r, _, _, _, rfl, rfl, SqT.of g4, atN (rowV_get hj), q⟩
def spBetw (C : Addr) : Sp := fun vs H Q _ => ∃ (a : Addr) (lots : Nat) (gs : List G) (i j : Nat), vs = [.ref a, .int i, .int j] ∧ CsAt C H a lots gs ∧ gs.length ≤ 100 ∧ i < lots + 2 ∧ j < lots + 2 ∧ ∀ D H', Same H H' → H D = none → PsAt H' D (sbs 0 gs i j) → Q (.ref D) H'
theorem scBetw : FnScope ["cells", "at", "to", "index", "cell"] ["cells", "at", "to"] (defScope sBetw) := ⟨rfl, rfl, rfl, by decide +kernel, rfl, by decide +kernel, by decide +kernel⟩
theorem ok_betw {f C : Addr} {fd : FuncData} (F : Fun K "steps_between" "steps_between" sBetw f fd) (B : BCls K mg C) (me : mg "enumerate" = none) : FnOk P w K mg base CX0 1 f fd ["cells", "at", "to"] (spBetw C) := by
  refine F.ok scBetw (fun vs H Q E ⟨a, l, gs, i, j, e, _⟩ => by rw [e]; rfl) (fun cdv A outer s H vs Q E hr ⟨a, lots, gs, i, j, e, hC, hz, hi, hj, q⟩ => ?_)
  subst e
  refine ⟨_, pss_one (ps_ret (pe_lc (own := [("index", 3), ("cell", 4)]) (g := gTup K 2 (gCons (gName 3) (gCons (gName 4) gNil))) rfl scBetw.nd (pi_enumT (by rfl) me (pa_cons (pv 0) pa_nil)) (blkOk_by (by kernel_rfl))
      (fun _ _ _ _ _ => pg_tupK K rfl (pgs_cons (pg_name (i := 3) scBetw.nd rfl (Or.inl rfl)) (pgs_cons (pg_name (i := 4) scBetw.nd rfl (Or.inl rfl)) pgs_nil)))
      (fun _ _ _ _ _ => pts_one (pt_cmpR op_notN (ixK K (ixK K (fldK K (pv 4) rfl) (pv 1) (fun _ _ => rfl)) (pv 2) (fun _ _ => rfl)) pe_non (nomark _)))
      (fun _ _ _ _ _ => pe_tup (pa_cons (pv 3) (pa_cons (ixK K (ixK K (fldK K (pv 4) rfl) (pv 1) (fun _ _ => rfl)) (pv 2) (fun _ _ => rfl)) pa_nil))))), ?_⟩
  obtain ⟨xs, h1, h2, h3⟩ := id hC
  refine ⟨_, rfl, a, _, rfl, SqT.of h1, fun D nD => ?_⟩
  refine lc_enumT (K := K) (a := a) (xs := xs.map V.ref) (fun k H' => Same H H' ∧ PsAt H' D (sbs 0 (gs.take k) i j)) ⟨same_new nD, [], upd_same, rfl, fun _ _ _ e => by simp at e⟩ (fun k H' ⟨s', _⟩ => SqT.of (s' _ _ h1)) ?_ ?_
  · rintro k y T H2 hk ⟨s2, hP⟩ nT
    obtain ⟨x, hx, rfl⟩ : ∃ x, xs[k]? = some x ∧ y = V.ref x := by
      rw [List.getElem?_map] at hk
      cases e : xs[k]? with
      | none => rw [e] at hk; cases hk
      | some x => rw [e] at hk; exact ⟨x, rfl, (Option.some.inj hk).symm⟩
    have hkl : k < gs.length := by
      rw [← h2]
      exact (List.getElem?_eq_some_iff.mp hx).1
    have hg : gs[k]? = some gs[k] := List.getElem?_eq_getElem hkl
    have sT : Same H2 (upd H2 T (.tup [.int (k : Nat), .ref x])) := same_new nT
    have hB : BAt C (upd H2 T (.tup [.int (k : Nat), .ref x])) x lots gs[k] := (h3 k x _ hx hg).same (s2.trans sT)
    have eS : sbs 0 (gs.take (k + 1)) i j = sbs 0 (gs.take k) i j ++ (match gs[k] i j with | some d => [(k, d)] | none => []) := by
      have e1 : gs.take (k + 1) = gs.take k ++ [gs[k]] := by rw [List.take_add_one, hg]; rfl
      rw [e1, sbs_snoc, List.length_take, Nat.min_eq_left (by omega), Nat.zero_add]
    obtain ⟨ts, t1, t2, t3⟩ := hP
    refine ⟨T, _, rfl, SqT.of upd_same, rfl, _, _, rfl, _, _, rfl, rfl, rfl, ?_⟩
    refine rd3 B hB (i := i) (j := j) rfl rfl rfl hi hj ?_
    refine ⟨rfl, _, rfl, ?_⟩
    rw [ov_none]
    cases e : gs[k] i j with
    | none =>
      rw [e] at eS
      refine iteF ⟨s2.trans sT, ?_⟩
      rw [eS, List.append_nil]
      exact ⟨ts, sT _ _ t1, t2, fun u v z e1 e2 => sT _ _ (t3 u v z e1 e2)⟩
    | some d =>
      rw [e] at eS
      refine iteT ⟨_, rfl, ?_⟩
      refine rd3 B hB (i := i) (j := j) rfl rfl rfl hi hj ⟨(by show 2 ≤ sizeLine; decide), fun t nt => ?_⟩
      rw [e]
      have sN := same_new (o := .tup [.int (k : Nat), ov (some d)]) nt
      have eD := sN _ _ (sT _ _ t1)
      have hlen : ts.length ≤ gs.length := by
        rw [t2]
        exact sbs_len gs k i j
      refine ⟨_, eD, small1000 (by rw [List.length_map]; omega), same_over ((s2.trans sT).trans sN) nD, ?_⟩
      rw [eS]
      refine PsAt.grow (t := t) t2 t3 (fun u o eu => ?_) ?_ (by rw [upd_same, List.map_append]; rfl)
      · rw [upd_ne (ne_of (sN _ _ (sT _ _ eu)) eD (fun z => nomatch z))]
        exact sN _ _ (sT _ _ eu)
      · rw [upd_ne (ne_of upd_same eD (fun z => nomatch z)), upd_same]
        rfl
  · rintro H2 ⟨s2, hP⟩
    rw [List.take_of_length_le (by rw [List.length_map, h2]; exact Nat.le_refl _)] at hP
    exact q D H2 s2 nD hP
end
end K9

namespace K9
open PySem PySem.Spec PyProof.Rows L2
/-- the least step so far -/
def BestAt (H : Hp) (v : V) : Option (Nat × Int) → Prop
  | none => v = .non
  | some x => ∃ t, v = .ref t ∧ H t = some (.tup [.int (x.1 : Int), .int x.2])
theorem BestAt.same {H H' : Hp} {v : V} {o : Option (Nat × Int)} (h : BestAt H v o) (s : Same H H') : BestAt H' v o := by
  cases o with
  | none => exact h
  | some x =>
    obtain ⟨t, e, h⟩ := h
    exact ⟨t, e, s _ _ h⟩
theorem CsAt.len1 {C a : Addr} {H : Hp} {lots : Nat} {gs : List G} (h : CsAt C H a lots gs) (hne : gs ≠ []) : ∃ (xs : List Addr) (x : Addr) (dx p : Addr), H a = some (.tup (xs.map V.ref)) ∧ (xs.map V.ref)[0]? = some (.ref x) ∧ H x = some (.ins C dx (bf lots p)) := by
  obtain ⟨xs, h1, h2, h3⟩ := h
  match gs, hne, h2, h3 with
  | g :: r, _, h2, h3 =>
    match xs, h1, h2, h3 with
    | x :: ys, h1, h2, h3 =>
      obtain ⟨dx, p, e, _⟩ := h3 0 x g rfl rfl
      exact ⟨_, x, dx, p, h1, rfl, e⟩
section
variable {P : Program} {w : World} {K : PySem.W.Frag} {mg : Str → Option Value} {base : Heap}
def spBest (C : Addr) : Sp := fun vs H Q _ => ∃ (a : Addr) (lots : Nat) (gs : List G) (i j : Nat), vs = [.ref a, .int i, .int j] ∧ CsAt C H a lots gs ∧ gs.length ≤ 100 ∧ i < lots + 2 ∧ j < lots + 2 ∧ ∀ v H', Same H H' → BestAt H' v (best gs i j) → Q v H'
theorem scBest : FnScope ["cells", "at", "to", "best", "index", "distance"] ["cells", "at", "to"] (defScope sBest) := ⟨rfl, rfl, rfl, by decide +kernel, rfl, by decide +kernel, by decide +kernel⟩
theorem ok_best {f C : Addr} {fd : FuncData} (F : Fun K "best_step" "best_step" sBest f fd) (hb : HasD P w K mg base CX0 1 "steps_between" (spBetw C)) : FnOk P w K mg base CX0 2 f fd ["cells", "at", "to"] (spBest C) := by
  refine F.ok scBest (fun vs H Q E ⟨a, l, gs, i, j, e, _⟩ => by rw [e]; rfl) (fun cdv A outer s H vs Q E hr ⟨a, lots, gs, i, j, e, hC, hz, hi, hj, q⟩ => ?_)
  subst e
  refine ⟨_, pss_cons (ps_set (i := 3) scBest.nd rfl (Or.inl rfl) pe_non)
    (pss_cons (ps_for PassesOwn.never rfl (pi_list (call_h hb hr (by rfl) pass0 (pa_cons (pv 0) (pa_cons (pv 1) (pa_cons (pv 2) pa_nil))))) (pg_tup rfl (pgs_cons (pg_name (i := 4) scBest.nd rfl (Or.inl rfl)) (pgs_cons (pg_name (i := 5) scBest.nd rfl (Or.inl rfl)) pgs_nil)))
      (pss_one (ps_if (PW.pt (pw_or (pt_cmpR op_isN (pv 3) pe_non (nomark _)) (pw_or1 (pt_cmpR op_lt (pv 5) (pe_ix ix_tup (pv 3) pe_int (fun _ _ => rfl)) (nomark _)))))
        (pss_one (ps_set (i := 3) scBest.nd rfl (Or.inl rfl) (pe_tup (pa_cons (pv 4) (pa_cons (pv 5) pa_nil))))) pss_nil)))
    (pss_one (ps_ret (pv 3)))), ?_⟩
  refine ⟨_, rfl, _, rfl, _, rfl, a, lots, gs, i, j, rfl, hC, hz, hi, hj, fun D H1 s1 nD hP => ?_⟩
  obtain ⟨ts, t1, t2, t3⟩ := hP
  refine ⟨D, rfl, ⟨_, SqL.of t1⟩, for_list (K := K) (a := D) (xs := ts.map V.ref) (fun k σ H2 => ∃ v v4 v5, σ = [some (.ref a), some (.int i), some (.int j), some v, v4, v5] ∧ Same H1 H2 ∧ BestAt H2 v (((sbs 0 gs i j).take k).foldl better none))
    ⟨.non, none, none, rfl, Same.refl _, rfl⟩ (fun k σ H2 _ ⟨_, _, _, _, s2, _⟩ => SqL.of (s2 _ _ t1)) ?_ ?_⟩
  · rintro k y σ H2 hk ⟨v, v4, v5, rfl, s2, hB⟩
    obtain ⟨t, ht, rfl⟩ : ∃ t, ts[k]? = some t ∧ y = V.ref t := by
      rw [List.getElem?_map] at hk
      cases e : ts[k]? with
      | none => rw [e] at hk; cases hk
      | some x => rw [e] at hk; exact ⟨x, rfl, (Option.some.inj hk).symm⟩
    have hkl : k < (sbs 0 gs i j).length := by
      rw [← t2]
      exact (List.getElem?_eq_some_iff.mp ht).1
    have hx : (sbs 0 gs i j)[k]? = some (sbs 0 gs i j)[k] := List.getElem?_eq_getElem hkl
    have e3 := s2 _ _ (t3 k t _ ht hx)
    have ef : ((sbs 0 gs i j).take (k + 1)).foldl better none = better (((sbs 0 gs i j).take k).foldl better none) (sbs 0 gs i j)[k] := by
      rw [List.take_add_one, hx, List.foldl_append]
      rfl
    refine ⟨t, _, rfl, SqT.of e3, rfl, _, _, rfl, _, _, rfl, rfl, ?_⟩
    generalize ((sbs 0 gs i j).take k).foldl better none = bo at hB ef
    generalize (sbs 0 gs i j)[k] = z at ef e3 hx
    refine ⟨_, rfl, rfl, _, rfl, ?_⟩
    cases bo with
    | none =>
      obtain rfl : v = .non := hB
      refine iteT (iteT ⟨_, rfl, _, rfl, (by show 2 ≤ sizeLine; decide), fun t2 nt2 => ⟨_, _, _, rfl, s2.trans (same_new nt2), ?_⟩⟩)
      rw [ef]
      exact ⟨t2, rfl, upd_same⟩
    | some b =>
      obtain ⟨tb, rfl, hb2⟩ := hB
      refine iteF ⟨_, rfl, _, rfl, tb, _, _, _, rfl, rfl, SqT.of hb2, atI_nat (j := 1) rfl, _, _, rfl, rfl, _, rfl, ?_⟩
      by_cases hlt : z.2 < b.2
      · rw [decide_eq_true hlt]
        refine iteT ⟨_, rfl, _, rfl, (by show 2 ≤ sizeLine; decide), fun t2 nt2 => ⟨_, _, _, rfl, s2.trans (same_new nt2), ?_⟩⟩
        rw [ef]
        simp only [better]
        rw [if_pos hlt]
        exact ⟨t2, rfl, upd_same⟩
      · rw [decide_eq_false hlt]
        refine iteF ⟨_, _, _, rfl, s2, ?_⟩
        rw [ef]
        simp only [better]
        rw [if_neg hlt]
        exact ⟨tb, rfl, hb2⟩
  · rintro σ H2 ⟨v, v4, v5, rfl, s2, hB⟩
    rw [List.take_of_length_le (by rw [List.length_map, t2]; exact Nat.le_refl _)] at hB
    exact ⟨_, rfl, q v H2 (s1.trans s2) hB⟩
end
end K9

namespace K9
open PySem PySem.Spec PyProof.Rows L2
/-! ### walks in a dict -/
def stepT (s : S4) : HO := .tup [.int s.c, .int s.a, .int s.b, .int s.d]
/-- steps behind addresses -/
def StQ (H : Hp) (qs : List Addr) (st : List S4) : Prop := qs.length = st.length ∧ ∀ (i : Nat) (q : Addr) (s : S4), qs[i]? = some q → st[i]? = some s → H q = some (stepT s)
theorem StQ.keep {H H' : Hp} {qs : List Addr} {st : List S4} (h : StQ H qs st) (hk : ∀ t xs, H t = some (.tup xs) → H' t = some (.tup xs)) : StQ H' qs st := ⟨h.1, fun i q s e1 e2 => hk _ _ (h.2 i q s e1 e2)⟩
theorem StQ.snoc {H : Hp} {qs : List Addr} {st : List S4} {q : Addr} {s : S4} (h : StQ H qs st) (hq : H q = some (stepT s)) : StQ H (qs ++ [q]) (st ++ [s]) := by
  refine ⟨by simp [h.1], fun i q' s' e1 e2 => ?_⟩
  by_cases hi : i < qs.length
  · rw [List.getElem?_append_left hi] at e1
    rw [List.getElem?_append_left (by have := h.1; omega)] at e2
    exact h.2 i q' s' e1 e2
  · rw [List.getElem?_append_right (by omega)] at e1
    rw [List.getElem?_append_right (by have := h.1; omega)] at e2
    have hz : i - qs.length = 0 := by
      have := (List.getElem?_eq_some_iff.mp e1).1
      simp at this
      omega
    rw [hz] at e1
    rw [show i - st.length = 0 by have := h.1; omega] at e2
    cases e1
    cases e2
    exact hq
/-- one entry: the key, its pair of a sum and a list of steps -/
def EnAt (H : Hp) (kv : Key × V) (e : En) : Prop := kv.1 = .inl (e.v : Int) ∧ ∃ (t l : Addr) (qs : List Addr), kv.2 = .ref t ∧ H t = some (.tup [.int e.tot, .ref l]) ∧ H l = some (.lst (qs.map V.ref)) ∧ StQ H qs e.st
def KvsAt (H : Hp) : List (Key × V) → List En → Prop
  | [], [] => True
  | kv :: r, e :: W => EnAt H kv e ∧ KvsAt H r W
  | _, _ => False
theorem EnAt.keep {H H' : Hp} {kv : Key × V} {e : En} (h : EnAt H kv e) (hk : ∀ t xs, H t = some (.tup xs) → H' t = some (.tup xs)) (hl : ∀ t xs, H t = some (.lst xs) → H' t = some (.lst xs)) : EnAt H' kv e := by
  obtain ⟨a, t, l, qs, b, c, d, f⟩ := h
  exact ⟨a, t, l, qs, b, hk _ _ c, hl _ _ d, f.keep hk⟩
theorem KvsAt.keep {H H' : Hp} (hk : ∀ t xs, H t = some (.tup xs) → H' t = some (.tup xs)) (hl : ∀ t xs, H t = some (.lst xs) → H' t = some (.lst xs)) : ∀ {kvs : List (Key × V)} {W : List En}, KvsAt H kvs W → KvsAt H' kvs W
  | [], [], _ => trivial
  | _ :: _, _ :: _, h => ⟨h.1.keep hk hl, KvsAt.keep hk hl h.2⟩
  | [], _ :: _, h => h.elim
  | _ :: _, [], h => h.elim
theorem KvsAt.len {H : Hp} : ∀ {kvs : List (Key × V)} {W : List En}, KvsAt H kvs W → kvs.length = W.length
  | [], [], _ => rfl
  | _ :: _, _ :: _, h => by rw [List.length_cons, List.length_cons, KvsAt.len h.2]
  | [], _ :: _, h => h.elim
  | _ :: _, [], h => h.elim
theorem KvsAt.at_ {H : Hp} : ∀ {kvs : List (Key × V)} {W : List En} {i : Nat} {k : Key} {v : V}, KvsAt H kvs W → kvs[i]? = some (k, v) → ∃ e, W[i]? = some e ∧ EnAt H (k, v) e
  | kv :: _, e :: _, 0, k, v, h, q => by
    obtain rfl := Option.some.inj q
    exact ⟨e, rfl, h.1⟩
  | _ :: _, _ :: _, i + 1, k, v, h, q => by
    obtain ⟨e, e1, e2⟩ := KvsAt.at_ (i := i) h.2 q
    exact ⟨e, e1, e2⟩
  | [], [], _, _, _, _, q => by simp at q
  | [], _ :: _, _, _, _, h, _ => h.elim
  | _ :: _, [], _, _, _, h, _ => h.elim
theorem inl_ne {a b : Nat} (h : a ≠ b) : ¬ (Sum.inl (a : Int) : Key) = Sum.inl (b : Int) := fun e => h (by have := Sum.inl.inj e; omega)
theorem KvsAt.get {H : Hp} (v : Nat) : ∀ {kvs : List (Key × V)} {W : List En}, KvsAt H kvs W →
    (getE W v = none → valV kvs (.inl (v : Int)) = none) ∧ ∀ e, getE W v = some e → ∃ y, valV kvs (.inl (v : Int)) = some y ∧ EnAt H (.inl (v : Int), y) e
  | [], [], _ => ⟨fun _ => rfl, fun e q => by cases q⟩
  | kv :: r, e :: W, h => by
    obtain ⟨h1, h2⟩ := h
    have ih := KvsAt.get v h2
    by_cases c : e.v = v
    · have ek : kv.1 = .inl (v : Int) := by rw [h1.1, c]
      have eg : getE (e :: W) v = some e := by simp only [getE]; rw [if_pos c]
      refine ⟨fun q => (by rw [eg] at q; cases q), fun e' q => ?_⟩
      rw [eg] at q
      obtain rfl := Option.some.inj q
      exact ⟨kv.2, valV_pos ek, by rw [← ek]; exact h1⟩
    · have ek : ¬ kv.1 = .inl (v : Int) := by rw [h1.1]; exact inl_ne c
      have eg : getE (e :: W) v = getE W v := by simp only [getE]; rw [if_neg c]
      rw [eg, valV_neg ek]
      exact ih
  | [], _ :: _, h => h.elim
  | _ :: _, [], h => h.elim
theorem map_none {k : Key} {y : V} : ∀ {kvs : List (Key × V)}, (∀ kv ∈ kvs, ¬ kv.1 = k) → kvs.map (fun kv => if kv.1 = k then (kv.1, y) else kv) = kvs
  | [], _ => rfl
  | kv :: r, h => by
    rw [List.map_cons, if_neg (h kv (List.mem_cons_self ..)), map_none fun z hz => h z (List.mem_cons_of_mem _ hz)]
theorem putK_cons_ne {kv : Key × V} {r : List (Key × V)} {k : Key} {y : V} (h : ¬ kv.1 = k) : putK (kv :: r) k y = kv :: putK r k y := by
  unfold putK
  rw [List.any_cons, decide_eq_false h, Bool.false_or]
  split
  · rw [List.map_cons, if_neg h]
  · rfl
theorem KvsAt.keys {H : Hp} : ∀ {kvs : List (Key × V)} {W : List En}, KvsAt H kvs W → ∀ kv ∈ kvs, ∃ e ∈ W, kv.1 = .inl (e.v : Int)
  | [], [], _, _, hk => by cases hk
  | kv :: r, e :: W, h, x, hx => by
    rcases List.mem_cons.mp hx with rfl | hx
    · exact ⟨e, List.mem_cons_self .., h.1.1⟩
    · obtain ⟨e', m, q⟩ := KvsAt.keys h.2 x hx
      exact ⟨e', List.mem_cons_of_mem _ m, q⟩
  | [], _ :: _, h, _, _ => h.elim
  | _ :: _, [], h, _, _ => h.elim
theorem KvsAt.put {H : Hp} {e : En} {y : V} (he : EnAt H (.inl (e.v : Int), y) e) : ∀ {kvs : List (Key × V)} {W : List En}, (W.map (·.v)).Nodup → KvsAt H kvs W → KvsAt H (putK kvs (.inl (e.v : Int)) y) (putE W e)
  | [], [], _, _ => ⟨he, trivial⟩
  | kv :: r, x :: W, hn, h => by
    obtain ⟨h1, h2⟩ := h
    rw [List.map_cons, List.nodup_cons] at hn
    simp only [putE]
    by_cases c : x.v = e.v
    · rw [if_pos c]
      have ek : kv.1 = .inl (e.v : Int) := by rw [h1.1, c]
      have e2 : putK (kv :: r) (.inl (e.v : Int)) y = (.inl (e.v : Int), y) :: r := by
        unfold putK
        rw [List.any_cons, decide_eq_true ek, Bool.true_or, if_pos rfl, List.map_cons, if_pos ek, ek]
        congr 1
        refine map_none fun z hz => ?_
        obtain ⟨e', m, q⟩ := h2.keys z hz
        rw [q]
        refine inl_ne fun q2 => hn.1 ?_
        rw [c, ← q2]
        exact List.mem_map_of_mem m
      rw [e2]
      exact ⟨he, h2⟩
    · rw [if_neg c]
      have ek : ¬ kv.1 = .inl (e.v : Int) := by rw [h1.1]; exact inl_ne c
      rw [putK_cons_ne ek]
      exact ⟨h1, KvsAt.put he hn.2 h2⟩
  | [], _ :: _, _, h => h.elim
  | _ :: _, [], _, h => h.elim
end K9

namespace K9
open PySem PySem.Spec PyProof.Rows L2
/-- all but what stands at d is as it was -/
def SX (d : Addr) (H H' : Hp) : Prop := ∀ b o, H b = some o → b ≠ d → H' b = some o
theorem SX.same {d : Addr} {H H1 H2 : Hp} (a : SX d H H1) (s : Same H1 H2) : SX d H H2 := fun b o e h => s _ _ (a b o e h)
theorem GridAt.keep {H H' : Hp} {p : Addr} {n : Nat} {g : G} (h : GridAt H p n g) (hk : ∀ t xs, H t = some (.tup xs) → H' t = some (.tup xs)) : GridAt H' p n g := by
  obtain ⟨rs, a, b, c⟩ := h
  exact ⟨rs, hk _ _ a, b, fun i r e => hk _ _ (c i r e)⟩
theorem CsAt.keep {C a : Addr} {H H' : Hp} {lots : Nat} {gs : List G} (h : CsAt C H a lots gs) (hk : ∀ t xs, H t = some (.tup xs) → H' t = some (.tup xs)) (hi : ∀ t D dx fs, H t = some (.ins D dx fs) → H' t = some (.ins D dx fs)) : CsAt C H' a lots gs := by
  obtain ⟨xs, e1, e2, e3⟩ := h
  refine ⟨xs, hk _ _ e1, e2, fun i x g h1 h2 => ?_⟩
  obtain ⟨dx, p, a, b⟩ := e3 i x g h1 h2
  exact ⟨dx, p, hi _ _ _ _ a, b.keep hk⟩
section
variable {d : Addr} {H H' : Hp} {kvs : List (Key × V)}
theorem SX.tup (s : SX d H H') (hd : H d = some (.dK kvs)) : ∀ t xs, H t = some (.tup xs) → H' t = some (.tup xs) := fun t xs e => s t _ e (ne_of e hd (fun z => nomatch z))
theorem SX.lst (s : SX d H H') (hd : H d = some (.dK kvs)) : ∀ t xs, H t = some (.lst xs) → H' t = some (.lst xs) := fun t xs e => s t _ e (ne_of e hd (fun z => nomatch z))
theorem SX.ins (s : SX d H H') (hd : H d = some (.dK kvs)) : ∀ t D dx fs, H t = some (.ins D dx fs) → H' t = some (.ins D dx fs) := fun t D dx fs e => s t _ e (ne_of e hd (fun z => nomatch z))
end
theorem Acc.size {gs : List G} {n k u : Nat} {acc : List En} (h : Acc gs n k u acc) : acc.length ≤ n := by
  have := nodup_le n (acc.map (·.v)) h.nd fun v hv => by
    obtain ⟨e, he, rfl⟩ := List.mem_map.mp hv
    exact (h.ok e he).lt
  rw [List.length_map] at this
  exact this
section
variable {P : Program} {w : World} {K : PySem.W.Frag} {mg : Str → Option Value} {base : Heap}
theorem rd_put {a d fdx tS : Addr} {v j : Nat} {total : Int} {x : Nat × Int} {od : Obj} {kvs kvs' : List (Key × V)} {y : V} {e : En} {H : Hp} {D : Ends} (hd : H d = some (.frz od (.dK kvs))) (hy : valV kvs (.inl (v : Int)) = some y) (he : EnAt H (.inl (v : Int), y) e)
    (hS : H tS = some (.tup [.int (x.1 : Int), .int x.2])) (hf : H fdx = some (.dK kvs')) (hl : kvs'.length < sizeLine) (hst : e.st.length ≤ 200)
    (h : ∀ H' t', (∀ b o, H b = some o → b ≠ fdx → H' b = some o) → H' fdx = some (.dK (putK kvs' (.inl (j : Int)) (.ref t'))) → EnAt H' (.inl (j : Int), .ref t') ⟨j, total, e.st ++ [⟨(x.1 : Int), (v : Int), (j : Int), x.2⟩]⟩ →
      D.nx [some (.ref a), some (.ref d), some (.ref fdx), some (.int (v : Int)), some (.int (j : Int)), some (.ref tS), some (.int total)] H') :
    sDPut (tVar 2) (tVar 4) (tTup (tCons (tVar 6) (tCons (tLst (StX.tStar K (tOp (rIxT K) (tDGet (tVar 1) (tVar 3)) (tC (.int 1))) (tCons (tTup (tCons (tOp (rIxT K) (tVar 5) (tC (.int 0))) (tCons (tVar 3) (tCons (tVar 4) (tCons (tOp (rIxT K) (tVar 5) (tC (.int 1))) tNil))))) tNil))) tNil))) D
      [some (.ref a), some (.ref d), some (.ref fdx), some (.int (v : Int)), some (.int (j : Int)), some (.ref tS), some (.int total)] H := by
  obtain ⟨_, t, l, qs, rfl, ht, hlq, hq⟩ := he
  refine ⟨_, rfl, _, rfl, _, rfl, d, _, rfl, .inl ⟨kvs, .inl (v : Int), .inr ⟨od, hd⟩, rfl, hy.symm⟩, t, _, _, _, rfl, rfl, SqT.of ht, atI_nat (j := 1) rfl, l, _, rfl, .inr (SqL.of hlq), ?_⟩
  refine ⟨_, rfl, tS, _, _, _, rfl, rfl, SqT.of hS, atI_nat (j := 0) rfl, _, rfl, _, rfl, _, rfl, tS, _, _, _, rfl, rfl, SqT.of hS, atI_nat (j := 1) rfl, (by show 4 ≤ sizeLine; decide), fun q nq => ?_⟩
  have sq : Same H (upd H q (stepT ⟨(x.1 : Int), (v : Int), (j : Int), x.2⟩)) := same_new nq
  have lenq := hq.1
  refine ⟨?_, fun l2 nl2 => ?_⟩
  · rw [List.length_append, List.length_map]
    exact Nat.le_of_lt (small1000 (by
      show qs.length + 1 ≤ 1000
      omega))
  have s2 : Same (upd H q (stepT ⟨(x.1 : Int), (v : Int), (j : Int), x.2⟩)) (upd (upd H q (stepT ⟨(x.1 : Int), (v : Int), (j : Int), x.2⟩)) l2 (.lst (qs.map V.ref ++ [.ref q]))) := same_new nl2
  refine ⟨(by show 2 ≤ sizeLine; decide), fun t2 nt2 => ?_⟩
  have s3 := same_new (o := .tup [.int total, .ref l2]) nt2
  have s13 := (sq.trans s2).trans s3
  have hf3 := s13 _ _ hf
  refine ⟨_, rfl, _, rfl, fdx, _, rfl, DPut.k (k := .inl (j : Int)) hf3 hl, ?_⟩
  have n1 : t2 ≠ fdx := ne_of upd_same hf3 (fun z => nomatch z)
  have n2 : l2 ≠ fdx := ne_of (s3 _ _ upd_same) hf3 (fun z => nomatch z)
  have n3 : q ≠ fdx := ne_of (s3 _ _ (s2 _ _ upd_same)) hf3 (fun z => by unfold stepT at z; cases z)
  refine h _ t2 (fun b o e hb => by rw [upd_ne hb]; exact s13 _ _ e) upd_same ⟨rfl, t2, l2, qs ++ [q], rfl, ?_, ?_, ?_⟩
  · rw [upd_ne n1, upd_same]
  · rw [upd_ne n2, s3 _ _ upd_same, List.map_append]
    rfl
  · refine StQ.snoc (hq.keep fun z xs ez => ?_) ?_
    · rw [upd_ne (ne_of (s13 _ _ ez) hf3 (fun z => nomatch z))]
      exact s13 _ _ ez
    · rw [upd_ne n3]
      exact s3 _ _ (s2 _ _ upd_same)
def spLonger (C : Addr) : Sp := fun vs H Q _ => ∃ (a d : Addr) (lots k u : Nat) (gs : List G) (kvs : List (Key × V)) (W : List En), vs = [.ref a, .ref d] ∧ CsAt C H a lots gs ∧ gs ≠ [] ∧ gs.length ≤ 100 ∧ lots ≤ 100 ∧ k ≤ 100 ∧ H d = some (.dK kvs) ∧ KvsAt H kvs W ∧ WOK gs (lots + 2) k u W ∧
  ∀ fd H' kvs', Same H H' → H fd = none → H' fd = some (.dK kvs') → KvsAt H' kvs' (longer gs (lots + 2) W) → Q (.ref fd) H'
theorem scLonger : FnScope ["cells", "walks", "found", "at", "to", "step", "total"] ["cells", "walks"] (defScope sLonger) := ⟨rfl, rfl, rfl, by decide +kernel, rfl, by decide +kernel, by decide +kernel⟩
theorem ok_longer {f C : Addr} {fd : FuncData} (F : Fun K "longer_walks" "longer_walks" sLonger f fd) (B : BCls K mg C) (hb : HasD P w K mg base CX0 2 "best_step" (spBest C)) (hp : HasD P w K mg base CX0 1 "plus" spPlus) (mr : mg "range" = none) :
    FnOk P w K mg base CX0 3 f fd ["cells", "walks"] (spLonger C) := by
  refine F.ok scLonger (fun vs H Q E ⟨a, d, l, k, u, gs, kvs, W, e, _⟩ => by rw [e]; rfl) (fun cdv A outer s H vs Q E hr ⟨a, d, lots, k, u, gs, kvs, W, e, hC, hne, hz, hl, hk, hd, hW, ok, q⟩ => ?_)
  subst e
  have hu := hu_of hr
  have hr1 : Room 1 _ := hr.mono (by decide)
  refine ⟨_, pss_cons (ps_set (i := 2) scLonger.nd rfl (Or.inl rfl) pe_dnewK)
    (pss_cons (ps_lock (ps_for PassesOwn.never rfl (pi_keys (pv 1)) (pg_name (i := 3) scLonger.nd rfl (Or.inl rfl))
      (pss_one (ps_for PassesOwn.never rfl (pi_range1 (by rfl) mr (pa_cons (pe_op op_add (pe_fld (pe_ix ix_tup (pv 0) pe_int (fun _ _ => rfl)) rfl) pe_int) pa_nil)) (pg_name (i := 4) scLonger.nd rfl (Or.inl rfl))
        (pss_cons (ps_set (i := 5) scLonger.nd rfl (Or.inl rfl) (call_h hb hr (by rfl) pass0 (pa_cons (pv 0) (pa_cons (pv 3) (pa_cons (pv 4) pa_nil)))))
        (pss_one (ps_if (PW.pt (pw_and (pt_cmpR op_notN (pv 5) pe_non (nomark _)) (pw_and1 (pt_cmpR op_ne (pv 3) (pv 4) (nomark _)))))
          (pss_cons (ps_set (i := 6) scLonger.nd rfl (Or.inl rfl) (call_h hp hr1 (by rfl) pass0 (pa_cons (pe_ix ix_tup (pe_dget hu (pv 1) (pv 3) (fun _ _ => rfl)) pe_int (fun _ _ => rfl)) (pa_cons (pe_ix ix_tup (pv 5) pe_int (fun _ _ => rfl)) pa_nil))))
          (pss_one (ps_if (PW.pt (pw_or (pt_cmp (pc_dnotin hu (pv 4) (pv 2))) (pw_or1 (pt_cmpR op_lt (pv 6) (pe_ix ix_tup (pe_dget hu (pv 2) (pv 4) (fun _ _ => rfl)) pe_int (fun _ _ => rfl)) (nomark _)))))
            (pss_one (ps_dput hu (pv 2) (pv 4) (pe_tup (pa_cons (pv 6) (pa_cons (pe_lst (StX.pa_star (pe_ix ix_tup (pe_dget hu (pv 1) (pv 3) (fun _ _ => rfl)) pe_int (fun _ _ => rfl)) (pa_cons (pe_tup (pa_cons (pe_ix ix_tup (pv 5) pe_int (fun _ _ => rfl)) (pa_cons (pv 3) (pa_cons (pv 4) (pa_cons (pe_ix ix_tup (pv 5) pe_int (fun _ _ => rfl)) pa_nil))))) pa_nil))) pa_nil))) rfl)) pss_nil)))
          pss_nil)))))))
    (pss_one (ps_ret (pv 2)))), ?_⟩
  intro fdx nf
  have ndf : d ≠ fdx := ne_of_none hd nf
  refine ⟨d, .dK kvs, ?_, trivial, fun od => ?_⟩
  · rw [upd_ne ndf]
    exact hd
  have eL : (upd (upd H fdx (.dK [])) d (.frz od (.dK kvs))) d = some (.frz od (.dK kvs)) := upd_same
  have eF : (upd (upd H fdx (.dK [])) d (.frz od (.dK kvs))) fdx = some (.dK []) := by
    rw [upd_ne ndf.symm, upd_same]
  have sx0 : SX d H (upd (upd H fdx (.dK [])) d (.frz od (.dK kvs))) := fun b o e hb => by
    rw [upd_ne hb, upd_ne (ne_of_none e nf)]
    exact e
  refine ⟨_, rfl, d, od, rfl, .inl ⟨kvs, eL, ?_⟩⟩
  refine for_it walk_keys (fun m σ H' => ∃ v3 v4 v5 v6 kvs', σ = [some (.ref a), some (.ref d), some (.ref fdx), v3, v4, v5, v6] ∧ SX d H H' ∧ H' d = some (.frz od (.dK kvs)) ∧ H' fdx = some (.dK kvs') ∧
      KvsAt H' kvs' ((W.take m).foldl (relaxAll gs (lots + 2)) []) ∧ Acc gs (lots + 2) k u ((W.take m).foldl (relaxAll gs (lots + 2)) [])) ⟨none, none, none, none, [], rfl, sx0, eL, eF, trivial, ⟨List.nodup_nil, fun e he => by cases he⟩⟩ (fun m σ H' _ ⟨_, _, _, _, _, _, _, e, _⟩ => e) ?_ ?_
  · rintro m y σ H1 H2 hm ⟨v3, v4, v5, v6, kvs', rfl, sx, el, ef, hA, hAcc⟩ ⟨rfl, key, val, hkey, rfl⟩
    obtain ⟨e, hWm, hEn⟩ := hW.at_ hkey
    have ekey : key = .inl (e.v : Int) := hEn.1
    subst ekey
    have heW : e ∈ W := List.mem_of_getElem? hWm
    have heOk := ok.ok e heW
    have hC1 := hC.keep (sx.tup hd) (sx.ins hd)
    obtain ⟨xs, x0, dx0, p0, g1, g2, g3⟩ := hC1.len1 hne
    refine ⟨_, rfl, a, _, _, _, rfl, rfl, SqT.of g1, atI_nat (j := 0) g2, x0, C, dx0, _, _, rfl, g3, B.cl, B.nL, bf_lots _ _, _, _, rfl, rfl, _, rfl, by omega, by omega, ?_⟩
    rw [show ((lots : Int) + 2).toNat = lots + 2 by omega]
    have eA : (W.take (m + 1)).foldl (relaxAll gs (lots + 2)) [] = (List.range (lots + 2)).foldl (relax gs e) ((W.take m).foldl (relaxAll gs (lots + 2)) []) := by
      rw [List.take_add_one, hWm, List.foldl_append]
      rfl
    rw [eA]
    generalize (W.take m).foldl (relaxAll gs (lots + 2)) [] = acc0 at hA hAcc ⊢
    have hacc : ∀ j, j ≤ lots + 2 → Acc gs (lots + 2) k u ((List.range j).foldl (relax gs e) acc0) := fun j hj => (relaxL heOk (List.range j) acc0 (fun t ht => Nat.lt_of_lt_of_le (List.mem_range.mp ht) hj) hAcc).1
    refine for_range (lo := 0) (n := lots + 2) (fun j σ H' => ∃ v4 v5 v6 kvs', σ = [some (.ref a), some (.ref d), some (.ref fdx), some (.int (e.v : Int)), v4, v5, v6] ∧ SX d H H' ∧ H' d = some (.frz od (.dK kvs)) ∧ H' fdx = some (.dK kvs') ∧
      KvsAt H' kvs' ((List.range j).foldl (relax gs e) acc0)) ⟨v4, v5, v6, kvs', rfl, sx, el, ef, hA⟩ ?_ ?_
    · rintro j σ H2 hj ⟨v4, v5, v6, kvs2, rfl, sx2, el2, ef2, hA2⟩
      rw [Int.zero_add]
      have hAj := hacc j (Nat.le_of_lt hj)
      have eR : (List.range (j + 1)).foldl (relax gs e) acc0 = relax gs e ((List.range j).foldl (relax gs e) acc0) j := by
        rw [List.range_succ, List.foldl_append]
        rfl
      rw [eR]
      generalize (List.range j).foldl (relax gs e) acc0 = acc at hA2 hAj ⊢
      refine ⟨_, rfl, _, rfl, _, rfl, a, lots, gs, e.v, j, rfl, hC.keep (sx2.tup hd) (sx2.ins hd), hz, heOk.lt, hj, fun v H3 s3 hB => ?_⟩
      have sx3 := sx2.same s3
      have el3 := s3 _ _ el2
      have ef3 := s3 _ _ ef2
      have hA3 : KvsAt H3 kvs2 acc := hA2.keep (fun t xs => s3 _ _) (fun t xs => s3 _ _)
      have hW3 : KvsAt H3 kvs W := hW.keep (sx3.tup hd) (sx3.lst hd)
      obtain ⟨yv, hyv, hEy⟩ := (hW3.get e.v).2 e (getE_of ok.nd heW)
      refine ⟨_, rfl, rfl, _, rfl, ?_⟩
      cases hbest : best gs e.v j with
      | none =>
        rw [hbest] at hB
        obtain rfl : v = .non := hB
        have er : relax gs e acc j = acc := by
          unfold relax
          rw [hbest]
        rw [er]
        exact iteF (iteF ⟨_, _, _, _, rfl, sx3, el3, ef3, hA3⟩)
      | some x =>
        rw [hbest] at hB
        obtain ⟨tS, rfl, hS⟩ := hB
        refine iteT ⟨_, rfl, _, rfl, rfl, _, rfl, ?_⟩
        by_cases hne2 : e.v = j
        · have er : relax gs e acc j = acc := by
            unfold relax
            rw [hbest]
            simp only [if_pos hne2]
          rw [er, decide_eq_true (show V.int (e.v : Int) = V.int (j : Int) by rw [hne2])]
          exact iteF ⟨_, _, _, _, rfl, sx3, el3, ef3, hA3⟩
        · rw [decide_eq_false (show ¬ V.int (e.v : Int) = V.int (j : Int) from fun z => hne2 (by have := V.int.inj z; omega))]
          obtain ⟨_, tE, lE, qsE, rfl, htE, hlE, hqE⟩ := id hEy
          refine iteT ⟨_, rfl, _, rfl, d, _, rfl, .inl ⟨kvs, .inl (e.v : Int), .inr ⟨od, el3⟩, rfl, hyv.symm⟩, tE, _, _, _, rfl, rfl, SqT.of htE, atI_nat (j := 0) rfl, _, rfl, tS, _, _, _, rfl, rfl, SqT.of hS, atI_nat (j := 1) rfl, some e.tot, some x.2, rfl, ?_⟩
          have hlen2 : kvs2.length < sizeLine := small1000 (by
            rw [hA3.len]
            have := hAj.size
            omega)
          have hput : ∀ (D : Ends), (∀ H', SX d H H' → H' d = some (.frz od (.dK kvs)) → (∃ kvs', H' fdx = some (.dK kvs') ∧ KvsAt H' kvs' (putE acc ⟨j, e.tot + x.2, e.st ++ [⟨(x.1 : Int), (e.v : Int), (j : Int), x.2⟩]⟩)) →
              D.nx [some (.ref a), some (.ref d), some (.ref fdx), some (.int (e.v : Int)), some (.int (j : Int)), some (.ref tS), some (.int (e.tot + x.2))] H') →
              sDPut (tVar 2) (tVar 4) (tTup (tCons (tVar 6) (tCons (tLst (StX.tStar K (tOp (rIxT K) (tDGet (tVar 1) (tVar 3)) (tC (.int 1))) (tCons (tTup (tCons (tOp (rIxT K) (tVar 5) (tC (.int 0))) (tCons (tVar 3) (tCons (tVar 4) (tCons (tOp (rIxT K) (tVar 5) (tC (.int 1))) tNil))))) tNil))) tNil))) D
                [some (.ref a), some (.ref d), some (.ref fdx), some (.int (e.v : Int)), some (.int (j : Int)), some (.ref tS), some (.int (e.tot + x.2))] H3 := fun D hD => by
            refine rd_put (od := od) (kvs := kvs) (kvs' := kvs2) el3 hyv hEy hS ef3 hlen2 (by rw [heOk.len]; omega) fun H' t' keep ef' en' => hD H' ?_ ?_ ⟨_, ef', ?_⟩
            · exact fun b o eb hb => keep b o (sx3 b o eb hb) (ne_of_none eb nf)
            · exact keep _ _ el3 ndf
            · refine KvsAt.put (e := ⟨j, e.tot + x.2, e.st ++ [⟨(x.1 : Int), (e.v : Int), (j : Int), x.2⟩]⟩) (y := .ref t') en' hAj.nd (hA3.keep (fun t xs et => keep _ _ et (ne_of et ef3 (fun z => nomatch z))) (fun t xs et => keep _ _ et (ne_of et ef3 (fun z => nomatch z))))
          have hfin : ∀ H', SX d H H' → H' d = some (.frz od (.dK kvs)) → (∃ kvs', H' fdx = some (.dK kvs') ∧ KvsAt H' kvs' (putE acc ⟨j, e.tot + x.2, e.st ++ [⟨(x.1 : Int), (e.v : Int), (j : Int), x.2⟩]⟩)) → relax gs e acc j = putE acc ⟨j, e.tot + x.2, e.st ++ [⟨(x.1 : Int), (e.v : Int), (j : Int), x.2⟩]⟩ →
              ∃ v4 v5 v6 kvs', ([some (.ref a), some (.ref d), some (.ref fdx), some (.int (e.v : Int)), some (.int (j : Int)), some (.ref tS), some (.int (e.tot + x.2))] : L2.St) = [some (.ref a), some (.ref d), some (.ref fdx), some (.int (e.v : Int)), v4, v5, v6] ∧ SX d H H' ∧ H' d = some (.frz od (.dK kvs)) ∧ H' fdx = some (.dK kvs') ∧ KvsAt H' kvs' (relax gs e acc j) := fun H' a1 a2 ⟨kv, a3, a4⟩ a5 => by
            rw [a5]
            exact ⟨_, _, _, kv, rfl, a1, a2, a3, a4⟩
          refine ⟨_, rfl, _, rfl, fdx, valV kvs2 (.inl (j : Int)), rfl, .inl ⟨kvs2, .inl (j : Int), .inl ef3, rfl, rfl⟩, _, rfl, ?_⟩
          cases hg : getE acc j with
          | none =>
            have er : relax gs e acc j = putE acc ⟨j, e.tot + x.2, e.st ++ [⟨(x.1 : Int), (e.v : Int), (j : Int), x.2⟩]⟩ := by
              unfold relax
              rw [hbest]
              simp only [if_neg hne2, hg]
            rw [(hA3.get j).1 hg]
            exact iteT (iteT (hput _ fun H' a1 a2 a3 => hfin H' a1 a2 a3 er))
          | some e2 =>
            obtain ⟨y2, hy2, hE2⟩ := (hA3.get j).2 e2 hg
            rw [hy2]
            obtain ⟨_, t2, l2, qs2, rfl, ht2, _, _⟩ := id hE2
            refine iteF ⟨_, rfl, _, rfl, _, rfl, fdx, _, rfl, .inl ⟨kvs2, .inl (j : Int), .inl ef3, rfl, hy2.symm⟩, t2, _, _, _, rfl, rfl, SqT.of ht2, atI_nat (j := 0) rfl, _, _, rfl, rfl, _, rfl, ?_⟩
            by_cases hlt : e.tot + x.2 < e2.tot
            · have er : relax gs e acc j = putE acc ⟨j, e.tot + x.2, e.st ++ [⟨(x.1 : Int), (e.v : Int), (j : Int), x.2⟩]⟩ := by
                unfold relax
                rw [hbest]
                simp only [if_neg hne2, hg, if_pos hlt]
              rw [decide_eq_true hlt]
              exact iteT (hput _ fun H' a1 a2 a3 => hfin H' a1 a2 a3 er)
            · have er : relax gs e acc j = acc := by
                unfold relax
                rw [hbest]
                simp only [if_neg hne2, hg, if_neg hlt]
              rw [decide_eq_false hlt, er]
              exact iteF ⟨_, _, _, _, rfl, sx3, el3, ef3, hA3⟩
    · rintro σ H2 ⟨v4, v5, v6, kvs2, rfl, sx2, el2, ef2, hA2⟩
      exact ⟨_, v4, v5, v6, kvs2, rfl, sx2, el2, ef2, hA2, hacc _ (Nat.le_refl _)⟩
  · rintro σ H2 ⟨v3, v4, v5, v6, kvs2, rfl, sx2, el2, ef2, hA2, hAcc⟩
    rw [List.take_of_length_le (by rw [hW.len]; exact Nat.le_refl _)] at hA2
    refine ⟨el2, _, rfl, q fdx _ kvs2 (fun b o e => ?_) nf ?_ (hA2.keep (fun t xs et => ?_) (fun t xs et => ?_))⟩
    · by_cases hb : b = d
      · subst hb
        rw [upd_same, ← hd, e]
      · rw [upd_ne hb]
        exact sx2 b o e hb
    · rw [upd_ne ndf.symm]
      exact ef2
    · rw [upd_ne (ne_of et el2 (fun z => nomatch z))]
      exact et
    · rw [upd_ne (ne_of et el2 (fun z => nomatch z))]
      exact et
end
end K9

namespace K9
open PySem PySem.Spec PyProof.Rows L2
/-- what is asked of the error's class as the top has made it -/
structure ECls (K : PySem.W.Frag) (mg : Str → Option Value) (OC : Addr) : Prop where
  x : PySem.W.excIn K OC [.type "ValueError", .type "Exception", .type "BaseException", .type "object"] "ValueError.__new__" = true
  g : mg "OtherCount" = some (.ref OC)
  k : PySem.W.keepIn K (.ref OC) = true
  b : PySem.W.subIn K (.ref OC) (.type "BaseException") = some true
  t : PySem.W.typeIn K (.ref OC) = some (.type "type")
/-- what closing hands back -/
def ClRes (H : Hp) (v : V) (gs : List G) (n : Nat) : Prop := (v = .non ∧ NoCl gs n) ∨ ∃ (t : Addr) (qs : List Addr) (st : List S4) (u : Nat), v = .ref t ∧ H t = some (.tup (qs.map V.ref)) ∧ StQ H qs st ∧ Good gs n u st
section
variable {P : Program} {w : World} {K : PySem.W.Frag} {mg : Str → Option Value} {base : Heap}
def spClosingB (C OC : Addr) : Sp := fun vs H Q E => ∃ a : Addr, vs = [.ref a] ∧
  ((∃ (lots : Nat) (gs : List G), CsAt C H a lots gs ∧ gs ≠ [] ∧ gs.length ≤ 100 ∧ lots ≤ 90 ∧ (∀ g ∈ gs, DS (lots + 2) g) ∧ ∀ v H', Same H H' → ClRes H' v gs (lots + 2) → Q v H') ∨
   (∃ (x0 x1 dx0 dx1 p0 p1 : Addr) (l0 l1 : Nat), H a = some (.tup [.ref x0, .ref x1]) ∧ H x0 = some (.ins C dx0 (bf l0 p0)) ∧ H x1 = some (.ins C dx1 (bf l1 p1)) ∧ l0 ≠ l1 ∧ ∀ H', E (.ref OC) none H'))
theorem scClosing : FnScope ["cells", "cell", "start", "cell_index", "walks", "_"] ["cells"] (defScope sClosing) := ⟨rfl, rfl, rfl, by decide +kernel, rfl, by decide +kernel, by decide +kernel⟩
theorem body_closing {f C OC : Addr} {k : Nat} {cdv : Value} {A : Around} {outer : List Env} {s : Shared} {H : Hp} {vs : List V} {Q : VK} {E : XK} (B : BCls K mg C) (T : ECls K mg OC) (hL : HasD P w K mg base CX0 3 "longer_walks" (spLonger C)) (mr : mg "range" = none) (mt : mg "tuple" = none) (me : mg "enumerate" = none)
    (hr : Room 3 (A.deeper (envOfC "closing" (defScope sClosing) s.heap.objs.size f cdv))) (h : spClosingB C OC vs H Q E) :
    ∃ t, PSs (cxOf (L2.CX P w) P w K mg base ["cells", "cell", "start", "cell_index", "walks", "_"] "closing" (defScope sClosing) f cdv A outer s H E) (defBody sClosing) t ∧ t { nx := fun _ H' => Q .non H', rt := Q } (start ["cells", "cell", "start", "cell_index", "walks", "_"] vs) H := by
  obtain ⟨a, rfl, h⟩ := h
  have hu := hu_of hr
  refine ⟨_, pss_cons (ps_for (passes_of rfl) rfl (pi_tup (pv 0)) (pg_name (i := 1) scClosing.nd rfl (Or.inl rfl))
      (pss_one (ps_if (pt_cmpR op_ne (pe_fld (pv 1) rfl) (pe_fld (pe_ix ix_tup (pv 0) pe_int (fun _ _ => rfl)) rfl) (nomark _)) (pss_one (ps_raise rfl (takes_of rfl rfl rfl rfl) (pmk_own PySem.F.excBase_ValueError T.x T.g T.k (raises_own T.b T.t) rfl))) pss_nil)))
    (PSs.nox (pss_cons (ps_for PassesOwn.never rfl (pi_range1 (by rfl) mr (pa_cons (pe_op op_add (pe_fld (pe_ix ix_tup (pv 0) pe_int (fun _ _ => rfl)) rfl) pe_int) pa_nil)) (pg_name (i := 2) scClosing.nd rfl (Or.inl rfl))
        (pss_cons (ps_for PassesOwn.never rfl (pi_enumT (by rfl) me (pa_cons (pv 0) pa_nil)) (pg_tup rfl (pgs_cons (pg_name (i := 3) scClosing.nd rfl (Or.inl rfl)) (pgs_cons (pg_name (i := 1) scClosing.nd rfl (Or.inl rfl)) pgs_nil)))
          (pss_one (ps_if (pt_cmpR op_lt (pe_ix ix_tup (pe_ix ix_tup (pe_fld (pv 1) rfl) (pv 2) (fun _ _ => rfl)) (pv 2) (fun _ _ => rfl)) pe_int (nomark _))
            (pss_one (ps_ret (pe_tup (pa_cons (pe_tup (pa_cons (pv 3) (pa_cons (pv 2) (pa_cons (pv 2) (pa_cons (pe_ix ix_tup (pe_ix ix_tup (pe_fld (pv 1) rfl) (pv 2) (fun _ _ => rfl)) (pv 2) (fun _ _ => rfl)) pa_nil))))) pa_nil)))) pss_nil)))
        (pss_cons (ps_set (i := 4) scClosing.nd rfl (Or.inl rfl) (pe_disp (pps_cons (pv 2) (pe_tup (pa_cons pe_int (pa_cons (pe_lst pa_nil) pa_nil))) pps_nil) (by rfl) (by rfl) (fun z => by cases z) (by decide)))
        (pss_one (ps_for PassesOwn.never rfl (pi_range1 (by rfl) mr (pa_cons (pe_op op_add (pe_fld (pe_ix ix_tup (pv 0) pe_int (fun _ _ => rfl)) rfl) pe_int) pa_nil)) (pg_name (i := 5) scClosing.nd rfl (Or.inl rfl))
          (pss_cons (ps_set (i := 4) scClosing.nd rfl (Or.inl rfl) (call_h hL hr (by rfl) pass0 (pa_cons (pv 0) (pa_cons (pv 4) pa_nil))))
          (pss_one (ps_if (PW.pt (pw_and (pt_cmp (pc_din hu (pv 2) (pv 4))) (pw_and1 (pt_cmpR op_lt (pe_ix ix_tup (pe_dget hu (pv 4) (pv 2) (fun _ _ => rfl)) pe_int (fun _ _ => rfl)) pe_int (nomark _)))))
            (pss_one (ps_ret (pe_callTy call_tuple_of (by rfl) mt boot_tuple (pa_cons (pe_ix ix_tup (pe_dget hu (pv 4) (pv 2) (fun _ _ => rfl)) pe_int (fun _ _ => rfl)) pa_nil)))) pss_nil))))))))
      (pss_one (ps_ret pe_non)))), ?_⟩
  rcases h with ⟨lots, gs, hC, hne, hz, hl, hds, q⟩ | ⟨x0, x1, dx0, dx1, p0, p1, l0, l1, ha, h0, h1, hll, q⟩
  · obtain ⟨xs, e1, e2, e3⟩ := id hC
    obtain ⟨xs', x0, dx0, p0, g1, g2, g3⟩ := hC.len1 hne
    rw [e1] at g1
    rw [← HO.tup.inj (Option.some.inj g1)] at g2
    refine ⟨_, rfl, a, rfl, ⟨_, SqT.of e1⟩, for_tup (K := K) (a := a) (xs := xs.map V.ref) (fun i σ H' => ∃ v1, σ = [some (.ref a), v1, none, none, none, none] ∧ H' = H) ⟨none, rfl, rfl⟩ (fun i σ H' _ ⟨_, _, e⟩ => by rw [e]; exact SqT.of e1) ?_ ?_⟩
    · rintro i y σ H' hi ⟨v1, rfl, rfl⟩
      obtain ⟨x, hx, rfl⟩ : ∃ x, xs[i]? = some x ∧ y = V.ref x := by
        rw [List.getElem?_map] at hi
        cases e : xs[i]? with
        | none => rw [e] at hi; cases hi
        | some x => rw [e] at hi; exact ⟨x, rfl, (Option.some.inj hi).symm⟩
      have hil : i < gs.length := by
        rw [← e2]
        exact (List.getElem?_eq_some_iff.mp hx).1
      obtain ⟨dx, p, b1, b2⟩ := e3 i x _ hx (List.getElem?_eq_getElem hil)
      refine ⟨_, rfl, x, C, dx, _, _, rfl, b1, B.cl, B.nL, bf_lots _ _, _, rfl, a, _, _, _, rfl, rfl, SqT.of e1, atI_nat (j := 0) g2, x0, C, dx0, _, _, rfl, g3, B.cl, B.nL, bf_lots _ _, rfl, _, rfl, ?_⟩
      rw [decide_eq_true rfl]
      exact iteF ⟨_, rfl, rfl⟩
    · rintro σ H' ⟨v1, rfl, rfl⟩
      refine ⟨_, rfl, a, _, _, _, rfl, rfl, SqT.of e1, atI_nat (j := 0) g2, x0, C, dx0, _, _, rfl, g3, B.cl, B.nL, bf_lots _ _, _, _, rfl, rfl, _, rfl, by omega, by omega, ?_⟩
      rw [show ((lots : Int) + 2).toNat = lots + 2 by omega]
      refine for_range (lo := 0) (n := lots + 2) (fun i σ H2 => ∃ v1 v2 v3 v4 v5, σ = [some (.ref a), v1, v2, v3, v4, v5] ∧ Same H' H2 ∧ ∀ u, u < i → (∀ g ∈ gs, ∀ d, g u u = some d → 0 ≤ d) ∧ ∀ k, 1 ≤ k → k ≤ lots + 2 → ∀ w, Wa gs (lots + 2) k u u w → 0 ≤ w)
        ⟨v1, none, none, none, none, rfl, Same.refl _, fun u hu => by omega⟩ ?_ ?_
      · rintro i σ H2 hi ⟨v1, v2, v3, v4, v5, rfl, s2, hno⟩
        rw [Int.zero_add]
        -- the diagonals
        refine ⟨_, rfl, a, _, rfl, SqT.of (s2 _ _ e1), ?_⟩
        refine for_enumT (K := K) (a := a) (xs := xs.map V.ref) (fun j σ H3 => ∃ v1 v3, σ = [some (.ref a), v1, some (.int (i : Int)), v3, v4, v5] ∧ Same H' H3 ∧ ∀ (j' : Nat) (g : G), j' < j → gs[j']? = some g → ∀ d, g i i = some d → 0 ≤ d) ⟨v1, v3, rfl, s2, fun j' g hj => by omega⟩ (fun j σ H3 ⟨_, _, _, s3, _⟩ => SqT.of (s3 _ _ e1)) ?_ ?_
        · rintro j y t σ H3 hj ⟨v1, v3, rfl, s3, hdg⟩ nt
          obtain ⟨x, hx, rfl⟩ : ∃ x, xs[j]? = some x ∧ y = V.ref x := by
            rw [List.getElem?_map] at hj
            cases e : xs[j]? with
            | none => rw [e] at hj; cases hj
            | some x => rw [e] at hj; exact ⟨x, rfl, (Option.some.inj hj).symm⟩
          have hjl : j < gs.length := by
            rw [← e2]
            exact (List.getElem?_eq_some_iff.mp hx).1
          have hgj : gs[j]? = some gs[j] := List.getElem?_eq_getElem hjl
          have sT : Same H3 (upd H3 t (.tup [.int (j : Nat), .ref x])) := same_new nt
          have hB := (e3 j x _ hx hgj).same (s3.trans sT)
          obtain ⟨d, ed, _⟩ := hds _ (List.getElem_mem hjl) i hi
          refine ⟨t, _, rfl, SqT.of upd_same, rfl, _, _, rfl, _, _, rfl, rfl, ?_⟩
          refine rd3 B hB (i := i) (j := i) rfl rfl rfl hi hi ?_
          rw [ed]
          refine ⟨d, 0, rfl, rfl, _, rfl, ?_⟩
          by_cases hneg : d < 0
          · rw [decide_eq_true hneg]
            refine iteT ⟨_, rfl, _, rfl, _, rfl, ?_⟩
            refine rd3 B hB (i := i) (j := i) rfl rfl rfl hi hi ?_
            rw [ed]
            refine ⟨(by show 4 ≤ sizeLine; decide), fun q1 nq1 => ⟨(by show 1 ≤ sizeLine; decide), fun q2 nq2 => ?_⟩⟩
            refine q _ _ (((s3.trans sT).trans (same_new nq1)).trans (same_new nq2)) (.inr ⟨q2, [q1], [⟨(j : Int), (i : Int), (i : Int), d⟩], i, rfl, upd_same, ⟨rfl, fun z q' s' z1 z2 => ?_⟩, hi, ?_, by simp, ?_, ?_⟩)
            · match z, z1, z2 with
              | 0, z1, z2 =>
                cases z1
                cases z2
                exact same_new nq2 _ _ upd_same
              | z + 1, z1, z2 => simp at z1
            · exact ⟨rfl, j, i, gs[j], rfl, rfl, hi, hgj, ed, rfl⟩
            · show ([d] : List Int).sum < 0
              simp
              exact hneg
            · show 1 ≤ lots + 2
              omega
          · rw [decide_eq_false hneg]
            refine iteF ⟨_, _, rfl, s3.trans sT, fun j' g hj' hg d' ed' => ?_⟩
            by_cases c : j' < j
            · exact hdg j' g c hg d' ed'
            · obtain rfl : j' = j := by omega
              rw [hgj] at hg
              obtain rfl := Option.some.inj hg
              rw [ed] at ed'
              obtain rfl := Option.some.inj ed'
              omega
        · rintro σ H3 ⟨v1, v3, rfl, s3, hdg⟩
          have hdiag : ∀ g ∈ gs, ∀ d, g i i = some d → 0 ≤ d := fun g hg d ed => by
            obtain ⟨j, hj⟩ := List.getElem?_of_mem hg
            refine hdg j g ?_ hj d ed
            rw [List.length_map, e2]
            exact (List.getElem?_eq_some_iff.mp hj).1
          -- walks = {start: (0, [])}
          intro dw ndw
          have sD : Same H3 (upd H3 dw (.dK [])) := same_new ndw
          refine ⟨_, rfl, Nat.zero_le _, fun lw nlw => ⟨(by show 2 ≤ sizeLine; decide), fun tw ntw => ?_⟩⟩
          have sL := sD.trans (same_new (o := .lst []) nlw)
          have sW := sL.trans (same_new (o := .tup [.int 0, .ref lw]) ntw)
          have eD1 := same_new (o := .lst []) nlw _ _ (upd_same (H := H3) (a := dw) (o := .dK []))
          have eD := same_new (o := .tup [.int 0, .ref lw]) ntw _ _ eD1
          refine ⟨eD, [(.inl (i : Int), .ref tw)], rfl, (by show 1 ≤ 15; decide), ?_⟩
          have sF := same_over (o := .dK (mergeK [] [((.inl (i : Int) : Key), V.ref tw)])) sW ndw
          have eW : KvsAt (upd (upd (upd (upd H3 dw (.dK [])) lw (.lst [])) tw (.tup [.int 0, .ref lw])) dw (.dK (mergeK [] [((.inl (i : Int) : Key), V.ref tw)]))) [((.inl (i : Int) : Key), V.ref tw)] [⟨i, 0, []⟩] := by
            refine ⟨⟨rfl, tw, lw, [], rfl, ?_, ?_, rfl, fun z _ _ z1 => by simp at z1⟩, trivial⟩
            · rw [upd_ne (ne_of upd_same eD (fun z => nomatch z)), upd_same]
            · have eL := same_new (o := .tup [.int 0, .ref lw]) ntw _ _ (upd_same (H := upd H3 dw (.dK [])) (a := lw) (o := .lst []))
              rw [upd_ne (ne_of eL eD (fun z => nomatch z))]
              exact eL
          generalize hH4 : upd (upd (upd (upd H3 dw (.dK [])) lw (.lst [])) tw (.tup [.int 0, .ref lw])) dw (.dK (mergeK [] [((.inl (i : Int) : Key), V.ref tw)])) = H4 at sF eW ⊢
          have eD4 : H4 dw = some (.dK [((.inl (i : Int) : Key), V.ref tw)]) := by
            rw [← hH4, upd_same]
            rfl
          clear hH4
          have s4 := s3.trans sF
          refine ⟨_, rfl, a, _, _, _, rfl, rfl, SqT.of (s4 _ _ e1), atI_nat (j := 0) g2, x0, C, dx0, _, _, rfl, s4 _ _ g3, B.cl, B.nL, bf_lots _ _, _, _, rfl, rfl, _, rfl, by omega, by omega, ?_⟩
          rw [show ((lots : Int) + 2).toNat = lots + 2 by omega]
          refine for_range (lo := 0) (n := lots + 2) (fun k σ H5 => ∃ v1 v3 dw v5 kvs W, σ = [some (.ref a), v1, some (.int (i : Int)), v3, some (.ref dw), v5] ∧ Same H' H5 ∧ H5 dw = some (.dK kvs) ∧ KvsAt H5 kvs W ∧ WOK gs (lots + 2) k i W ∧ ∀ k', 1 ≤ k' → k' ≤ k → ∀ w, Wa gs (lots + 2) k' i i w → 0 ≤ w)
            ⟨v1, v3, dw, v5, _, _, rfl, s4, eD4, eW, wok0 hi, fun k' h1 h2 => by omega⟩ ?_ ?_
          · rintro k σ H5 hk ⟨v1, v3, dw5, v5, kvs, W, rfl, s5, ed5, hW5, ok5, hno5⟩
            refine ⟨_, rfl, _, rfl, a, dw5, lots, k, i, gs, kvs, W, rfl, hC.same s5, hne, hz, by omega, by omega, ed5, hW5, ok5, fun fd6 H6 kvs6 s6 nf6 ed6 hW6 => ?_⟩
            have ok6 := wok_succ ok5
            have s56 := s5.trans s6
            refine ⟨_, rfl, _, rfl, fd6, valV kvs6 (.inl (i : Int)), rfl, .inl ⟨kvs6, .inl (i : Int), .inl ed6, rfl, rfl⟩, _, rfl, ?_⟩
            have more : (∀ e, getE (longer gs (lots + 2) W) i = some e → 0 ≤ e.tot) → ∀ k', 1 ≤ k' → k' ≤ k + 1 → ∀ w, Wa gs (lots + 2) k' i i w → 0 ≤ w := fun hq k' h1 h2 w hw => by
              by_cases c : k' ≤ k
              · exact hno5 k' h1 c w hw
              · obtain rfl : k' = k + 1 := by omega
                exact wok_neg ok6 hq hw
            cases hg : getE (longer gs (lots + 2) W) i with
            | none =>
              rw [(hW6.get i).1 hg]
              exact iteF (iteF ⟨_, _, fd6, _, kvs6, _, rfl, s56, ed6, hW6, ok6, more fun e he => by rw [hg] at he; cases he⟩)
            | some e =>
              obtain ⟨y6, hy6, hE6⟩ := (hW6.get i).2 e hg
              rw [hy6]
              obtain ⟨_, t6, l6, qs6, rfl, ht6, hl6, hq6⟩ := id hE6
              refine iteT ⟨_, rfl, _, rfl, fd6, _, rfl, .inl ⟨kvs6, .inl (i : Int), .inl ed6, rfl, hy6.symm⟩, t6, _, _, _, rfl, rfl, SqT.of ht6, atI_nat (j := 0) rfl, _, _, rfl, rfl, _, rfl, ?_⟩
              obtain ⟨heW, hev⟩ := getE_some hg
              have heOk := ok6.ok e heW
              by_cases hneg : e.tot < 0
              · rw [decide_eq_true hneg]
                refine iteT ⟨_, rfl, _, rfl, fd6, _, rfl, .inl ⟨kvs6, .inl (i : Int), .inl ed6, rfl, hy6.symm⟩, t6, _, _, _, rfl, rfl, SqT.of ht6, atI_nat (j := 1) rfl, l6, _, rfl, .inl ⟨SqL.of hl6, fun t7 nt7 => ?_⟩⟩
                refine q _ _ (s56.trans (same_new nt7)) (.inr ⟨t7, qs6, e.st, i, rfl, upd_same, hq6.keep (fun t xs et => same_new nt7 _ _ et), hi, by have := heOk.wk; rw [hev] at this; exact this, fun z => ?_, by rw [heOk.sum]; exact hneg, by rw [heOk.len]; omega⟩)
                have := heOk.len
                rw [z] at this
                simp at this
              · rw [decide_eq_false hneg]
                refine iteF ⟨_, _, fd6, _, kvs6, _, rfl, s56, ed6, hW6, ok6, more fun e' he' => ?_⟩
                rw [hg] at he'
                obtain rfl := Option.some.inj he'
                omega
          · rintro σ H5 ⟨v1, v3, dw5, v5, kvs, W, rfl, s5, ed5, hW5, ok5, hno5⟩
            refine ⟨v1, _, v3, _, v5, rfl, s5, fun u hu => ?_⟩
            by_cases c : u < i
            · exact hno u c
            · obtain rfl : u = i := by omega
              exact ⟨hdiag, fun k h1 h2 w hw => hno5 k h1 h2 w hw⟩
      · rintro σ H2 ⟨v1, v2, v3, v4, v5, rfl, s2, hno⟩
        exact q .non H2 s2 (.inl ⟨rfl, ⟨fun g hg u hu d ed => (hno u hu).1 g hg d ed, fun u hu k h1 h2 w hw => (hno u hu).2 k h1 h2 w hw⟩⟩)
  · have et : SqT K H a [.ref x0, .ref x1] := SqT.of ha
    refine ⟨_, rfl, a, rfl, ⟨_, et⟩, for_tup (K := K) (a := a) (xs := [.ref x0, .ref x1]) (fun i σ H' => i ≤ 1 ∧ ∃ v1, σ = [some (.ref a), v1, none, none, none, none] ∧ H' = H) ⟨Nat.zero_le _, none, rfl, rfl⟩ (fun i σ H' _ ⟨_, _, _, e⟩ => by rw [e]; exact et) ?_ ?_⟩
    · rintro i y σ H' hi ⟨hi1, v1, rfl, rfl⟩
      match i, hi, hi1 with
      | 0, hi, _ =>
        obtain rfl := Option.some.inj hi
        refine ⟨_, rfl, x0, C, dx0, _, _, rfl, h0, B.cl, B.nL, bf_lots _ _, _, rfl, a, _, _, _, rfl, rfl, et, atI_nat (j := 0) rfl, x0, C, dx0, _, _, rfl, h0, B.cl, B.nL, bf_lots _ _, rfl, _, rfl, ?_⟩
        rw [decide_eq_true rfl]
        exact iteF ⟨Nat.le_refl _, _, rfl, rfl⟩
      | 1, hi, _ =>
        obtain rfl := Option.some.inj hi
        refine ⟨_, rfl, x1, C, dx1, _, _, rfl, h1, B.cl, B.nL, bf_lots _ _, _, rfl, a, _, _, _, rfl, rfl, et, atI_nat (j := 0) rfl, x0, C, dx0, _, _, rfl, h0, B.cl, B.nL, bf_lots _ _, rfl, _, rfl, ?_⟩
        rw [decide_eq_false (show ¬ V.int (l1 : Int) = V.int (l0 : Int) from fun z => hll (by have := V.int.inj z; omega))]
        exact iteT (q _)
    · rintro σ H' ⟨hi1, _⟩
      exact absurd (show 2 ≤ 1 from hi1) (by decide)
end
end K9

namespace K9
open PySem PySem.Spec PyProof.Rows L2
/-- the property that tells whether anything is let -/
structure PossH (P : Program) (w : World) (K : PySem.W.Frag) (mg : Str → Option Value) (base : Heap) (C p g : Addr) (fd : FuncData) : Prop where
  of_ : PropOf K C "possible" p g
  ok : FnOk P w K mg base CX0 1 g fd ["self"] (spPoss C)
  bi : Binds K fd ["self"] []
theorem nnI {z : Int} (h : 0 ≤ z) : ∃ k : Nat, z = (k : Int) := ⟨z.toNat, by omega⟩
section
variable {P : Program} {w : World} {K : PySem.W.Frag} {mg : Str → Option Value} {base : Heap}
def spClosesB (C : Addr) : Sp := fun vs H Q _ => ∃ (p a : Addr) (qs : List Addr) (st : List S4) (lots : Nat) (gs : List G), vs = [.ref p, .ref a] ∧ H p = some (.tup (qs.map V.ref)) ∧ StQ H qs st ∧ CsAt C H a lots gs ∧ lots ≤ 90 ∧ (∀ g ∈ gs, DS (lots + 2) g) ∧
  ∀ b H', (b = true ↔ Closes (lots + 2) gs st) → Same H H' → Q (.bl b) H'
theorem scCloses : FnScope ["steps", "cells", "total", "end", "index", "at", "to", "distance", "points", "limit"] ["steps", "cells"] (defScope sCloses) := ⟨rfl, rfl, rfl, by decide +kernel, rfl, by decide +kernel, by decide +kernel⟩
theorem body_closes {f C pP gP : Addr} {fdP : FuncData} {cdv : Value} {A : Around} {outer : List Env} {s : Shared} {H : Hp} {vs : List V} {Q : VK} {E : XK} (B : BCls K mg C) (hP : PossH P w K mg base C pP gP fdP) (mr : mg "range" = none) (ml : mg "len" = none)
    (hr : Room 2 (A.deeper (envOfC "closes" (defScope sCloses) s.heap.objs.size f cdv))) (h : spClosesB C vs H Q E) :
    ∃ t, PSs (cxOf CX0 P w K mg base ["steps", "cells", "total", "end", "index", "at", "to", "distance", "points", "limit"] "closes" (defScope sCloses) f cdv A outer s H E) (defBody sCloses) t ∧ t { nx := fun _ H' => Q .non H', rt := Q } (start ["steps", "cells", "total", "end", "index", "at", "to", "distance", "points", "limit"] vs) H := by
  obtain ⟨p, a, qs, st, lots, gs, rfl, hp, hq, hC, hl, hds, q⟩ := h
  refine ⟨_, PSs.nox (pss_cons (ps_if (PW.pt (pw_or (pt_not (pt_truth (pv 0) (by intro _; rfl))) (pw_or1 (pt_cmpR op_ne (pe_ix ix_tup (pe_ix ix_tup (pv 0) pe_int (fun _ _ => rfl)) pe_int (fun _ _ => rfl)) (pe_ix ix_tup (pe_ix ix_tup (pv 0) (pe_un un_neg pe_int) (fun _ _ => rfl)) pe_int (fun _ _ => rfl)) (nomark _))))) (pss_one (ps_ret pe_bl)) pss_nil)
    (pss_cons (ps_set (i := 2) scCloses.nd rfl (Or.inl rfl) pe_int)
    (pss_cons (ps_set (i := 3) scCloses.nd rfl (Or.inl rfl) (pe_ix ix_tup (pe_ix ix_tup (pv 0) pe_int (fun _ _ => rfl)) pe_int (fun _ _ => rfl)))
    (pss_cons (ps_for PassesOwn.never rfl (pi_tup (pv 0)) (pg_tup rfl (pgs_cons (pg_name (i := 4) scCloses.nd rfl (Or.inl rfl)) (pgs_cons (pg_name (i := 5) scCloses.nd rfl (Or.inl rfl)) (pgs_cons (pg_name (i := 6) scCloses.nd rfl (Or.inl rfl)) (pgs_cons (pg_name (i := 7) scCloses.nd rfl (Or.inl rfl)) pgs_nil)))))
      (pss_cons (ps_if (PW.pt (pw_or (pt_cmpR op_ne (pv 5) (pv 3) (nomark _)) (pw_or1 (pt_not (pt_chain op_le op_lt pe_int (pv 4) (pe_callB call_len_seq (by rfl) ml PySem.boot_len (pa_cons (pv 1) pa_nil))))))) (pss_one (ps_ret pe_bl)) pss_nil)
      (pss_cons (ps_set (i := 8) scCloses.nd rfl (Or.inl rfl) (pe_callTy rng1 (by rfl) mr boot_rng (pa_cons (pe_op op_add (pe_fld (pe_ix ix_tup (pv 1) (pv 4) (fun _ _ => rfl)) rfl) pe_int) pa_nil)))
      (pss_cons (ps_if (PW.pt (pw_or (pt_cmpR not_in_rng (pv 5) (pv 8) (by rfl)) (pw_or1 (pt_cmpR not_in_rng (pv 6) (pv 8) (by rfl))))) (pss_one (ps_ret pe_bl)) pss_nil)
      (pss_cons (ps_set (i := 9) scCloses.nd rfl (Or.inl rfl) (pe_ix ix_tup (pe_ix ix_tup (pe_fld (pe_ix ix_tup (pv 1) (pv 4) (fun _ _ => rfl)) rfl) (pv 5) (fun _ _ => rfl)) (pv 6) (fun _ _ => rfl)))
      (pss_cons (ps_if (PW.pt (pw_and (pt_val (pe_prop (pe_ix ix_tup (pv 1) (pv 4) (fun _ _ => rfl)) B.cl hP.of_ hP.ok hr hP.bi .nil pass0 rfl)) (pw_and1 (PW.pt (pw_or (pt_cmpR op_isN (pv 9) pe_non (nomark _)) (pw_or1 (pt_cmpR op_lt (pv 7) (pv 9) (nomark _)))))))) (pss_one (ps_ret pe_bl)) pss_nil)
      (pss_cons (ps_aug (i := 2) scCloses.nd rfl (Or.inl rfl) (pv 7) ip_add)
      (pss_one (ps_set (i := 3) scCloses.nd rfl (Or.inl rfl) (pv 6))))))))))
    (pss_one (ps_ret (pe_cmpR op_lt (pv 2) pe_int (nomark _)))))))), ?_⟩
  have hlen := hq.1
  have no : ∀ H', ¬ Closes (lots + 2) gs st → Same H H' → Q (.bl false) H' := fun H' h s' => q false H' ⟨fun z => (by cases z), fun z => absurd z h⟩ s'
  by_cases hst : st = []
  · subst hst
    have hqs : qs = [] := List.length_eq_zero_iff.mp hlen
    subst hqs
    refine ⟨_, rfl, false, .inr (.inl ⟨_, SqT.of hp, rfl⟩), iteT (iteT (no H ?_ (Same.refl H)))⟩
    rintro ⟨s0, _, z, _⟩
    simp at z
  · have hl0 : 0 < st.length := List.length_pos_iff.mpr hst
    have e0 : st[0]? = some st[0] := List.getElem?_eq_getElem hl0
    have el : st[st.length - 1]? = some st[st.length - 1] := List.getElem?_eq_getElem (by omega)
    have q0 : qs[0]? = some qs[0] := List.getElem?_eq_getElem (by omega)
    have ql : qs[st.length - 1]? = some qs[st.length - 1] := List.getElem?_eq_getElem (by omega)
    have h0 := hq.2 _ _ _ q0 e0
    have hL := hq.2 _ _ _ ql el
    have m0 : (qs.map V.ref)[0]? = some (.ref qs[0]) := by rw [List.getElem?_map, q0]; rfl
    have mL : atI (qs.map V.ref) (-1) = some (.ref qs[st.length - 1]) := by
      have hne : qs ≠ [] := fun z => by rw [z] at hlen; simp at hlen; omega
      have e1 : qs.map V.ref = qs.dropLast.map V.ref ++ [.ref (qs.getLast hne)] := by
        rw [← List.map_singleton, ← List.map_append, List.dropLast_concat_getLast]
      have e2 : qs.getLast hne = qs[st.length - 1] := by
        rw [List.getLast_eq_getElem]
        congr 1
        omega
      rw [e1, ← e2]
      exact atI_last _ _
    have emp : (!(qs.map V.ref).isEmpty) = true := by
      cases qs with
      | nil => simp at hlen; omega
      | cons x y => rfl
    refine ⟨_, rfl, true, .inr (.inl ⟨_, SqT.of hp, emp.symm⟩), iteF ?_⟩
    generalize st[0] = s0 at e0 h0
    generalize st[st.length - 1] = sl at el hL
    refine ⟨_, rfl, p, _, _, _, rfl, rfl, SqT.of hp, atI_nat (j := 0) m0, qs[0], _, _, _, rfl, rfl, SqT.of h0, atI_nat (j := 1) rfl, _, rfl, 1, rfl, p, _, _, _, rfl, rfl, SqT.of hp, mL, qs[st.length - 1], _, _, _, rfl, rfl, SqT.of hL, atI_nat (j := 2) rfl, rfl, _, rfl, ?_⟩
    by_cases hcl : s0.a = sl.b
    · rw [decide_eq_true (show V.int s0.a = V.int sl.b by rw [hcl])]
      refine iteF ⟨_, rfl, p, _, _, _, rfl, rfl, SqT.of hp, atI_nat (j := 0) m0, qs[0], _, _, _, rfl, rfl, SqT.of h0, atI_nat (j := 1) rfl, ?_⟩
      obtain ⟨xs, c1, c2, c3⟩ := id hC
      refine ⟨_, rfl, p, rfl, ⟨_, SqT.of hp⟩, for_tup (K := K) (a := p) (xs := qs.map V.ref) (fun i σ H' => ∃ v4 v5 v6 v7 v8 v9, σ = [some (.ref p), some (.ref a), some (.int (sumS (st.take i))), some (.int (endAt s0.a st i)), v4, v5, v6, v7, v8, v9] ∧ Same H H' ∧
          ∀ j s, j < i → st[j]? = some s → s.a = endAt s0.a st j ∧ okS (lots + 2) gs s) ⟨none, none, none, none, none, none, rfl, Same.refl H, fun j s hj => by omega⟩ (fun i σ H' _ ⟨_, _, _, _, _, _, _, s', _⟩ => SqT.of (s' _ _ hp)) ?_ ?_⟩
      · rintro i y σ H' hi ⟨v4, v5, v6, v7, v8, v9, rfl, s', hok⟩
        obtain ⟨x, hx, rfl⟩ : ∃ x, qs[i]? = some x ∧ y = V.ref x := by
          rw [List.getElem?_map] at hi
          cases e : qs[i]? with
          | none => rw [e] at hi; cases hi
          | some x => rw [e] at hi; exact ⟨x, rfl, (Option.some.inj hi).symm⟩
        have hil : i < st.length := by
          rw [← hlen]
          exact (List.getElem?_eq_some_iff.mp hx).1
        have hs : st[i]? = some st[i] := List.getElem?_eq_getElem hil
        have hx2 := s' _ _ (hq.2 _ _ _ hx hs)
        have eSum : sumS (st.take (i + 1)) = sumS (st.take i) + st[i].d := by
          rw [List.take_add_one, hs, sumS_app]
          simp [sumS]
        have eEnd : endAt s0.a st (i + 1) = st[i].b := endAt_succ hs
        rw [eSum, eEnd]
        generalize st[i] = sc at hs hx2
        have bad : ¬ (sc.a = endAt s0.a st i ∧ okS (lots + 2) gs sc) → ¬ Closes (lots + 2) gs st := by
          rintro hb ⟨s0', _, e0', _, _, hk, _⟩
          rw [e0] at e0'
          obtain rfl := Option.some.inj e0'
          exact hb (hk i sc hs)
        refine ⟨x, _, rfl, SqT.of hx2, rfl, _, _, rfl, _, _, rfl, _, _, rfl, _, _, rfl, rfl, ?_⟩
        refine ⟨_, rfl, _, rfl, rfl, _, rfl, ?_⟩
        by_cases ha : sc.a = endAt s0.a st i
        · rw [decide_eq_true (show V.int sc.a = V.int (endAt s0.a st i) by rw [ha])]
          refine iteF ⟨_, rfl, _, _, rfl, rfl, _, rfl, ?_⟩
          by_cases hc0 : 0 ≤ sc.c
          · rw [decide_eq_true hc0]
            refine iteT ⟨_, rfl, a, _, rfl, .inr (SqT.of (s' _ _ c1)), _, _, rfl, rfl, _, rfl, ?_⟩
            have elx : ((xs.map V.ref).length : Int) = (gs.length : Int) := by rw [List.length_map, c2]
            rw [elx]
            by_cases hc1 : sc.c < (gs.length : Int)
            · rw [decide_eq_true hc1]
              obtain ⟨c, hc⟩ := nnI hc0
              have hcl2 : c < gs.length := by omega
              have hxc : xs[c]? = some xs[c] := List.getElem?_eq_getElem (by omega)
              have hgc : gs[c]? = some gs[c] := List.getElem?_eq_getElem hcl2
              obtain ⟨dx, pg, b1, b2⟩ := (c3 c _ _ hxc hgc).same s'
              have mx : atI (xs.map V.ref) sc.c = some (.ref xs[c]) := by
                rw [hc]
                exact atI_nat (by rw [List.getElem?_map, hxc]; rfl)
              refine iteF ⟨_, rfl, _, rfl, a, _, _, _, rfl, rfl, SqT.of (s' _ _ c1), mx, xs[c], C, dx, _, _, rfl, b1, B.cl, B.nL, bf_lots _ _, _, _, rfl, rfl, _, rfl, fun r nr => ?_⟩
              have sR := s'.trans (same_new (o := .rng 0 ((lots : Int) + 2)) nr)
              refine ⟨_, rfl, _, rfl, _, r, _, _, rfl, rfl, upd_same, _, rfl, ?_⟩
              by_cases hA : 0 ≤ sc.a ∧ sc.a < (lots : Int) + 2
              · rw [decide_eq_true hA]
                refine iteF ⟨_, rfl, _, rfl, _, r, _, _, rfl, rfl, upd_same, _, rfl, ?_⟩
                by_cases hB2 : 0 ≤ sc.b ∧ sc.b < (lots : Int) + 2
                · rw [decide_eq_true hB2]
                  refine iteF ?_
                  obtain ⟨na, hna⟩ := nnI hA.1
                  obtain ⟨nb, hnb⟩ := nnI hB2.1
                  have la : na < lots + 2 := by omega
                  have lb : nb < lots + 2 := by omega
                  obtain ⟨b3, b4⟩ : _ ∧ _ := ⟨same_new (o := .rng 0 ((lots : Int) + 2)) nr _ _ b1, b2.same (same_new (o := .rng 0 ((lots : Int) + 2)) nr)⟩
                  obtain ⟨rs, rr, g1, g2, g3, g4⟩ := b4.row la
                  refine ⟨_, rfl, _, rfl, a, _, _, _, rfl, rfl, SqT.of (sR _ _ c1), mx, xs[c], C, dx, _, _, rfl, b3, B.cl, B.nF, bf_far _ _, _, rfl, pg, _, _, _, rfl, rfl, SqT.of g1, (by rw [hna]; exact atN g3), _, rfl, rr, _, _, _, rfl, rfl, SqT.of g4, (by rw [hnb]; exact atN (rowV_get lb)), ?_⟩
                  refine ⟨_, rfl, _, rfl, a, _, _, _, rfl, rfl, SqT.of (sR _ _ c1), mx, xs[c], dx, _, rfl, b3, xs[c], lots, gs[c], rfl, ⟨dx, pg, b3, b4⟩, by omega, hds _ (List.getElem_mem hcl2), fun pb H3 hpb s3 => ?_⟩
                  have s13 := sR.trans s3
                  refine ⟨pb, rfl, ?_⟩
                  have okI : (NN (lots + 2) gs[c] → ∃ m, gs[c] na nb = some m ∧ m ≤ sc.d) → okS (lots + 2) gs sc := fun hm => by
                    refine ⟨hc0, hc1, hA.1, by omega, hB2.1, by omega, fun g hg hn => ?_⟩
                    rw [hc, Int.toNat_natCast, hgc] at hg
                    obtain rfl := Option.some.inj hg
                    rw [hna, hnb, Int.toNat_natCast, Int.toNat_natCast]
                    exact hm hn
                  have okE : okS (lots + 2) gs sc → NN (lots + 2) gs[c] → ∃ m, gs[c] na nb = some m ∧ m ≤ sc.d := fun hk hn => by
                    obtain ⟨_, _, _, _, _, _, k7⟩ := hk
                    have := k7 gs[c] (by rw [hc, Int.toNat_natCast]; exact hgc) hn
                    rw [hna, hnb, Int.toNat_natCast, Int.toNat_natCast] at this
                    exact this
                  have fin : okS (lots + 2) gs sc → ∃ v4 v5 v6 v7 v8 v9, ([some (.ref p), some (.ref a), some (.int (sumS (st.take i) + sc.d)), some (.int sc.b), some (.int sc.c), some (.int sc.a), some (.int sc.b), some (.int sc.d), some (.ref r), some (ov (gs[c] na nb))] : L2.St) = [some (.ref p), some (.ref a), some (.int (sumS (st.take i) + sc.d)), some (.int sc.b), v4, v5, v6, v7, v8, v9] ∧ Same H H3 ∧
                      ∀ j s, j < i + 1 → st[j]? = some s → s.a = endAt s0.a st j ∧ okS (lots + 2) gs s := fun hk => ⟨_, _, _, _, _, _, rfl, s13, fun j z hj hz => by
                    by_cases hji : j < i
                    · exact hok j z hji hz
                    · obtain rfl : j = i := by omega
                      rw [hs] at hz
                      obtain rfl := Option.some.inj hz
                      exact ⟨ha, hk⟩⟩
                  cases pb with
                  | false =>
                    have hk := okI fun hn => by cases hpb.mpr hn
                    exact iteF (iteF ⟨_, rfl, _, rfl, _, _, rfl, rfl, _, rfl, fin hk⟩)
                  | true =>
                    have hn := hpb.mp rfl
                    refine iteT ⟨_, rfl, rfl, _, rfl, ?_⟩
                    rw [ov_none]
                    cases hm : gs[c] na nb with
                    | none =>
                      refine iteT (iteT (no H3 (bad fun z => ?_) s13))
                      obtain ⟨m, em, _⟩ := okE z.2 hn
                      rw [hm] at em
                      cases em
                    | some m =>
                      refine iteF ⟨_, rfl, _, rfl, _, _, rfl, rfl, _, rfl, ?_⟩
                      by_cases hd : sc.d < m
                      · rw [decide_eq_true hd]
                        refine iteT (no H3 (bad fun z => ?_) s13)
                        obtain ⟨m', em, le⟩ := okE z.2 hn
                        rw [hm] at em
                        obtain rfl := Option.some.inj em
                        omega
                      · rw [decide_eq_false hd]
                        have hk := okI fun _ => ⟨m, hm, by omega⟩
                        rw [hm] at fin
                        exact iteF ⟨_, rfl, _, rfl, _, _, rfl, rfl, _, rfl, fin hk⟩
                · rw [decide_eq_false hB2]
                  refine iteT (no _ (bad fun z => ?_) sR)
                  obtain ⟨_, _, _, _, _, k5, k6, _⟩ := z
                  exact hB2 ⟨by omega, by omega⟩
              · rw [decide_eq_false hA]
                refine iteT (iteT (no _ (bad fun z => ?_) sR))
                obtain ⟨_, _, _, k3, k4, _⟩ := z
                exact hA ⟨by omega, by omega⟩
            · rw [decide_eq_false hc1]
              refine iteT (no H' (bad fun z => hc1 z.2.2.1) s')
          · rw [decide_eq_false hc0]
            exact iteF ⟨_, rfl, iteT (no H' (bad fun z => hc0 z.2.1) s')⟩
        · rw [decide_eq_false (show ¬ V.int sc.a = V.int (endAt s0.a st i) from fun z => ha (V.int.inj z))]
          exact iteT (iteT (no H' (bad fun z => ha z.1) s'))
      · rintro σ H' ⟨v4, v5, v6, v7, v8, v9, rfl, s', hok⟩
        rw [List.take_of_length_le (by rw [List.length_map, hlen]; exact Nat.le_refl _)]
        refine ⟨_, rfl, _, _, rfl, rfl, q _ H' ?_ s'⟩
        rw [decide_eq_true_iff]
        constructor
        · intro hneg
          refine ⟨s0, sl, e0, el, hcl, fun i s hs => hok i s ?_ hs, hneg⟩
          rw [List.length_map, hlen]
          exact (List.getElem?_eq_some_iff.mp hs).1
        · rintro ⟨_, _, _, _, _, _, hneg⟩
          exact hneg
    · rw [decide_eq_false (show ¬ V.int s0.a = V.int sl.b from fun z => hcl (V.int.inj z))]
      refine iteT (no H ?_ (Same.refl H))
      rintro ⟨s0', sl', e0', el', hcl', _⟩
      rw [e0] at e0'
      rw [el] at el'
      obtain rfl := Option.some.inj e0'
      obtain rfl := Option.some.inj el'
      exact hcl hcl'
end
end K9

namespace K9
open PySem PySem.Spec PyProof.Rows L2
/-! ### the state of the draws -/
def stL (l : Addr) (p : Nat) (b s : Int) (t : Nat) : List V := [.ref l, .int (p : Int), .int b, .int s, .int (t : Int)]
def StAt (l : Addr) (H : Hp) (a : Addr) : Prop := ∃ (ns : List Int) (p : Nat) (b s : Int) (t : Nat), H a = some (.lst (stL l p b s t)) ∧ l ≠ a ∧ H l = some (.lst (ns.map V.int)) ∧ p ≤ ns.length ∧ 0 ≤ b ∧ 0 ≤ s ∧ s < 10 ^ 18 ∧ t ≤ 6
theorem SX.refl (d : Addr) (H : Hp) : SX d H H := fun _ _ e _ => e
theorem SX.trans {d : Addr} {H H1 H2 : Hp} (a : SX d H H1) (b : SX d H1 H2) : SX d H H2 := fun c o e h => b c o (a c o e h) h
theorem SX.upd {d : Addr} {H H1 : Hp} {o : HO} (a : SX d H H1) : SX d H (upd H1 d o) := fun b u e h => by
  rw [upd_ne h]
  exact a b u e h
theorem Same.sx {d : Addr} {H H1 : Hp} (a : Same H H1) : SX d H H1 := fun b o e _ => a b o e
theorem boot_lst : bootBuiltins "list" = some (.type "list") := by decide +kernel
theorem boot_i : bootBuiltins "int" = some (.type "int") := by decide +kernel
section
variable {P : Program} {w : World} {K : PySem.W.Frag} {mg : Str → Option Value} {base : Heap}
def spState (K : PySem.W.Frag) : Sp := fun vs H Q _ => ∃ (a : Addr) (ns : List Int), vs = [.ref a] ∧ SqL K H a (ns.map V.int) ∧ ∀ r l H', Same H H' → H r = none → H l = none → StAt l H' r → Q (.ref r) H'
theorem scState : FnScope ["script"] ["script"] (defScope sState) := ⟨rfl, rfl, rfl, by decide +kernel, rfl, by decide +kernel, by decide +kernel⟩
theorem ok_state {f : Addr} {fd : FuncData} (F : Fun K "_law_state" "_law_state" sState f fd) (m1 : mg "list" = none) : FnOk P w K mg base CX0 1 f fd ["script"] (spState K) := by
  refine F.ok scState (fun vs H Q E ⟨a, ns, e, _⟩ => by rw [e]; rfl) (fun cdv A outer s H vs Q E hr ⟨a, ns, e, hS, q⟩ => ?_)
  subst e
  refine ⟨_, pss_one (ps_ret (pe_lst (pa_cons (pe_callTy call_list_of (by rfl) m1 boot_lst (pa_cons (pv 0) pa_nil)) (pa_cons pe_int (pa_cons pe_int (pa_cons pe_int (pa_cons pe_int pa_nil))))))), ?_⟩
  refine ⟨_, rfl, a, _, rfl, .inl hS, fun l nl => ⟨(by show 5 ≤ sizeLine; decide), fun r nr => ?_⟩⟩
  have hlr : l ≠ r := ne_of_none upd_same nr
  refine q r l _ ((same_new nl).trans (same_new nr)) ((same_new nl).free nr) nl ⟨ns, 0, 0, 0, 0, upd_same, hlr, ?_, Nat.zero_le _, by decide, by decide, by decide, by decide⟩
  rw [upd_ne hlr, upd_same]
def spDraw : Sp := fun vs H Q _ => ∃ (a l : Addr) (m : Nat), vs = [.ref a, .int m] ∧ m ≤ 1000 ∧ StAt l H a ∧ ∀ (r : Nat) H', (r < m ∨ r = 0) → StAt l H' a → SX a H H' → Q (.int r) H'
theorem scDraw : FnScope ["state", "many", "cell", "found", "mixed"] ["state", "many"] (defScope sDraw) := ⟨rfl, rfl, rfl, by decide +kernel, rfl, by decide +kernel, by decide +kernel⟩
theorem ok_draw {f : Addr} {fd : FuncData} (F : Fun K "_law_draw" "_law_draw" sDraw f fd) (ml : mg "len" = none) (mi : mg "int" = none) : FnOk P w K mg base CX0 1 f fd ["state", "many"] spDraw := by
  refine F.ok scDraw (fun vs H Q E ⟨a, l, m, e, _⟩ => by rw [e]; rfl) (fun cdv A outer s H vs Q E hr ⟨a, l, m, e, hm, hS, q⟩ => ?_)
  subst e
  refine ⟨_, pss_cons (ps_if (pt_cmpR op_lt (pv 1) pe_int (nomark _)) (pss_one (ps_ret pe_int)) pss_nil)
    (Evl.pss_cut (ps_if (PW.pt (pw_and (pt_cmpR op_eq (pe_ix ix_list (pv 0) pe_int (fun _ _ => rfl)) pe_int (nomark _)) (pw_and (pt_cmpR op_eq (pe_ix ix_list (pv 0) pe_int (fun _ _ => rfl)) pe_int (nomark _))
        (pw_and1 (pt_cmpR op_lt (pe_ix ix_list (pv 0) pe_int (fun _ _ => rfl)) (pe_callB call_len_seq (by rfl) ml PySem.boot_len (pa_cons (pe_ix ix_list (pv 0) pe_int (fun _ _ => rfl)) pa_nil)) (nomark _))))))
      (pss_cons (ps_set (i := 2) scDraw.nd rfl (Or.inl rfl) (pe_ix ix_list (pe_ix ix_list (pv 0) pe_int (fun _ _ => rfl)) (pe_ix ix_list (pv 0) pe_int (fun _ _ => rfl)) (fun _ _ => rfl)))
      (pss_cons (ps_asg (pe_op op_add (pe_ix ix_list (pv 0) pe_int (fun _ _ => rfl)) pe_int) (pg_sub (pv 0) pe_int set_list))
      (Evl.pss_cut (ps_if (pt_cmpR op_lt (pv 2) pe_int (nomark _)) (pss_one (ps_set (i := 2) scDraw.nd rfl (Or.inl rfl) (pe_op op_sub pe_int (pe_op op_mul pe_int (pv 2))))) pss_nil)
      (pss_one (ps_if (pt_cmpR op_ge (pv 2) (pe_op op_pow pe_int pe_int) (nomark _)) (pss_one (ps_asg (pv 2) (pg_sub (pv 0) pe_int set_list)))
        (pss_cons (ps_asg (pv 2) (pg_sub (pv 0) pe_int set_list)) (pss_one (ps_asg pe_int (pg_sub (pv 0) pe_int set_list))))))))) pss_nil)
    (pss_cons (ps_if (pt_cmpR op_gt (pe_ix ix_list (pv 0) pe_int (fun _ _ => rfl)) pe_int (nomark _))
      (pss_cons (ps_set (i := 3) scDraw.nd rfl (Or.inl rfl) (pe_op op_mod (pe_callTy call_int1 (by rfl) mi boot_i (pa_cons (pe_ix ix_list (pv 0) pe_int (fun _ _ => rfl)) pa_nil)) (pv 1)))
      (pss_cons (ps_asg (pe_op op_fdiv (pe_ix ix_list (pv 0) pe_int (fun _ _ => rfl)) (pv 1)) (pg_sub (pv 0) pe_int set_list))
      (pss_one (ps_ret (pv 3))))) pss_nil)
    (pss_cons (ps_if (pt_cmpR op_gt (pe_ix ix_list (pv 0) pe_int (fun _ _ => rfl)) pe_int (nomark _))
      (pss_cons (ps_asg (pe_op op_sub (pe_ix ix_list (pv 0) pe_int (fun _ _ => rfl)) pe_int) (pg_sub (pv 0) pe_int set_list))
      (pss_cons (ps_set (i := 4) scDraw.nd rfl (Or.inl rfl) (pe_op op_mod (pe_callTy call_int1 (by rfl) mi boot_i (pa_cons (pe_op op_mul (pe_ix ix_list (pv 0) pe_int (fun _ _ => rfl)) (pe_op op_add pe_int (pe_op op_mul pe_int (pe_ix ix_list (pv 0) pe_int (fun _ _ => rfl))))) pa_nil)) pe_int))
      (pss_cons (ps_set (i := 4) scDraw.nd rfl (Or.inl rfl) (pe_op op_mod (pe_callTy call_int1 (by rfl) mi boot_i (pa_cons (pe_op op_mul (pv 4) (pe_op op_add pe_int (pe_ix ix_list (pv 0) pe_int (fun _ _ => rfl)))) pa_nil)) pe_int))
      (pss_one (ps_ret (pe_op op_mod (pe_callTy call_int1 (by rfl) mi boot_i (pa_cons (pv 4) pa_nil)) (pv 1))))))) pss_nil)
    (pss_one (ps_ret pe_int))))), ?_⟩
  have hm' : (m : Int) < 1073741824 := by omega
  refine ⟨_, rfl, _, _, rfl, rfl, _, rfl, ite2 (fun h => q 0 H (.inr rfl) hS (SX.refl a H)) (fun h => ?_)⟩
  have hm2 : 2 ≤ m := by
    have := of_decide_eq_false (Bool.eq_false_iff.mpr h)
    omega
  refine ⟨fun σ H' => ∃ v2, σ = [some (.ref a), some (.int (m : Int)), v2, none, none] ∧ StAt l H' a ∧ SX a H H', ?_, ?_⟩
  · obtain ⟨ns, p, b, s, t, h1, hla, h2, hp, hb, hs, hs2, ht⟩ := id hS
    have keep : ∃ v2, ([some (.ref a), some (.int (m : Int)), none, none, none] : L2.St) = [some (.ref a), some (.int (m : Int)), v2, none, none] ∧ StAt l H a ∧ SX a H H := ⟨none, rfl, hS, SX.refl a H⟩
    refine ⟨_, rfl, a, _, _, _, rfl, rfl, SqL.of h1, atI_nat (j := 2) rfl, rfl, _, rfl, ite2 (fun c1 => ?_) (fun _ => iteF keep)⟩
    refine ⟨_, rfl, a, _, _, _, rfl, rfl, SqL.of h1, atI_nat (j := 4) rfl, rfl, _, rfl, ite2 (fun c2 => ?_) (fun _ => iteF keep)⟩
    refine ⟨_, rfl, a, _, _, _, rfl, rfl, SqL.of h1, atI_nat (j := 1) rfl, _, rfl, a, _, _, _, rfl, rfl, SqL.of h1, atI_nat (j := 0) rfl, l, _, rfl, .inl (SqL.of h2), _, _, rfl, rfl, _, rfl, ite2 (fun c3 => ?_) (fun _ => keep)⟩
    have hpl : p < ns.length := by
      have := of_decide_eq_true c3
      rw [List.length_map] at this
      omega
    refine ⟨_, rfl, a, _, _, _, rfl, rfl, SqL.of h1, atI_nat (j := 0) rfl, _, rfl, a, _, _, _, rfl, rfl, SqL.of h1, atI_nat (j := 1) rfl, l, _, _, .int ns[p], rfl, rfl, SqL.of h2, atN (by rw [List.getElem?_map, List.getElem?_eq_getElem hpl]; rfl), ?_⟩
    refine ⟨_, rfl, a, _, _, _, rfl, rfl, SqL.of h1, atI_nat (j := 1) rfl, _, _, rfl, rfl, _, rfl, a, _, 1, 1, rfl, rfl, h1, rfl, ?_⟩
    generalize ns[p] = c0
    refine ⟨fun σ H' => ∃ c : Int, 0 ≤ c ∧ σ = [some (.ref a), some (.int (m : Int)), some (.int c), none, none] ∧ H' = upd H a (.lst (stL l (p + 1) b s t)), ?_, ?_⟩
    · refine ⟨_, rfl, _, _, rfl, rfl, _, rfl, ite2 (fun c4 => ?_) (fun c4 => ?_)⟩
      · have := of_decide_eq_true c4
        exact ⟨_, rfl, _, _, rfl, rfl, .inl ⟨by decide, by decide⟩, _, _, rfl, rfl, 1 - 2 * c0, by omega, rfl, rfl⟩
      · have := of_decide_eq_false (Bool.eq_false_iff.mpr c4)
        exact ⟨c0, by omega, rfl, rfl⟩
    · rintro σ' H' ⟨c, hc, rfl, rfl⟩
      have e1 : (upd H a (.lst (stL l (p + 1) b s t))) a = some (.lst (stL l (p + 1) b s t)) := upd_same
      have e2 : ∀ o, (upd (upd H a (.lst (stL l (p + 1) b s t))) a o) l = some (.lst (ns.map V.int)) := fun o => by
        rw [upd_ne hla, upd_ne hla]
        exact h2
      have hp1 : p + 1 ≤ ns.length := hpl
      refine ⟨_, rfl, _, _, rfl, rfl, ⟨by decide, by decide, by decide⟩, _, _, rfl, rfl, _, rfl, ite2 (fun c5 => ?_) (fun c5 => ?_)⟩
      · refine ⟨_, rfl, _, rfl, a, _, 2, 2, rfl, rfl, e1, rfl, ?_⟩
        exact ⟨_, rfl, ⟨ns, p + 1, c, s, t, upd_same, hla, e2 _, hp1, hc, hs, hs2, ht⟩, ((SX.refl a H).upd).upd⟩
      · have c6 := of_decide_eq_false (Bool.eq_false_iff.mpr c5)
        have c7 : c < 10 ^ 18 := by
          have e : (10 : Int) ^ (18 : Int).toNat = 10 ^ 18 := rfl
          rw [e] at c6
          omega
        refine ⟨_, rfl, _, rfl, a, _, 3, 3, rfl, rfl, e1, rfl, _, rfl, a, _, 4, 4, rfl, rfl, upd_same, rfl, ?_⟩
        refine ⟨_, rfl, ⟨ns, p + 1, b, c, 6, upd_same, hla, ?_, hp1, hb, hc, c7, Nat.le_refl _⟩, (((SX.refl a H).upd).upd).upd⟩
        rw [upd_ne hla]
        exact e2 _
  · rintro σ' H' ⟨v2, rfl, hS', sx⟩
    obtain ⟨ns, p, b, s, t, h1, hla, h2, hp, hb, hs, hs2, ht⟩ := id hS'
    have hmp : (0 : Int) < (m : Int) := by omega
    have e2 : ∀ o, (upd H' a o) l = some (.lst (ns.map V.int)) := fun o => by
      rw [upd_ne hla]
      exact h2
    refine ⟨_, rfl, a, _, _, _, rfl, rfl, SqL.of h1, atI_nat (j := 2) rfl, _, _, rfl, rfl, _, rfl, ite2 (fun c1 => ?_) (fun c1 => ?_)⟩
    · refine ⟨_, rfl, a, _, _, _, rfl, rfl, SqL.of h1, atI_nat (j := 2) rfl, .inl ⟨_, rfl, _, rfl, _, _, rfl, rfl, hmp, ?_⟩⟩
      refine ⟨_, rfl, a, _, _, _, rfl, rfl, SqL.of h1, atI_nat (j := 2) rfl, _, rfl, _, _, rfl, rfl, ⟨hmp, hm'⟩, _, rfl, a, _, 2, 2, rfl, rfl, h1, rfl, _, rfl, ?_⟩
      show Q (.int (b % (m : Int))) _
      have n1 := Int.emod_nonneg b (show (m : Int) ≠ 0 by omega)
      have n2 := Int.emod_lt_of_pos b hmp
      obtain ⟨r, hr2⟩ := nnI n1
      rw [hr2] at n2 ⊢
      refine q r _ (.inl (by omega)) ⟨ns, p, b / (m : Int), s, t, upd_same, hla, e2 _, hp, Int.ediv_nonneg hb (by omega), hs, hs2, ht⟩ (sx.upd)
    · refine ⟨_, rfl, a, _, _, _, rfl, rfl, SqL.of h1, atI_nat (j := 4) rfl, _, _, rfl, rfl, _, rfl, ite2 (fun c2 => ?_) (fun c2 => q 0 H' (.inr rfl) hS' sx)⟩
      obtain ⟨t', rfl⟩ : ∃ t', t = t' + 1 := ⟨t - 1, by
        have := of_decide_eq_true c2
        omega⟩
      have e4 : ((t' + 1 : Nat) : Int) - 1 = (t' : Int) := by omega
      refine ⟨_, rfl, a, _, _, _, rfl, rfl, SqL.of h1, atI_nat (j := 4) rfl, _, _, rfl, rfl, _, rfl, a, _, 4, 4, rfl, rfl, h1, rfl, ?_⟩
      generalize hH1 : upd H' a _ = H1
      have e1 : H1 a = some (.lst (stL l p b s t')) := by
        rw [← hH1, upd_same]
        show some (HO.lst [.ref l, .int (p : Int), .int b, .int s, .int (((t' + 1 : Nat) : Int) - 1)]) = _
        rw [e4]
        rfl
      have sx1 : SX a H H1 := by
        rw [← hH1]
        exact sx.upd
      have e3 : H1 l = some (.lst (ns.map V.int)) := by
        rw [← hH1]
        exact e2 _
      have hfin : StAt l H1 a := ⟨ns, p, b, s, t', e1, hla, e3, hp, hb, hs, hs2, by omega⟩
      clear hH1
      refine ⟨_, rfl, a, _, _, _, rfl, rfl, SqL.of e1, atI_nat (j := 3) rfl, _, rfl, a, _, _, _, rfl, rfl, SqL.of e1, atI_nat (j := 4) rfl, _, _, rfl, rfl, .inl ⟨by decide, by decide⟩, _, _, rfl, rfl, _, _, rfl, rfl, .inl ⟨by omega, by omega⟩, .inl ⟨_, rfl, _, _, rfl, rfl, (show (0 : Int) < 2147483647 by decide), ?_⟩⟩
      have key : ∀ M : Int, 0 ≤ M → M < 2147483647 → CMul M (16807 + (t' : Int)) := fun M m1 m2 => .inl ⟨by omega, by omega⟩
      refine ⟨_, rfl, _, rfl, a, _, _, _, rfl, rfl, SqL.of e1, atI_nat (j := 4) rfl, _, _, rfl, rfl, _, _, rfl, rfl, key _ (Int.emod_nonneg _ (by decide)) (Int.emod_lt_of_pos _ (by decide)), .inl ⟨_, rfl, _, _, rfl, rfl, (show (0 : Int) < 1000003 by decide), ?_⟩⟩
      refine ⟨_, rfl, .inl ⟨_, rfl, _, rfl, _, _, rfl, rfl, hmp, ?_⟩⟩
      show Q (.int (s * (48271 + 2 * (t' : Int)) % 2147483647 * (16807 + (t' : Int)) % 1000003 % (m : Int))) H1
      generalize s * (48271 + 2 * (t' : Int)) % 2147483647 * (16807 + (t' : Int)) % 1000003 = M2
      have n1 := Int.emod_nonneg M2 (show (m : Int) ≠ 0 by omega)
      have n2 := Int.emod_lt_of_pos M2 hmp
      obtain ⟨r, hr2⟩ := nnI n1
      rw [hr2] at n2 ⊢
      exact q r H1 (.inl (by omega)) hfin sx1
end
end K9

namespace K9
open PySem PySem.Spec PyProof.Rows L2
/-- a list of lists of numbers at r -/
def VsAt (H : Hp) (r : Addr) (vss : List (List Int)) : Prop := ∃ rs : List Addr, H r = some (.lst (rs.map V.ref)) ∧ rs.length = vss.length ∧ ∀ (i : Nat) (a : Addr) (v : List Int), rs[i]? = some a → vss[i]? = some v → a ≠ r ∧ H a = some (.lst (v.map V.int))
theorem VsAt.same {H H' : Hp} {r : Addr} {vss : List (List Int)} (h : VsAt H r vss) (s : Same H H') : VsAt H' r vss := by
  obtain ⟨rs, a, b, c⟩ := h
  exact ⟨rs, s _ _ a, b, fun i x v e1 e2 => ⟨(c i x v e1 e2).1, s _ _ (c i x v e1 e2).2⟩⟩
/-- one more -/
theorem VsAt.snoc {H : Hp} {r p : Addr} {vss : List (List Int)} {v : List Int} (h : VsAt H r vss) (hp : p ≠ r) (hv : H p = some (.lst (v.map V.int))) : ∃ rs : List Addr, H r = some (.lst (rs.map V.ref)) ∧ rs.length = vss.length ∧ VsAt (upd H r (.lst (rs.map V.ref ++ [.ref p]))) r (vss ++ [v]) := by
  obtain ⟨rs, a, b, c⟩ := h
  refine ⟨rs, a, b, rs ++ [p], by rw [upd_same, List.map_append]; rfl, by simp [b], fun i x u e1 e2 => ?_⟩
  by_cases hi : i < rs.length
  · rw [List.getElem?_append_left hi] at e1
    rw [List.getElem?_append_left (by omega)] at e2
    obtain ⟨n, h⟩ := c i x u e1 e2
    exact ⟨n, by rw [upd_ne n]; exact h⟩
  · rw [List.getElem?_append_right (by omega)] at e1
    rw [List.getElem?_append_right (by omega)] at e2
    have hz : i - rs.length = 0 := by
      have := (List.getElem?_eq_some_iff.mp e1).1
      simp at this
      omega
    rw [hz] at e1
    rw [show i - vss.length = 0 by omega] at e2
    cases e1
    cases e2
    exact ⟨hp, by rw [upd_ne hp]; exact hv⟩
def wid (most : Nat) (row : List Int) (j : Nat) : List (List Int) := (List.range j).map fun (x : Nat) => row ++ [(x : Int)]
theorem wid_succ (most : Nat) (row : List Int) (j : Nat) : wid most row (j + 1) = wid most row j ++ [row ++ [(j : Int)]] := by
  unfold wid
  rw [List.range_succ, List.map_append]
  rfl
theorem vecs_succ (most k : Nat) : vecs most (k + 1) = (vecs most k).flatMap fun r => wid most r (most + 1) := rfl
theorem flat_take {α β : Type} (f : α → List β) (l : List α) (i : Nat) (x : α) (h : l[i]? = some x) : (l.take (i + 1)).flatMap f = (l.take i).flatMap f ++ f x := by
  rw [List.take_add_one, h, List.flatMap_append]
  simp
theorem flat_len (most : Nat) (l : List (List Int)) : (l.flatMap fun r => wid most r (most + 1)).length = l.length * (most + 1) := by
  induction l with
  | nil => simp
  | cons x r ih =>
    rw [List.flatMap_cons, List.length_append, ih, List.length_cons, Nat.succ_mul]
    simp [wid]
    omega
theorem vecs_len (most : Nat) : ∀ k, (vecs most k).length = (most + 1) ^ k
  | 0 => rfl
  | k + 1 => by rw [vecs_succ, flat_len, vecs_len most k, Nat.pow_succ]
section
variable {P : Program} {w : World} {K : PySem.W.Frag} {mg : Str → Option Value} {base : Heap}
def spVecs : Sp := fun vs H Q _ => ∃ c m : Nat, vs = [.int c, .int m] ∧ c ≤ 100 ∧ m ≤ 100 ∧ (∀ k, k ≤ c → (m + 1) ^ k ≤ 900) ∧ ∀ r H', Same H H' → H r = none → VsAt H' r (vecs m c) → Q (.ref r) H'
theorem scVecs : FnScope ["count", "most", "rows", "k", "wider", "row", "number"] ["count", "most"] (defScope sVecs) := ⟨rfl, rfl, rfl, by decide +kernel, rfl, by decide +kernel, by decide +kernel⟩
theorem ok_vecs {f : Addr} {fd : FuncData} (F : Fun K "_law_vectors" "_law_vectors" sVecs f fd) (mr : mg "range" = none) (ml : mg "list" = none) : FnOk P w K mg base CX0 1 f fd ["count", "most"] spVecs := by
  refine F.ok scVecs (fun vs H Q E ⟨a, m, e, _⟩ => by rw [e]; rfl) (fun cdv A outer s H vs Q E hr ⟨c, m, e, hc, hm, hz, q⟩ => ?_)
  subst e
  refine ⟨_, pss_cons (ps_set (i := 2) scVecs.nd rfl (Or.inl rfl) (pe_lst (pa_cons (pe_lst pa_nil) pa_nil)))
    (pss_cons (ps_for PassesOwn.never rfl (pi_range1 (by rfl) mr (pa_cons (pv 0) pa_nil)) (pg_name (i := 3) scVecs.nd rfl (Or.inl rfl))
      (pss_cons (ps_set (i := 4) scVecs.nd rfl (Or.inl rfl) (pe_lst pa_nil))
      (pss_cons (ps_for PassesOwn.never rfl (pi_list (pe_callTy call_list_of (by rfl) ml boot_lst (pa_cons (pv 2) pa_nil))) (pg_name (i := 5) scVecs.nd rfl (Or.inl rfl))
        (pss_one (ps_for PassesOwn.never rfl (pi_range1 (by rfl) mr (pa_cons (pe_op op_add (pv 1) pe_int) pa_nil)) (pg_name (i := 6) scVecs.nd rfl (Or.inl rfl))
          (pss_one (ps_expr (pe_bm PySem.F.plainAttrs_list PySem.F.slot_list_append PySem.F.type_list_append mt_append (pv 4) (pa_cons (pe_op op_cat (pv 5) (pe_lst (pa_cons (pv 6) pa_nil))) pa_nil)))))))
      (pss_one (ps_set (i := 2) scVecs.nd rfl (Or.inl rfl) (pv 4))))))
    (pss_one (ps_ret (pv 2)))), ?_⟩
  refine ⟨Nat.zero_le _, fun a0 na0 => ⟨(by show 1 ≤ sizeLine; decide), fun r0 nr0 => ?_⟩⟩
  have h0 : a0 ≠ r0 := ne_of_none upd_same nr0
  refine ⟨_, rfl, _, rfl, by omega, by omega, ?_⟩
  rw [Int.toNat_natCast]
  refine for_range (lo := 0) (n := c) (fun k σ H' => ∃ r v3 v4 v5 v6, σ = [some (.int (c : Int)), some (.int (m : Int)), some (.ref r), v3, v4, v5, v6] ∧ Same H H' ∧ H r = none ∧ VsAt H' r (vecs m k))
    ⟨r0, none, none, none, none, rfl, (same_new na0).trans (same_new nr0), (same_new na0).free nr0, [a0], upd_same, rfl, fun i x v e1 e2 => ?_⟩ ?_ ?_
  · match i, e1, e2 with
    | 0, e1, e2 =>
      cases e1
      cases e2
      exact ⟨h0, by rw [upd_ne h0, upd_same]; rfl⟩
    | i + 1, e1, e2 => simp at e1
  · rintro k σ H2 hk ⟨r, v3, v4, v5, v6, rfl, s2, nr, hV⟩
    rw [Int.zero_add]
    refine ⟨Nat.zero_le _, fun wd nwd => ?_⟩
    have sw : Same H2 (upd H2 wd (.lst [])) := same_new nwd
    obtain ⟨rs, r1', r2, r3⟩ := id hV
    have r1 := sw _ _ r1'
    refine ⟨_, rfl, r, _, rfl, .inl (SqL.of r1), fun L nL => ?_⟩
    have nLw : L ≠ wd := fun e => by
      rw [e, upd_same] at nL
      cases nL
    have hrsl : rs.length ≤ 900 := by
      rw [r2, vecs_len]
      exact hz k (Nat.le_of_lt hk)
    refine ⟨L, rfl, ⟨_, SqL.of upd_same⟩, for_list (K := K) (a := L) (xs := rs.map V.ref) (fun i σ H3 => ∃ v5 v6, σ = [some (.int (c : Int)), some (.int (m : Int)), some (.ref r), some (.int (k : Int)), some (.ref wd), v5, v6] ∧ Same H2 H3 ∧ H3 L = some (.lst (rs.map V.ref)) ∧
        VsAt H3 wd (((vecs m k).take i).flatMap fun x => wid m x (m + 1))) ⟨v5, v6, rfl, sw.trans (same_new nL), upd_same, [], ?_, rfl, fun i x v e1 => by simp at e1⟩ (fun i σ H3 _ ⟨_, _, _, _, e, _⟩ => SqL.of e) ?_ ?_⟩
    · rw [upd_ne nLw.symm, upd_same]
      rfl
    · rintro i y σ H3 hi ⟨v5, v6, rfl, s3, eL, hW⟩
      obtain ⟨x, hx, rfl⟩ : ∃ x, rs[i]? = some x ∧ y = V.ref x := by
        rw [List.getElem?_map] at hi
        cases e : rs[i]? with
        | none => rw [e] at hi; cases hi
        | some x => rw [e] at hi; exact ⟨x, rfl, (Option.some.inj hi).symm⟩
      have hil : i < (vecs m k).length := by
        rw [← r2]
        exact (List.getElem?_eq_some_iff.mp hx).1
      have hrow : (vecs m k)[i]? = some (vecs m k)[i] := List.getElem?_eq_getElem hil
      have hlenrow : (vecs m k)[i].length = k := ((mem_vecs m k _).mp (List.getElem_mem hil)).1
      rw [flat_take _ _ _ _ hrow]
      have hpre : (((vecs m k).take i).flatMap fun x => wid m x (m + 1)).length + (m + 1) ≤ 900 := by
        rw [flat_len, List.length_take, Nat.min_eq_left (Nat.le_of_lt hil)]
        have e1 : i * (m + 1) + (m + 1) = (i + 1) * (m + 1) := by rw [Nat.succ_mul]
        have e2 : (i + 1) * (m + 1) ≤ (vecs m k).length * (m + 1) := Nat.mul_le_mul_right _ hil
        rw [vecs_len] at e2
        have e3 := hz (k + 1) hk
        rw [Nat.pow_succ] at e3
        omega
      have hx2 := (r3 i x _ hx hrow).2
      have nxw : x ≠ wd := ne_of_none hx2 nwd
      generalize (vecs m k)[i] = row at hlenrow hx2 ⊢
      generalize ((vecs m k).take i).flatMap (fun x => wid m x (m + 1)) = pre at hpre hW ⊢
      refine ⟨_, rfl, _, _, rfl, rfl, _, rfl, by omega, by omega, ?_⟩
      rw [show ((m : Int) + 1).toNat = m + 1 by omega]
      refine for_range (lo := 0) (n := m + 1) (fun j σ H4 => ∃ v6, σ = [some (.int (c : Int)), some (.int (m : Int)), some (.ref r), some (.int (k : Int)), some (.ref wd), some (.ref x), v6] ∧ Same H2 H4 ∧ H4 L = some (.lst (rs.map V.ref)) ∧ VsAt H4 wd (pre ++ wid m row j)) ⟨v6, rfl, s3, eL, ?_⟩ ?_ ?_
      · rw [show wid m row 0 = [] from rfl, List.append_nil]
        exact hW
      · rintro j σ H4 hj ⟨v6, rfl, s4, eL4, hW4⟩
        rw [Int.zero_add]
        obtain ⟨ws, w1, w2, w3⟩ := id hW4
        refine ⟨_, rfl, .inl ⟨rfl, _, SqL.of w1⟩, _, rfl, _, rfl, (by show 1 ≤ sizeLine; decide), fun t nt => ?_⟩
        have s5 := s4.trans (same_new (o := .lst [.int (j : Int)]) nt)
        refine ⟨x, t, _, _, rfl, rfl, s5 _ _ hx2, upd_same, ?_, fun p np => ?_⟩
        · rw [List.length_map, hlenrow]
          exact Nat.le_of_lt (small1000 (by
            show k + 1 ≤ 1000
            omega))
        have s46 := (same_new (o := .lst [.int (j : Int)]) nt).trans (same_new (o := .lst (row.map V.int ++ [.int (j : Int)])) np)
        have npw : p ≠ wd := fun e => by
          rw [e, same_new (o := .lst [.int (j : Int)]) nt _ _ w1] at np
          cases np
        obtain ⟨ws', u1, u2, u3⟩ := VsAt.snoc (hW4.same s46) (v := row ++ [(j : Int)]) npw (by rw [upd_same, List.map_append]; rfl)
        refine ⟨wd, _, _, rfl, rfl, u1, ?_, ?_⟩
        · rw [List.length_map, u2, List.length_append]
          refine small1000 ?_
          have : (wid m row j).length = j := by simp [wid]
          omega
        · refine ⟨_, rfl, same_over (s4.trans s46) nwd, ?_, ?_⟩
          · rw [upd_ne nLw]
            exact s46 _ _ eL4
          · rw [wid_succ, ← List.append_assoc]
            exact u3
      · rintro σ H4 ⟨v6, rfl, s4, eL4, hW4⟩
        exact ⟨_, _, rfl, s4, eL4, hW4⟩
    · rintro σ H3 ⟨v5, v6, rfl, s3, eL, hW⟩
      rw [List.take_of_length_le (by rw [List.length_map, r2]; exact Nat.le_refl _)] at hW
      exact ⟨_, rfl, wd, _, _, _, _, rfl, s2.trans s3, s2.free nwd, hW⟩
  · rintro σ H2 ⟨r, v3, v4, v5, v6, rfl, s2, nr, hV⟩
    exact ⟨_, rfl, q r H2 s2 nr hV⟩
end
end K9

namespace K9
open PySem PySem.Spec PyProof.Rows L2
theorem boot_sum' : bootBuiltins "sum" = some (.builtin "sum") := by decide +kernel
theorem cut_eq (v : List Int) (lo hi : Nat) : cutV (v.map V.int) (some (lo : Int)) (some (hi : Int)) = ((v.take hi).drop lo).map V.int := by
  unfold cutV
  rw [HT.sIx_nat, HT.sIx_nat, List.length_map]
  apply List.ext_getElem?
  intro i
  simp only [List.map_drop, List.map_take, List.getElem?_drop, List.getElem?_take, List.getElem?_map]
  have hn : ∀ j, v.length ≤ j → v[j]? = none := fun j h => List.getElem?_eq_none h
  by_cases h1 : lo + i < hi
  · by_cases h2 : lo + i < v.length
    · rw [if_pos (by omega), if_pos h1, show min lo v.length + i = lo + i by omega]
    · rw [if_pos h1, hn _ (by omega)]
      split
      · rw [hn _ (by omega)]
      · rw [hn _ (by omega)]
        rfl
  · rw [if_neg h1, if_neg (by omega)]
section
variable {P : Program} {w : World} {K : PySem.W.Frag} {mg : Str → Option Value} {base : Heap}
def spThings (K : PySem.W.Frag) : Sp := fun vs H Q _ => ∃ (a : Addr) (v : List Int) (lo hi : Nat), vs = [.ref a, .int lo, .int hi] ∧ SqL K H a (v.map V.int) ∧ ∀ H', Same H H' → Q (.int (many v lo hi)) H'
theorem scThings : FnScope ["numbers", "low", "high"] ["numbers", "low", "high"] (defScope sThings) := ⟨rfl, rfl, rfl, by decide +kernel, rfl, by decide +kernel, by decide +kernel⟩
theorem ok_things {f : Addr} {fd : FuncData} (F : Fun K "_law_things_between" "_law_things_between" sThings f fd) (ms : mg "sum" = none) : FnOk P w K mg base CX0 1 f fd ["numbers", "low", "high"] (spThings K) := by
  refine F.ok scThings (fun vs H Q E ⟨a, v, lo, hi, e, _⟩ => by rw [e]; rfl) (fun cdv A outer s H vs Q E hr ⟨a, v, lo, hi, e, hS, q⟩ => ?_)
  subst e
  refine ⟨_, pss_one (ps_ret (pe_op op_sub (pe_op op_sub (pe_op op_add (pe_callB (cr_sum rfl) (by rfl) ms boot_sum' (pa_cons (pe_slice sl_list (pv 0) (po_some (pv 1)) (po_some (pv 2))) pa_nil)) (pv 2)) (pv 1)) pe_int)), ?_⟩
  refine ⟨_, rfl, _, rfl, _, rfl, _, rfl, _, rfl, a, _, rfl, hS, fun p np => ?_⟩
  rw [cut_eq]
  refine ⟨p, _, rfl, SqL.of upd_same, _, rfl, _, _, rfl, rfl, _, rfl, _, _, rfl, rfl, _, _, rfl, rfl, q _ (same_new np)⟩
theorem boot_len' : bootBuiltins "len" = some (.builtin "len") := PySem.boot_len
/-- the draw's limits beside one list of numbers -/
def spInCell (K : PySem.W.Frag) : Sp := fun vs H Q _ => ∃ (t a : Addr) (ls : List Lim) (v : List Int), vs = [.ref t, .ref a] ∧ LimsAt H t ls ∧ SqL K H a (v.map V.int) ∧ ∀ (b : Bool) H', (b = true ↔ inCell ls v) → Same H H' → Q (.bl b) H'
theorem scInCell : FnScope ["limits", "numbers", "limit", "many"] ["limits", "numbers"] (defScope sInCell) := ⟨rfl, rfl, rfl, by decide +kernel, rfl, by decide +kernel, by decide +kernel⟩
theorem ok_inCell {f : Addr} {fd : FuncData} (F : Fun K "_law_in_cell" "_law_in_cell" sInCell f fd) (ht : HasD P w K mg base CX0 1 "_law_things_between" (spThings K)) (ms : mg "sum" = none) (ml : mg "len" = none) : FnOk P w K mg base CX0 2 f fd ["limits", "numbers"] (spInCell K) := by
  refine F.ok scInCell (fun vs H Q E ⟨a, v, lo, hi, e, _⟩ => by rw [e]; rfl) (fun cdv A outer s H vs Q E hr ⟨t, a, ls, v, e, hL, hS, q⟩ => ?_)
  subst e
  refine ⟨_, pss_cons (ps_if (pt_cmpR op_lt (pe_op op_sub (pe_op op_add (pe_callB (cr_sum rfl) (by rfl) ms boot_sum' (pa_cons (pv 1) pa_nil)) (pe_callB call_len_seq (by rfl) ml PySem.boot_len (pa_cons (pv 1) pa_nil))) pe_int) pe_int (nomark _)) (pss_one (ps_ret pe_bl)) pss_nil)
    (pss_cons (ps_for PassesOwn.never rfl (pi_list (pv 0)) (pg_name (i := 2) scInCell.nd rfl (Or.inl rfl))
      (pss_cons (ps_set (i := 3) scInCell.nd rfl (Or.inl rfl) (call_h ht hr (by rfl) pass0 (pa_cons (pv 1) (pa_cons (pe_ix ix_tup (pv 2) pe_int (fun _ _ => rfl)) (pa_cons (pe_ix ix_tup (pv 2) pe_int (fun _ _ => rfl)) pa_nil)))))
      (pss_one (ps_if (PW.pt (pw_or (pt_cmpR op_lt (pv 3) (pe_ix ix_tup (pv 2) pe_int (fun _ _ => rfl)) (nomark _)) (pw_or1 (PW.pt (pw_and (pt_cmpR op_notN (pe_ix ix_tup (pv 2) pe_int (fun _ _ => rfl)) pe_non (nomark _)) (pw_and1 (pt_cmpR op_gt (pv 3) (pe_ix ix_tup (pv 2) pe_int (fun _ _ => rfl)) (nomark _))))))))
        (pss_one (ps_ret pe_bl)) pss_nil))))
    (pss_one (ps_ret pe_bl))), ?_⟩
  have dl : ∀ i : Nat, ((ls.length : Nat) : Int) = ls.length := fun _ => rfl
  refine ⟨_, rfl, a, _, rfl, hS, _, rfl, a, _, rfl, .inl hS, _, _, rfl, rfl, _, _, rfl, rfl, _, _, rfl, rfl, _, rfl, ?_⟩
  rw [List.length_map]
  refine ite2 (fun c => q false H ⟨(by intro e; cases e), fun hc => ?_⟩ (Same.refl _)) (fun c => ?_)
  · have := of_decide_eq_true c
    have := hc.1
    omega
  have c1 : 1 ≤ v.sum + v.length - 1 := by
    have := of_decide_eq_false (Bool.eq_false_iff.mpr c)
    omega
  obtain ⟨ts, t1, t2, t3⟩ := id hL
  refine ⟨_, rfl, t, rfl, ⟨_, SqL.of t1⟩, for_list (K := K) (a := t) (xs := ts.map V.ref) (fun i σ H2 => ∃ v2 v3, σ = [some (.ref t), some (.ref a), v2, v3] ∧ Same H H2 ∧ ∀ l ∈ ls.take i, inLim v l)
    ⟨none, none, rfl, Same.refl _, fun l h => by simp at h⟩ (fun i σ H2 _ ⟨_, _, _, s2, _⟩ => SqL.of (s2 _ _ t1)) ?_ ?_⟩
  · rintro i y σ H2 hi ⟨v2, v3, rfl, s2, hP⟩
    obtain ⟨x, hx, rfl⟩ : ∃ x, ts[i]? = some x ∧ y = V.ref x := by
      rw [List.getElem?_map] at hi
      cases e : ts[i]? with
      | none => rw [e] at hi; cases hi
      | some x => rw [e] at hi; exact ⟨x, rfl, (Option.some.inj hi).symm⟩
    have hil : i < ls.length := by
      rw [← t2]
      exact (List.getElem?_eq_some_iff.mp hx).1
    have hl : ls[i]? = some ls[i] := List.getElem?_eq_getElem hil
    have e3 := s2 _ _ (t3 i x _ hx hl)
    have hm := List.getElem_mem hil
    have et : ls.take (i + 1) = ls.take i ++ [ls[i]] := by
      rw [List.take_add_one, hl]
      rfl
    generalize ls[i] = l at hl e3 hm et
    refine ⟨_, rfl, _, rfl, x, _, _, _, rfl, rfl, SqT.of e3, atI_nat (j := 0) rfl, _, rfl, x, _, _, _, rfl, rfl, SqT.of e3, atI_nat (j := 1) rfl, a, v, l.lo, l.hi, rfl, s2.seq hS, fun H3 s3 => ?_⟩
    have e4 := s3 _ _ e3
    have bad : ¬ inLim v l → ¬ inCell ls v := fun h hc => h (hc.2 l hm)
    refine ⟨_, rfl, _, rfl, x, _, _, _, rfl, rfl, SqT.of e4, atI_nat (j := 2) rfl, _, _, rfl, rfl, _, rfl, ite2 (fun d => iteT (q false _ ⟨(by intro e; cases e), fun hc => ?_⟩ (s2.trans s3))) (fun d => ?_)⟩
    · have := of_decide_eq_true d
      have := (hc.2 l hm).1
      omega
    have d1 : (l.le : Int) ≤ many v l.lo l.hi := by
      have := of_decide_eq_false (Bool.eq_false_iff.mpr d)
      omega
    refine ⟨_, rfl, x, _, _, _, rfl, rfl, SqT.of e4, atI_nat (j := 3) rfl, rfl, _, rfl, ?_⟩
    cases hg : l.gr with
    | none =>
      refine iteF (iteF ⟨_, _, rfl, s2.trans s3, ?_⟩)
      rw [et]
      intro l' h
      rcases List.mem_append.mp h with h | h
      · exact hP l' h
      · rw [List.mem_singleton.mp h]
        exact ⟨d1, fun g e => by rw [hg] at e; cases e⟩
    | some g =>
      refine iteT ⟨_, rfl, _, rfl, x, _, _, _, rfl, rfl, SqT.of e4, atI_nat (j := 3) rfl, _, _, rfl, (by rw [hg]; rfl), _, rfl, ite2 (fun d => q false _ ⟨(by intro e; cases e), fun hc => ?_⟩ (s2.trans s3)) (fun d => ?_)⟩
      · have := of_decide_eq_true d
        have := (hc.2 l hm).2 g hg
        omega
      · have d2 := of_decide_eq_false (Bool.eq_false_iff.mpr d)
        refine ⟨_, _, rfl, s2.trans s3, ?_⟩
        rw [et]
        intro l' h
        rcases List.mem_append.mp h with h | h
        · exact hP l' h
        · rw [List.mem_singleton.mp h]
          exact ⟨d1, fun g' e => by rw [hg] at e; cases e; omega⟩
  · rintro σ H2 ⟨v2, v3, rfl, s2, hP⟩
    rw [List.take_of_length_le (by rw [List.length_map, t2]; exact Nat.le_refl _)] at hP
    exact q true H2 ⟨fun _ => ⟨c1, hP⟩, fun _ => rfl⟩ s2
end
end K9

namespace K9
open PySem PySem.Spec PyProof.Rows L2
theorem LimsAt.sx {H H' : Hp} {t st : Addr} {ls : List Lim} (h : LimsAt H t ls) {l0 : Addr} (hS : StAt l0 H st) (ht : t ≠ st) (s : SX st H H') : LimsAt H' t ls := by
  obtain ⟨ts, a, b, c⟩ := h
  obtain ⟨_, _, _, _, _, e, _⟩ := hS
  exact ⟨ts, s _ _ a ht, b, fun i x l e1 e2 => s _ _ (c i x l e1 e2) (ne_of (c i x l e1 e2) e (fun z => nomatch z))⟩
/-- one more limit -/
theorem LimsAt.snoc {H : Hp} {r p : Addr} {ls : List Lim} {l : Lim} {ts : List Addr} (h : LimsAt H r ls) (hr : H r = some (.lst (ts.map V.ref))) (hp : H p = some (limT l)) : LimsAt (upd H r (.lst (ts.map V.ref ++ [.ref p]))) r (ls ++ [l]) := by
  obtain ⟨rs, a, b, c⟩ := h
  have er : rs = ts := by
    rw [a] at hr
    have := HO.lst.inj (Option.some.inj hr)
    exact List.map_inj_right (fun _ _ q => V.ref.inj q) |>.mp this
  subst er
  have ne : ∀ x l, H x = some (limT l) → x ≠ r := fun x l e => ne_of e a (fun z => nomatch z)
  refine ⟨rs ++ [p], by rw [upd_same, List.map_append]; rfl, by simp [b], fun i x u e1 e2 => ?_⟩
  by_cases hi : i < rs.length
  · rw [List.getElem?_append_left hi] at e1
    rw [List.getElem?_append_left (by omega)] at e2
    rw [upd_ne (ne _ _ (c i x u e1 e2))]
    exact c i x u e1 e2
  · rw [List.getElem?_append_right (by omega)] at e1
    rw [List.getElem?_append_right (by omega)] at e2
    have hz : i - rs.length = 0 := by
      have := (List.getElem?_eq_some_iff.mp e1).1
      simp at this
      omega
    rw [hz] at e1
    rw [show i - ls.length = 0 by omega] at e2
    cases e1
    cases e2
    rw [upd_ne (ne _ _ hp)]
    exact hp
def LimIn (lots most : Nat) (l : Lim) : Prop := ValidL lots l ∧ l.le ≤ most ∧ ∀ g, l.gr = some g → g ≤ most
theorem StAt.keep {H H' : Hp} {st l : Addr} (h : StAt l H st) (s : Same H H') : StAt l H' st := by
  obtain ⟨ns, p, b, t1, t, h1, h2, h3, h4⟩ := h
  exact ⟨ns, p, b, t1, t, s _ _ h1, h2, s _ _ h3, h4⟩
section
variable {P : Program} {w : World} {K : PySem.W.Frag} {mg : Str → Option Value} {base : Heap}
def spLimits : Sp := fun vs H Q _ => ∃ (st l0 : Addr) (lots many most : Nat), vs = [.ref st, .int lots, .int many, .int most] ∧ lots ≤ 90 ∧ many ≤ 90 ∧ most ≤ 99 ∧ StAt l0 H st ∧
  ∀ r ls H', StAt l0 H' st → SX st H H' → LimsAt H' r ls → H r = none → ls.length ≤ many → (∀ l ∈ ls, LimIn lots most l) → Q (.ref r) H'
theorem scLimits : FnScope ["state", "lots", "many", "most", "found", "k", "low", "high", "least", "greatest"] ["state", "lots", "many", "most"] (defScope sLimits) := ⟨rfl, rfl, rfl, by decide +kernel, rfl, by decide +kernel, by decide +kernel⟩
theorem ok_limits {f : Addr} {fd : FuncData} (F : Fun K "_law_limits" "_law_limits" sLimits f fd) (hd : HasD P w K mg base CX0 1 "_law_draw" spDraw) (mr : mg "range" = none) : FnOk P w K mg base CX0 2 f fd ["state", "lots", "many", "most"] spLimits := by
  refine F.ok scLimits (fun vs H Q E ⟨a, b, c, d, g, e, _⟩ => by rw [e]; rfl) (fun cdv A outer s H vs Q E hr ⟨st, l0, lots, many, most, e, z1, z2, z3, hS, q⟩ => ?_)
  subst e
  refine ⟨_, pss_cons (ps_set (i := 4) scLimits.nd rfl (Or.inl rfl) (pe_lst pa_nil))
    (pss_cons (ps_for PassesOwn.never rfl (pi_range1 (by rfl) mr (pa_cons (call_h hd hr (by rfl) pass0 (pa_cons (pv 0) (pa_cons (pe_op op_add (pv 2) pe_int) pa_nil))) pa_nil)) (pg_name (i := 5) scLimits.nd rfl (Or.inl rfl))
      (pss_cons (ps_set (i := 6) scLimits.nd rfl (Or.inl rfl) (call_h hd hr (by rfl) pass0 (pa_cons (pv 0) (pa_cons (pe_op op_add (pv 1) pe_int) pa_nil))))
      (pss_cons (ps_set (i := 7) scLimits.nd rfl (Or.inl rfl) (pe_op op_add (pe_op op_add (pv 6) pe_int) (call_h hd hr (by rfl) pass0 (pa_cons (pv 0) (pa_cons (pe_op op_sub (pe_op op_add (pv 1) pe_int) (pv 6)) pa_nil)))))
      (pss_cons (ps_set (i := 8) scLimits.nd rfl (Or.inl rfl) (call_h hd hr (by rfl) pass0 (pa_cons (pv 0) (pa_cons (pe_op op_add (pv 3) pe_int) pa_nil))))
      (pss_cons (ps_set (i := 9) scLimits.nd rfl (Or.inl rfl) pe_non)
      (Evl.pss_cut (ps_if (pt_cmpR op_eq (call_h hd hr (by rfl) pass0 (pa_cons (pv 0) (pa_cons pe_int pa_nil))) pe_int (nomark _))
        (pss_one (ps_set (i := 9) scLimits.nd rfl (Or.inl rfl) (pe_op op_add (pv 8) (call_h hd hr (by rfl) pass0 (pa_cons (pv 0) (pa_cons (pe_op op_sub (pe_op op_add (pv 3) pe_int) (pv 8)) pa_nil)))))) pss_nil)
      (pss_one (ps_expr (pe_bm PySem.F.plainAttrs_list PySem.F.slot_list_append PySem.F.type_list_append mt_append (pv 4) (pa_cons (pe_tup (pa_cons (pv 6) (pa_cons (pv 7) (pa_cons (pv 8) (pa_cons (pv 9) pa_nil))))) pa_nil))))))))))
    (pss_one (ps_ret (pv 4)))), ?_⟩
  refine ⟨Nat.zero_le _, fun r nr => ?_⟩
  have hrs : st ≠ r := by
    obtain ⟨_, _, _, _, _, e, _⟩ := id hS
    exact ne_of_none e nr
  have hl0 : l0 ≠ r := by
    obtain ⟨_, _, _, _, _, _, _, e, _⟩ := id hS
    exact ne_of_none e nr
  have S1 := hS.keep (same_new (o := .lst []) nr)
  refine ⟨_, rfl, _, rfl, _, _, rfl, rfl, st, l0, many + 1, rfl, by omega, S1, fun c H1 hc S2 x2 => ?_⟩
  refine ⟨_, rfl, by omega, by omega, ?_⟩
  rw [Int.toNat_natCast]
  have x02 : SX st H H1 := (Same.sx (same_new (o := .lst []) nr)).trans x2
  refine for_range (lo := 0) (n := c) (fun i σ H2 => ∃ ls v5 v6 v7 v8 v9, σ = [some (.ref st), some (.int (lots : Int)), some (.int (many : Int)), some (.int (most : Int)), some (.ref r), v5, v6, v7, v8, v9] ∧ StAt l0 H2 st ∧ SX st H H2 ∧ LimsAt H2 r ls ∧ ls.length = i ∧ ∀ l ∈ ls, LimIn lots most l)
    ⟨[], none, none, none, none, none, rfl, S2, x02, ⟨[], x2 _ _ upd_same hrs.symm, rfl, fun i x l e => by simp at e⟩, rfl, fun l h => by simp at h⟩ ?_ ?_
  · rintro i σ H2 hi ⟨ls, v5, v6, v7, v8, v9, rfl, S3, x3, hL, ll, hv⟩
    rw [Int.zero_add]
    refine ⟨_, rfl, _, rfl, _, _, rfl, rfl, st, l0, lots + 1, rfl, by omega, S3, fun low H3 hlow S4 x4 => ?_⟩
    have e7 : (lots : Int) + 1 - (low : Int) = ((lots + 1 - low : Nat) : Int) := by omega
    refine ⟨_, rfl, _, _, rfl, rfl, _, rfl, _, rfl, _, _, rfl, rfl, _, rfl, _, _, rfl, rfl, st, l0, lots + 1 - low, (by show _ = [V.ref st, V.int ((lots + 1 - low : Nat) : Int)]; rw [← e7]), by omega, S4, fun hi' H4 hhi S5 x5 => ?_⟩
    refine ⟨_, _, rfl, rfl, _, rfl, _, rfl, _, _, rfl, rfl, st, l0, most + 1, rfl, by omega, S5, fun le H5 hle S6 x6 => ?_⟩
    have e8 : (low : Int) + 1 + (hi' : Int) = ((low + 1 + hi' : Nat) : Int) := by omega
    have e9 : (most : Int) + 1 - (le : Int) = ((most + 1 - le : Nat) : Int) := by omega
    have x35 := ((x4.trans x5).trans x6)
    refine ⟨fun σ H6 => ∃ gr : Option Nat, σ = [some (.ref st), some (.int (lots : Int)), some (.int (many : Int)), some (.int (most : Int)), some (.ref r), some (.int (i : Int)), some (.int (low : Int)), some (.int ((low + 1 + hi' : Nat) : Int)), some (.int (le : Int)), some (ovN gr)] ∧ StAt l0 H6 st ∧ SX st H2 H6 ∧ ∀ g, gr = some g → le ≤ g ∧ g ≤ most, ?_, ?_⟩
    · refine ⟨_, rfl, st, l0, 2, rfl, by omega, S6, fun d H6 hd S7 x7 => ⟨rfl, _, rfl, ite2 (fun c => ?_) (fun c => ?_)⟩⟩
      · refine ⟨_, rfl, _, rfl, _, rfl, _, _, rfl, rfl, _, rfl, _, _, rfl, rfl, st, l0, most + 1 - le, (by show _ = [V.ref st, V.int ((most + 1 - le : Nat) : Int)]; rw [← e9]), by omega, S7, fun d2 H7 hd2 S8 x8 => ?_⟩
        refine ⟨_, _, rfl, rfl, some (le + d2), ?_, S8, (x35.trans x7).trans x8, fun g e => ?_⟩
        · rw [← e8]
          rfl
        · cases e
          omega
      · refine ⟨none, ?_, S7, x35.trans x7, fun g e => nomatch e⟩
        rw [← e8]
        rfl
    · rintro σ H6 ⟨gr, rfl, S7, x7, hgr⟩
      have hL6 := hL.sx S3 hrs.symm x7
      obtain ⟨ts, t1, t2, t3⟩ := id hL6
      refine ⟨_, rfl, .inl ⟨rfl, _, SqL.of t1⟩, _, rfl, _, rfl, _, rfl, _, rfl, (by show 4 ≤ sizeLine; decide), fun p np => ?_⟩
      have sn : Same H6 (upd H6 p (.tup [.int (low : Int), .int ((low + 1 + hi' : Nat) : Int), .int (le : Int), ovN gr])) := same_new np
      have t1' := sn _ _ t1
      refine ⟨r, _, _, rfl, rfl, t1', ?_, ls ++ [⟨low, low + 1 + hi', le, gr⟩], _, _, _, _, _, rfl, ?_, ?_, LimsAt.snoc (hL6.same sn) t1' upd_same, ?_, fun l hl => ?_⟩
      · rw [List.length_map, t2]
        exact small1000 (by omega)
      · have S8 := S7.keep sn
        obtain ⟨ns, p', b, s', t', h1, h2, h3, h4⟩ := S8
        refine ⟨ns, p', b, s', t', by rw [upd_ne hrs]; exact h1, h2, ?_, h4⟩
        rw [upd_ne hl0]
        exact h3
      · exact fun b o e hb => by
          rw [upd_ne (ne_of_none e nr)]
          exact sn _ _ ((x3.trans x7) _ _ e hb)
      · rw [List.length_append, ll]
        rfl
      · rcases List.mem_append.mp hl with h | h
        · exact hv l h
        · rw [List.mem_singleton.mp h]
          exact ⟨⟨by show low < low + 1 + hi'; omega, by show low + 1 + hi' ≤ lots + 1; omega, by show le ≤ 99; omega, fun g e => ⟨(hgr g e).1, by have := (hgr g e).2; omega⟩⟩, by show le ≤ most; omega, fun g e => (hgr g e).2⟩
  · rintro σ H2 ⟨ls, v5, v6, v7, v8, v9, rfl, S3, x3, hL, ll, hv⟩
    exact ⟨_, rfl, q r ls H2 S3 x3 hL nr (by omega) hv⟩
end
end K9

namespace K9
open PySem PySem.Spec PyProof.Rows L2
section
variable {P : Program} {w : World} {K : PySem.W.Frag} {mg : Str → Option Value} {base : Heap}
/-! ### `_law_nearer`, `_law_far` -/
def spNearer : Sp := fun vs H Q _ => ∃ (a : Option Int) (b : Int), vs = [ov a, .int b] ∧ Q (ov (near a (some b))) H
theorem scNearer : FnScope ["one", "two"] ["one", "two"] (defScope sNearer) := ⟨rfl, rfl, rfl, by decide +kernel, rfl, by decide +kernel, by decide +kernel⟩
theorem ok_nearer {f : Addr} {fd : FuncData} (F : Fun K "_law_nearer" "_law_nearer" sNearer f fd) : FnOk P w K mg base CX0 1 f fd ["one", "two"] spNearer := by
  refine F.ok scNearer (fun vs H Q E ⟨a, b, e, _⟩ => by rw [e]; rfl) (fun cdv A outer s H vs Q E hr ⟨a, b, e, q⟩ => ?_)
  subst e
  refine ⟨_, pss_cons (ps_if (PW.pt (pw_or (pt_cmpR op_isN (pv 0) pe_non (nomark _)) (pw_or1 (pt_cmpR op_lt (pv 1) (pv 0) (nomark _))))) (pss_one (ps_ret (pv 1))) pss_nil) (pss_one (ps_ret (pv 0))), ?_⟩
  refine ⟨_, rfl, rfl, _, rfl, ?_⟩
  cases a with
  | none => exact iteT (iteT ⟨_, rfl, q⟩)
  | some i =>
    simp only [near] at q
    refine iteF ⟨_, rfl, _, rfl, _, _, rfl, rfl, _, rfl, ite2 (fun c => ?_) (fun c => ?_)⟩
    · have := of_decide_eq_true c
      rw [if_neg (by omega)] at q
      exact ⟨_, rfl, q⟩
    · have := of_decide_eq_false (Bool.eq_false_iff.mpr c)
      rw [if_pos (by omega)] at q
      exact ⟨_, rfl, q⟩
/-- a table that is a list of lists, all of them new since H0 -/
def LG (H0 H : Hp) (r : Addr) (k n : Nat) (g : G) : Prop := ∃ rs : List Addr, H r = some (.lst (rs.map V.ref)) ∧ rs.length = k ∧ H0 r = none ∧
  (∀ (i : Nat) (x : Addr), rs[i]? = some x → H0 x = none ∧ x ≠ r ∧ H x = some (.lst (rowV n g i))) ∧ ∀ (i j : Nat) (x : Addr), rs[i]? = some x → rs[j]? = some x → i = j
theorem LG.row {H0 H : Hp} {r : Addr} {k n i : Nat} {g : G} (h : LG H0 H r k n g) (hi : i < k) : ∃ (rs : List Addr) (x : Addr), H r = some (.lst (rs.map V.ref)) ∧ (rs.map V.ref)[i]? = some (.ref x) ∧ H x = some (.lst (rowV n g i)) := by
  obtain ⟨rs, a, b, c, d, e⟩ := h
  have ei : rs[i]? = some rs[i] := List.getElem?_eq_getElem (by omega)
  exact ⟨rs, rs[i], a, by rw [List.getElem?_map, ei]; rfl, (d i _ ei).2.2⟩
theorem LG.same {H0 H H' : Hp} {r : Addr} {k n : Nat} {g : G} (h : LG H0 H r k n g) (s : Same H H') : LG H0 H' r k n g := by
  obtain ⟨rs, a, b, c, d, e⟩ := h
  exact ⟨rs, s _ _ a, b, c, fun i x q => ⟨(d i x q).1, (d i x q).2.1, s _ _ (d i x q).2.2⟩, e⟩
theorem rowV_set {n : Nat} {g : G} {i j : Nat} {v : Option Int} (hj : j < n) : (rowV n g i).set j (ov v) = rowV n (setG g i j v) i := by
  apply List.ext_getElem?
  intro m
  rw [List.getElem?_set, rowV_len]
  by_cases hm : m < n
  · rw [rowV_get hm, rowV_get hm]
    unfold setG
    by_cases e : j = m
    · subst e
      rw [if_pos rfl, if_pos hj, if_pos ⟨rfl, rfl⟩]
    · rw [if_neg e, if_neg (fun h => e h.2.symm)]
  · rw [if_neg (by omega), List.getElem?_eq_none (by rw [rowV_len]; omega), List.getElem?_eq_none (by rw [rowV_len]; omega)]
theorem rowV_other {n : Nat} {g : G} {i i' j : Nat} {v : Option Int} (h : i' ≠ i) : rowV n (setG g i j v) i' = rowV n g i' := by
  unfold rowV setG
  apply List.map_congr_left
  intro m _
  rw [if_neg (fun q => h q.1)]
/-- one entry stored -/
theorem LG.set {H0 H : Hp} {r x : Addr} {rs : List Addr} {k n i j : Nat} {g : G} {v : Option Int} (h : LG H0 H r k n g) (hr : H r = some (.lst (rs.map V.ref))) (hx : (rs.map V.ref)[i]? = some (.ref x)) (hj : j < n) :
    LG H0 (upd H x (.lst ((rowV n g i).set j (ov v)))) r k n (setG g i j v) ∧ H0 x = none := by
  obtain ⟨rs', a, b, c, d, e⟩ := h
  have er : rs' = rs := by
    rw [a] at hr
    have := HO.lst.inj (Option.some.inj hr)
    exact List.map_inj_right (fun _ _ q => V.ref.inj q) |>.mp this
  subst er
  have hx' : rs'[i]? = some x := by
    rw [List.getElem?_map] at hx
    cases q : rs'[i]? with
    | none => rw [q] at hx; cases hx
    | some y => rw [q] at hx; cases hx; rfl
  obtain ⟨x1, x2, x3⟩ := d i x hx'
  refine ⟨⟨rs', by rw [upd_ne x2.symm]; exact a, b, c, fun i' y q => ?_, e⟩, x1⟩
  obtain ⟨y1, y2, y3⟩ := d i' y q
  refine ⟨y1, y2, ?_⟩
  by_cases hy : y = x
  · subst hy
    obtain rfl := e i' i y q hx'
    rw [upd_same, rowV_set hj]
  · rw [upd_ne hy, y3, rowV_other]
    intro e2
    subst e2
    rw [hx'] at q
    exact hy (Option.some.inj q).symm
theorem flat_one (n : Nat) (v : V) : (List.replicate n [v]).flatten = List.replicate n v := by
  induction n with
  | zero => rfl
  | succ n ih => rw [List.replicate_succ, List.flatten_cons, ih, List.replicate_succ]; rfl
theorem rep_get (n j : Nat) (v : V) : (List.replicate n v)[j]? = if j < n then some v else none := List.getElem?_replicate
theorem row0 {n : Nat} {lots : Nat} : (List.replicate n V.non).set 0 (.int 0) = rowV n (plainG lots) 0 := by
  apply List.ext_getElem?
  intro m
  rw [List.getElem?_set, List.length_replicate, rep_get]
  by_cases hm : m < n
  · rw [rowV_get hm, if_pos hm]
    unfold plainG
    by_cases e : 0 = m
    · rw [if_pos e, if_pos (by omega), if_pos e]
      rfl
    · rw [if_neg e, if_neg e, if_neg (by omega)]
      rfl
  · rw [List.getElem?_eq_none (l := rowV _ _ _) (by rw [rowV_len]; omega), if_neg hm]
    split
    · rw [if_neg (by omega)]
    · rfl
theorem rowS {n i : Nat} {lots : Nat} (hi : 0 < i) (hn : i < n) {d : Int} (hd : d = if lots = 0 then -2 else -1) : ((List.replicate n V.non).set i (.int 0)).set (i - 1) (.int d) = rowV n (plainG lots) i := by
  apply List.ext_getElem?
  intro m
  rw [List.getElem?_set, List.length_set, List.getElem?_set, List.length_replicate, rep_get]
  by_cases hm : m < n
  · rw [rowV_get hm]
    unfold plainG
    by_cases e : i - 1 = m
    · rw [if_pos e, if_pos (by omega), if_neg (by omega), if_pos (by omega), hd]
      split <;> rfl
    · rw [if_neg e]
      by_cases e2 : i = m
      · rw [if_pos e2, if_pos hn, if_pos e2]
        rfl
      · rw [if_neg e2, if_pos hm, if_neg e2, if_neg (by omega)]
        rfl
  · rw [List.getElem?_eq_none (l := rowV _ _ _) (by rw [rowV_len]; omega), if_neg (by omega), if_neg (by omega), if_neg hm]
theorem LG.snoc {H0 H : Hp} {r p : Addr} {k n : Nat} {g : G} {rs : List Addr} (h : LG H0 H r k n g) (hr : H r = some (.lst (rs.map V.ref))) (h0 : H0 p = none) (hp : H p = some (.lst (rowV n g k))) (hpr : p ≠ r) (hf : ∀ (i : Nat) (x : Addr), rs[i]? = some x → x ≠ p) :
    LG H0 (upd H r (.lst (rs.map V.ref ++ [.ref p]))) r (k + 1) n g := by
  obtain ⟨rs', a, b, c, d, e⟩ := h
  have er : rs' = rs := by
    rw [a] at hr
    have := HO.lst.inj (Option.some.inj hr)
    exact List.map_inj_right (fun _ _ q => V.ref.inj q) |>.mp this
  subst er
  refine ⟨rs' ++ [p], by rw [upd_same, List.map_append]; rfl, by simp [b], c, fun i x q => ?_, fun i j x q1 q2 => ?_⟩
  · by_cases hi : i < rs'.length
    · rw [List.getElem?_append_left hi] at q
      obtain ⟨u1, u2, u3⟩ := d i x q
      exact ⟨u1, u2, by rw [upd_ne u2]; exact u3⟩
    · have hl := (List.getElem?_eq_some_iff.mp q).1
      rw [List.length_append, List.length_singleton] at hl
      obtain rfl : i = rs'.length := by omega
      rw [List.getElem?_append_right (Nat.le_refl _), Nat.sub_self] at q
      cases q
      exact ⟨h0, hpr, by rw [upd_ne hpr, b]; exact hp⟩
  · have hl1 := (List.getElem?_eq_some_iff.mp q1).1
    have hl2 := (List.getElem?_eq_some_iff.mp q2).1
    rw [List.length_append, List.length_singleton] at hl1 hl2
    by_cases hi : i < rs'.length
    · rw [List.getElem?_append_left hi] at q1
      by_cases hj : j < rs'.length
      · rw [List.getElem?_append_left hj] at q2
        exact e i j x q1 q2
      · rw [List.getElem?_append_right (by omega), show j - rs'.length = 0 by omega] at q2
        cases q2
        exact absurd rfl (hf i _ q1)
    · rw [List.getElem?_append_right (by omega), show i - rs'.length = 0 by omega] at q1
      cases q1
      by_cases hj : j < rs'.length
      · rw [List.getElem?_append_left hj] at q2
        exact absurd rfl (hf j _ q2)
      · omega
theorem rowV_nat {n : Nat} {g : G} {i j : Nat} (h : j < n) : atI (rowV n g i) (j : Int) = some (ov (g i j)) := atI_nat (rowV_get h)
theorem setG_self (g : G) (a b : Nat) : setG g a b (g a b) = g := by
  funext i j
  unfold setG
  split
  · rename_i h
    rw [h.1, h.2]
  · rfl
theorem lim_sets {g : G} {l : Lim} (h : l.lo < l.hi) : (match l.gr with
    | none => setG g l.hi l.lo (near (g l.hi l.lo) (some (0 - (l.le : Int) - 1)))
    | some gr => setG (setG g l.hi l.lo (near (g l.hi l.lo) (some (0 - (l.le : Int) - 1)))) l.lo l.hi (near (g l.lo l.hi) (some ((gr : Int) + 1)))) = limG g l := by
  funext i j
  have nn : ∀ a : Option Int, near a none = a := fun a => by cases a <;> rfl
  have ez : -(l.le : Int) - 1 = 0 - (l.le : Int) - 1 := by omega
  unfold limG extraG
  cases hg : l.gr with
  | none =>
    simp only [setG]
    by_cases c : i = l.hi ∧ j = l.lo
    · rw [if_pos c, if_pos c, c.1, c.2, ez]
    · rw [if_neg c, if_neg c]
      split <;> exact (nn _).symm
  | some gr =>
    simp only [setG]
    by_cases c : i = l.hi ∧ j = l.lo
    · rw [if_neg (by omega), if_pos c, if_pos c, c.1, c.2, ez]
    · by_cases c2 : i = l.lo ∧ j = l.hi
      · rw [if_pos c2, if_neg c, if_pos c2, c2.1, c2.2]
        rfl
      · rw [if_neg c2, if_neg c, if_neg c, if_neg c2, nn]
def spFar : Sp := fun vs H Q _ => ∃ (lots : Nat) (t : Addr) (ls : List Lim), vs = [.int lots, .ref t] ∧ LimsAt H t ls ∧ lots ≤ 100 ∧ (∀ l ∈ ls, ValidL lots l) ∧
  (NN (lots + 2) (lawG lots ls) → ∀ r H', Same H H' → LG H H' r (lots + 2) (lots + 2) (lawG lots ls) → Q (.ref r) H') ∧ (NegD (lots + 2) (lawG lots ls) → ∀ H', Same H H' → Q .non H')
theorem scFar : FnScope ["lots", "limits", "many", "far", "at", "row", "limit", "middle", "to"] ["lots", "limits"] (defScope sFar) := ⟨rfl, rfl, rfl, by decide +kernel, rfl, by decide +kernel, by decide +kernel⟩
theorem ok_far {f : Addr} {fd : FuncData} (F : Fun K "_law_far" "_law_far" sFar f fd) (hn : HasD P w K mg base CX0 1 "_law_nearer" spNearer) (mr : mg "range" = none) (ml : mg "len" = none) : FnOk P w K mg base CX0 2 f fd ["lots", "limits"] spFar := by
  refine F.ok scFar (fun vs H Q E ⟨a, b, c, e, _⟩ => by rw [e]; rfl) (fun cdv A outer s H vs Q E hr ⟨lots, t, ls, e, hL, hz, hv, q1, q2⟩ => ?_)
  subst e
  refine ⟨_, pss_cons (ps_set (i := 2) scFar.nd rfl (Or.inl rfl) (pe_op op_add (pv 0) pe_int))
    (pss_cons (ps_set (i := 3) scFar.nd rfl (Or.inr rfl) (pe_lst pa_nil))
    (pss_cons (ps_for PassesOwn.never rfl (pi_range1 (by rfl) mr (pa_cons (pv 2) pa_nil)) (pg_name (i := 4) scFar.nd rfl (Or.inl rfl))
      (pss_cons (ps_set (i := 5) scFar.nd rfl (Or.inl rfl) (pe_op op_rep (pe_lst (pa_cons pe_non pa_nil)) (pv 2)))
      (pss_cons (ps_asg pe_int (pg_sub (pv 5) (pv 4) set_list))
      (Evl.pss_cut (ps_if (pt_cmpR op_gt (pv 4) pe_int (nomark _))
        (pss_cons (ps_asg (pe_un un_neg pe_int) (pg_sub (pv 5) (pe_op op_sub (pv 4) pe_int) set_list))
        (pss_one (ps_if (pt_cmpR op_eq (pv 0) pe_int (nomark _)) (pss_one (ps_asg (pe_un un_neg pe_int) (pg_sub (pv 5) (pe_op op_sub (pv 4) pe_int) set_list))) pss_nil))) pss_nil)
      (pss_one (ps_expr (pe_bm PySem.F.plainAttrs_list PySem.F.slot_list_append PySem.F.type_list_append mt_append (pv 3) (pa_cons (pv 5) pa_nil))))))))
    (pss_cons (ps_for PassesOwn.never rfl (pi_list (pv 1)) (pg_name (i := 6) scFar.nd rfl (Or.inl rfl))
      (pss_cons (ps_asg (call_h hn hr (by rfl) pass0 (pa_cons (pe_ix ix_list (pe_ix ix_list (pv 3) (pe_ix ix_tup (pv 6) pe_int (fun _ _ => rfl)) (fun _ _ => rfl)) (pe_ix ix_tup (pv 6) pe_int (fun _ _ => rfl)) (fun _ _ => rfl))
          (pa_cons (pe_op op_sub (pe_op op_sub pe_int (pe_ix ix_tup (pv 6) pe_int (fun _ _ => rfl))) pe_int) pa_nil)))
        (pg_sub (pe_ix ix_list (pv 3) (pe_ix ix_tup (pv 6) pe_int (fun _ _ => rfl)) (fun _ _ => rfl)) (pe_ix ix_tup (pv 6) pe_int (fun _ _ => rfl)) set_list))
      (pss_one (ps_if (pt_cmpR op_notN (pe_ix ix_tup (pv 6) pe_int (fun _ _ => rfl)) pe_non (nomark _))
        (pss_one (ps_asg (call_h hn hr (by rfl) pass0 (pa_cons (pe_ix ix_list (pe_ix ix_list (pv 3) (pe_ix ix_tup (pv 6) pe_int (fun _ _ => rfl)) (fun _ _ => rfl)) (pe_ix ix_tup (pv 6) pe_int (fun _ _ => rfl)) (fun _ _ => rfl))
            (pa_cons (pe_op op_add (pe_ix ix_tup (pv 6) pe_int (fun _ _ => rfl)) pe_int) pa_nil)))
          (pg_sub (pe_ix ix_list (pv 3) (pe_ix ix_tup (pv 6) pe_int (fun _ _ => rfl)) (fun _ _ => rfl)) (pe_ix ix_tup (pv 6) pe_int (fun _ _ => rfl)) set_list))) pss_nil))))
    (pss_cons (ps_for PassesOwn.never rfl (pi_range1 (by rfl) mr (pa_cons (pv 2) pa_nil)) (pg_name (i := 7) scFar.nd rfl (Or.inl rfl))
      (pss_one (ps_for PassesOwn.never rfl (pi_range1 (by rfl) mr (pa_cons (pv 2) pa_nil)) (pg_name (i := 4) scFar.nd rfl (Or.inl rfl))
        (pss_one (ps_for PassesOwn.never rfl (pi_range1 (by rfl) mr (pa_cons (pv 2) pa_nil)) (pg_name (i := 8) scFar.nd rfl (Or.inl rfl))
          (pss_one (ps_if (PW.pt (pw_and (pt_cmpR op_notN (pe_ix ix_list (pe_ix ix_list (pv 3) (pv 4) (fun _ _ => rfl)) (pv 7) (fun _ _ => rfl)) pe_non (nomark _)) (pw_and1 (pt_cmpR op_notN (pe_ix ix_list (pe_ix ix_list (pv 3) (pv 7) (fun _ _ => rfl)) (pv 8) (fun _ _ => rfl)) pe_non (nomark _)))))
            (pss_one (ps_asg (call_h hn hr (by rfl) pass0 (pa_cons (pe_ix ix_list (pe_ix ix_list (pv 3) (pv 4) (fun _ _ => rfl)) (pv 8) (fun _ _ => rfl))
                (pa_cons (pe_op op_add (pe_ix ix_list (pe_ix ix_list (pv 3) (pv 4) (fun _ _ => rfl)) (pv 7) (fun _ _ => rfl)) (pe_ix ix_list (pe_ix ix_list (pv 3) (pv 7) (fun _ _ => rfl)) (pv 8) (fun _ _ => rfl))) pa_nil)))
              (pg_sub (pe_ix ix_list (pv 3) (pv 4) (fun _ _ => rfl)) (pv 8) set_list))) pss_nil)))))))
    (pss_cons (ps_if (pt_cmpR op_gt (pe_callB call_len_seq (by rfl) ml PySem.boot_len (pa_cons (pe_lc (own := [("at", 4)]) (g := gName 4) rfl scFar.nd (pi_range1 (by rfl) mr (pa_cons (pv 2) pa_nil)) (blkOk_by (by kernel_rfl))
        (fun _ _ _ _ _ => pg_name (i := 4) scFar.nd rfl (Or.inl rfl)) (fun _ _ _ _ _ => pts_one (pt_cmpR op_lt (ixLK K (ixLK K (pv 3) (pv 4) (fun _ _ => rfl)) (pv 4) (fun _ _ => rfl)) pe_int (nomark _))) (fun _ _ _ _ _ => pv 4)) pa_nil)) pe_int (nomark _)) (pss_one (ps_ret pe_non)) pss_nil)
    (pss_one (ps_ret (pv 3)))))))), ?_⟩
  have i63 : ∀ k : Int, 0 ≤ k → k ≤ 200 → -(2 : Int) ^ 63 ≤ k ∧ k < 2 ^ 63 := fun k h0 hk => ⟨by omega, by omega⟩
  refine ⟨_, rfl, _, _, rfl, rfl, Nat.zero_le _, fun r nr => ?_⟩
  refine ⟨_, rfl, _, rfl, by omega, by omega, ?_⟩
  rw [show ((lots : Int) + 2).toNat = lots + 2 by omega]
  have s0 : Same H (upd H r (.lst [])) := same_new nr
  refine for_range (lo := 0) (n := lots + 2) (fun i σ H' => ∃ v4 v5, σ = [some (.int (lots : Int)), some (.ref t), some (.int ((lots : Int) + 2)), some (.ref r), v4, v5, none, none, none] ∧ Same H H' ∧ LG H H' r i (lots + 2) (plainG lots))
    ⟨none, none, rfl, s0, [], upd_same, rfl, nr, fun i x q => by simp at q, fun i j x q => by simp at q⟩ ?_ ?_
  · rintro i σ H' hi ⟨v4, v5, rfl, s1, hLG⟩
    rw [Int.zero_add]
    refine ⟨(by show 1 ≤ sizeLine; decide), fun x nx => ⟨_, rfl, x, (lots : Int) + 2, _, rfl, rfl, upd_same, (i63 _ (by omega) (by omega)).1, (i63 _ (by omega) (by omega)).2, ?_, fun p np => ?_⟩⟩
    · rw [show ((lots : Int) + 2).toNat = lots + 2 by omega]
      exact Nat.le_of_lt (small1000 (by show 1 * (lots + 2) ≤ 1000; omega))
    rw [show ((lots : Int) + 2).toNat = lots + 2 by omega, flat_one]
    have sx : Same H' (upd H' x (.lst [.non])) := same_new nx
    have npr : p ≠ r := fun e => by
      obtain ⟨_, z, _⟩ := hLG
      rw [e, sx _ _ z] at np
      cases np
    have npH : H' p = none := sx.free np
    have spx : ∀ o, Same H' (upd (upd H' x (.lst [.non])) p o) := fun o => sx.trans (same_new np)
    refine ⟨_, rfl, _, rfl, p, _, _, i, rfl, rfl, upd_same, Evl.ixN_nat (by rw [List.length_replicate]; omega), ?_⟩
    refine ⟨fun σ H3 => σ = [some (.int (lots : Int)), some (.ref t), some (.int ((lots : Int) + 2)), some (.ref r), some (.int (i : Int)), some (.ref p), none, none, none] ∧ Same H' H3 ∧ H3 p = some (.lst (rowV (lots + 2) (plainG lots) i)), ?_, ?_⟩
    · have lenS : ∀ (v : V), ((List.replicate (lots + 2) V.non).set i v).length = lots + 2 := fun v => by rw [List.length_set, List.length_replicate]
      refine ⟨_, rfl, _, _, rfl, rfl, _, rfl, ite2 (fun c => ?_) (fun c => ?_)⟩
      · have hi0 : 0 < i := by
          have := of_decide_eq_true c
          omega
        have ei : (i : Int) - 1 = ((i - 1 : Nat) : Int) := by omega
        refine ⟨_, rfl, _, rfl, _, rfl, _, _, rfl, rfl, p, _, _, i - 1, rfl, rfl, upd_same, (by rw [ei]; exact Evl.ixN_nat (by rw [lenS]; omega)), ?_⟩
        refine ⟨_, rfl, rfl, _, rfl, ite2 (fun c2 => ?_) (fun c2 => ?_)⟩
        · have c3 := of_decide_eq_true c2
          have c4 : lots = 0 := by
            have := V.int.inj c3
            omega
          refine ⟨_, rfl, _, rfl, _, rfl, _, _, rfl, rfl, p, _, _, i - 1, rfl, rfl, upd_same, (by rw [ei]; exact Evl.ixN_nat (by rw [List.length_set, lenS]; omega)), rfl, same_over (same_over (same_over (spx _) npH) npH) npH, ?_⟩
          rw [upd_same, List.set_set, rowS (lots := lots) hi0 hi (by rw [if_pos c4])]
        · have c4 : lots ≠ 0 := fun e => by
            rw [e] at c2
            exact c2 rfl
          refine ⟨rfl, same_over (same_over (spx _) npH) npH, ?_⟩
          rw [upd_same, rowS (lots := lots) hi0 hi (by rw [if_neg c4])]
      · have hi0 : i = 0 := by
          have := of_decide_eq_false (Bool.eq_false_iff.mpr c)
          omega
        refine ⟨rfl, same_over (spx _) npH, ?_⟩
        rw [upd_same, hi0, row0]
    · rintro σ H3 ⟨rfl, s3, e3⟩
      obtain ⟨rs, u1', u2, u3, u4, u5⟩ := id hLG
      have u1 := s3 _ _ u1'
      refine ⟨_, rfl, .inl ⟨rfl, _, SqL.of u1⟩, _, rfl, r, _, _, rfl, rfl, u1, ?_, _, _, rfl, same_over (s1.trans s3) nr, ?_⟩
      · rw [List.length_map, u2]
        exact small1000 (by omega)
      · exact LG.snoc (hLG.same s3) u1 (s1.free npH) e3 npr (fun j y q => ne_of_none (u4 j y q).2.2 npH)
  · rintro σ H' ⟨v4, v5, rfl, s1, hLG⟩
    obtain ⟨ts, t1, t2, t3⟩ := id hL
    refine ⟨_, rfl, t, rfl, ⟨_, SqL.of (s1 _ _ t1)⟩, for_list (K := K) (a := t) (xs := ts.map V.ref) (fun i σ H2 => ∃ v4 v5 v6, σ = [some (.int (lots : Int)), some (.ref t), some (.int ((lots : Int) + 2)), some (.ref r), v4, v5, v6, none, none] ∧ Same H H2 ∧ LG H H2 r (lots + 2) (lots + 2) ((ls.take i).foldl limG (plainG lots)))
      ⟨v4, v5, none, rfl, s1, hLG⟩ (fun i σ H2 _ ⟨_, _, _, _, s2, _⟩ => SqL.of (s2 _ _ t1)) ?_ ?_⟩
    · rintro i y σ H2 hi ⟨v4, v5, v6, rfl, s2, hG⟩
      obtain ⟨x, hx, rfl⟩ : ∃ x, ts[i]? = some x ∧ y = V.ref x := by
        rw [List.getElem?_map] at hi
        cases e : ts[i]? with
        | none => rw [e] at hi; cases hi
        | some x => rw [e] at hi; exact ⟨x, rfl, (Option.some.inj hi).symm⟩
      have hil : i < ls.length := by
        rw [← t2]
        exact (List.getElem?_eq_some_iff.mp hx).1
      have hl : ls[i]? = some ls[i] := List.getElem?_eq_getElem hil
      have e3 := s2 _ _ (t3 i x _ hx hl)
      have hm := hv _ (List.getElem_mem hil)
      have et : (ls.take (i + 1)).foldl limG (plainG lots) = limG ((ls.take i).foldl limG (plainG lots)) ls[i] := by
        rw [List.take_add_one, hl, List.foldl_append]
        rfl
      generalize ls[i] = l at hl e3 hm et
      generalize (ls.take i).foldl limG (plainG lots) = g at hG et
      rw [et]
      obtain ⟨m1, m2, m3, m4⟩ := hm
      have hlo : l.lo < lots + 2 := by omega
      have hhi : l.hi < lots + 2 := by omega
      obtain ⟨rs, z, g1, g3, g4⟩ := hG.row hhi
      refine ⟨_, rfl, _, rfl, x, _, _, _, rfl, rfl, SqT.of e3, atI_nat (j := 1) rfl, r, _, _, _, rfl, rfl, SqL.of g1, atN g3, _, rfl, x, _, _, _, rfl, rfl, SqT.of e3, atI_nat (j := 0) rfl, z, _, _, _, rfl, rfl, SqL.of g4, rowV_nat hlo, ?_⟩
      refine ⟨_, rfl, x, _, _, _, rfl, rfl, SqT.of e3, atI_nat (j := 2) rfl, _, _, rfl, rfl, _, _, rfl, rfl, _, _, rfl, ?_⟩
      refine ⟨_, rfl, _, rfl, x, _, _, _, rfl, rfl, SqT.of e3, atI_nat (j := 1) rfl, r, _, _, _, rfl, rfl, SqL.of g1, atN g3, _, rfl, x, _, _, _, rfl, rfl, SqT.of e3, atI_nat (j := 0) rfl, z, _, _, l.lo, rfl, rfl, g4, Evl.ixN_nat (by rw [rowV_len]; omega), ?_⟩
      obtain ⟨hG1, nz⟩ := hG.set (v := near (g l.hi l.lo) (some (0 - (l.le : Int) - 1))) g1 g3 hlo
      have s3 := same_over (o := .lst ((rowV (lots + 2) g l.hi).set l.lo (ov (near (g l.hi l.lo) (some (0 - (l.le : Int) - 1)))))) s2 nz
      have e4 : (upd H2 z (.lst ((rowV (lots + 2) g l.hi).set l.lo (ov (near (g l.hi l.lo) (some (0 - (l.le : Int) - 1))))))) x = some (limT l) := by
        rw [upd_ne (fun e => by rw [e, g4] at e3; cases e3)]
        exact e3
      have eL := lim_sets (g := g) m1
      generalize upd H2 z (.lst ((rowV (lots + 2) g l.hi).set l.lo (ov (near (g l.hi l.lo) (some (0 - (l.le : Int) - 1)))))) = H3 at hG1 s3 e4
      refine ⟨_, rfl, x, _, _, _, rfl, rfl, SqT.of e4, atI_nat (j := 3) rfl, rfl, _, rfl, ?_⟩
      cases hg : l.gr with
      | none =>
        rw [hg] at eL
        rw [← eL]
        exact iteF ⟨_, _, _, rfl, s3, hG1⟩
      | some gr =>
        rw [hg] at eL
        simp only at eL
        rw [← eL]
        have eq1 : setG g l.hi l.lo (near (g l.hi l.lo) (some (0 - (l.le : Int) - 1))) l.lo l.hi = g l.lo l.hi := by
          unfold setG
          rw [if_neg (by omega)]
        rw [← eq1]
        generalize setG g l.hi l.lo (near (g l.hi l.lo) (some (0 - (l.le : Int) - 1))) = g' at hG1
        obtain ⟨rs, z, g1, g3, g4⟩ := hG1.row hlo
        have e5 : atI [V.int (l.lo : Int), .int (l.hi : Int), .int (l.le : Int), ovN l.gr] 3 = some (.int (gr : Int)) := by
          rw [hg]
          rfl
        refine iteT ⟨_, rfl, _, rfl, x, _, _, _, rfl, rfl, SqT.of e4, atI_nat (j := 0) rfl, r, _, _, _, rfl, rfl, SqL.of g1, atN g3, _, rfl, x, _, _, _, rfl, rfl, SqT.of e4, atI_nat (j := 1) rfl, z, _, _, _, rfl, rfl, SqL.of g4, rowV_nat hhi, ?_⟩
        refine ⟨_, rfl, x, _, _, _, rfl, rfl, SqT.of e4, e5, _, _, rfl, rfl, _, _, rfl, ?_⟩
        refine ⟨_, rfl, _, rfl, x, _, _, _, rfl, rfl, SqT.of e4, atI_nat (j := 0) rfl, r, _, _, _, rfl, rfl, SqL.of g1, atN g3, _, rfl, x, _, _, _, rfl, rfl, SqT.of e4, atI_nat (j := 1) rfl, z, _, _, l.hi, rfl, rfl, g4, Evl.ixN_nat (by rw [rowV_len]; omega), ?_⟩
        obtain ⟨hG2, nz⟩ := hG1.set (v := near (g' l.lo l.hi) (some ((gr : Int) + 1))) g1 g3 hhi
        exact ⟨_, _, _, rfl, same_over s3 nz, hG2⟩
    · rintro σ H2 ⟨v4, v5, v6, rfl, s2, hG⟩
      rw [List.take_of_length_le (by rw [List.length_map, t2]; exact Nat.le_refl _)] at hG
      have hG0 : LG H H2 r (lots + 2) (lots + 2) (limsG lots ls) := hG
      clear hG
      have tn : ((lots : Int) + 2).toNat = lots + 2 := by omega
      refine ⟨_, rfl, _, rfl, by omega, by omega, ?_⟩
      rw [tn]
      refine for_range (lo := 0) (n := lots + 2) (fun m σ H3 => ∃ v4 v7 v8, σ = [some (.int (lots : Int)), some (.ref t), some (.int ((lots : Int) + 2)), some (.ref r), v4, v5, v6, v7, v8] ∧ Same H H3 ∧ LG H H3 r (lots + 2) (lots + 2) (ink (lots + 2) m (limsG lots ls)))
        ⟨v4, none, none, rfl, s2, hG0⟩ ?_ ?_
      · rintro m σ H3 hm ⟨v4, v7, v8, rfl, s3, hG3⟩
        rw [Int.zero_add]
        show tFor _ _ _ _ _ _
        rw [show ink (lots + 2) (m + 1) (limsG lots ls) = rowsG (lots + 2) m (lots + 2) (ink (lots + 2) m (limsG lots ls)) from rfl]
        generalize ink (lots + 2) m (limsG lots ls) = gm at hG3
        refine ⟨_, rfl, _, rfl, by omega, by omega, ?_⟩
        rw [tn]
        refine for_range (lo := 0) (n := lots + 2) (fun a σ H3 => ∃ v4 v8, σ = [some (.int (lots : Int)), some (.ref t), some (.int ((lots : Int) + 2)), some (.ref r), v4, v5, v6, some (.int (m : Int)), v8] ∧ Same H H3 ∧ LG H H3 r (lots + 2) (lots + 2) (rowsG (lots + 2) m a gm))
          ⟨v4, v8, rfl, s3, hG3⟩ ?_ ?_
        · rintro a σ H4 ha ⟨v4, v8, rfl, s4, hG4⟩
          rw [Int.zero_add]
          rw [show rowsG (lots + 2) m (a + 1) gm = rowG m a (lots + 2) (rowsG (lots + 2) m a gm) from rfl]
          generalize rowsG (lots + 2) m a gm = ga at hG4
          refine ⟨_, rfl, _, rfl, by omega, by omega, ?_⟩
          rw [tn]
          refine for_range (lo := 0) (n := lots + 2) (fun b σ H3 => ∃ v8, σ = [some (.int (lots : Int)), some (.ref t), some (.int ((lots : Int) + 2)), some (.ref r), some (.int (a : Int)), v5, v6, some (.int (m : Int)), v8] ∧ Same H H3 ∧ LG H H3 r (lots + 2) (lots + 2) (rowG m a b ga))
            ⟨v8, rfl, s4, hG4⟩ ?_ ?_
          · rintro b σ H5 hb ⟨v8, rfl, s5, hG5⟩
            rw [Int.zero_add]
            rw [show rowG m a (b + 1) ga = cellG m a b (rowG m a b ga) from rfl]
            generalize rowG m a b ga = g at hG5
            obtain ⟨rs, za, g1, g3, g4⟩ := hG5.row ha
            obtain ⟨rs', zm, k1, k3, k4⟩ := hG5.row hm
            refine ⟨_, rfl, _, rfl, r, _, _, _, rfl, rfl, SqL.of g1, atN g3, _, rfl, za, _, _, _, rfl, rfl, SqL.of g4, rowV_nat hm, rfl, _, rfl, ?_⟩
            rw [ov_none]
            unfold cellG
            cases e1 : g a m with
            | none =>
              refine iteF (iteF ⟨_, rfl, s5, ?_⟩)
              rw [show near (g a b) (plusO none (g m b)) = g a b by cases g a b <;> rfl, setG_self]
              exact hG5
            | some d1 =>
              refine iteT ⟨_, rfl, _, rfl, r, _, _, _, rfl, rfl, SqL.of k1, atN k3, _, rfl, zm, _, _, _, rfl, rfl, SqL.of k4, rowV_nat hb, rfl, _, rfl, ?_⟩
              rw [ov_none]
              cases e2 : g m b with
              | none =>
                refine iteF ⟨_, rfl, s5, ?_⟩
                rw [show near (g a b) (plusO (some d1) none) = g a b by cases g a b <;> rfl, setG_self]
                exact hG5
              | some d2 =>
                refine iteT ⟨_, rfl, _, rfl, r, _, _, _, rfl, rfl, SqL.of g1, atN g3, _, rfl, za, _, _, _, rfl, rfl, SqL.of g4, rowV_nat hb, ?_⟩
                refine ⟨_, rfl, _, rfl, r, _, _, _, rfl, rfl, SqL.of g1, atN g3, _, rfl, za, _, _, _, rfl, rfl, SqL.of g4, rowV_nat hm, ?_⟩
                refine ⟨_, rfl, _, rfl, r, _, _, _, rfl, rfl, SqL.of k1, atN k3, _, rfl, zm, _, _, _, rfl, rfl, SqL.of k4, rowV_nat hb, ?_⟩
                rw [e1, e2]
                refine ⟨_, _, rfl, rfl, _, _, rfl, ?_⟩
                refine ⟨_, rfl, _, rfl, r, _, _, _, rfl, rfl, SqL.of g1, atN g3, _, rfl, za, _, _, b, rfl, rfl, g4, Evl.ixN_nat (by rw [rowV_len]; omega), ?_⟩
                obtain ⟨hG6, nz⟩ := hG5.set (v := near (g a b) (some (d1 + d2))) g1 g3 hb
                exact ⟨_, rfl, same_over s5 nz, hG6⟩
          · rintro σ H5 ⟨v8, rfl, s5, hG5⟩
            exact ⟨_, _, rfl, s5, hG5⟩
        · rintro σ H4 ⟨v4, v8, rfl, s4, hG4⟩
          exact ⟨_, _, _, rfl, s4, hG4⟩
      · rintro σ H3 ⟨v4, v7, v8, rfl, s3, hG3⟩
        have hG : LG H H3 r (lots + 2) (lots + 2) (lawG lots ls) := hG3
        have hD : DS (lots + 2) (lawG lots ls) := (lims_ds lots (lots + 2) ls).le fun i => ink_le _ _ _ i i
        clear hG3
        generalize lawG lots ls = g at hG hD q1 q2
        refine ⟨_, rfl, _, rfl, by omega, by omega, fun D nD => ?_⟩
        rw [tn]
        refine lc_range (lo := 0) (n := lots + 2) (fun i H4 => Same H3 H4 ∧ ∃ ys, H4 D = some (.lst ys) ∧ ys.length ≤ i ∧ (0 < ys.length ↔ ∃ j d, j < i ∧ g j j = some d ∧ d < 0)) ⟨same_new nD, [], upd_same, Nat.le_refl _, ?_⟩ ?_ ?_
        · constructor
          · intro h
            exact absurd h (by decide)
          · rintro ⟨j, d, h, _⟩
            omega
        · rintro i H4 hi ⟨s4, ys, eD, ly, hy⟩
          rw [Int.zero_add]
          obtain ⟨d, ed, _⟩ := hD i hi
          obtain ⟨rs, z, g1, g3, g4⟩ := (hG.same s4).row hi
          refine ⟨rfl, ?_⟩
          refine ⟨_, rfl, _, rfl, r, _, _, _, rfl, rfl, SqL.of g1, atN g3, _, rfl, z, _, _, _, rfl, rfl, SqL.of g4, rowV_nat hi, ?_⟩
          rw [ed]
          refine ⟨_, _, rfl, rfl, _, rfl, ite2 (fun c => ?_) (fun c => ?_)⟩
          · refine ⟨_, rfl, ys, eD, small1000 (by omega), same_over s4 nD, _, upd_same, by simp; omega, ?_⟩
            constructor
            · intro _
              exact ⟨i, d, by omega, ed, of_decide_eq_true c⟩
            · intro _
              simp
          · refine ⟨s4, ys, eD, by omega, hy.trans ?_⟩
            constructor
            · rintro ⟨j, d, h1, h2, h3⟩
              exact ⟨j, d, by omega, h2, h3⟩
            · rintro ⟨j, d', h1, h2, h3⟩
              refine ⟨j, d', ?_, h2, h3⟩
              have : j ≠ i := fun e => by
                rw [e, ed] at h2
                cases h2
                exact c (decide_eq_true h3)
              omega
        · rintro H4 ⟨s4, ys, eD, ly, hy⟩
          refine ⟨D, ys, rfl, .inl (SqL.of eD), _, _, rfl, rfl, _, rfl, ite2 (fun c => ?_) (fun c => ?_)⟩
          · obtain ⟨j, d, h1, h2, h3⟩ := hy.mp (by have := of_decide_eq_true c; omega)
            exact q2 ⟨j, d, h1, h2, h3⟩ H4 (s3.trans s4)
          · refine ⟨_, rfl, q1 (not_neg.mp fun ⟨j, d, h1, h2, h3⟩ => ?_) r H4 (s3.trans s4) (hG.same s4)⟩
            have := hy.mpr ⟨j, d, h1, h2, h3⟩
            have := of_decide_eq_false (Bool.eq_false_iff.mpr c)
            omega
end
end K9

namespace K9
open PySem PySem.Spec PyProof.Rows L2
/-- a table as a list of lists -/
def GL (H : Hp) (r : Addr) (n : Nat) (g : G) : Prop := ∃ rs : List Addr, H r = some (.lst (rs.map V.ref)) ∧ rs.length = n ∧ ∀ (i : Nat) (x : Addr), rs[i]? = some x → H x = some (.lst (rowV n g i))
theorem GL.row {H : Hp} {r : Addr} {n i : Nat} {g : G} (h : GL H r n g) (hi : i < n) : ∃ (rs : List Addr) (x : Addr), H r = some (.lst (rs.map V.ref)) ∧ (rs.map V.ref)[i]? = some (.ref x) ∧ H x = some (.lst (rowV n g i)) := by
  obtain ⟨rs, a, b, c⟩ := h
  have ei : rs[i]? = some rs[i] := List.getElem?_eq_getElem (by omega)
  exact ⟨rs, rs[i], a, by rw [List.getElem?_map, ei]; rfl, c i _ ei⟩
theorem GL.same {H H' : Hp} {r : Addr} {n : Nat} {g : G} (h : GL H r n g) (s : Same H H') : GL H' r n g := by
  obtain ⟨rs, a, b, c⟩ := h
  exact ⟨rs, s _ _ a, b, fun i x q => s _ _ (c i x q)⟩
theorem LG.gl {H0 H : Hp} {r : Addr} {n : Nat} {g g' : G} (h : LG H0 H r n n g) (e : EqOn n g g') : GL H r n g' := by
  obtain ⟨rs, a, b, c, d, _⟩ := h
  refine ⟨rs, a, b, fun i x q => ?_⟩
  rw [(d i x q).2.2]
  have hi : i < n := by
    rw [← b]
    exact (List.getElem?_eq_some_iff.mp q).1
  congr 2
  unfold rowV
  apply List.map_congr_left
  intro j hj
  rw [e i j hi (List.mem_range.mp hj)]
/-- the view of one cell: none where nothing fits, else its distances -/
def VwAt (H : Hp) (v : V) (n : Nat) (g : G) : Prop := (v = .non ∧ NegD n g) ∨ ∃ r, v = .ref r ∧ GL H r n g ∧ NN n g
theorem VwAt.same {H H' : Hp} {v : V} {n : Nat} {g : G} (h : VwAt H v n g) (s : Same H H') : VwAt H' v n g := by
  rcases h with h | ⟨r, e, h, h2⟩
  · exact .inl h
  · exact .inr ⟨r, e, h.same s, h2⟩
def VwsAt (H : Hp) (a : Addr) (n : Nat) (gs : List G) : Prop := ∃ vs : List V, H a = some (.lst vs) ∧ vs.length = gs.length ∧ ∀ (i : Nat) (v : V) (g : G), vs[i]? = some v → gs[i]? = some g → VwAt H v n g
theorem VwsAt.same {H H' : Hp} {a : Addr} {n : Nat} {gs : List G} (h : VwsAt H a n gs) (s : Same H H') : VwsAt H' a n gs := by
  obtain ⟨vs, e, l, h⟩ := h
  exact ⟨vs, s _ _ e, l, fun i v g h1 h2 => (h i v g h1 h2).same s⟩
theorem Good.next {gs : List G} {n u : Nat} {st : List S4} (h : Good gs n u st) {k : Nat} {s : S4} (hk : st[k]? = some s) : ∃ s', st[(k + 1) % st.length]? = some s' ∧ s.b = s'.a := by
  obtain ⟨h1, h2⟩ := h.wk.steps h.lt
  have hl := (List.getElem?_eq_some_iff.mp hk).1
  by_cases c : k + 1 < st.length
  · rw [Nat.mod_eq_of_lt c]
    refine ⟨st[k + 1], List.getElem?_eq_getElem c, ?_⟩
    rw [(h1 (k + 1) _ (List.getElem?_eq_getElem c)).1, endAt_succ hk]
  · have e : k + 1 = st.length := by omega
    rw [e, Nat.mod_self]
    refine ⟨st[0], List.getElem?_eq_getElem (by omega), ?_⟩
    rw [(h1 0 _ (List.getElem?_eq_getElem (by omega))).1]
    show s.b = (u : Int)
    rw [← h2, ← e, endAt_succ hk]
theorem boot_isi : bootBuiltins "isinstance" = some (.builtin "isinstance") := by decide +kernel
theorem boot_bl : bootBuiltins "bool" = some (.type "bool") := by decide +kernel
theorem kit_tt : kitB "tuple" "tuple" = some true := by decide +kernel
theorem kit_ii : kitB "int" "int" = some true := by decide +kernel
theorem kit_ib : kitB "int" "bool" = some false := by decide +kernel
section
variable {P : Program} {w : World} {K : PySem.W.Frag} {mg : Str → Option Value} {base : Heap}
def spLCloses : Sp := fun vs H Q _ => ∃ (p a : Addr) (qs : List Addr) (st : List S4) (lots u : Nat) (gs : List G), vs = [.ref p, .ref a, .int lots] ∧ H p = some (.tup (qs.map V.ref)) ∧ StQ H qs st ∧ Good gs (lots + 2) u st ∧ VwsAt H a (lots + 2) gs ∧ lots ≤ 30 ∧ gs.length ≤ 100 ∧ Q (.bl true) H
theorem scLCloses : FnScope ["steps", "views", "lots", "total", "k", "step", "number", "limit"] ["steps", "views", "lots"] (defScope sLCloses) := ⟨rfl, rfl, rfl, by decide +kernel, rfl, by decide +kernel, by decide +kernel⟩
theorem ok_lcloses {f : Addr} {fd : FuncData} (F : Fun K "_law_closes" "_law_closes" sLCloses f fd) (mr : mg "range" = none) (ml : mg "len" = none) (mi : mg "int" = none) (mb : mg "bool" = none) (mt : mg "tuple" = none) (ms : mg "isinstance" = none) : FnOk P w K mg base CX0 1 f fd ["steps", "views", "lots"] spLCloses := by
  refine F.ok scLCloses (fun vs H Q E ⟨a, b, c, d, g, h, i, e, _⟩ => by rw [e]; rfl) (fun cdv A outer s H vs Q E hr ⟨p, a, qs, st, lots, u, gs, e, hp, hq, hG, hV, z1, z2, q⟩ => ?_)
  subst e
  refine ⟨_, pss_cons (ps_if (PW.pt (pw_or (pt_not (pt_val (pe_callB call_isi (by rfl) ms boot_isi (pa_cons (pv 0) (pa_cons (pe_bltn (v := .ty "tuple") (by rfl) mt boot_tuple rfl) pa_nil))))) (pw_or (pt_cmpR op_eq (pe_callB call_len_seq (by rfl) ml PySem.boot_len (pa_cons (pv 0) pa_nil)) pe_int (nomark _)) (pw_or1 (pt_cmpR op_gt (pe_callB call_len_seq (by rfl) ml PySem.boot_len (pa_cons (pv 0) pa_nil)) pe_int (nomark _)))))) (pss_one (ps_ret pe_bl)) pss_nil)
    (pss_cons (ps_set (i := 3) scLCloses.nd rfl (Or.inl rfl) pe_int)
    (pss_cons (ps_for PassesOwn.never rfl (pi_range1 (by rfl) mr (pa_cons (pe_callB call_len_seq (by rfl) ml PySem.boot_len (pa_cons (pv 0) pa_nil)) pa_nil)) (pg_name (i := 4) scLCloses.nd rfl (Or.inl rfl))
      (pss_cons (ps_set (i := 5) scLCloses.nd rfl (Or.inl rfl) (pe_ix ix_tup (pv 0) (pv 4) (fun _ _ => rfl)))
      (pss_cons (ps_if (PW.pt (pw_or (pt_not (pt_val (pe_callB call_isi (by rfl) ms boot_isi (pa_cons (pv 5) (pa_cons (pe_bltn (v := .ty "tuple") (by rfl) mt boot_tuple rfl) pa_nil))))) (pw_or1 (pt_cmpR op_ne (pe_callB call_len_seq (by rfl) ml PySem.boot_len (pa_cons (pv 5) pa_nil)) pe_int (nomark _))))) (pss_one (ps_ret pe_bl)) pss_nil)
      (pss_cons (ps_for PassesOwn.never rfl (pi_tup (pv 5)) (pg_name (i := 6) scLCloses.nd rfl (Or.inl rfl))
        (pss_one (ps_if (PW.pt (pw_or (pt_not (pt_val (pe_callB call_isi (by rfl) ms boot_isi (pa_cons (pv 6) (pa_cons (pe_bltn (v := .ty "int") (by rfl) mi boot_i rfl) pa_nil))))) (pw_or1 (pt_val (pe_callB call_isi (by rfl) ms boot_isi (pa_cons (pv 6) (pa_cons (pe_bltn (v := .ty "bool") (by rfl) mb boot_bl rfl) pa_nil))))))) (pss_one (ps_ret pe_bl)) pss_nil)))
      (pss_cons (ps_if (PW.pt (pw_or (pt_cmpR op_lt (pe_ix ix_tup (pv 5) pe_int (fun _ _ => rfl)) pe_int (nomark _)) (pw_or (pt_cmpR op_ge (pe_ix ix_tup (pv 5) pe_int (fun _ _ => rfl)) (pe_callB call_len_seq (by rfl) ml PySem.boot_len (pa_cons (pv 1) pa_nil)) (nomark _))
          (pw_or1 (pt_cmpR op_ne (pe_ix ix_tup (pv 5) pe_int (fun _ _ => rfl)) (pe_ix ix_tup (pe_ix ix_tup (pv 0) (pe_op op_mod (pe_callTy call_int1 (by rfl) mi boot_i (pa_cons (pe_op op_add (pv 4) pe_int) pa_nil)) (pe_callB call_len_seq (by rfl) ml PySem.boot_len (pa_cons (pv 0) pa_nil))) (fun _ _ => rfl)) pe_int (fun _ _ => rfl)) (nomark _)))))) (pss_one (ps_ret pe_bl)) pss_nil)
      (pss_cons (ps_if (PW.pt (pw_or (pt_cmpR op_lt (pe_ix ix_tup (pv 5) pe_int (fun _ _ => rfl)) pe_int (nomark _)) (pw_or (pt_cmpR op_lt (pe_ix ix_tup (pv 5) pe_int (fun _ _ => rfl)) pe_int (nomark _)) (pw_or (pt_cmpR op_gt (pe_ix ix_tup (pv 5) pe_int (fun _ _ => rfl)) (pe_op op_add (pv 2) pe_int) (nomark _))
          (pw_or1 (pt_cmpR op_gt (pe_ix ix_tup (pv 5) pe_int (fun _ _ => rfl)) (pe_op op_add (pv 2) pe_int) (nomark _))))))) (pss_one (ps_ret pe_bl)) pss_nil)
      (Evl.pss_cut (ps_if (pt_cmpR op_notN (pe_ix ix_list (pv 1) (pe_ix ix_tup (pv 5) pe_int (fun _ _ => rfl)) (fun _ _ => rfl)) pe_non (nomark _))
        (pss_cons (ps_set (i := 7) scLCloses.nd rfl (Or.inl rfl) (pe_ix ix_list (pe_ix ix_list (pe_ix ix_list (pv 1) (pe_ix ix_tup (pv 5) pe_int (fun _ _ => rfl)) (fun _ _ => rfl)) (pe_ix ix_tup (pv 5) pe_int (fun _ _ => rfl)) (fun _ _ => rfl)) (pe_ix ix_tup (pv 5) pe_int (fun _ _ => rfl)) (fun _ _ => rfl)))
        (pss_one (ps_if (PW.pt (pw_or (pt_cmpR op_isN (pv 7) pe_non (nomark _)) (pw_or1 (pt_cmpR op_lt (pe_ix ix_tup (pv 5) pe_int (fun _ _ => rfl)) (pv 7) (nomark _))))) (pss_one (ps_ret pe_bl)) pss_nil))) pss_nil)
      (pss_one (ps_set (i := 3) scLCloses.nd rfl (Or.inl rfl) (pe_op op_add (pv 3) (pe_ix ix_tup (pv 5) pe_int (fun _ _ => rfl))))))))))))
    (pss_one (ps_ret (pe_cmpR op_lt (pv 3) pe_int (nomark _)))))), ?_⟩
  have hlen := hq.1
  have hl0 : 0 < st.length := List.length_pos_iff.mpr hG.ne
  have hl5 : st.length ≤ lots + 2 := hG.len
  obtain ⟨hs, _⟩ := hG.wk.steps hG.lt
  obtain ⟨us, w1, w2, w3⟩ := id hV
  have lq : ((qs.map V.ref).length : Int) = (st.length : Int) := by rw [List.length_map, hlen]
  refine ⟨_, rfl, _, _, _, _, true, rfl, .ty "tuple", .base (.tup hp), kit_ty kit_tt, _, rfl, iteF ?_⟩
  refine ⟨_, rfl, p, _, rfl, .inr (SqT.of hp), rfl, _, rfl, ?_⟩
  rw [show decide (V.int ((qs.map V.ref).length : Int) = V.int 0) = false from decide_eq_false (fun e => by
    have := V.int.inj e
    omega)]
  refine iteF ⟨_, rfl, p, _, rfl, .inr (SqT.of hp), _, _, rfl, rfl, _, rfl, ?_⟩
  rw [decide_eq_false (show ¬ (40 : Int) < ((qs.map V.ref).length : Int) by omega)]
  refine iteF ⟨_, rfl, p, _, rfl, .inr (SqT.of hp), _, rfl, by omega, by omega, ?_⟩
  rw [lq, Int.toNat_natCast]
  refine for_range (lo := 0) (n := st.length) (fun k σ H' => ∃ v4 v5 v6 v7, σ = [some (.ref p), some (.ref a), some (.int (lots : Int)), some (.int (sumS (st.take k))), v4, v5, v6, v7] ∧ H' = H)
    ⟨none, none, none, none, rfl, rfl⟩ ?_ ?_
  · rintro k σ H' hk ⟨v4, v5, v6, v7, rfl, rfl⟩
    rw [Int.zero_add]
    have es : st[k]? = some st[k] := List.getElem?_eq_getElem hk
    have eq : qs[k]? = some qs[k] := List.getElem?_eq_getElem (by omega)
    have hst := hq.2 _ _ _ eq es
    obtain ⟨s', es', eb⟩ := hG.next es
    have hk' := (List.getElem?_eq_some_iff.mp es').1
    have eq' : qs[(k + 1) % st.length]? = some qs[(k + 1) % st.length] := List.getElem?_eq_getElem (by omega)
    have hst' := hq.2 _ _ _ eq' es'
    obtain ⟨_, c, x, y, g, d1, d2, d3, d4, d5, d6, d7⟩ := hs k _ es
    have hc := (List.getElem?_eq_some_iff.mp d6).1
    have ec : us[c]? = some us[c] := List.getElem?_eq_getElem (by omega)
    have hvw := w3 c _ g ec d6
    have esum : sumS (st.take (k + 1)) = sumS (st.take k) + st[k].d := by
      rw [List.take_add_one, es, sumS_app]
      show _ + ([st[k].d] : List Int).sum = _
      simp
    have mq : (qs.map V.ref)[k]? = some (.ref qs[k]) := by rw [List.getElem?_map, eq]; rfl
    have mq' : (qs.map V.ref)[(k + 1) % st.length]? = some (.ref qs[(k + 1) % st.length]) := by rw [List.getElem?_map, eq']; rfl
    have emod : ((k : Int) + 1) % ((qs.map V.ref).length : Int) = (((k + 1) % st.length : Nat) : Int) := by
      rw [lq]
      rfl
    generalize qs[(k + 1) % st.length] = q2 at mq' hst'
    generalize qs[k] = q1 at mq hst
    generalize hus : us[c] = uv at ec hvw
    generalize st[k] = s1 at hst d1 d2 d3 d7 esum eb es
    have i0 : atI [V.int s1.c, .int s1.a, .int s1.b, .int s1.d] 0 = some (.int (c : Int)) := by rw [d1]; rfl
    have i1 : atI [V.int s1.c, .int s1.a, .int s1.b, .int s1.d] 1 = some (.int (x : Int)) := by rw [d2]; rfl
    have i2 : atI [V.int s1.c, .int s1.a, .int s1.b, .int s1.d] 2 = some (.int (y : Int)) := by rw [d3]; rfl
    have i3 : atI [V.int s1.c, .int s1.a, .int s1.b, .int s1.d] 3 = some (.int s1.d) := rfl
    have j1 : atI [V.int s'.c, .int s'.a, .int s'.b, .int s'.d] 1 = some (.int (y : Int)) := by rw [← eb, d3]; rfl
    refine ⟨_, rfl, _, rfl, p, _, _, _, rfl, rfl, SqT.of hp, atN mq, ?_⟩
    refine ⟨_, rfl, _, _, _, _, true, rfl, .ty "tuple", .base (.tup hst), kit_ty kit_tt, _, rfl, iteF ?_⟩
    refine ⟨_, rfl, q1, _, rfl, .inr (SqT.of hst), rfl, _, rfl, iteF ?_⟩
    refine ⟨_, rfl, q1, rfl, ⟨_, SqT.of hst⟩, for_tup (K := K) (a := q1) (xs := [.int s1.c, .int s1.a, .int s1.b, .int s1.d]) (fun i σ H2 => ∃ v6, σ = [some (.ref p), some (.ref a), some (.int (lots : Int)), some (.int (sumS (st.take k))), some (.int (k : Int)), some (.ref q1), v6, v7] ∧ H2 = H')
      ⟨v6, rfl, rfl⟩ (fun i σ H2 _ ⟨_, _, e⟩ => by rw [e]; exact SqT.of hst) ?_ ?_⟩
    · rintro i z σ H2 hi ⟨v6, rfl, rfl⟩
      obtain ⟨iz, rfl⟩ : ∃ j : Int, z = .int j := by
        match i, hi with
        | 0, hi => cases hi; exact ⟨_, rfl⟩
        | 1, hi => cases hi; exact ⟨_, rfl⟩
        | 2, hi => cases hi; exact ⟨_, rfl⟩
        | 3, hi => cases hi; exact ⟨_, rfl⟩
        | i + 4, hi => simp at hi
      refine ⟨_, rfl, _, _, _, _, true, rfl, .ty "int", .base (.int iz), kit_ty kit_ii, _, rfl, iteF ?_⟩
      exact ⟨_, rfl, _, _, _, _, false, rfl, .ty "bool", .base (.int iz), kit_ty kit_ib, _, rfl, iteF ⟨_, rfl, rfl⟩⟩
    · rintro σ H2 ⟨v6, rfl, rfl⟩
      refine ⟨_, rfl, q1, _, _, _, rfl, rfl, SqT.of hst, i0, _, _, rfl, rfl, _, rfl, ?_⟩
      rw [decide_eq_false (show ¬ (c : Int) < 0 by omega)]
      refine iteF ⟨_, rfl, q1, _, _, _, rfl, rfl, SqT.of hst, i0, _, rfl, a, _, rfl, .inl (SqL.of w1), _, _, rfl, rfl, _, rfl, ?_⟩
      rw [decide_eq_false (show ¬ (us.length : Int) ≤ (c : Int) by omega)]
      refine iteF ⟨_, rfl, q1, _, _, _, rfl, rfl, SqT.of hst, i2, _, rfl, _, rfl, _, _, rfl, rfl, .inl ⟨_, rfl, _, rfl, p, _, rfl, .inr (SqT.of hp), _, _, rfl, rfl, (by omega), p, _, _, _, rfl, rfl, SqT.of hp, (by rw [emod]; exact atN mq'), q2, _, _, _, rfl, rfl, SqT.of hst', j1, rfl, _, rfl, ?_⟩⟩
      rw [decide_eq_true rfl]
      refine iteF ?_
      refine ⟨_, rfl, q1, _, _, _, rfl, rfl, SqT.of hst, i1, _, _, rfl, rfl, _, rfl, ?_⟩
      rw [decide_eq_false (show ¬ (x : Int) < 0 by omega)]
      refine iteF ⟨_, rfl, q1, _, _, _, rfl, rfl, SqT.of hst, i2, _, _, rfl, rfl, _, rfl, ?_⟩
      rw [decide_eq_false (show ¬ (y : Int) < 0 by omega)]
      refine iteF ⟨_, rfl, q1, _, _, _, rfl, rfl, SqT.of hst, i1, _, rfl, _, _, rfl, rfl, _, _, rfl, rfl, _, rfl, ?_⟩
      rw [decide_eq_false (show ¬ (lots : Int) + 1 < (x : Int) by omega)]
      refine iteF ⟨_, rfl, q1, _, _, _, rfl, rfl, SqT.of hst, i2, _, rfl, _, _, rfl, rfl, _, _, rfl, rfl, _, rfl, ?_⟩
      rw [decide_eq_false (show ¬ (lots : Int) + 1 < (y : Int) by omega)]
      refine iteF ?_
      refine ⟨fun σ H3 => ∃ v7, σ = [some (.ref p), some (.ref a), some (.int (lots : Int)), some (.int (sumS (st.take k))), some (.int (k : Int)), some (.ref q1), v6, v7] ∧ H3 = H2, ?_, ?_⟩
      · refine ⟨_, rfl, _, rfl, q1, _, _, _, rfl, rfl, SqT.of hst, i0, a, _, _, _, rfl, rfl, SqL.of w1, atN ec, rfl, _, rfl, ?_⟩
        rcases hvw with ⟨rfl, _⟩ | ⟨r, rfl, hgl, _⟩
        · exact iteF ⟨v7, rfl, rfl⟩
        · obtain ⟨rs, z, g1, g3, g4⟩ := hgl.row d4
          refine iteT ⟨_, rfl, _, rfl, q1, _, _, _, rfl, rfl, SqT.of hst, i0, a, _, _, _, rfl, rfl, SqL.of w1, atN ec, _, rfl, q1, _, _, _, rfl, rfl, SqT.of hst, i1, r, _, _, _, rfl, rfl, SqL.of g1, atN g3, _, rfl, q1, _, _, _, rfl, rfl, SqT.of hst, i2, z, _, _, _, rfl, rfl, SqL.of g4, rowV_nat d5, ?_⟩
          rw [d7]
          refine ⟨_, rfl, rfl, _, rfl, iteF ⟨_, rfl, q1, _, _, _, rfl, rfl, SqT.of hst, i3, _, rfl, _, _, rfl, rfl, _, rfl, ?_⟩⟩
          rw [decide_eq_false (show ¬ s1.d < s1.d by omega)]
          exact iteF ⟨_, rfl, rfl⟩
      · rintro σ H3 ⟨v7, rfl, rfl⟩
        refine ⟨_, rfl, _, rfl, q1, _, _, _, rfl, rfl, SqT.of hst, i3, _, _, rfl, rfl, some (.int (k : Int)), some (.ref q1), v6, v7, ?_, rfl⟩
        rw [esum]
        rfl
  · rintro σ H' ⟨v4, v5, v6, v7, rfl, rfl⟩
    refine ⟨_, rfl, _, _, rfl, rfl, ?_⟩
    have := hG.neg
    show Q (.bl (decide (sumS (st.take st.length) < 0))) H'
    rw [List.take_of_length_le (Nat.le_refl _), decide_eq_true this]
    exact q
end
end K9

namespace K9
open PySem PySem.Spec PyProof.Rows L2
/-- a list of cells at a -/
def CL (C : Addr) (H : Hp) (a : Addr) (lots : Nat) (gs : List G) : Prop := ∃ xs : List Addr, H a = some (.lst (xs.map V.ref)) ∧ xs.length = gs.length ∧ ∀ (i : Nat) (x : Addr) (g : G), xs[i]? = some x → gs[i]? = some g → BAt C H x lots g
theorem CL.same {C a : Addr} {H H' : Hp} {lots : Nat} {gs : List G} (h : CL C H a lots gs) (s : Same H H') : CL C H' a lots gs := by
  obtain ⟨xs, e1, e2, e3⟩ := h
  exact ⟨xs, s _ _ e1, e2, fun i x g h1 h2 => (e3 i x g h1 h2).same s⟩
theorem CL.tup {C p : Addr} {H : Hp} {lots : Nat} {gs : List G} {xs : List Addr} (hl : xs.length = gs.length) (h : ∀ (i : Nat) (x : Addr) (g : G), xs[i]? = some x → gs[i]? = some g → BAt C H x lots g) (np : H p = none) : CsAt C (upd H p (.tup (xs.map V.ref))) p lots gs :=
  ⟨xs, upd_same, hl, fun i x g h1 h2 => (h i x g h1 h2).same (same_new np)⟩
/-- a def of *v as its callers see it -/
def starSp (n : Nat) (sp : Sp) : Sp := fun vs H Q E => ∃ ws rest, vs = ws ++ rest ∧ ws.length = n ∧ rest.length ≤ sizeLine ∧ ∀ p, H p = Option.none → sp (ws ++ [V.ref p]) (upd H p (.tup rest)) Q E
section
variable {P : Program} {w : World} {K : PySem.W.Frag} {mg : Str → Option Value} {base : Heap}
theorem has_closing {f C OC : Addr} {fd : FuncData} (F : Fun K "closing" "closing" sClosing f fd) (B : BCls K mg C) (T : ECls K mg OC) (hL : HasD P w K mg base CX0 3 "longer_walks" (spLonger C)) (mr : mg "range" = none) (mt : mg "tuple" = none) (me : mg "enumerate" = none)
    (hm : mg "closing" = some (.ref f)) : HasD P w K mg base (L2.CX P w) 4 "closing" (starSp 0 (spClosingB C OC)) := by
  refine ⟨f, hm, F.kp, ?_⟩
  obtain ⟨oc, od, kV, doc, pm, an, cdv, ct, osl, rfl, lk, hcd⟩ := F.ex
  exact StX.fn_star (ps := []) (pv := "cells") (N := ["cells", "cell", "start", "cell_index", "walks", "_"]) lk hcd scClosing StX.cxUp (fun us rest hl => match us, rest, hl with
    | [], [], _ => rfl
    | [], r :: rs, _ => rfl) fun A outer s H vs Q E hr h => body_closing (k := 0) B T hL mr mt me hr h
theorem has_closes {f C pP gP : Addr} {fd fdP : FuncData} (F : Fun K "closes" "closes" sCloses f fd) (B : BCls K mg C) (hP : PossH P w K mg base C pP gP fdP) (mr : mg "range" = none) (ml : mg "len" = none)
    (hm : mg "closes" = some (.ref f)) : HasD P w K mg base CX0 3 "closes" (starSp 1 (spClosesB C)) := by
  refine ⟨f, hm, F.kp, ?_⟩
  obtain ⟨oc, od, kV, doc, pm, an, cdv, ct, osl, rfl, lk, hcd⟩ := F.ex
  exact StX.fn_star (ps := ["steps"]) (pv := "cells") (N := ["steps", "cells", "total", "end", "index", "at", "to", "distance", "points", "limit"]) lk hcd scCloses StX.cxUp_none (fun us rest hl => match us, rest, hl with
    | [a], [], _ => rfl
    | [a], r :: rs, _ => rfl) fun A outer s H vs Q E hr h => body_closes B hP mr ml hr h
/-- what a call of closing asks -/
theorem use_closing {C OC : Addr} {H : Hp} {Q : VK} {E : XK} {lots : Nat} {gs : List G} {xs : List Addr} {vs : List V} (ev : vs = xs.map V.ref) (hl : xs.length = gs.length) (h : ∀ (i : Nat) (x : Addr) (g : G), xs[i]? = some x → gs[i]? = some g → BAt C H x lots g)
    (h1 : 1 ≤ gs.length) (h4 : gs.length ≤ 4) (hz : lots ≤ 90) (hd : ∀ g ∈ gs, DS (lots + 2) g) (q : ∀ v H', Same H H' → ClRes H' v gs (lots + 2) → Q v H') : starSp 0 (spClosingB C OC) vs H Q E := by
  refine ⟨[], xs.map V.ref, ev, rfl, ?_, fun p np => ⟨p, rfl, .inl ⟨lots, gs, CL.tup hl h np, ?_, by omega, hz, hd, fun v H' s c => q v H' ((same_new np).trans s) c⟩⟩⟩
  · rw [List.length_map]
    exact Nat.le_of_lt (small1000 (by omega))
  · intro e
    rw [e] at h1
    simp at h1
theorem use_closes {C p : Addr} {H : Hp} {Q : VK} {E : XK} {lots : Nat} {gs : List G} {qs : List Addr} {st : List S4} {xs : List Addr} {vs : List V} (ev : vs = .ref p :: xs.map V.ref) (hp : H p = some (.tup (qs.map V.ref))) (hq : StQ H qs st) (hl : xs.length = gs.length)
    (h : ∀ (i : Nat) (x : Addr) (g : G), xs[i]? = some x → gs[i]? = some g → BAt C H x lots g) (h4 : gs.length ≤ 4) (hz : lots ≤ 90) (hd : ∀ g ∈ gs, DS (lots + 2) g) (q : ∀ b H', (b = true ↔ Closes (lots + 2) gs st) → Same H H' → Q (.bl b) H') : starSp 1 (spClosesB C) vs H Q E := by
  refine ⟨[.ref p], xs.map V.ref, ev, rfl, ?_, fun r nr => ⟨p, r, qs, st, lots, gs, rfl, same_new nr _ _ hp, hq.keep fun t xs e => same_new nr _ _ e, CL.tup hl h nr, hz, hd, fun b H' e s => q b H' e ((same_new nr).trans s)⟩⟩
  rw [List.length_map]
  exact Nat.le_of_lt (small1000 (by omega))
/-! ### the calls by number -/
def spCallAll (C fC : Addr) : Sp := fun vs H Q _ => ∃ (a : Addr) (lots : Nat) (gs : List G), vs = [.ref fC, .ref a] ∧ CL C H a lots gs ∧ 1 ≤ gs.length ∧ gs.length ≤ 4 ∧ lots ≤ 90 ∧ (∀ g ∈ gs, DS (lots + 2) g) ∧ ∀ v H', Same H H' → ClRes H' v gs (lots + 2) → Q v H'
theorem scCallAll : FnScope ["function", "things"] ["function", "things"] (defScope sCallAll) := ⟨rfl, rfl, rfl, by decide +kernel, rfl, by decide +kernel, by decide +kernel⟩
theorem ok_callAll {f C OC fC : Addr} {fd : FuncData} (F : Fun K "_law_call_all" "_law_call_all" sCallAll f fd) (ml : mg "len" = none) (kC : PySem.W.keepIn K (.ref fC) = true) (hC : FnR P w K mg base (L2.CX P w) 4 fC (starSp 0 (spClosingB C OC))) : FnOk P w K mg base CX0 5 f fd ["function", "things"] (spCallAll C fC) := by
  refine F.ok scCallAll (fun vs H Q E ⟨a, b, c, e, _⟩ => by rw [e]; rfl) (fun cdv A outer s H vs Q E hr ⟨a, lots, gs, e, hL, h1, h4, hz, hd, q⟩ => ?_)
  subst e
  refine ⟨_, pss_cons (ps_if (pt_cmpR op_eq (pe_callB call_len_seq (by rfl) ml PySem.boot_len (pa_cons (pv 1) pa_nil)) pe_int (nomark _)) (pss_one (ps_ret (ItX.pe_callV (i := 0) hC hr kC passL rfl (Or.inl rfl) (pa_cons (pe_ix ix_list (pv 1) pe_int (fun _ _ => rfl)) pa_nil)))) pss_nil)
    (pss_cons (ps_if (pt_cmpR op_eq (pe_callB call_len_seq (by rfl) ml PySem.boot_len (pa_cons (pv 1) pa_nil)) pe_int (nomark _)) (pss_one (ps_ret (ItX.pe_callV (i := 0) hC hr kC passL rfl (Or.inl rfl) (pa_cons (pe_ix ix_list (pv 1) pe_int (fun _ _ => rfl)) (pa_cons (pe_ix ix_list (pv 1) pe_int (fun _ _ => rfl)) pa_nil))))) pss_nil)
    (pss_cons (ps_if (pt_cmpR op_eq (pe_callB call_len_seq (by rfl) ml PySem.boot_len (pa_cons (pv 1) pa_nil)) pe_int (nomark _)) (pss_one (ps_ret (ItX.pe_callV (i := 0) hC hr kC passL rfl (Or.inl rfl) (pa_cons (pe_ix ix_list (pv 1) pe_int (fun _ _ => rfl)) (pa_cons (pe_ix ix_list (pv 1) pe_int (fun _ _ => rfl)) (pa_cons (pe_ix ix_list (pv 1) pe_int (fun _ _ => rfl)) pa_nil)))))) pss_nil)
    (pss_one (ps_ret (ItX.pe_callV (i := 0) hC hr kC passL rfl (Or.inl rfl) (pa_cons (pe_ix ix_list (pv 1) pe_int (fun _ _ => rfl)) (pa_cons (pe_ix ix_list (pv 1) pe_int (fun _ _ => rfl)) (pa_cons (pe_ix ix_list (pv 1) pe_int (fun _ _ => rfl)) (pa_cons (pe_ix ix_list (pv 1) pe_int (fun _ _ => rfl)) pa_nil))))))))), ?_⟩
  obtain ⟨xs, e1, e2, e3⟩ := id hL
  have S := SqL.of (K := K) e1
  have nx : ∀ n m : Nat, n ≠ m → decide (V.int (n : Int) = V.int (m : Int)) = false := fun n m h => decide_eq_false (fun e => by
    have := V.int.inj e
    omega)
  match xs, e1, e2, e3, S with
  | [], _, e2, _, _ => 
    simp at e2
    omega
  | [x0], e1, e2, e3, S =>
    refine ⟨_, rfl, a, _, rfl, .inl S, rfl, _, rfl, iteT ?_⟩
    exact ⟨rfl, _, rfl, a, _, _, _, rfl, rfl, S, atI_nat (j := 0) rfl, use_closing (xs := [x0]) rfl e2 e3 h1 h4 hz hd q⟩
  | [x0, x1], e1, e2, e3, S =>
    refine ⟨_, rfl, a, _, rfl, .inl S, rfl, _, rfl, iteF ⟨_, rfl, a, _, rfl, .inl S, rfl, _, rfl, iteT ?_⟩⟩
    exact ⟨rfl, _, rfl, a, _, _, _, rfl, rfl, S, atI_nat (j := 0) rfl, _, rfl, a, _, _, _, rfl, rfl, S, atI_nat (j := 1) rfl, use_closing (xs := [x0, x1]) rfl e2 e3 h1 h4 hz hd q⟩
  | [x0, x1, x2], e1, e2, e3, S =>
    refine ⟨_, rfl, a, _, rfl, .inl S, rfl, _, rfl, iteF ⟨_, rfl, a, _, rfl, .inl S, rfl, _, rfl, iteF ⟨_, rfl, a, _, rfl, .inl S, rfl, _, rfl, iteT ?_⟩⟩⟩
    exact ⟨rfl, _, rfl, a, _, _, _, rfl, rfl, S, atI_nat (j := 0) rfl, _, rfl, a, _, _, _, rfl, rfl, S, atI_nat (j := 1) rfl, _, rfl, a, _, _, _, rfl, rfl, S, atI_nat (j := 2) rfl, use_closing (xs := [x0, x1, x2]) rfl e2 e3 h1 h4 hz hd q⟩
  | [x0, x1, x2, x3], e1, e2, e3, S =>
    refine ⟨_, rfl, a, _, rfl, .inl S, rfl, _, rfl, iteF ⟨_, rfl, a, _, rfl, .inl S, rfl, _, rfl, iteF ⟨_, rfl, a, _, rfl, .inl S, rfl, _, rfl, iteF ?_⟩⟩⟩
    exact ⟨rfl, _, rfl, a, _, _, _, rfl, rfl, S, atI_nat (j := 0) rfl, _, rfl, a, _, _, _, rfl, rfl, S, atI_nat (j := 1) rfl, _, rfl, a, _, _, _, rfl, rfl, S, atI_nat (j := 2) rfl, _, rfl, a, _, _, _, rfl, rfl, S, atI_nat (j := 3) rfl, use_closing (xs := [x0, x1, x2, x3]) rfl e2 e3 h1 h4 hz hd q⟩
  | x0 :: x1 :: x2 :: x3 :: x4 :: r, _, e2, _, _ => 
    simp at e2
    omega
def spCallSteps (C : Addr) : Sp := fun vs H Q _ => ∃ (p a : Addr) (qs : List Addr) (st : List S4) (lots : Nat) (gs : List G), vs = [.ref p, .ref a] ∧ H p = some (.tup (qs.map V.ref)) ∧ StQ H qs st ∧ CL C H a lots gs ∧ 1 ≤ gs.length ∧ gs.length ≤ 4 ∧ lots ≤ 90 ∧ (∀ g ∈ gs, DS (lots + 2) g) ∧
  ∀ b H', (b = true ↔ Closes (lots + 2) gs st) → Same H H' → Q (.bl b) H'
theorem scLCall : FnScope ["steps", "cells"] ["steps", "cells"] (defScope sLCall) := ⟨rfl, rfl, rfl, by decide +kernel, rfl, by decide +kernel, by decide +kernel⟩
theorem ok_callSteps {f C : Addr} {fd : FuncData} (F : Fun K "_law_call_steps" "_law_call_steps" sLCall f fd) (ml : mg "len" = none) (hC : HasD P w K mg base CX0 3 "closes" (starSp 1 (spClosesB C))) : FnOk P w K mg base CX0 4 f fd ["steps", "cells"] (spCallSteps C) := by
  refine F.ok scLCall (fun vs H Q E ⟨a, b, c, d, g, h, e, _⟩ => by rw [e]; rfl) (fun cdv A outer s H vs Q E hr ⟨p, a, qs, st, lots, gs, e, hp, hq, hL, h1, h4, hz, hd, q⟩ => ?_)
  subst e
  refine ⟨_, pss_cons (ps_if (pt_cmpR op_eq (pe_callB call_len_seq (by rfl) ml PySem.boot_len (pa_cons (pv 1) pa_nil)) pe_int (nomark _)) (pss_one (ps_ret (call_h hC hr (by rfl) pass0 (pa_cons (pv 0) (pa_cons (pe_ix ix_list (pv 1) pe_int (fun _ _ => rfl)) pa_nil))))) pss_nil)
    (pss_cons (ps_if (pt_cmpR op_eq (pe_callB call_len_seq (by rfl) ml PySem.boot_len (pa_cons (pv 1) pa_nil)) pe_int (nomark _)) (pss_one (ps_ret (call_h hC hr (by rfl) pass0 (pa_cons (pv 0) (pa_cons (pe_ix ix_list (pv 1) pe_int (fun _ _ => rfl)) (pa_cons (pe_ix ix_list (pv 1) pe_int (fun _ _ => rfl)) pa_nil)))))) pss_nil)
    (pss_cons (ps_if (pt_cmpR op_eq (pe_callB call_len_seq (by rfl) ml PySem.boot_len (pa_cons (pv 1) pa_nil)) pe_int (nomark _)) (pss_one (ps_ret (call_h hC hr (by rfl) pass0 (pa_cons (pv 0) (pa_cons (pe_ix ix_list (pv 1) pe_int (fun _ _ => rfl)) (pa_cons (pe_ix ix_list (pv 1) pe_int (fun _ _ => rfl)) (pa_cons (pe_ix ix_list (pv 1) pe_int (fun _ _ => rfl)) pa_nil))))))) pss_nil)
    (pss_one (ps_ret (call_h hC hr (by rfl) pass0 (pa_cons (pv 0) (pa_cons (pe_ix ix_list (pv 1) pe_int (fun _ _ => rfl)) (pa_cons (pe_ix ix_list (pv 1) pe_int (fun _ _ => rfl)) (pa_cons (pe_ix ix_list (pv 1) pe_int (fun _ _ => rfl)) (pa_cons (pe_ix ix_list (pv 1) pe_int (fun _ _ => rfl)) pa_nil)))))))))), ?_⟩
  obtain ⟨xs, e1, e2, e3⟩ := id hL
  have S := SqL.of (K := K) e1
  match xs, e1, e2, e3, S with
  | [], _, e2, _, _ => 
    simp at e2
    omega
  | [x0], e1, e2, e3, S =>
    refine ⟨_, rfl, a, _, rfl, .inl S, rfl, _, rfl, iteT ?_⟩
    exact ⟨_, rfl, _, rfl, a, _, _, _, rfl, rfl, S, atI_nat (j := 0) rfl, use_closes (xs := [x0]) rfl hp hq e2 e3 h4 hz hd q⟩
  | [x0, x1], e1, e2, e3, S =>
    refine ⟨_, rfl, a, _, rfl, .inl S, rfl, _, rfl, iteF ⟨_, rfl, a, _, rfl, .inl S, rfl, _, rfl, iteT ?_⟩⟩
    exact ⟨_, rfl, _, rfl, a, _, _, _, rfl, rfl, S, atI_nat (j := 0) rfl, _, rfl, a, _, _, _, rfl, rfl, S, atI_nat (j := 1) rfl, use_closes (xs := [x0, x1]) rfl hp hq e2 e3 h4 hz hd q⟩
  | [x0, x1, x2], e1, e2, e3, S =>
    refine ⟨_, rfl, a, _, rfl, .inl S, rfl, _, rfl, iteF ⟨_, rfl, a, _, rfl, .inl S, rfl, _, rfl, iteF ⟨_, rfl, a, _, rfl, .inl S, rfl, _, rfl, iteT ?_⟩⟩⟩
    exact ⟨_, rfl, _, rfl, a, _, _, _, rfl, rfl, S, atI_nat (j := 0) rfl, _, rfl, a, _, _, _, rfl, rfl, S, atI_nat (j := 1) rfl, _, rfl, a, _, _, _, rfl, rfl, S, atI_nat (j := 2) rfl, use_closes (xs := [x0, x1, x2]) rfl hp hq e2 e3 h4 hz hd q⟩
  | [x0, x1, x2, x3], e1, e2, e3, S =>
    refine ⟨_, rfl, a, _, rfl, .inl S, rfl, _, rfl, iteF ⟨_, rfl, a, _, rfl, .inl S, rfl, _, rfl, iteF ⟨_, rfl, a, _, rfl, .inl S, rfl, _, rfl, iteF ?_⟩⟩⟩
    exact ⟨_, rfl, _, rfl, a, _, _, _, rfl, rfl, S, atI_nat (j := 0) rfl, _, rfl, a, _, _, _, rfl, rfl, S, atI_nat (j := 1) rfl, _, rfl, a, _, _, _, rfl, rfl, S, atI_nat (j := 2) rfl, _, rfl, a, _, _, _, rfl, rfl, S, atI_nat (j := 3) rfl, use_closes (xs := [x0, x1, x2, x3]) rfl hp hq e2 e3 h4 hz hd q⟩
  | x0 :: x1 :: x2 :: x3 :: x4 :: r, _, e2, _, _ => 
    simp at e2
    omega
/-! ### Bounds(lots, limits) -/
structure BMk (P : Program) (w : World) (K : PySem.W.Frag) (mg : Str → Option Value) (base : Heap) (C f : Addr) (fd : FuncData) (ds : List Value) : Prop where
  m : Mk K C f
  ok : FnOk P w K mg base CX0 3 f fd ["self", "lots", "limits", "far"] (spInit C)
  bi : Binds K fd ["self", "lots", "limits", "far"] ds
  va : Vals [V.non] ds
theorem make_use {C t : Addr} {lots : Nat} {ls : List Lim} {H1 : Hp} {Q : VK} (ht : LimsAt H1 t ls) (hz : lots ≤ 100) (hv : ∀ l ∈ ls, ValidL lots l) (q : ∀ x H', Same H1 H' → H1 x = none → BAt C H' x lots (farG lots ls) → Q (.ref x) H') :
    ∀ x dx, H1 x = none → H1 dx = none → dx ≠ x → spInit C [.ref x, .int lots, .ref t, .non] (upd (upd H1 dx (.own x)) x (.ins C dx [])) (fun v H2 => v = .non ∧ Q (.ref x) H2) E0 := by
  intro x dx nx nd hne
  have s1 : Same H1 (upd H1 dx (.own x)) := same_new nd
  have s2 : Same (upd H1 dx (.own x)) (upd (upd H1 dx (.own x)) x (.ins C dx [])) := same_new (by rw [upd_ne hne.symm]; exact nx)
  have sm := s1.trans s2
  exact ⟨x, dx, t, lots, ls, rfl, upd_same, ht.same sm, hz, hv, fun H' hB hk => ⟨rfl, q x H' (fun b o e => hk b o (sm _ _ e) (ne_of_none e nx)) nx hB⟩⟩
end
end K9

namespace K9
open PySem PySem.Spec PyProof.Rows L2
section
variable {te : TE} {σ : L2.St} {H1 : Hp} {D : Addr} {Qd : Hp → Prop}
/-- a comprehension over a list, one object a turn -/
theorem lc_growL {K : PySem.W.Frag} {a : Addr} {xs : List V} {i0 : Nat} (R : Nat → V → Hp → Prop) (hx : H1 a = some (.lst xs)) (hD : H1 D = none) (hn : xs.length ≤ 1000) (hS : ∀ i y H H', R i y H → Same H H' → R i y H') (hU : ∀ i y H xs zs, R i y H → H D = some (.lst xs) → H1 D = none → Same H1 H → R i y (upd H D (.lst zs)))
    (hs : ∀ i x H acc (Kq : VK), xs[i]? = some x → Same H1 H → H D = some (.lst acc) → (∀ y H4, Same H H4 → R i y H4 → Kq y H4) → te ((wipe σ [i0]).set i0 (some x)) H Kq)
    (hd : ∀ H ys, Same H1 H → H D = some (.lst ys) → ys.length = xs.length → (∀ i y, ys[i]? = some y → R i y H) → Qd H) :
    ∃ W : Nat → Nat → Hp → Prop, (∃ m, W 0 m (upd H1 D (.lst []))) ∧ ∀ i m H, W i m H →
      ((Itl K a).stop i H ∧ Qd H) ∨ ((Itl K a).go i H ∧ ∃ Nx : Hp → Prop, (∀ H', Nx H' → ∃ m', m' < m ∧ W (i + 1) m' H') ∧ ∀ x H', (Itl K a).yld i H x H' → gName i0 x (wipe σ [i0]) H' fun σ2 H2 => wipe σ2 [i0] = wipe σ [i0] ∧ tYes σ2 H2 fun b H3 =>
        if b = true then te σ2 H3 fun y H4 => ∃ acc, H4 D = some (.lst acc) ∧ acc.length < sizeLine ∧ Nx (upd H4 D (.lst (acc ++ [y]))) else Nx H3) := by
  refine lc_list (K := K) (a := a) (xs := xs) (fun i H => Same H1 H ∧ ∃ ys, H D = some (.lst ys) ∧ ys.length = i ∧ ∀ j y, ys[j]? = some y → R j y H) ⟨same_new hD, [], upd_same, rfl, fun j y e => by simp at e⟩ (fun i H _ p => SqL.of (p.1 _ _ hx)) ?_ ?_
  · rintro i x H hi ⟨sm, ys, eD, len, hR⟩
    have hil := (List.getElem?_eq_some_iff.mp hi).1
    refine ⟨wipe_one _ _ _, ?_⟩
    unfold tYes
    dsimp only
    rw [if_pos rfl]
    refine hs i x H ys _ hi sm eD fun y H4 s4 r4 => ?_
    have e4 : H4 D = some (.lst ys) := s4 _ _ eD
    refine ⟨ys, e4, small1000 (by omega), same_over (sm.trans s4) hD, ys ++ [y], upd_same, by simp [len], fun j z ez => ?_⟩
    by_cases hj : j < ys.length
    · rw [List.getElem?_append_left hj] at ez
      exact hU _ _ _ _ _ (hS _ _ _ _ (hR j z ez) s4) e4 hD (sm.trans s4)
    · rw [List.getElem?_append_right (by omega)] at ez
      have hj2 : j - ys.length = 0 := by
        have := (List.getElem?_eq_some_iff.mp ez).1
        simp at this
        omega
      rw [hj2] at ez
      cases ez
      have : j = i := by omega
      subst this
      exact hU _ _ _ _ _ r4 e4 hD (sm.trans s4)
  · rintro H ⟨sm, ys, eD, len, hR⟩
    exact hd H ys sm eD len hR
/-- a comprehension over a tuple, one object a turn -/
theorem lc_growT {K : PySem.W.Frag} {a : Addr} {xs : List V} {i0 : Nat} (R : Nat → V → Hp → Prop) (hx : H1 a = some (.tup xs)) (hD : H1 D = none) (hn : xs.length ≤ 1000) (hS : ∀ i y H H', R i y H → Same H H' → R i y H') (hU : ∀ i y H xs zs, R i y H → H D = some (.lst xs) → H1 D = none → Same H1 H → R i y (upd H D (.lst zs)))
    (hs : ∀ i x H acc (Kq : VK), xs[i]? = some x → Same H1 H → H D = some (.lst acc) → (∀ y H4, Same H H4 → R i y H4 → Kq y H4) → te ((wipe σ [i0]).set i0 (some x)) H Kq)
    (hd : ∀ H ys, Same H1 H → H D = some (.lst ys) → ys.length = xs.length → (∀ i y, ys[i]? = some y → R i y H) → Qd H) :
    ∃ W : Nat → Nat → Hp → Prop, (∃ m, W 0 m (upd H1 D (.lst []))) ∧ ∀ i m H, W i m H →
      ((Itt K a).stop i H ∧ Qd H) ∨ ((Itt K a).go i H ∧ ∃ Nx : Hp → Prop, (∀ H', Nx H' → ∃ m', m' < m ∧ W (i + 1) m' H') ∧ ∀ x H', (Itt K a).yld i H x H' → gName i0 x (wipe σ [i0]) H' fun σ2 H2 => wipe σ2 [i0] = wipe σ [i0] ∧ tYes σ2 H2 fun b H3 =>
        if b = true then te σ2 H3 fun y H4 => ∃ acc, H4 D = some (.lst acc) ∧ acc.length < sizeLine ∧ Nx (upd H4 D (.lst (acc ++ [y]))) else Nx H3) := by
  refine lc_tup (K := K) (a := a) (xs := xs) (fun i H => Same H1 H ∧ ∃ ys, H D = some (.lst ys) ∧ ys.length = i ∧ ∀ j y, ys[j]? = some y → R j y H) ⟨same_new hD, [], upd_same, rfl, fun j y e => by simp at e⟩ (fun i H _ p => SqT.of (p.1 _ _ hx)) ?_ ?_
  · rintro i x H hi ⟨sm, ys, eD, len, hR⟩
    have hil := (List.getElem?_eq_some_iff.mp hi).1
    refine ⟨wipe_one _ _ _, ?_⟩
    unfold tYes
    dsimp only
    rw [if_pos rfl]
    refine hs i x H ys _ hi sm eD fun y H4 s4 r4 => ?_
    have e4 : H4 D = some (.lst ys) := s4 _ _ eD
    refine ⟨ys, e4, small1000 (by omega), same_over (sm.trans s4) hD, ys ++ [y], upd_same, by simp [len], fun j z ez => ?_⟩
    by_cases hj : j < ys.length
    · rw [List.getElem?_append_left hj] at ez
      exact hU _ _ _ _ _ (hS _ _ _ _ (hR j z ez) s4) e4 hD (sm.trans s4)
    · rw [List.getElem?_append_right (by omega)] at ez
      have hj2 : j - ys.length = 0 := by
        have := (List.getElem?_eq_some_iff.mp ez).1
        simp at this
        omega
      rw [hj2] at ez
      cases ez
      have : j = i := by omega
      subst this
      exact hU _ _ _ _ _ r4 e4 hD (sm.trans s4)
  · rintro H ⟨sm, ys, eD, len, hR⟩
    exact hd H ys sm eD len hR
end
/-- rows of limits, none of them the state -/
def RowsAt (st : Addr) (H : Hp) (D : Addr) (rows : List (List Lim)) : Prop := ∃ rs : List Addr, H D = some (.lst (rs.map V.ref)) ∧ rs.length = rows.length ∧ ∀ (j : Nat) (r : Addr) (ls : List Lim), rs[j]? = some r → rows[j]? = some ls → r ≠ st ∧ r ≠ D ∧ LimsAt H r ls
theorem RowsAt.same {st D : Addr} {H H' : Hp} {rows : List (List Lim)} (h : RowsAt st H D rows) (s : Same H H') : RowsAt st H' D rows := by
  obtain ⟨rs, a, b, c⟩ := h
  exact ⟨rs, s _ _ a, b, fun j r ls e1 e2 => ⟨(c j r ls e1 e2).1, (c j r ls e1 e2).2.1, (c j r ls e1 e2).2.2.same s⟩⟩
theorem RowsAt.sx {st l0 D : Addr} {H H' : Hp} {rows : List (List Lim)} (h : RowsAt st H D rows) (hS : StAt l0 H st) (hD : D ≠ st) (s : SX st H H') : RowsAt st H' D rows := by
  obtain ⟨rs, a, b, c⟩ := h
  exact ⟨rs, s _ _ a hD, b, fun j r ls e1 e2 => ⟨(c j r ls e1 e2).1, (c j r ls e1 e2).2.1, (c j r ls e1 e2).2.2.sx hS (c j r ls e1 e2).1 s⟩⟩
/-- what holds of limits when another list is written -/
theorem LimsAt.off {H : Hp} {t D : Addr} {ls : List Lim} {xs zs : List V} (h : LimsAt H t ls) (ht : t ≠ D) (e : H D = some (.lst xs)) : LimsAt (upd H D (.lst zs)) t ls := by
  obtain ⟨ts, a, b, c⟩ := h
  refine ⟨ts, by rw [upd_ne ht]; exact a, b, fun i x l e1 e2 => ?_⟩
  have q := c i x l e1 e2
  rw [upd_ne (ne_of q e (fun z => nomatch z))]
  exact q
theorem RowsAt.snoc {st D r : Addr} {H : Hp} {rows : List (List Lim)} {ls : List Lim} {rs : List Addr} (h : RowsAt st H D rows) (hr : H D = some (.lst (rs.map V.ref))) (h1 : r ≠ st) (h2 : r ≠ D) (hL : LimsAt H r ls) : RowsAt st (upd H D (.lst (rs.map V.ref ++ [.ref r]))) D (rows ++ [ls]) := by
  obtain ⟨rs', a, b, c⟩ := h
  have er : rs' = rs := by
    rw [a] at hr
    have := HO.lst.inj (Option.some.inj hr)
    exact List.map_inj_right (fun _ _ q => V.ref.inj q) |>.mp this
  subst er
  refine ⟨rs' ++ [r], by rw [upd_same, List.map_append]; rfl, by simp [b], fun i x u e1 e2 => ?_⟩
  by_cases hi : i < rs'.length
  · rw [List.getElem?_append_left hi] at e1
    rw [List.getElem?_append_left (by omega)] at e2
    obtain ⟨p1, p2, p3⟩ := c i x u e1 e2
    exact ⟨p1, p2, p3.off p2 a⟩
  · rw [List.getElem?_append_right (by omega)] at e1
    rw [List.getElem?_append_right (by omega)] at e2
    have hz : i - rs'.length = 0 := by
      have := (List.getElem?_eq_some_iff.mp e1).1
      simp at this
      omega
    rw [hz] at e1
    rw [show i - rows.length = 0 by omega] at e2
    cases e1
    cases e2
    exact ⟨h1, h2, hL.off h2 a⟩
/-- limits joined -/
theorem LimsAt.app {H : Hp} {t u p : Addr} {l1 l2 : List Lim} {xs zs : List V} (h1 : LimsAt H t l1) (h2 : LimsAt H u l2) (e1 : H t = some (.lst xs)) (e2 : H u = some (.lst zs)) (np : H p = none) : LimsAt (upd H p (.lst (xs ++ zs))) p (l1 ++ l2) := by
  obtain ⟨ts, a, b, c⟩ := h1
  obtain ⟨us, a', b', c'⟩ := h2
  rw [a] at e1
  rw [a'] at e2
  have x1 := HO.lst.inj (Option.some.inj e1)
  have x2 := HO.lst.inj (Option.some.inj e2)
  subst x1
  subst x2
  refine ⟨ts ++ us, by rw [upd_same, List.map_append], by simp [b, b'], fun i x l f1 f2 => ?_⟩
  by_cases hi : i < ts.length
  · rw [List.getElem?_append_left hi] at f1
    rw [List.getElem?_append_left (by omega)] at f2
    exact same_new np _ _ (c i x l f1 f2)
  · rw [List.getElem?_append_right (by omega)] at f1
    rw [List.getElem?_append_right (by omega)] at f2
    rw [b] at f1
    exact same_new np _ _ (c' _ x l f1 f2)
theorem BAt.off {C x D : Addr} {H : Hp} {lots : Nat} {g : G} {xs zs : List V} (h : BAt C H x lots g) (e : H D = some (.lst xs)) : BAt C (upd H D (.lst zs)) x lots g := by
  obtain ⟨dx, p, b1, rs, c1, c2, c3⟩ := h
  exact ⟨dx, p, by rw [upd_ne (ne_of b1 e (fun z => nomatch z))]; exact b1, rs, by rw [upd_ne (ne_of c1 e (fun z => nomatch z))]; exact c1, c2, fun j r q => by rw [upd_ne (ne_of (c3 j r q) e (fun z => nomatch z))]; exact c3 j r q⟩
/-! ### views that the draws leave as they are -/
def GLX (st : Addr) (H : Hp) (r : Addr) (n : Nat) (g : G) : Prop := r ≠ st ∧ ∃ rs : List Addr, H r = some (.lst (rs.map V.ref)) ∧ rs.length = n ∧ ∀ (i : Nat) (x : Addr), rs[i]? = some x → x ≠ st ∧ H x = some (.lst (rowV n g i))
theorem GLX.gl {st r : Addr} {H : Hp} {n : Nat} {g : G} (h : GLX st H r n g) : GL H r n g := by
  obtain ⟨_, rs, a, b, c⟩ := h
  exact ⟨rs, a, b, fun i x e => (c i x e).2⟩
theorem GLX.sx {st r : Addr} {H H' : Hp} {n : Nat} {g : G} (h : GLX st H r n g) (s : SX st H H') : GLX st H' r n g := by
  obtain ⟨z, rs, a, b, c⟩ := h
  exact ⟨z, rs, s _ _ a z, b, fun i x e => ⟨(c i x e).1, s _ _ (c i x e).2 (c i x e).1⟩⟩
def VwX (st : Addr) (H : Hp) (v : V) (n : Nat) (g : G) : Prop := (v = .non ∧ NegD n g) ∨ ∃ r, v = .ref r ∧ GLX st H r n g ∧ NN n g
def VwsX (st : Addr) (H : Hp) (a : Addr) (n : Nat) (gs : List G) : Prop := a ≠ st ∧ ∃ vs : List V, H a = some (.lst vs) ∧ vs.length = gs.length ∧ ∀ (i : Nat) (v : V) (g : G), vs[i]? = some v → gs[i]? = some g → VwX st H v n g
theorem VwX.at_ {st : Addr} {H : Hp} {v : V} {n : Nat} {g : G} (h : VwX st H v n g) : VwAt H v n g := by
  rcases h with h | ⟨r, e, h, h2⟩
  · exact .inl h
  · exact .inr ⟨r, e, h.gl, h2⟩
theorem VwX.sx {st : Addr} {H H' : Hp} {v : V} {n : Nat} {g : G} (h : VwX st H v n g) (s : SX st H H') : VwX st H' v n g := by
  rcases h with h | ⟨r, e, h, h2⟩
  · exact .inl h
  · exact .inr ⟨r, e, h.sx s, h2⟩
theorem VwsX.at_ {st a : Addr} {H : Hp} {n : Nat} {gs : List G} (h : VwsX st H a n gs) : VwsAt H a n gs := by
  obtain ⟨_, vs, e, l, h⟩ := h
  exact ⟨vs, e, l, fun i v g h1 h2 => (h i v g h1 h2).at_⟩
theorem VwsX.sx {st a : Addr} {H H' : Hp} {n : Nat} {gs : List G} (h : VwsX st H a n gs) (s : SX st H H') : VwsX st H' a n gs := by
  obtain ⟨z, vs, e, l, h⟩ := h
  exact ⟨z, vs, s _ _ e z, l, fun i v g h1 h2 => (h i v g h1 h2).sx s⟩
theorem LG.glx {H0 H : Hp} {r st : Addr} {o : HO} {n : Nat} {g g' : G} (h : LG H0 H r n n g) (e : EqOn n g g') (hst : H0 st = some o) : GLX st H r n g' := by
  obtain ⟨rs, a, b, c, d, _⟩ := h
  refine ⟨(ne_of_none hst c).symm, rs, a, b, fun i x q => ⟨(ne_of_none hst (d i x q).1).symm, ?_⟩⟩
  rw [(d i x q).2.2]
  have hi : i < n := by
    rw [← b]
    exact (List.getElem?_eq_some_iff.mp q).1
  congr 2
  unfold rowV
  apply List.map_congr_left
  intro j hj
  rw [e i j hi (List.mem_range.mp hj)]
theorem CL.sx {C a st l0 : Addr} {H H' : Hp} {lots : Nat} {gs : List G} (h : CL C H a lots gs) (hS : StAt l0 H st) (ha : a ≠ st) (s : SX st H H') : CL C H' a lots gs := by
  obtain ⟨xs, e1, e2, e3⟩ := h
  obtain ⟨_, _, _, _, _, e, _⟩ := hS
  refine ⟨xs, s _ _ e1 ha, e2, fun i x g h1 h2 => ?_⟩
  obtain ⟨dx, p, b1, rs, c1, c2, c3⟩ := e3 i x g h1 h2
  exact ⟨dx, p, s _ _ b1 (ne_of b1 e (fun z => nomatch z)), rs, s _ _ c1 (ne_of c1 e (fun z => nomatch z)), c2, fun j r q => s _ _ (c3 j r q) (ne_of (c3 j r q) e (fun z => nomatch z))⟩
theorem GLX.off {st D r : Addr} {H : Hp} {n : Nat} {g : G} {o : HO} (h : GLX st H r n g) (h2 : GLX D H r n g) : GLX st (upd H D o) r n g := by
  obtain ⟨z, rs, a, b, c⟩ := h
  obtain ⟨z2, rs2, a2, b2, c2⟩ := h2
  have er : rs2 = rs := by
    rw [a] at a2
    have := HO.lst.inj (Option.some.inj a2)
    exact (List.map_inj_right (fun _ _ q => V.ref.inj q) |>.mp this).symm
  subst er
  exact ⟨z, rs2, by rw [upd_ne z2]; exact a, b, fun i x e => ⟨(c i x e).1, by rw [upd_ne (c2 i x e).1]; exact (c i x e).2⟩⟩
theorem VwX.off {st D : Addr} {H : Hp} {v : V} {n : Nat} {g : G} {o : HO} (h : VwX st H v n g) (h2 : VwX D H v n g) : VwX st (upd H D o) v n g := by
  rcases h with h | ⟨r, e, h, hn⟩
  · exact .inl h
  · rcases h2 with h2 | ⟨r2, e2, h2, _⟩
    · rw [h2.1] at e
      cases e
    · rw [e] at e2
      cases e2
      exact .inr ⟨r, e, h.off h2, hn⟩
theorem VwX.same {st : Addr} {H H' : Hp} {v : V} {n : Nat} {g : G} (h : VwX st H v n g) (s : Same H H') : VwX st H' v n g := h.sx (Same.sx s)
theorem VwsX.same {st a : Addr} {H H' : Hp} {n : Nat} {gs : List G} (h : VwsX st H a n gs) (s : Same H H') : VwsX st H' a n gs := h.sx (Same.sx s)
/-- the law's own distances: a view -/
theorem law_neg {lots : Nat} {ls : List Lim} (h : NegD (lots + 2) (lawG lots ls)) : NegD (lots + 2) (farG lots ls) := (ink_neg (lims_ds lots (lots + 2) ls)).mp h
theorem law_nn {lots : Nat} {ls : List Lim} (h : NN (lots + 2) (lawG lots ls)) : NN (lots + 2) (farG lots ls) := (far_iff lots ls).mpr ((law_iff lots ls).mp h)
theorem sx_tup {st l0 : Addr} {H H' : Hp} (hS : StAt l0 H st) (s : SX st H H') : ∀ t xs, H t = some (.tup xs) → H' t = some (.tup xs) := fun t xs e => by
  obtain ⟨_, _, _, _, _, e2, _⟩ := hS
  exact s _ _ e (ne_of e e2 (fun z => nomatch z))
/-- how many of the box are in the cell -/
theorem box_val {K : PySem.W.Frag} {σ : L2.St} {H : Hp} {Q : VK} {lots top : Nat} {L : Addr} {ls : List Lim} (h2 : σ[2]? = some (some (.int (lots : Int)))) (h10 : σ[10]? = some (some (.int (top : Int)))) (h5 : σ[5]? = some (some (.ref L))) (hσ : 24 < σ.length) (hL : LimsAt H L ls)
    (hl : lots ≤ 90) (ht : top ≤ 90) (hz : ∀ k, k ≤ lots + 1 → (top + 1) ^ k ≤ 900) (q : ∀ D H' ys, Same H H' → H' D = some (.lst ys) → (0 < ys.length ↔ ∃ v ∈ vecs top (lots + 1), inCell ls v) → Q (.ref D) H') :
    tLc (iList K (tCl spVecs E0 (tCons (tOp (rI0 fun i j => V.int (i + j)) (tVar 2) (tC (.int 1))) (tCons (tVar 10) tNil)))) (gName 24) (tB (tCl (spInCell K) E0 (tCons (tVar 5) (tCons (tVar 24) tNil)))) (tVar 24) [24] σ H Q := by
  refine ⟨_, h2, _, _, rfl, rfl, _, h10, lots + 1, top, rfl, by omega, by omega, hz, fun r H1 s1 nr hV => ?_⟩
  obtain ⟨rs, u1, u2, u3⟩ := id hV
  have hlen : rs.length ≤ 900 := by
    rw [u2, vecs_len]
    exact hz _ (Nat.le_refl _)
  refine ⟨r, rfl, ⟨_, SqL.of u1⟩, fun D nD => ?_⟩
  refine lc_list (K := K) (a := r) (xs := rs.map V.ref) (fun i H' => Same H1 H' ∧ ∃ ys, H' D = some (.lst ys) ∧ ys.length ≤ i ∧ (0 < ys.length ↔ ∃ v ∈ (vecs top (lots + 1)).take i, inCell ls v)) ⟨same_new nD, [], upd_same, Nat.le_refl _, ⟨fun h => absurd h (by decide), fun ⟨v, h, _⟩ => by simp at h⟩⟩ (fun i H' _ p => SqL.of (p.1 _ _ u1)) ?_ ?_
  · rintro i y H2 hi ⟨s2, ys, eD, hy, hiff⟩
    obtain ⟨x, hx, rfl⟩ : ∃ x, rs[i]? = some x ∧ y = V.ref x := by
      rw [List.getElem?_map] at hi
      cases e : rs[i]? with
      | none => rw [e] at hi; cases hi
      | some x => rw [e] at hi; exact ⟨x, rfl, (Option.some.inj hi).symm⟩
    have hil : i < (vecs top (lots + 1)).length := by
      rw [← u2]
      exact (List.getElem?_eq_some_iff.mp hx).1
    have hv : (vecs top (lots + 1))[i]? = some (vecs top (lots + 1))[i] := List.getElem?_eq_getElem hil
    have e3 := s2 _ _ (u3 i x _ hx hv).2
    have et : (vecs top (lots + 1)).take (i + 1) = (vecs top (lots + 1)).take i ++ [(vecs top (lots + 1))[i]] := by
      rw [List.take_add_one, hv]
      rfl
    have hw : ((wipe σ [24]).set 24 (some (V.ref x))) = σ.set 24 (some (V.ref x)) := by
      show (σ.set 24 none).set 24 _ = _
      rw [List.set_set]
    have g5 : ((wipe σ [24]).set 24 (some (V.ref x)))[5]? = some (some (.ref L)) := by
      rw [hw, List.getElem?_set_ne (by decide)]
      exact h5
    have g24 : ((wipe σ [24]).set 24 (some (V.ref x)))[24]? = some (some (.ref x)) := by
      rw [hw, List.getElem?_set_self hσ]
    refine ⟨wipe_one _ _ _, ?_⟩
    refine ⟨_, g5, _, g24, L, x, ls, (vecs top (lots + 1))[i], rfl, hL.same (s1.trans s2), SqL.of e3, fun b H3 hb s3 => ⟨b, rfl, ?_⟩⟩
    have eD3 := s3 _ _ eD
    cases b with
    | true =>
      refine iteT ⟨_, g24, ys, eD3, small1000 (by omega), same_over (s2.trans s3) nD, _, upd_same, by simp; omega, ?_⟩
      rw [et]
      exact ⟨fun _ => ⟨_, List.mem_append_right _ (List.mem_singleton.mpr rfl), hb.mp rfl⟩, fun _ => by simp⟩
    | false =>
      refine iteF ⟨s2.trans s3, ys, eD3, by omega, hiff.trans ?_⟩
      rw [et]
      constructor
      · rintro ⟨v, h1, h2⟩
        exact ⟨v, List.mem_append_left _ h1, h2⟩
      · rintro ⟨v, h1, h2⟩
        rcases List.mem_append.mp h1 with h1 | h1
        · exact ⟨v, h1, h2⟩
        · rw [List.mem_singleton.mp h1] at h2
          exact absurd (hb.mpr h2) (by decide)
  · rintro H2 ⟨s2, ys, eD, hy, hiff⟩
    rw [List.take_of_length_le (by rw [List.length_map, u2]; exact Nat.le_refl _)] at hiff
    exact q D H2 ys (s1.trans s2) eD hiff
theorem make_use2 {C t x dx : Addr} {lots : Nat} {ls : List Lim} {H1 : Hp} {R : VK} (nx : H1 x = none) (nd : H1 dx = none) (hne : dx ≠ x) (ht : LimsAt H1 t ls) (hz : lots ≤ 100) (hv : ∀ l ∈ ls, ValidL lots l) (q : ∀ H', Same H1 H' → BAt C H' x lots (farG lots ls) → R .non H') :
    spInit C [.ref x, .int lots, .ref t, .non] (upd (upd H1 dx (.own x)) x (.ins C dx [])) R E0 := by
  have s1 : Same H1 (upd H1 dx (.own x)) := same_new nd
  have s2 : Same (upd H1 dx (.own x)) (upd (upd H1 dx (.own x)) x (.ins C dx [])) := same_new (by rw [upd_ne hne.symm]; exact nx)
  have sm := s1.trans s2
  exact ⟨x, dx, t, lots, ls, rfl, upd_same, ht.same sm, hz, hv, fun H' hB hk => q H' (fun b o e => hk b o (sm _ _ e) (ne_of_none e nx)) hB⟩
theorem lims_one {H : Hp} {t L : Addr} {l : Lim} (e : H t = some (limT l)) (eL : H L = some (.lst [.ref t])) : LimsAt H L [l] := ⟨[t], eL, rfl, fun i a l' e1 e2 => by
  match i, e1, e2 with
  | 0, e1, e2 => cases e1; cases e2; exact e
  | i + 1, e1, e2 => simp at e1⟩
theorem lims_two {H : Hp} {t u L : Addr} {l k : Lim} (e : H t = some (limT l)) (f : H u = some (limT k)) (eL : H L = some (.lst [.ref t, .ref u])) : LimsAt H L [l, k] := ⟨[t, u], eL, rfl, fun i a l' e1 e2 => by
  match i, e1, e2 with
  | 0, e1, e2 => cases e1; cases e2; exact e
  | 1, e1, e2 => cases e1; cases e2; exact f
  | i + 2, e1, e2 => simp at e1⟩
theorem cells_one {C x : Addr} {H : Hp} {lots : Nat} {g : G} (h : BAt C H x lots g) : ∀ (i : Nat) (y : Addr) (g' : G), [x][i]? = some y → [g][i]? = some g' → BAt C H y lots g' := fun i y g' e1 e2 => by
  match i, e1, e2 with
  | 0, e1, e2 => cases e1; cases e2; exact h
  | i + 1, e1, e2 => simp at e1
theorem cells_two {C x z : Addr} {H : Hp} {lots : Nat} {g k : G} (h : BAt C H x lots g) (h2 : BAt C H z lots k) : ∀ (i : Nat) (y : Addr) (g' : G), [x, z][i]? = some y → [g, k][i]? = some g' → BAt C H y lots g' := fun i y g' e1 e2 => by
  match i, e1, e2 with
  | 0, e1, e2 => cases e1; cases e2; exact h
  | 1, e1, e2 => cases e1; cases e2; exact h2
  | i + 2, e1, e2 => simp at e1
/-! ### answers, changed -/
def TupAt (H : Hp) (p : Addr) (st : List S4) : Prop := ∃ qs : List Addr, H p = some (.tup (qs.map V.ref)) ∧ StQ H qs st
theorem TupAt.same {H H' : Hp} {p : Addr} {st : List S4} (h : TupAt H p st) (s : Same H H') : TupAt H' p st := by
  obtain ⟨qs, a, b⟩ := h
  exact ⟨qs, s _ _ a, b.keep fun t xs e => s _ _ e⟩
theorem TupAt.keep {H H' : Hp} {p : Addr} {st : List S4} (h : TupAt H p st) (s : ∀ t xs, H t = some (.tup xs) → H' t = some (.tup xs)) : TupAt H' p st := by
  obtain ⟨qs, a, b⟩ := h
  exact ⟨qs, s _ _ a, b.keep s⟩
theorem StQ.take {H : Hp} {qs : List Addr} {st : List S4} (h : StQ H qs st) (k : Nat) : StQ H (qs.take k) (st.take k) := by
  refine ⟨by rw [List.length_take, List.length_take, h.1], fun i q s e1 e2 => ?_⟩
  rw [List.getElem?_take] at e1 e2
  split at e1
  · rename_i c
    rw [if_pos c] at e2
    exact h.2 i q s e1 e2
  · cases e1
theorem StQ.drop {H : Hp} {qs : List Addr} {st : List S4} (h : StQ H qs st) (k : Nat) : StQ H (qs.drop k) (st.drop k) := by
  refine ⟨by rw [List.length_drop, List.length_drop, h.1], fun i q s e1 e2 => ?_⟩
  rw [List.getElem?_drop] at e1 e2
  exact h.2 _ q s e1 e2
theorem StQ.app {H : Hp} {q1 q2 : List Addr} {s1 s2 : List S4} (h1 : StQ H q1 s1) (h2 : StQ H q2 s2) : StQ H (q1 ++ q2) (s1 ++ s2) := by
  refine ⟨by simp [h1.1, h2.1], fun i q s e1 e2 => ?_⟩
  by_cases hi : i < q1.length
  · rw [List.getElem?_append_left hi] at e1
    rw [List.getElem?_append_left (by rw [← h1.1]; exact hi)] at e2
    exact h1.2 i q s e1 e2
  · rw [List.getElem?_append_right (by omega)] at e1
    rw [List.getElem?_append_right (by rw [← h1.1]; omega), ← h1.1] at e2
    exact h2.2 _ q s e1 e2
theorem StQ.one {H : Hp} {q : Addr} {s : S4} (h : H q = some (stepT s)) : StQ H [q] [s] := ⟨rfl, fun i q' s' e1 e2 => by
  match i, e1, e2 with
  | 0, e1, e2 => cases e1; cases e2; exact h
  | i + 1, e1, e2 => simp at e1⟩
theorem stq_one {H : Hp} {q : Addr} {s : S4} (h : H q = some (stepT s)) : StQ H [q] [s] := StQ.one h
theorem stq_three {H : Hp} {q r t : Addr} {s u v : S4} (h1 : H q = some (stepT s)) (h2 : H r = some (stepT u)) (h3 : H t = some (stepT v)) : StQ H [q, r, t] [s, u, v] := (StQ.one h1).app ((StQ.one h2).app (StQ.one h3))
theorem cut_lo (xs : List V) (k : Nat) : cutV xs none (some (k : Int)) = xs.take k := by
  unfold cutV
  rw [HT.sIx_nat]
  show (xs.drop 0).take (min k xs.length - 0) = _
  rw [List.drop_zero, Nat.sub_zero]
  by_cases h : k ≤ xs.length
  · rw [Nat.min_eq_left h]
  · rw [Nat.min_eq_right (by omega), List.take_of_length_le (Nat.le_refl _), List.take_of_length_le (by omega)]
theorem cut_hi (xs : List V) (k : Nat) : cutV xs (some (k : Int)) none = xs.drop k := by
  unfold cutV
  rw [HT.sIx_nat]
  show (xs.drop (min k xs.length)).take (xs.length - min k xs.length) = _
  by_cases h : k ≤ xs.length
  · rw [Nat.min_eq_left h, List.take_of_length_le (by rw [List.length_drop]; exact Nat.le_refl _)]
  · rw [Nat.min_eq_right (by omega), List.drop_of_length_le (Nat.le_refl _), List.drop_of_length_le (by omega)]
    simp
section
variable {K : PySem.W.Frag} {σ : L2.St} {H : Hp} {Q : VK}
/-- told[:k] -/
theorem sl_lo {ta tk : TE} {p : Addr} {k : Nat} {st : List S4} (h1 : ∀ Q', Q' (.ref p) H → ta σ H Q') (h2 : ∀ Q', Q' (.int (k : Int)) H → tk σ H Q') (h : TupAt H p st) (q : ∀ r H', Same H H' → TupAt H' r (st.take k) → Q (.ref r) H') : tSl (rSlA K) ta tNoPart (tPart tk) σ H Q := by
  obtain ⟨qs, a, b⟩ := h
  refine h1 _ (h2 _ ⟨_, rfl, p, _, rfl, SqT.of a, fun c => q p H (Same.refl H) ⟨qs, a, ?_⟩, fun _ r nr => q r _ (same_new nr) ⟨qs.take k, ?_, (b.take k).keep fun t xs e => same_new nr _ _ e⟩⟩)
  · have c2 := c.2
    rw [HT.sIx_nat, List.length_map] at c2
    rw [List.take_of_length_le (by rw [← b.1]; omega)]
    exact b
  · rw [upd_same, cut_lo, List.map_take]
/-- told[k:] -/
theorem sl_hi {ta tk : TE} {p : Addr} {k : Nat} {st : List S4} (h1 : ∀ Q', Q' (.ref p) H → ta σ H Q') (h2 : ∀ Q', Q' (.int (k : Int)) H → tk σ H Q') (h : TupAt H p st) (q : ∀ r H', Same H H' → TupAt H' r (st.drop k) → Q (.ref r) H') : tSl (rSlA K) ta (tPart tk) tNoPart σ H Q := by
  obtain ⟨qs, a, b⟩ := h
  refine h1 _ (h2 _ ⟨_, rfl, p, _, rfl, SqT.of a, fun c => q p H (Same.refl H) ⟨qs, a, ?_⟩, fun _ r nr => q r _ (same_new nr) ⟨qs.drop k, ?_, (b.drop k).keep fun t xs e => same_new nr _ _ e⟩⟩)
  · have c1 := c.1
    rw [HT.sIx_nat, List.length_map] at c1
    have := b.1
    by_cases hk : k = 0
    · rw [hk]
      exact b
    · have : st = [] := List.length_eq_zero_iff.mp (by omega)
      have e2 : qs = [] := List.length_eq_zero_iff.mp (by omega)
      rw [this, e2] at b ⊢
      simpa using b
  · rw [upd_same, cut_hi, List.map_drop]
/-- two tuples joined -/
theorem cat_tup {H : Hp} {Q : VK} {p r : Addr} {s1 s2 : List S4} (h1 : TupAt H p s1) (h2 : TupAt H r s2) (hz : s1.length + s2.length ≤ 900) (q : ∀ t H', Same H H' → TupAt H' t (s1 ++ s2) → Q (.ref t) H') : rCatA K (.ref p) (.ref r) H Q := by
  obtain ⟨qs, a, b⟩ := h1
  obtain ⟨qs', a', b'⟩ := h2
  have z1 := b.1
  have z2 := b'.1
  refine ⟨p, r, _, _, rfl, rfl, SqT.of a, SqT.of a', ?_, fun e => q r H (Same.refl H) ?_, fun _ e => q p H (Same.refl H) ?_, fun _ _ t nt => q t _ (same_new nt) ⟨qs ++ qs', by rw [upd_same, List.map_append], (b.app b').keep fun t xs e => same_new nt _ _ e⟩⟩
  · rw [List.length_map, List.length_map]
    exact Nat.le_of_lt (small1000 (by omega))
  · have e1 : qs = [] := List.map_eq_nil_iff.mp e
    rw [e1] at z1
    have e2 : s1 = [] := List.length_eq_zero_iff.mp z1.symm
    rw [e2]
    exact ⟨qs', a', b'⟩
  · have e1 : qs' = [] := List.map_eq_nil_iff.mp e
    rw [e1] at z2
    have e2 : s2 = [] := List.length_eq_zero_iff.mp z2.symm
    rw [e2, List.append_nil]
    exact ⟨qs, a, b⟩
/-- told[:k] + (s',) + told[k + 1:] -/
theorem swap_val {ta tk tE tk1 : TE} {p : Addr} {k : Nat} {st : List S4} {s' : S4} (h1 : ∀ H' (Q' : VK), Same H H' → Q' (.ref p) H' → ta σ H' Q') (h2 : ∀ H' (Q' : VK), Same H H' → Q' (.int (k : Int)) H' → tk σ H' Q') (h3 : ∀ H' (Q' : VK), Same H H' → Q' (.int ((k + 1 : Nat) : Int)) H' → tk1 σ H' Q')
    (hE : ∀ H' (Q' : VK), Same H H' → (∀ t H'', Same H' H'' → H'' t = some (stepT s') → Q' (.ref t) H'') → tE σ H' Q') (h : TupAt H p st) (hz : st.length ≤ 100) (q : ∀ r H', Same H H' → TupAt H' r (st.take k ++ [s'] ++ st.drop (k + 1)) → Q (.ref r) H') :
    tOp (rCatA K) (tOp (rCatA K) (tSl (rSlA K) ta tNoPart (tPart tk)) (tTup (tCons tE tNil))) (tSl (rSlA K) ta (tPart tk1) tNoPart) σ H Q := by
  refine sl_lo (fun Q' => h1 H Q' (Same.refl H)) (fun Q' => h2 H Q' (Same.refl H)) h fun r1 H1 x1 t1 => ?_
  refine hE H1 _ x1 fun t H2 x2 e2 => ⟨(by show 1 ≤ sizeLine; decide), fun u nu => ?_⟩
  have x3 : Same H2 (upd H2 u (.tup [.ref t])) := same_new nu
  have a1 := t1.same (x2.trans x3)
  have a2 : TupAt (upd H2 u (.tup [.ref t])) u [s'] := ⟨[t], upd_same, StQ.one (x3 _ _ e2)⟩
  have l1 : (st.take k).length ≤ 100 := by rw [List.length_take]; omega
  refine cat_tup a1 a2 (by simp; omega) fun r2 H3 x4 t2 => ?_
  have xx := ((x1.trans x2).trans x3).trans x4
  refine sl_hi (fun Q' => h1 H3 Q' xx) (fun Q' => h3 H3 Q' xx) (h.same xx) fun r3 H4 x5 t3 => ?_
  refine cat_tup (t2.same x5) t3 (by simp; omega) fun r4 H5 x6 t4 => q r4 H5 ((xx.trans x5).trans x6) t4
/-- told[:k] + told[k + 1:] -/
theorem cut_val {ta tk tk1 : TE} {p : Addr} {k : Nat} {st : List S4} (h1 : ∀ H' (Q' : VK), Same H H' → Q' (.ref p) H' → ta σ H' Q') (h2 : ∀ H' (Q' : VK), Same H H' → Q' (.int (k : Int)) H' → tk σ H' Q') (h3 : ∀ H' (Q' : VK), Same H H' → Q' (.int ((k + 1 : Nat) : Int)) H' → tk1 σ H' Q')
    (h : TupAt H p st) (hz : st.length ≤ 100) (q : ∀ r H', Same H H' → TupAt H' r (cut st k) → Q (.ref r) H') :
    tOp (rCatA K) (tSl (rSlA K) ta tNoPart (tPart tk)) (tSl (rSlA K) ta (tPart tk1) tNoPart) σ H Q := by
  refine sl_lo (fun Q' => h1 H Q' (Same.refl H)) (fun Q' => h2 H Q' (Same.refl H)) h fun r1 H1 x1 t1 => ?_
  refine sl_hi (fun Q' => h1 H1 Q' x1) (fun Q' => h3 H1 Q' x1) (h.same x1) fun r3 H4 x5 t3 => ?_
  exact cat_tup (t1.same x5) t3 (by rw [List.length_take, List.length_drop]; omega) fun r4 H5 x6 t4 => q r4 H5 ((x1.trans x5).trans x6) t4
end
/-- wrong answers in a list -/
def WrAt (H : Hp) (r : Addr) (n : Nat) (gs : List G) (m : Nat) : Prop := ∃ ps : List Addr, H r = some (.lst (ps.map V.ref)) ∧ ps.length ≤ m ∧ ∀ p ∈ ps, ∃ st, TupAt H p st ∧ ¬ Closes n gs st
theorem WrAt.same {H H' : Hp} {r : Addr} {n m : Nat} {gs : List G} (h : WrAt H r n gs m) (s : Same H H') : WrAt H' r n gs m := by
  obtain ⟨ps, a, b, c⟩ := h
  refine ⟨ps, s _ _ a, b, fun p hp => ?_⟩
  obtain ⟨st, t, z⟩ := c p hp
  exact ⟨st, t.same s, z⟩
theorem WrAt.snoc {H : Hp} {r p : Addr} {n m : Nat} {gs : List G} {st : List S4} (h : WrAt H r n gs m) (hp : TupAt H p st) (hz : ¬ Closes n gs st) : ∃ ps : List Addr, H r = some (.lst (ps.map V.ref)) ∧ ps.length ≤ m ∧ WrAt (upd H r (.lst (ps.map V.ref ++ [.ref p]))) r n gs (m + 1) := by
  obtain ⟨ps, a, b, c⟩ := h
  have kp : ∀ t xs, H t = some (.tup xs) → (upd H r (.lst (ps.map V.ref ++ [.ref p]))) t = some (.tup xs) := fun t xs e => by
    rw [upd_ne (ne_of e a (fun z => nomatch z))]
    exact e
  refine ⟨ps, a, b, ps ++ [p], by rw [upd_same, List.map_append]; rfl, by simp; omega, fun x hx => ?_⟩
  rcases List.mem_append.mp hx with hx | hx
  · obtain ⟨s, t, z⟩ := c x hx
    exact ⟨s, t.keep kp, z⟩
  · rw [List.mem_singleton.mp hx]
    exact ⟨st, hp.keep kp, hz⟩
theorem WrAt.le {H : Hp} {r : Addr} {n m m' : Nat} {gs : List G} (h : WrAt H r n gs m) (l : m ≤ m') : WrAt H r n gs m' := by
  obtain ⟨ps, a, b, c⟩ := h
  exact ⟨ps, a, by omega, c⟩
end K9

namespace K9
open PySem PySem.Spec PyProof.Rows L2
def rTupOfL (K : PySem.W.Frag) : List V → Hp → VK → Prop := fun xs H Q => ∃ p ys, xs = [.ref p] ∧ (SqL K H p ys ∨ SqT K H p ys) ∧ ∀ l, H l = none → Q (.ref l) (upd H l (.lst ys))
theorem listK (K : PySem.W.Frag) {X : Cx} (hK : X.K = K := by rfl) : CallR X (.type "list") (rTupOfL K) := by
  subst hK
  exact call_list_of
section
variable {X : Cx} {CX : CXT} {k i : Nat} {f : Addr} {sp : Sp} {E : L2.St → XK} {x : Str} {e : Expr} {es : List Expr} {t : TA} {p pos : Pos}
theorem run_fnRS {pins : List (Addr × Obj)} {σ : L2.St} {H : Hp} {s : Shared} {Q : VK} {us : List Value} {vs : List V} (F : FnR X.prog X.w X.K X.mg X.base CX k f sp) (hr : Room k X.A) (hx : PassesAt CX X σ (E σ)) (I : Inv X pins σ H s) (r : Vals vs us) (h : sp vs H Q (E σ)) :
    codeAny (model X.prog X.w) X.A (.call (.ref f) ⟨us, []⟩) (fun r s' => match r with | .ok (.ret v) => EP X pins σ Q v s' | .ok _ => False | .error e => X.xe e s') s := by
  refine codeAny_mono (F X.A X.stack s H us vs Q (E σ) hr I.env0 r h) fun r s' hq => ?_
  cases r with
  | error e => exact hx pins H s e s' I hq
  | ok fl =>
    cases fl with
    | ret u => exact I.after hq
    | next => exact False.elim hq
    | brk => exact False.elim hq
    | cont => exact False.elim hq
def tClS (sp : Sp) (E : L2.St → XK) (t : TA) : TE := fun σ H Q => t σ H fun vs H1 => sp vs H1 Q (E σ)
theorem call_hS (h : HasD X.prog X.w X.K X.mg X.base CX k x sp) (hr : Room k X.A) (hg : Gl X x) (hx : ∀ σ, PassesAt CX X σ (E σ)) (ha : PA X (e :: es) t) (hd : (x == ("__debug__" : Str)) = false := by decide)
    (he : starEach (e :: es) X.env = (false, eval e X.env) :: starEach es X.env := by rfl) (hpl : (backTo pos (starEach es X.env)).any (·.1) = false := by rfl) : PE X (.Call (.Name x p) (e :: es) [] pos) (tClS sp E t) := by
  obtain ⟨f, hm, hk, F⟩ := h
  exact ⟨fun pins s σ H Q I h => wpAny_Call_Name_kw (ld_glob I hg hm (PySem.W.callWith_K (h₀ := X.base) I.ok.mod.kin hk
    (thn (ha.run pos pins s σ H _ I h) fun us s1 ⟨vs, H1, I1, r, q⟩ => ⟨I1.kIn, wpAny_call (run_fnRS F hr (hx σ) I1 r q)⟩) he hpl) hd)⟩
end
/-- what the law leans on -/
structure LT (P : Program) (w : World) (K : PySem.W.Frag) (mg : Str → Option Value) (base : Heap) (C OC fC fI : Addr) (fdI : FuncData) (ds : List Value) : Prop where
  st : HasD P w K mg base CX0 1 "_law_state" (spState K)
  dr : HasD P w K mg base CX0 1 "_law_draw" spDraw
  lim : HasD P w K mg base CX0 2 "_law_limits" spLimits
  far : HasD P w K mg base CX0 2 "_law_far" spFar
  vec : HasD P w K mg base CX0 1 "_law_vectors" spVecs
  inc : HasD P w K mg base CX0 2 "_law_in_cell" (spInCell K)
  cal : HasD P w K mg base CX0 5 "_law_call_all" (spCallAll C fC)
  cst : HasD P w K mg base CX0 4 "_law_call_steps" (spCallSteps C)
  lcl : HasD P w K mg base CX0 1 "_law_closes" spLCloses
  clo : HasD P w K mg base (L2.CX P w) 4 "closing" (starSp 0 (spClosingB C OC))
  cls : HasD P w K mg base CX0 3 "closes" (starSp 1 (spClosesB C))
  bm : BMk P w K mg base C fI fdI ds
  B : BCls K mg C
  O : ECls K mg OC
  gC : mg "closing" = some (.ref fC)
  exm : PySem.W.exmOne K (.ref OC) (.ref OC) = some true
  mr : mg "range" = none
  mli : mg "list" = none
  ml : mg "len" = none
  ms : mg "sum" = none
abbrev NL : List Str := ["script", "state", "lots", "most", "rows", "limits", "cells", "row", "views", "fits", "top", "told", "at", "step", "total", "wrongs", "less", "wrong", "number", "one", "two", "steps", "void", "k", "numbers", "other"]
theorem sc : FnScope NL ["script"] (defScope sLaw) := ⟨rfl, rfl, rfl, by decide +kernel, rfl, by decide +kernel, by decide +kernel⟩
def spLaw (K : PySem.W.Frag) : Sp := fun vs H Q _ => ∃ (a : Addr) (ns : List Int), vs = [.ref a] ∧ SqL K H a (ns.map V.int) ∧ ∀ H', Q (.bl true) H'
section
variable {P : Program} {w : World} {K : PySem.W.Frag} {mg : Str → Option Value} {base : Heap}
theorem ok_law {f C OC fC fI : Addr} {fd fdI : FuncData} {ds : List Value} (F : Fun K "law" "law" sLaw f fd) (T : LT P w K mg base C OC fC fI fdI ds) : FnOk P w K mg base CX0 6 f fd ["script"] (spLaw K) := by
  refine F.ok sc (fun vs H Q E ⟨a, ns, e, _⟩ => by rw [e]; rfl) (fun cdv A outer s H vs Q E hr ⟨a, ns, e, hS, q⟩ => ?_)
  subst e
  have hr5 : Room 5 (A.deeper (envOfC "law" (defScope sLaw) s.heap.objs.size f cdv)) := hr
  have hr4 := hr5.mono (show 4 ≤ 5 by decide)
  have hr3 := hr5.mono (show 3 ≤ 5 by decide)
  have hr2 := hr5.mono (show 2 ≤ 5 by decide)
  have hr1 := hr5.mono (show 1 ≤ 5 by decide)
  refine ⟨_, (pss_cons (ps_set (i := 1) sc.nd rfl (Or.inr rfl) (call_h T.st hr1 (by rfl) pass0 (pa_cons (pv 0) pa_nil)))
 (pss_cons (ps_set (i := 2) sc.nd rfl (Or.inr rfl) (call_h T.dr hr1 (by rfl) pass0 (pa_cons (pv 1) (pa_cons pe_int pa_nil))))
 (pss_cons (ps_set (i := 3) sc.nd rfl (Or.inr rfl) pe_int)
 (Evl.pss_cut (ps_if (pt_cmpR op_eq (call_h T.dr hr1 (by rfl) pass0 (pa_cons (pv 1) (pa_cons pe_int pa_nil))) pe_int (nomark _)) (pss_one (ps_set (i := 3) sc.nd rfl (Or.inr rfl) pe_int)) pss_nil)
 (pss_cons (ps_setLc (i := 4) (own := [("k", 23)]) (g := gName 23) (tt := tYes) rfl sc.nd rfl rfl (sw_true rfl rfl (by decide +kernel) (by decide +kernel)) (pi_range1 (by rfl) T.mr (pa_cons (pe_op op_add pe_int (call_h T.dr hr1 (by rfl) pass0 (pa_cons (pv 1) (pa_cons pe_int pa_nil)))) pa_nil)) (blkOk_by (by kernel_rfl)) (fun _ _ _ _ _ => pg_name (i := 23) sc.nd rfl (Or.inl rfl)) (fun _ _ _ _ _ => pts_nil) (fun _ _ _ _ _ => (call_h T.lim hr2 (by rfl) pass0 (pa_cons (pv 1) (pa_cons (pv 2) (pa_cons pe_int (pa_cons (pv 3) pa_nil)))))))
 (pss_cons (ps_setLc (i := 6) (own := [("limits", 5)]) (g := gName 5) (tt := tYes) rfl sc.nd rfl rfl (sw_true rfl rfl (by decide +kernel) (by decide +kernel)) (pi_list (pv 4)) (blkOk_by (by kernel_rfl)) (fun _ _ _ _ _ => pg_name (i := 5) sc.nd rfl (Or.inl rfl)) (fun _ _ _ _ _ => pts_nil) (fun _ _ _ _ _ => (pe_make T.bm.m T.bm.ok hr4 (by rfl) T.B.mgC T.bm.bi T.bm.va pass0 (pa_cons (pv 2) (pa_cons (pe_callTy (listK K) (by rfl) T.mli boot_lst (pa_cons (pv 5) pa_nil)) pa_nil)))))
 (pss_cons (ps_set (i := 5) sc.nd rfl (Or.inr rfl) (pe_lst pa_nil))
 (pss_cons (ps_for PassesOwn.never rfl (pi_list (pv 4)) (pg_name (i := 7) sc.nd rfl (Or.inl rfl)) (pss_one (ps_set (i := 5) sc.nd rfl (Or.inr rfl) (pe_op op_cat (pv 5) (pv 7)))))
 (pss_cons (ps_setLc (i := 8) (own := [("row", 7)]) (g := gName 7) (tt := tYes) rfl sc.nd rfl rfl (sw_true rfl rfl (by decide +kernel) (by decide +kernel)) (pi_list (pv 4)) (blkOk_by (by kernel_rfl)) (fun _ _ _ _ _ => pg_name (i := 7) sc.nd rfl (Or.inl rfl)) (fun _ _ _ _ _ => pts_nil) (fun _ _ _ _ _ => (call_h T.far hr2 (by rfl) pass0 (pa_cons (pv 2) (pa_cons (pv 7) pa_nil)))))
 (Evl.pss_cut (ps_set (i := 9) sc.nd rfl (Or.inl rfl) (pe_cmpR op_notN (call_h T.far hr2 (by rfl) pass0 (pa_cons (pv 2) (pa_cons (pv 5) pa_nil))) pe_non (nomark _)))
 (Evl.pss_cut (ps_if (pt_cmpR op_eq (pv 3) pe_int (nomark _)) (pss_cons (ps_set (i := 10) sc.nd rfl (Or.inl rfl) (pe_ifExp (pt_cmpR op_gt (pv 2) pe_int (nomark _)) pe_int pe_int))
 (pss_one (ps_set (i := 9) sc.nd rfl (Or.inl rfl) (pe_cmpR op_gt (pe_callB call_len_seq (by rfl) T.ml PySem.boot_len (pa_cons (pe_lc (own := [("numbers", 24)]) (g := gName 24)  rfl sc.nd (pi_list (call_h T.vec hr1 (by rfl) pass0 (pa_cons (pe_op op_add (pv 2) pe_int) (pa_cons (pv 10) pa_nil)))) (blkOk_by (by kernel_rfl)) (fun _ _ _ _ _ => pg_name (i := 24) sc.nd rfl (Or.inl rfl)) (fun _ _ _ _ _ => pts_one (pt_val (call_h T.inc hr2 (by rfl) pass0 (pa_cons (pv 5) (pa_cons (pv 24) pa_nil))))) (fun _ _ _ _ _ => (pv 24))) pa_nil)) pe_int (nomark _))))) pss_nil)
 (pss_cons (ps_set (i := 11) sc.nd rfl (Or.inl rfl) (call_h T.cal hr5 (by rfl) pass0 (pa_cons (pe_glob (v := .ref fC) (by rfl) T.gC rfl) (pa_cons (pv 6) pa_nil))))
 (Evl.pss_cut (ps_if (pt_val (pv 9)) (pss_one (ps_if (pt_cmpR op_notN (pv 11) pe_non (nomark _)) (pss_one (ps_ret pe_bl)) pss_nil)) (pss_cons (ps_if (PW.pt (pw_or (pt_not (pt_val (call_h T.lcl hr1 (by rfl) pass0 (pa_cons (pv 11) (pa_cons (pv 8) (pa_cons (pv 2) pa_nil)))))) (pw_or1 (pt_cmpR op_isnot_bl (call_h T.cst hr4 (by rfl) pass0 (pa_cons (pv 11) (pa_cons (pv 6) pa_nil))) pe_bl (nomark _))))) (pss_one (ps_ret pe_bl)) pss_nil)
 (pss_cons (ps_set (i := 12) sc.nd rfl (Or.inl rfl) (call_h T.dr hr1 (by rfl) pass0 (pa_cons (pv 1) (pa_cons (pe_callB call_len_seq (by rfl) T.ml PySem.boot_len (pa_cons (pv 11) pa_nil)) pa_nil))))
 (pss_cons (ps_set (i := 13) sc.nd rfl (Or.inl rfl) (pe_ix ix_tup (pv 11) (pv 12) (fun _ _ => rfl)))
 (pss_cons (ps_set (i := 14) sc.nd rfl (Or.inl rfl) (pe_callB (cr_sum rfl) (by rfl) T.ms boot_sum' (pa_cons (pe_lc (own := [("other", 25)]) (g := gName 25) (tt := tYes) rfl sc.nd (pi_tup (pv 11)) (blkOk_by (by kernel_rfl)) (fun _ _ _ _ _ => pg_name (i := 25) sc.nd rfl (Or.inl rfl)) (fun _ _ _ _ _ => pts_nil) (fun _ _ _ _ _ => (ixK K (pv 25) pe_int (fun _ _ => rfl)))) pa_nil)))
 (pss_cons (ps_set (i := 15) sc.nd rfl (Or.inl rfl) (pe_lst (pa_cons (pe_tup pa_nil) (pa_cons (pe_op op_catA (pe_op op_catA (pe_slice sl_tupA (pv 11) po_none (po_some (pv 12))) (pe_tup (pa_cons (pe_tup (pa_cons (pe_callB call_len_seq (by rfl) T.ml PySem.boot_len (pa_cons (pv 6) pa_nil)) (pa_cons (pe_ix ix_tup (pv 13) pe_int (fun _ _ => rfl)) (pa_cons (pe_ix ix_tup (pv 13) pe_int (fun _ _ => rfl)) (pa_cons (pe_ix ix_tup (pv 13) pe_int (fun _ _ => rfl)) pa_nil))))) pa_nil))) (pe_slice sl_tupA (pv 11) (po_some (pe_op op_add (pv 12) pe_int)) po_none)) (pa_cons (pe_op op_catA (pe_op op_catA (pe_slice sl_tupA (pv 11) po_none (po_some (pv 12))) (pe_tup (pa_cons (pe_tup (pa_cons (pe_un un_neg pe_int) (pa_cons (pe_ix ix_tup (pv 13) pe_int (fun _ _ => rfl)) (pa_cons (pe_ix ix_tup (pv 13) pe_int (fun _ _ => rfl)) (pa_cons (pe_ix ix_tup (pv 13) pe_int (fun _ _ => rfl)) pa_nil))))) pa_nil))) (pe_slice sl_tupA (pv 11) (po_some (pe_op op_add (pv 12) pe_int)) po_none)) (pa_cons (pe_op op_catA (pe_op op_catA (pe_slice sl_tupA (pv 11) po_none (po_some (pv 12))) (pe_tup (pa_cons (pe_tup (pa_cons (pe_ix ix_tup (pv 13) pe_int (fun _ _ => rfl)) (pa_cons (pe_ix ix_tup (pv 13) pe_int (fun _ _ => rfl)) (pa_cons (pe_op op_add (pv 2) pe_int) (pa_cons (pe_ix ix_tup (pv 13) pe_int (fun _ _ => rfl)) pa_nil))))) pa_nil))) (pe_slice sl_tupA (pv 11) (po_some (pe_op op_add (pv 12) pe_int)) po_none)) (pa_cons (pe_op op_catA (pe_op op_catA (pe_slice sl_tupA (pv 11) po_none (po_some (pv 12))) (pe_tup (pa_cons (pe_tup (pa_cons (pe_ix ix_tup (pv 13) pe_int (fun _ _ => rfl)) (pa_cons (pe_ix ix_tup (pv 13) pe_int (fun _ _ => rfl)) (pa_cons (pe_ix ix_tup (pv 13) pe_int (fun _ _ => rfl)) (pa_cons (pe_op op_sub (pe_ix ix_tup (pv 13) pe_int (fun _ _ => rfl)) (pv 14)) pa_nil))))) pa_nil))) (pe_slice sl_tupA (pv 11) (po_some (pe_op op_add (pv 12) pe_int)) po_none)) pa_nil)))))))
 (Evl.pss_cut (ps_if (pt_cmpR op_notN (pe_ix ix_list (pv 8) (pe_ix ix_tup (pv 13) pe_int (fun _ _ => rfl)) (fun _ _ => rfl)) pe_non (nomark _)) (pss_cons (ps_set (i := 16) sc.nd rfl (Or.inl rfl) (pe_op op_sub (pe_ix ix_list (pe_ix ix_list (pe_ix ix_list (pv 8) (pe_ix ix_tup (pv 13) pe_int (fun _ _ => rfl)) (fun _ _ => rfl)) (pe_ix ix_tup (pv 13) pe_int (fun _ _ => rfl)) (fun _ _ => rfl)) (pe_ix ix_tup (pv 13) pe_int (fun _ _ => rfl)) (fun _ _ => rfl)) pe_int))
 (pss_one (ps_expr (pe_bm PySem.F.plainAttrs_list PySem.F.slot_list_append PySem.F.type_list_append mt_append (pv 15) (pa_cons (pe_op op_catA (pe_op op_catA (pe_slice sl_tupA (pv 11) po_none (po_some (pv 12))) (pe_tup (pa_cons (pe_tup (pa_cons (pe_ix ix_tup (pv 13) pe_int (fun _ _ => rfl)) (pa_cons (pe_ix ix_tup (pv 13) pe_int (fun _ _ => rfl)) (pa_cons (pe_ix ix_tup (pv 13) pe_int (fun _ _ => rfl)) (pa_cons (pv 16) pa_nil))))) pa_nil))) (pe_slice sl_tupA (pv 11) (po_some (pe_op op_add (pv 12) pe_int)) po_none)) pa_nil))))) pss_nil)
 (Evl.pss_cut (ps_if (PW.pt (pw_and (pt_cmpR op_gt (pe_callB call_len_seq (by rfl) T.ml PySem.boot_len (pa_cons (pv 11) pa_nil)) pe_int (nomark _)) (pw_and1 (pt_cmpR op_ne (pe_ix ix_tup (pv 13) pe_int (fun _ _ => rfl)) (pe_ix ix_tup (pv 13) pe_int (fun _ _ => rfl)) (nomark _))))) (pss_one (ps_expr (pe_bm PySem.F.plainAttrs_list PySem.F.slot_list_append PySem.F.type_list_append mt_append (pv 15) (pa_cons (pe_op op_catA (pe_slice sl_tupA (pv 11) po_none (po_some (pv 12))) (pe_slice sl_tupA (pv 11) (po_some (pe_op op_add (pv 12) pe_int)) po_none)) pa_nil)))) pss_nil)
 (pss_one (ps_for PassesOwn.never rfl (pi_list (pv 15)) (pg_name (i := 17) sc.nd rfl (Or.inl rfl)) (pss_one (ps_if (pt_cmpR op_isnot_bl (call_h T.cst hr4 (by rfl) pass0 (pa_cons (pv 17) (pa_cons (pv 6) pa_nil))) pe_bl (nomark _)) (pss_one (ps_ret pe_bl)) pss_nil))))))))))))
 (pss_cons (ps_set (i := 18) sc.nd rfl (Or.inl rfl) (call_h T.dr hr1 (by rfl) pass0 (pa_cons (pv 1) (pa_cons pe_int pa_nil))))
 (pss_cons (ps_set (i := 19) sc.nd rfl (Or.inl rfl) (pe_make T.bm.m T.bm.ok hr4 (by rfl) T.B.mgC T.bm.bi T.bm.va pass0 (pa_cons pe_int (pa_cons (pe_lst (pa_cons (pe_tup (pa_cons pe_int (pa_cons pe_int (pa_cons (pe_op op_add (pv 18) pe_int) (pa_cons pe_non pa_nil))))) pa_nil)) pa_nil))))
 (pss_cons (ps_set (i := 20) sc.nd rfl (Or.inl rfl) (pe_make T.bm.m T.bm.ok hr4 (by rfl) T.B.mgC T.bm.bi T.bm.va pass0 (pa_cons pe_int (pa_cons (pe_lst (pa_cons (pe_tup (pa_cons pe_int (pa_cons pe_int (pa_cons pe_int (pa_cons (pe_op op_add (pv 18) pe_int) pa_nil))))) pa_nil)) pa_nil))))
 (pss_cons (ps_set (i := 21) sc.nd rfl (Or.inl rfl) (pe_tup (pa_cons (pe_tup (pa_cons pe_int (pa_cons pe_int (pa_cons pe_int (pa_cons (pe_op op_add (pv 18) pe_int) pa_nil))))) (pa_cons (pe_tup (pa_cons pe_int (pa_cons pe_int (pa_cons pe_int (pa_cons (pe_op op_sub (pe_op op_sub pe_int (pv 18)) pe_int) pa_nil))))) (pa_cons (pe_tup (pa_cons pe_int (pa_cons pe_int (pa_cons pe_int (pa_cons (pe_un un_neg pe_int) pa_nil))))) pa_nil)))))
 (pss_cons (ps_set (i := 21) sc.nd rfl (Or.inl rfl) (pe_tup (pa_cons (pe_ix ix_tup (pv 21) pe_int (fun _ _ => rfl)) (pa_cons (pe_ix ix_tup (pv 21) pe_int (fun _ _ => rfl)) (pa_cons (pe_ix ix_tup (pv 21) pe_int (fun _ _ => rfl)) pa_nil)))))
 (pss_cons (ps_if (PW.pt (pw_or (pt_cmpR op_isnot_bl (call_h T.cls hr3 (by rfl) pass0 (pa_cons (pv 21) (pa_cons (pv 19) (pa_cons (pv 20) pa_nil)))) pe_bl (nomark _)) (pw_or1 (pt_cmpR op_isnot_bl (call_h T.cls hr3 (by rfl) pass0 (pa_cons (pe_op op_catA (pe_slice sl_tupA (pv 21) (po_some pe_int) po_none) (pe_slice sl_tupA (pv 21) po_none (po_some pe_int))) (pa_cons (pv 19) (pa_cons (pv 20) pa_nil)))) pe_bl (nomark _))))) (pss_one (ps_ret pe_bl)) pss_nil)
 (pss_cons (ps_if (PW.pt (pw_or (pt_cmpR op_isnot_bl (call_h T.cls hr3 (by rfl) pass0 (pa_cons (pv 21) (pa_cons (pv 20) (pa_cons (pv 19) pa_nil)))) pe_bl (nomark _)) (pw_or1 (pt_cmpR op_isnot_bl (call_h T.cls hr3 (by rfl) pass0 (pa_cons (pe_rev3 (pv 21)) (pa_cons (pv 19) (pa_cons (pv 20) pa_nil)))) pe_bl (nomark _))))) (pss_one (ps_ret pe_bl)) pss_nil)
 (pss_cons (ps_if (pt_cmpR op_isnot_bl (call_h T.cls hr3 (by rfl) pass0 (pa_cons (pe_tup (pa_cons (pe_ix ix_tup (pv 21) pe_int (fun _ _ => rfl)) (pa_cons (pe_ix ix_tup (pv 21) pe_int (fun _ _ => rfl)) (pa_cons (pe_tup (pa_cons pe_int (pa_cons pe_int (pa_cons pe_int (pa_cons (pe_op op_sub (pe_op op_sub pe_int (pv 18)) pe_int) pa_nil))))) pa_nil)))) (pa_cons (pv 19) (pa_cons (pv 20) pa_nil)))) pe_bl (nomark _)) (pss_one (ps_ret pe_bl)) pss_nil)
 (pss_cons (ps_if (PW.pt (pw_or (pt_cmpR op_isnot_bl (call_h T.cls hr3 (by rfl) pass0 (pa_cons (pe_tup (pa_cons (pe_ix ix_tup (pv 21) pe_int (fun _ _ => rfl)) (pa_cons (pe_ix ix_tup (pv 21) pe_int (fun _ _ => rfl)) (pa_cons (pe_tup (pa_cons pe_int (pa_cons pe_int (pa_cons pe_int (pa_cons (pe_op op_sub (pe_op op_sub pe_int (pv 18)) pe_int) pa_nil))))) pa_nil)))) (pa_cons (pv 19) (pa_cons (pv 20) pa_nil)))) pe_bl (nomark _)) (pw_or1 (pt_cmpR op_isN (call_h T.clo hr4 (by rfl) passL (pa_cons (pv 19) (pa_cons (pv 20) pa_nil))) pe_non (nomark _))))) (pss_one (ps_ret pe_bl)) pss_nil)
 (pss_cons (ps_set (i := 22) sc.nd rfl (Or.inl rfl) (pe_make T.bm.m T.bm.ok hr4 (by rfl) T.B.mgC T.bm.bi T.bm.va pass0 (pa_cons pe_int (pa_cons (pe_lst (pa_cons (pe_tup (pa_cons pe_int (pa_cons pe_int (pa_cons pe_int (pa_cons pe_int pa_nil))))) (pa_cons (pe_tup (pa_cons pe_int (pa_cons pe_int (pa_cons pe_int (pa_cons pe_int pa_nil))))) pa_nil))) pa_nil))))
 (pss_cons (ps_if (PW.pt (pw_or (pt_cmpR op_isnot_bl (call_h T.cls hr3 (by rfl) pass0 (pa_cons (pe_tup (pa_cons (pe_tup (pa_cons pe_int (pa_cons pe_int (pa_cons pe_int (pa_cons (pe_un un_neg pe_int) pa_nil))))) pa_nil)) (pa_cons (pv 22) pa_nil))) pe_bl (nomark _)) (pw_or1 (pt_cmpR op_isnot_bl (call_h T.cls hr3 (by rfl) pass0 (pa_cons (pe_tup (pa_cons (pe_tup (pa_cons pe_int (pa_cons pe_int (pa_cons pe_int (pa_cons (pe_un un_neg pe_int) pa_nil))))) pa_nil)) (pa_cons (pv 22) (pa_cons (pe_make T.bm.m T.bm.ok hr4 (by rfl) T.B.mgC T.bm.bi T.bm.va pass0 (pa_cons pe_int (pa_cons (pe_lst pa_nil) pa_nil))) pa_nil)))) pe_bl (nomark _))))) (pss_one (ps_ret pe_bl)) pss_nil)
 (pss_one (ps_try_only (tb := fun W => tSeq (tDrop (tClS (starSp 0 (spClosingB C OC)) (WE W) (tCons (tVar 19) (tCons (tMake C (spInit C) [.non] E0 (tCons (tOp (rI0 fun i j => V.int (i + j)) (tVar 2) (tC (.int 3))) (tCons (tLst tNil) tNil))) tNil)))) (tRet (tC (.bl false)))) (ts := fun _ _ _ => tRet (tC (.bl true))) (Wout := fun _ _ _ _ => False) rfl rfl ⟨rfl, by decide, Or.inl T.O.g⟩ takes0
   (fun W pn xe tk _ => pss_cons (ps_expr (call_hS T.clo hr4 (by rfl) (fun σ => passAt tk σ) (pa_cons (pv 19) (pa_cons (pe_make T.bm.m T.bm.ok hr4 (by rfl) T.B.mgC T.bm.bi T.bm.va pass0 (pa_cons (pe_op op_add (pv 2) pe_int) (pa_cons (pe_lst pa_nil) pa_nil))) pa_nil)))) (pss_one (ps_ret pe_bl)))
   (fun _ _ _ _ _ _ _ => pss_one (ps_ret pe_bl)))))))))))))))))))))))))))), ?_⟩
  have n4 : ∀ k : Nat, k ≤ 200 → (k : Int) < 2 ^ 62 := fun k hk => by omega
  -- the state
  refine ⟨_, rfl, a, ns, rfl, hS, fun st l0 H1 s1 nst nl0 hA1 => ?_⟩
  refine ⟨_, rfl, st, l0, 4, rfl, by decide, hA1, fun lots H2 hlots hA2 x2 => ?_⟩
  have hl3 : lots ≤ 3 := by omega
  refine ⟨fun σ H3 => ∃ most : Nat, (most = 3 ∨ most = 99) ∧ σ = [some (.ref a), some (.ref st), some (.int (lots : Int)), some (.int (most : Int)), none, none, none, none, none, none, none, none, none, none, none, none, none, none, none, none, none, none, none, none, none, none] ∧ StAt l0 H3 st, ?_, ?_⟩
  · exact ⟨_, rfl, st, l0, 4, rfl, by decide, hA2, fun d H3 hd hA3 x3 => ⟨rfl, _, rfl, ite2 (fun c => ⟨99, .inr rfl, rfl, hA3⟩) (fun c => ⟨3, .inl rfl, rfl, hA3⟩)⟩⟩
  rintro σ H3 ⟨most, hmost, rfl, hA3⟩
  clear hA2 hA1 x2 s1 nst nl0
  have hm99 : most ≤ 99 := by omega
  -- rows
  refine ⟨_, rfl, st, l0, 4, rfl, by decide, hA3, fun dn H4 hdn hA4 x4 => ⟨_, _, rfl, rfl, _, rfl, by omega, by omega, fun D nD => ?_⟩⟩
  rw [show ((1 : Int) + (dn : Int)).toNat = dn + 1 by omega]
  have hDst : D ≠ st := by
    obtain ⟨_, _, _, _, _, e, _⟩ := id hA4
    exact (ne_of_none e nD).symm
  have hDl : D ≠ l0 := by
    obtain ⟨_, _, _, _, _, _, _, e, _⟩ := id hA4
    exact (ne_of_none e nD).symm
  refine lc_range (lo := 0) (n := dn + 1) (fun i H => ∃ rows : List (List Lim), StAt l0 H st ∧ RowsAt st H D rows ∧ rows.length = i ∧ ∀ r ∈ rows, r.length ≤ 2 ∧ ∀ l ∈ r, LimIn lots most l) ⟨[], hA4.keep (same_new nD), ⟨[], upd_same, rfl, fun j r ls e => by simp at e⟩, rfl, fun r h => nomatch h⟩ ?_ ?_
  · rintro i H5 hi ⟨rows, hA5, hR5, len, hv⟩
    rw [Int.zero_add]
    refine ⟨rfl, ?_⟩
    unfold tYes
    dsimp only
    rw [if_pos rfl]
    refine ⟨_, rfl, _, rfl, _, rfl, st, l0, lots, 2, most, rfl, by omega, by decide, hm99, hA5, fun r ls H6 hA6 x6 hL nr hlen hv2 => ?_⟩
    have hR6 := hR5.sx hA5 hDst x6
    have hrst : r ≠ st := by
      obtain ⟨_, _, _, _, _, e, _⟩ := id hA5
      exact (ne_of_none e nr).symm
    have hrD : r ≠ D := by
      obtain ⟨_, e, _⟩ := id hR5
      exact (ne_of_none e nr).symm
    obtain ⟨rs, u1, u2, u3⟩ := id hR6
    refine ⟨_, u1, ?_, rows ++ [ls], ?_, hR6.snoc u1 hrst hrD hL, by rw [List.length_append, len]; rfl, fun r hr => ?_⟩
    · rw [List.length_map, u2]
      exact small1000 (by omega)
    · obtain ⟨ns', p', b', s', t', g1, g2, g3, g4⟩ := hA6
      exact ⟨ns', p', b', s', t', by rw [upd_ne hDst.symm]; exact g1, g2, by rw [upd_ne hDl.symm]; exact g3, g4⟩
    · rcases List.mem_append.mp hr with hr | hr
      · exact hv r hr
      · rw [List.mem_singleton.mp hr]
        exact ⟨hlen, hv2⟩
  rintro H5 ⟨rows, hA5, hR5, len, hv⟩
  clear hA4 hA3 x4 nD
  have hst5 : ∃ o, H5 st = some o := by
    obtain ⟨_, _, _, _, _, e, _⟩ := id hA5
    exact ⟨_, e⟩
  have h14 : 1 ≤ rows.length ∧ rows.length ≤ 4 := by omega
  have hne : rows ≠ [] := fun e => by
    rw [e] at h14
    simp at h14
  have hval : ∀ r ∈ rows, ∀ l ∈ r, ValidL lots l := fun r hr l hl => ((hv r hr).2 l hl).1
  have hwf : ∀ r ∈ rows, ∀ l ∈ r, WfL (lots + 2) l := fun r hr l hl => ⟨(hval r hr l hl).1, by have := (hval r hr l hl).2.1; omega⟩
  obtain ⟨rs, u1, u2, u3⟩ := id hR5
  have nth : ∀ (i : Nat) (x : V), (rs.map V.ref)[i]? = some x → ∃ (r : Addr) (ls : List Lim), x = .ref r ∧ rs[i]? = some r ∧ rows[i]? = some ls ∧ ls ∈ rows := fun i x hi => by
    rw [List.getElem?_map] at hi
    cases e : rs[i]? with
    | none => rw [e] at hi; cases hi
    | some r =>
      rw [e] at hi
      have hil : i < rows.length := by
        rw [← u2]
        exact (List.getElem?_eq_some_iff.mp e).1
      exact ⟨r, rows[i], (Option.some.inj hi).symm, rfl, List.getElem?_eq_getElem hil, List.getElem_mem hil⟩
  -- cells
  have R := hR5
  refine ⟨_, rfl, D, rfl, ⟨_, SqL.of u1⟩, fun D2 nD2 => ?_⟩
  refine lc_growL (K := K) (a := D) (xs := rs.map V.ref) (fun i y H => ∃ (x : Addr) (ls : List Lim), y = .ref x ∧ rows[i]? = some ls ∧ BAt C H x lots (farG lots ls)) u1 nD2 (by rw [List.length_map, u2]; omega)
    (fun i y H H' ⟨x, ls, e, h1, h2⟩ s => ⟨x, ls, e, h1, h2.same s⟩) (fun i y H xs zs ⟨x, ls, e, h1, h2⟩ e2 _ _ => ⟨x, ls, e, h1, h2.off e2⟩) (fun i y H acc Kq hi s6 eD2 cont => ?_) (fun H6 ys s6 eD2 len2 hB => ?_)
  · obtain ⟨r, ls, rfl, h1, h2, h3⟩ := nth i y hi
    obtain ⟨v1, v2, v3⟩ := u3 i r ls h1 h2
    obtain ⟨ts, t1, t2, t3⟩ := id (v3.same s6)
    refine ⟨_, rfl, _, rfl, r, _, rfl, .inl (SqL.of t1), fun l nl => ?_⟩
    have sl : Same H (upd H l (.lst (ts.map V.ref))) := same_new nl
    have hl : LimsAt (upd H l (.lst (ts.map V.ref))) l ls := ⟨ts, upd_same, t2, fun j x q e1 e2 => sl _ _ (t3 j x q e1 e2)⟩
    exact make_use hl (by omega) (hval ls h3) fun x H' s7 nx hb => cont _ H' (sl.trans s7) ⟨x, ls, rfl, h2, hb⟩
  have hA6 := hA5.keep s6
  have R6 := hR5.same s6
  have hgl : (rows.map (farG lots)).length = rows.length := List.length_map ..
  have hC6 : CL C H6 D2 lots (rows.map (farG lots)) := by
    have e : ∃ xs : List Addr, ys = xs.map V.ref := by
      have key : ∀ (ys : List V), (∀ y ∈ ys, ∃ r, y = V.ref r) → ∃ rs : List Addr, ys = rs.map V.ref := by
        intro ys
        induction ys with
        | nil => exact fun _ => ⟨[], rfl⟩
        | cons y t ih =>
          intro h
          obtain ⟨rs, e⟩ := ih fun z hz => h z (List.mem_cons_of_mem _ hz)
          obtain ⟨r, e2⟩ := h y (List.mem_cons_self ..)
          exact ⟨r :: rs, by rw [e, e2]; rfl⟩
      refine key ys fun y hy => ?_
      obtain ⟨i, hi⟩ := List.getElem?_of_mem hy
      obtain ⟨x, _, e, _⟩ := hB i y hi
      exact ⟨x, e⟩
    obtain ⟨xs, rfl⟩ := e
    rw [List.length_map, List.length_map, u2] at len2
    refine ⟨xs, eD2, by rw [hgl]; exact len2, fun i x g e1 e2 => ?_⟩
    obtain ⟨x', ls, e3, e4, hb⟩ := hB i (.ref x) (by rw [List.getElem?_map, e1]; rfl)
    cases e3
    rw [List.getElem?_map, e4] at e2
    cases e2
    exact hb
  have hD2st : D2 ≠ st := by
    obtain ⟨o, e⟩ := hst5
    exact (ne_of_none e nD2).symm
  clear hB eD2 len2 nD2
  -- limits
  refine ⟨Nat.zero_le _, fun L0 nL0 => ?_⟩
  have s7 : Same H6 (upd H6 L0 (.lst [])) := same_new nL0
  refine ⟨_, rfl, D, rfl, ⟨_, SqL.of (s7 _ _ (s6 _ _ u1))⟩, for_list (K := K) (a := D) (xs := rs.map V.ref) (fun i σ H7 => ∃ (L : Addr) (v7 : Option V), σ = [some (.ref a), some (.ref st), some (.int (lots : Int)), some (.int (most : Int)), some (.ref D), some (.ref L), some (.ref D2), v7, none, none, none, none, none, none, none, none, none, none, none, none, none, none, none, none, none, none] ∧ Same H6 H7 ∧ LimsAt H7 L ((rows.take i).flatten) ∧ ((rows.take i).flatten).length ≤ 2 * i)
    ⟨L0, none, rfl, s7, ⟨[], upd_same, rfl, fun i x l e => by simp at e⟩, Nat.le_refl _⟩ (fun i σ H7 _ ⟨_, _, _, s, _⟩ => SqL.of (s _ _ (s6 _ _ u1))) ?_ ?_⟩
  · rintro i y σ H7 hi ⟨L, v7, rfl, s8, hL, hlen⟩
    obtain ⟨r, ls, rfl, h1, h2, h3⟩ := nth i y hi
    obtain ⟨v1, v2, v3⟩ := u3 i r ls h1 h2
    have v4 := v3.same (s6.trans s8)
    obtain ⟨ts, t1, t2, t3⟩ := id v4
    obtain ⟨us, w1, w2, w3⟩ := id hL
    have hil := (List.getElem?_eq_some_iff.mp h2).1
    have hl2 := (hv ls h3).1
    have ef : (rows.take (i + 1)).flatten = (rows.take i).flatten ++ ls := by
      rw [List.take_add_one, h2, List.flatten_append]
      simp
    refine ⟨_, rfl, _, rfl, L, r, _, _, rfl, rfl, w1, t1, ?_, fun p np => ?_⟩
    · rw [List.length_map, List.length_map, w2, t2]
      exact Nat.le_of_lt (small1000 (by omega))
    · refine ⟨p, _, rfl, s8.trans (same_new np), ?_, ?_⟩
      · rw [ef]
        exact LimsAt.app hL v4 w1 t1 np
      · rw [ef, List.length_append]
        omega
  rintro σ H7 ⟨L, v7, rfl, s8, hL, hlen⟩
  rw [List.take_of_length_le (by rw [List.length_map, u2]; exact Nat.le_refl _)] at hL
  clear hlen s7 nL0
  have hallv : ∀ l ∈ rows.flatten, ValidL lots l := fun l hl => by
    obtain ⟨r, hr, hl2⟩ := List.mem_flatten.mp hl
    exact hval r hr l hl2
  have hallw : ∀ l ∈ rows.flatten, WfL (lots + 2) l := fun l hl => by
    obtain ⟨r, hr, hl2⟩ := List.mem_flatten.mp hl
    exact hwf r hr l hl2
  have hA7 := hA6.keep s8
  have hC7 := hC6.same s8
  have s68 := s6.trans s8
  -- views
  refine ⟨_, rfl, D, rfl, ⟨_, SqL.of (s68 _ _ u1)⟩, fun D3 nD3 => ?_⟩
  have hst7 : ∃ o, H7 st = some o := by
    obtain ⟨o, e⟩ := hst5
    exact ⟨o, s68 _ _ e⟩
  refine lc_growL (K := K) (a := D) (xs := rs.map V.ref) (fun i y H => ∃ ls : List Lim, rows[i]? = some ls ∧ VwX st H y (lots + 2) (farG lots ls) ∧ VwX D3 H y (lots + 2) (farG lots ls)) (s68 _ _ u1) nD3 (by rw [List.length_map, u2]; omega)
    (fun i y H H' ⟨ls, h1, h2, h3⟩ s => ⟨ls, h1, h2.same s, h3.same s⟩) (fun i y H xs zs ⟨ls, h1, h2, h3⟩ e2 _ _ => ⟨ls, h1, h2.off h3, h3.off h3⟩) (fun i y H acc Kq hi s9 eD3 cont => ?_) (fun H8 ys s9 eD3 len3 hB => ?_)
  · obtain ⟨r, ls, rfl, h1, h2, h3⟩ := nth i y hi
    obtain ⟨v1, v2, v3⟩ := u3 i r ls h1 h2
    obtain ⟨o, eo⟩ := hst7
    refine ⟨_, rfl, _, rfl, lots, r, ls, rfl, v3.same (s68.trans s9), by omega, hval ls h3, fun hn r' H' s10 hg => cont _ H' s10 ⟨ls, h2, ?_, ?_⟩, fun hn H' s10 => cont _ H' s10 ⟨ls, h2, .inl ⟨rfl, law_neg hn⟩, .inl ⟨rfl, law_neg hn⟩⟩⟩
    · exact .inr ⟨r', rfl, hg.glx (law_eq lots ls hn) (s9 _ _ eo), law_nn hn⟩
    · exact .inr ⟨r', rfl, hg.glx (law_eq lots ls hn) eD3, law_nn hn⟩
  have hA8 := hA7.keep s9
  have hC8 := hC7.same s9
  have hL8 := hL.same s9
  have hV8 : VwsX st H8 D3 (lots + 2) (rows.map (farG lots)) := by
    obtain ⟨o, eo⟩ := hst7
    refine ⟨(ne_of_none eo nD3).symm, ys, eD3, by rw [len3, List.length_map, u2, hgl], fun i v g e1 e2 => ?_⟩
    obtain ⟨ls, h1, h2, _⟩ := hB i v e1
    rw [List.getElem?_map, h1] at e2
    cases e2
    exact h2
  clear hB eD3 len3 nD3 hst7 hL hC7 hA7 hA6 hC6 R6 hst5
  -- fits, by the distances
  refine ⟨fun σ H9 => ∃ (b : Bool), (b = true ↔ ∃ p, Places p lots rows.flatten) ∧ Same H8 H9 ∧ σ = [some (.ref a), some (.ref st), some (.int (lots : Int)), some (.int (most : Int)), some (.ref D), some (.ref L), some (.ref D2), v7, some (.ref D3), some (.bl b), none, none, none, none, none, none, none, none, none, none, none, none, none, none, none, none], ?_, ?_⟩
  · refine ⟨_, rfl, _, rfl, lots, L, rows.flatten, rfl, hL8, by omega, hallv, fun hn r' H' s10 hg => ⟨rfl, true, ⟨fun _ => (feas_iff hallw).mp ((law_iff lots _).mp hn), fun _ => rfl⟩, s10, rfl⟩, fun hn H' s10 => ⟨rfl, false, ⟨(by intro e; cases e), fun hp => ?_⟩, s10, rfl⟩⟩
    exact absurd hn (not_neg.mpr ((law_iff lots _).mpr ((feas_iff hallw).mpr hp)))
  rintro σ H9 ⟨b, hb, s9', rfl⟩
  have hA9 := hA8.keep s9'
  have hC9 := hC8.same s9'
  have hL9 := hL8.same s9'
  have hV9 := hV8.same s9'
  clear hA8 hC8 hL8 hV8
  -- fits, by the box
  refine ⟨fun σ H10 => ∃ (b : Bool) (v10 : Option V), (b = true ↔ ∃ p, Places p lots rows.flatten) ∧ Same H9 H10 ∧ σ = [some (.ref a), some (.ref st), some (.int (lots : Int)), some (.int (most : Int)), some (.ref D), some (.ref L), some (.ref D2), v7, some (.ref D3), some (.bl b), v10, none, none, none, none, none, none, none, none, none, none, none, none, none, none, none], ?_, ?_⟩
  · refine ⟨_, rfl, rfl, _, rfl, ?_⟩
    rcases hmost with rfl | rfl
    · rw [decide_eq_true (show V.int ((3 : Nat) : Int) = V.int 3 from rfl)]
      refine iteT ?_
      have hle : ∀ l ∈ rows.flatten, WfL (lots + 2) l ∧ l.le ≤ 3 := fun l hl => ⟨hallw l hl, by
        obtain ⟨r, hr, hl2⟩ := List.mem_flatten.mp hl
        exact ((hv r hr).2 l hl2).2.1⟩
      have hbox := box_iff hle
      have pw : ∀ k, k ≤ lots + 1 → ((if 0 < lots then 4 else 6) + 1) ^ k ≤ 900 := fun k hk => by
        rcases (show lots = 0 ∨ 0 < lots by omega) with z | z
        · rw [if_neg (by omega)]
          have : k ≤ 1 := by omega
          exact Nat.le_trans (Nat.pow_le_pow_right (by decide) this) (by decide)
        · rw [if_pos z]
          have : k ≤ 4 := by omega
          exact Nat.le_trans (Nat.pow_le_pow_right (by decide) this) (by decide)
      have tl : (if 0 < lots then 4 else 6) ≤ 90 := by split <;> decide
      refine ⟨_, rfl, _, _, rfl, rfl, _, rfl, ?_⟩
      have fin : ∀ (t : Nat), t = (if 0 < lots then 4 else 6) → ∀ D' H' (ys : List V), Same H9 H' → H' D' = some (.lst ys) → (0 < ys.length ↔ ∃ v ∈ vecs t (lots + 1), inCell rows.flatten v) → (decide ((0 : Int) < (ys.length : Int)) = true ↔ ∃ p, Places p lots rows.flatten) := fun t ht D' H' ys _ _ h => by
        rw [← hbox, ← ht, ← h, decide_eq_true_iff]
        omega
      rcases (show lots = 0 ∨ 0 < lots by omega) with z | z
      · rw [if_neg (by omega)] at pw
        rw [decide_eq_false (show ¬ (0 : Int) < (lots : Int) by omega)]
        refine iteF ?_
        refine ⟨_, rfl, _, _, rfl, rfl, _, rfl, lots + 1, 6, rfl, by omega, by omega, pw, fun r H1 s1 nr hV => ?_⟩
        obtain ⟨rs, u1, u2, u3⟩ := id hV
        have hlen : rs.length ≤ 900 := by
          rw [u2, vecs_len]
          exact pw _ (Nat.le_refl _)
        refine ⟨r, rfl, ⟨_, SqL.of u1⟩, fun D nD => ?_⟩
        refine lc_list (K := K) (a := r) (xs := rs.map V.ref) (fun i H' => Same H1 H' ∧ ∃ ys, H' D = some (.lst ys) ∧ ys.length ≤ i ∧ (0 < ys.length ↔ ∃ v ∈ (vecs 6 (lots + 1)).take i, inCell rows.flatten v)) ⟨same_new nD, [], upd_same, Nat.le_refl _, ⟨fun h => absurd h (by decide), fun ⟨v, h, _⟩ => by simp at h⟩⟩ (fun i H' _ p => SqL.of (p.1 _ _ u1)) ?_ ?_
        · rintro i y H2 hi ⟨s2, ys, eD, hy, hiff⟩
          obtain ⟨x, hx, rfl⟩ : ∃ x, rs[i]? = some x ∧ y = V.ref x := by
            rw [List.getElem?_map] at hi
            cases e : rs[i]? with
            | none => rw [e] at hi; cases hi
            | some x => rw [e] at hi; exact ⟨x, rfl, (Option.some.inj hi).symm⟩
          have hil : i < (vecs 6 (lots + 1)).length := by
            rw [← u2]
            exact (List.getElem?_eq_some_iff.mp hx).1
          have hv : (vecs 6 (lots + 1))[i]? = some (vecs 6 (lots + 1))[i] := List.getElem?_eq_getElem hil
          have e3 := s2 _ _ (u3 i x _ hx hv).2
          have et : (vecs 6 (lots + 1)).take (i + 1) = (vecs 6 (lots + 1)).take i ++ [(vecs 6 (lots + 1))[i]] := by
            rw [List.take_add_one, hv]
            rfl
          refine ⟨rfl, ?_⟩
          refine ⟨_, rfl, _, rfl, L, x, rows.flatten, (vecs 6 (lots + 1))[i], rfl, hL9.same (s1.trans s2), SqL.of e3, fun b H3 hb s3 => ⟨b, rfl, ?_⟩⟩
          have eD3 := s3 _ _ eD
          cases b with
          | true =>
            refine iteT ⟨_, rfl, ys, eD3, small1000 (by omega), same_over (s2.trans s3) nD, _, upd_same, by simp; omega, ?_⟩
            rw [et]
            exact ⟨fun _ => ⟨_, List.mem_append_right _ (List.mem_singleton.mpr rfl), hb.mp rfl⟩, fun _ => by simp⟩
          | false =>
            refine iteF ⟨s2.trans s3, ys, eD3, by omega, hiff.trans ?_⟩
            rw [et]
            constructor
            · rintro ⟨v, h1, h2⟩
              exact ⟨v, List.mem_append_left _ h1, h2⟩
            · rintro ⟨v, h1, h2⟩
              rcases List.mem_append.mp h1 with h1 | h1
              · exact ⟨v, h1, h2⟩
              · rw [List.mem_singleton.mp h1] at h2
                exact absurd (hb.mpr h2) (by decide)
        · rintro H2 ⟨s2, ys, eD, hy, hiff⟩
          rw [List.take_of_length_le (by rw [List.length_map, u2]; exact Nat.le_refl _)] at hiff
          exact ⟨D, ys, rfl, .inl (SqL.of eD), _, _, rfl, rfl, _, _, fin 6 (by rw [if_neg (by omega)]) D H2 ys (s1.trans s2) eD hiff, s1.trans s2, rfl⟩
      · rw [if_pos z] at pw
        rw [decide_eq_true (show (0 : Int) < (lots : Int) by omega)]
        refine iteT ?_
        refine ⟨_, rfl, _, _, rfl, rfl, _, rfl, lots + 1, 4, rfl, by omega, by omega, pw, fun r H1 s1 nr hV => ?_⟩
        obtain ⟨rs, u1, u2, u3⟩ := id hV
        have hlen : rs.length ≤ 900 := by
          rw [u2, vecs_len]
          exact pw _ (Nat.le_refl _)
        refine ⟨r, rfl, ⟨_, SqL.of u1⟩, fun D nD => ?_⟩
        refine lc_list (K := K) (a := r) (xs := rs.map V.ref) (fun i H' => Same H1 H' ∧ ∃ ys, H' D = some (.lst ys) ∧ ys.length ≤ i ∧ (0 < ys.length ↔ ∃ v ∈ (vecs 4 (lots + 1)).take i, inCell rows.flatten v)) ⟨same_new nD, [], upd_same, Nat.le_refl _, ⟨fun h => absurd h (by decide), fun ⟨v, h, _⟩ => by simp at h⟩⟩ (fun i H' _ p => SqL.of (p.1 _ _ u1)) ?_ ?_
        · rintro i y H2 hi ⟨s2, ys, eD, hy, hiff⟩
          obtain ⟨x, hx, rfl⟩ : ∃ x, rs[i]? = some x ∧ y = V.ref x := by
            rw [List.getElem?_map] at hi
            cases e : rs[i]? with
            | none => rw [e] at hi; cases hi
            | some x => rw [e] at hi; exact ⟨x, rfl, (Option.some.inj hi).symm⟩
          have hil : i < (vecs 4 (lots + 1)).length := by
            rw [← u2]
            exact (List.getElem?_eq_some_iff.mp hx).1
          have hv : (vecs 4 (lots + 1))[i]? = some (vecs 4 (lots + 1))[i] := List.getElem?_eq_getElem hil
          have e3 := s2 _ _ (u3 i x _ hx hv).2
          have et : (vecs 4 (lots + 1)).take (i + 1) = (vecs 4 (lots + 1)).take i ++ [(vecs 4 (lots + 1))[i]] := by
            rw [List.take_add_one, hv]
            rfl
          refine ⟨rfl, ?_⟩
          refine ⟨_, rfl, _, rfl, L, x, rows.flatten, (vecs 4 (lots + 1))[i], rfl, hL9.same (s1.trans s2), SqL.of e3, fun b H3 hb s3 => ⟨b, rfl, ?_⟩⟩
          have eD3 := s3 _ _ eD
          cases b with
          | true =>
            refine iteT ⟨_, rfl, ys, eD3, small1000 (by omega), same_over (s2.trans s3) nD, _, upd_same, by simp; omega, ?_⟩
            rw [et]
            exact ⟨fun _ => ⟨_, List.mem_append_right _ (List.mem_singleton.mpr rfl), hb.mp rfl⟩, fun _ => by simp⟩
          | false =>
            refine iteF ⟨s2.trans s3, ys, eD3, by omega, hiff.trans ?_⟩
            rw [et]
            constructor
            · rintro ⟨v, h1, h2⟩
              exact ⟨v, List.mem_append_left _ h1, h2⟩
            · rintro ⟨v, h1, h2⟩
              rcases List.mem_append.mp h1 with h1 | h1
              · exact ⟨v, h1, h2⟩
              · rw [List.mem_singleton.mp h1] at h2
                exact absurd (hb.mpr h2) (by decide)
        · rintro H2 ⟨s2, ys, eD, hy, hiff⟩
          rw [List.take_of_length_le (by rw [List.length_map, u2]; exact Nat.le_refl _)] at hiff
          exact ⟨D, ys, rfl, .inl (SqL.of eD), _, _, rfl, rfl, _, _, fin 4 (by rw [if_pos z]) D H2 ys (s1.trans s2) eD hiff, s1.trans s2, rfl⟩
    · rw [decide_eq_false (show ¬ V.int ((99 : Nat) : Int) = V.int 3 from fun e => by
        have := V.int.inj e
        omega)]
      exact iteF ⟨b, none, hb, Same.refl _, rfl⟩
  rintro σ H10 ⟨b, v10, hb, s10, rfl⟩
  have hA10 := hA9.keep s10
  have hC10 := hC9.same s10
  have hV10 := hV9.same s10
  clear hA9 hC9 hV9 hL9
  -- told
  refine ⟨_, rfl, D2, lots, rows.map (farG lots), rfl, hC10, by rw [hgl]; exact h14.1, by rw [hgl]; exact h14.2, by omega, fun g hg => ?_, fun told H11 s11 hcl => ?_⟩
  · obtain ⟨r, _, rfl⟩ := List.mem_map.mp hg
    exact far_ds lots r
  have hA11 := hA10.keep s11
  have hC11 := hC10.same s11
  have hV11 := hV10.same s11
  clear hA10 hC10 hV10
  refine ⟨fun σ H12 => ∃ v3 v4 v5 v6 v7 v8 v9 v10 v11 v12 v13 v14 v15 v16 v17, σ = [some (.ref a), some (.ref st), some (.int (lots : Int)), v3, v4, v5, v6, v7, v8, v9, v10, v11, v12, v13, v14, v15, v16, v17, none, none, none, none, none, none, none, none] ∧ StAt l0 H12 st, ?_, ?_⟩
  · refine ⟨_, rfl, b, rfl, ?_⟩
    cases b with
    | true =>
      have hf := hb.mp rfl
      refine iteT ?_
      rcases hcl with ⟨rfl, _⟩ | ⟨t, qs, stp, u, rfl, _, _, hG⟩
      · exact ⟨_, rfl, rfl, _, rfl, iteF ⟨_, _, _, _, _, _, _, _, _, _, _, _, _, _, _, rfl, hA11⟩⟩
      · exact absurd hG (fit_no_good hne hwf hf)
    | false =>
      have hf : ¬ ∃ p, Places p lots rows.flatten := fun h => nomatch hb.mpr h
      refine iteF ?_
      rcases hcl with ⟨rfl, hN⟩ | ⟨t, qs, stp, u, rfl, et, hq, hG⟩
      · exact absurd hN (unfit_no_nocl hne hwf hf)
      have hz1 := hG.len
      have hz0 : 0 < stp.length := List.length_pos_iff.mpr hG.ne
      have hgs : ∀ g ∈ rows.map (farG lots), DS (lots + 2) g := fun g hg => by
        obtain ⟨r, _, rfl⟩ := List.mem_map.mp hg
        exact far_ds lots r
      have hg1 : 1 ≤ (rows.map (farG lots)).length := by rw [hgl]; exact h14.1
      have hg4 : (rows.map (farG lots)).length ≤ 4 := by rw [hgl]; exact h14.2
      generalize rows.map (farG lots) = gs at hG hC11 hV11 hgs hg1 hg4
      refine ⟨_, rfl, _, rfl, _, rfl, t, D3, qs, stp, lots, u, gs, rfl, et, hq, hG, hV11.at_, by omega, by omega, true, rfl, iteF ?_⟩
      refine ⟨_, rfl, _, rfl, t, D2, qs, stp, lots, gs, rfl, et, hq, hC11, hg1, hg4, by omega, hgs, fun b2 H12 hb2 s12 => ⟨b2, true, rfl, rfl, _, rfl, ?_⟩⟩
      obtain rfl := hb2.mpr hG.closes
      rw [decide_eq_true rfl]
      refine iteF ?_
      have hT12 : TupAt H12 t stp := TupAt.same ⟨qs, et, hq⟩ s12
      have et12 := s12 _ _ et
      have hA12 := hA11.keep s12
      have hC12 := hC11.same s12
      have hV12 := hV11.same s12
      have hlq : (qs.map V.ref).length = stp.length := by rw [List.length_map, hq.1]
      refine ⟨_, rfl, _, rfl, t, _, rfl, .inr (SqT.of et12), st, l0, (qs.map V.ref).length, rfl, by omega, hA12, fun k H13 hk hA13 x13 => ?_⟩
      have hkl : k < stp.length := by omega
      have kp := sx_tup hA12 x13
      have et13 := kp _ _ et12
      have hT13 := hT12.keep kp
      have hC13 := hC12.sx hA12 hD2st x13
      have hV13 := hV12.sx x13
      have hq13 : StQ H13 qs stp := (hq.keep fun t xs e => s12 _ _ e).keep kp
      clear hA11 hC11 hV11 hA12 hC12 hV12 hT12 et12 kp x13
      have es : stp[k]? = some stp[k] := List.getElem?_eq_getElem hkl
      have hkq : k < qs.length := by rw [hq.1]; exact hkl
      have eq : qs[k]? = some qs[k] := List.getElem?_eq_getElem hkq
      have hst := hq13.2 _ _ _ eq es
      have mq : (qs.map V.ref)[k]? = some (.ref qs[k]) := by rw [List.getElem?_map, eq]; rfl
      refine ⟨_, rfl, _, rfl, t, _, _, _, rfl, rfl, SqT.of et13, atN mq, ?_⟩
      generalize qs[k] = q1 at hst mq
      obtain ⟨hsts, _⟩ := hG.wk.steps hG.lt
      obtain ⟨_, c, x, y, g, d1, d2, d3, d4, d5, d6, d7⟩ := hsts k _ es
      generalize stp[k] = s1 at hst es d1 d2 d3 d7
      have i0 : ∀ {H : Hp}, Same H13 H → SqT K H q1 [V.int s1.c, .int s1.a, .int s1.b, .int s1.d] := fun s => SqT.of (s _ _ hst)
      -- total
      refine ⟨_, rfl, t, rfl, ⟨_, SqT.of et13⟩, fun D4 nD4 => ?_⟩
      refine lc_growT (K := K) (a := t) (xs := qs.map V.ref) (fun i y _ => ∃ s, stp[i]? = some s ∧ y = .int s.d) et13 nD4 (by omega) (fun _ _ _ _ h _ => h) (fun _ _ _ _ _ h _ _ _ => h) (fun i z H acc Kq hi s14 eD4 cont => ?_) (fun H14 ys s14 eD4 len4 hB => ?_)
      · obtain ⟨q', hq', rfl⟩ : ∃ q', qs[i]? = some q' ∧ z = V.ref q' := by
          rw [List.getElem?_map] at hi
          cases e : qs[i]? with
          | none => rw [e] at hi; cases hi
          | some x => rw [e] at hi; exact ⟨x, rfl, (Option.some.inj hi).symm⟩
        have hil : i < stp.length := by
          rw [← hq.1]
          exact (List.getElem?_eq_some_iff.mp hq').1
        have es' : stp[i]? = some stp[i] := List.getElem?_eq_getElem hil
        exact ⟨_, rfl, q', _, _, _, rfl, rfl, SqT.of (s14 _ _ (hq13.2 _ _ _ hq' es')), atI_nat (j := 3) rfl, cont _ _ (Same.refl _) ⟨_, es', rfl⟩⟩
      have eys : ys = (stp.map (·.d)).map V.int := by
        apply List.ext_getElem?
        intro i
        by_cases hi : i < stp.length
        · have e1 : ys[i]? = some ys[i] := List.getElem?_eq_getElem (by omega)
          obtain ⟨s', f1, f2⟩ := hB i _ e1
          rw [e1, f2, List.map_map, List.getElem?_map, f1]
          rfl
        · rw [List.getElem?_eq_none (by omega), List.getElem?_eq_none (by rw [List.length_map, List.length_map]; omega)]
      subst eys
      refine ⟨D4, stp.map (·.d), rfl, SqL.of eD4, ?_⟩
      have hT14 := hT13.same s14
      have hC14 := hC13.same s14
      have hV14 := hV13.same s14
      have hA14 := hA13.keep s14
      clear hB eD4 len4 nD4
      have hz5 : stp.length ≤ 100 := by omega
      have cE : ∀ {s' : S4}, ¬ okS (lots + 2) gs s' → ¬ Closes (lots + 2) gs (stp.take k ++ [s'] ++ stp.drop (k + 1)) := fun h => not_ok at_mem h
      -- the wrong answers
      refine ⟨Nat.zero_le _, fun p0 np0 => ?_⟩
      have b0 : Same H14 (upd H14 p0 (.tup [])) := same_new np0
      have tu0 : TupAt (upd H14 p0 (.tup [])) p0 [] := ⟨[], upd_same, rfl, fun i q s e => by simp at e⟩
      generalize upd H14 p0 (.tup []) = G0 at b0 tu0
      refine swap_val (p := t) (k := k) (st := stp) (s' := ⟨(gs.length : Int), s1.a, s1.b, s1.d⟩) (fun _ _ _ q => ⟨_, rfl, q⟩) (fun _ _ _ q => ⟨_, rfl, q⟩) (fun _ _ _ q => ⟨_, rfl, _, _, rfl, rfl, q⟩) (fun H' Q' sH kk => ?_) (hT14.same b0) hz5 fun p1 G1 b1 tu1 => ?_
      · obtain ⟨xs, z1, z2, _⟩ := (hC14.same b0).same sH
        have sx := (s14.trans b0).trans sH
        have elen : ((xs.map V.ref).length : Int) = (gs.length : Int) := by rw [List.length_map, z2]
        refine ⟨_, rfl, D2, _, rfl, .inl (SqL.of z1), _, rfl, q1, _, _, _, rfl, rfl, i0 sx, atI_nat (j := 1) rfl, _, rfl, q1, _, _, _, rfl, rfl, i0 sx, atI_nat (j := 2) rfl, _, rfl, q1, _, _, _, rfl, rfl, i0 sx, atI_nat (j := 3) rfl, (by show 4 ≤ sizeLine; decide), fun u nu => kk u _ (same_new nu) ?_⟩
        rw [upd_same, elen]
        rfl
      refine swap_val (p := t) (k := k) (st := stp) (s' := ⟨-1, s1.a, s1.b, s1.d⟩) (fun _ _ _ q => ⟨_, rfl, q⟩) (fun _ _ _ q => ⟨_, rfl, q⟩) (fun _ _ _ q => ⟨_, rfl, _, _, rfl, rfl, q⟩) (fun H' Q' sH kk => ?_) (hT14.same (b0.trans b1)) hz5 fun p2 G2 b2 tu2 => ?_
      · have sx := (s14.trans (b0.trans b1)).trans sH
        exact ⟨_, rfl, _, rfl, q1, _, _, _, rfl, rfl, i0 sx, atI_nat (j := 1) rfl, _, rfl, q1, _, _, _, rfl, rfl, i0 sx, atI_nat (j := 2) rfl, _, rfl, q1, _, _, _, rfl, rfl, i0 sx, atI_nat (j := 3) rfl, (by show 4 ≤ sizeLine; decide), fun u nu => kk u _ (same_new nu) upd_same⟩
      have c2 := (b0.trans b1).trans b2
      refine swap_val (p := t) (k := k) (st := stp) (s' := ⟨s1.c, s1.a, (lots : Int) + 2, s1.d⟩) (fun _ _ _ q => ⟨_, rfl, q⟩) (fun _ _ _ q => ⟨_, rfl, q⟩) (fun _ _ _ q => ⟨_, rfl, _, _, rfl, rfl, q⟩) (fun H' Q' sH kk => ?_) (hT14.same c2) hz5 fun p3 G3 b3 tu3 => ?_
      · have sx := (s14.trans c2).trans sH
        exact ⟨_, rfl, q1, _, _, _, rfl, rfl, i0 sx, atI_nat (j := 0) rfl, _, rfl, q1, _, _, _, rfl, rfl, i0 sx, atI_nat (j := 1) rfl, _, rfl, _, _, rfl, rfl, _, rfl, q1, _, _, _, rfl, rfl, i0 sx, atI_nat (j := 3) rfl, (by show 4 ≤ sizeLine; decide), fun u nu => kk u _ (same_new nu) upd_same⟩
      have c3 := c2.trans b3
      refine swap_val (p := t) (k := k) (st := stp) (s' := ⟨s1.c, s1.a, s1.b, s1.d - sumS stp⟩) (fun _ _ _ q => ⟨_, rfl, q⟩) (fun _ _ _ q => ⟨_, rfl, q⟩) (fun _ _ _ q => ⟨_, rfl, _, _, rfl, rfl, q⟩) (fun H' Q' sH kk => ?_) (hT14.same c3) hz5 fun p4 G4 b4 tu4 => ?_
      · have sx := (s14.trans c3).trans sH
        exact ⟨_, rfl, q1, _, _, _, rfl, rfl, i0 sx, atI_nat (j := 0) rfl, _, rfl, q1, _, _, _, rfl, rfl, i0 sx, atI_nat (j := 1) rfl, _, rfl, q1, _, _, _, rfl, rfl, i0 sx, atI_nat (j := 2) rfl, _, rfl, q1, _, _, _, rfl, rfl, i0 sx, atI_nat (j := 3) rfl, _, rfl, _, _, rfl, rfl, (by show 4 ≤ sizeLine; decide), fun u nu => kk u _ (same_new nu) upd_same⟩
      have c4 := c3.trans b4
      refine ⟨(by show 5 ≤ sizeLine; decide), fun W nW => ?_⟩
      have sW : Same G4 (upd G4 W (.lst [.ref p0, .ref p1, .ref p2, .ref p3, .ref p4])) := same_new nW
      have n0 : ¬ Closes (lots + 2) gs [] := fun ⟨_, _, z, _⟩ => by simp at z
      have hW : WrAt (upd G4 W (.lst [.ref p0, .ref p1, .ref p2, .ref p3, .ref p4])) W (lots + 2) gs 5 := by
        refine ⟨[p0, p1, p2, p3, p4], upd_same, Nat.le_refl _, fun p hp => ?_⟩
        simp only [List.mem_cons, List.not_mem_nil, or_false] at hp
        rcases hp with rfl | rfl | rfl | rfl | rfl
        · exact ⟨[], tu0.same ((((b1.trans b2).trans b3).trans b4).trans sW), n0⟩
        · exact ⟨_, tu1.same (((b2.trans b3).trans b4).trans sW), cE fun h => by have := h.2.1; simp at this⟩
        · exact ⟨_, tu2.same ((b3.trans b4).trans sW), cE fun h => by have := h.1; simp at this⟩
        · exact ⟨_, tu3.same (b4.trans sW), cE fun h => by have := h.2.2.2.2.2.1; simp at this⟩
        · refine ⟨_, tu4.same sW, not_sum ?_⟩
          rw [sum_swap es]
          simp
          omega
      have hT15 := hT14.same c4
      have hC15 := hC14.same c4
      have hV15 := hV14.same c4
      have hA15 := hA14.keep c4
      have s15 := s14.trans c4
      generalize upd G4 W (.lst [.ref p0, .ref p1, .ref p2, .ref p3, .ref p4]) = H16 at sW hW
      clear tu0 tu1 tu2 tu3 tu4 b0 b1 b2 b3 b4 c2 c3 c4
      have kpW : ∀ {H : Hp} {o : HO}, Same G4 H → Same G4 (upd H W o) := fun s => same_over s nW
      have j0 : atI [V.int s1.c, .int s1.a, .int s1.b, .int s1.d] 0 = some (.int (c : Int)) := by rw [d1]; rfl
      have j1 : atI [V.int s1.c, .int s1.a, .int s1.b, .int s1.d] 1 = some (.int (x : Int)) := by rw [d2]; rfl
      have j2 : atI [V.int s1.c, .int s1.a, .int s1.b, .int s1.d] 2 = some (.int (y : Int)) := by rw [d3]; rfl
      have iw : ∀ {H : Hp}, Same G4 H → SqT K H q1 [V.int s1.c, .int s1.a, .int s1.b, .int s1.d] := fun s => i0 (s15.trans s)
      -- one less
      refine ⟨fun σ H17 => ∃ v16, σ = [some (.ref a), some (.ref st), some (.int (lots : Int)), some (.int (most : Int)), some (.ref D), some (.ref L), some (.ref D2), v7, some (.ref D3), some (.bl false), v10, some (.ref t), some (.int (k : Int)), some (.ref q1), some (.int (stp.map (·.d)).sum), some (.ref W), v16, none, none, none, none, none, none, none, none, none] ∧ Same G4 H17 ∧ WrAt H17 W (lots + 2) gs 6, ?_, ?_⟩
      · obtain ⟨_, us, w1, w2, w3⟩ := hV15.same sW
        have hc := (List.getElem?_eq_some_iff.mp d6).1
        have ec : us[c]? = some us[c] := List.getElem?_eq_getElem (by omega)
        have hvw := w3 c _ g ec d6
        generalize us[c] = uv at ec hvw
        refine ⟨_, rfl, _, rfl, q1, _, _, _, rfl, rfl, iw sW, j0, D3, _, _, _, rfl, rfl, SqL.of w1, atN ec, rfl, _, rfl, ?_⟩
        rcases hvw with ⟨rfl, _⟩ | ⟨r, rfl, hgl2, hnn⟩
        · exact iteF ⟨none, rfl, sW, hW.le (by decide)⟩
        · obtain ⟨rs2, z, g1, g3, g4⟩ := hgl2.gl.row d4
          refine iteT ⟨_, rfl, _, rfl, q1, _, _, _, rfl, rfl, iw sW, j0, D3, _, _, _, rfl, rfl, SqL.of w1, atN ec, _, rfl, q1, _, _, _, rfl, rfl, iw sW, j1, r, _, _, _, rfl, rfl, SqL.of g1, atN g3, _, rfl, q1, _, _, _, rfl, rfl, iw sW, j2, z, _, _, _, rfl, rfl, SqL.of g4, rowV_nat d5, ?_⟩
          rw [d7]
          refine ⟨_, _, rfl, rfl, ?_⟩
          obtain ⟨ps, f1, f2, _⟩ := id hW
          refine ⟨_, rfl, .inl ⟨rfl, _, SqL.of f1⟩, ?_⟩
          refine swap_val (p := t) (k := k) (st := stp) (s' := ⟨s1.c, s1.a, s1.b, s1.d - 1⟩) (fun _ _ _ q => ⟨_, rfl, q⟩) (fun _ _ _ q => ⟨_, rfl, q⟩) (fun _ _ _ q => ⟨_, rfl, _, _, rfl, rfl, q⟩) (fun H' Q' sH kk => ?_) (hT15.same sW) hz5 fun p5 H18 b5 tu5 => ?_
          · have sx := sW.trans sH
            exact ⟨_, rfl, q1, _, _, _, rfl, rfl, iw sx, atI_nat (j := 0) rfl, _, rfl, q1, _, _, _, rfl, rfl, iw sx, atI_nat (j := 1) rfl, _, rfl, q1, _, _, _, rfl, rfl, iw sx, atI_nat (j := 2) rfl, _, rfl, (by show 4 ≤ sizeLine; decide), fun u nu => kk u _ (same_new nu) upd_same⟩
          have nC : ¬ Closes (lots + 2) gs (stp.take k ++ [⟨s1.c, s1.a, s1.b, s1.d - 1⟩] ++ stp.drop (k + 1)) := cE fun h => by
            obtain ⟨m, e1, e2⟩ := h.2.2.2.2.2.2 g (by show gs[s1.c.toNat]? = some g; rw [d1]; exact d6) hnn
            have e3 : g s1.a.toNat s1.b.toNat = some m := e1
            rw [d2, d3] at e3
            have e4 : g x y = some m := e3
            rw [d7] at e4
            cases e4
            have e5 : s1.d ≤ s1.d - 1 := e2
            omega
          obtain ⟨ps', f1', f2', hW'⟩ := (hW.same b5).snoc tu5 nC
          refine ⟨W, _, _, rfl, rfl, f1', ?_, some (.int (s1.d - 1)), rfl, kpW (sW.trans b5), hW'⟩
          rw [List.length_map]
          exact small1000 (by omega)
      rintro σ H17 ⟨v16, rfl, s17, hW17⟩
      -- one left out
      refine ⟨fun σ H18 => σ = [some (.ref a), some (.ref st), some (.int (lots : Int)), some (.int (most : Int)), some (.ref D), some (.ref L), some (.ref D2), v7, some (.ref D3), some (.bl false), v10, some (.ref t), some (.int (k : Int)), some (.ref q1), some (.int (stp.map (·.d)).sum), some (.ref W), v16, none, none, none, none, none, none, none, none, none] ∧ Same G4 H18 ∧ WrAt H18 W (lots + 2) gs 7, ?_, ?_⟩
      · have keep : ([some (.ref a), some (.ref st), some (.int (lots : Int)), some (.int (most : Int)), some (.ref D), some (.ref L), some (.ref D2), v7, some (.ref D3), some (.bl false), v10, some (.ref t), some (.int (k : Int)), some (.ref q1), some (.int (stp.map (·.d)).sum), some (.ref W), v16, none, none, none, none, none, none, none, none, none] : L2.St) = [some (.ref a), some (.ref st), some (.int (lots : Int)), some (.int (most : Int)), some (.ref D), some (.ref L), some (.ref D2), v7, some (.ref D3), some (.bl false), v10, some (.ref t), some (.int (k : Int)), some (.ref q1), some (.int (stp.map (·.d)).sum), some (.ref W), v16, none, none, none, none, none, none, none, none, none] ∧ Same G4 H17 ∧ WrAt H17 W (lots + 2) gs 7 := ⟨rfl, s17, hW17.le (by decide)⟩
        refine ⟨_, rfl, t, _, rfl, .inr (SqT.of (s17 _ _ (s15 _ _ et13))), _, _, rfl, rfl, _, rfl, ite2 (fun c1 => ?_) (fun _ => iteF keep)⟩
        refine ⟨_, rfl, q1, _, _, _, rfl, rfl, iw s17, atI_nat (j := 1) rfl, _, rfl, q1, _, _, _, rfl, rfl, iw s17, atI_nat (j := 2) rfl, rfl, _, rfl, ite2 (fun c2 => ?_) (fun _ => keep)⟩
        have l1 : 1 < stp.length := by
          have := of_decide_eq_true c1
          omega
        have nab : s1.a ≠ s1.b := fun e => by
          rw [e, decide_eq_true rfl] at c2
          cases c2
        obtain ⟨ps, f1, f2, _⟩ := id hW17
        refine ⟨_, rfl, .inl ⟨rfl, _, SqL.of f1⟩, ?_⟩
        refine cut_val (p := t) (k := k) (st := stp) (fun _ _ _ q => ⟨_, rfl, q⟩) (fun _ _ _ q => ⟨_, rfl, q⟩) (fun _ _ _ q => ⟨_, rfl, _, _, rfl, rfl, q⟩) (hT15.same s17) hz5 fun p6 H18 b6 tu6 => ?_
        obtain ⟨ps', f1', f2', hW'⟩ := (hW17.same b6).snoc tu6 (not_cut hG es l1 nab)
        refine ⟨W, _, _, rfl, rfl, f1', ?_, rfl, kpW (s17.trans b6), hW'⟩
        rw [List.length_map]
        exact small1000 (by omega)
      rintro σ H18 ⟨rfl, s18, hW18⟩
      obtain ⟨ps, f1, f2, f3⟩ := id hW18
      refine ⟨_, rfl, W, rfl, ⟨_, SqL.of f1⟩, for_list (K := K) (a := W) (xs := ps.map V.ref) (fun i σ H19 => ∃ v17, σ = [some (.ref a), some (.ref st), some (.int (lots : Int)), some (.int (most : Int)), some (.ref D), some (.ref L), some (.ref D2), v7, some (.ref D3), some (.bl false), v10, some (.ref t), some (.int (k : Int)), some (.ref q1), some (.int (stp.map (·.d)).sum), some (.ref W), v16, v17, none, none, none, none, none, none, none, none] ∧ Same H18 H19) ⟨none, rfl, Same.refl _⟩ (fun i σ H19 _ ⟨_, _, s⟩ => SqL.of (s _ _ f1)) ?_ ?_⟩
      · rintro i z σ H19 hi ⟨v17, rfl, s19⟩
        obtain ⟨p', hp', rfl⟩ : ∃ p', ps[i]? = some p' ∧ z = V.ref p' := by
          rw [List.getElem?_map] at hi
          cases e : ps[i]? with
          | none => rw [e] at hi; cases hi
          | some x => rw [e] at hi; exact ⟨x, rfl, (Option.some.inj hi).symm⟩
        obtain ⟨st', tw, nC⟩ := f3 p' (List.mem_of_getElem? hp')
        obtain ⟨qs', k1, k2⟩ := tw.same s19
        refine ⟨_, rfl, _, rfl, p', D2, qs', st', lots, gs, rfl, k1, k2, hC15.same (s18.trans s19), hg1, hg4, by omega, hgs, fun b3 H20 hb3 s20 => ⟨b3, false, rfl, rfl, _, rfl, ?_⟩⟩
        have e3 : b3 = false := by
          cases b3 with
          | true => exact absurd (hb3.mp rfl) nC
          | false => rfl
        subst e3
        rw [decide_eq_true rfl]
        exact iteF ⟨_, rfl, s19.trans s20⟩
      · rintro σ H19 ⟨v17, rfl, s19⟩
        exact ⟨_, _, _, _, _, _, _, _, _, _, _, _, _, _, _, rfl, hA15.keep (s18.trans s19)⟩
  rintro σ H12 ⟨v3, v4, v5, v6, v7, v8, v9, v10, v11, v12, v13, v14, v15, v16, v17, rfl, hA12⟩
  clear hb hcl hC11 hV11 hA11 nth
  have ds2 : ∀ g ∈ [farG 2 (oneL 0)], DS (2 + 2) g := fun g hg => by rw [List.mem_singleton.mp hg]; exact far_ds 2 _
  refine ⟨_, rfl, st, l0, 98, rfl, by decide, hA12, fun m H13 hm hA13 x13 => ?_⟩
  have hm97 : m ≤ 97 := by omega
  clear hA12 hA13 x13
  have D2g : ∀ ls ks : List Lim, ∀ g ∈ [farG 2 ls, farG 2 ks], DS (2 + 2) g := fun ls ks g hg => by
    rcases List.mem_cons.mp hg with rfl | hg
    · exact far_ds 2 _
    · rw [List.mem_singleton.mp hg]
      exact far_ds 2 _
  -- one, two
  refine ⟨_, rfl, _, _, rfl, rfl, (by show 4 ≤ sizeLine; decide), fun t1 nt1 => ⟨(by show 1 ≤ sizeLine; decide), fun L1 nL1 x1 dx1 hx1 hx2 hx3 => ?_⟩⟩
  refine make_use2 (C := C) (t := L1) (lots := 2) (ls := oneL m) hx1 hx2 hx3 (lims_one (same_new nL1 _ _ upd_same) upd_same) (by decide) (fun l hl => by rw [List.mem_singleton.mp hl]; exact ⟨by show 0 < 1; decide, by show 1 ≤ 2 + 1; decide, by show m + 1 ≤ 99; omega, fun g e => nomatch e⟩) fun H14 s14 hB1 => ⟨rfl, ?_⟩
  clear nt1 nL1 s14 hx1 hx2 hx3 dx1
  refine ⟨_, rfl, _, _, rfl, rfl, (by show 4 ≤ sizeLine; decide), fun t2 nt2 => ⟨(by show 1 ≤ sizeLine; decide), fun L2 nL2 x2 dx2 hx1 hx2 hx3 => ?_⟩⟩
  have sa := (same_new (o := .tup [.int 0, .int 2, .int 0, .int ((m : Int) + 1)]) nt2).trans (same_new (o := .lst [.ref t2]) nL2)
  refine make_use2 (C := C) (t := L2) (lots := 2) (ls := twoL m) hx1 hx2 hx3 (lims_one (same_new nL2 _ _ upd_same) upd_same) (by decide) (fun l hl => by rw [List.mem_singleton.mp hl]; exact ⟨by show 0 < 2; decide, by show 2 ≤ 2 + 1; decide, by show 0 ≤ 99; decide, fun g e => by cases e; exact ⟨Nat.zero_le _, by omega⟩⟩) fun H15 s15 hB2 => ⟨rfl, ?_⟩
  have hB1' := (hB1.same sa).same s15
  clear nt2 nL2 s15 hB1 sa hx1 hx2 hx3 dx2
  -- steps
  refine ⟨_, rfl, _, _, rfl, rfl, (by show 4 ≤ sizeLine; decide), fun q0 nq0 => ⟨_, rfl, _, _, rfl, rfl, _, _, rfl, rfl, (by show 4 ≤ sizeLine; decide), fun q1 nq1 => ⟨_, rfl, (by show 4 ≤ sizeLine; decide), fun q2 nq2 => ⟨(by show 3 ≤ sizeLine; decide), fun P nP => ?_⟩⟩⟩⟩
  have b0 := same_new (o := .tup [.int 1, .int 0, .int 2, .int ((m : Int) + 2)]) nq0
  have b1 := same_new (o := .tup [.int 0, .int 1, .int 0, .int (0 - (m : Int) - 2)]) nq1
  have b2 := same_new (o := .tup [.int 0, .int 2, .int 1, .int (-1)]) nq2
  have b3 := same_new (o := .tup [.ref q0, .ref q1, .ref q2]) nP
  generalize hG : upd _ P _ = G
  have eP : G P = some (.tup [.ref q0, .ref q1, .ref q2]) := by rw [← hG]; exact upd_same
  have bb : Same H15 G := by rw [← hG]; exact ((b0.trans b1).trans b2).trans b3
  have f0 : G q0 = some (stepT (T0 m)) := by rw [← hG]; exact b3 _ _ (b2 _ _ (b1 _ _ upd_same))
  have f1 : G q1 = some (stepT (T2 (0 - (m : Int) - 2))) := by rw [← hG]; exact b3 _ _ (b2 _ _ upd_same)
  have f2 : G q2 = some (stepT T1) := by rw [← hG]; exact b3 _ _ upd_same
  have g1 := hB1'.same bb
  have g2 := hB2.same bb
  clear b0 b1 b2 b3 bb hG nq0 nq1 nq2 nP hB1' hB2
  refine ⟨_, rfl, P, _, _, _, rfl, rfl, SqT.of eP, atI_nat (j := 0) rfl, _, rfl, P, _, _, _, rfl, rfl, SqT.of eP, atI_nat (j := 2) rfl, _, rfl, P, _, _, _, rfl, rfl, SqT.of eP, atI_nat (j := 1) rfl, (by show 3 ≤ sizeLine; decide), fun R nR => ?_⟩
  have b4 := same_new (o := .tup [.ref q0, .ref q2, .ref q1]) nR
  generalize hG : upd _ R _ = G'
  have eR : G' R = some (.tup [.ref q0, .ref q2, .ref q1]) := by rw [← hG]; exact upd_same
  have b5 : Same G G' := by rw [← hG]; exact b4
  have f0 := b5 _ _ f0
  have f1 := b5 _ _ f1
  have f2 := b5 _ _ f2
  have g1 := g1.same b5
  have g2 := g2.same b5
  clear b4 b5 hG nR eP
  have tR : TupAt G' R [T0 m, T1, T2 (0 - (m : Int) - 2)] := ⟨[q0, q2, q1], eR, stq_three f0 f2 f1⟩
  have hcl : ∀ {H : Hp}, Same G' H → _ := fun {H} s => cells_two (g1.same s) (g2.same s)
  have hcr : ∀ {H : Hp}, Same G' H → _ := fun {H} s => cells_two (g2.same s) (g1.same s)
  -- steps, one, two
  refine ⟨_, rfl, _, rfl, _, rfl, use_closes (xs := [x1, x2]) (lots := 2) (gs := [farG 2 (oneL m), farG 2 (twoL m)]) (qs := [q0, q2, q1]) rfl eR (stq_three f0 f2 f1) rfl (hcl (Same.refl _)) (by show 2 ≤ 4; decide) (by decide) (D2g _ _) fun b1 H16 hb1 s16 => ⟨b1, true, rfl, rfl, _, rfl, ?_⟩⟩
  obtain rfl := hb1.mpr (ex_a m)
  rw [decide_eq_true rfl]
  refine iteF ?_
  refine sl_hi (p := R) (k := 1) (fun _ q => ⟨_, rfl, q⟩) (fun _ q => q) (tR.same s16) fun r1 H17 s17 tr1 => ?_
  refine sl_lo (p := R) (k := 1) (fun _ q => ⟨_, rfl, q⟩) (fun _ q => q) (tR.same (s16.trans s17)) fun r2 H18 s18 tr2 => ?_
  refine cat_tup (tr1.same s18) tr2 (by simp) fun r3 H19 s19 ⟨qs3, k1, k2⟩ => ?_
  have s1719 := ((s16.trans s17).trans s18).trans s19
  refine ⟨_, rfl, _, rfl, use_closes (xs := [x1, x2]) (lots := 2) (gs := [farG 2 (oneL m), farG 2 (twoL m)]) rfl k1 k2 rfl (hcl s1719) (by show 2 ≤ 4; decide) (by decide) (D2g _ _) fun b1 H20 hb1 s20 => ⟨b1, true, rfl, rfl, _, rfl, ?_⟩⟩
  obtain rfl := hb1.mpr (ex_b m)
  rw [decide_eq_true rfl]
  refine iteF ?_
  have c20 := s1719.trans s20
  -- two, one
  refine ⟨_, rfl, _, rfl, _, rfl, use_closes (xs := [x2, x1]) (lots := 2) (gs := [farG 2 (twoL m), farG 2 (oneL m)]) (qs := [q0, q2, q1]) rfl (c20 _ _ eR) (stq_three (c20 _ _ f0) (c20 _ _ f2) (c20 _ _ f1)) rfl (hcr c20) (by show 2 ≤ 4; decide) (by decide) (D2g _ _) fun b1 H21 hb1 s21 => ⟨b1, false, rfl, rfl, _, rfl, ?_⟩⟩
  obtain rfl : b1 = false := by
    cases b1 with
    | true => exact absurd (hb1.mp rfl) (ex_c m)
    | false => rfl
  rw [decide_eq_true rfl]
  refine iteF ?_
  have c21 := c20.trans s21
  refine ⟨_, rfl, R, _, _, _, rfl, SqT.of (c21 _ _ eR), fun dd nd => ?_⟩
  have sd := same_new (o := .tup [.ref q1, .ref q2, .ref q0]) nd
  have cd' := c21.trans sd
  refine ⟨_, rfl, _, rfl, use_closes (xs := [x1, x2]) (lots := 2) (gs := [farG 2 (oneL m), farG 2 (twoL m)]) (qs := [q1, q2, q0]) rfl upd_same (stq_three (cd' _ _ f1) (cd' _ _ f2) (cd' _ _ f0)) rfl (hcl cd') (by show 2 ≤ 4; decide) (by decide) (D2g _ _) fun b1 H22 hb1 s22 => ⟨b1, false, rfl, rfl, _, rfl, ?_⟩⟩
  obtain rfl : b1 = false := by
    cases b1 with
    | true => exact absurd (hb1.mp rfl) (ex_d m)
    | false => rfl
  rw [decide_eq_true rfl]
  refine iteF ?_
  have c22 := cd'.trans s22
  clear cd' sd nd c21 s21 c20 s1719
  -- one less, one more
  refine ⟨_, rfl, R, _, _, _, rfl, rfl, SqT.of (c22 _ _ eR), atI_nat (j := 0) rfl, _, rfl, R, _, _, _, rfl, rfl, SqT.of (c22 _ _ eR), atI_nat (j := 1) rfl, _, rfl, _, _, rfl, rfl, _, _, rfl, rfl, (by show 4 ≤ sizeLine; decide), fun q3 nq3 => ⟨(by show 3 ≤ sizeLine; decide), fun R2 nR2 => ?_⟩⟩
  have sd := same_new (o := .tup [.int 0, .int 1, .int 0, .int (0 - (m : Int) - 3)]) nq3
  have se := same_new (o := .tup [.ref q0, .ref q2, .ref q3]) nR2
  have c23 := (c22.trans sd).trans se
  refine ⟨_, rfl, _, rfl, use_closes (xs := [x1, x2]) (lots := 2) (gs := [farG 2 (oneL m), farG 2 (twoL m)]) (qs := [q0, q2, q3]) (st := [T0 m, T1, T2 (0 - (m : Int) - 3)]) rfl upd_same (stq_three (c23 _ _ f0) (c23 _ _ f2) (se _ _ upd_same)) rfl (hcl c23) (by show 2 ≤ 4; decide) (by decide) (D2g _ _) fun b1 H24 hb1 s24 => ⟨b1, false, rfl, rfl, _, rfl, ?_⟩⟩
  obtain rfl : b1 = false := by
    cases b1 with
    | true => exact absurd (hb1.mp rfl) (ex_e m)
    | false => rfl
  rw [decide_eq_true rfl]
  refine iteF ?_
  have c24 := c23.trans s24
  clear sd se c23 nq3 nR2 c22
  refine ⟨_, rfl, R, _, _, _, rfl, rfl, SqT.of (c24 _ _ eR), atI_nat (j := 0) rfl, _, rfl, R, _, _, _, rfl, rfl, SqT.of (c24 _ _ eR), atI_nat (j := 1) rfl, _, rfl, _, _, rfl, rfl, _, _, rfl, rfl, (by show 4 ≤ sizeLine; decide), fun q4 nq4 => ⟨(by show 3 ≤ sizeLine; decide), fun R3 nR3 => ?_⟩⟩
  have sd := same_new (o := .tup [.int 0, .int 1, .int 0, .int (0 - (m : Int) - 1)]) nq4
  have se := same_new (o := .tup [.ref q0, .ref q2, .ref q4]) nR3
  have c25 := (c24.trans sd).trans se
  refine ⟨_, rfl, _, rfl, use_closes (xs := [x1, x2]) (lots := 2) (gs := [farG 2 (oneL m), farG 2 (twoL m)]) (qs := [q0, q2, q4]) (st := [T0 m, T1, T2 (0 - (m : Int) - 1)]) rfl upd_same (stq_three (c25 _ _ f0) (c25 _ _ f2) (se _ _ upd_same)) rfl (hcl c25) (by show 2 ≤ 4; decide) (by decide) (D2g _ _) fun b1 H26 hb1 s26 => ⟨b1, false, rfl, rfl, _, rfl, ?_⟩⟩
  obtain rfl : b1 = false := by
    cases b1 with
    | true => exact absurd (hb1.mp rfl) (ex_f m)
    | false => rfl
  rw [decide_eq_true rfl]
  refine iteF ?_
  have c26 := c25.trans s26
  clear sd se c25 nq4 nR3 c24
  -- a closing is there
  refine ⟨_, rfl, _, rfl, use_closing (xs := [x1, x2]) (lots := 2) (gs := [farG 2 (oneL m), farG 2 (twoL m)]) rfl rfl (hcl c26) (by show 1 ≤ 2; decide) (by show 2 ≤ 4; decide) (by decide) (D2g _ _) fun v H27 s27 hc => ⟨rfl, _, rfl, ?_⟩⟩
  obtain ⟨tv, rfl⟩ : ∃ tv, v = .ref tv := by
    rcases hc with ⟨_, hn⟩ | ⟨tv, _, _, _, e, _⟩
    · exact absurd hn (ex_g m)
    · exact ⟨tv, e⟩
  rw [decide_eq_false (show ¬ V.ref tv = V.non from fun e => nomatch e)]
  refine iteF ?_
  have g1 := g1.same (c26.trans s27)
  clear c26 s27 hc hcl hcr tR f0 f1 f2 g2 eR s26 hb1
  -- nothing fits
  refine ⟨(by show 4 ≤ sizeLine; decide), fun t3 nt3 => ⟨(by show 4 ≤ sizeLine; decide), fun t4 nt4 => ⟨(by show 2 ≤ sizeLine; decide), fun L3 nL3 x3 dx3 hx1 hx2 hx3 => ?_⟩⟩⟩
  have sd := same_new (o := .tup [.int 0, .int 1, .int 2, .int 2]) nt3
  have se := same_new (o := .tup [.int 0, .int 1, .int 5, .int 5]) nt4
  have sf := same_new (o := .lst [.ref t3, .ref t4]) nL3
  refine make_use2 (C := C) (t := L3) (lots := 1) (ls := voidL) hx1 hx2 hx3 (lims_two (sf _ _ (se _ _ upd_same)) (sf _ _ upd_same) upd_same) (by decide) (fun l hl => ?_) fun H28 s28 hB3 => ⟨rfl, ?_⟩
  · rcases List.mem_cons.mp hl with rfl | hl
    · exact ⟨by show 0 < 1; decide, by show 1 ≤ 1 + 1; decide, by show 2 ≤ 99; decide, fun g e => by cases e; exact ⟨Nat.le_refl _, by decide⟩⟩
    · rw [List.mem_singleton.mp hl]
      exact ⟨by show 0 < 1; decide, by show 1 ≤ 1 + 1; decide, by show 5 ≤ 99; decide, fun g e => by cases e; exact ⟨Nat.le_refl _, by decide⟩⟩
  have g1 := (((g1.same sd).same se).same sf).same s28
  clear hx1 hx2 hx3 nL3 nt3 nt4 sd se sf s28
  refine ⟨_, rfl, (by show 4 ≤ sizeLine; decide), fun u1 nu1 => ⟨(by show 1 ≤ sizeLine; decide), fun U1 nU1 => ?_⟩⟩
  have sd := same_new (o := .tup [.int 0, .int 0, .int 0, .int (-7)]) nu1
  have se := same_new (o := .tup [.ref u1]) nU1
  have hB3' := (hB3.same sd).same se
  refine ⟨_, rfl, use_closes (xs := [x3]) (lots := 1) (gs := [farG 1 voidL]) (qs := [u1]) (st := [U 0]) rfl upd_same (stq_one (se _ _ upd_same)) rfl (cells_one hB3') (by show 1 ≤ 4; decide) (by decide) (fun g hg => by rw [List.mem_singleton.mp hg]; exact far_ds 1 _) fun b1 H29 hb1 s29 => ⟨b1, true, rfl, rfl, _, rfl, ?_⟩⟩
  obtain rfl := hb1.mpr ex_h
  rw [decide_eq_true rfl]
  refine iteF ?_
  have g1 := ((g1.same sd).same se).same s29
  have hB3 := hB3'.same s29
  clear sd se hB3' nu1 nU1 s29 hb1
  refine ⟨_, rfl, (by show 4 ≤ sizeLine; decide), fun u2 nu2 => ⟨(by show 1 ≤ sizeLine; decide), fun U2 nU2 => ⟨_, rfl, Nat.zero_le _, fun L4 nL4 x4 dx4 hx1 hx2 hx3 => ?_⟩⟩⟩
  have sd := same_new (o := .tup [.int 1, .int 0, .int 0, .int (-7)]) nu2
  have se := same_new (o := .tup [.ref u2]) nU2
  have sf := same_new (o := .lst []) nL4
  refine make_use2 (C := C) (t := L4) (lots := 1) (ls := []) hx1 hx2 hx3 ⟨[], upd_same, rfl, fun i a l e => by simp at e⟩ (by decide) (fun l hl => nomatch hl) fun H30 s30 hB4 => ⟨rfl, ?_⟩
  have c30 := ((sd.trans se).trans sf).trans s30
  refine use_closes (xs := [x3, x4]) (lots := 1) (gs := [farG 1 voidL, farG 1 []]) (qs := [u2]) (st := [U 1]) rfl (s30 _ _ (sf _ _ upd_same)) (stq_one (s30 _ _ (sf _ _ (se _ _ upd_same)))) rfl (cells_two (hB3.same c30) hB4) (by show 2 ≤ 4; decide) (by decide) (fun g hg => ?_) fun b1 H31 hb1 s31 => ⟨b1, false, rfl, rfl, _, rfl, ?_⟩
  · rcases List.mem_cons.mp hg with rfl | hg
    · exact far_ds 1 _
    · rw [List.mem_singleton.mp hg]
      exact far_ds 1 _
  obtain rfl : b1 = false := by
    cases b1 with
    | true => exact absurd (hb1.mp rfl) (ex_i)
    | false => rfl
  rw [decide_eq_true rfl]
  refine iteF ?_
  have g1 := (g1.same c30).same s31
  clear sd se sf s30 c30 hB3 hB4 nu2 nU2 nL4 hx1 hx2 hx3 s31 hb1
  -- other counts
  refine ⟨_, rfl, _, rfl, _, _, rfl, rfl, Nat.zero_le _, fun L5 nL5 x5 dx5 hx1 hx2 hx3 => ?_⟩
  have sf := same_new (o := .lst []) nL5
  refine make_use2 (C := C) (t := L5) (lots := lots + 3) (ls := []) hx1 hx2 hx3 ⟨[], upd_same, rfl, fun i a l e => by simp at e⟩ (by omega) (fun l hl => nomatch hl) fun H32 s32 hB5 => ⟨rfl, ?_⟩
  obtain ⟨dxa, pa, ea, _⟩ := (g1.same sf).same s32
  obtain ⟨dxb, pb, eb, _⟩ := hB5
  refine ⟨[], [.ref x1, .ref x5], rfl, rfl, (by show 2 ≤ sizeLine; decide), fun p np => ⟨p, rfl, .inr ⟨x1, x5, dxa, dxb, pa, pb, 2, lots + 3, upd_same, same_new np _ _ ea, same_new np _ _ eb, by omega, fun H' => ⟨true, T.exm, fun _ a' na' => q _, fun z => nomatch z⟩⟩⟩⟩
end
end K9

namespace K9
open PySem PySem.Spec PyProof.Rows L2
theorem exm_self {K : PySem.W.Frag} {S : Addr} (h1 : PySem.W.subIn K (.ref S) (.type "BaseException") = some true) (h2 : PySem.W.isClsIn K S = true) (h3 : PySem.W.typeIn K (.ref S) = some (.type "type")) (h4 : PySem.W.subIn K (.ref S) (.ref S) = some true) : PySem.W.exmOne K (.ref S) (.ref S) = some true := by
  have e1 : (PySem.W.subIn K (.ref S) (.type "BaseException") == some true) = true := by rw [h1] <;> rfl
  have e2 : ((PySem.W.clsIn K S).isSome && PySem.W.typeIn K (.ref S) == some (.type "type")) = true := by
    have h2' : (PySem.W.clsIn K S).isSome = true := h2
    rw [h2', h3] <;> rfl
  show (if (PySem.W.subIn K (.ref S) (.type "BaseException") == some true) = true then (if ((PySem.W.clsIn K S).isSome && PySem.W.typeIn K (.ref S) == some (.type "type")) = true then PySem.W.subIn K (.ref S) (.ref S) else none) else none) = some true
  rw [if_pos e1, if_pos e2]
  exact h4
theorem all_mk {P : Program} {w : World} {K : PySem.W.Frag} {h : Heap} {mg : Str → Option Value} {fa C OC DI pP : Addr} {restP : List Value} {tkM : Tok} (X : K.In h) (G : h.Ns mainGlobals mg) (hfa : mg "law" = some (.ref fa))
    {f0 f1 f2 f3 f4 f5 f6 f7 f8 f9 f10 f11 f12 f13 f14 f15 f16 f17 f18 f19 f20 f21 f22 f23 f24 fI fP : Addr} {od0 od1 od2 od3 od4 od5 od6 od7 od8 od9 od10 od11 od12 od13 od14 od15 od16 od17 od18 od19 od20 od21 od22 od23 od24 odI odP an0 an1 an2 an3 an4 an5 an6 an7 an8 an9 an10 an11 an12 an13 an14 an15 an16 an17 an18 an19 an20 an21 an22 an23 an24 anI anP : Option Addr} {sl0 sl1 sl2 sl3 sl4 sl5 sl6 sl7 sl8 sl9 sl10 sl11 sl12 sl13 sl14 sl15 sl16 sl17 sl18 sl19 sl20 sl21 sl22 sl23 sl24 slI slP : Array (Option Value)}
    {oc0 kV0 dc0 pm0 cd0 ct0 oc1 kV1 dc1 pm1 cd1 ct1 oc2 kV2 dc2 pm2 cd2 ct2 oc3 kV3 dc3 pm3 cd3 ct3 oc4 kV4 dc4 pm4 cd4 ct4 oc5 kV5 dc5 pm5 cd5 ct5 oc6 kV6 dc6 pm6 cd6 ct6 oc7 kV7 dc7 pm7 cd7 ct7 oc8 kV8 dc8 pm8 cd8 ct8 oc9 kV9 dc9 pm9 cd9 ct9 oc10 kV10 dc10 pm10 cd10 ct10 oc11 kV11 dc11 pm11 cd11 ct11 oc12 kV12 dc12 pm12 cd12 ct12 oc13 kV13 dc13 pm13 cd13 ct13 oc14 kV14 dc14 pm14 cd14 ct14 oc15 kV15 dc15 pm15 cd15 ct15 oc16 kV16 dc16 pm16 cd16 ct16 oc17 kV17 dc17 pm17 cd17 ct17 oc18 kV18 dc18 pm18 cd18 ct18 oc19 kV19 dc19 pm19 cd19 ct19 oc20 kV20 dc20 pm20 cd20 ct20 oc21 kV21 dc21 pm21 cd21 ct21 oc22 kV22 dc22 pm22 cd22 ct22 oc23 kV23 dc23 pm23 cd23 ct23 oc24 kV24 dc24 pm24 cd24 ct24 ocI  dcI pmI cdI ctI ocP kVP dcP pmP cdP ctP : Value}
    (a0 : PySem.W.nsIn K mainGlobals "nearest" = some (some (.ref f0))) (l0 : K.lookup f0 = some ⟨oc0, od0, .func (PySem.W.fnOf "nearest" "nearest" (defArgs sNear) (defBody sNear) (defScope sNear) .none kV0 dc0 pm0 an0 cd0 ct0), sl0⟩) (c0 : PySem.W.codeIn K cd0 "nearest" = true) (k0 : PySem.W.keepIn K (.ref f0) = true)
    (a1 : PySem.W.nsIn K mainGlobals "plus" = some (some (.ref f1))) (l1 : K.lookup f1 = some ⟨oc1, od1, .func (PySem.W.fnOf "plus" "plus" (defArgs sPlus) (defBody sPlus) (defScope sPlus) .none kV1 dc1 pm1 an1 cd1 ct1), sl1⟩) (c1 : PySem.W.codeIn K cd1 "plus" = true) (k1 : PySem.W.keepIn K (.ref f1) = true)
    (a2 : PySem.W.nsIn K mainGlobals "plain_distance" = some (some (.ref f2))) (l2 : K.lookup f2 = some ⟨oc2, od2, .func (PySem.W.fnOf "plain_distance" "plain_distance" (defArgs sPlainD) (defBody sPlainD) (defScope sPlainD) .none kV2 dc2 pm2 an2 cd2 ct2), sl2⟩) (c2 : PySem.W.codeIn K cd2 "plain_distance" = true) (k2 : PySem.W.keepIn K (.ref f2) = true)
    (a3 : PySem.W.nsIn K mainGlobals "plain_grid" = some (some (.ref f3))) (l3 : K.lookup f3 = some ⟨oc3, od3, .func (PySem.W.fnOf "plain_grid" "plain_grid" (defArgs sPlainG) (defBody sPlainG) (defScope sPlainG) .none kV3 dc3 pm3 an3 cd3 ct3), sl3⟩) (c3 : PySem.W.codeIn K cd3 "plain_grid" = true) (k3 : PySem.W.keepIn K (.ref f3) = true)
    (a4 : PySem.W.nsIn K mainGlobals "closed_grid" = some (some (.ref f4))) (l4 : K.lookup f4 = some ⟨oc4, od4, .func (PySem.W.fnOf "closed_grid" "closed_grid" (defArgs sClosed) (defBody sClosed) (defScope sClosed) .none kV4 dc4 pm4 an4 cd4 ct4), sl4⟩) (c4 : PySem.W.codeIn K cd4 "closed_grid" = true) (k4 : PySem.W.keepIn K (.ref f4) = true)
    (a5 : PySem.W.nsIn K mainGlobals "check_points" = some (some (.ref f5))) (l5 : K.lookup f5 = some ⟨oc5, od5, .func (PySem.W.fnOf "check_points" "check_points" (defArgs sChkP) (defBody sChkP) (defScope sChkP) .none kV5 dc5 pm5 an5 cd5 ct5), sl5⟩) (c5 : PySem.W.codeIn K cd5 "check_points" = true) (k5 : PySem.W.keepIn K (.ref f5) = true)
    (a6 : PySem.W.nsIn K mainGlobals "check_limit" = some (some (.ref f6))) (l6 : K.lookup f6 = some ⟨oc6, od6, .func (PySem.W.fnOf "check_limit" "check_limit" (defArgs sChkL) (defBody sChkL) (defScope sChkL) .none kV6 dc6 pm6 an6 cd6 ct6), sl6⟩) (c6 : PySem.W.codeIn K cd6 "check_limit" = true) (k6 : PySem.W.keepIn K (.ref f6) = true)
    (a7 : PySem.W.nsIn K mainGlobals "limited_grid" = some (some (.ref f7))) (l7 : K.lookup f7 = some ⟨oc7, od7, .func (PySem.W.fnOf "limited_grid" "limited_grid" (defArgs sLimG) (defBody sLimG) (defScope sLimG) .none kV7 dc7 pm7 an7 cd7 ct7), sl7⟩) (c7 : PySem.W.codeIn K cd7 "limited_grid" = true) (k7 : PySem.W.keepIn K (.ref f7) = true)
    (a8 : PySem.W.nsIn K mainGlobals "steps_between" = some (some (.ref f8))) (l8 : K.lookup f8 = some ⟨oc8, od8, .func (PySem.W.fnOf "steps_between" "steps_between" (defArgs sBetw) (defBody sBetw) (defScope sBetw) .none kV8 dc8 pm8 an8 cd8 ct8), sl8⟩) (c8 : PySem.W.codeIn K cd8 "steps_between" = true) (k8 : PySem.W.keepIn K (.ref f8) = true)
    (a9 : PySem.W.nsIn K mainGlobals "best_step" = some (some (.ref f9))) (l9 : K.lookup f9 = some ⟨oc9, od9, .func (PySem.W.fnOf "best_step" "best_step" (defArgs sBest) (defBody sBest) (defScope sBest) .none kV9 dc9 pm9 an9 cd9 ct9), sl9⟩) (c9 : PySem.W.codeIn K cd9 "best_step" = true) (k9 : PySem.W.keepIn K (.ref f9) = true)
    (a10 : PySem.W.nsIn K mainGlobals "longer_walks" = some (some (.ref f10))) (l10 : K.lookup f10 = some ⟨oc10, od10, .func (PySem.W.fnOf "longer_walks" "longer_walks" (defArgs sLonger) (defBody sLonger) (defScope sLonger) .none kV10 dc10 pm10 an10 cd10 ct10), sl10⟩) (c10 : PySem.W.codeIn K cd10 "longer_walks" = true) (k10 : PySem.W.keepIn K (.ref f10) = true)
    (a11 : PySem.W.nsIn K mainGlobals "closing" = some (some (.ref f11))) (l11 : K.lookup f11 = some ⟨oc11, od11, .func (PySem.W.fnOf "closing" "closing" (defArgs sClosing) (defBody sClosing) (defScope sClosing) .none kV11 dc11 pm11 an11 cd11 ct11), sl11⟩) (c11 : PySem.W.codeIn K cd11 "closing" = true) (k11 : PySem.W.keepIn K (.ref f11) = true)
    (a12 : PySem.W.nsIn K mainGlobals "closes" = some (some (.ref f12))) (l12 : K.lookup f12 = some ⟨oc12, od12, .func (PySem.W.fnOf "closes" "closes" (defArgs sCloses) (defBody sCloses) (defScope sCloses) .none kV12 dc12 pm12 an12 cd12 ct12), sl12⟩) (c12 : PySem.W.codeIn K cd12 "closes" = true) (k12 : PySem.W.keepIn K (.ref f12) = true)
    (a13 : PySem.W.nsIn K mainGlobals "_law_state" = some (some (.ref f13))) (l13 : K.lookup f13 = some ⟨oc13, od13, .func (PySem.W.fnOf "_law_state" "_law_state" (defArgs sState) (defBody sState) (defScope sState) .none kV13 dc13 pm13 an13 cd13 ct13), sl13⟩) (c13 : PySem.W.codeIn K cd13 "_law_state" = true) (k13 : PySem.W.keepIn K (.ref f13) = true)
    (a14 : PySem.W.nsIn K mainGlobals "_law_draw" = some (some (.ref f14))) (l14 : K.lookup f14 = some ⟨oc14, od14, .func (PySem.W.fnOf "_law_draw" "_law_draw" (defArgs sDraw) (defBody sDraw) (defScope sDraw) .none kV14 dc14 pm14 an14 cd14 ct14), sl14⟩) (c14 : PySem.W.codeIn K cd14 "_law_draw" = true) (k14 : PySem.W.keepIn K (.ref f14) = true)
    (a15 : PySem.W.nsIn K mainGlobals "_law_vectors" = some (some (.ref f15))) (l15 : K.lookup f15 = some ⟨oc15, od15, .func (PySem.W.fnOf "_law_vectors" "_law_vectors" (defArgs sVecs) (defBody sVecs) (defScope sVecs) .none kV15 dc15 pm15 an15 cd15 ct15), sl15⟩) (c15 : PySem.W.codeIn K cd15 "_law_vectors" = true) (k15 : PySem.W.keepIn K (.ref f15) = true)
    (a16 : PySem.W.nsIn K mainGlobals "_law_things_between" = some (some (.ref f16))) (l16 : K.lookup f16 = some ⟨oc16, od16, .func (PySem.W.fnOf "_law_things_between" "_law_things_between" (defArgs sThings) (defBody sThings) (defScope sThings) .none kV16 dc16 pm16 an16 cd16 ct16), sl16⟩) (c16 : PySem.W.codeIn K cd16 "_law_things_between" = true) (k16 : PySem.W.keepIn K (.ref f16) = true)
    (a17 : PySem.W.nsIn K mainGlobals "_law_in_cell" = some (some (.ref f17))) (l17 : K.lookup f17 = some ⟨oc17, od17, .func (PySem.W.fnOf "_law_in_cell" "_law_in_cell" (defArgs sInCell) (defBody sInCell) (defScope sInCell) .none kV17 dc17 pm17 an17 cd17 ct17), sl17⟩) (c17 : PySem.W.codeIn K cd17 "_law_in_cell" = true) (k17 : PySem.W.keepIn K (.ref f17) = true)
    (a18 : PySem.W.nsIn K mainGlobals "_law_limits" = some (some (.ref f18))) (l18 : K.lookup f18 = some ⟨oc18, od18, .func (PySem.W.fnOf "_law_limits" "_law_limits" (defArgs sLimits) (defBody sLimits) (defScope sLimits) .none kV18 dc18 pm18 an18 cd18 ct18), sl18⟩) (c18 : PySem.W.codeIn K cd18 "_law_limits" = true) (k18 : PySem.W.keepIn K (.ref f18) = true)
    (a19 : PySem.W.nsIn K mainGlobals "_law_call_all" = some (some (.ref f19))) (l19 : K.lookup f19 = some ⟨oc19, od19, .func (PySem.W.fnOf "_law_call_all" "_law_call_all" (defArgs sCallAll) (defBody sCallAll) (defScope sCallAll) .none kV19 dc19 pm19 an19 cd19 ct19), sl19⟩) (c19 : PySem.W.codeIn K cd19 "_law_call_all" = true) (k19 : PySem.W.keepIn K (.ref f19) = true)
    (a20 : PySem.W.nsIn K mainGlobals "_law_nearer" = some (some (.ref f20))) (l20 : K.lookup f20 = some ⟨oc20, od20, .func (PySem.W.fnOf "_law_nearer" "_law_nearer" (defArgs sNearer) (defBody sNearer) (defScope sNearer) .none kV20 dc20 pm20 an20 cd20 ct20), sl20⟩) (c20 : PySem.W.codeIn K cd20 "_law_nearer" = true) (k20 : PySem.W.keepIn K (.ref f20) = true)
    (a21 : PySem.W.nsIn K mainGlobals "_law_far" = some (some (.ref f21))) (l21 : K.lookup f21 = some ⟨oc21, od21, .func (PySem.W.fnOf "_law_far" "_law_far" (defArgs sFar) (defBody sFar) (defScope sFar) .none kV21 dc21 pm21 an21 cd21 ct21), sl21⟩) (c21 : PySem.W.codeIn K cd21 "_law_far" = true) (k21 : PySem.W.keepIn K (.ref f21) = true)
    (a22 : PySem.W.nsIn K mainGlobals "_law_closes" = some (some (.ref f22))) (l22 : K.lookup f22 = some ⟨oc22, od22, .func (PySem.W.fnOf "_law_closes" "_law_closes" (defArgs sLCloses) (defBody sLCloses) (defScope sLCloses) .none kV22 dc22 pm22 an22 cd22 ct22), sl22⟩) (c22 : PySem.W.codeIn K cd22 "_law_closes" = true) (k22 : PySem.W.keepIn K (.ref f22) = true)
    (a23 : PySem.W.nsIn K mainGlobals "_law_call_steps" = some (some (.ref f23))) (l23 : K.lookup f23 = some ⟨oc23, od23, .func (PySem.W.fnOf "_law_call_steps" "_law_call_steps" (defArgs sLCall) (defBody sLCall) (defScope sLCall) .none kV23 dc23 pm23 an23 cd23 ct23), sl23⟩) (c23 : PySem.W.codeIn K cd23 "_law_call_steps" = true) (k23 : PySem.W.keepIn K (.ref f23) = true)
    (a24 : PySem.W.nsIn K mainGlobals "law" = some (some (.ref f24))) (l24 : K.lookup f24 = some ⟨oc24, od24, .func (PySem.W.fnOf "law" "law" (defArgs sLaw) (defBody sLaw) (defScope sLaw) .none kV24 dc24 pm24 an24 cd24 ct24), sl24⟩) (c24 : PySem.W.codeIn K cd24 "law" = true) (k24 : PySem.W.keepIn K (.ref f24) = true)
    (aI : PySem.W.findIn K (.ref C) "__init__" = some (some (.ref fI))) (iI : PySem.W.isFn K (.ref fI) = true) (lI : K.lookup fI = some ⟨ocI, odI, .func (PySem.W.fnOf "__init__" "Bounds.__init__" (defArgs sInit) (defBody sInit) (defScope sInit) .none (.ref DI) dcI pmI anI cdI ctI), slI⟩) (cI : PySem.W.codeIn K cdI "Bounds.__init__" = true) (kI : PySem.W.keepIn K (.ref fI) = true) (wI : PySem.W.nsIn K DI "far" = some (some .none))
    (aP : PySem.W.findIn K (.ref C) "possible" = some (some (.ref pP))) (gP : PySem.W.specialIn K (.ref pP) "__get__" = some (some (.builtin "property.__get__"))) (tP : PySem.W.takesIn K (.ref pP) = some true) (rP : PySem.W.recIn K pP "property" = some (.ref fP :: restP)) (lP : K.lookup fP = some ⟨ocP, odP, .func (PySem.W.fnOf "possible" "Bounds.possible" (defArgs sPoss) (defBody sPoss) (defScope sPoss) .none kVP dcP pmP anP cdP ctP), slP⟩) (cP : PySem.W.codeIn K cdP "Bounds.possible" = true) (kP : PySem.W.keepIn K (.ref fP) = true)
    (aC : PySem.W.nsIn K mainGlobals "Bounds" = some (some (.ref C))) (pgC : PySem.W.plainGet K C Str.empty = true) (hdC : PySem.W.hasDictIn K C = true) (poC : PySem.W.plainOver K C = true) (saC : PySem.W.findIn K (.ref C) "__setattr__" = some (some (.builtin "object.__setattr__"))) (mkC : PySem.W.makesIn K C = true) (kcC : PySem.W.keepIn K (.ref C) = true) (nLC : PySem.W.findIn K (.ref C) "lots" = some none) (nFC : PySem.W.findIn K (.ref C) "far" = some none)
    (aO : PySem.W.nsIn K mainGlobals "OtherCount" = some (some (.ref OC))) (xO : PySem.W.excIn K OC [.type "ValueError", .type "Exception", .type "BaseException", .type "object"] "ValueError.__new__" = true) (kO : PySem.W.keepIn K (.ref OC) = true) (bO : PySem.W.subIn K (.ref OC) (.type "BaseException") = some true) (tO : PySem.W.typeIn K (.ref OC) = some (.type "type")) (iO : PySem.W.isClsIn K OC = true) (sO : PySem.W.subIn K (.ref OC) (.ref OC) = some true)
    (aM : PySem.W.nsIn K mainGlobals "MOST_BETWEEN" = some (some (.int 99 tkM)))
    (z_range : PySem.W.nsIn K mainGlobals "range" = some none)
    (z_list : PySem.W.nsIn K mainGlobals "list" = some none)
    (z_len : PySem.W.nsIn K mainGlobals "len" = some none)
    (z_sum : PySem.W.nsIn K mainGlobals "sum" = some none)
    (z_tuple : PySem.W.nsIn K mainGlobals "tuple" = some none)
    (z_int : PySem.W.nsIn K mainGlobals "int" = some none)
    (z_bool : PySem.W.nsIn K mainGlobals "bool" = some none)
    (z_isinstance : PySem.W.nsIn K mainGlobals "isinstance" = some none)
    (z_enumerate : PySem.W.nsIn K mainGlobals "enumerate" = some none)
    (z_all : PySem.W.nsIn K mainGlobals "all" = some none)
    : ∃ fd : FuncData, (∀ (s : Shared) (u : Value), BindsTo s fd ⟨[u], []⟩ [("script", u)]) ∧ ∀ base : Heap, K.In base → base.Ns mainGlobals mg → FnOk P w K mg base CX0 6 fa fd ["script"] (spLaw K) := by
  have e := hfa.symm.trans (PySem.W.mg_of X G a24)
  cases e
  have B : BCls K mg C := ⟨⟨pgC, hdC, poC, saC⟩, nLC, nFC, PySem.W.mg_of X G aC⟩
  have T : ECls K mg OC := ⟨xO, PySem.W.mg_of X G aO, kO, bO, tO⟩
  have mM := PySem.W.mg_of X G aM
  have m_range := PySem.W.mg_none_of X G z_range
  have m_list := PySem.W.mg_none_of X G z_list
  have m_len := PySem.W.mg_none_of X G z_len
  have m_sum := PySem.W.mg_none_of X G z_sum
  have m_tuple := PySem.W.mg_none_of X G z_tuple
  have m_int := PySem.W.mg_none_of X G z_int
  have m_bool := PySem.W.mg_none_of X G z_bool
  have m_isinstance := PySem.W.mg_none_of X G z_isinstance
  have m_enumerate := PySem.W.mg_none_of X G z_enumerate
  have m_all := PySem.W.mg_none_of X G z_all
  have F_near := fun_mk (st := sNear) l0 c0 k0
  have g_near := PySem.W.mg_of X G a0
  have b_near := F_near.binds (ps := ["first", "second"]) fun _ _ _ _ _ _ us hl => match us, hl with | [_, _], _ => rfl
  have F_plus := fun_mk (st := sPlus) l1 c1 k1
  have g_plus := PySem.W.mg_of X G a1
  have b_plus := F_plus.binds (ps := ["first", "second"]) fun _ _ _ _ _ _ us hl => match us, hl with | [_, _], _ => rfl
  have F_plainD := fun_mk (st := sPlainD) l2 c2 k2
  have g_plainD := PySem.W.mg_of X G a2
  have b_plainD := F_plainD.binds (ps := ["lots", "at", "to"]) fun _ _ _ _ _ _ us hl => match us, hl with | [_, _, _], _ => rfl
  have F_plainG := fun_mk (st := sPlainG) l3 c3 k3
  have g_plainG := PySem.W.mg_of X G a3
  have b_plainG := F_plainG.binds (ps := ["lots"]) fun _ _ _ _ _ _ us hl => match us, hl with | [_], _ => rfl
  have F_closed := fun_mk (st := sClosed) l4 c4 k4
  have g_closed := PySem.W.mg_of X G a4
  have b_closed := F_closed.binds (ps := ["grid"]) fun _ _ _ _ _ _ us hl => match us, hl with | [_], _ => rfl
  have F_chkP := fun_mk (st := sChkP) l5 c5 k5
  have g_chkP := PySem.W.mg_of X G a5
  have b_chkP := F_chkP.binds (ps := ["lots", "first", "second"]) fun _ _ _ _ _ _ us hl => match us, hl with | [_, _, _], _ => rfl
  have F_chkL := fun_mk (st := sChkL) l6 c6 k6
  have g_chkL := PySem.W.mg_of X G a6
  have b_chkL := F_chkL.binds (ps := ["lots", "limit"]) fun _ _ _ _ _ _ us hl => match us, hl with | [_, _], _ => rfl
  have F_limG := fun_mk (st := sLimG) l7 c7 k7
  have g_limG := PySem.W.mg_of X G a7
  have b_limG := F_limG.binds (ps := ["grid", "limit"]) fun _ _ _ _ _ _ us hl => match us, hl with | [_, _], _ => rfl
  have F_betw := fun_mk (st := sBetw) l8 c8 k8
  have g_betw := PySem.W.mg_of X G a8
  have b_betw := F_betw.binds (ps := ["cells", "at", "to"]) fun _ _ _ _ _ _ us hl => match us, hl with | [_, _, _], _ => rfl
  have F_best := fun_mk (st := sBest) l9 c9 k9
  have g_best := PySem.W.mg_of X G a9
  have b_best := F_best.binds (ps := ["cells", "at", "to"]) fun _ _ _ _ _ _ us hl => match us, hl with | [_, _, _], _ => rfl
  have F_longer := fun_mk (st := sLonger) l10 c10 k10
  have g_longer := PySem.W.mg_of X G a10
  have b_longer := F_longer.binds (ps := ["cells", "walks"]) fun _ _ _ _ _ _ us hl => match us, hl with | [_, _], _ => rfl
  have F_closing := fun_mk (st := sClosing) l11 c11 k11
  have g_closing := PySem.W.mg_of X G a11
  have F_closes := fun_mk (st := sCloses) l12 c12 k12
  have g_closes := PySem.W.mg_of X G a12
  have F_state := fun_mk (st := sState) l13 c13 k13
  have g_state := PySem.W.mg_of X G a13
  have b_state := F_state.binds (ps := ["script"]) fun _ _ _ _ _ _ us hl => match us, hl with | [_], _ => rfl
  have F_draw := fun_mk (st := sDraw) l14 c14 k14
  have g_draw := PySem.W.mg_of X G a14
  have b_draw := F_draw.binds (ps := ["state", "many"]) fun _ _ _ _ _ _ us hl => match us, hl with | [_, _], _ => rfl
  have F_vecs := fun_mk (st := sVecs) l15 c15 k15
  have g_vecs := PySem.W.mg_of X G a15
  have b_vecs := F_vecs.binds (ps := ["count", "most"]) fun _ _ _ _ _ _ us hl => match us, hl with | [_, _], _ => rfl
  have F_things := fun_mk (st := sThings) l16 c16 k16
  have g_things := PySem.W.mg_of X G a16
  have b_things := F_things.binds (ps := ["numbers", "low", "high"]) fun _ _ _ _ _ _ us hl => match us, hl with | [_, _, _], _ => rfl
  have F_inCell := fun_mk (st := sInCell) l17 c17 k17
  have g_inCell := PySem.W.mg_of X G a17
  have b_inCell := F_inCell.binds (ps := ["limits", "numbers"]) fun _ _ _ _ _ _ us hl => match us, hl with | [_, _], _ => rfl
  have F_limits := fun_mk (st := sLimits) l18 c18 k18
  have g_limits := PySem.W.mg_of X G a18
  have b_limits := F_limits.binds (ps := ["state", "lots", "many", "most"]) fun _ _ _ _ _ _ us hl => match us, hl with | [_, _, _, _], _ => rfl
  have F_callAll := fun_mk (st := sCallAll) l19 c19 k19
  have g_callAll := PySem.W.mg_of X G a19
  have b_callAll := F_callAll.binds (ps := ["function", "things"]) fun _ _ _ _ _ _ us hl => match us, hl with | [_, _], _ => rfl
  have F_nearer := fun_mk (st := sNearer) l20 c20 k20
  have g_nearer := PySem.W.mg_of X G a20
  have b_nearer := F_nearer.binds (ps := ["one", "two"]) fun _ _ _ _ _ _ us hl => match us, hl with | [_, _], _ => rfl
  have F_far := fun_mk (st := sFar) l21 c21 k21
  have g_far := PySem.W.mg_of X G a21
  have b_far := F_far.binds (ps := ["lots", "limits"]) fun _ _ _ _ _ _ us hl => match us, hl with | [_, _], _ => rfl
  have F_lcloses := fun_mk (st := sLCloses) l22 c22 k22
  have g_lcloses := PySem.W.mg_of X G a22
  have b_lcloses := F_lcloses.binds (ps := ["steps", "views", "lots"]) fun _ _ _ _ _ _ us hl => match us, hl with | [_, _, _], _ => rfl
  have F_lcall := fun_mk (st := sLCall) l23 c23 k23
  have g_lcall := PySem.W.mg_of X G a23
  have b_lcall := F_lcall.binds (ps := ["steps", "cells"]) fun _ _ _ _ _ _ us hl => match us, hl with | [_, _], _ => rfl
  have F_law := fun_mk (st := sLaw) l24 c24 k24
  have g_law := PySem.W.mg_of X G a24
  have b_law := F_law.binds (ps := ["script"]) fun _ _ _ _ _ _ us hl => match us, hl with | [_], _ => rfl
  have F_poss := fun_mk (st := sPoss) lP cP kP
  have b_poss := F_poss.binds (ps := ["self"]) fun _ _ _ _ _ _ us hl => match us, hl with | [_], _ => rfl
  have F_init : FunD K "__init__" "Bounds.__init__" (defArgs sInit) (defBody sInit) (defScope sInit) [] [("far", .non)] fI _ := ⟨⟨_, _, _, _, _, _, _, _, _, _, rfl, lI, cI, .inl ⟨rfl, rfl⟩, .inr ⟨DI, rfl, fun q hq => by rw [List.mem_singleton.mp hq]; exact ⟨_, wI, rfl⟩⟩⟩, kI⟩
  obtain ⟨dsI, vI, bI⟩ := F_init.binds0 (ps := ["self", "lots", "limits", "far"]) 3 (by simp) rfl fun D doc pm an cdv ct us ks h1 h2 => match us, ks, h1, h2 with
    | [_, _, _], [_], _, _ => ⟨_, _, _, _, _, _, rfl, rfl, rfl⟩
  refine ⟨PySem.W.fnOf "law" "law" (defArgs sLaw) (defBody sLaw) (defScope sLaw) .none kV24 dc24 pm24 an24 cd24 ct24, fun s u => .of_eq rfl, fun base _ _ => ?_⟩
  have h_near := has_of (P := P) (w := w) (base := base) (ok_near F_near) b_near g_near k0
  have h_plus := has_of (P := P) (w := w) (base := base) (ok_plus F_plus) b_plus g_plus k1
  have h_plainD := has_of (P := P) (w := w) (base := base) (ok_plainD F_plainD) b_plainD g_plainD k2
  have h_plainG := has_of (P := P) (w := w) (base := base) (ok_plainG F_plainG h_plainD m_tuple m_range) b_plainG g_plainG k3
  have h_closed := has_of (P := P) (w := w) (base := base) (ok_closed F_closed h_near h_plus m_tuple m_range m_len) b_closed g_closed k4
  have h_chkP := has_of (P := P) (w := w) (base := base) (ok_chkP F_chkP) b_chkP g_chkP k5
  have h_chkL := has_of (P := P) (w := w) (base := base) (ok_chkL F_chkL h_chkP mM) b_chkL g_chkL k6
  have h_limG := has_of (P := P) (w := w) (base := base) (ok_limG F_limG h_near m_tuple m_range m_len) b_limG g_limG k7
  have h_betw := has_of (P := P) (w := w) (base := base) (ok_betw F_betw B m_enumerate) b_betw g_betw k8
  have h_best := has_of (P := P) (w := w) (base := base) (ok_best F_best h_betw) b_best g_best k9
  have h_longer := has_of (P := P) (w := w) (base := base) (ok_longer F_longer B h_best h_plus m_range) b_longer g_longer k10
  have h_closing := has_closing F_closing B T h_longer m_range m_tuple m_enumerate g_closing
  have hP : PossH P w K mg base C pP fP _ := ⟨⟨aP, gP, tP, ⟨_, rP⟩⟩, ok_poss F_poss B m_all m_range m_len, b_poss⟩
  have h_closes := has_closes F_closes B hP m_range m_len g_closes
  have h_state := has_of (P := P) (w := w) (base := base) (ok_state F_state m_list) b_state g_state k13
  have h_draw := has_of (P := P) (w := w) (base := base) (ok_draw F_draw m_len m_int) b_draw g_draw k14
  have h_vecs := has_of (P := P) (w := w) (base := base) (ok_vecs F_vecs m_range m_list) b_vecs g_vecs k15
  have h_things := has_of (P := P) (w := w) (base := base) (ok_things F_things m_sum) b_things g_things k16
  have h_inCell := has_of (P := P) (w := w) (base := base) (ok_inCell F_inCell h_things m_sum m_len) b_inCell g_inCell k17
  have h_limits := has_of (P := P) (w := w) (base := base) (ok_limits F_limits h_draw m_range) b_limits g_limits k18
  have h_nearer := has_of (P := P) (w := w) (base := base) (ok_nearer F_nearer) b_nearer g_nearer k20
  have h_far := has_of (P := P) (w := w) (base := base) (ok_far F_far h_nearer m_range m_len) b_far g_far k21
  have h_lcloses := has_of (P := P) (w := w) (base := base) (ok_lcloses F_lcloses m_range m_len m_int m_bool m_tuple m_isinstance) b_lcloses g_lcloses k22
  have h_lcall := has_of (P := P) (w := w) (base := base) (ok_callSteps F_lcall m_len h_closes) b_lcall g_lcall k23
  obtain ⟨fC, gC, kC, RC⟩ := id h_closing
  have h_callAll := has_of (P := P) (w := w) (base := base) (ok_callAll F_callAll m_len kC RC) b_callAll g_callAll k19
  exact ok_law F_law ⟨h_state, h_draw, h_limits, h_far, h_vecs, h_inCell, h_callAll, h_lcall, h_lcloses, h_closing, h_closes, ⟨⟨mkC, aI, iI, kcC⟩, ok_init F_init B h_plainG h_chkL h_limG h_closed, bI, vI⟩, B, T, gC, exm_self bO iO tO sO, m_range, m_list, m_len, m_sum⟩
/-- the law row's walk -/
theorem walk_law {l : PySem.W.OpenLaw} {q : Program} {loose : List Str} {XP : (Str → Option Value) → Heap → Prop} {YP : World → Heap → Prop} {d : DefRec} {K : Params → PySem.W.Frag} (hn : l.most = some 63) (hdf : d.params.defaults = [])
    (hY : ∀ (w : World) (h : Heap), YP w h → (K w.params).In h)
    (F : ∀ (w : World) (mg : Str → Option Value) (fa : Addr) (h : Heap), (K w.params).In h → h.Ns mainGlobals mg → mg d.name = some (.ref fa) →
      ∃ fd : FuncData, (∀ (s : Shared) (u : Value), BindsTo s fd ⟨[u], []⟩ [("script", u)]) ∧ ∀ base : Heap, (K w.params).In base → base.Ns mainGlobals mg → FnOk l.prog w (K w.params) mg base CX0 6 fa fd ["script"] (spLaw (K w.params))) :
    PySem.W.WalkO q loose XP YP l.row.toRowW d [] (fun f vs => PySem.call f vs) :=
  L2.walk_of (n := 63) (k := 6) (x := "script") (CX := fun _ => CX0) (sp := fun w => spLaw (K w.params)) hn (by decide) hdf ⟨rfl, by decide, by decide⟩ hY F (fun _ _ a ns hl _ hS => ⟨a, ns, rfl, hS, fun _ => rfl⟩) fun _ _ _ _ _ z => z
end K9

open PySem PySem.W PyProof.Rows
set_option maxRecDepth 100000 in
set_option maxHeartbeats 0 in
theorem PySem.Challenge.cw_oneorderalone_k91_whole_closings_holds : PySem.Challenge.rw_oneorderalone_k91_whole_closings.Holds := by
  w_on; o_law; k_head; (case hw => w_witness2)
  k_fill
  refine K9.walk_law (l := PySem.Challenge.rw_oneorderalone_k91_whole_closings) rfl rfl (fun w h Y => PySem.W.kIn_of Y) ?F
  case F =>
    intro w mg fa h KX G hmg
    refine' K9.all_mk KX G hmg ?a0 ?l0 ?c0 ?k0 ?a1 ?l1 ?c1 ?k1 ?a2 ?l2 ?c2 ?k2 ?a3 ?l3 ?c3 ?k3 ?a4 ?l4 ?c4 ?k4 ?a5 ?l5 ?c5 ?k5 ?a6 ?l6 ?c6 ?k6 ?a7 ?l7 ?c7 ?k7 ?a8 ?l8 ?c8 ?k8 ?a9 ?l9 ?c9 ?k9 ?a10 ?l10 ?c10 ?k10 ?a11 ?l11 ?c11 ?k11 ?a12 ?l12 ?c12 ?k12 ?a13 ?l13 ?c13 ?k13 ?a14 ?l14 ?c14 ?k14 ?a15 ?l15 ?c15 ?k15 ?a16 ?l16 ?c16 ?k16 ?a17 ?l17 ?c17 ?k17 ?a18 ?l18 ?c18 ?k18 ?a19 ?l19 ?c19 ?k19 ?a20 ?l20 ?c20 ?k20 ?a21 ?l21 ?c21 ?k21 ?a22 ?l22 ?c22 ?k22 ?a23 ?l23 ?c23 ?k23 ?a24 ?l24 ?c24 ?k24 ?aI ?iI ?lI ?cI ?kI ?wI ?aP ?gP ?tP ?rP ?lP ?cP ?kP ?aC ?pgC ?hdC ?poC ?saC ?mkC ?kcC ?nLC ?nFC ?aO ?xO ?kO ?bO ?tO ?iO ?sO ?aM ?z_range ?z_list ?z_len ?z_sum ?z_tuple ?z_int ?z_bool ?z_isinstance ?z_enumerate ?z_all
    (case aC => k_is)
    (case aO => k_is)
    (case a0 => k_is)
    (case l0 => k_is)
    (case c0 => k_is)
    (case k0 => k_is)
    (case a1 => k_is)
    (case l1 => k_is)
    (case c1 => k_is)
    (case k1 => k_is)
    (case a2 => k_is)
    (case l2 => k_is)
    (case c2 => k_is)
    (case k2 => k_is)
    (case a3 => k_is)
    (case l3 => k_is)
    (case c3 => k_is)
    (case k3 => k_is)
    (case a4 => k_is)
    (case l4 => k_is)
    (case c4 => k_is)
    (case k4 => k_is)
    (case a5 => k_is)
    (case l5 => k_is)
    (case c5 => k_is)
    (case k5 => k_is)
    (case a6 => k_is)
    (case l6 => k_is)
    (case c6 => k_is)
    (case k6 => k_is)
    (case a7 => k_is)
    (case l7 => k_is)
    (case c7 => k_is)
    (case k7 => k_is)
    (case a8 => k_is)
    (case l8 => k_is)
    (case c8 => k_is)
    (case k8 => k_is)
    (case a9 => k_is)
    (case l9 => k_is)
    (case c9 => k_is)
    (case k9 => k_is)
    (case a10 => k_is)
    (case l10 => k_is)
    (case c10 => k_is)
    (case k10 => k_is)
    (case a11 => k_is)
    (case l11 => k_is)
    (case c11 => k_is)
    (case k11 => k_is)
    (case a12 => k_is)
    (case l12 => k_is)
    (case c12 => k_is)
    (case k12 => k_is)
    (case a13 => k_is)
    (case l13 => k_is)
    (case c13 => k_is)
    (case k13 => k_is)
    (case a14 => k_is)
    (case l14 => k_is)
    (case c14 => k_is)
    (case k14 => k_is)
    (case a15 => k_is)
    (case l15 => k_is)
    (case c15 => k_is)
    (case k15 => k_is)
    (case a16 => k_is)
    (case l16 => k_is)
    (case c16 => k_is)
    (case k16 => k_is)
    (case a17 => k_is)
    (case l17 => k_is)
    (case c17 => k_is)
    (case k17 => k_is)
    (case a18 => k_is)
    (case l18 => k_is)
    (case c18 => k_is)
    (case k18 => k_is)
    (case a19 => k_is)
    (case l19 => k_is)
    (case c19 => k_is)
    (case k19 => k_is)
    (case a20 => k_is)
    (case l20 => k_is)
    (case c20 => k_is)
    (case k20 => k_is)
    (case a21 => k_is)
    (case l21 => k_is)
    (case c21 => k_is)
    (case k21 => k_is)
    (case a22 => k_is)
    (case l22 => k_is)
    (case c22 => k_is)
    (case k22 => k_is)
    (case a23 => k_is)
    (case l23 => k_is)
    (case c23 => k_is)
    (case k23 => k_is)
    (case a24 => k_is)
    (case l24 => k_is)
    (case c24 => k_is)
    (case k24 => k_is)
    (case aI => k_is)
    (case iI => k_is)
    (case lI => k_is)
    (case cI => k_is)
    (case kI => k_is)
    (case wI => k_is)
    (case aP => k_is)
    (case gP => k_is)
    (case tP => k_is)
    (case rP => k_is)
    (case lP => k_is)
    (case cP => k_is)
    (case kP => k_is)
    (case pgC => k_is)
    (case hdC => k_is)
    (case poC => k_is)
    (case saC => k_is)
    (case mkC => k_is)
    (case kcC => k_is)
    (case nLC => k_is)
    (case nFC => k_is)
    (case xO => k_exc)
    (case kO => k_is)
    (case bO => k_is)
    (case tO => k_is)
    (case iO => k_is)
    (case sO => first | rfl | k_is)
    (case aM => k_is)
    (case z_range => k_is)
    (case z_list => k_is)
    (case z_len => k_is)
    (case z_sum => k_is)
    (case z_tuple => k_is)
    (case z_int => k_is)
    (case z_bool => k_is)
    (case z_isinstance => k_is)
    (case z_enumerate => k_is)
    (case z_all => k_is)
