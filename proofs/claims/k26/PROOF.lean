import PyProof.Rows.All
import Wide.All
import OpenK.AllK
import Wide.FinOn
import HandS.ForMost
import HandS.ForExc
import HandS.TupSets
import HandS.TupLe
import HandS.TupAny
import HandS.Conv
import HandS.More
import HandS.DictComp
import HandS.SortInts
import HandS.IsInst
import HandS.Small
import HandS.Walk
import HandS.Style
import HandS.CallLocal
import HandS.TupLen
import HandS.Deep
import HandS.Keys
import KE.DatumOrd
import KE.GoesEnum
import PySem.Challenge.RW_shavenets_k26_whole_climbs
set_option linter.all false
namespace Cl
/-! ### ways and their costs: b of a point alone, w of a joined pair, op of two -/
inductive Wk (J : Nat → Nat → Prop) (op : Int → Int → Int) (b : Nat → Int) (w : Nat → Nat → Int) (k : Nat) : Nat → Nat → Int → Prop
  | base (i : Nat) : Wk J op b w k i i (b i)
  | edge {i j : Nat} (h : J i j) : Wk J op b w k i j (w i j)
  | step {i m j : Nat} {c : Int} (h : J i m) (hm : m < k) (t : Wk J op b w k m j c) : Wk J op b w k i j (op (w i m) c)

structure Alg (n : Nat) (J : Nat → Nat → Prop) (op : Int → Int → Int) (b : Nat → Int) (w : Nat → Nat → Int) (lo B : Int) : Prop where
  assoc : ∀ x y z, op (op x y) z = op x (op y z)
  monoR : ∀ x y z, y ≤ z → op x y ≤ op x z
  monoL : ∀ x y z, x ≤ y → op x z ≤ op y z
  geW : ∀ i j y, J i j → y ≤ op (w i j) y
  geB : ∀ i y, y ≤ op (b i) y
  geBr : ∀ i x, x ≤ op x (b i)
  bw : ∀ i j, J i j → op (b i) (w i j) = w i j
  opB : ∀ x y, lo ≤ x → lo ≤ y → op x y < B → x < B ∧ y < B
  opLo : ∀ x y, lo ≤ x → lo ≤ y → lo ≤ op x y
  bLo : ∀ i, i < n → lo ≤ b i ∧ b i < B
  wLo : ∀ i j, J i j → lo ≤ w i j ∧ w i j < B
  lt : ∀ i j, J i j → i < n ∧ j < n ∧ i ≠ j

section
variable {n : Nat} {J : Nat → Nat → Prop} {op : Int → Int → Int} {b : Nat → Int} {w : Nat → Nat → Int} {lo B : Int}
theorem Wk.mono {k l : Nat} (hk : k ≤ l) {i j : Nat} {c : Int} (t : Wk J op b w k i j c) : Wk J op b w l i j c := by
  induction t with
  | base i => exact .base i
  | edge h => exact .edge h
  | step h hm _ ih => exact .step h (Nat.lt_of_lt_of_le hm hk) ih
theorem Wk.ge (A : Alg n J op b w lo B) {k i j : Nat} {c : Int} (t : Wk J op b w k i j c) : ∀ y, y ≤ op c y := by
  induction t with
  | base i => exact A.geB i
  | edge h => exact fun y => A.geW _ _ y h
  | step h hm _ ih =>
    intro y
    rw [A.assoc]
    exact Int.le_trans (ih y) (A.geW _ _ _ h)
theorem Wk.lo_le (A : Alg n J op b w lo B) {k i j : Nat} {c : Int} (t : Wk J op b w k i j c) (hi : i < n) : lo ≤ c := by
  induction t with
  | base i => exact (A.bLo _ hi).1
  | edge h => exact (A.wLo _ _ h).1
  | step h hm _ ih => exact A.opLo _ _ (A.wLo _ _ h).1 (ih (A.lt _ _ h).2.1)
/-- one point more to go through -/
theorem Wk.split (A : Alg n J op b w lo B) {k i j : Nat} {c : Int} (t : Wk J op b w (k + 1) i j c) :
    Wk J op b w k i j c ∨ ∃ c1 c2, Wk J op b w k i k c1 ∧ Wk J op b w k k j c2 ∧ op c1 c2 ≤ c := by
  induction t with
  | base i => exact .inl (.base i)
  | edge h => exact .inl (.edge h)
  | @step i m j c h hm t ih =>
    by_cases hmk : m < k
    · rcases ih with ih | ⟨c1, c2, h1, h2, h3⟩
      · exact .inl (.step h hmk ih)
      · refine .inr ⟨_, c2, .step h hmk h1, h2, ?_⟩
        rw [A.assoc]
        exact A.monoR _ _ _ h3
    · have e : m = k := by omega
      subst e
      rcases ih with ih | ⟨c1, c2, h1, h2, h3⟩
      · exact .inr ⟨_, c, .edge h, ih, Int.le_refl _⟩
      · refine .inr ⟨_, c2, .edge h, h2, ?_⟩
        exact A.monoR _ _ _ (Int.le_trans (h1.ge A c2) h3)
/-- two ways in a row -/
theorem Wk.comp (A : Alg n J op b w lo B) {i m j : Nat} {c d : Int} (t : Wk J op b w n i m c) (u : Wk J op b w n m j d) : ∃ e, Wk J op b w n i j e ∧ e ≤ op c d := by
  induction t with
  | base i => exact ⟨d, u, A.geB _ _⟩
  | edge h => exact ⟨_, .step h (A.lt _ _ h).2.1 u, Int.le_refl _⟩
  | step h hm _ ih =>
    obtain ⟨e, h1, h2⟩ := ih u
    refine ⟨_, .step h hm h1, ?_⟩
    rw [A.assoc]
    exact A.monoR _ _ _ h2
/-- a pair behind a way -/
theorem Wk.snoc (A : Alg n J op b w lo B) {i m j : Nat} {c : Int} (t : Wk J op b w n i m c) (h : J m j) : Wk J op b w n i j (op c (w m j)) := by
  induction t with
  | base i => rw [A.bw _ _ h]; exact .edge h
  | edge h' => exact .step h' (A.lt _ _ h').2.1 (.edge h)
  | step h' hm _ ih => rw [A.assoc]; exact .step h' hm (ih h)

/-! ### the table of least costs, point by point -/
structure Tab (n : Nat) (J : Nat → Nat → Prop) (op : Int → Int → Int) (b : Nat → Int) (w : Nat → Nat → Int) (lo B : Int) (m i j : Nat) (T : Nat → Nat → Int) : Prop where
  real : ∀ p q, p < n → q < n → T p q = B ∨ ∃ c, Wk J op b w n p q c ∧ c ≤ T p q ∧ T p q < B
  bd : ∀ p q, p < n → q < n → lo ≤ T p q ∧ T p q ≤ B
  low : ∀ p q c, p < n → q < n → Wk J op b w m p q c → T p q ≤ c
  low1 : ∀ p q c, p < n → q < n → (p < i ∨ (p = i ∧ q < j)) → Wk J op b w (m + 1) p q c → T p q ≤ c
def relax (op : Int → Int → Int) (m i j : Nat) (T : Nat → Nat → Int) : Nat → Nat → Int := fun p q => if p = i ∧ q = j then min (T i j) (op (T i m) (T m j)) else T p q
theorem relax_le (m i j : Nat) (T : Nat → Nat → Int) (p q : Nat) : relax op m i j T p q ≤ T p q := by
  unfold relax
  split
  · rename_i h
    obtain ⟨rfl, rfl⟩ := h
    exact Int.min_le_left _ _
  · exact Int.le_refl _
theorem Tab.relax (A : Alg n J op b w lo B) {m i j : Nat} {T : Nat → Nat → Int} (t : Tab n J op b w lo B m i j T) (hm : m < n) (hi : i < n) (hj : j < n) :
    Tab n J op b w lo B m i (j + 1) (Cl.relax op m i j T) := by
  have b1 := t.bd i m hi hm
  have b2 := t.bd m j hm hj
  have b3 := t.bd i j hi hj
  have lo' := A.opLo _ _ b1.1 b2.1
  refine ⟨fun p q hp hq => ?_, fun p q hp hq => ?_, fun p q c hp hq h => Int.le_trans (relax_le m i j T p q) (t.low p q c hp hq h), fun p q c hp hq h hw => ?_⟩
  · unfold Cl.relax
    by_cases h : p = i ∧ q = j
    · obtain ⟨rfl, rfl⟩ := h
      rw [if_pos ⟨rfl, rfl⟩]
      by_cases hle : T p q ≤ op (T p m) (T m q)
      · rw [Int.min_eq_left hle]
        exact t.real p q hp hq
      · have hlt : op (T p m) (T m q) < T p q := Int.not_le.mp hle
        rw [Int.min_eq_right (Int.le_of_lt hlt)]
        have hB : op (T p m) (T m q) < B := Int.lt_of_lt_of_le hlt b3.2
        obtain ⟨h1, h2⟩ := A.opB _ _ b1.1 b2.1 hB
        refine .inr ?_
        rcases t.real p m hp hm with e | ⟨c1, w1, l1, _⟩
        · omega
        rcases t.real m q hm hq with e | ⟨c2, w2, l2, _⟩
        · omega
        obtain ⟨e, we, le⟩ := w1.comp A w2
        refine ⟨e, we, ?_, hB⟩
        exact Int.le_trans le (Int.le_trans (A.monoL _ _ _ l1) (A.monoR _ _ _ l2))
    · rw [if_neg h]
      exact t.real p q hp hq
  · unfold Cl.relax
    by_cases h : p = i ∧ q = j
    · rw [if_pos h]
      omega
    · rw [if_neg h]
      exact t.bd p q hp hq
  · by_cases h' : p = i ∧ q = j
    · obtain ⟨rfl, rfl⟩ := h'
      have e : Cl.relax op m p q T p q = min (T p q) (op (T p m) (T m q)) := if_pos ⟨rfl, rfl⟩
      rw [e]
      rcases hw.split A with h1 | ⟨c1, c2, h1, h2, h3⟩
      · exact Int.le_trans (Int.min_le_left _ _) (t.low p q c hp hq h1)
      · refine Int.le_trans (Int.min_le_right _ _) (Int.le_trans ?_ h3)
        exact Int.le_trans (A.monoL _ _ _ (t.low p m c1 hp hm h1)) (A.monoR _ _ _ (t.low m q c2 hm hq h2))
    · refine Int.le_trans (relax_le m i j T p q) (t.low1 p q c hp hq ?_ hw)
      rcases h with h | ⟨h, h2⟩
      · exact .inl h
      · refine .inr ⟨h, ?_⟩
        have : q ≠ j := fun e => h' ⟨h, e⟩
        omega
theorem Tab.row {m i : Nat} {T : Nat → Nat → Int} (t : Tab n J op b w lo B m i n T) : Tab n J op b w lo B m (i + 1) 0 T :=
  ⟨t.real, t.bd, t.low, fun p q c hp hq h hw => t.low1 p q c hp hq (by
    rcases h with h | ⟨_, h⟩
    · by_cases e : p = i
      · exact .inr ⟨e, hq⟩
      · exact .inl (by omega)
    · omega) hw⟩
theorem Tab.next {m : Nat} {T : Nat → Nat → Int} (t : Tab n J op b w lo B m n 0 T) : Tab n J op b w lo B (m + 1) 0 0 T :=
  ⟨t.real, t.bd, fun p q c hp hq h => t.low1 p q c hp hq (.inl hp) h, fun p q c hp hq h hw => by omega⟩
/-- the table ahead of the first point -/
theorem Tab.init (A : Alg n J op b w lo B) {T : Nat → Nat → Int} (h0 : ∀ i, i < n → T i i = b i) (h1 : ∀ i j, J i j → T i j = w i j) (h2 : ∀ i j, i < n → j < n → i ≠ j → ¬ J i j → T i j = B) (hB : lo ≤ B) : Tab n J op b w lo B 0 0 0 T := by
  have all : ∀ p q, p < n → q < n → (p = q ∧ T p q = b p) ∨ (J p q ∧ T p q = w p q) ∨ T p q = B := fun p q hp hq => by
    by_cases e : p = q
    · subst e
      exact .inl ⟨rfl, h0 p hp⟩
    · by_cases j : J p q
      · exact .inr (.inl ⟨j, h1 p q j⟩)
      · exact .inr (.inr (h2 p q hp hq e j))
  refine ⟨fun p q hp hq => ?_, fun p q hp hq => ?_, fun p q c hp hq h => ?_, fun p q c hp hq h => by omega⟩
  · rcases all p q hp hq with ⟨rfl, e⟩ | ⟨j, e⟩ | e
    · exact .inr ⟨b p, .base p, by rw [e]; exact Int.le_refl _, by rw [e]; exact (A.bLo p hp).2⟩
    · exact .inr ⟨w p q, .edge j, by rw [e]; exact Int.le_refl _, by rw [e]; exact (A.wLo _ _ j).2⟩
    · exact .inl e
  · rcases all p q hp hq with ⟨rfl, e⟩ | ⟨j, e⟩ | e
    · rw [e]; have := A.bLo p hp; omega
    · rw [e]; have := A.wLo p q j; omega
    · rw [e]; exact ⟨hB, Int.le_refl _⟩
  · cases h with
    | base i => rw [h0 _ hp]; exact Int.le_refl _
    | edge j => rw [h1 _ _ j]; exact Int.le_refl _
    | step _ hm _ => omega

/-- least: some way costs no more, no way costs less -/
structure Least (n : Nat) (J : Nat → Nat → Prop) (op : Int → Int → Int) (b : Nat → Int) (w : Nat → Nat → Int) (i j : Nat) (c : Int) : Prop where
  some_ : ∃ d, Wk J op b w n i j d ∧ d ≤ c
  all : ∀ d, Wk J op b w n i j d → c ≤ d
theorem Least.eq {i j : Nat} {c d : Int} (x : Least n J op b w i j c) (y : Least n J op b w i j d) : c = d := by
  obtain ⟨c', h1, h2⟩ := x.some_
  obtain ⟨d', h3, h4⟩ := y.some_
  have := x.all _ h3
  have := y.all _ h1
  omega
theorem Tab.least {T : Nat → Nat → Int} (t : Tab n J op b w lo B n 0 0 T) {i j : Nat} (hi : i < n) (hj : j < n) (h : T i j < B) : Least n J op b w i j (T i j) := by
  refine ⟨?_, fun d hd => t.low i j d hi hj hd⟩
  rcases t.real i j hi hj with e | ⟨c, h1, h2, _⟩
  · omega
  · exact ⟨c, h1, h2⟩

/-! ### labels that no pair can lower -/
theorem labels (A : Alg n J op b w lo B) {F : Nat → Option Int} (hF : ∀ u v c, J u v → F u = some c → ∃ d, F v = some d ∧ d ≤ op c (w u v)) {k i j : Nat} {d : Int} (t : Wk J op b w k i j d) :
    ∀ c, F i = some c → ∃ e, F j = some e ∧ e ≤ op c d := by
  induction t with
  | base i => exact fun c h => ⟨c, h, A.geBr _ _⟩
  | edge j => exact fun c h => hF _ _ c j h
  | step j hm _ ih =>
    intro c h
    obtain ⟨d', h1, h2⟩ := hF _ _ c j h
    obtain ⟨e, h3, h4⟩ := ih d' h1
    refine ⟨e, h3, Int.le_trans h4 ?_⟩
    rw [← A.assoc]
    exact A.monoL _ _ _ h2
theorem labels_least (A : Alg n J op b w lo B) {F : Nat → Option Int} {s v : Nat} {e : Int} (hF : ∀ u v c, J u v → F u = some c → ∃ d, F v = some d ∧ d ≤ op c (w u v)) (hs : F s = some (b s)) (h0 : ∀ d, lo ≤ d → op (b s) d = d) (hsn : s < n)
    (hv : F v = some e) (hw : Wk J op b w n s v e) : Least n J op b w s v e := by
  refine ⟨⟨e, hw, Int.le_refl _⟩, fun d t => ?_⟩
  obtain ⟨e', h1, h2⟩ := labels A hF t _ hs
  rw [hv] at h1
  cases h1
  rw [h0 d (t.lo_le A hsn)] at h2
  exact h2
end

/-! ### joined through kept points, in so many steps -/
inductive Cn (J : Nat → Nat → Prop) (S : Nat → Prop) (s : Nat) : Nat → Nat → Prop
  | base : Cn J S s 0 s
  | step {m u v : Nat} (t : Cn J S s m u) (h : J u v) (hv : S v) : Cn J S s (m + 1) v
def Jd (J : Nat → Nat → Prop) (S : Nat → Prop) (s v : Nat) : Prop := ∃ m, Cn J S s m v
section
variable {J : Nat → Nat → Prop} {S S' : Nat → Prop} {s : Nat}
theorem Cn.kept {m v : Nat} (t : Cn J S s m v) (hs : S s) : S v := by
  cases t with
  | base => exact hs
  | step _ _ h => exact h
theorem Cn.imp (h : ∀ v, S v → S' v) {m v : Nat} (t : Cn J S s m v) : Cn J S' s m v := by
  induction t with
  | base => exact .base
  | step _ j hv ih => exact .step ih j (h _ hv)
theorem Cn.trans {a b c m k : Nat} (t : Cn J S a m b) (u : Cn J S b k c) : Cn J S a (m + k) c := by
  induction u with
  | base => exact t
  | step _ j hv ih => exact .step ih j hv
theorem Cn.symm (sym : ∀ i j, J i j → J j i) {m v : Nat} (t : Cn J S s m v) (hs : S s) : Cn J S v m s := by
  induction t with
  | base => exact .base
  | @step m u v t j hv ih =>
    have h1 : Cn J S v 1 u := .step .base (sym _ _ j) (t.kept hs)
    have h2 := h1.trans ih
    rw [Nat.add_comm] at h2
    exact h2
end
section
variable {n : Nat} {J : Nat → Nat → Prop} {op : Int → Int → Int} {b : Nat → Int} {w : Nat → Nat → Int} {lo B : Int}
theorem Wk.cn {k i j : Nat} {c : Int} (t : Wk J op b w k i j c) : Jd J (fun _ => True) i j := by
  induction t with
  | base i => exact ⟨0, .base⟩
  | edge h => exact ⟨1, .step .base h trivial⟩
  | step h _ _ ih =>
    obtain ⟨m, u⟩ := ih
    exact ⟨1 + m, (Cn.step .base h trivial).trans u⟩
/-- a way of few steps costs little -/
theorem Cn.wk (A : Alg n J op b w lo B) {S : Nat → Prop} {s : Nat} {K : Int} (hK : ∀ i j c, J i j → op c (w i j) ≤ c + K) {m v : Nat} (t : Cn J S s m v) : ∃ c, Wk J op b w n s v c ∧ c ≤ b s + K * m := by
  induction t with
  | base => exact ⟨_, .base s, by simp⟩
  | @step m u v t j hv ih =>
    obtain ⟨c, h1, h2⟩ := ih
    refine ⟨_, h1.snoc A j, Int.le_trans (hK _ _ _ j) ?_⟩
    have : K * ((m + 1 : Nat) : Int) = K * m + K := by
      rw [Int.natCast_add, Int.mul_add]
      simp
    omega
theorem Wk.ltB (A : Alg n J op b w lo B) (hop : ∀ x y, x < B → y < B → op x y < B) {k i j : Nat} {c : Int} (t : Wk J op b w k i j c) (hi : i < n) : c < B := by
  induction t with
  | base i => exact (A.bLo _ hi).2
  | edge h => exact (A.wLo _ _ h).2
  | step h _ _ ih => exact hop _ _ (A.wLo _ _ h).2 (ih (A.lt _ _ h).2.1)
theorem Cn.some_wk (A : Alg n J op b w lo B) {S : Nat → Prop} {s : Nat} {m v : Nat} (t : Cn J S s m v) : ∃ c, Wk J op b w n s v c := by
  induction t with
  | base => exact ⟨_, .base s⟩
  | step t j hv ih =>
    obtain ⟨c, h1⟩ := ih
    exact ⟨_, h1.snoc A j⟩
end

/-! ### the three costs -/
def climbW (h : Nat → Int) (i j : Nat) : Int := max 0 (h j - h i)
def stepW (h : Nat → Int) (i j : Nat) : Int := max (h j - h i) (h i - h j)
def riseW (h : Nat → Int) (i j : Nat) : Int := max (h i) (h j)
def zero (_ : Nat) : Int := 0
section
variable {n : Nat} {J : Nat → Nat → Prop} {h : Nat → Int}
theorem alg_climb (lt : ∀ i j, J i j → i < n ∧ j < n ∧ i ≠ j) (hh : ∀ i, i < n → -99 ≤ h i ∧ h i ≤ 99) : Alg n J (· + ·) zero (climbW h) 0 9999 where
  assoc := Int.add_assoc
  monoR := fun x y z e => Int.add_le_add_left e x
  monoL := fun x y z e => Int.add_le_add_right e z
  geW := fun i j y _ => by show y ≤ max 0 (h j - h i) + y; omega
  geB := fun i y => by show y ≤ 0 + y; omega
  geBr := fun i x => by show x ≤ x + 0; omega
  bw := fun i j _ => by show 0 + climbW h i j = climbW h i j; omega
  opB := fun x y hx hy e => by have e : x + y < 9999 := e; omega
  opLo := fun x y hx hy => by show 0 ≤ x + y; omega
  bLo := fun i _ => by show (0 : Int) ≤ 0 ∧ (0 : Int) < 9999; omega
  wLo := fun i j e => by
    have := hh i (lt i j e).1
    have := hh j (lt i j e).2.1
    show 0 ≤ max 0 (h j - h i) ∧ max 0 (h j - h i) < 9999
    omega
  lt := lt
theorem alg_step (lt : ∀ i j, J i j → i < n ∧ j < n ∧ i ≠ j) (hh : ∀ i, i < n → -99 ≤ h i ∧ h i ≤ 99) : Alg n J max zero (stepW h) 0 9999 where
  assoc := fun x y z => by omega
  monoR := fun x y z e => by omega
  monoL := fun x y z e => by omega
  geW := fun i j y _ => by omega
  geB := fun i y => by omega
  geBr := fun i x => by omega
  bw := fun i j _ => by show max 0 (max (h j - h i) (h i - h j)) = max (h j - h i) (h i - h j); omega
  opB := fun x y hx hy e => by omega
  opLo := fun x y hx hy => by omega
  bLo := fun i _ => by show (0 : Int) ≤ 0 ∧ (0 : Int) < 9999; omega
  wLo := fun i j e => by
    have := hh i (lt i j e).1
    have := hh j (lt i j e).2.1
    show 0 ≤ max (h j - h i) (h i - h j) ∧ max (h j - h i) (h i - h j) < 9999
    omega
  lt := lt
theorem alg_rise (lt : ∀ i j, J i j → i < n ∧ j < n ∧ i ≠ j) (hh : ∀ i, i < n → -99 ≤ h i ∧ h i ≤ 99) : Alg n J max h (riseW h) (-99) 9999 where
  assoc := fun x y z => by omega
  monoR := fun x y z e => by omega
  monoL := fun x y z e => by omega
  geW := fun i j y _ => by omega
  geB := fun i y => by omega
  geBr := fun i x => by omega
  bw := fun i j _ => by show max (h i) (max (h i) (h j)) = max (h i) (h j); omega
  opB := fun x y hx hy e => by omega
  opLo := fun x y hx hy => by omega
  bLo := fun i hi => by have := hh i hi; omega
  wLo := fun i j e => by
    have := hh i (lt i j e).1
    have := hh j (lt i j e).2.1
    show -99 ≤ max (h i) (h j) ∧ max (h i) (h j) < 9999
    omega
  lt := lt
/-- a way's greatest height is a height -/
theorem rise_height (lt : ∀ i j, J i j → i < n ∧ j < n ∧ i ≠ j) {k i j : Nat} {c : Int} (t : Wk J max h (riseW h) k i j c) (hi : i < n) : ∃ v, v < n ∧ c = h v := by
  induction t with
  | base i => exact ⟨i, hi, rfl⟩
  | @edge i j e =>
    by_cases l : h i ≤ h j
    · exact ⟨j, (lt _ _ e).2.1, by show max (h i) (h j) = h j; omega⟩
    · exact ⟨i, hi, by show max (h i) (h j) = h i; omega⟩
  | @step i m j c e _ t ih =>
    obtain ⟨v, hv, rfl⟩ := ih (lt _ _ e).2.1
    by_cases l : max (h i) (h m) ≤ h v
    · exact ⟨v, hv, by show max (max (h i) (h m)) (h v) = h v; omega⟩
    · by_cases l2 : h i ≤ h m
      · exact ⟨m, (lt _ _ e).2.1, by show max (max (h i) (h m)) (h v) = h m; omega⟩
      · exact ⟨i, hi, by show max (max (h i) (h m)) (h v) = h i; omega⟩
theorem rise_cn {L : Int} {k i j : Nat} {c : Int} (t : Wk J max h (riseW h) k i j c) (hc : c ≤ L) : h i ≤ L ∧ Jd J (fun v => h v ≤ L) i j := by
  induction t with
  | base i => exact ⟨hc, 0, .base⟩
  | @edge i j e =>
    have hc : max (h i) (h j) ≤ L := hc
    exact ⟨by omega, 1, .step .base e (by show h j ≤ L; omega)⟩
  | @step i m j c e _ t ih =>
    have hc : max (max (h i) (h m)) c ≤ L := hc
    obtain ⟨h1, k, u⟩ := ih (by omega)
    exact ⟨by omega, 1 + k, (Cn.step .base e h1).trans u⟩
theorem cn_rise (A : Alg n J max h (riseW h) (-99) 9999) {L : Int} {s m v : Nat} (t : Cn J (fun v => h v ≤ L) s m v) (hs : h s ≤ L) : ∃ c, Wk J max h (riseW h) n s v c ∧ c ≤ L := by
  induction t with
  | base => exact ⟨_, .base s, hs⟩
  | @step m u v t j hv ih =>
    obtain ⟨c, h1, h2⟩ := ih
    refine ⟨_, h1.snoc A j, ?_⟩
    have hu : h u ≤ L := t.kept (S := fun v => h v ≤ L) hs
    have hv : h v ≤ L := hv
    show max c (max (h u) (h v)) ≤ L
    omega
/-- the greatest level at which two points are in one part of what is as high, upside down: the least rise -/
theorem pass_least (lt : ∀ i j, J i j → i < n ∧ j < n ∧ i ≠ j) (hh : ∀ i, i < n → -99 ≤ h i ∧ h i ≤ 99) {one other : Nat} (h1 : one < n) {L : Int} (yes : h one ≤ -L ∧ Jd J (fun v => h v ≤ -L) one other)
    (no : ∀ v, v < n → -(h v) > L → ¬ (h one ≤ h v ∧ Jd J (fun u => h u ≤ h v) one other)) : Least n J max h (riseW h) one other (-L) := by
  obtain ⟨y1, m, y2⟩ := yes
  refine ⟨cn_rise (alg_rise lt hh) y2 y1, fun d t => ?_⟩
  obtain ⟨v, hv, rfl⟩ := rise_height lt t h1
  by_cases g : -(h v) > L
  · exact absurd (rise_cn t (Int.le_refl _)) (no v hv g)
  · omega
end
end Cl

set_option Elab.async false
set_option linter.all false
set_option maxRecDepth 100000
set_option maxHeartbeats 1000000
/-! rules that the hand layer lacks -/
namespace PySem
open Sem (wp)
/-- enumerate(t), t told by how its iterator begins -/
theorem cl_enum_new {v : Value} {o : Obj} {H : Heap → Prop} (B : Begins v o H) :
    Meets (Builtin.«enumerate.__new__» ⟨[.type "enumerate", v], []⟩) (fun _ R s => H s.heap ∧
      R (.ok (.ret (.ref (s.heap.push o).objs.size))) { s with heap := (s.heap.push o).push { cls := .type "enumerate", data := .fields #[.none, .bool false, .ref s.heap.objs.size, rawInt 0, .none, .none] } }) :=
  .of_wp fun prog w A R s h => by
    obtain ⟨hp, g, d, tk, os⟩ := s; obtain ⟨h1, h⟩ := h
    have hsub := sub_enumerate
    have q1 : ∀ {A' : Around} {E : Value → Shared → Prop} {Q : Value → Shared → Prop}, Q (.ref hp.objs.size) ⟨hp.push o, g, d, tk, os⟩ → wpAny (model prog w) A' (pyIter v) Q E ⟨hp, g, d, tk, os⟩ :=
      fun q => B.iter prog w _ _ ⟨hp, g, d, tk, os⟩ _ h1 q
    wp_walk using q1
    refine wpAny_stack_any fun st => wpAny_pure ?_
    split
    · rename_i c _ _ _ _ _
      cases (c == Value.type "enumerate")
      · wp_walk using q1
        exact ⟨_, rfl, h⟩
      · wp_walk using q1
        exact ⟨_, rfl, h⟩
    · wp_walk using q1
      exact ⟨_, rfl, h⟩
section
variable {prog : Program} {w : World} {A : Around} {E : Value → Shared → Prop} {s : Shared}
theorem cl_enum_begins {v : Value} {o : Obj} {H : Heap → Prop} {Q : Value → Shared → Prop} (B : Begins v o H) (h1 : H s.heap)
    (h : ∀ h', IsEnum h' (s.heap.objs.size + 1) s.heap.objs.size 0 .none → h'.get? s.heap.objs.size = some o → h'.objs.size = s.heap.objs.size + 2 →
      (∀ b o, s.heap.get? b = some o → h'.get? b = some o) → Q (.ref (s.heap.objs.size + 1)) { s with heap := h' }) :
    wpAny (model prog w) A (call (.type "enumerate") [v]) Q E s := by
  refine callType_new F.called_enumerate (by decide) (F.typeCall_enumerate_1 _) (F.newCall_enumerate_1 _) (fun obj => F.args_object_init_2 obj _) F.entry_enumerate_new
    (cl_enum_new B) ⟨h1, ?_⟩
  have hz : (s.heap.push o).objs.size = s.heap.objs.size + 1 := Heap.size_push ..
  show _ ∧ _
  rw [hz]
  have he : IsEnum ((s.heap.push o).push { cls := .type "enumerate", data := .fields #[.none, .bool false, .ref s.heap.objs.size, rawInt 0, .none, .none] }) (s.heap.objs.size + 1) s.heap.objs.size 0 .none := by
    have := Heap.get?_push_size (s.heap.push o) (o := { cls := .type "enumerate", data := .fields #[.none, .bool false, .ref s.heap.objs.size, rawInt 0, .none, .none] }) rfl
    rw [hz] at this; exact this
  refine ⟨⟨_, he, rfl⟩, h _ he (Heap.get?_push_of_some _ (Heap.get?_push_size _ B.free)) (by rw [Heap.size_push, hz]) fun b o x => Heap.get?_push_of_some _ (Heap.get?_push_of_some _ x)⟩
end
end PySem
namespace L2
open PySem PySem.Spec PyProof.Rows
/-! ### for i, x in enumerate(t), t a tuple -/
def IteT (K : PySem.W.Frag) (a : Addr) : It :=
  ⟨fun i H => ∃ (xs : List V) (x : V), SqT K H a xs ∧ xs[i]? = some x, fun i H v H' => ∃ T x, v = .ref T ∧ H T = none ∧ H' = upd H T (.tup [.int (i : Nat), x]) ∧ ∀ xs, SqT K H a xs → xs[i]? = some x, fun i H => ∃ xs : List V, SqT K H a xs ∧ xs.length ≤ i⟩
theorem turn_enumT {P : Program} {w : World} {K : PySem.W.Frag} {elts : List Expr} {kk : Nat} {tpos : Pos} (a e it : Addr) :
    Turn P w K (.Tuple elts kk tpos) (IteT K a) [e, it] e (fun i h => (∃ old, IsEnum h e it ((i : Nat) : Int) old) ∧ h.IsTupleIter it a i ∧ e ≠ it ∧ e ≠ a ∧ a ≠ it) where
  mem := by simp
  obj := fun i h st b hb => by
    obtain ⟨⟨old, he⟩, ⟨o, ho, hc, hd⟩, _⟩ := st
    have e' : b = e ∨ b = it := by simpa using hb
    rcases e' with z | z
    · rw [z]; exact ⟨_, he, fun v q => nomatch q⟩
    · rw [z]; exact ⟨o, ho, fun v q => by rw [hd] at q; cases q⟩
  keep := fun i h h' st k => let ⟨⟨old, he⟩, hi, hne⟩ := st; ⟨⟨old, k e (by simp) _ he⟩, hi.at fun o q => k it (by simp) o q, hne⟩
  item := by
    intro X hP hw hK hc i pins s σ H E I hf st hg
    subst hP hw hK
    obtain ⟨⟨old, he⟩, hit, hne, hea, hai⟩ := st
    obtain ⟨xs, x, hq, hx⟩ := hg
    obtain ⟨its, rv, p, hz⟩ := I.tuple hq
    obtain ⟨u, hu, ru⟩ := rv.get hx
    have hel : e < s.heap.objs.size := Heap.lt_size he
    have hil : it < s.heap.objs.size := by obtain ⟨_, q, _⟩ := hit; exact Heap.lt_size q
    have hlen : i < its.toArray.size := by
      have := (List.getElem?_eq_some_iff.mp hu).1
      simpa using this
    refine wpAny_pyNext_enum_itemD (Draws.tuple (A := X.A.in1) (show X.A.in1.handled = none from I.ok.hd hc) it a hai its.toArray) he ⟨hit, p⟩ hlen hne (by simp [hne, hea]) fun x' h' tk hx' ho st' hT hsz hk => ?_
    have ex : x' = u := by
      have h1 : its[i]? = some x' := by simpa using hx'
      rw [hu] at h1
      exact (Option.some.inj h1).symm
    subst ex
    refine ⟨_, rfl, wpAny_letOwnedTupleGo_enum (s := { s with heap := h', toks := tk + 1 }) ho fun h'' he' sb => ?_⟩
    have hT2 : h''.get? s.heap.objs.size = some { cls := .type "tuple", data := .seq #[.int i tk, x'] } := (sb.2 _ (Nat.ne_of_gt hel)).trans hT
    have new : ObjOk X.prog X.w (upd H s.heap.objs.size (.tup [.int (i : Nat), x])) h'' s.heap.objs.size (.tup [.int (i : Nat), x]) :=
      ⟨by show 2 ≤ sizeLine; decide, [.int i tk, x'], .cons ⟨_, rfl⟩ (.cons ru .nil), ⟨_, hT2, rfl, _, rfl⟩⟩
    have I1 : Inv X pins σ (upd H s.heap.objs.size (.tup [.int (i : Nat), x])) { s with heap := h'', toks := tk + 1 } :=
      I.turnedNew (ch := [e, it]) (fun b ob hb q => (sb.2 b (fun z => hb (by simp [z]))).trans (hk b ob (fun z => hb (by simp [z])) (fun z => hb (by simp [z])) q)) hf (Nat.le_refl _) new
    refine ⟨.ref s.heap.objs.size, _, I1, rfl, ⟨_, x, rfl, I.hok.fresh (Nat.le_refl _), rfl, fun ys hy => by rw [I.tuple_inj hy hq]; exact hx⟩, ⟨⟨x', ?_⟩, st'.1.at fun o q => (sb.2 it (Ne.symm hne)).trans q, hne, hea, hai⟩, fun b hb => ?_⟩
    · have e1 : ((i + 1 : Nat) : Int) = (i : Int) + 1 := by omega
      rw [e1]; exact he'
    · have hb' : b < s.heap.objs.size := by
        have e' : b = e ∨ b = it := by simpa using hb
        rcases e' with z | z
        · rw [z]; exact hel
        · rw [z]; exact hil
      rw [upd_ne (Nat.ne_of_lt hb')]
      exact (hf b hb).1
  done := by
    intro X hP hw hK hc i pins s σ H E I hf st hg
    subst hP hw hK
    obtain ⟨⟨old, he⟩, hit, hne, hea, hai⟩ := st
    obtain ⟨xs, hq, hx⟩ := hg
    obtain ⟨its, rv, p, hz⟩ := I.tuple hq
    obtain ⟨f0, f1, f2, f3, f4, f5⟩ := hf it (by simp)
    have hl := rv.length
    have hT : s.TypeIs (.ref e) "enumerate" := ⟨_, he, rfl⟩
    unfold pyNext
    refine wpAny_bind (wpAny_attempt (wpAny_callSpecial?_slot (name := Str.ofString "__next__") hT F.slot_enumerate_next
      (wpAny_call_entry F.slot_enumerate_next hT F.entry_enumerate_next ?_ (F.args_enumerate_next_1 _))))
    show wpAny _ _ (field (.ref e) 2 >>= _) _ _ _
    refine wpAny_bind (wpAny_field he rfl (x := .ref it) rfl ?_)
    refine wpAny_bind (wpAny_nextOf_tuple_end (show X.A.in1.handled = none from I.ok.hd hc) hit p (by simp; omega) fun h' x he' hx' => ?_)
    obtain ⟨o, ho, hcl⟩ := hx'
    refine wpAny_bind (wpAny_isInstance (T := "StopIteration") (b := true) ⟨o, ho, hcl⟩ isSubtype_stop ?_)
    exact wpAny_pure ⟨rfl, I.turned (t' := s.toks) (fun b o hb q => he' b o hb q) f0 f1 f3 f4 f5⟩
  self := fun A i s Q E st h => let ⟨⟨_, he⟩, _⟩ := st; wpAny_pyIter_enum he h
def iEnumT (K : PySem.W.Frag) (ta : TA) : TI := fun σ H R => ta σ H fun vs H1 => ∃ a xs, vs = [.ref a] ∧ SqT K H1 a xs ∧ R (IteT K a) H1
theorem pi_enumT {X : Cx} {e : Expr} {ta : TA} {p pos tpos : Pos} {elts : List Expr} {kk : Nat} (hg : Gl X "enumerate") (hm : X.mg "enumerate" = none) (ha : PA X [e] ta) (hs : starEach [e] X.env = [(false, eval e X.env)] := by rfl) :
    PI X (.Tuple elts kk tpos) (.Call (.Name "enumerate" p) [e] [] pos) (iEnumT X.K ta) := by
  refine ⟨fun pins s σ H R I h => ?_⟩
  refine Call_ (ld_blt I hg hm boot_enumerate (PyProof.Rows.callWith_type1 (thn (ha.run pos pins s σ H _ I h) fun us s1 ⟨vs, H1, I1, r1, q1⟩ => ?_) hs rfl))
  obtain ⟨a, xs, ex, hq, q⟩ := q1
  subst ex
  cases r1 with
  | cons r rr =>
    cases rr
    cases r
    obtain ⟨its, rv, p', hz⟩ := I1.tuple hq
    have p' : s1.heap.IsTuple a its.toArray := p'
    have hal : a < s1.heap.objs.size := by obtain ⟨_, q, _⟩ := p'; exact Heap.lt_size q
    refine cl_enum_begins (begins_tuple a its.toArray) p' fun h' he hit hsz hk => wpAny_pyIter_enum he ?_
    have I2 : Inv X pins σ H1 { s1 with heap := h' } := I1.kept (t' := s1.toks) hk
    refine ⟨s1.heap.objs.size + 1, [s1.heap.objs.size + 1, s1.heap.objs.size], _, _, H1, rfl, I2, turn_enumT a (s1.heap.objs.size + 1) s1.heap.objs.size, ⟨⟨.none, he⟩, ⟨_, hit, rfl, rfl⟩, Nat.succ_ne_self _, Nat.ne_of_gt (Nat.lt_succ_of_lt hal), Nat.ne_of_lt hal⟩, fun b hb => ?_, q⟩
    have e' : b = s1.heap.objs.size + 1 ∨ b = s1.heap.objs.size := by simpa using hb
    have hle : s1.heap.objs.size ≤ b := by
      rcases e' with z | z
      · rw [z]; exact Nat.le_add_right _ _
      · rw [z]; exact Nat.le_refl _
    exact I1.fpOk hle (I1.hok.fresh hle)
theorem walk_enumT {K : PySem.W.Frag} {a : Addr} {xs : List V} : Walk (IteT K a) xs.length (fun H => SqT K H a xs) (YPair (fun i => some (.int (i : Nat))) (fun i => xs[i]?)) := by
  refine ⟨fun i _ hi q => ⟨xs, xs[i], q, by simp [hi]⟩, fun _ q => ⟨xs, q, Nat.le_refl _⟩, fun i H v H' _ q y => ?_⟩
  obtain ⟨T, x, h1, h2, h3, h4⟩ := y
  exact ⟨T, .int (i : Nat), x, h1, h2, h3, rfl, h4 xs q⟩

/-! ### a dict comprehension over anything walked -/
theorem dc_it {J : It} {n : Nat} {G : Hp → Prop} {Y : Nat → Hp → V → Hp → Prop} (w : Walk J n G Y) {g : TG} {tt : TT} {tk tv : TE} {vs : List Nat} {σ : St} {H1 : Hp} {D : Addr} {Qd : Hp → Prop} (Pv : Nat → Hp → Prop) (h0 : Pv 0 (upd H1 D (.dK []))) (hG : ∀ i H, i ≤ n → Pv i H → G H)
    (hs : ∀ i x H H', i < n → Pv i H → Y i H x H' → g x (wipe σ vs) H' fun σ2 H2 => wipe σ2 vs = wipe σ vs ∧ tt σ2 H2 fun b H3 =>
      if b = true then tk σ2 H3 fun y H4 => tv σ2 H4 fun z H5 => ∃ kvs k, y = kV k ∧ H5 D = some (.dK kvs) ∧ kvs.length < sizeLine ∧ Pv (i + 1) (upd H5 D (.dK (putK kvs k z))) else Pv (i + 1) H3) (hd : ∀ H, Pv n H → Qd H) :
    ∃ W : Nat → Nat → Hp → Prop, (∃ m, W 0 m (upd H1 D (.dK []))) ∧ ∀ i m H, W i m H →
      (J.stop i H ∧ Qd H) ∨ (J.go i H ∧ ∃ Nx : Hp → Prop, (∀ H', Nx H' → ∃ m', m' < m ∧ W (i + 1) m' H') ∧ ∀ x H', J.yld i H x H' → g x (wipe σ vs) H' fun σ2 H2 => wipe σ2 vs = wipe σ vs ∧ tt σ2 H2 fun b H3 =>
        if b = true then tk σ2 H3 fun y H4 => tv σ2 H4 fun z H5 => ∃ kvs k, y = kV k ∧ H5 D = some (.dK kvs) ∧ kvs.length < sizeLine ∧ Nx (upd H5 D (.dK (putK kvs k z))) else Nx H3) := by
  refine ⟨fun i m H => m = n - i ∧ i ≤ n ∧ Pv i H, ⟨n, by simp, Nat.zero_le _, h0⟩, ?_⟩
  rintro i m H ⟨rfl, hi, p⟩
  have q := hG i H hi p
  by_cases hlt : i < n
  · exact .inr ⟨w.goes i H hlt q, Pv (i + 1), fun H' p' => ⟨n - (i + 1), by omega, rfl, hlt, p'⟩, fun x H' y => hs i x H H' hlt p (w.yields i H x H' hlt q y)⟩
  · have e : i = n := by omega
    subst e
    exact .inl ⟨w.stops H q, hd H p⟩

/-! ### X(), X an own exception class without own __init__ -/
theorem pmk_own0 {X : Cx} {C : Addr} {bmB : List Value} {B newId initId : String} {x : Str} {p pos : Pos} (F : ExcBaseFacts B newId initId bmB) (q : PySem.W.excIn X.K C bmB newId = true) (gC : X.mg x = some (.ref C))
    (kC : PySem.W.keepIn X.K (.ref C) = true) (r : Raises X (.ref C)) (hg : Gl X x) (hdb : (x == ("__debug__" : Str)) = false := by decide) :
    PMk X (.Call (.Name x p) [] [] pos) (fun _ H Q => Q (.ref C) none H) := by
  intro pins s σ H Q I h
  refine wpAny_Call_Name_kw (ld_glob I hg gC ?_ hdb)
  refine PySem.W.callWith_K0 (first := []) I.kIn kC ?_
  show wpAny _ _ (call (.ref C) []) _ _ _
  obtain ⟨bm, N, nm, qn, bs, hdct, sn, sub, ab, col, dd, k0, k1, k2, k3, k5, mN, hC, hN, hni, T⟩ := exc_obj I.kIn q
  refine wpAny_call_exc_subT F T hC hN hni (fun h' e hm => ?_) (by show 0 ≤ sizeLine; exact Nat.zero_le _)
  exact mk_of I hm r h (I.hok.gone hm.new)

/-! ### a call of a local name that holds a def, what is raised wished for at the slots -/
def tCallLS (i : Nat) (S : Addr → Option Sp) (E : St → XK) (t : TA) : TE := fun σ H Q => ∃ f sp, σ[i]? = some (some (.ref f)) ∧ S f = some sp ∧ t σ H fun vs H1 => sp vs H1 Q (E σ)
structure HeldX (P : Program) (w : World) (K : PySem.W.Frag) (mg : Str → Option Value) (base : Heap) (CX : CXT) (k : Nat) (f : Addr) (sp : Sp) : Prop where
  ex : ∃ (fd : FuncData) (ps : List Str), FnOk P w K mg base CX k f fd ps sp ∧ PySem.W.keepIn K (.ref f) = true ∧ Binds K fd ps []
theorem pe_callLS {X : Cx} {CX : CXT} {k i : Nat} {E : St → XK} {x : Str} {p pos : Pos} {e : Expr} {es : List Expr} {t : TA} {S : Addr → Option Sp} (A : ∀ f sp, S f = some sp → HeldX X.prog X.w X.K X.mg X.base CX k f sp) (hr : Room k X.A) (hN : X.N[i]? = some x) (hv : Vis X.env.scope x)
    (hx : ∀ σ, PassesAt CX X σ (E σ)) (ha : PA X (e :: es) t)
    (hdb : (x == ("__debug__" : Str)) = false := by decide) (hcd : (x == ("__classdict__" : Str)) = false := by decide)
    (he : starEach (e :: es) X.env = (false, eval e X.env) :: starEach es X.env := by rfl) (hpl : (backTo pos (starEach es X.env)).any (·.1) = false := by rfl) : PE X (.Call (.Name x p) (e :: es) [] pos) (tCallLS i S E t) := by
  refine ⟨fun pins s σ H Q I h => ?_⟩
  obtain ⟨f, sp, hs, hS, ht⟩ := h
  obtain ⟨fd, ps, F, hk, hb⟩ := (A f sp hS).ex
  refine wpAny_Call_Name_kw (thn ((pe_var (pos := p) hN hv hdb hcd).run pins s σ H (fun v H1 => v = .ref f ∧ H1 = H) I ⟨.ref f, hs, rfl, rfl⟩) fun u s1 ⟨v, H1, I1, r1, q1⟩ => ?_)
  obtain ⟨rfl, rfl⟩ := q1
  cases r1
  refine PySem.W.callWith_K (h₀ := X.base) I.ok.mod.kin hk (thn (ha.run pos pins s1 σ _ _ I1 ht) fun us s2 ⟨vs, H2, I2, r, q⟩ => ⟨I2.kIn, ?_⟩) he hpl
  exact run_fnS F hr hb (hx σ) I2 r q

/-! ### a def of the text, as its callers see it -/
structure Cal (P : Program) (w : World) (K : PySem.W.Frag) (mg : Str → Option Value) (base : Heap) (CX : CXT) (k : Nat) (x : Str) (ps : List Str) (sp : Sp) : Prop where
  ex : ∃ (f : Addr) (fd : FuncData), mg x = some (.ref f) ∧ PySem.W.keepIn K (.ref f) = true ∧ Binds K fd ps [] ∧ FnOk P w K mg base CX k f fd ps sp
theorem Cal.held {P : Program} {w : World} {K : PySem.W.Frag} {mg : Str → Option Value} {base : Heap} {CX : CXT} {k : Nat} {x : Str} {ps : List Str} {sp : Sp} (C : Cal P w K mg base CX k x ps sp) : ∃ f, mg x = some (.ref f) ∧ HeldX P w K mg base CX k f sp := by
  obtain ⟨f, fd, a, b, c, d⟩ := C.ex
  exact ⟨f, a, fd, ps, d, b, c⟩
def tCal (sp : Sp) (E : XK) (t : TA) : TE := fun σ H Q => t σ H fun vs H1 => sp vs H1 Q E
theorem pe_cal {X : Cx} {CX : CXT} {k j : Nat} {x : Str} {ps : List Str} {sp : Sp} {E : XK} {p pos : Pos} {e : Expr} {es : List Expr} {t : TA} (C : Cal X.prog X.w X.K X.mg X.base CX k x ps sp) (hr : Room j X.A) (hx : Passes CX X E) (ha : PA X (e :: es) t) (hkj : k ≤ j := by decide) (hg : Gl X x := by rfl) (hdb : (x == ("__debug__" : Str)) = false := by decide)
    (he : starEach (e :: es) X.env = (false, eval e X.env) :: starEach es X.env := by rfl) (hpl : (backTo pos (starEach es X.env)).any (·.1) = false := by rfl) : PE X (.Call (.Name x p) (e :: es) [] pos) (tCal sp E t) := by
  refine ⟨fun pins s σ H Q I h => ?_⟩
  obtain ⟨f, fd, hm, hk, hb, F⟩ := C.ex
  refine (pe_callS F (hr.mono hkj) hg hm hk hb (E := fun _ => E) (fun σ pins H s e s' I c => hx pins σ H s e s' I c) ha hdb he hpl).run pins s σ H Q I h
def tCalS (sp : Sp) (E : St → XK) (t : TA) : TE := fun σ H Q => t σ H fun vs H1 => sp vs H1 Q (E σ)
theorem pe_calS {X : Cx} {CX : CXT} {k j : Nat} {x : Str} {ps : List Str} {sp : Sp} {E : St → XK} {p pos : Pos} {e : Expr} {es : List Expr} {t : TA} (C : Cal X.prog X.w X.K X.mg X.base CX k x ps sp) (hr : Room j X.A) (hx : ∀ σ, PassesAt CX X σ (E σ)) (ha : PA X (e :: es) t) (hkj : k ≤ j := by decide) (hg : Gl X x := by rfl) (hdb : (x == ("__debug__" : Str)) = false := by decide)
    (he : starEach (e :: es) X.env = (false, eval e X.env) :: starEach es X.env := by rfl) (hpl : (backTo pos (starEach es X.env)).any (·.1) = false := by rfl) : PE X (.Call (.Name x p) (e :: es) [] pos) (tCalS sp E t) := by
  refine ⟨fun pins s σ H Q I h => ?_⟩
  obtain ⟨f, fd, hm, hk, hb, F⟩ := C.ex
  exact (pe_callS F (hr.mono hkj) hg hm hk hb hx ha hdb he hpl).run pins s σ H Q I h

/-! ### min of a list of pairs of ints -/
theorem minOf_le {α : Type} [DecidableEq α] [PySem.W.DatumOrd α] (f : α → Int) (hf : ∀ a b, PySem.W.DatumOrd.lt a b = false → f b ≤ f a) (hf' : ∀ a b, PySem.W.DatumOrd.lt a b = true → f a ≤ f b) : ∀ (xs : List α) (x : α), PySem.W.minOf x xs ∈ x :: xs ∧ ∀ y ∈ x :: xs, f (PySem.W.minOf x xs) ≤ f y
  | [], x => ⟨List.mem_cons_self, fun y hy => by
      have e : y = x := by simpa using hy
      subst e
      exact Int.le_refl _⟩
  | z :: xs, x => by
    have e : PySem.W.minOf x (z :: xs) = PySem.W.minOf (if PySem.W.DatumOrd.lt z x = true then z else x) xs := rfl
    obtain ⟨h1, h2⟩ := minOf_le f hf hf' xs (if PySem.W.DatumOrd.lt z x = true then z else x)
    rw [e]
    by_cases c : PySem.W.DatumOrd.lt z x = true
    · rw [if_pos c] at h1 h2 ⊢
      refine ⟨List.mem_cons_of_mem _ h1, fun y hy => ?_⟩
      rcases List.mem_cons.mp hy with rfl | hy
      · exact Int.le_trans (h2 z List.mem_cons_self) (hf' _ _ c)
      · exact h2 y hy
    · rw [if_neg c] at h1 h2 ⊢
      refine ⟨?_, fun y hy => ?_⟩
      · rcases List.mem_cons.mp h1 with h | h
        · rw [h]; exact List.mem_cons_self
        · exact List.mem_cons_of_mem _ (List.mem_cons_of_mem _ h)
      · rcases List.mem_cons.mp hy with rfl | hy
        · exact h2 y List.mem_cons_self
        · rcases List.mem_cons.mp hy with rfl | hy
          · exact Int.le_trans (h2 x List.mem_cons_self) (hf _ _ (by simpa using c))
          · exact h2 y (List.mem_cons_of_mem _ hy)
def rMinP (K : PySem.W.Frag) : List V → Hp → VK → Prop := fun vs H Q => ∃ (a : Addr) (ps : List (Addr × Int × Int)), vs = [V.ref a] ∧ SqL K H a (ps.map fun p => V.ref p.1) ∧ ps ≠ [] ∧ (∀ p ∈ ps, H p.1 = some (.tup [.int p.2.1, .int p.2.2])) ∧
  ∀ m ∈ ps, (∀ p ∈ ps, m.2.1 ≤ p.2.1) → Q (.ref m.1) H
theorem cl_pair_lt {a b : Int × Int} : PySem.W.DatumOrd.lt a b = (if a.1 = b.1 then decide (a.2 < b.2) else decide (a.1 < b.1)) := by
  first | rfl | (show (if a.1 = b.1 then _ else _) = _; rfl)
theorem cr_minP {X : Cx} (hc : X.calm = true) (hu : X.A.units + 64 < cLine) : CallR X (.builtin "min") (rMinP X.K) := by
  intro pins s σ H vs us Q I r h
  obtain ⟨a, ps, rfl, hs, hne, ht, q⟩ := h
  rw [Vals.ref1 r]
  obtain ⟨its, rv, hl, hz⟩ := I.list hs
  have hold : ∀ (ps : List (Addr × Int × Int)) (its : List Value), (∀ p ∈ ps, H p.1 = some (.tup [.int p.2.1, .int p.2.2])) → Vals (ps.map fun p => V.ref p.1) its → its = ps.map (fun p => Value.ref p.1) ∧ PySem.W.HoldAll s.heap its (ps.map (·.2)) := by
    intro ps
    induction ps with
    | nil =>
      intro its _ rv
      cases rv
      exact ⟨rfl, [], by first | exact .nil | (simp; constructor)⟩
    | cons p ps ih =>
      intro its ht rv
      cases rv with
      | cons r1 r2 =>
        cases r1
        obtain ⟨e, as, ra⟩ := ih _ (fun p' hp' => ht p' (List.mem_cons_of_mem _ hp')) r2
        refine ⟨by rw [List.map_cons, e], ?_⟩
        have d : Dp X.K H (.ref p.1) (.tuple [.int p.2.1, .int p.2.2]) := .tup (SqT.of (ht p List.mem_cons_self)) (.cons (.int _) (.cons (.int _) .nil))
        obtain ⟨bs, rb⟩ := d.reads I _ _ _ rfl
        exact ⟨_, .cons rb ra⟩
  obtain ⟨e, HA⟩ := hold ps its ht rv
  cases ps with
  | nil => exact absurd rfl hne
  | cons p ps =>
    obtain ⟨h1, h2⟩ := minOf_le (α := Int × Int) (fun z => z.1) (fun a b c => by
      rw [cl_pair_lt] at c
      by_cases e : a.1 = b.1
      · show b.1 ≤ a.1; omega
      · rw [if_neg e] at c
        have := of_decide_eq_false c
        show b.1 ≤ a.1; omega) (fun a b c => by
      rw [cl_pair_lt] at c
      by_cases e : a.1 = b.1
      · show a.1 ≤ b.1; omega
      · rw [if_neg e] at c
        have := of_decide_eq_true c
        show a.1 ≤ b.1; omega) (ps.map (·.2)) p.2
    refine PySem.W.min_list_datum (A := X.A) (α := Int × Int) (x := p.2) (xs := ps.map (·.2)) (I.ok.hd hc) hl.isList (by simpa using HA) ?_ fun i v h' tk hv hm hk => ?_
    · show X.A.units + 1 + (max 0 0 + 1) < cLine
      have : (max 0 0 + 1 : Nat) = 1 := by decide
      omega
    · have hi : ∃ m, (p :: ps)[i]? = some m ∧ v = .ref m.1 := by
        rw [e] at hv
        have hv : ((p :: ps).map fun p => Value.ref p.1)[i]? = some v := by simpa using hv
        rw [List.getElem?_map] at hv
        cases hm : (p :: ps)[i]? with
        | none => rw [hm] at hv; cases hv
        | some m => rw [hm] at hv; exact ⟨m, rfl, (Option.some.inj hv).symm⟩
      obtain ⟨m, hmi, rfl⟩ := hi
      have hmem : m ∈ p :: ps := List.mem_of_getElem? hmi
      have hm2 : PySem.W.Holds h' (.ref m.1) m.2 := by
        obtain ⟨x', hx', ho⟩ := HA.at (i := i) (v := .ref m.1) (by rw [e, List.getElem?_map, hmi]; rfl)
        rw [List.getElem?_map, hmi] at hx'
        have ex : m.2 = x' := Option.some.inj hx'
        rw [ex]
        exact ho.keeps hk
      obtain ⟨l1, a1, b1, e1, t1, u1, _⟩ := PySem.W.pair_of_holds hm
      obtain ⟨l2, a2, b2, e2, t2, u2, _⟩ := PySem.W.pair_of_holds hm2
      cases e1
      cases e2
      obtain ⟨o1, g1, _, n1, d1⟩ := t1
      obtain ⟨o2, g2, _, n2, d2⟩ := t2
      rw [g1] at g2
      cases g2
      rw [d1] at d2
      injection d2 with d2 _
      have ea : a1 = a2 := by
        have := congrArg Array.toList d2
        simp at this
        exact this.1
      subst ea
      obtain ⟨k1, z1⟩ := PySem.W.int_of_holds u1
      obtain ⟨k2, z2⟩ := PySem.W.int_of_holds u2
      rw [z1] at z2
      injection z2 with z3 _
      refine ⟨.ref m.1, H, I.kept (t' := tk) hk, rfl, q m hmem fun p' hp' => ?_⟩
      have := h2 p'.2 (by
        rcases List.mem_cons.mp hp' with rfl | hp'
        · exact List.mem_cons_self
        · exact List.mem_cons_of_mem _ (List.mem_map.mpr ⟨p', hp', rfl⟩))
      rw [← z3]
      exact this

/-! ### sorted(d), d a dict with keys (i, j) -/
theorem cl_pget {α β : Type} {G : α → β → Prop} {l₁ : List α} {l₂ : List β} (h : Paired G l₁ l₂) : ∀ {i : Nat} {b : β}, l₂[i]? = some b → ∃ a, l₁[i]? = some a ∧ G a b := by
  induction h with
  | nil => intro i b e; simp at e
  | cons r _ ih =>
    intro i b e
    cases i with
    | zero => simp at e; subst e; exact ⟨_, rfl, r⟩
    | succ i =>
      obtain ⟨a, h1, h2⟩ := ih (i := i) (b := b) (by simpa using e)
      exact ⟨a, by simpa using h1, h2⟩
def rSortDT : List V → Hp → VK → Prop := fun vs H Q => ∃ (a : Addr) (kvs : List (List Key × V)) (es : List (Nat × Nat)), vs = [V.ref a] ∧ H a = some (.dT kvs) ∧ kvs.map (·.1) = es.map (fun e => [Sum.inl (e.1 : Int), Sum.inl (e.2 : Int)]) ∧ es.length < 64 ∧ (∀ e ∈ es, e.1 < 64 ∧ e.2 < 64) ∧
  ∀ (zs : List (Addr × Nat × Nat)) (p : Addr), (zs.map (·.2)).Perm es → (∀ z ∈ zs, H z.1 = some (.tup [.int (z.2.1 : Int), .int (z.2.2 : Int)])) → (zs.map (·.2)).Pairwise (fun e f => e.1 * 64 + e.2 ≤ f.1 * 64 + f.2) → H p = none → Q (.ref p) (upd H p (.lst (zs.map fun z => V.ref z.1)))
theorem cr_sortDT {X : Cx} (hc : X.calm = true) : CallR X (.builtin "sorted") rSortDT := by
  intro pins s σ H xs us Q I r h
  obtain ⟨d, kvs, es0, rfl, hd, hks, h64, hB, q⟩ := h
  obtain ⟨u, rfl, rx⟩ := r.one
  cases rx
  obtain ⟨z, hs, ks, pr, o, es, ep, ho, hx, hdt, he, hn⟩ := (show ObjOk X.prog X.w H s.heap d (.dT kvs) from I.hok _ _ hd)
  have l1 : es.size = ks.length := size_of_entries he
  have l2 : kvs.length = ks.length := Paired.length pr
  have l3 : kvs.length = es0.length := by
    have e := congrArg List.length hks
    rw [List.length_map, List.length_map] at e
    exact e
  refine Calls.call_function_entry PyProof.Rows.kind_sorted PyProof.Rows.plain_sorted PyProof.Rows.entry_sorted (PyProof.Rows.args_sorted1 _) ?_
  unfold Builtin.«sorted»
  refine wpAny_bind (m := checkCount "sorted" 1 1 _) (wpAny_pure ?_)
  refine wpAny_bind (PySem.W.kdu_collect (A := X.A.in1) (kdl_raw hs hx hdt) (I.ok.hd hc) ho (by omega) fun h' tk acc' kp it => ?_)
  have ea : acc'.toList = ks.map fun x => Value.ref x.2.1 := by
    have hl : acc'.toList.length = ks.length := by rw [Array.length_toList, it.1]; exact l1
    apply List.ext_getElem?
    intro j
    rw [List.getElem?_map]
    cases hj : acc'.toList[j]? with
    | none =>
      have h1 := List.getElem?_eq_none_iff.mp hj
      rw [List.getElem?_eq_none (by omega)]
      all_goals rfl
    | some v =>
      obtain ⟨en, hen, hv⟩ := it.2 j v (by rw [← Array.getElem?_toList]; exact hj)
      have qe := entry_at he j
      rw [hen] at qe
      cases hb : ks[j]? with
      | none =>
        rw [hb] at qe
        exact nomatch (show some en = none from qe)
      | some b =>
        rw [hb] at qe
        have e2 : en = entryOfKey (tupleKind (mixKind X.prog X.w)) b := Option.some.inj qe
        rw [hv, e2]
        all_goals rfl
  have ml : (ks.map fun x => x.2.1).length = es0.length := by rw [List.length_map]; omega
  have eL : (((ks.map fun x => x.2.1).zip es0).map fun z => Value.ref z.1) = acc'.toList := by
    rw [ea]
    have : (((ks.map fun x => x.2.1).zip es0).map fun z => Value.ref z.1) = (((ks.map fun x => x.2.1).zip es0).map Prod.fst).map Value.ref := by
      rw [List.map_map]; rfl
    rw [this, List.map_fst_zip (by omega), List.map_map]
    all_goals rfl
  have e2 : ((ks.map fun x => x.2.1).zip es0).map (·.2) = es0 := List.map_snd_zip (by omega)
  have at_ : ∀ z ∈ (ks.map fun x => x.2.1).zip es0, z.2 ∈ es0 ∧ H z.1 = some (.tup [.int (z.2.1 : Int), .int (z.2.2 : Int)]) := by
    intro z hz
    obtain ⟨j, hj⟩ := List.mem_iff_getElem?.mp hz
    obtain ⟨h1, h2⟩ := List.getElem?_zip_eq_some.mp hj
    refine ⟨List.mem_of_getElem? h2, ?_⟩
    rw [List.getElem?_map] at h1
    cases hk : ks[j]? with
    | none => rw [hk] at h1; cases h1
    | some x =>
      rw [hk] at h1
      have ex : x.2.1 = z.1 := Option.some.inj h1
      obtain ⟨p0, hp0, r1, r2, r3⟩ := cl_pget pr hk
      have e4 : (kvs.map (·.1))[j]? = some p0.1 := by rw [List.getElem?_map, hp0]; rfl
      rw [hks, List.getElem?_map, h2] at e4
      have e5 := Option.some.inj e4
      rw [← ex, r2, ← e5]
      rfl
  have I1 : Inv X pins σ H { s with heap := h', toks := tk } := I.kept kp
  refine wpAny_bind (wpAny_newList ?_ (by rw [← eL, List.length_map, List.length_zip, sizeLine_eq]; omega))
  have hoL : (h'.push (seqObj "list" acc'.toList.toArray 0)).get? h'.objs.size = some (seqObj "list" acc'.toList.toArray 0) := Heap.get?_push_size _ rfl
  have I2 : Inv X pins σ H { s with heap := h'.push (seqObj "list" acc'.toList.toArray 0), toks := tk } := I.kept fun b u e => Heap.get?_push_of_some _ (kp b u e)
  have hv64 : acc'.toList.length < 64 := by rw [← eL, List.length_map, List.length_zip]; omega
  have tints : ∀ z ∈ (ks.map fun x => x.2.1).zip es0, TS.TupInts (h'.push (seqObj "list" acc'.toList.toArray 0)) (.ref z.1) [(z.2.1 : Int), (z.2.2 : Int)] := fun z hz => tupI_raw I2 (SqT.of (at_ z hz).2)
  have bd : TS.TupsOk (h'.push (seqObj "list" acc'.toList.toArray 0)) 2 64 acc'.toList := fun v hv => by
    rw [← eL] at hv
    obtain ⟨z, hz, rfl⟩ := List.mem_map.mp hv
    refine ⟨_, tints z hz, rfl, ?_⟩
    have := hB z.2 (at_ z hz).1
    intro k hk
    have : k = (z.2.1 : Int) ∨ k = (z.2.2 : Int) := by simpa using hk
    omega
  show wpAny _ _ _ _ _ { s with heap := h'.push (seqObj "list" acc'.toList.toArray 0), toks := tk }
  refine wpAny_bind (wpAny_holding (TS.call_sort_tups (s := { s with heap := h'.push (seqObj "list" acc'.toList.toArray 0), toks := tk }) hoL hv64 (by decide) bd fun out a1 a2 => ?_))
  obtain ⟨zs, pz, ez⟩ := perm_lift (fun z : Addr × Nat × Nat => Value.ref z.1) a1 ((ks.map fun x => x.2.1).zip es0) eL
  obtain ⟨e', he'⟩ := PyProof.Rows.sortedHeap_at (vs := acc'.toList) (out := out) hoL
  have hzl : zs.length = es0.length := by rw [pz.length_eq, List.length_zip]; omega
  refine wpAny_pure ⟨_, rfl, .ref h'.objs.size, upd H h'.objs.size (.lst (zs.map fun z => V.ref z.1)), I1.laid (t' := tk) (fun b u e => ?_) (Nat.le_refl _)
    (show ObjOk X.prog X.w _ _ _ (.lst (zs.map fun z => V.ref z.1)) from ⟨by rw [List.length_map, sizeLine_eq]; omega, out.toList, e', ?_, by rw [Array.toArray_toList]; exact he'⟩), rfl, q zs _ ?_ (fun z hz => (at_ z (pz.mem_iff.mp hz)).2) ?_ (I1.hok.fresh (Nat.le_refl _))⟩
  · have hb : b < h'.objs.size := Heap.lt_size e
    rw [PyProof.Rows.sortedHeap_old (Nat.ne_of_lt hb) (by rw [size_push']; exact Nat.lt_succ_of_lt hb)]
    exact Heap.get?_push_of_some _ e
  · rw [← ez]
    have : ∀ l : List (Addr × Nat × Nat), Vals (l.map fun z => V.ref z.1) (l.map fun z => Value.ref z.1) := by
      intro l
      induction l with
      | nil => exact .nil
      | cons a l ih => exact .cons rfl ih
    exact this zs
  · have := pz.map (·.2)
    rw [e2] at this
    exact this
  · rw [← ez, List.pairwise_map] at a2
    rw [List.pairwise_map]
    refine List.Pairwise.imp_of_mem (fun {x y} hx hy h => ?_) a2
    have h1 := (tints x (pz.mem_iff.mp hx)).ints
    have h2 := (tints y (pz.mem_iff.mp hy)).ints
    rw [h1, h2, code_pair, code_pair] at h
    omega
end L2
namespace HT
open PySem PySem.Spec PyProof.Rows
section
variable {prog : Program} {w : World} {A : Around} {E : Value → Shared → Prop} {s : Shared}
/-- t[::-1] of a tuple of two -/
theorem cl_tuple_rev {t sl : Addr} {u v vs : Value} {Q : Value → Shared → Prop} (ht : IsTup s.heap t #[u, v]) (hs : s.heap.IsSliceOf sl .none .none vs) (ps : IsPart vs (some (-1)))
    (h : Q (.ref s.heap.objs.size) { s with heap := s.heap.push { cls := .type "tuple", data := .seq #[v, u] } }) : wpAny (model prog w) A (getItem (.ref t) (.ref sl)) Q E s := by
  obtain ⟨os, hos, hcs, hds⟩ := id hs
  have hTs : s.TypeIs (.ref sl) "slice" := ⟨os, hos, hcs⟩
  unfold getItem
  try with_reducible refine wpAny_holding ?_
  first | refine wpAny_bind (wpAny_pure ?_) | skip
  refine wpAny_bind (wpAny_sequenceKey ht.typeIs (by decide) ?_)
  refine wpAny_bind (wpAny_callSpecial?_slot (name := Str.ofString "__getitem__") ht.typeIs PyProof.Rows.slot_tuple_getitem
    (wpAny_call_entry PyProof.Rows.slot_tuple_getitem ht.typeIs entry_tuple_getitem ?_ (args_tuple_getitem _ _)))
  show wpAny _ _ (Builtin.Tuple.tupleItemsOf (.ref t) >>= _) _ _ s
  refine wpAny_bind (tupleItemsOf_ ht ?_)
  refine wpAny_bind (wpAny_typeOf hTs ?_)
  rw [if_pos (by decide)]
  have hsl : ∀ {R : Int × Int × Nat → Shared → Prop}, R (1, -1, 2) s → wpAny (model prog w) A.in1 (Builtin.Slice.sliceApplied (.ref sl) (pure ((#[u, v] : Array Value).size : Int))) R E s := fun {R} q => by
    unfold Builtin.Slice.sliceApplied Builtin.Slice.sliceFields
    refine wpAny_bind (wpAny_bind (wpAny_field hos hds (x := .none) rfl (wpAny_bind (wpAny_field hos hds (x := .none) rfl (wpAny_bind (wpAny_field hos hds (x := vs) rfl (wpAny_pure ?_)))))))
    refine wpAny_bind (slicePart_ ps ?_)
    show wpAny _ _ (if ((-1 : Int) == 0) = true then _ else _) _ _ s
    rw [if_neg (by decide)]
    refine wpAny_bind (slicePart_none (wpAny_bind (slicePart_none (wpAny_bind (wpAny_pure ?_)))))
    exact wpAny_pure (by simpa [Builtin.Slice.slicePlaces] using q)
  refine wpAny_bind (hsl ?_)
  show wpAny (model prog w) A.in1 (if ((1 : Int) == 0 && (-1 : Int) == 1 && (2 : Nat) == (#[u, v] : Array Value).size) = true then _ else (Builtin.Tuple.tupleExact (List.filterMap (fun (k : Nat) => (#[u, v] : Array Value)[((1 : Int) + (k : Int) * (-1)).toNat]?) (List.range 2)).toArray >>= _)) _ _ s
  rw [if_neg (fun z => Bool.noConfusion (show false = true from z) : ¬ (((1 : Int) == 0 && (-1 : Int) == 1 && (2 : Nat) == (#[u, v] : Array Value).size) = true))]
  have ev : (List.filterMap (fun (k : Nat) => (#[u, v] : Array Value)[((1 : Int) + (k : Int) * (-1)).toNat]?) (List.range 2)).toArray = #[v, u] := rfl
  rw [ev]
  have hz : sizeOk (.seq (#[v, u] : Array Value)) := by show (2 : Nat) ≤ sizeLine; decide
  first
    | exact wpAny_bind (m := Builtin.Tuple.tupleExact _) (wpAny_newObj_type (wpAny_pure ⟨_, rfl, wpAny_pure h⟩) hz)
    | exact wpAny_bind (m := Builtin.Tuple.tupleExact _) (wpAny_newObj_type (wpAny_bind (wpAny_pure (wpAny_pure ⟨_, rfl, wpAny_pure h⟩))) hz)
    | exact wpAny_bind (wpAny_bind (m := Builtin.Tuple.tupleExact _) (wpAny_newObj_type (wpAny_pure (wpAny_pure ⟨_, rfl, wpAny_pure h⟩)) hz))
    | exact wpAny_bind (wpAny_bind (m := Builtin.Tuple.tupleExact _) (wpAny_newObj_type (wpAny_pure ⟨_, rfl, wpAny_pure h⟩) hz))
end
end HT
namespace L2
open PySem PySem.Spec PyProof.Rows
def tRevT (K : PySem.W.Frag) (te : TE) : TE := fun σ H Q => te σ H fun x H1 => ∃ a y z, x = .ref a ∧ SqT K H1 a [y, z] ∧ ∀ p, H1 p = none → Q (.ref p) (upd H1 p (.tup [z, y]))
theorem pe_revT {X : Cx} {e : Expr} {te : TE} {k : Nat} {p1 p2 p3 pos : Pos} (he : PE X e te) : PE X (.Subscript e (.Slice none none (some (.UnaryOp .USub (.Constant (.int 1) k p1) p2)) p3) pos) (tRevT X.K te) := by
  refine ⟨fun pins s σ H Q I h => ?_⟩
  refine Subscript_ (thn (he.run pins s σ H _ I h) fun v s1 ⟨x, H1, I1, r1, q1⟩ => ?_)
  obtain ⟨a, y, z, ex, hx, q⟩ := q1
  subst ex
  cases r1
  have hst : PO X (some (.UnaryOp .USub (.Constant (.int 1) k p1) p2)) (tPart (tUn (rU fun i => .int (-i)) (tC (.int 1)))) := po_some (pe_un un_neg pe_int)
  refine wpAny_Slice (thn (po_none.run pins s1 σ H1 (fun o H2 => o = none ∧ H2 = H1) I1 ⟨rfl, rfl⟩) fun vl s2 ⟨l, H2, I2, pl, el, e2⟩ => ?_)
  subst el e2
  refine thn (po_none.run pins s2 σ H2 (fun o H3 => o = none ∧ H3 = H2) I2 ⟨rfl, rfl⟩) fun vu s3 ⟨u, H3, I3, pu, eu, e3⟩ => ?_
  subst eu e3
  refine thn (hst.run pins s3 σ H3 (fun o H4 => o = some (-1) ∧ H4 = H3) I3 ⟨1, rfl, -1, rfl, rfl, rfl⟩) fun vs s4 ⟨o, H4, I4, ps, eo, e4⟩ => ?_
  subst eo e4
  have I5 : Inv X pins σ H4 { s4 with heap := s4.heap.push { cls := .type "slice", data := .fields #[vl, vu, vs] } } := I4.kept (t' := s4.toks) fun b ob q => Heap.get?_push_of_some _ q
  obtain ⟨its, r, ht, hz⟩ := I5.tuple hx
  cases pl
  cases pu
  cases r with
  | cons ry rr =>
    cases rr with
    | cons rz rn =>
      cases rn
      show wpAny (model X.prog X.w) X.A (subscriptTail e (.Slice none none (some (.UnaryOp .USub (.Constant (.int 1) k p1) p2)) p3) (.ref a) (.ref s4.heap.objs.size)) (EP X pins σ Q) X.xe { s4 with heap := s4.heap.push { cls := .type "slice", data := .fields #[.none, .none, vs] } }
      refine tail_any (ops := [.ref a, .ref s4.heap.objs.size]) (IsTup.typeIs ht) (PyProof.Rows.slot_tuple_getitem.lookup) ?_ (by with_unfolding_all rfl)
      refine HT.cl_tuple_rev ht (Heap.IsSliceOf.new _ .none .none vs) ps ?_
      refine ⟨.ref _, _, I5.laid (t' := s4.toks) (o := .tup [z, y]) (fun b ob q => Heap.get?_push_of_some _ q) (Nat.le_refl _) ?_, rfl, q _ (I5.hok.fresh (Nat.le_refl _))⟩
      exact ⟨by show 2 ≤ sizeLine; decide, _, .cons rz (.cons ry .nil), ⟨_, Heap.get?_push_size _ rfl, rfl, 0, rfl⟩⟩
end L2

set_option Elab.async false
set_option linter.all false
set_option maxRecDepth 100000
set_option maxHeartbeats 2000000
/-! the text by its places, the scopes, what the top leaves of the builtins -/
namespace Cl
open PySem PySem.Spec PyProof.Rows L2
def topS (i : Nat) : Stmt := PySem.Challenge.pw_shavenets_k26_whole_climbs.main.body.getD i (.Pass ⟨0, 0, 0, 0⟩)
abbrev s_whole : Stmt := topS 9
abbrev N_whole : List Str := ["value"]
abbrev P_whole : List Str := ["value"]
theorem sc_whole : FnScope N_whole P_whole (defScope s_whole) := ⟨rfl, rfl, rfl, by decide +kernel, rfl, by decide +kernel, by decide +kernel⟩
abbrev s_within : Stmt := topS 10
abbrev N_within : List Str := ["value", "low", "high"]
abbrev P_within : List Str := ["value", "low", "high"]
theorem sc_within : FnScope N_within P_within (defScope s_within) := ⟨rfl, rfl, rfl, by decide +kernel, rfl, by decide +kernel, by decide +kernel⟩
abbrev s_tuple_of : Stmt := topS 11
abbrev N_tuple_of : List Str := ["value", "low", "high"]
abbrev P_tuple_of : List Str := ["value", "low", "high"]
theorem sc_tuple_of : FnScope N_tuple_of P_tuple_of (defScope s_tuple_of) := ⟨rfl, rfl, rfl, by decide +kernel, rfl, by decide +kernel, by decide +kernel⟩
abbrev s_need_net : Stmt := topS 12
abbrev N_need_net : List Str := ["net", "index", "pair", "point"]
abbrev P_need_net : List Str := ["net"]
theorem sc_need_net : FnScope N_need_net P_need_net (defScope s_need_net) := ⟨rfl, rfl, rfl, by decide +kernel, rfl, by decide +kernel, by decide +kernel⟩
abbrev s_need_row : Stmt := topS 13
abbrev N_need_row : List Str := ["net", "row", "index", "height"]
abbrev P_need_row : List Str := ["net", "row"]
theorem sc_need_row : FnScope N_need_row P_need_row (defScope s_need_row) := ⟨rfl, rfl, rfl, by decide +kernel, rfl, by decide +kernel, by decide +kernel⟩
abbrev s_need_both : Stmt := topS 14
abbrev N_need_both : List Str := ["net", "row"]
abbrev P_need_both : List Str := ["net", "row"]
theorem sc_need_both : FnScope N_need_both P_need_both (defScope s_need_both) := ⟨rfl, rfl, rfl, by decide +kernel, rfl, by decide +kernel, by decide +kernel⟩
abbrev s_need_point : Stmt := topS 15
abbrev N_need_point : List Str := ["net", "point"]
abbrev P_need_point : List Str := ["net", "point"]
theorem sc_need_point : FnScope N_need_point P_need_point (defScope s_need_point) := ⟨rfl, rfl, rfl, by decide +kernel, rfl, by decide +kernel, by decide +kernel⟩
abbrev s_near_of : Stmt := topS 17
abbrev N_near_of : List Str := ["net", "found", "one", "other", "point", "points"]
abbrev P_near_of : List Str := ["net"]
theorem sc_near_of : FnScope N_near_of P_near_of (defScope s_near_of) := ⟨rfl, rfl, rfl, by decide +kernel, rfl, by decide +kernel, by decide +kernel⟩
abbrev s_reach : Stmt := topS 18
abbrev N_reach : List Str := ["near", "start", "kept", "found", "rim", "here", "point"]
abbrev P_reach : List Str := ["near", "start", "kept"]
theorem sc_reach : FnScope N_reach P_reach (defScope s_reach) := ⟨rfl, rfl, rfl, by decide +kernel, rfl, by decide +kernel, by decide +kernel⟩
abbrev s_parts_of : Stmt := topS 19
abbrev N_parts_of : List Str := ["near", "kept", "left", "found", "part", "point"]
abbrev P_parts_of : List Str := ["near", "kept"]
theorem sc_parts_of : FnScope N_parts_of P_parts_of (defScope s_parts_of) := ⟨rfl, rfl, rfl, by decide +kernel, rfl, by decide +kernel, by decide +kernel⟩
abbrev s_above : Stmt := topS 21
abbrev N_above : List Str := ["near", "row", "level", "point"]
abbrev P_above : List Str := ["near", "row", "level"]
theorem sc_above : FnScope N_above P_above (defScope s_above) := ⟨rfl, rfl, rfl, by decide +kernel, rfl, by decide +kernel, by decide +kernel⟩
abbrev s_pass_of : Stmt := topS 22
abbrev N_pass_of : List Str := ["near", "row", "one", "other", "level", "height", "part"]
abbrev P_pass_of : List Str := ["near", "row", "one", "other"]
theorem sc_pass_of : FnScope N_pass_of P_pass_of (defScope s_pass_of) := ⟨rfl, rfl, rfl, by decide +kernel, rfl, by decide +kernel, by decide +kernel⟩
abbrev s_need_ends : Stmt := topS 24
abbrev N_need_ends : List Str := ["net", "row", "one", "other", "near", "point"]
abbrev P_need_ends : List Str := ["net", "row", "one", "other"]
theorem sc_need_ends : FnScope N_need_ends P_need_ends (defScope s_need_ends) := ⟨rfl, rfl, rfl, by decide +kernel, rfl, by decide +kernel, by decide +kernel⟩
abbrev s_climb_of : Stmt := topS 25
abbrev N_climb_of : List Str := ["near", "row", "start", "found", "done", "here", "point", "told"]
abbrev P_climb_of : List Str := ["near", "row", "start"]
theorem sc_climb_of : FnScope N_climb_of P_climb_of (defScope s_climb_of) := ⟨rfl, rfl, rfl, by decide +kernel, rfl, by decide +kernel, by decide +kernel⟩
abbrev s_least_climb : Stmt := topS 26
abbrev N_least_climb : List Str := ["net", "row", "one", "other", "near"]
abbrev P_least_climb : List Str := ["net", "row", "one", "other"]
theorem sc_least_climb : FnScope N_least_climb P_least_climb (defScope s_least_climb) := ⟨rfl, rfl, rfl, by decide +kernel, rfl, by decide +kernel, by decide +kernel⟩
abbrev s_least_rise : Stmt := topS 27
abbrev N_least_rise : List Str := ["net", "row", "one", "other", "near", "height"]
abbrev P_least_rise : List Str := ["net", "row", "one", "other"]
theorem sc_least_rise : FnScope N_least_rise P_least_rise (defScope s_least_rise) := ⟨rfl, rfl, rfl, by decide +kernel, rfl, by decide +kernel, by decide +kernel⟩
abbrev s_least_step : Stmt := topS 28
abbrev N_least_step : List Str := ["net", "row", "one", "other", "near", "found", "rim", "here", "point", "told"]
abbrev P_least_step : List Str := ["net", "row", "one", "other"]
theorem sc_least_step : FnScope N_least_step P_least_step (defScope s_least_step) := ⟨rfl, rfl, rfl, by decide +kernel, rfl, by decide +kernel, by decide +kernel⟩
abbrev s_rising : Stmt := topS 29
abbrev N_rising : List Str := ["net", "row", "one", "other", "near"]
abbrev P_rising : List Str := ["net", "row", "one", "other"]
theorem sc_rising : FnScope N_rising P_rising (defScope s_rising) := ⟨rfl, rfl, rfl, by decide +kernel, rfl, by decide +kernel, by decide +kernel⟩
abbrev s_law_taken : Stmt := topS 31
abbrev N_law_taken : List Str := ["_law_row", "_law_many", "_law_found", "_law_cell"]
abbrev P_law_taken : List Str := ["_law_row", "_law_many"]
theorem sc_law_taken : FnScope N_law_taken P_law_taken (defScope s_law_taken) := ⟨rfl, rfl, rfl, by decide +kernel, rfl, by decide +kernel, by decide +kernel⟩
abbrev s_law_net : Stmt := topS 32
abbrev N_law_net : List Str := ["_law_row", "_law_most", "_law_many", "_law_joins", "_law_point", "_law_other", "_law_turn", "_law_one"]
abbrev P_law_net : List Str := ["_law_row", "_law_most"]
theorem sc_law_net : FnScope N_law_net P_law_net (defScope s_law_net) := ⟨rfl, rfl, rfl, by decide +kernel, rfl, by decide +kernel, by decide +kernel⟩
abbrev s_law_pick : Stmt := topS 33
abbrev N_law_pick : List Str := ["_law_row", "_law_things"]
abbrev P_law_pick : List Str := ["_law_row", "_law_things"]
theorem sc_law_pick : FnScope N_law_pick P_law_pick (defScope s_law_pick) := ⟨rfl, rfl, rfl, by decide +kernel, rfl, by decide +kernel, by decide +kernel⟩
abbrev s_law_heights : Stmt := topS 34
abbrev N_law_heights : List Str := ["_law_row", "_law_many", "_law_top", "_law_lift", "_law_point"]
abbrev P_law_heights : List Str := ["_law_row", "_law_many", "_law_top"]
theorem sc_law_heights : FnScope N_law_heights P_law_heights (defScope s_law_heights) := ⟨rfl, rfl, rfl, by decide +kernel, rfl, by decide +kernel, by decide +kernel⟩
abbrev s_law_crossings : Stmt := topS 35
abbrev N_law_crossings : List Str := ["_law_net_here", "_law_heights_here", "_law_many", "_law_best", "_law_one", "_law_other", "_law_mid", "_law_told"]
abbrev P_law_crossings : List Str := ["_law_net_here", "_law_heights_here"]
theorem sc_law_crossings : FnScope N_law_crossings P_law_crossings (defScope s_law_crossings) := ⟨rfl, rfl, rfl, by decide +kernel, rfl, by decide +kernel, by decide +kernel⟩
abbrev s_law_down : Stmt := topS 36
abbrev N_law_down : List Str := ["_law_heights_here", "_law_height"]
abbrev P_law_down : List Str := ["_law_heights_here"]
theorem sc_law_down : FnScope N_law_down P_law_down (defScope s_law_down) := ⟨rfl, rfl, rfl, by decide +kernel, rfl, by decide +kernel, by decide +kernel⟩
abbrev s_law_alike : Stmt := topS 37
abbrev N_law_alike : List Str := ["_law_found", "_law_due", "_law_k"]
abbrev P_law_alike : List Str := ["_law_found", "_law_due"]
theorem sc_law_alike : FnScope N_law_alike P_law_alike (defScope s_law_alike) := ⟨rfl, rfl, rfl, by decide +kernel, rfl, by decide +kernel, by decide +kernel⟩
abbrev s_law : Stmt := topS 38
abbrev N_law : List Str := ["_law_script", "_law_row", "_law_net_here", "_law_many", "_law_heights_here", "_law_big", "_law_climbs", "_law_steps", "_law_one", "_law_other", "_law_mid", "_law_down_here", "_law_found", "_law_work", "_law_due", "_law_pair"]
abbrev P_law : List Str := ["_law_script"]
theorem sc_law : FnScope N_law P_law (defScope s_law) := ⟨rfl, rfl, rfl, by decide +kernel, rfl, by decide +kernel, by decide +kernel⟩
def lcScope (st : Stmt) (i : Nat) : Scope := match (defBody st).getD i (.Pass ⟨0, 0, 0, 0⟩) with
  | .Assign _ (.ListComp _ _ sc _) _ => sc
  | _ => defScope st
section
variable {X : Cx} {K : PySem.W.Frag}
theorem ixT (h : X.K = K := by rfl) : IxR X (rIxT K) := by subst h; exact ix_tup
theorem ixL (h : X.K = K := by rfl) : IxR X (rIxL K) := by subst h; exact ix_list
theorem opIn (h : X.K = K := by rfl) : OpR X (compareOp .In) (rIn K false) := by subst h; exact op_in_seq
theorem opNotIn (h : X.K = K := by rfl) : OpR X (compareOp .NotIn) (rIn K true) := by subst h; exact op_notIn_seq
theorem peRevT {e : Expr} {te : TE} {k : Nat} {p1 p2 p3 pos : Pos} (he : PE X e te) (h : X.K = K := by rfl) : PE X (.Subscript e (.Slice none none (some (.UnaryOp .USub (.Constant (.int 1) k p1) p2)) p3) pos) (tRevT K te) := by subst h; exact pe_revT he
theorem srtI (h : X.K = K := by rfl) : CallR X (.builtin "sorted") (rSortedI K) := by subst h; exact cr_sortedI
theorem lenS (h : X.K = K := by rfl) : CallR X (.builtin "len") (fun xs H Q => ∃ p ys, xs = [.ref p] ∧ (SqL K H p ys ∨ SqT K H p ys) ∧ Q (.int ys.length) H) := by subst h; exact call_len_seq
theorem piList {tg l : Expr} {tl : TE} (hl : PE X l tl) (h : X.K = K := by rfl) : PI X tg l (iList K tl) := by subst h; exact pi_list hl
theorem piTup {tg l : Expr} {tl : TE} (hl : PE X l tl) (h : X.K = K := by rfl) : PI X tg l (iTup K tl) := by subst h; exact pi_tup hl
end
/-- the builtins' names are free, the constants stand -/
structure Bt (mg : Str → Option Value) : Prop where
  range : mg "range" = none
  enumerate : mg "enumerate" = none
  len : mg "len" = none
  max : mg "max" = none
  min : mg "min" = none
  abs : mg "abs" = none
  sorted : mg "sorted" = none
  tuple : mg "tuple" = none
  int : mg "int" = none
  list : mg "list" = none
  bool : mg "bool" = none
  str : mg "str" = none
  any : mg "any" = none
  all : mg "all" = none
  isinstance : mg "isinstance" = none
  mp : ∃ t, mg "MOST_POINTS" = some (.int 12 t)
  mh : ∃ t, mg "MOST_HEIGHT" = some (.int 99 t)
end Cl

set_option Elab.async false
set_option linter.all false
set_option maxRecDepth 100000
set_option maxHeartbeats 2000000
/-! what stands in the heap, and the defs' promises -/
namespace Cl
open PySem PySem.Spec PyProof.Rows L2
/-! ### heaps -/
def Keep (l : Addr) (H H' : Hp) : Prop := ∀ b o, b ≠ l → H b = some o → H' b = some o
theorem Keep.refl (l : Addr) (H : Hp) : Keep l H H := fun _ _ _ h => h
theorem Keep.trans {l : Addr} {H H1 H2 : Hp} (a : Keep l H H1) (b : Keep l H1 H2) : Keep l H H2 := fun c o n h => b c o n (a c o n h)
theorem keep_upd {l : Addr} {H : Hp} {o : HO} : Keep l H (upd H l o) := fun b o n h => by rw [upd_ne n]; exact h
theorem Keep.of_same {l : Addr} {H H' : Hp} (s : Same H H') : Keep l H H' := fun b o _ h => s b o h
theorem same_new {H : Hp} {p : Addr} {o : HO} (h : H p = none) : Same H (upd H p o) := fun b x e => by
  rw [upd_ne (ne_of_none e h)]
  exact e
theorem Keep.new {l : Addr} {H : Hp} {p : Addr} {o : HO} (h : H p = none) : Keep l H (upd H p o) := Keep.of_same (same_new h)
/-- a thing that was not there is written over -/
theorem same_over {H H1 : Hp} {p : Addr} {o : HO} (s : Same H H1) (h : H p = none) : Same H (upd H1 p o) := fun b x e => by
  rw [upd_ne (ne_of_none e h)]
  exact s b x e
theorem small16 {n : Nat} (h : n ≤ 1000) : n ≤ sizeLine := Nat.le_of_lt (small1000 h)

/-! ### points and lists -/
def pt (k : Nat) : V := .int (k : Int)
def pts (l : List Nat) : List V := l.map pt
theorem pts_get {l : List Nat} {i : Nat} {v : V} (h : (pts l)[i]? = some v) : ∃ k, l[i]? = some k ∧ v = pt k := by
  unfold pts at h
  rw [List.getElem?_map] at h
  cases e : l[i]? with
  | none => rw [e] at h; cases h
  | some k => rw [e] at h; exact ⟨k, rfl, (Option.some.inj h).symm⟩
theorem pts_at {l : List Nat} {i k : Nat} (h : l[i]? = some k) : (pts l)[i]? = some (pt k) := by
  unfold pts
  rw [List.getElem?_map, h]
  rfl
theorem pts_len (l : List Nat) : (pts l).length = l.length := List.length_map ..
theorem ints_get {l : List Int} {i : Nat} {v : V} (h : (l.map V.int)[i]? = some v) : ∃ k, l[i]? = some k ∧ v = .int k := by
  rw [List.getElem?_map] at h
  cases e : l[i]? with
  | none => rw [e] at h; cases h
  | some k => rw [e] at h; exact ⟨k, rfl, (Option.some.inj h).symm⟩
theorem ints_at {l : List Int} {i : Nat} {k : Int} (h : l[i]? = some k) : (l.map V.int)[i]? = some (.int k) := by
  rw [List.getElem?_map, h]
  rfl
theorem refs_get {l : List Addr} {i : Nat} {v : V} (h : (l.map V.ref)[i]? = some v) : ∃ a, l[i]? = some a ∧ v = .ref a := by
  rw [List.getElem?_map] at h
  cases e : l[i]? with
  | none => rw [e] at h; cases h
  | some k => rw [e] at h; exact ⟨k, rfl, (Option.some.inj h).symm⟩
theorem refs_at {l : List Addr} {i : Nat} {a : Addr} (h : l[i]? = some a) : (l.map V.ref)[i]? = some (.ref a) := by
  rw [List.getElem?_map, h]
  rfl
theorem take_snoc {α : Type} {l : List α} {i : Nat} {x : α} (h : l[i]? = some x) : l.take (i + 1) = l.take i ++ [x] := by
  rw [List.take_add_one, h]
  rfl
theorem get_lt {α : Type} {l : List α} {i : Nat} {x : α} (h : l[i]? = some x) : i < l.length := (List.getElem?_eq_some_iff.mp h).1
theorem get_some {α : Type} {l : List α} {i : Nat} (h : i < l.length) : ∃ x, l[i]? = some x := ⟨l[i], List.getElem?_eq_getElem h⟩
theorem walk_rng {n : Nat} : Walk (Itr 0 n) n (fun _ => True) (YFn pt) := walk_range.mono (fun _ h => h) fun i H x H' _ _ y => ⟨y.1, by
  rw [y.2]
  show V.int (0 + (i : Int)) = V.int (i : Int)
  rw [Int.zero_add]⟩
/-- a list of points is not empty -/
theorem nonempty_rd {K : PySem.W.Frag} {H : Hp} {a q : Addr} {l : List Nat} (h : H a = some (.lst (pts l))) (hq : H q = some (.lst [])) :
    ∃ d e, Dp K H (.ref a) d ∧ Dp K H (.ref q) e ∧ SeqAt.shaped d = true ∧ SeqAt.shaped e = true ∧ (!PyData.eqv d e) = !l.isEmpty := by
  have all : ∀ l : List Nat, DpAll K H (pts l) ((l.map fun (k : Nat) => (k : Int)).map PyData.int) := by
    intro l
    induction l with
    | nil => exact .nil
    | cons a l ih => exact .cons (.int _) ih
  refine ⟨_, _, .lst (SqL.of h) (all l), .lst (SqL.of hq) .nil, PySem.W.shaped_ints _, PySem.W.shaped_ints [], ?_⟩
  cases l with
  | nil => rfl
  | cons a l => rfl

/-! ### nets -/
def J (es : List (Nat × Nat)) (i j : Nat) : Prop := (i, j) ∈ es ∨ (j, i) ∈ es
theorem J.symm {es : List (Nat × Nat)} (i j : Nat) (h : J es i j) : J es j i := h.elim .inr .inl
structure GoodNet (n : Nat) (es : List (Nat × Nat)) : Prop where
  pos : 1 ≤ n
  le : n ≤ 9
  len : es.length ≤ 60
  lt : ∀ e ∈ es, e.1 < e.2 ∧ e.2 < n
  asc : es.Pairwise fun e f => e.1 < f.1 ∨ (e.1 = f.1 ∧ e.2 < f.2)
theorem GoodNet.J_lt {n : Nat} {es : List (Nat × Nat)} (g : GoodNet n es) : ∀ i j, J es i j → i < n ∧ j < n ∧ i ≠ j := fun i j h => by
  rcases h with h | h
  · have := g.lt _ h
    simp only at this
    omega
  · have := g.lt _ h
    simp only at this
    omega
/-- the net at p -/
def NetAt (H : Hp) (p : Addr) (n : Nat) (es : List (Nat × Nat)) : Prop :=
  ∃ (q : Addr) (as : List Addr), H p = some (.tup [pt n, .ref q]) ∧ H q = some (.tup (as.map V.ref)) ∧ as.length = es.length ∧ ∀ (i : Nat) (a : Addr) (e : Nat × Nat), as[i]? = some a → es[i]? = some e → H a = some (.tup [pt e.1, pt e.2])
def RowAt (H : Hp) (r : Addr) (hs : List Int) : Prop := H r = some (.tup (hs.map V.int))
def GoodRow (n : Nat) (hs : List Int) : Prop := hs.length = n ∧ ∀ h ∈ hs, -99 ≤ h ∧ h ≤ 99
/-- the neighbors at p -/
def NearAt (H : Hp) (p : Addr) (adj : List (List Nat)) : Prop :=
  ∃ as : List Addr, H p = some (.lst (as.map V.ref)) ∧ as.length = adj.length ∧ ∀ (i : Nat) (a : Addr) (l : List Nat), as[i]? = some a → adj[i]? = some l → H a = some (.lst (pts l))
def GoodNear (n : Nat) (es : List (Nat × Nat)) (adj : List (List Nat)) : Prop := adj.length = n ∧ ∀ i l, adj[i]? = some l → ∀ j, j ∈ l ↔ J es i j
section
variable {H H' : Hp} {p r l : Addr} {n : Nat} {es : List (Nat × Nat)} {hs : List Int} {adj : List (List Nat)}
theorem NetAt.same (h : NetAt H p n es) (s : Same H H') : NetAt H' p n es := by
  obtain ⟨q, as, h1, h2, h3, h4⟩ := h
  exact ⟨q, as, s _ _ h1, s _ _ h2, h3, fun i a e x y => s _ _ (h4 i a e x y)⟩
theorem NearAt.same (h : NearAt H p adj) (s : Same H H') : NearAt H' p adj := by
  obtain ⟨as, h1, h2, h3⟩ := h
  exact ⟨as, s _ _ h1, h2, fun i a l x y => s _ _ (h3 i a l x y)⟩
theorem RowAt.same (h : RowAt H r hs) (s : Same H H') : RowAt H' r hs := s _ _ h
/-- the law's list changes, no tuple -/
theorem NetAt.keep (h : NetAt H p n es) (s : Keep l H H') {xs : List V} (hl : H l = some (.lst xs)) : NetAt H' p n es := by
  obtain ⟨q, as, h1, h2, h3, h4⟩ := h
  have ne : ∀ a ys, H a = some (.tup ys) → a ≠ l := fun a ys e z => by rw [z, hl] at e; cases e
  exact ⟨q, as, s _ _ (ne _ _ h1) h1, s _ _ (ne _ _ h2) h2, h3, fun i a e x y => s _ _ (ne _ _ (h4 i a e x y)) (h4 i a e x y)⟩
theorem RowAt.keep (h : RowAt H r hs) (s : Keep l H H') {xs : List V} (hl : H l = some (.lst xs)) : RowAt H' r hs := s _ _ (fun z => by rw [RowAt, z, hl] at h; cases h) h
theorem NearAt.at_ (h : NearAt H p adj) {i : Nat} {l : List Nat} (hi : adj[i]? = some l) : ∃ (a : Addr) (as : List Addr), H p = some (.lst (as.map V.ref)) ∧ (as.map V.ref)[i]? = some (.ref a) ∧ H a = some (.lst (pts l)) := by
  obtain ⟨as, h1, h2, h3⟩ := h
  obtain ⟨a, ha⟩ := get_some (l := as) (i := i) (by rw [h2]; exact get_lt hi)
  exact ⟨a, as, h1, refs_at ha, h3 i a l ha hi⟩
end
/-- the height of a point -/
def ht (hs : List Int) (v : Nat) : Int := (hs[v]?).getD 0
theorem ht_at {hs : List Int} {v : Nat} (h : v < hs.length) : hs[v]? = some (ht hs v) := by
  unfold ht
  rw [List.getElem?_eq_getElem h]
  rfl
theorem GoodRow.bd {n : Nat} {hs : List Int} (g : GoodRow n hs) : ∀ i, i < n → -99 ≤ ht hs i ∧ ht hs i ≤ 99 := fun i hi => by
  have h := ht_at (hs := hs) (v := i) (by rw [g.1]; exact hi)
  exact g.2 _ (List.mem_of_getElem? h)

/-- NotJoined, as the top has made it -/
structure NJ (K : PySem.W.Frag) (mg : Str → Option Value) (CN : Addr) : Prop where
  g : mg "NotJoined" = some (.ref CN)
  x : PySem.W.excIn K CN [.type "ValueError", .type "Exception", .type "BaseException", .type "object"] "ValueError.__new__" = true
  k : PySem.W.keepIn K (.ref CN) = true
  b : PySem.W.subIn K (.ref CN) (.type "BaseException") = some true
  t : PySem.W.typeIn K (.ref CN) = some (.type "type")
  e : PySem.W.exmOne K (.ref CN) (.ref CN) = some true

/-! ### promises -/
def spWhole : Sp := fun vs H Q _ => ∃ i : Int, vs = [.int i] ∧ Q (.bl true) H
def spWithin : Sp := fun vs H Q _ => ∃ v lo hi : Int, vs = [.int v, .int lo, .int hi] ∧ lo ≤ v ∧ v ≤ hi ∧ Q (.bl true) H
def spTupleOf : Sp := fun vs H Q _ => ∃ (a : Addr) (xs : List V) (lo hi : Int), vs = [.ref a, .int lo, .int hi] ∧ H a = some (.tup xs) ∧ lo ≤ xs.length ∧ (xs.length : Int) ≤ hi ∧ Q (.bl true) H
def spNeedNet : Sp := fun vs H Q _ => ∃ (p : Addr) (n : Nat) (es : List (Nat × Nat)), vs = [.ref p] ∧ NetAt H p n es ∧ GoodNet n es ∧ ∀ H', Same H H' → Q .non H'
def spNeedRow : Sp := fun vs H Q _ => ∃ (p : Addr) (n : Nat) (es : List (Nat × Nat)) (r : Addr) (hs : List Int), vs = [.ref p, .ref r] ∧ NetAt H p n es ∧ GoodNet n es ∧ RowAt H r hs ∧ GoodRow n hs ∧ ∀ H', Same H H' → Q .non H'
def spNeedPoint : Sp := fun vs H Q _ => ∃ (p : Addr) (n : Nat) (es : List (Nat × Nat)) (k : Nat), vs = [.ref p, pt k] ∧ NetAt H p n es ∧ GoodNet n es ∧ k < n ∧ ∀ H', Same H H' → Q .non H'
def spNearOf : Sp := fun vs H Q _ => ∃ (p : Addr) (n : Nat) (es : List (Nat × Nat)), vs = [.ref p] ∧ NetAt H p n es ∧ GoodNet n es ∧ ∀ H' a adj, Same H H' → NearAt H' a adj → GoodNear n es adj → Q (.ref a) H'
/-- the keys of a dict of points -/
def keysK (ks : List Nat) : List Key := ks.map fun (k : Nat) => Sum.inl (k : Int)
def KeysAt (H : Hp) (d : Addr) (ks : List Nat) : Prop := ∃ kvs : List (Key × V), H d = some (.dK kvs) ∧ kvs.map (·.1) = keysK ks ∧ ks.Nodup ∧ ks.length < 64
def spReach : Sp := fun vs H Q _ => ∃ (p : Addr) (s : Nat) (kd : Addr) (n : Nat) (es : List (Nat × Nat)) (adj : List (List Nat)) (ks : List Nat), vs = [.ref p, pt s, .ref kd] ∧ NearAt H p adj ∧ GoodNear n es adj ∧ GoodNet n es ∧ s < n ∧ KeysAt H kd ks ∧
  ∀ H' t ps, Same H H' → H' t = some (.tup (pts ps)) → (∀ v, v ∈ ps ↔ Jd (J es) (fun v => v ∈ ks) s v) → (∀ v, v ∈ ps → v < n ∧ ∃ m, m < n ∧ Cn (J es) (fun v => v ∈ ks) s m v) → ps.length ≤ 9 → Q (.ref t) H'
/-- a list of tuples of points -/
def PartsAt (H : Hp) (f : Addr) (parts : List (List Nat)) : Prop :=
  ∃ as : List Addr, H f = some (.lst (as.map V.ref)) ∧ as.length = parts.length ∧ ∀ (i : Nat) (a : Addr) (l : List Nat), as[i]? = some a → parts[i]? = some l → H a = some (.tup (pts l))
def GoodParts (es : List (Nat × Nat)) (S : Nat → Prop) (parts : List (List Nat)) : Prop :=
  (∀ ps ∈ parts, ∃ s, S s ∧ ∀ v, v ∈ ps ↔ Jd (J es) S s v) ∧ ∀ k, S k → ∃ ps ∈ parts, k ∈ ps
def spPartsOf : Sp := fun vs H Q _ => ∃ (p kd : Addr) (n : Nat) (es : List (Nat × Nat)) (adj : List (List Nat)) (ks : List Nat), vs = [.ref p, .ref kd] ∧ NearAt H p adj ∧ GoodNear n es adj ∧ GoodNet n es ∧ KeysAt H kd ks ∧ (∀ k ∈ ks, k < n) ∧
  ∀ H' f parts, Same H H' → PartsAt H' f parts → GoodParts es (fun v => v ∈ ks) parts → parts.length ≤ 64 → Q (.ref f) H'
def up (hs : List Int) (level : Int) (v : Nat) : Prop := v < hs.length ∧ level ≤ ht hs v
def spAbove : Sp := fun vs H Q _ => ∃ (p r : Addr) (n : Nat) (es : List (Nat × Nat)) (adj : List (List Nat)) (hs : List Int) (level : Int), vs = [.ref p, .ref r, .int level] ∧ NearAt H p adj ∧ GoodNear n es adj ∧ GoodNet n es ∧ RowAt H r hs ∧ hs.length = n ∧
  ∀ H' f parts, Same H H' → PartsAt H' f parts → GoodParts es (up hs level) parts → parts.length ≤ 64 → Q (.ref f) H'
/-- two points are in one part of what is as high -/
def Both (es : List (Nat × Nat)) (hs : List Int) (one other : Nat) (level : Int) : Prop := level ≤ ht hs one ∧ Jd (J es) (up hs level) one other
def spPassOf : Sp := fun vs H Q _ => ∃ (p r : Addr) (n : Nat) (es : List (Nat × Nat)) (adj : List (List Nat)) (hs : List Int) (one other : Nat), vs = [.ref p, .ref r, pt one, pt other] ∧ NearAt H p adj ∧ GoodNear n es adj ∧ GoodNet n es ∧ RowAt H r hs ∧ hs.length = n ∧ one < n ∧ other < n ∧ Jd (J es) (fun _ => True) one other ∧
  ∀ H' L, Same H H' → Both es hs one other L → (∀ v, v < n → ht hs v > L → ¬ Both es hs one other (ht hs v)) → Q (.int L) H'
/-- the four functions' first rows: CN is NotJoined -/
def spNeedEnds (CN : Addr) : Sp := fun vs H Q E => ∃ (p r : Addr) (n : Nat) (es : List (Nat × Nat)) (hs : List Int) (one other : Nat), vs = [.ref p, .ref r, pt one, pt other] ∧ NetAt H p n es ∧ GoodNet n es ∧ RowAt H r hs ∧ GoodRow n hs ∧ one < n ∧ other < n ∧
  (¬ Jd (J es) (fun _ => True) one other → ∀ H', Same H H' → E (.ref CN) none H') ∧ (∀ H' a adj, Same H H' → NearAt H' a adj → GoodNear n es adj → (∃ m, m < n ∧ Cn (J es) (fun _ => True) one m other) → Q (.ref a) H')
def LeastClimb (n : Nat) (es : List (Nat × Nat)) (hs : List Int) (i j : Nat) (c : Int) : Prop := Least n (J es) (· + ·) zero (climbW (ht hs)) i j c
def LeastStep (n : Nat) (es : List (Nat × Nat)) (hs : List Int) (i j : Nat) (c : Int) : Prop := Least n (J es) max zero (stepW (ht hs)) i j c
def LeastRise (n : Nat) (es : List (Nat × Nat)) (hs : List Int) (i j : Nat) (c : Int) : Prop := Least n (J es) max (ht hs) (riseW (ht hs)) i j c
def spClimbOf : Sp := fun vs H Q _ => ∃ (p r : Addr) (n : Nat) (es : List (Nat × Nat)) (adj : List (List Nat)) (hs : List Int) (s : Nat), vs = [.ref p, .ref r, pt s] ∧ NearAt H p adj ∧ GoodNear n es adj ∧ GoodNet n es ∧ RowAt H r hs ∧ GoodRow n hs ∧ s < n ∧
  ∀ H' d kvs, Same H H' → H' d = some (.dK kvs) → (∀ v, Jd (J es) (fun _ => True) s v → ∃ c, valV kvs (Sum.inl (v : Int)) = some (.int c) ∧ LeastClimb n es hs s v c) → Q (.ref d) H'
/-- one of the four functions: R tells its value -/
def spFour (CN : Addr) (R : Nat → List (Nat × Nat) → List Int → Nat → Nat → V → Prop) : Sp := fun vs H Q E => ∃ (p r : Addr) (n : Nat) (es : List (Nat × Nat)) (hs : List Int) (one other : Nat), vs = [.ref p, .ref r, pt one, pt other] ∧ NetAt H p n es ∧ GoodNet n es ∧ RowAt H r hs ∧ GoodRow n hs ∧ one < n ∧ other < n ∧
  (¬ Jd (J es) (fun _ => True) one other → ∀ H', Same H H' → E (.ref CN) none H') ∧ (∀ H' v, Same H H' → (∃ m, m < n ∧ Cn (J es) (fun _ => True) one m other) → R n es hs one other v → Q v H')
def RClimb (n : Nat) (es : List (Nat × Nat)) (hs : List Int) (i j : Nat) (v : V) : Prop := ∃ c, v = .int c ∧ LeastClimb n es hs i j c
def RRise (n : Nat) (es : List (Nat × Nat)) (hs : List Int) (i j : Nat) (v : V) : Prop := ∃ c, v = .int (c - ht hs i) ∧ LeastRise n es hs i j c
def RStep (n : Nat) (es : List (Nat × Nat)) (hs : List Int) (i j : Nat) (v : V) : Prop := ∃ c, v = .int c ∧ LeastStep n es hs i j c
def RRising (n : Nat) (es : List (Nat × Nat)) (hs : List Int) (i j : Nat) (v : V) : Prop := ∃ c, v = .bl (decide (c = ht hs j - ht hs i)) ∧ LeastClimb n es hs i j c
/-! the law's helpers: l the law's list, a the script -/
def RowOk (H : Hp) (l a : Addr) : Prop := ∃ i x y : Int, H l = some (.lst [.ref a, .int i, .int x, .int y]) ∧ 0 ≤ i ∧ 0 ≤ x ∧ x < 2147483647
/-- the script, at a: the law's list l is another one (or the script stands in the written part) -/
def ScrAt (K : PySem.W.Frag) (H : Hp) (l a : Addr) (ns : List Int) : Prop := (Rd H a (.lst (ns.map V.int)) ∧ a ≠ l) ∨ ∀ H' : Hp, SqL K H' a (ns.map V.int)
theorem ScrAt.sq {K : PySem.W.Frag} {H : Hp} {l a : Addr} {ns : List Int} (h : ScrAt K H l a ns) : SqL K H a (ns.map V.int) := h.elim (fun h => .inl h.1) (fun h => h H)
theorem ScrAt.keep {K : PySem.W.Frag} {H H' : Hp} {l a : Addr} {ns : List Int} (h : ScrAt K H l a ns) (k : Keep l H H') : ScrAt K H' l a ns := by
  rcases h with ⟨h, h2⟩ | h
  · refine .inl ⟨?_, h2⟩
    rcases h with h | ⟨o, h⟩
    · exact .inl (k _ _ h2 h)
    · exact .inr ⟨o, k _ _ h2 h⟩
  · exact .inr h
theorem ScrAt.make {K : PySem.W.Frag} {H : Hp} {l a : Addr} {ns : List Int} (h : SqL K H a (ns.map V.int)) (n : H l = none) : ScrAt K H l a ns := by
  rcases h with h | h
  · refine .inl ⟨h, fun z => ?_⟩
    subst z
    rcases h with h | ⟨o, h⟩
    · rw [n] at h; cases h
    · rw [n] at h; cases h
  · exact .inr fun _ => .inr h
def spTaken (K : PySem.W.Frag) : Sp := fun vs H Q _ => ∃ (l a : Addr) (ns : List Int) (m : Nat), vs = [.ref l, pt m] ∧ 1 ≤ m ∧ m ≤ 1000 ∧ ScrAt K H l a ns ∧ RowOk H l a ∧ ∀ (H' : Hp) (k : Nat), Keep l H H' → RowOk H' l a → k < m → Q (pt k) H'
def spNet (K : PySem.W.Frag) : Sp := fun vs H Q _ => ∃ (l a : Addr) (ns : List Int), vs = [.ref l, .int 9] ∧ ScrAt K H l a ns ∧ RowOk H l a ∧ ∀ H' p n es, Keep l H H' → RowOk H' l a → NetAt H' p n es → GoodNet n es → Q (.ref p) H'
def spPick (K : PySem.W.Frag) : Sp := fun vs H Q _ => ∃ (l a q : Addr) (ns : List Int) (xs : List V), vs = [.ref l, .ref q] ∧ ScrAt K H l a ns ∧ RowOk H l a ∧ q ≠ l ∧ H q = some (.lst xs) ∧ 1 ≤ xs.length ∧ xs.length ≤ 1000 ∧ ∀ H' x, Keep l H H' → RowOk H' l a → x ∈ xs → Q x H'
def spHeights (K : PySem.W.Frag) : Sp := fun vs H Q _ => ∃ (l a : Addr) (ns : List Int) (n top : Nat), vs = [.ref l, pt n, pt top] ∧ ScrAt K H l a ns ∧ RowOk H l a ∧ n ≤ 9 ∧ top ≤ 99 ∧ ∀ H' r hs, Keep l H H' → RowOk H' l a → RowAt H' r hs → GoodRow n hs → Q (.ref r) H'
def spDown : Sp := fun vs H Q _ => ∃ (r : Addr) (hs : List Int), vs = [.ref r] ∧ RowAt H r hs ∧ hs.length ≤ 9 ∧ ∀ H' q, Same H H' → RowAt H' q (hs.map fun h => 0 - h) → Q (.ref q) H'
/-- a table at p: what stands at (i, j) is enc (T i j); its rows' addresses -/
def TabAt (H : Hp) (p : Addr) (as : List Addr) (n : Nat) (enc : Int → V) (T : Nat → Nat → Int) : Prop :=
  H p = some (.lst (as.map V.ref)) ∧ as.length = n ∧ as.Nodup ∧ p ∉ as ∧ ∀ (i : Nat) (a : Addr), as[i]? = some a → H a = some (.lst ((List.range n).map fun j => enc (T i j)))
def encN (t : Int) : V := if t = 9999 then .non else .int (-t)
def spCross : Sp := fun vs H Q _ => ∃ (p r : Addr) (n : Nat) (es : List (Nat × Nat)) (hs : List Int), vs = [.ref p, .ref r] ∧ NetAt H p n es ∧ GoodNet n es ∧ RowAt H r (hs.map fun h => 0 - h) ∧ GoodRow n hs ∧
  ∀ H' q as T, Same H H' → TabAt H' q as n encN T → Tab n (J es) max (ht hs) (riseW (ht hs)) (-99) 9999 n 0 0 T → Q (.ref q) H'
def flatIB (v : V) : Prop := (∃ i, v = .int i) ∨ ∃ b, v = .bl b
def spAlike0 : Sp := fun vs H Q _ => ∃ v, vs = [v, v] ∧ flatIB v ∧ ∀ H', Same H H' → Q (.bl true) H'
def spAlike : Sp := fun vs H Q _ => ∃ (a b : Addr) (xs : List V), vs = [.ref a, .ref b] ∧ H a = some (.lst xs) ∧ H b = some (.lst xs) ∧ (∀ v ∈ xs, flatIB v) ∧ xs.length ≤ 63 ∧ ∀ H', Same H H' → Q (.bl true) H'
def spLaw (K : PySem.W.Frag) : Sp := fun vs H Q _ => ∃ (a : Addr) (ns : List Int), vs = [.ref a] ∧ SqL K H a (ns.map V.int) ∧ ns.length ≤ 63 ∧ ∀ H', Q (.bl true) H'
end Cl

set_option Elab.async false
set_option linter.all false
set_option maxRecDepth 100000
set_option maxHeartbeats 4000000
/-! tables: a list of rows -/
namespace Cl
open PySem PySem.Spec PyProof.Rows L2
/-- what is told of a value, then what follows -/
theorem post {T : TE} {σ : L2.St} {H : Hp} {Q : VK} (C : V → Hp → Prop) (fin : ∀ v H', C v H' → Q v H') (walk : ∀ R : VK, (∀ v H', C v H' → R v H') → T σ H R) : T σ H Q := walk Q fin
theorem ix_nat {n j : Nat} (hj : j < n) : ixN n (j : Int) = some j := by
  unfold ixN
  rw [if_pos (by omega), if_pos (by omega)]
  simp
def trow (n : Nat) (enc : Int → V) (T : Nat → Nat → Int) (i : Nat) : List V := (List.range n).map fun j => enc (T i j)
def putT (T : Nat → Nat → Int) (i j : Nat) (t : Int) : Nat → Nat → Int := fun p q => if p = i ∧ q = j then t else T p q
/-- the first m rows -/
def TabR (H : Hp) (p : Addr) (as : List Addr) (m n : Nat) (enc : Int → V) (T : Nat → Nat → Int) : Prop :=
  H p = some (.lst (as.map V.ref)) ∧ as.length = m ∧ as.Nodup ∧ p ∉ as ∧ ∀ (i : Nat) (a : Addr), as[i]? = some a → H a = some (.lst (trow n enc T i))
section
variable {H H' : Hp} {p : Addr} {as : List Addr} {m n : Nat} {enc : Int → V} {T : Nat → Nat → Int}
theorem TabR.tab (t : TabR H p as n n enc T) : TabAt H p as n enc T := t
theorem TabAt.r (t : TabAt H p as n enc T) : TabR H p as n n enc T := t
theorem trow_len (i : Nat) : (trow n enc T i).length = n := by
  unfold trow
  rw [List.length_map, List.length_range]
theorem trow_at {i j : Nat} (hj : j < n) : (trow n enc T i)[j]? = some (enc (T i j)) := by
  unfold trow
  rw [List.getElem?_map, List.getElem?_range hj]
  rfl
theorem trow_set {i j : Nat} (t : Int) : (trow n enc T i).set j (enc t) = trow n enc (putT T i j t) i := by
  apply List.ext_getElem?
  intro k
  rw [List.getElem?_set]
  by_cases hk : k < n
  · have e2 : (trow n enc (putT T i j t) i)[k]? = some (enc (putT T i j t i k)) := trow_at hk
    rw [e2]
    unfold putT
    by_cases e : j = k
    · subst e
      rw [if_pos rfl, if_pos (by rw [trow_len]; exact hk), if_pos ⟨rfl, rfl⟩]
    · rw [if_neg e, trow_at hk, if_neg (fun z => e z.2.symm)]
  · have h2 : (trow n enc (putT T i j t) i)[k]? = none := List.getElem?_eq_none_iff.mpr (by rw [trow_len]; omega)
    rw [h2]
    by_cases e : j = k
    · rw [if_pos e, if_neg (by rw [trow_len]; omega)]
    · rw [if_neg e]
      exact List.getElem?_eq_none_iff.mpr (by rw [trow_len]; omega)
theorem trow_other {i j k : Nat} {t : Int} (ne : k ≠ i) : trow n enc (putT T i j t) k = trow n enc T k := by
  unfold trow putT
  refine List.map_congr_left fun q _ => ?_
  rw [if_neg (fun z => ne z.1)]
theorem TabR.same (t : TabR H p as m n enc T) (s : Same H H') : TabR H' p as m n enc T := by
  obtain ⟨h1, h2, h3, h4, h5⟩ := t
  exact ⟨s _ _ h1, h2, h3, h4, fun i a h => s _ _ (h5 i a h)⟩
theorem TabAt.same (t : TabAt H p as n enc T) (s : Same H H') : TabAt H' p as n enc T := TabR.same t s
theorem TabR.off (t : TabR H p as m n enc T) {b : Addr} {o : HO} (h1 : b ≠ p) (h2 : b ∉ as) : TabR (upd H b o) p as m n enc T := by
  obtain ⟨g1, g2, g3, g4, g5⟩ := t
  refine ⟨by rw [upd_ne (Ne.symm h1)]; exact g1, g2, g3, g4, fun i a h => ?_⟩
  rw [upd_ne (fun z => h2 (by rw [← z]; exact List.mem_of_getElem? h))]
  exact g5 i a h
theorem TabAt.off (t : TabAt H p as n enc T) {b : Addr} {o : HO} (h1 : b ≠ p) (h2 : b ∉ as) : TabAt (upd H b o) p as n enc T := TabR.off t h1 h2
/-- what is free is no part of a table -/
theorem TabR.new (t : TabR H p as m n enc T) {b : Addr} (h : H b = none) : b ≠ p ∧ b ∉ as := by
  obtain ⟨g1, g2, g3, g4, g5⟩ := t
  refine ⟨fun z => ?_, fun z => ?_⟩
  · rw [z, g1] at h
    cases h
  · obtain ⟨i, hi⟩ := List.mem_iff_getElem?.mp z
    rw [g5 i b hi] at h
    cases h
theorem TabR.snoc (t : TabR H p as m n enc T) {b : Addr} (h1 : b ≠ p) (h2 : b ∉ as) (hb : H b = some (.lst (trow n enc T m))) : TabR (upd H p (.lst (as.map V.ref ++ [V.ref b]))) p (as ++ [b]) (m + 1) n enc T := by
  obtain ⟨g1, g2, g3, g4, g5⟩ := t
  refine ⟨by rw [upd_same, List.map_append]; rfl, by rw [List.length_append, g2]; rfl, ?_, ?_, fun i a h => ?_⟩
  · rw [List.nodup_append]
    exact ⟨g3, by simp, fun x hx y hy => by rw [List.mem_singleton.mp hy]; exact fun z => h2 (z ▸ hx)⟩
  · intro z
    rcases List.mem_append.mp z with h | h
    · exact g4 h
    · exact h1 (List.mem_singleton.mp h).symm
  · have hm := List.mem_of_getElem? h
    have hap : a ≠ p := fun z => by
      rcases List.mem_append.mp hm with h' | h'
      · exact g4 (z ▸ h')
      · exact h1 ((List.mem_singleton.mp h').symm.trans z)
    rw [upd_ne hap]
    by_cases hi : i < as.length
    · rw [List.getElem?_append_left hi] at h
      exact g5 i a h
    · rw [List.getElem?_append_right (by omega)] at h
      have e : i = m := by
        have := get_lt h
        simp at this
        omega
      subst e
      have : a = b := by
        rw [g2] at h
        simp at h
        exact h.symm
      rw [this]
      exact hb
theorem TabAt.row (t : TabAt H p as n enc T) {i : Nat} (hi : i < n) : ∃ a, as[i]? = some a ∧ (as.map V.ref)[i]? = some (.ref a) ∧ H a = some (.lst (trow n enc T i)) ∧ a ∈ as ∧ a ≠ p := by
  obtain ⟨g1, g2, g3, g4, g5⟩ := t
  obtain ⟨a, ha⟩ := get_some (l := as) (i := i) (by omega)
  exact ⟨a, ha, refs_at ha, g5 i a ha, List.mem_of_getElem? ha, fun z => g4 (z ▸ List.mem_of_getElem? ha)⟩
theorem TabAt.put (t : TabAt H p as n enc T) {i j : Nat} {a : Addr} (ha : as[i]? = some a) (v : Int) : TabAt (upd H a (.lst ((trow n enc T i).set j (enc v)))) p as n enc (putT T i j v) := by
  obtain ⟨g1, g2, g3, g4, g5⟩ := t
  have hap : p ≠ a := fun z => g4 (z ▸ List.mem_of_getElem? ha)
  refine ⟨by rw [upd_ne hap]; exact g1, g2, g3, g4, fun k b hb => ?_⟩
  show upd H a (.lst ((trow n enc T i).set j (enc v))) b = some (.lst (trow n enc (putT T i j v) k))
  by_cases e : k = i
  · subst e
    rw [ha] at hb
    cases hb
    rw [upd_same, trow_set]
  · have hba : b ≠ a := fun z => by
      subst z
      exact e ((List.getElem?_inj (get_lt hb) g3).mp (hb.trans ha.symm))
    rw [upd_ne hba, trow_other e]
    exact g5 k b hb
end
/-! ### the table's first values -/
def ini (b : Nat → Int) (w : Nat → Nat → Int) (S : List (Nat × Nat)) (i j : Nat) : Int := if (i, j) ∈ S then w i j else if i = j then b i else 9999
theorem ini_put (b : Nat → Int) (w : Nat → Nat → Int) (S : List (Nat × Nat)) (i j : Nat) : putT (ini b w S) i j (w i j) = ini b w (S ++ [(i, j)]) := by
  funext p q
  unfold putT ini
  by_cases e : p = i ∧ q = j
  · obtain ⟨rfl, rfl⟩ := e
    rw [if_pos ⟨rfl, rfl⟩, if_pos (List.mem_append_right _ List.mem_cons_self)]
  · rw [if_neg e]
    have : (p, q) ∈ S ++ [(i, j)] ↔ (p, q) ∈ S := by
      rw [List.mem_append]
      constructor
      · rintro (h | h)
        · exact h
        · have := List.mem_singleton.mp h
          exact absurd ⟨(Prod.mk.inj this).1, (Prod.mk.inj this).2⟩ e
      · exact .inl
    by_cases h : (p, q) ∈ S
    · rw [if_pos h, if_pos (this.mpr h)]
    · rw [if_neg h, if_neg (fun z => h (this.mp z))]
theorem ini_tab {n : Nat} {J : Nat → Nat → Prop} {op : Int → Int → Int} {b : Nat → Int} {w : Nat → Nat → Int} {lo : Int} (A : Alg n J op b w lo 9999) (hB : lo ≤ 9999) {S : List (Nat × Nat)} (hS : ∀ i j, (i, j) ∈ S ↔ J i j) : Tab n J op b w lo 9999 0 0 0 (ini b w S) := by
  refine Tab.init A (fun i hi => ?_) (fun i j h => ?_) (fun i j _ _ ne h => ?_) hB
  · unfold ini
    rw [if_neg (fun z => (A.lt _ _ ((hS i i).mp z)).2.2 rfl), if_pos rfl]
  · unfold ini
    rw [if_pos ((hS i j).mpr h)]
  · unfold ini
    rw [if_neg (fun z => h ((hS i j).mp z)), if_neg ne]
end Cl

set_option Elab.async false
set_option linter.all false
set_option maxRecDepth 100000
set_option maxHeartbeats 4000000
/-! what the law's answers amount to -/
namespace Cl
open PySem PySem.Spec PyProof.Rows L2
def rOf : Nat → Nat → List (Nat × Nat) → List Int → Nat → Nat → V → Prop
  | 0 => RClimb
  | 1 => RRise
  | 2 => RStep
  | _ => RRising
def Res (n : Nat) (es : List (Nat × Nat)) (hs : List Int) (o u : Nat) (i : Nat) (v : V) : Prop :=
  (¬ Jd (J es) (fun _ => True) o u ∧ v = .str "none") ∨ ((∃ m, m < n ∧ Cn (J es) (fun _ => True) o m u) ∧ rOf i n es hs o u v)
section
variable {n : Nat} {es : List (Nat × Nat)} {hs : List Int} {o u : Nat} {T U W : Nat → Nat → Int} {vs : List V}
theorem big_not (g : GoodNet n es) (gR : GoodRow n hs) (I : Tab n (J es) (· + ·) zero (climbW (ht hs)) 0 9999 n 0 0 T) (ho : o < n) (hu : u < n) (h : 9999 ≤ T o u) : ¬ ∃ m, m < n ∧ Cn (J es) (fun _ => True) o m u := by
  rintro ⟨m, hm, t⟩
  have A := alg_climb (J := J es) (h := ht hs) g.J_lt gR.bd
  obtain ⟨c, h1, h2⟩ := t.wk A (K := 198) (fun i j c hj => by
    have l := g.J_lt i j hj
    have := gR.bd i l.1
    have := gR.bd j l.2.1
    show c + max 0 (ht hs j - ht hs i) ≤ c + 198
    omega)
  have := I.low o u c ho hu h1
  have := g.le
  have e : zero o = 0 := rfl
  omega
theorem small_joined (I : Tab n (J es) (· + ·) zero (climbW (ht hs)) 0 9999 n 0 0 T) (ho : o < n) (hu : u < n) (h : T o u < 9999) : Jd (J es) (fun _ => True) o u := by
  obtain ⟨c, h1, _⟩ := (I.least ho hu h).some_
  exact h1.cn
theorem fin_none (g : GoodNet n es) (gR : GoodRow n hs) (I : Tab n (J es) (· + ·) zero (climbW (ht hs)) 0 9999 n 0 0 T) (ho : o < n) (hu : u < n) (h : 9999 ≤ T o u) (hl : vs.length = 4) (hv : ∀ i v, vs[i]? = some v → Res n es hs o u i v) :
    vs = [.str "none", .str "none", .str "none", .str "none"] := by
  have all : ∀ i v, vs[i]? = some v → v = V.str "none" := fun i v hi => by
    rcases hv i v hi with ⟨_, e⟩ | ⟨j, _⟩
    · exact e
    · exact absurd j (big_not g gR I ho hu h)
  match vs, hl, all with
  | [a, b, c, d], _, all =>
    rw [all 0 a rfl, all 1 b rfl, all 2 c rfl, all 3 d rfl]
theorem fin_list (g : GoodNet n es) (gR : GoodRow n hs) (I : Tab n (J es) (· + ·) zero (climbW (ht hs)) 0 9999 n 0 0 T) (M : Tab n (J es) max zero (stepW (ht hs)) 0 9999 n 0 0 U) (R : Tab n (J es) max (ht hs) (riseW (ht hs)) (-99) 9999 n 0 0 W) (ho : o < n) (hu : u < n) (h : T o u < 9999) (hl : vs.length = 4) (hv : ∀ i v, vs[i]? = some v → Res n es hs o u i v) :
    W o u < 9999 ∧ vs = [.int (T o u), .int (W o u - ht hs o), .int (U o u), .bl (decide (T o u = ht hs u - ht hs o))] := by
  have all : ∀ i v, vs[i]? = some v → rOf i n es hs o u v := fun i v hi => by
    rcases hv i v hi with ⟨e, _⟩ | ⟨_, r⟩
    · exact absurd (small_joined I ho hu h) e
    · exact r
  match vs, hl, all with
  | [a, b, c, d], _, all =>
    obtain ⟨x0, rfl, l0⟩ : RClimb n es hs o u a := all 0 a rfl
    obtain ⟨x1, rfl, l1⟩ : RRise n es hs o u b := all 1 b rfl
    obtain ⟨x2, rfl, l2⟩ : RStep n es hs o u c := all 2 c rfl
    obtain ⟨x3, rfl, l3⟩ : RRising n es hs o u d := all 3 d rfl
    have e0 : x0 = T o u := Least.eq l0 (I.least ho hu h)
    have e3 : x3 = T o u := Least.eq l3 (I.least ho hu h)
    have hW : W o u < 9999 := by
      obtain ⟨c, h1, _⟩ := l1.some_
      obtain ⟨v, hv, rfl⟩ := rise_height g.J_lt h1 ho
      have := R.low o u _ ho hu h1
      have := gR.bd v hv
      omega
    have e1 : x1 = W o u := Least.eq l1 (R.least ho hu hW)
    have hU : U o u < 9999 := by
      obtain ⟨c, h1, _⟩ := l2.some_
      have h2 := M.low o u _ ho hu h1
      have A := alg_step (J := J es) (h := ht hs) g.J_lt gR.bd
      have := h1.ltB A (fun x y hx hy => by omega) ho
      omega
    have e2 : x2 = U o u := Least.eq l2 (M.least ho hu hU)
    rw [e0, e1, e2, e3]
    exact ⟨hW, rfl⟩
end
theorem eqv_none : PyData.eqv (.list [.str "none", .str "none", .str "none", .str "none"]) (.list [.str "none", .str "none", .str "none", .str "none"]) = true := by decide +kernel
theorem shaped_none : SeqAt.shaped (.list [.str "none", .str "none", .str "none", .str "none"]) = true := by decide +kernel
/-- the law's list stays out of a table -/
theorem TabAt_keep {H H' : Hp} {l a p : Addr} {as : List Addr} {n : Nat} {enc : Int → V} {T : Nat → Nat → Int} (t : TabAt H p as n enc T) (k : Keep l H H') (r : RowOk H l a) (n1 : 1 ≤ n) (he : ∀ t a, enc t ≠ .ref a) : TabAt H' p as n enc T := by
  obtain ⟨i, x, y, hl, _⟩ := r
  obtain ⟨h1, h2, h3, h4, h5⟩ := t
  refine ⟨k _ _ (fun z => ?_) h1, h2, h3, h4, fun j b hb => k _ _ (fun z => ?_) (h5 j b hb)⟩
  · rw [z, hl] at h1
    have e := HO.lst.inj (Option.some.inj h1)
    have e1 : (as.map V.ref)[1]? = some (V.int i) := by rw [← e]; rfl
    rw [List.getElem?_map] at e1
    cases ha : as[1]? with
    | none => rw [ha] at e1; cases e1
    | some q => rw [ha] at e1; cases e1
  · have h6 := h5 j b hb
    rw [z, hl] at h6
    have e := HO.lst.inj (Option.some.inj h6)
    have e1 : ((List.range n).map fun q => enc (T j q))[0]? = some (V.ref a) := by rw [← e]; rfl
    rw [List.getElem?_map, List.getElem?_range (by omega)] at e1
    exact he _ _ (Option.some.inj e1)
end Cl

set_option Elab.async false
set_option linter.all false
set_option maxRecDepth 100000
set_option maxHeartbeats 4000000
namespace Cl
open PySem PySem.Spec PyProof.Rows L2
section
variable {P : Program} {w : World} {K : PySem.W.Frag} {mg : Str → Option Value} {base : Heap}
theorem fmod_nat {m : Nat} (h : 1 ≤ m) (i : Int) : ∃ k : Nat, k < m ∧ i.fmod (m : Int) = (k : Int) := by
  have h1 : (0 : Int) < m := by omega
  have h2 := Int.fmod_nonneg_of_pos i h1
  have h3 := Int.fmod_lt_of_pos i h1
  obtain ⟨k, hk⟩ := Int.eq_ofNat_of_zero_le h2
  exact ⟨k, by omega, hk⟩
theorem step31 (i : Int) : 0 ≤ i.fmod 2147483647 ∧ i.fmod 2147483647 < 2147483647 := ⟨Int.fmod_nonneg_of_pos i (by decide), Int.fmod_lt_of_pos i (by decide)⟩
theorem ok_law_taken {f : Addr} {fd : FuncData} (F : Fun K "_law_taken" "_law_taken" s_law_taken f fd) (Z : Bt mg) : FnOk P w K mg base CX0 1 f fd P_law_taken (spTaken K) := by
  obtain ⟨tp, h_MOST_POINTS⟩ := Z.mp
  obtain ⟨th, h_MOST_HEIGHT⟩ := Z.mh
  refine F.ok sc_law_taken (fun vs H Q E h => ?_) (fun cdv A outer s H vs Q E hr h => ?_)
  · obtain ⟨l, a, ns, m, rfl, _⟩ := h
    rfl
  · obtain ⟨l, a, ns, m, rfl, hm, hm2, hS, ⟨i, x, y, hl, hi, hx, hx2⟩, q⟩ := h
    refine ⟨_, (pss_cons (ps_if (pt_cmpR op_gt (pe_ix (ixL (K := K)) (pv 0) pe_int (fun _ _ => rfl)) pe_int (nomark _)) (pss_cons (ps_set (i := 2) sc_law_taken.nd rfl (by first | exact .inl rfl | exact .inr rfl) (pe_op op_modN (pe_callTy call_int1 (by rfl) Z.int (by decide +kernel) (pa_cons (pe_ix (ixL (K := K)) (pv 0) pe_int (fun _ _ => rfl)) pa_nil)) (pv 1)))
        (pss_cons (ps_asg (pe_op op_fdivN (pe_ix (ixL (K := K)) (pv 0) pe_int (fun _ _ => rfl)) (pv 1)) (pg_sub (pv 0) pe_int set_list))
        (pss_one (ps_ret (pv 2))))) pss_nil)
        (pss_cons (ps_asg (pe_op op_add (pe_ix (ixL (K := K)) (pv 0) pe_int (fun _ _ => rfl)) pe_int) (pg_sub (pv 0) pe_int set_list))
        (pss_cons (ps_if (pt_cmpR op_gt (pe_ix (ixL (K := K)) (pv 0) pe_int (fun _ _ => rfl)) (pe_callB (lenS (K := K)) (by rfl) Z.len (by decide +kernel) (pa_cons (pe_ix (ixL (K := K)) (pv 0) pe_int (fun _ _ => rfl)) pa_nil)) (nomark _)) (pss_cons (ps_asg (pe_op op_modN (pe_callTy call_int1 (by rfl) Z.int (by decide +kernel) (pa_cons (pe_op op_add (pe_op op_mul (pe_ix (ixL (K := K)) (pv 0) pe_int (fun _ _ => rfl)) pe_int) pe_int) pa_nil)) pe_int) (pg_sub (pv 0) pe_int set_list))
        (pss_one (ps_ret (pe_op op_modN (pe_callTy call_int1 (by rfl) Z.int (by decide +kernel) (pa_cons (pe_op op_fdivN (pe_ix (ixL (K := K)) (pv 0) pe_int (fun _ _ => rfl)) pe_int) pa_nil)) (pv 1))))) pss_nil)
        (pss_cons (ps_set (i := 3) sc_law_taken.nd rfl (by first | exact .inl rfl | exact .inr rfl) (pe_ix (ixL (K := K)) (pe_ix (ixL (K := K)) (pv 0) pe_int (fun _ _ => rfl)) (pe_op op_sub (pe_ix (ixL (K := K)) (pv 0) pe_int (fun _ _ => rfl)) pe_int) (fun _ _ => rfl)))
        (pss_cons (ps_asg (pe_op op_modN (pe_callTy call_int1 (by rfl) Z.int (by decide +kernel) (pa_cons (pe_op op_add (pe_op op_add (pe_op op_mul (pe_ix (ixL (K := K)) (pv 0) pe_int (fun _ _ => rfl)) pe_int) (pv 3)) pe_int) pa_nil)) pe_int) (pg_sub (pv 0) pe_int set_list))
        (pss_cons (ps_if (pt_cmpR op_ge (pv 3) (pe_op op_pow pe_int pe_int) (nomark _)) (pss_one (ps_asg (pe_op op_fdivN (pv 3) (pv 1)) (pg_sub (pv 0) pe_int set_list))) pss_nil)
        (pss_one (ps_ret (pe_op op_modN (pe_callTy call_int1 (by rfl) Z.int (by decide +kernel) (pa_cons (pv 3) pa_nil)) (pv 1)))))))))), ?_⟩
    have hm0 : (m : Int) ≠ 0 := by omega
    have hdv : CDivN y (m : Int) := ⟨hm0, by omega⟩
    refine ⟨_, rfl, l, _, 3, .int y, rfl, rfl, SqL.of hl, atI_nat (j := 3) rfl, y, 0, rfl, rfl, _, rfl, ite2 (fun e => ?_) (fun e => ?_)⟩
    · refine ⟨_, rfl, l, _, 3, .int y, rfl, rfl, SqL.of hl, atI_nat (j := 3) rfl, .inl ⟨_, rfl, _, rfl, _, _, rfl, rfl, hm0, ?_⟩⟩
      refine ⟨_, rfl, l, _, 3, .int y, rfl, rfl, SqL.of hl, atI_nat (j := 3) rfl, _, rfl, _, _, rfl, rfl, hdv, ?_⟩
      refine ⟨_, rfl, l, _, 3, 3, rfl, rfl, hl, rfl, ?_⟩
      obtain ⟨k, hk, ek⟩ := fmod_nat hm y
      refine ⟨_, rfl, ?_⟩
      show Q (V.int (y.fmod (m : Int))) _
      rw [ek]
      exact q _ k keep_upd ⟨i, x, _, upd_same, hi, hx, hx2⟩ hk
    · refine ⟨_, rfl, l, _, 1, .int i, rfl, rfl, SqL.of hl, atI_nat (j := 1) rfl, _, _, rfl, rfl, ?_⟩
      refine ⟨_, rfl, l, _, 1, 1, rfl, rfl, hl, rfl, ?_⟩
      have k1 : Keep l H (upd H l (.lst [.ref a, .int (i + 1), .int x, .int y])) := keep_upd
      have l1 : upd H l (.lst [.ref a, .int (i + 1), .int x, .int y]) l = some (.lst [.ref a, .int (i + 1), .int x, .int y]) := upd_same
      show tSeq _ _ _ _ (upd H l (.lst [.ref a, .int (i + 1), .int x, .int y]))
      generalize upd H l (.lst [.ref a, .int (i + 1), .int x, .int y]) = H1 at k1 l1
      have hS1 := hS.keep k1
      refine ⟨_, rfl, l, _, 1, .int (i + 1), rfl, rfl, SqL.of l1, atI_nat (j := 1) rfl, _, rfl, l, _, 0, .ref a, rfl, rfl, SqL.of l1, atI_nat (j := 0) rfl, a, _, rfl, .inl hS1.sq, _, _, rfl, rfl, _, rfl, ite2 (fun e2 => ?_) (fun e2 => ?_)⟩
      · refine ⟨_, rfl, l, _, 2, .int x, rfl, rfl, SqL.of l1, atI_nat (j := 2) rfl, _, _, rfl, rfl, .inr ⟨by decide, by decide⟩, _, _, rfl, rfl, .inl ⟨_, rfl, _, _, rfl, rfl, (by exact (by decide : (2147483647 : Int) ≠ 0)), ?_⟩⟩
        refine ⟨_, rfl, l, _, 2, 2, rfl, rfl, l1, rfl, ?_⟩
        obtain ⟨s1, s2⟩ := step31 (x * 48271 + 11)
        obtain ⟨k, hk, ek⟩ := fmod_nat hm (((x * 48271 + 11).fmod 2147483647).fdiv 7)
        refine ⟨_, rfl, l, _, 2, .int _, rfl, rfl, SqL.of upd_same, atI_nat (j := 2) rfl, _, _, rfl, rfl, ⟨by decide, by decide⟩, .inl ⟨_, rfl, _, rfl, _, _, rfl, rfl, hm0, ?_⟩⟩
        show Q (V.int ((((x * 48271 + 11).fmod 2147483647).fdiv 7).fmod (m : Int))) _
        rw [ek]
        exact q _ k (k1.trans keep_upd) ⟨_, _, _, upd_same, by omega, s1, s2⟩ hk
      · have hlen : i + 1 ≤ (ns.length : Int) := by
          have : ¬ (i + 1 > ((ns.map V.int).length : Nat)) := fun z => e2 (decide_eq_true z)
          rw [List.length_map] at this
          omega
        obtain ⟨i0, rfl⟩ := Int.eq_ofNat_of_zero_le hi
        obtain ⟨c, hc⟩ := get_some (l := ns) (i := i0) (by omega)
        have ei : (i0 : Int) + 1 - 1 = (i0 : Int) := by omega
        refine ⟨_, rfl, l, _, 0, .ref a, rfl, rfl, SqL.of l1, atI_nat (j := 0) rfl, _, rfl, l, _, 1, .int ((i0 : Int) + 1), rfl, rfl, SqL.of l1, atI_nat (j := 1) rfl, _, _, rfl, rfl, a, _, (i0 : Int) + 1 - 1, .int c, rfl, rfl, hS1.sq, by rw [ei]; exact atI_nat (ints_at hc), ?_⟩
        refine ⟨_, rfl, l, _, 2, .int x, rfl, rfl, SqL.of l1, atI_nat (j := 2) rfl, _, _, rfl, rfl, .inr ⟨by decide, by decide⟩, _, rfl, _, _, rfl, rfl, _, _, rfl, rfl, .inl ⟨_, rfl, _, _, rfl, rfl, (by exact (by decide : (2147483647 : Int) ≠ 0)), ?_⟩⟩
        refine ⟨_, rfl, l, _, 2, 2, rfl, rfl, l1, rfl, ?_⟩
        obtain ⟨s1, s2⟩ := step31 (x * 48271 + c + 11)
        obtain ⟨k, hk, ek⟩ := fmod_nat hm c
        refine ⟨_, rfl, _, _, rfl, rfl, ⟨by decide, by decide, by decide⟩, _, _, rfl, rfl, _, rfl, ite2 (fun e3 => ?_) (fun e3 => ?_)⟩
        · refine ⟨_, rfl, _, rfl, _, _, rfl, rfl, ⟨hm0, by omega⟩, ?_⟩
          refine ⟨_, rfl, l, _, 3, 3, rfl, rfl, upd_same, rfl, ?_⟩
          refine ⟨_, rfl, .inl ⟨_, rfl, _, rfl, _, _, rfl, rfl, hm0, ?_⟩⟩
          show Q (V.int (c.fmod (m : Int))) _
          rw [ek]
          exact q _ k ((k1.trans keep_upd).trans keep_upd) ⟨_, _, _, upd_same, by omega, s1, s2⟩ hk
        · refine ⟨_, rfl, .inl ⟨_, rfl, _, rfl, _, _, rfl, rfl, hm0, ?_⟩⟩
          show Q (V.int (c.fmod (m : Int))) _
          rw [ek]
          exact q _ k (k1.trans keep_upd) ⟨_, _, _, upd_same, by omega, s1, s2⟩ hk
end
end Cl

set_option Elab.async false
set_option linter.all false
set_option maxRecDepth 100000
set_option maxHeartbeats 4000000
namespace Cl
open PySem PySem.Spec PyProof.Rows L2
section
variable {P : Program} {w : World} {K : PySem.W.Frag} {mg : Str → Option Value} {base : Heap}
theorem keep_over {l : Addr} {H H1 : Hp} {p : Addr} {o : HO} (s : Keep l H H1) (h : H p = none) : Keep l H (upd H1 p o) := fun b x n e => by
  rw [upd_ne (ne_of_none e h)]
  exact s b x n e
theorem RowOk.over {H : Hp} {l a p : Addr} {o : HO} (h : RowOk H l a) (ne : p ≠ l) : RowOk (upd H p o) l a := by
  obtain ⟨i, x, y, h1, h2⟩ := h
  exact ⟨i, x, y, by rw [upd_ne ne.symm]; exact h1, h2⟩
theorem RowOk.lst {H : Hp} {l a : Addr} (h : RowOk H l a) : ∃ xs, H l = some (.lst xs) := by
  obtain ⟨i, x, y, h1, h2⟩ := h
  exact ⟨_, h1⟩
theorem RowOk.ne {H : Hp} {l a p : Addr} (h : RowOk H l a) (n : H p = none) : p ≠ l := fun z => by
  obtain ⟨xs, e⟩ := h.lst
  rw [z, e] at n
  cases n
theorem ok_law_pick {f : Addr} {fd : FuncData} (F : Fun K "_law_pick" "_law_pick" s_law_pick f fd) (Z : Bt mg) (C_law_taken : Cal P w K mg base CX0 1 "_law_taken" P_law_taken (spTaken K)) : FnOk P w K mg base CX0 2 f fd P_law_pick (spPick K) := by
  obtain ⟨tp, h_MOST_POINTS⟩ := Z.mp
  obtain ⟨th, h_MOST_HEIGHT⟩ := Z.mh
  refine F.ok sc_law_pick (fun vs H Q E h => ?_) (fun cdv A outer s H vs Q E hr h => ?_)
  · obtain ⟨l, a, q, ns, xs, rfl, _⟩ := h
    rfl
  · obtain ⟨l, a, q, ns, xs, rfl, hS, hrow, hql, hq, h1, h2, q0⟩ := h
    refine ⟨_, (pss_one (ps_ret (pe_ix (ixL (K := K)) (pv 1) (pe_cal C_law_taken hr pass0 (pa_cons (pv 0) (pa_cons (pe_callB (lenS (K := K)) (by rfl) Z.len (by decide +kernel) (pa_cons (pv 1) pa_nil)) pa_nil))) (fun _ _ => rfl)))), ?_⟩
    refine ⟨_, rfl, _, rfl, _, rfl, q, xs, rfl, .inl (SqL.of hq), l, a, ns, xs.length, rfl, h1, h2, hS, hrow, fun H' k kp rok hk => ?_⟩
    obtain ⟨x, hx⟩ := get_some hk
    exact ⟨q, xs, k, x, rfl, rfl, SqL.of (kp _ _ hql hq), atI_nat hx, q0 H' x kp rok (List.mem_of_getElem? hx)⟩
theorem ok_law_down {f : Addr} {fd : FuncData} (F : Fun K "_law_down" "_law_down" s_law_down f fd) (Z : Bt mg) : FnOk P w K mg base CX0 1 f fd P_law_down spDown := by
  obtain ⟨tp, h_MOST_POINTS⟩ := Z.mp
  obtain ⟨th, h_MOST_HEIGHT⟩ := Z.mh
  refine F.ok sc_law_down (fun vs H Q E h => ?_) (fun cdv A outer s H vs Q E hr h => ?_)
  · obtain ⟨r, hs, rfl, _⟩ := h
    rfl
  · obtain ⟨r, hs, rfl, hR, hl, q0⟩ := h
    have hR : H r = some (.tup (hs.map V.int)) := hR
    refine ⟨_, (pss_one (ps_ret (pe_callTy call_tuple_of (by rfl) Z.tuple (by decide +kernel) (pa_cons (pe_lc (own := [("_law_height", 1)]) (g := gName 1) rfl sc_law_down.nd (piTup (K := K) (pv 0)) (blkOk_by (own := [("_law_height", 1)]) (N := N_law_down) (sc := defScope s_law_down) (by decide +kernel)) (fun _ _ _ _ _ => pg_name (i := 1) sc_law_down.nd rfl (by first | exact .inl rfl | exact .inr rfl)) (fun _ _ _ _ _ => pts_nil) (fun _ _ _ _ _ => (pe_op op_sub pe_int (pv 1)))) pa_nil)))), ?_⟩
    refine ⟨_, rfl, r, rfl, ⟨_, SqT.of hR⟩, fun D nD => ?_⟩
    refine lc_it (walk_tup (xs := hs.map V.int)) (fun i H' => Same H H' ∧ H' D = some (.lst (((hs.take i).map fun h => 0 - h).map V.int))) ⟨same_new nD, upd_same⟩ (fun i H' _ hh => SqT.of (hh.1 _ _ hR)) ?_ ?_
    · rintro i x H1 H2 hi ⟨s1, hD⟩ ⟨rfl, hx⟩
      obtain ⟨k, hk, rfl⟩ := ints_get hx
      have := get_lt hk
      refine ⟨rfl, _, rfl, _, _, rfl, rfl, _, hD, by rw [List.length_map, List.length_map, List.length_take]; exact small1000 (by omega), same_over s1 nD, ?_⟩
      rw [upd_same, take_snoc hk, List.map_append, List.map_append]
      rfl
    · rintro H1 ⟨s1, hD⟩
      rw [List.length_map, List.take_length] at hD
      refine ⟨D, _, rfl, .inl ⟨SqL.of hD, fun t nt => q0 _ t (s1.trans (same_new nt)) upd_same⟩⟩
theorem ok_law_heights {f : Addr} {fd : FuncData} (F : Fun K "_law_heights" "_law_heights" s_law_heights f fd) (Z : Bt mg) (C_law_pick : Cal P w K mg base CX0 2 "_law_pick" P_law_pick (spPick K)) (C_law_taken : Cal P w K mg base CX0 1 "_law_taken" P_law_taken (spTaken K)) : FnOk P w K mg base CX0 3 f fd P_law_heights (spHeights K) := by
  obtain ⟨tp, h_MOST_POINTS⟩ := Z.mp
  obtain ⟨th, h_MOST_HEIGHT⟩ := Z.mh
  refine F.ok sc_law_heights (fun vs H Q E h => ?_) (fun cdv A outer s H vs Q E hr h => ?_)
  · obtain ⟨l, a, ns, n, top, rfl, _⟩ := h
    rfl
  · obtain ⟨l, a, ns, n, top, rfl, hS, hrow, hn, ht, q0⟩ := h
    refine ⟨_, (pss_cons (ps_set (i := 3) sc_law_heights.nd rfl (by first | exact .inl rfl | exact .inr rfl) (pe_cal C_law_pick hr pass0 (pa_cons (pv 0) (pa_cons (pe_lst (pa_cons pe_int (pa_cons pe_int (pa_cons (pe_op op_sub pe_int (pe_op op_fdivN (pv 2) pe_int)) pa_nil)))) pa_nil))))
        (pss_one (ps_ret (pe_callTy call_tuple_of (by rfl) Z.tuple (by decide +kernel) (pa_cons (pe_lc (own := [("_law_point", 4)]) (g := gName 4) rfl sc_law_heights.nd (pi_range1 (by rfl) Z.range (pa_cons (pv 1) pa_nil)) (blkOk_by (own := [("_law_point", 4)]) (N := N_law_heights) (sc := defScope s_law_heights) (by decide +kernel)) (fun _ _ _ _ _ => pg_name (i := 4) sc_law_heights.nd rfl (by first | exact .inl rfl | exact .inr rfl)) (fun _ _ _ _ _ => pts_nil) (fun _ _ _ _ _ => (pe_op op_add (pe_cal C_law_taken hr pass0 (pa_cons (pv 0) (pa_cons (pe_op op_add (pv 2) pe_int) pa_nil))) (pv 3)))) pa_nil))))), ?_⟩
    refine ⟨_, rfl, _, rfl, _, _, rfl, rfl, ⟨by decide, by decide⟩, _, _, rfl, rfl, small16 (by show 3 ≤ 1000; decide), fun q nq => ?_⟩
    obtain ⟨xs0, hl⟩ := hrow.lst
    have hql := hrow.ne nq
    refine ⟨l, a, q, ns, _, rfl, hS.keep (Keep.new nq), hrow.over hql, hql, upd_same, by show 1 ≤ 3; decide, by show 3 ≤ 1000; decide, fun H1 x k1 r1 hx => ?_⟩
    have hx : ∃ c : Int, x = .int c ∧ -49 ≤ c ∧ c ≤ 0 := by
      have e : x = .int 0 ∨ x = .int 0 ∨ x = .int (0 - (top : Int).fdiv 2) := by simpa using hx
      have e2 : (top : Int).fdiv 2 = (top : Int) / 2 := Int.fdiv_eq_ediv_of_nonneg _ (by decide)
      rcases e with rfl | rfl | rfl
      · exact ⟨0, rfl, by decide, by decide⟩
      · exact ⟨0, rfl, by decide, by decide⟩
      · exact ⟨_, rfl, by omega, by omega⟩
    obtain ⟨c, rfl, c1, c2⟩ := hx
    have k1 : Keep l H H1 := (Keep.new nq).trans k1
    have S1 := hS.keep k1
    refine ⟨_, rfl, n, rfl, by omega, by omega, fun D nD => ?_⟩
    have hDl := r1.ne nD
    refine lc_it walk_rng (fun i H' => Keep l H1 H' ∧ RowOk H' l a ∧ ∃ hs : List Int, H' D = some (.lst (hs.map V.int)) ∧ hs.length = i ∧ ∀ h ∈ hs, -99 ≤ h ∧ h ≤ 99) ⟨Keep.new nD, r1.over hDl, [], upd_same, rfl, by simp⟩ (fun _ _ _ _ => trivial) ?_ ?_
    · rintro i x H2 H3 hi ⟨k2, r2, hs, hD, hl, hb⟩ ⟨rfl, rfl⟩
      refine ⟨rfl, _, rfl, _, rfl, _, _, rfl, rfl, l, a, ns, top + 1, rfl, by omega, by omega, S1.keep k2, r2, fun H4 k k4 r4 hk => ?_⟩
      refine ⟨_, rfl, _, _, rfl, rfl, _, k4 _ _ hDl hD, by rw [List.length_map]; exact small1000 (by omega), keep_over (k2.trans k4) nD, r4.over hDl, hs ++ [(k : Int) + c], ?_, by rw [List.length_append, hl]; rfl, fun h hh => ?_⟩
      · rw [upd_same, List.map_append]
        rfl
      · rcases List.mem_append.mp hh with h' | h'
        · exact hb h h'
        · rw [List.mem_singleton.mp h']
          omega
    · rintro H2 ⟨k2, r2, hs, hD, hl, hb⟩
      refine ⟨D, _, rfl, .inl ⟨SqL.of hD, fun t nt => q0 _ t hs (k1.trans (k2.trans (Keep.new nt))) (r2.over (r2.ne nt)) upd_same ⟨hl, hb⟩⟩⟩
end
end Cl

set_option Elab.async false
set_option linter.all false
set_option maxRecDepth 100000
set_option maxHeartbeats 4000000
namespace Cl
open PySem PySem.Spec PyProof.Rows L2
section
variable {P : Program} {w : World} {K : PySem.W.Frag} {mg : Str → Option Value} {base : Heap}
theorem ok_whole {f : Addr} {fd : FuncData} (F : Fun K "whole" "whole" s_whole f fd) (Z : Bt mg) : FnOk P w K mg base CX0 1 f fd P_whole spWhole := by
  obtain ⟨tp, h_MOST_POINTS⟩ := Z.mp
  obtain ⟨th, h_MOST_HEIGHT⟩ := Z.mh
  refine F.ok sc_whole (fun vs H Q E h => ?_) (fun cdv A outer s H vs Q E hr h => ?_)
  · obtain ⟨i, rfl, _⟩ := h
    rfl
  · obtain ⟨i, rfl, q⟩ := h
    refine ⟨_, (pss_one (ps_ret (pe_and (pe_callB call_isi (by rfl) Z.isinstance (by decide +kernel) (pa_cons (pv 0) (pa_cons (pe_bltn (v := .ty "int") (by rfl) Z.int (by decide +kernel) rfl) pa_nil))) (pe_one (pe_not (pe_callB call_isi (by rfl) Z.isinstance (by decide +kernel) (pa_cons (pv 0) (pa_cons (pe_bltn (v := .ty "bool") (by rfl) Z.bool (by decide +kernel) rfl) pa_nil)))))))), ?_⟩
    refine ⟨_, rfl, _, _, _, _, true, rfl, .ty "int", .base (.int i), kit_ty (by decide +kernel), true, rfl, iteT ?_⟩
    refine ⟨_, rfl, _, _, _, _, false, rfl, .ty "bool", .base (.int i), kit_ty (by decide +kernel), false, rfl, ?_⟩
    exact q
theorem ok_within {f : Addr} {fd : FuncData} (F : Fun K "within" "within" s_within f fd) (Z : Bt mg) (C_whole : Cal P w K mg base CX0 1 "whole" P_whole spWhole) : FnOk P w K mg base CX0 2 f fd P_within spWithin := by
  obtain ⟨tp, h_MOST_POINTS⟩ := Z.mp
  obtain ⟨th, h_MOST_HEIGHT⟩ := Z.mh
  refine F.ok sc_within (fun vs H Q E h => ?_) (fun cdv A outer s H vs Q E hr h => ?_)
  · obtain ⟨v, lo, hi, rfl, _⟩ := h
    rfl
  · obtain ⟨v, lo, hi, rfl, h1, h2, q⟩ := h
    refine ⟨_, (pss_one (ps_ret (pe_and (pe_cal C_whole hr pass0 (pa_cons (pv 0) pa_nil)) (pe_one (pe_chain op_le op_le (pv 1) (pv 0) (pv 2)))))), ?_⟩
    refine ⟨_, rfl, v, rfl, true, rfl, iteT ?_⟩
    refine ⟨_, rfl, _, rfl, lo, v, rfl, rfl, _, rfl, ?_⟩
    rw [decide_eq_true h1]
    refine iteT ⟨_, rfl, v, hi, rfl, rfl, ?_⟩
    show Q (.bl (decide (v ≤ hi))) H
    rw [decide_eq_true h2]
    exact q
theorem ok_tuple_of {f : Addr} {fd : FuncData} (F : Fun K "tuple_of" "tuple_of" s_tuple_of f fd) (Z : Bt mg) : FnOk P w K mg base CX0 1 f fd P_tuple_of spTupleOf := by
  obtain ⟨tp, h_MOST_POINTS⟩ := Z.mp
  obtain ⟨th, h_MOST_HEIGHT⟩ := Z.mh
  refine F.ok sc_tuple_of (fun vs H Q E h => ?_) (fun cdv A outer s H vs Q E hr h => ?_)
  · obtain ⟨a, xs, lo, hi, rfl, _⟩ := h
    rfl
  · obtain ⟨a, xs, lo, hi, rfl, ha, h1, h2, q⟩ := h
    refine ⟨_, (pss_one (ps_ret (pe_and (pe_callB call_isi (by rfl) Z.isinstance (by decide +kernel) (pa_cons (pv 0) (pa_cons (pe_bltn (v := .ty "tuple") (by rfl) Z.tuple (by decide +kernel) rfl) pa_nil))) (pe_one (pe_chain op_le op_le (pv 1) (pe_callB (lenS (K := K)) (by rfl) Z.len (by decide +kernel) (pa_cons (pv 0) pa_nil)) (pv 2)))))), ?_⟩
    refine ⟨_, rfl, _, _, _, _, true, rfl, .ty "tuple", .base (.tup ha), kit_ty (by decide +kernel), true, rfl, iteT ?_⟩
    refine ⟨_, rfl, _, rfl, a, xs, rfl, .inr (SqT.of ha), lo, xs.length, rfl, rfl, _, rfl, ?_⟩
    rw [decide_eq_true h1]
    refine iteT ⟨_, rfl, xs.length, hi, rfl, rfl, ?_⟩
    show Q (.bl (decide ((xs.length : Int) ≤ hi))) H
    rw [decide_eq_true h2]
    exact q
theorem ok_need_point {f : Addr} {fd : FuncData} (F : Fun K "need_point" "need_point" s_need_point f fd) (Z : Bt mg) (C_within : Cal P w K mg base CX0 2 "within" P_within spWithin) : FnOk P w K mg base CX0 3 f fd P_need_point spNeedPoint := by
  obtain ⟨tp, h_MOST_POINTS⟩ := Z.mp
  obtain ⟨th, h_MOST_HEIGHT⟩ := Z.mh
  refine F.ok sc_need_point (fun vs H Q E h => ?_) (fun cdv A outer s H vs Q E hr h => ?_)
  · obtain ⟨p, n, es, k, rfl, _⟩ := h
    rfl
  · obtain ⟨p, n, es, k, rfl, hN, g, hk, q⟩ := h
    obtain ⟨t, as, h1, h2, h3, h4⟩ := hN
    refine ⟨_, (pss_one (ps_if (pt_not (pt_val (pe_cal C_within hr pass0 (pa_cons (pv 1) (pa_cons pe_int (pa_cons (pe_op op_sub (pe_ix (ixT (K := K)) (pv 0) pe_int (fun _ _ => rfl)) pe_int) pa_nil)))))) (pss_one ps_never) pss_nil)), ?_⟩
    refine ⟨_, rfl, _, rfl, p, _, 0, pt n, rfl, rfl, SqT.of h1, atI_nat (j := 0) rfl, n, 1, rfl, rfl, ?_⟩
    refine ⟨k, 0, (n : Int) - 1, rfl, by omega, by omega, true, rfl, ?_⟩
    exact iteF (q H (Same.refl H))
theorem ok_need_both {f : Addr} {fd : FuncData} (F : Fun K "need_both" "need_both" s_need_both f fd) (Z : Bt mg) (C_need_net : Cal P w K mg base CX0 3 "need_net" P_need_net spNeedNet) (C_need_row : Cal P w K mg base CX0 3 "need_row" P_need_row spNeedRow) : FnOk P w K mg base CX0 4 f fd P_need_both spNeedRow := by
  obtain ⟨tp, h_MOST_POINTS⟩ := Z.mp
  obtain ⟨th, h_MOST_HEIGHT⟩ := Z.mh
  refine F.ok sc_need_both (fun vs H Q E h => ?_) (fun cdv A outer s H vs Q E hr h => ?_)
  · obtain ⟨p, n, es, r, hs, rfl, _⟩ := h
    rfl
  · obtain ⟨p, n, es, r, hs, rfl, hN, g, hR, gR, q⟩ := h
    refine ⟨_, (pss_cons (ps_expr (pe_cal C_need_net hr pass0 (pa_cons (pv 0) pa_nil)))
        (pss_one (ps_expr (pe_cal C_need_row hr pass0 (pa_cons (pv 0) (pa_cons (pv 1) pa_nil)))))), ?_⟩
    refine ⟨_, rfl, p, n, es, rfl, hN, g, fun H1 s1 => ?_⟩
    refine ⟨_, rfl, _, rfl, p, n, es, r, hs, rfl, hN.same s1, g, hR.same s1, gR, fun H2 s2 => ?_⟩
    exact q H2 (s1.trans s2)
theorem ok_need_row {f : Addr} {fd : FuncData} (F : Fun K "need_row" "need_row" s_need_row f fd) (Z : Bt mg) (C_tuple_of : Cal P w K mg base CX0 1 "tuple_of" P_tuple_of spTupleOf) (C_within : Cal P w K mg base CX0 2 "within" P_within spWithin) : FnOk P w K mg base CX0 3 f fd P_need_row spNeedRow := by
  obtain ⟨tp, h_MOST_POINTS⟩ := Z.mp
  obtain ⟨th, h_MOST_HEIGHT⟩ := Z.mh
  refine F.ok sc_need_row (fun vs H Q E h => ?_) (fun cdv A outer s H vs Q E hr h => ?_)
  · obtain ⟨p, n, es, r, hs, rfl, _⟩ := h
    rfl
  · obtain ⟨p, n, es, r, hs, rfl, hN, g, hR, gR, q⟩ := h
    obtain ⟨t, as, h1, h2, h3, h4⟩ := id hN
    have hR' : H r = some (.tup (hs.map V.int)) := hR
    refine ⟨_, (pss_cons (ps_if (pt_not (pt_val (pe_cal C_tuple_of hr pass0 (pa_cons (pv 1) (pa_cons (pe_ix (ixT (K := K)) (pv 0) pe_int (fun _ _ => rfl)) (pa_cons (pe_ix (ixT (K := K)) (pv 0) pe_int (fun _ _ => rfl)) pa_nil)))))) (pss_one ps_never) pss_nil)
        (pss_one (ps_for PassesOwn.never rfl (pi_enumT (by rfl) Z.enumerate (pa_cons (pv 1) pa_nil)) (pg_tup rfl (pgs_cons (pg_name (i := 2) sc_need_row.nd rfl (by first | exact .inl rfl | exact .inr rfl)) (pgs_cons (pg_name (i := 3) sc_need_row.nd rfl (by first | exact .inl rfl | exact .inr rfl)) pgs_nil))) (pss_one (ps_if (pt_not (pt_val (pe_cal C_within hr pass0 (pa_cons (pv 3) (pa_cons (pe_un un_neg (pe_glob (v := .int 99) (by rfl) h_MOST_HEIGHT ⟨_, rfl⟩)) (pa_cons (pe_glob (v := .int 99) (by rfl) h_MOST_HEIGHT ⟨_, rfl⟩) pa_nil)))))) (pss_one ps_never) pss_nil))))), ?_⟩
    refine ⟨_, rfl, _, rfl, p, _, 0, pt n, rfl, rfl, SqT.of h1, atI_nat (j := 0) rfl, ?_⟩
    refine ⟨_, rfl, p, _, 0, pt n, rfl, rfl, SqT.of h1, atI_nat (j := 0) rfl, ?_⟩
    refine ⟨r, _, (n : Int), (n : Int), rfl, hR', by rw [List.length_map, gR.1]; exact Int.le_refl _, by rw [List.length_map, gR.1]; exact Int.le_refl _, true, rfl, iteF ?_⟩
    refine ⟨_, rfl, r, _, rfl, SqT.of hR', for_it walk_enumT (fun i σ H' => ∃ y2 y3, σ = [some (.ref p), some (.ref r), y2, y3] ∧ Same H H') ⟨none, none, rfl, Same.refl H⟩ (fun i σ H' _ ⟨_, _, _, s1⟩ => SqT.of (s1 _ _ hR')) ?_ ?_⟩
    · rintro i x σ H1 H2 hi ⟨y2, y3, rfl, s1⟩ ⟨T, a1, a2, rfl, nT, rfl, e1, e2⟩
      obtain ⟨h, hh, rfl⟩ := ints_get e2
      cases e1
      have hb := gR.2 h (List.mem_of_getElem? hh)
      refine ⟨T, _, rfl, SqT.of upd_same, rfl, _, _, rfl, _, _, rfl, rfl, ?_⟩
      refine ⟨_, rfl, 99, rfl, h, -99, 99, rfl, hb.1, hb.2, true, rfl, iteF ?_⟩
      exact ⟨_, _, rfl, s1.trans (same_new nT)⟩
    · rintro σ H1 ⟨y2, y3, rfl, s1⟩
      exact q H1 s1
theorem lex_false {a b c d : Int} (h : c < a ∨ (c = a ∧ d < b)) : Ob.lexAt (fun j => decide (([a, b] : List Int).getD j 0 = ([c, d] : List Int).getD j 0)) (fun j => decide (([a, b] : List Int).getD j 0 ≤ ([c, d] : List Int).getD j 0)) (decide (([a, b] : List Int).length ≤ ([c, d] : List Int).length)) 0 (min ([a, b] : List Int).length ([c, d] : List Int).length) = false := by
  show (if decide (a = c) = true then (if decide (b = d) = true then decide (2 ≤ 2) else decide (b ≤ d)) else decide (a ≤ c)) = false
  rcases h with h | ⟨h1, h2⟩
  · rw [if_neg (by simp; omega)]
    exact decide_eq_false (by omega)
  · rw [if_pos (by simp; omega), if_neg (by simp; omega)]
    exact decide_eq_false (by omega)
theorem ok_need_net {f : Addr} {fd : FuncData} (F : Fun K "need_net" "need_net" s_need_net f fd) (Z : Bt mg) (C_tuple_of : Cal P w K mg base CX0 1 "tuple_of" P_tuple_of spTupleOf) (C_within : Cal P w K mg base CX0 2 "within" P_within spWithin) : FnOk P w K mg base CX0 3 f fd P_need_net spNeedNet := by
  obtain ⟨tp, h_MOST_POINTS⟩ := Z.mp
  obtain ⟨th, h_MOST_HEIGHT⟩ := Z.mh
  refine F.ok sc_need_net (fun vs H Q E h => ?_) (fun cdv A outer s H vs Q E hr h => ?_)
  · obtain ⟨p, n, es, rfl, _⟩ := h
    rfl
  · obtain ⟨p, n, es, rfl, hN, g, q⟩ := h
    obtain ⟨t, as, h1, h2, h3, h4⟩ := id hN
    refine ⟨_, (pss_cons (ps_if (PW.pt (pw_or (pt_not (pt_val (pe_cal C_tuple_of hr pass0 (pa_cons (pv 0) (pa_cons pe_int (pa_cons pe_int pa_nil)))))) (pw_or (pt_not (pt_val (pe_cal C_within hr pass0 (pa_cons (pe_ix (ixT (K := K)) (pv 0) pe_int (fun _ _ => rfl)) (pa_cons pe_int (pa_cons (pe_glob (v := .int 12) (by rfl) h_MOST_POINTS ⟨_, rfl⟩) pa_nil)))))) (pw_or1 (pt_not (pt_val (pe_cal C_tuple_of hr pass0 (pa_cons (pe_ix (ixT (K := K)) (pv 0) pe_int (fun _ _ => rfl)) (pa_cons pe_int (pa_cons pe_int pa_nil)))))))))) (pss_one ps_never) pss_nil)
        (pss_one (ps_for PassesOwn.never rfl (pi_enumT (by rfl) Z.enumerate (pa_cons (pe_ix (ixT (K := K)) (pv 0) pe_int (fun _ _ => rfl)) pa_nil)) (pg_tup rfl (pgs_cons (pg_name (i := 1) sc_need_net.nd rfl (by first | exact .inl rfl | exact .inr rfl)) (pgs_cons (pg_name (i := 2) sc_need_net.nd rfl (by first | exact .inl rfl | exact .inr rfl)) pgs_nil))) (pss_cons (ps_if (PW.pt (pw_or (pt_not (pt_val (pe_cal C_tuple_of hr pass0 (pa_cons (pv 2) (pa_cons pe_int (pa_cons pe_int pa_nil)))))) (pw_or1 (pt_not (pt_val (pe_callB (cr_all rfl) (by rfl) Z.all (by decide +kernel) (pa_cons (pe_lc (own := [("point", 3)]) (g := gName 3) rfl sc_need_net.nd (piTup (K := K) (pv 2)) (blkOk_by (own := [("point", 3)]) (N := N_need_net) (sc := defScope s_need_net) (by decide +kernel)) (fun _ _ _ _ _ => pg_name (i := 3) sc_need_net.nd rfl (by first | exact .inl rfl | exact .inr rfl)) (fun _ _ _ _ _ => pts_nil) (fun _ _ _ _ _ => (pe_cal C_within hr pass0 (pa_cons (pv 3) (pa_cons pe_int (pa_cons (pe_op op_sub (pe_ix (ixT (K := K)) (pv 0) pe_int (fun _ _ => rfl)) pe_int) pa_nil)))))) pa_nil))))))) (pss_one ps_never) pss_nil)
        (pss_one (ps_if (PW.pt (pw_or (pt_cmpR op_ge (pe_ix (ixT (K := K)) (pv 2) pe_int (fun _ _ => rfl)) (pe_ix (ixT (K := K)) (pv 2) pe_int (fun _ _ => rfl)) (nomark _)) (pw_or1 (PW.pt (pw_and (pt_cmpR op_gt (pv 1) pe_int (nomark _)) (pw_and1 (pt_cmpR (op_leT hr.units0) (pv 2) (pe_ix (ixT (K := K)) (pe_ix (ixT (K := K)) (pv 0) pe_int (fun _ _ => rfl)) (pe_op op_sub (pv 1) pe_int) (fun _ _ => rfl)) (nomark _)))))))) (pss_one ps_never) pss_nil)))))), ?_⟩
    have hn := g.pos
    have hn2 := g.le
    -- the first test
    refine ⟨_, rfl, p, _, 2, 2, rfl, h1, (by exact Int.le_refl 2), (by exact Int.le_refl 2), true, rfl, iteF ?_⟩
    refine ⟨_, rfl, p, _, 0, pt n, rfl, rfl, SqT.of h1, atI_nat (j := 0) rfl, n, 1, 12, rfl, by omega, by omega, true, rfl, iteF ?_⟩
    refine ⟨_, rfl, p, _, 1, .ref t, rfl, rfl, SqT.of h1, atI_nat (j := 1) rfl, t, _, 0, 66, rfl, h2, by omega, by rw [List.length_map, h3]; have := g.len; omega, true, rfl, iteF ?_⟩
    -- the loop
    refine ⟨_, rfl, p, _, 1, .ref t, rfl, rfl, SqT.of h1, atI_nat (j := 1) rfl, t, _, rfl, SqT.of h2, for_it walk_enumT (fun i σ H' => ∃ y1 y2, σ = [some (.ref p), y1, y2, none] ∧ Same H H') ⟨none, none, rfl, Same.refl H⟩ (fun i σ H' _ ⟨_, _, _, s1⟩ => SqT.of (s1 _ _ h2)) ?_ ?_⟩
    · rintro i x σ H1 H2 hi ⟨y1, y2, rfl, s1⟩ ⟨T, a1, a2, rfl, nT, rfl, e1, e2⟩
      obtain ⟨a, ha, rfl⟩ := refs_get e2
      obtain ⟨e, he⟩ := get_some (l := es) (i := i) (by rw [← h3]; exact get_lt ha)
      cases e1
      have ge := g.lt e (List.mem_of_getElem? he)
      have s2 : Same H (upd H1 T (.tup [.int (i : Nat), .ref a])) := s1.trans (same_new nT)
      have hp : H a = some (.tup [pt e.1, pt e.2]) := h4 i a e ha he
      refine ⟨T, _, rfl, SqT.of upd_same, rfl, _, _, rfl, _, _, rfl, rfl, ?_⟩
      generalize upd H1 T (.tup [.int (i : Nat), .ref a]) = H2 at s2
      refine ⟨_, rfl, a, _, 2, 2, rfl, s2 _ _ hp, (by exact Int.le_refl 2), (by exact Int.le_refl 2), true, rfl, iteF ?_⟩
      -- all([within(..) ..])
      refine ⟨_, rfl, a, rfl, ⟨_, SqT.of (s2 _ _ hp)⟩, fun D nD => lc_tup (xs := [pt e.1, pt e.2]) (fun j H' => Same H2 H' ∧ H' D = some (.lst ((List.replicate j true).map V.bl))) ⟨same_new nD, upd_same⟩ (fun j H' _ hh => SqT.of (hh.1 _ _ (s2 _ _ hp))) ?_ ?_⟩
      · rintro j x H3 hx ⟨s3, hD⟩
        refine ⟨rfl, ?_⟩
        have hx' : ∃ k : Nat, x = pt k ∧ k < n := by
          match j, hx with
          | 0, hx => exact ⟨e.1, (Option.some.inj hx).symm, by omega⟩
          | 1, hx => exact ⟨e.2, (Option.some.inj hx).symm, by omega⟩
        obtain ⟨k, rfl, hk⟩ := hx'
        refine ⟨_, rfl, _, rfl, p, _, 0, pt n, rfl, rfl, SqT.of (s3 _ _ (s2 _ _ h1)), atI_nat (j := 0) rfl, n, 1, rfl, rfl, k, 0, (n : Int) - 1, rfl, by omega, by omega, _, hD, ?_, same_over s3 nD, ?_⟩
        · rw [List.length_map, List.length_replicate]
          have := get_lt hx
          exact small1000 (by simp at this; omega)
        · rw [upd_same, List.replicate_succ', List.map_append]
          rfl
      · rintro H3 ⟨s3, hD⟩
        refine ⟨D, _, rfl, SqL.of hD, _, rfl, iteF ?_⟩
        have s4 : Same H H3 := s2.trans s3
        -- pair[0] >= pair[1]
        refine ⟨_, rfl, a, _, 0, pt e.1, rfl, rfl, SqT.of (s4 _ _ hp), atI_nat (j := 0) rfl, _, rfl, a, _, 1, pt e.2, rfl, rfl, SqT.of (s4 _ _ hp), atI_nat (j := 1) rfl, e.1, e.2, rfl, rfl, _, rfl, ?_⟩
        rw [decide_eq_false (by omega)]
        refine iteF ⟨_, rfl, _, _, rfl, rfl, _, rfl, ite2 (fun hpos => ?_) (fun _ => iteF ⟨_, _, rfl, s4⟩)⟩
        have hpos : 0 < i := by
          have := of_decide_eq_true hpos
          omega
        obtain ⟨e', he'⟩ := get_some (l := es) (i := i - 1) (by have := get_lt he; omega)
        obtain ⟨a', ha'⟩ := get_some (l := as) (i := i - 1) (by have := get_lt ha; omega)
        have hp' : H a' = some (.tup [pt e'.1, pt e'.2]) := h4 (i - 1) a' e' ha' he'
        refine ⟨_, rfl, _, rfl, p, _, 1, .ref t, rfl, rfl, SqT.of (s4 _ _ h1), atI_nat (j := 1) rfl, _, rfl, i, 1, rfl, rfl, t, _, _, .ref a', rfl, rfl, SqT.of (s4 _ _ h2), at_of (j := i - 1) (by omega) (refs_at ha'), a, a', [(e.1 : Int), e.2], [(e'.1 : Int), e'.2], rfl, rfl, SqT.of (s4 _ _ hp), SqT.of (s4 _ _ hp'), ?_⟩
        have asc := List.pairwise_iff_getElem.mp g.asc (i - 1) i (get_lt he') (get_lt he) (by omega)
        rw [(List.getElem?_eq_some_iff.mp he').2, (List.getElem?_eq_some_iff.mp he).2] at asc
        rw [lex_false (by omega)]
        exact ⟨_, rfl, iteF ⟨_, _, rfl, s4⟩⟩
    · rintro σ H1 ⟨y1, y2, rfl, s1⟩
      exact q H1 s1
end
end Cl

set_option Elab.async false
set_option linter.all false
set_option maxRecDepth 100000
set_option maxHeartbeats 4000000
namespace Cl
open PySem PySem.Spec PyProof.Rows L2
section
variable {P : Program} {w : World} {K : PySem.W.Frag} {mg : Str → Option Value} {base : Heap}
/-! ### lists of points at new addresses -/
structure LisAt (H0 H : Hp) (f : Addr) (as : List Addr) (adj : List (List Nat)) : Prop where
  top : H f = some (.lst (as.map V.ref))
  len : as.length = adj.length
  nd : as.Nodup
  out : f ∉ as
  nf : H0 f = none
  na : ∀ a ∈ as, H0 a = none
  row : ∀ (i : Nat) (a : Addr) (l : List Nat), as[i]? = some a → adj[i]? = some l → H a = some (.lst (pts l))
theorem LisAt.set {H0 H : Hp} {f a : Addr} {as : List Addr} {adj : List (List Nat)} {u : Nat} {l : List Nat} (L : LisAt H0 H f as adj) (ha : as[u]? = some a) : LisAt H0 (upd H a (.lst (pts l))) f as (adj.set u l) := by
  have ma := List.mem_of_getElem? ha
  refine ⟨?_, by rw [List.length_set]; exact L.len, L.nd, L.out, L.nf, L.na, fun i b m hb hm => ?_⟩
  · rw [upd_ne (fun z => L.out (by rw [z]; exact ma))]
    exact L.top
  · by_cases e : i = u
    · subst e
      rw [ha] at hb
      cases hb
      rw [List.getElem?_set_self (by rw [← L.len]; exact get_lt ha)] at hm
      cases hm
      exact upd_same
    · have hba : b ≠ a := fun z => by
        subst z
        exact e (nd_ix L.nd hb ha)
      rw [upd_ne hba]
      rw [List.getElem?_set_ne (Ne.symm e)] at hm
      exact L.row i b m hb hm
theorem J_take {es : List (Nat × Nat)} {k : Nat} {e : Nat × Nat} (h : es[k]? = some e) (i j : Nat) : J (es.take (k + 1)) i j ↔ J (es.take k) i j ∨ (i = e.1 ∧ j = e.2) ∨ (i = e.2 ∧ j = e.1) := by
  unfold J
  rw [take_snoc h, List.mem_append, List.mem_append, List.mem_singleton, List.mem_singleton]
  obtain ⟨a, b⟩ := e
  simp only [Prod.mk.injEq]
  constructor
  · rintro ((h | h) | (h | h))
    · exact .inl (.inl h)
    · exact .inr (.inl h)
    · exact .inl (.inr h)
    · exact .inr (.inr ⟨h.2, h.1⟩)
  · rintro ((h | h) | (h | h))
    · exact .inl (.inl h)
    · exact .inr (.inl h)
    · exact .inl (.inr h)
    · exact .inr (.inr ⟨h.2, h.1⟩)
theorem ok_near_of {f : Addr} {fd : FuncData} (F : Fun K "near_of" "near_of" s_near_of f fd) (Z : Bt mg) : FnOk P w K mg base CX0 1 f fd P_near_of spNearOf := by
  obtain ⟨tp, h_MOST_POINTS⟩ := Z.mp
  obtain ⟨th, h_MOST_HEIGHT⟩ := Z.mh
  refine F.ok sc_near_of (fun vs H Q E h => ?_) (fun cdv A outer s H vs Q E hr h => ?_)
  · obtain ⟨p, n, es, rfl, _⟩ := h
    rfl
  · obtain ⟨p, n, es, rfl, hN, g, q⟩ := h
    obtain ⟨t, es_a, h1, h2, h3, h4⟩ := id hN
    have hn := g.pos
    have hn2 := g.le
    have hl2 := g.len
    refine ⟨_, (pss_cons (ps_setLc (i := 1) (own := [("point", 4)]) (g := gName 4) rfl sc_near_of.nd rfl rfl (sw_true rfl rfl rfl (by decide +kernel)) (pi_range1 (by rfl) Z.range (pa_cons (pe_ix (ixT (K := K)) (pv 0) pe_int (fun _ _ => rfl)) pa_nil)) (blkOk_by (own := [("point", 4)]) (N := N_near_of) (sc := defScope s_near_of) (by decide +kernel)) (fun _ _ _ _ _ => pg_name (i := 4) sc_near_of.nd rfl (by first | exact .inl rfl | exact .inr rfl)) (fun _ _ _ _ _ => pts_nil) (fun _ _ _ _ _ => (pe_lst pa_nil)))
        (pss_cons (ps_for PassesOwn.never rfl (piTup (K := K) (pe_ix (ixT (K := K)) (pv 0) pe_int (fun _ _ => rfl))) (pg_tup rfl (pgs_cons (pg_name (i := 2) sc_near_of.nd rfl (by first | exact .inl rfl | exact .inr rfl)) (pgs_cons (pg_name (i := 3) sc_near_of.nd rfl (by first | exact .inl rfl | exact .inr rfl)) pgs_nil))) (pss_cons (ps_expr (pe_bm PySem.F.plainAttrs_list PySem.F.slot_list_append PySem.F.type_list_append mt_append (pe_ix (ixL (K := K)) (pv 1) (pv 2) (fun _ _ => rfl)) (pa_cons (pv 3) pa_nil)))
        (pss_one (ps_expr (pe_bm PySem.F.plainAttrs_list PySem.F.slot_list_append PySem.F.type_list_append mt_append (pe_ix (ixL (K := K)) (pv 1) (pv 3) (fun _ _ => rfl)) (pa_cons (pv 2) pa_nil))))))
        (pss_one (ps_ret (pe_lc (own := [("points", 5)]) (g := gName 5) rfl sc_near_of.nd (piList (K := K) (pv 1)) (blkOk_by (own := [("points", 5)]) (N := N_near_of) (sc := defScope s_near_of) (by decide +kernel)) (fun _ _ _ _ _ => pg_name (i := 5) sc_near_of.nd rfl (by first | exact .inl rfl | exact .inr rfl)) (fun _ _ _ _ _ => pts_nil) (fun _ _ _ _ _ => (pe_callB (srtI (K := K)) (by rfl) Z.sorted (by decide +kernel) (pa_cons (pv 5) pa_nil)))))))), ?_⟩
    -- found = [[] for point in range(net[0])]
    refine ⟨_, rfl, p, _, 0, pt n, rfl, rfl, SqT.of h1, atI_nat (j := 0) rfl, n, rfl, by omega, by omega, fun f nf => ?_⟩
    refine lc_it walk_range (fun i H' => Same H H' ∧ ∃ as, LisAt H H' f as (List.replicate i [])) ⟨same_new nf, [], upd_same, rfl, List.nodup_nil, by simp, nf, by simp, fun i a l h => by simp at h⟩ (fun _ _ _ _ => trivial) ?_ ?_
    · rintro i x H1 H2 hi ⟨s1, as, L⟩ ⟨rfl, rfl⟩
      have hin : i < n := by simpa using hi
      refine ⟨rfl, Nat.zero_le _, fun b nb => ?_⟩
      have nbf : f ≠ b := ne_of_none L.top nb
      have nba : ∀ a ∈ as, a ≠ b := fun a ha z => by
        obtain ⟨j, hj⟩ := List.mem_iff_getElem?.mp ha
        obtain ⟨l, hl⟩ := get_some (l := List.replicate i ([] : List Nat)) (i := j) (by rw [← L.len]; exact get_lt hj)
        exact ne_of_none (L.row j a l hj hl) nb z
      have n0 : H b = none := s1.free nb
      refine ⟨as.map V.ref, by rw [upd_ne nbf]; exact L.top, ?_, same_over (s1.trans (same_new nb)) nf, as ++ [b], ?_⟩
      · have := L.len
        rw [List.length_replicate] at this
        rw [List.length_map]
        exact small1000 (by omega)
      · refine ⟨by rw [upd_same, List.map_append]; rfl, by rw [List.length_append, L.len, List.length_replicate, List.length_replicate]; rfl, nd_snoc L.nd fun m => nba b m rfl, fun m => ?_, nf, fun a ha => ?_, fun j a l hj hl => ?_⟩
        · rcases List.mem_append.mp m with m | m
          · exact L.out m
          · exact nbf (List.mem_singleton.mp m)
        · rcases List.mem_append.mp ha with m | m
          · exact L.na a m
          · rw [List.mem_singleton.mp m]; exact n0
        · have hl0 : l = [] := by
            have := List.mem_of_getElem? hl
            exact (List.mem_replicate.mp this).2
          subst hl0
          have haf : a ≠ f := fun z => by
            have := List.mem_of_getElem? hj
            rw [z] at this
            rcases List.mem_append.mp this with m | m
            · exact L.out m
            · exact nbf (List.mem_singleton.mp m)
          rw [upd_ne haf]
          by_cases hja : j < as.length
          · rw [List.getElem?_append_left hja] at hj
            rw [upd_ne (nba a (List.mem_of_getElem? hj))]
            exact L.row j a [] hj (by rw [List.getElem?_replicate, if_pos (by have := L.len; rw [List.length_replicate] at this; omega)])
          · rw [List.getElem?_append_right (by omega)] at hj
            have : a = b := by
              have := List.mem_of_getElem? hj
              simpa using this
            rw [this, upd_same]
            rfl
    · rintro H1 ⟨s1, as, L⟩
      have e0 : ((n : Int) - 0).toNat = n ∨ (n : Int).toNat = n := by omega
      -- the loop over the pairs
      refine ⟨_, rfl, p, _, 1, .ref t, rfl, rfl, SqT.of (s1 _ _ h1), atI_nat (j := 1) rfl, t, rfl, ⟨_, SqT.of (s1 _ _ h2)⟩,
        for_it (walk_tup (xs := es_a.map V.ref)) (fun k σ H' => ∃ y2 y3 adj, σ = [some (.ref p), some (.ref f), y2, y3, none, none] ∧ Same H H' ∧ LisAt H H' f as adj ∧ adj.length = n ∧ ∀ i l, adj[i]? = some l → (∀ j, j ∈ l ↔ J (es.take k) i j) ∧ l.length ≤ 2 * k)
          ⟨none, none, _, rfl, s1, L, by rw [List.length_replicate]; simp, fun i l hl => ?_⟩ (fun i σ H' _ ⟨_, _, _, _, s2, _⟩ => SqT.of (s2 _ _ h2)) ?_ ?_⟩
      · have hl0 : l = [] := (List.mem_replicate.mp (List.mem_of_getElem? hl)).2
        subst hl0
        refine ⟨fun j => ?_, Nat.le_refl _⟩
        unfold J
        simp
      · rintro k x σ H2 H3 hk ⟨y2, y3, adj, rfl, s2, L2, ln, inv⟩ ⟨rfl, hx⟩
        obtain ⟨a, ha, rfl⟩ := refs_get hx
        obtain ⟨e, he⟩ := get_some (l := es) (i := k) (by rw [← h3]; exact get_lt ha)
        have ge := g.lt e (List.mem_of_getElem? he)
        have hp : H3 a = some (.tup [pt e.1, pt e.2]) := s2 _ _ (h4 k a e ha he)
        have hk2 := get_lt he
        refine ⟨a, _, rfl, SqT.of hp, rfl, _, _, rfl, _, _, rfl, rfl, ?_⟩
        obtain ⟨b1, hb1⟩ := get_some (l := as) (i := e.1) (by rw [L2.len, ln]; omega)
        obtain ⟨l1, hl1⟩ := get_some (l := adj) (i := e.1) (by rw [ln]; omega)
        have i1 := inv e.1 l1 hl1
        have hB1 := L2.row e.1 b1 l1 hb1 hl1
        -- found[one].append(other)
        refine ⟨_, rfl, _, rfl, f, _, e.1, .ref b1, rfl, rfl, SqL.of L2.top, atI_nat (refs_at hb1), .inl ⟨rfl, _, SqL.of hB1⟩, _, rfl, b1, _, _, rfl, rfl, hB1, by rw [pts_len]; exact small1000 (by omega), ?_⟩
        have ea : (pts l1 ++ [pt e.2]) = pts (l1 ++ [e.2]) := by unfold pts; rw [List.map_append]; rfl
        show ∃ _, _
        rw [ea]
        have L3 : LisAt H (upd H3 b1 (.lst (pts (l1 ++ [e.2])))) f as (adj.set e.1 (l1 ++ [e.2])) := L2.set hb1
        have s3 : Same H (upd H3 b1 (.lst (pts (l1 ++ [e.2])))) := same_over s2 (L2.na b1 (List.mem_of_getElem? hb1))
        generalize upd H3 b1 (.lst (pts (l1 ++ [e.2]))) = H4 at L3 s3
        obtain ⟨b2, hb2⟩ := get_some (l := as) (i := e.2) (by rw [L2.len, ln]; omega)
        obtain ⟨l2, hl2'⟩ := get_some (l := adj) (i := e.2) (by rw [ln]; omega)
        have i2 := inv e.2 l2 hl2'
        have hl3 : (adj.set e.1 (l1 ++ [e.2]))[e.2]? = some l2 := by rw [List.getElem?_set_ne (by omega)]; exact hl2'
        have hB2 := L3.row e.2 b2 l2 hb2 hl3
        refine ⟨_, rfl, _, rfl, f, _, e.2, .ref b2, rfl, rfl, SqL.of L3.top, atI_nat (refs_at hb2), .inl ⟨rfl, _, SqL.of hB2⟩, _, rfl, b2, _, _, rfl, rfl, hB2, by rw [pts_len]; exact small1000 (by omega), ?_⟩
        have ea2 : (pts l2 ++ [pt e.1]) = pts (l2 ++ [e.1]) := by unfold pts; rw [List.map_append]; rfl
        show ∃ _, _
        rw [ea2]
        refine ⟨_, _, _, rfl, same_over s3 (L3.na b2 (List.mem_of_getElem? hb2)), L3.set hb2, by rw [List.length_set, List.length_set]; exact ln, fun i l hl => ?_⟩
        by_cases c2 : i = e.2
        · subst c2
          rw [List.getElem?_set_self (by rw [List.length_set]; omega)] at hl
          cases hl
          refine ⟨fun j => ?_, by rw [List.length_append, List.length_singleton]; omega⟩
          rw [J_take he, List.mem_append, List.mem_singleton, i2.1]
          constructor
          · rintro (h | h)
            · exact .inl h
            · exact .inr (.inr ⟨rfl, h⟩)
          · rintro (h | ⟨h, _⟩ | ⟨_, h⟩)
            · exact .inl h
            · omega
            · exact .inr h
        · rw [List.getElem?_set_ne (Ne.symm c2)] at hl
          by_cases c1 : i = e.1
          · subst c1
            rw [List.getElem?_set_self (by omega)] at hl
            cases hl
            refine ⟨fun j => ?_, by rw [List.length_append, List.length_singleton]; omega⟩
            rw [J_take he, List.mem_append, List.mem_singleton, i1.1]
            constructor
            · rintro (h | h)
              · exact .inl h
              · exact .inr (.inl ⟨rfl, h⟩)
            · rintro (h | ⟨_, h⟩ | ⟨h, _⟩)
              · exact .inl h
              · exact .inr h
              · omega
          · rw [List.getElem?_set_ne (Ne.symm c1)] at hl
            have i3 := inv i l hl
            refine ⟨fun j => ?_, by omega⟩
            rw [J_take he, i3.1]
            constructor
            · exact .inl
            · rintro (h | ⟨h, _⟩ | ⟨h, _⟩)
              · exact h
              · exact absurd h c1
              · exact absurd h c2
      · rintro σ H2 ⟨y2, y3, adj, rfl, s2, L2, ln, inv⟩
        -- return [sorted(points) for points in found]
        refine ⟨_, rfl, f, rfl, ⟨_, SqL.of L2.top⟩, fun D nD => ?_⟩
        refine lc_it (walk_list (xs := as.map V.ref)) (fun i H' => Same H2 H' ∧ ∃ (bs : List Addr) (ms : List (List Nat)), H' D = some (.lst (bs.map V.ref)) ∧ bs.length = i ∧ ms.length = i ∧ (∀ (j : Nat) (b : Addr) (m : List Nat), bs[j]? = some b → ms[j]? = some m → H' b = some (.lst (pts m))) ∧ ∀ (j : Nat) (m l : List Nat), ms[j]? = some m → adj[j]? = some l → m.Perm l)
          ⟨same_new nD, [], [], upd_same, rfl, rfl, fun j b m h => by simp at h, fun j m l h => by simp at h⟩ (fun i H' _ hh => SqL.of (hh.1 _ _ L2.top)) ?_ ?_
        · rintro i x H3 H4 hi ⟨s3, bs, ms, hD, lb, lm, hb, hm⟩ ⟨rfl, hx⟩
          obtain ⟨a, ha, rfl⟩ := refs_get hx
          obtain ⟨l, hl⟩ := get_some (l := adj) (i := i) (by rw [← L2.len]; exact get_lt ha)
          have hA := s3 _ _ (L2.row i a l ha hl)
          have hA' : H4 a = some (.lst ((l.map fun (k : Nat) => (k : Int)).map V.int)) := by
            rw [hA]
            unfold pts
            rw [List.map_map]
            rfl
          refine ⟨rfl, _, rfl, a, _, rfl, SqL.of hA', fun ys b pm pw nb => ?_⟩
          have nbD : D ≠ b := ne_of_none hD nb
          obtain ⟨m, pm2, em⟩ := perm_lift (fun (k : Nat) => (k : Int)) pm l rfl
          have il := get_lt hl
          refine ⟨bs.map V.ref, by rw [upd_ne nbD]; exact hD, by rw [List.length_map]; exact small1000 (by omega), same_over (s3.trans (same_new nb)) nD, bs ++ [b], ms ++ [m], by rw [upd_same, List.map_append]; rfl, by rw [List.length_append, lb]; rfl, by rw [List.length_append, lm]; rfl, fun j c m' hc hm' => ?_, fun j m' l' hm' hl' => ?_⟩
          · by_cases hj : j < i
            · rw [List.getElem?_append_left (by omega)] at hc hm'
              have q1 := hb j c m' hc hm'
              rw [upd_ne (ne_of q1 hD fun z => ?_), upd_ne (ne_of_none q1 nb)]
              · exact q1
              · have z := HO.lst.inj z
                cases m' with
                | nil =>
                  have : bs = [] := by
                    cases bs with
                    | nil => rfl
                    | cons b bs => cases z
                  rw [this] at lb
                  simp at lb
                  omega
                | cons k m' =>
                  cases bs with
                  | nil => cases z
                  | cons b bs =>
                    have := (List.cons.inj z).1
                    cases this
            · have hj2 : j = i := by have := get_lt hc; rw [List.length_append, lb] at this; simp at this; omega
              subst hj2
              rw [List.getElem?_append_right (by omega), lb, Nat.sub_self] at hc
              rw [List.getElem?_append_right (by omega), lm, Nat.sub_self] at hm'
              cases hc
              cases hm'
              rw [upd_ne (Ne.symm nbD), upd_same, ← em]
              unfold pts
              rw [List.map_map]
              rfl
          · by_cases hj : j < i
            · rw [List.getElem?_append_left (by omega)] at hm'
              exact hm j m' l' hm' hl'
            · have hj2 : j = i := by have := get_lt hm'; rw [List.length_append, lm] at this; simp at this; omega
              subst hj2
              rw [List.getElem?_append_right (by omega), lm, Nat.sub_self] at hm'
              cases hm'
              rw [hl] at hl'
              cases hl'
              exact pm2
        · rintro H3 ⟨s3, bs, ms, hD, lb, lm, hb, hm⟩
          rw [List.length_map] at lb lm
          refine q H3 D ms (s2.trans s3) ⟨bs, hD, by omega, hb⟩ ⟨by rw [lm, L2.len, ln], fun i m hi j => ?_⟩
          obtain ⟨l, hl⟩ := get_some (l := adj) (i := i) (by have := get_lt hi; have := L2.len; omega)
          rw [(hm i m l hi hl).mem_iff, (inv i l hl).1, List.length_map, h3, List.take_length]
end
end Cl

set_option Elab.async false
set_option linter.all false
set_option maxRecDepth 100000
set_option maxHeartbeats 4000000
namespace Cl
open PySem PySem.Spec PyProof.Rows L2
section
variable {P : Program} {w : World} {K : PySem.W.Frag} {mg : Str → Option Value} {base : Heap}
/-! ### dicts of points -/
theorem keys_some {ks : List Nat} {kvs : List (Key × V)} (h : kvs.map (·.1) = keysK ks) (k : Nat) : (valV kvs (Sum.inl (k : Int))).isSome = decide (k ∈ ks) := by
  rw [← valV_any]
  by_cases m : k ∈ ks
  · rw [decide_eq_true m]
    have : (Sum.inl (k : Int) : Key) ∈ kvs.map (·.1) := by rw [h]; exact List.mem_map.mpr ⟨k, m, rfl⟩
    obtain ⟨p, hp, e⟩ := List.mem_map.mp this
    exact List.any_eq_true.mpr ⟨p, hp, decide_eq_true e⟩
  · rw [decide_eq_false m]
    refine List.any_eq_false.mpr fun p hp e => m ?_
    have e' := of_decide_eq_true e
    have : (Sum.inl (k : Int) : Key) ∈ kvs.map (·.1) := List.mem_map.mpr ⟨p, hp, e'⟩
    rw [h] at this
    obtain ⟨k', hk', e2⟩ := List.mem_map.mp this
    have : (k' : Int) = k := Sum.inl.inj e2
    have : k' = k := by omega
    rw [← this]
    exact hk'
def dkT (fs : List Nat) : List (Key × V) := fs.map fun (k : Nat) => (Sum.inl (k : Int), .bl true)
theorem dkT_keys (fs : List Nat) : (dkT fs).map (·.1) = keysK fs := by
  unfold dkT keysK
  rw [List.map_map]
  rfl
theorem dkT_snoc {fs : List Nat} {k : Nat} (h : k ∉ fs) : putK (dkT fs) (Sum.inl (k : Int)) (.bl true) = dkT (fs ++ [k]) := by
  have e : valV (dkT fs) (Sum.inl (k : Int)) = none := by
    have := keys_some (dkT_keys fs) k
    rw [decide_eq_false h] at this
    cases z : valV (dkT fs) (Sum.inl (k : Int)) with
    | none => rfl
    | some v => rw [z] at this; cases this
  rw [putK_new _ e]
  unfold dkT
  rw [List.map_append]
  rfl
theorem nodup_le {fs : List Nat} {n : Nat} (h : fs.Nodup) (hn : ∀ v ∈ fs, v < n) : fs.length ≤ n := by
  have := nat_nodup_len fs (List.range n) h fun x hx => List.mem_range.mpr (hn x hx)
  rwa [List.length_range] at this
/-- what a search has found, and what it has still to look at -/
structure RInv (n : Nat) (es : List (Nat × Nat)) (S : Nat → Prop) (s : Nat) (fs rs : List Nat) (skip : Nat → Prop) : Prop where
  nd : fs.Nodup
  lt : ∀ v ∈ fs, v < n
  st : s ∈ fs
  cn : ∀ v ∈ fs, ∃ m, m < fs.length ∧ Cn (J es) S s m v
  sub : ∀ v ∈ rs, v ∈ fs
  len : rs.length ≤ fs.length
  cl : ∀ u ∈ fs, u ∉ rs → ¬ skip u → ∀ v, J es u v → S v → v ∈ fs
theorem RInv.add {n : Nat} {es : List (Nat × Nat)} {S : Nat → Prop} {s : Nat} {fs rs : List Nat} {skip : Nat → Prop} (R : RInv n es S s fs rs skip) {u v : Nat} (hu : u ∈ fs) (hj : J es u v) (hS : S v) (hv : v ∉ fs) (hn : v < n) : RInv n es S s (fs ++ [v]) (rs ++ [v]) skip := by
  refine ⟨nd_snoc R.nd hv, fun x hx => ?_, List.mem_append_left _ R.st, fun x hx => ?_, fun x hx => ?_, by rw [List.length_append, List.length_append]; have := R.len; simp; omega, fun a ha hna hsk b hb hSb => ?_⟩
  · rcases List.mem_append.mp hx with h | h
    · exact R.lt x h
    · rw [List.mem_singleton.mp h]; exact hn
  · rw [List.length_append]
    rcases List.mem_append.mp hx with h | h
    · obtain ⟨m, h1, h2⟩ := R.cn x h
      exact ⟨m, by simp; omega, h2⟩
    · obtain ⟨m, h1, h2⟩ := R.cn u hu
      rw [List.mem_singleton.mp h]
      exact ⟨m + 1, by simp; omega, .step h2 hj hS⟩
  · rcases List.mem_append.mp hx with h | h
    · exact List.mem_append_left _ (R.sub x h)
    · exact List.mem_append_right _ h
  · rcases List.mem_append.mp ha with h | h
    · exact List.mem_append_left _ (R.cl a h (fun m => hna (List.mem_append_left _ m)) hsk b hb hSb)
    · exact absurd (List.mem_append_right _ h) hna
theorem ok_reach {f : Addr} {fd : FuncData} (F : Fun K "reach" "reach" s_reach f fd) (Z : Bt mg) : FnOk P w K mg base CX0 1 f fd P_reach spReach := by
  obtain ⟨tp, h_MOST_POINTS⟩ := Z.mp
  obtain ⟨th, h_MOST_HEIGHT⟩ := Z.mh
  refine F.ok sc_reach (fun vs H Q E h => ?_) (fun cdv A outer s H vs Q E hr h => ?_)
  · obtain ⟨p, s, kd, n, es, adj, ks, rfl, _⟩ := h
    rfl
  · obtain ⟨p, s0, kd, n, es, adj, ks, rfl, hN, gN, g, hs, ⟨kvs, hK, hks, ndk, lk⟩, q⟩ := h
    refine ⟨_, (pss_cons (ps_par (i := 3) (j := 4) rfl sc_reach.nd rfl rfl (by decide) rfl rfl (pa_cons (pe_disp (pps_cons (pv 1) pe_bl pps_nil) (by rfl) (by rfl) (fun z => by cases z) (by decide)) (pa_cons (pe_lst (pa_cons (pv 1) pa_nil)) pa_nil)) (by rfl))
        (pss_cons (ps_while PassesOwn.never (pt_cmpR (op_neD hr.units) (pv 4) (pe_lst pa_nil) (nomark _)) (pss_cons (ps_set (i := 5) sc_reach.nd rfl (by first | exact .inl rfl | exact .inr rfl) (pe_bm0 PySem.F.plainAttrs_list PySem.F.slot_list_pop PySem.F.type_list_pop mt_pop (pv 4)))
        (pss_one (ps_for PassesOwn.never rfl (piList (K := K) (pe_ix (ixL (K := K)) (pv 0) (pv 5) (fun _ _ => rfl))) (pg_name (i := 6) sc_reach.nd rfl (by first | exact .inl rfl | exact .inr rfl)) (pss_one (ps_if (PW.pt (pw_and (pt_cmp (pc_din (hu_of hr) (pv 6) (pv 2))) (pw_and1 (pt_cmp (pc_dnotin (hu_of hr) (pv 6) (pv 3)))))) (pss_cons (ps_dput (hu_of hr) (pv 3) (pv 6) pe_bl rfl)
        (pss_one (ps_expr (pe_bm PySem.F.plainAttrs_list PySem.F.slot_list_append PySem.F.type_list_append mt_append (pv 4) (pa_cons (pv 6) pa_nil))))) pss_nil))))))
        (pss_one (ps_ret (pe_callTy call_tuple_of (by rfl) Z.tuple (by decide +kernel) (pa_cons (pe_callB (call_sortedDI rfl) (by rfl) Z.sorted (by decide +kernel) (pa_cons (pv 3) pa_nil)) pa_nil)))))), ?_⟩
    have hn2 := g.le
    -- found, rim = {start: True}, [start]
    refine fun fd nfd => ⟨_, rfl, upd_same, [(Sum.inl (s0 : Int), .bl true)], rfl, (by show 1 ≤ 15; decide), ?_⟩
    rw [upd_upd]
    have s1 : Same H (upd H fd (.dK (mergeK [] [(Sum.inl (s0 : Int), .bl true)]))) := same_new nfd
    have f1 : upd H fd (.dK (mergeK [] [(Sum.inl (s0 : Int), .bl true)])) fd = some (.dK (dkT [s0])) := upd_same
    generalize upd H fd (.dK (mergeK [] [(Sum.inl (s0 : Int), .bl true)])) = H1 at s1 f1
    refine ⟨_, rfl, small16 (by show 1 ≤ 1000; decide), fun rm nrm => ⟨_, _, rfl, ?_⟩⟩
    have s2 : Same H (upd H1 rm (.lst (pts [s0]))) := s1.trans (same_new nrm)
    have nrm0 : H rm = none := s1.free nrm
    have ne : fd ≠ rm := ne_of_none f1 nrm
    have f2 : upd H1 rm (.lst (pts [s0])) fd = some (.dK (dkT [s0])) := by rw [upd_ne ne]; exact f1
    have r2 : upd H1 rm (.lst (pts [s0])) rm = some (.lst (pts [s0])) := upd_same
    generalize hH2 : upd H1 rm (.lst (pts [s0])) = H2 at s2 f2 r2
    have hH2' : (upd H1 rm (.lst [pt s0])) = H2 := hH2
    show tSeq _ _ _ _ (upd H1 rm (.lst [pt s0]))
    rw [hH2']
    -- while rim != []
    refine ⟨fun m σ H' => ∃ fs rs y5 y6, σ = [some (.ref p), some (pt s0), some (.ref kd), some (.ref fd), some (.ref rm), y5, y6] ∧ Same H H' ∧ H' fd = some (.dK (dkT fs)) ∧ H' rm = some (.lst (pts rs)) ∧ RInv n es (fun v => v ∈ ks) s0 fs rs (fun _ => False) ∧ m = 2 * (n - fs.length) + rs.length,
      ⟨_, [s0], [s0], none, none, rfl, s2, f2, r2, ⟨by simp, by simp [hs], by simp, fun v hv => ⟨0, by simp, by rw [List.mem_singleton.mp hv]; exact .base⟩, by simp, Nat.le_refl _, by simp⟩, rfl⟩, ?_⟩
    rintro m σ H3 ⟨fs, rs, y5, y6, rfl, s3, f3, r3, R, rfl⟩
    refine ⟨_, rfl, Nat.zero_le _, fun z nz => ?_⟩
    have r3' : upd H3 z (.lst []) rm = some (.lst (pts rs)) := by rw [upd_ne (ne_of_none r3 nz)]; exact r3
    have f3' : upd H3 z (.lst []) fd = some (.dK (dkT fs)) := by rw [upd_ne (ne_of_none f3 nz)]; exact f3
    have s3' : Same H (upd H3 z (.lst [])) := s3.trans (same_new nz)
    obtain ⟨d, e, h1, h2, h3, h4, h5⟩ := nonempty_rd (K := K) r3' upd_same
    refine ⟨d, e, h1, h2, h3, h4, _, rfl, ?_⟩
    rw [h5]
    generalize upd H3 z (.lst []) = H4 at r3' f3' s3'
    cases hrs : rs with
    | nil =>
      -- return tuple(sorted(found))
      refine iteF ⟨_, rfl, fd, _, fs.map (fun (k : Nat) => (k : Int)), rfl, .inl f3', by rw [dkT_keys]; unfold keysK; rw [List.map_map]; rfl, by rw [List.length_map]; have := nodup_le R.nd R.lt; omega, fun ys b pm pw nb => ?_⟩
      obtain ⟨ps, pm2, em⟩ := perm_lift (fun (k : Nat) => (k : Int)) pm fs rfl
      refine ⟨b, _, rfl, .inl ⟨SqL.of upd_same, fun t nt => ?_⟩⟩
      have et : ys.map V.int = pts ps := by
        rw [← em]
        unfold pts
        rw [List.map_map]
        rfl
      rw [et] at nt ⊢
      have hl := nodup_le R.nd R.lt
      subst hrs
      refine q _ t ps (s3'.trans ((same_new nb).trans (same_new nt))) upd_same (fun v => ?_) (fun v hv => ?_) (by rw [pm2.length_eq]; omega)
      · rw [pm2.mem_iff]
        constructor
        · intro hv
          obtain ⟨k, _, hc⟩ := R.cn v hv
          exact ⟨k, hc⟩
        · rintro ⟨k, hc⟩
          induction hc with
          | base => exact R.st
          | step _ hj hv ih => exact R.cl _ ih (by simp) (fun z => z) _ hj hv
      · rw [pm2.mem_iff] at hv
        obtain ⟨k, hk, hc⟩ := R.cn v hv
        exact ⟨R.lt v hv, k, by omega, hc⟩
    | cons r0 rr =>
      rw [← hrs]
      have hlen : 0 < rs.length := by rw [hrs]; simp
      have hb : (!rs.isEmpty) = true := by rw [hrs]; rfl
      rw [hb]
      refine iteT ?_
      refine ⟨fun σ' H' => ∃ m', m' < 2 * (n - fs.length) + rs.length ∧ ∃ fs rs y5 y6, σ' = [some (.ref p), some (pt s0), some (.ref kd), some (.ref fd), some (.ref rm), y5, y6] ∧ Same H H' ∧ H' fd = some (.dK (dkT fs)) ∧ H' rm = some (.lst (pts rs)) ∧ RInv n es (fun v => v ∈ ks) s0 fs rs (fun _ => False) ∧ m' = 2 * (n - fs.length) + rs.length, fun σ' H' hh => hh, ?_⟩
      -- here = rim.pop()
      obtain ⟨here, hhere⟩ := get_some (l := rs) (i := rs.length - 1) (by omega)
      have hhf : here ∈ fs := R.sub _ (List.mem_of_getElem? hhere)
      have hhn := R.lt _ hhf
      refine ⟨_, rfl, .inl ⟨rfl, _, SqL.of r3'⟩, rm, _, pt here, rfl, rfl, r3', by rw [pts_len]; exact pts_at hhere, ?_⟩
      have epop : (pts rs).dropLast = pts rs.dropLast := by unfold pts; rw [List.map_dropLast]
      rw [epop]
      have s4 : Same H (upd H4 rm (.lst (pts rs.dropLast))) := same_over s3' nrm0
      have f4 : upd H4 rm (.lst (pts rs.dropLast)) fd = some (.dK (dkT fs)) := by rw [upd_ne ne]; exact f3'
      have r4 : upd H4 rm (.lst (pts rs.dropLast)) rm = some (.lst (pts rs.dropLast)) := upd_same
      generalize upd H4 rm (.lst (pts rs.dropLast)) = H5 at s4 f4 r4
      obtain ⟨l, hl⟩ := get_some (l := adj) (i := here) (by rw [gN.1]; exact hhn)
      obtain ⟨la, as, n1, n2, n3⟩ := hN.at_ hl
      have mem_l := gN.2 here l hl
      have hll : ∀ v ∈ l, v < n := fun v hv => (g.J_lt _ _ ((mem_l v).mp hv)).2.1
      have R0 : RInv n es (fun v => v ∈ ks) s0 fs rs.dropLast (fun u => u = here) :=
        ⟨R.nd, R.lt, R.st, R.cn, fun v hv => R.sub v (List.dropLast_subset rs hv), by rw [List.length_dropLast]; have := R.len; omega, fun u hu hnu hsk v hj hS => R.cl u hu (fun hm => by
          have e := List.dropLast_concat_getLast (l := rs) (by intro z; rw [z] at hlen; simp at hlen)
          rw [← e] at hm
          rcases List.mem_append.mp hm with h | h
          · exact hnu h
          · have := List.mem_singleton.mp h
            rw [List.getLast_eq_getElem] at this
            have e3 := (List.getElem?_eq_some_iff.mp hhere).2
            exact hsk (this.trans e3)) (fun z => z) v hj hS⟩
      -- for point in near[here]
      refine ⟨_, rfl, _, rfl, p, _, here, .ref la, rfl, rfl, SqL.of (s4 _ _ n1), atI_nat n2, la, rfl, ⟨_, SqL.of (s4 _ _ n3)⟩,
        for_it (walk_list (xs := pts l)) (fun k σ H' => ∃ fs2 rs2 y6, σ = [some (.ref p), some (pt s0), some (.ref kd), some (.ref fd), some (.ref rm), some (pt here), y6] ∧ Same H H' ∧ H' fd = some (.dK (dkT fs2)) ∧ H' rm = some (.lst (pts rs2)) ∧ RInv n es (fun v => v ∈ ks) s0 fs2 rs2 (fun u => u = here) ∧ here ∈ fs2 ∧ (∀ v ∈ l.take k, v ∈ ks → v ∈ fs2) ∧ 2 * (n - fs2.length) + rs2.length < 2 * (n - fs.length) + rs.length)
          ⟨fs, rs.dropLast, y6, rfl, s4, f4, r4, R0, hhf, by simp, by rw [List.length_dropLast]; omega⟩ (fun k σ H' _ ⟨_, _, _, _, s5, _⟩ => SqL.of (s5 _ _ n3)) ?_ ?_⟩
      · rintro k x σ H6 H7 hk ⟨fs2, rs2, y6, rfl, s5, f5, r5, R2, hh2, ht2, hm2⟩ ⟨rfl, hx⟩
        obtain ⟨v, hv, rfl⟩ := pts_get hx
        have hvl : v ∈ l := List.mem_of_getElem? hv
        have hvn := hll v hvl
        have hlen2 := nodup_le R2.nd R2.lt
        refine ⟨_, rfl, _, rfl, kd, _, rfl, .inl ⟨kvs, Sum.inl (v : Int), .inl (s5 _ _ hK), rfl, rfl⟩, _, rfl, ?_⟩
        rw [keys_some hks]
        have fin : ∀ {H'}, Same H H' → H' fd = some (.dK (dkT fs2)) → H' rm = some (.lst (pts rs2)) → (v ∈ ks → v ∈ fs2) → ∃ fs2 rs2 y6, ([some (.ref p), some (pt s0), some (.ref kd), some (.ref fd), some (.ref rm), some (pt here), some (pt v)] : L2.St) = [some (.ref p), some (pt s0), some (.ref kd), some (.ref fd), some (.ref rm), some (pt here), y6] ∧ Same H H' ∧ H' fd = some (.dK (dkT fs2)) ∧ H' rm = some (.lst (pts rs2)) ∧ RInv n es (fun v => v ∈ ks) s0 fs2 rs2 (fun u => u = here) ∧ here ∈ fs2 ∧ (∀ v ∈ l.take (k + 1), v ∈ ks → v ∈ fs2) ∧ 2 * (n - fs2.length) + rs2.length < 2 * (n - fs.length) + rs.length := fun {H'} a b c d => by
          refine ⟨fs2, rs2, _, rfl, a, b, c, R2, hh2, fun x hx hxk => ?_, hm2⟩
          rw [take_snoc hv] at hx
          rcases List.mem_append.mp hx with h | h
          · exact ht2 x h hxk
          · rw [List.mem_singleton.mp h] at hxk ⊢
            exact d hxk
        by_cases c1 : v ∈ ks
        · rw [decide_eq_true c1]
          refine iteT ⟨_, rfl, _, rfl, fd, _, rfl, .inl ⟨dkT fs2, Sum.inl (v : Int), .inl f5, rfl, rfl⟩, _, rfl, ?_⟩
          rw [keys_some (dkT_keys fs2)]
          by_cases c2 : v ∈ fs2
          · rw [decide_eq_true c2]
            exact iteF (fin s5 f5 r5 fun _ => c2)
          · rw [decide_eq_false c2]
            refine iteT ?_
            have hj : J es here v := (mem_l v).mp hvl
            have R3 := R2.add hh2 hj c1 c2 hvn
            have nl : fs2.length + 1 ≤ n := by
              have := nodup_le R3.nd R3.lt
              rw [List.length_append] at this
              simpa using this
            refine ⟨_, rfl, _, rfl, fd, _, rfl, DPut.k (k := Sum.inl (v : Int)) f5 (by unfold dkT; rw [List.length_map]; exact small1000 (by omega)), ?_⟩
            rw [dkT_snoc c2]
            have r6 : upd H7 fd (.dK (dkT (fs2 ++ [v]))) rm = some (.lst (pts rs2)) := by rw [upd_ne ne.symm]; exact r5
            refine ⟨_, rfl, .inl ⟨rfl, _, SqL.of r6⟩, _, rfl, rm, _, _, rfl, rfl, r6, by rw [pts_len]; have := R2.len; exact small1000 (by omega), ?_⟩
            have ea : (pts rs2 ++ [pt v]) = pts (rs2 ++ [v]) := by unfold pts; rw [List.map_append]; rfl
            rw [ea]
            refine ⟨fs2 ++ [v], rs2 ++ [v], _, rfl, same_over (same_over s5 nfd) nrm0, by rw [upd_ne ne, upd_same], upd_same, R3, List.mem_append_left _ hh2, fun x hx hxk => ?_, by rw [List.length_append, List.length_append]; simp; omega⟩
            rw [take_snoc hv] at hx
            rcases List.mem_append.mp hx with h | h
            · exact List.mem_append_left _ (ht2 x h hxk)
            · exact List.mem_append_right _ h
        · rw [decide_eq_false c1]
          exact iteF (fin s5 f5 r5 fun z => absurd z c1)
      · rintro σ H6 ⟨fs2, rs2, y6, rfl, s5, f5, r5, R2, hh2, ht2, hm2⟩
        rw [pts_len, List.take_length] at ht2
        refine ⟨_, hm2, fs2, rs2, _, _, rfl, s5, f5, r5, ⟨R2.nd, R2.lt, R2.st, R2.cn, R2.sub, R2.len, fun u hu hnu _ v hj hS => ?_⟩, rfl⟩
        by_cases c : u = here
        · subst c
          exact ht2 v ((mem_l v).mpr hj) hS
        · exact R2.cl u hu hnu c v hj hS
end
end Cl

set_option Elab.async false
set_option linter.all false
set_option maxRecDepth 100000
set_option maxHeartbeats 4000000
namespace Cl
open PySem PySem.Spec PyProof.Rows L2
section
variable {P : Program} {w : World} {K : PySem.W.Frag} {mg : Str → Option Value} {base : Heap}
/-! ### parts -/
theorem PartsAt.same {H H' : Hp} {f : Addr} {parts : List (List Nat)} (h : PartsAt H f parts) (s : Same H H') : PartsAt H' f parts := by
  obtain ⟨as, h1, h2, h3⟩ := h
  exact ⟨as, s _ _ h1, h2, fun i a l x y => s _ _ (h3 i a l x y)⟩
theorem inV_pts (x : Nat) (ps : List Nat) : inV (pt x) (pts ps) = decide (x ∈ ps) := by
  unfold inV pts
  rw [List.any_map]
  by_cases h : x ∈ ps
  · rw [decide_eq_true h]
    refine List.any_eq_true.mpr ⟨x, h, ?_⟩
    show ((x : Int) == (x : Int)) = true
    exact beq_self_eq_true _
  · rw [decide_eq_false h]
    refine List.any_eq_false.mpr fun y hy e => h ?_
    have e : ((y : Int) == (x : Int)) = true := e
    have := eq_of_beq e
    have : y = x := by omega
    rw [← this]
    exact hy
theorem flat_pts (ps : List Nat) : (pts ps).all flatV = true := by
  unfold pts
  rw [List.all_map]
  exact List.all_eq_true.mpr fun x _ => rfl
theorem filter_snoc {l : List Nat} {i x : Nat} (p : Nat → Bool) (h : l[i]? = some x) : (l.take (i + 1)).filter p = if p x = true then (l.take i).filter p ++ [x] else (l.take i).filter p := by
  rw [take_snoc h, List.filter_append]
  by_cases c : p x = true
  · rw [if_pos c, List.filter_cons_of_pos c]
    rfl
  · rw [if_neg c, List.filter_cons_of_neg c]
    simp
theorem ok_parts_of {f : Addr} {fd : FuncData} (F : Fun K "parts_of" "parts_of" s_parts_of f fd) (Z : Bt mg) (C_reach : Cal P w K mg base CX0 1 "reach" P_reach spReach) : FnOk P w K mg base CX0 2 f fd P_parts_of spPartsOf := by
  obtain ⟨tp, h_MOST_POINTS⟩ := Z.mp
  obtain ⟨th, h_MOST_HEIGHT⟩ := Z.mh
  refine F.ok sc_parts_of (fun vs H Q E h => ?_) (fun cdv A outer s H vs Q E hr h => ?_)
  · obtain ⟨p, kd, n, es, adj, ks, rfl, _⟩ := h
    rfl
  · obtain ⟨p, kd, n, es, adj, ks, rfl, hN, gN, g, hKA, hkn, q⟩ := h
    obtain ⟨kvs, hK, hks, ndk, lk⟩ := id hKA
    refine ⟨_, (pss_cons (ps_par (i := 2) (j := 3) rfl sc_parts_of.nd rfl rfl (by decide) rfl rfl (pa_cons (pe_callB (call_sortedDI rfl) (by rfl) Z.sorted (by decide +kernel) (pa_cons (pv 1) pa_nil)) (pa_cons (pe_lst pa_nil) pa_nil)) (by rfl))
        (pss_cons (ps_while PassesOwn.never (pt_cmpR (op_neD hr.units) (pv 2) (pe_lst pa_nil) (nomark _)) (pss_cons (ps_set (i := 4) sc_parts_of.nd rfl (by first | exact .inl rfl | exact .inr rfl) (pe_cal C_reach hr pass0 (pa_cons (pv 0) (pa_cons (pe_ix (ixL (K := K)) (pv 2) pe_int (fun _ _ => rfl)) (pa_cons (pv 1) pa_nil)))))
        (pss_cons (ps_expr (pe_bm PySem.F.plainAttrs_list PySem.F.slot_list_append PySem.F.type_list_append mt_append (pv 3) (pa_cons (pv 4) pa_nil)))
        (pss_one (ps_setLc (i := 2) (own := [("point", 5)]) (g := gName 5) rfl sc_parts_of.nd rfl rfl (sw_true rfl rfl rfl (by decide +kernel)) (piList (K := K) (pv 2)) (blkOk_by (own := [("point", 5)]) (N := N_parts_of) (sc := defScope s_parts_of) (by decide +kernel)) (fun _ _ _ _ _ => pg_name (i := 5) sc_parts_of.nd rfl (by first | exact .inl rfl | exact .inr rfl)) (fun _ _ _ _ _ => (pts_one (pt_cmpR (opNotIn (K := K)) (pv 5) (pv 4) (by rfl)))) (fun _ _ _ _ _ => (pv 5)))))))
        (pss_one (ps_ret (pv 3))))), ?_⟩
    -- left, found = sorted(kept), []
    refine ⟨_, rfl, kd, kvs, ks.map (fun (k : Nat) => (k : Int)), rfl, .inl hK, by rw [hks]; unfold keysK; rw [List.map_map]; rfl, by rw [List.length_map]; exact lk, fun ys lf pm pw nlf => ?_⟩
    obtain ⟨ls0, pm2, em⟩ := perm_lift (fun (k : Nat) => (k : Int)) pm ks rfl
    have et : ys.map V.int = pts ls0 := by
      rw [← em]
      unfold pts
      rw [List.map_map]
      rfl
    rw [et]
    have s1 : Same H (upd H lf (.lst (pts ls0))) := same_new nlf
    have l1 : upd H lf (.lst (pts ls0)) lf = some (.lst (pts ls0)) := upd_same
    generalize upd H lf (.lst (pts ls0)) = H1 at s1 l1
    refine ⟨Nat.zero_le _, fun fo nfo => ⟨_, _, rfl, ?_⟩⟩
    have nfo0 : H fo = none := s1.free nfo
    have s2 : Same H (upd H1 fo (.lst [])) := s1.trans (same_new nfo)
    have l2 : upd H1 fo (.lst []) lf = some (.lst (pts ls0)) := by rw [upd_ne (ne_of_none l1 nfo)]; exact l1
    have f2 : upd H1 fo (.lst []) fo = some (.lst []) := upd_same
    have nlfo : lf ≠ fo := ne_of_none l1 nfo
    generalize upd H1 fo (.lst []) = H2 at s2 l2 f2
    -- while left != []
    refine ⟨fun m σ H' => ∃ lf ls parts y4, σ = [some (.ref p), some (.ref kd), some (.ref lf), some (.ref fo), y4, none] ∧ Same H H' ∧ H' lf = some (.lst (pts ls)) ∧ lf ≠ fo ∧ PartsAt H' fo parts ∧ (∀ x ∈ ls, x ∈ ks) ∧ (∀ k ∈ ks, k ∈ ls ∨ ∃ ps ∈ parts, k ∈ ps) ∧ (∀ ps ∈ parts, ∃ s, s ∈ ks ∧ ∀ v, v ∈ ps ↔ Jd (J es) (fun v => v ∈ ks) s v) ∧ parts.length + ls.length ≤ 64 ∧ m = ls.length,
      ⟨_, lf, ls0, [], none, rfl, s2, l2, nlfo, ⟨[], f2, rfl, fun i a l h => by simp at h⟩, fun x hx => pm2.mem_iff.mp hx, fun k hk => .inl (pm2.mem_iff.mpr hk), fun ps h => by simp at h, by have := pm2.length_eq; simp; omega, rfl⟩, ?_⟩
    rintro m σ H3 ⟨lf, ls, parts, y4, rfl, s3, l3, nlfo, P3, i1, i2, i3, i4, rfl⟩
    refine ⟨_, rfl, Nat.zero_le _, fun z nz => ?_⟩
    have l3' : upd H3 z (.lst []) lf = some (.lst (pts ls)) := by rw [upd_ne (ne_of_none l3 nz)]; exact l3
    have P3' : PartsAt (upd H3 z (.lst [])) fo parts := P3.same (same_new nz)
    have s3' : Same H (upd H3 z (.lst [])) := s3.trans (same_new nz)
    obtain ⟨d, e, h1, h2, h3, h4, h5⟩ := nonempty_rd (K := K) l3' upd_same
    refine ⟨d, e, h1, h2, h3, h4, _, rfl, ?_⟩
    rw [h5]
    generalize upd H3 z (.lst []) = H4 at l3' P3' s3'
    cases hls : ls with
    | nil =>
      subst hls
      refine iteF ⟨_, rfl, q H4 fo parts s3' P3' ⟨i3, fun k hk => ?_⟩ (by omega)⟩
      rcases i2 k hk with h | h
      · simp at h
      · exact h
    | cons x lr =>
      refine iteT ?_
      rw [← hls]
      have hx0 : ls[0]? = some x := by rw [hls]; rfl
      have hxl : x ∈ ls := List.mem_of_getElem? hx0
      refine ⟨fun σ' H' => ∃ m', m' < ls.length ∧ ∃ lf ls parts y4, σ' = [some (.ref p), some (.ref kd), some (.ref lf), some (.ref fo), y4, none] ∧ Same H H' ∧ H' lf = some (.lst (pts ls)) ∧ lf ≠ fo ∧ PartsAt H' fo parts ∧ (∀ x ∈ ls, x ∈ ks) ∧ (∀ k ∈ ks, k ∈ ls ∨ ∃ ps ∈ parts, k ∈ ps) ∧ (∀ ps ∈ parts, ∃ s, s ∈ ks ∧ ∀ v, v ∈ ps ↔ Jd (J es) (fun v => v ∈ ks) s v) ∧ parts.length + ls.length ≤ 64 ∧ m' = ls.length, fun σ' H' hh => hh, ?_⟩
      -- part = reach(near, left[0], kept)
      refine ⟨_, rfl, _, rfl, lf, _, 0, pt x, rfl, rfl, SqL.of l3', atI_nat (pts_at hx0), _, rfl, p, x, kd, n, es, adj, ks, rfl, hN.same s3', gN, g, hkn x (i1 x hxl), ⟨kvs, s3' _ _ hK, hks, ndk, lk⟩, fun H5 t ps s45 ht hps _ _ => ?_⟩
      have s5 : Same H H5 := s3'.trans s45
      have l5 := s45 _ _ l3'
      obtain ⟨as, a1, a2, a3⟩ := P3'.same s45
      -- found.append(part)
      refine ⟨_, rfl, .inl ⟨rfl, _, SqL.of a1⟩, _, rfl, fo, _, _, rfl, rfl, a1, by rw [List.length_map, a2]; exact small1000 (by omega), ?_⟩
      have ea : (as.map V.ref ++ [V.ref t]) = (as ++ [t]).map V.ref := by rw [List.map_append]; rfl
      rw [ea]
      have tne : ∀ {a : Addr} {xs : List V}, H5 a = some (.tup xs) → a ≠ fo := fun h => ne_of h a1 (fun z => nomatch z)
      have P6 : PartsAt (upd H5 fo (.lst ((as ++ [t]).map V.ref))) fo (parts ++ [ps]) := by
        refine ⟨as ++ [t], upd_same, by rw [List.length_append, List.length_append, a2]; rfl, fun i a l ha hl => ?_⟩
        by_cases hi : i < as.length
        · rw [List.getElem?_append_left hi] at ha
          rw [List.getElem?_append_left (by omega)] at hl
          have := a3 i a l ha hl
          rw [upd_ne (tne this)]
          exact this
        · rw [List.getElem?_append_right (by omega)] at ha
          rw [List.getElem?_append_right (by omega), ← a2] at hl
          have e0 : i - as.length = 0 := by have := get_lt ha; simp at this; omega
          rw [e0] at ha hl
          cases ha
          cases hl
          rw [upd_ne (tne ht)]
          exact ht
      have s6 : Same H (upd H5 fo (.lst ((as ++ [t]).map V.ref))) := same_over s5 nfo0
      have l6 : upd H5 fo (.lst ((as ++ [t]).map V.ref)) lf = some (.lst (pts ls)) := by rw [upd_ne nlfo]; exact l5
      have t6 : upd H5 fo (.lst ((as ++ [t]).map V.ref)) t = some (.tup (pts ps)) := by rw [upd_ne (tne ht)]; exact ht
      generalize upd H5 fo (.lst ((as ++ [t]).map V.ref)) = H6 at P6 s6 l6 t6
      -- left = [point for point in left if point not in part]
      refine ⟨_, rfl, lf, rfl, ⟨_, SqL.of l6⟩, fun D nD => ?_⟩
      refine lc_it (walk_list (xs := pts ls)) (fun i H' => Same H6 H' ∧ H' D = some (.lst (pts ((ls.take i).filter fun x => decide (x ∉ ps))))) ⟨same_new nD, upd_same⟩ (fun i H' _ hh => SqL.of (hh.1 _ _ l6)) ?_ ?_
      · rintro i v H7 H8 hi ⟨s7, hD⟩ ⟨rfl, hv⟩
        obtain ⟨k, hk, rfl⟩ := pts_get hv
        refine ⟨rfl, _, rfl, _, rfl, t, _, rfl, .inr (SqT.of (s7 _ _ t6)), rfl, flat_pts ps, _, rfl, ?_⟩
        show if (!inV (pt k) (pts ps)) = true then _ else _
        rw [inV_pts]
        have fs := filter_snoc (fun x => decide (x ∉ ps)) hk
        by_cases c : k ∈ ps
        · rw [decide_eq_true c]
          rw [if_neg (by simpa using c)] at fs
          refine iteF ⟨s7, ?_⟩
          rw [fs]
          exact hD
        · rw [decide_eq_false c]
          rw [if_pos (by simpa using c)] at fs
          refine iteT ⟨_, rfl, _, hD, ?_, same_over s7 nD, ?_⟩
          · rw [pts_len]
            have h1 := List.length_filter_le (fun x => decide (x ∉ ps)) (ls.take i)
            have h2 : (ls.take i).length ≤ ls.length := by rw [List.length_take]; omega
            exact small1000 (by omega)
          · rw [upd_same, fs]
            unfold pts
            rw [List.map_append]
            rfl
      · rintro H7 ⟨s7, hD⟩
        rw [pts_len, List.take_length] at hD
        have hxp : x ∈ ps := (hps x).mpr ⟨0, .base⟩
        have hlt : (ls.filter fun x => decide (x ∉ ps)).length < ls.length := by
          refine Nat.lt_of_le_of_ne (List.length_filter_le _ _) fun e => ?_
          have := List.length_filter_eq_length_iff.mp e x hxl
          exact (of_decide_eq_true this) hxp
        refine ⟨_, hlt, D, _, parts ++ [ps], _, rfl, s6.trans s7, hD, fun z => ?_, P6.same s7, fun y hy => i1 y (List.mem_filter.mp hy).1, fun k hk => ?_, fun ps' hp => ?_, ?_, rfl⟩
        · obtain ⟨as6, b1, _⟩ := P6
          rw [z, b1] at nD
          cases nD
        · rcases i2 k hk with h | ⟨ps', h, h'⟩
          · by_cases c : k ∈ ps
            · exact .inr ⟨ps, List.mem_append_right _ List.mem_cons_self, c⟩
            · exact .inl (List.mem_filter.mpr ⟨h, decide_eq_true c⟩)
          · exact .inr ⟨ps', List.mem_append_left _ h, h'⟩
        · rcases List.mem_append.mp hp with h | h
          · exact i3 ps' h
          · rw [List.mem_singleton.mp h]
            exact ⟨x, i1 x hxl, hps⟩
        · rw [List.length_append, List.length_singleton]
          omega
end
end Cl

set_option Elab.async false
set_option linter.all false
set_option maxRecDepth 100000
set_option maxHeartbeats 4000000
namespace Cl
open PySem PySem.Spec PyProof.Rows L2
section
variable {P : Program} {w : World} {K : PySem.W.Frag} {mg : Str → Option Value} {base : Heap}
theorem ok_above {f : Addr} {fd : FuncData} (F : Fun K "above" "above" s_above f fd) (Z : Bt mg) (C_parts_of : Cal P w K mg base CX0 2 "parts_of" P_parts_of spPartsOf) : FnOk P w K mg base CX0 3 f fd P_above spAbove := by
  obtain ⟨tp, h_MOST_POINTS⟩ := Z.mp
  obtain ⟨th, h_MOST_HEIGHT⟩ := Z.mh
  refine F.ok sc_above (fun vs H Q E h => ?_) (fun cdv A outer s H vs Q E hr h => ?_)
  · obtain ⟨p, r, n, es, adj, hs, level, rfl, _⟩ := h
    rfl
  · obtain ⟨p, r, n, es, adj, hs, level, rfl, hN, gN, g, hR, hl, q⟩ := h
    have hR' : H r = some (.tup (hs.map V.int)) := hR
    have hn2 := g.le
    refine ⟨_, (pss_one (ps_ret (pe_cal C_parts_of hr pass0 (pa_cons (pv 0) (pa_cons (pe_dc (own := [("point", 3)]) (g := gName 3) rfl sc_above.nd (pi_range1 (by rfl) Z.range (pa_cons (pe_callB (lenS (K := K)) (by rfl) Z.len (by decide +kernel) (pa_cons (pv 1) pa_nil)) pa_nil)) (blkOk_by (own := [("point", 3)]) (N := N_above) (sc := defScope s_above) (by decide +kernel)) (fun _ _ _ _ _ => pg_name (i := 3) sc_above.nd rfl (.inl rfl)) (fun _ _ _ _ _ => (pts_one (pt_cmpR op_ge (pe_ix (ixT (K := K)) (pv 1) (pv 3) (fun _ _ => rfl)) (pv 2) (nomark _)))) (fun _ _ _ _ _ => (pv 3)) (fun _ _ _ _ _ => pe_bl)) pa_nil))))), ?_⟩
    refine ⟨_, rfl, _, rfl, r, _, rfl, .inr (SqT.of hR'), (hs.length : Int), by rw [List.length_map], by omega, by omega, fun D nD => ?_⟩
    refine dc_it walk_rng (fun i H' => Same H H' ∧ ∃ ks, H' D = some (.dK (dkT ks)) ∧ ks.Nodup ∧ (∀ v, v ∈ ks ↔ (v < i ∧ up hs level v)) ∧ ks.length ≤ i) ⟨same_new nD, [], upd_same, List.nodup_nil, fun v => by simp, Nat.le_refl _⟩ (fun _ _ _ _ => trivial) ?_ ?_
    · rintro i x H1 H2 hi ⟨s1, ks, hD, nd, hm, hk⟩ ⟨rfl, rfl⟩
      have hi' : i < hs.length := by simpa using hi
      refine ⟨rfl, _, rfl, _, rfl, r, _, i, .int (ht hs i), rfl, rfl, SqT.of (s1 _ _ hR'), atI_nat (ints_at (ht_at hi')), _, rfl, _, _, rfl, rfl, _, rfl, ?_⟩
      by_cases c : level ≤ ht hs i
      · rw [decide_eq_true c]
        have hni : i ∉ ks := fun h => by have := ((hm i).mp h).1; omega
        refine iteT ⟨_, rfl, dkT ks, Sum.inl (i : Int), rfl, hD, by unfold dkT; rw [List.length_map]; exact small1000 (by omega), same_over s1 nD, ks ++ [i], ?_, nd_snoc nd hni, fun v => ?_, by rw [List.length_append, List.length_singleton]; omega⟩
        · rw [dkT_snoc hni]
          exact upd_same
        · rw [List.mem_append, List.mem_singleton, hm]
          constructor
          · rintro (h | h)
            · exact ⟨by omega, h.2⟩
            · subst h
              exact ⟨by omega, hi', c⟩
          · rintro ⟨h1, h2⟩
            by_cases e : v = i
            · exact .inr e
            · exact .inl ⟨by omega, h2⟩
      · rw [decide_eq_false c]
        refine iteF ⟨s1, ks, hD, nd, fun v => ?_, by omega⟩
        rw [hm]
        constructor
        · rintro ⟨h1, h2⟩
          exact ⟨by omega, h2⟩
        · rintro ⟨h1, h2⟩
          refine ⟨?_, h2⟩
          have : v ≠ i := fun e => by
            subst e
            exact c h2.2
          omega
    · rintro H1 ⟨s1, ks, hD, nd, hm, hk⟩
      have hm' : ∀ v, v ∈ ks ↔ up hs level v := fun v => by
        rw [hm]
        constructor
        · exact fun h => h.2
        · intro h
          exact ⟨by have := h.1; omega, h⟩
      have e0 : (fun v => v ∈ ks) = up hs level := funext fun v => propext (hm' v)
      refine ⟨p, D, n, es, adj, ks, rfl, hN.same s1, gN, g, ⟨dkT ks, hD, dkT_keys ks, nd, by omega⟩, fun k hk => by have := ((hm' k).mp hk).1; omega, fun H2 f parts s2 hP gP lP => ?_⟩
      rw [e0] at gP
      exact q H2 f parts (s1.trans s2) hP gP lP

/-! ### dicts of heights -/
def dkI (fs : List Int) : List (Key × V) := fs.map fun (k : Int) => (Sum.inl k, .bl true)
theorem dkI_keys (fs : List Int) : (dkI fs).map (·.1) = fs.map Sum.inl := by
  unfold dkI
  rw [List.map_map]
  rfl
theorem dkI_put (ks : List Int) (k : Int) : ∃ ks', putK (dkI ks) (Sum.inl k) (.bl true) = dkI ks' ∧ (∀ v, v ∈ ks' ↔ v ∈ ks ∨ v = k) ∧ ks'.length ≤ ks.length + 1 := by
  by_cases h : k ∈ ks
  · refine ⟨ks, ?_, fun v => ?_, Nat.le_succ _⟩
    · unfold putK
      have ha : ((dkI ks).any fun kv => decide (kv.1 = Sum.inl k)) = true := List.any_eq_true.mpr ⟨((Sum.inl k : Key), V.bl true), List.mem_map.mpr ⟨k, h, rfl⟩, decide_eq_true rfl⟩
      rw [if_pos ha]
      unfold dkI
      rw [List.map_map]
      refine List.map_congr_left fun x _ => ?_
      show (if (Sum.inl x : Key) = Sum.inl k then ((Sum.inl x : Key), V.bl true) else ((Sum.inl x : Key), V.bl true)) = (Sum.inl x, V.bl true)
      split <;> rfl
    · constructor
      · exact .inl
      · rintro (h' | rfl)
        · exact h'
        · exact h
  · refine ⟨ks ++ [k], ?_, fun v => by rw [List.mem_append, List.mem_singleton], by rw [List.length_append, List.length_singleton]; exact Nat.le_refl _⟩
    unfold putK
    rw [if_neg]
    · unfold dkI
      rw [List.map_append]
      rfl
    · intro e
      obtain ⟨p, hp, e⟩ := List.any_eq_true.mp e
      obtain ⟨x, hx, rfl⟩ := List.mem_map.mp hp
      have : (Sum.inl x : Key) = Sum.inl k := of_decide_eq_true e
      exact h (Sum.inl.inj this ▸ hx)
theorem least_of : ∀ (l : List Int), l ≠ [] → ∃ m, m ∈ l ∧ ∀ x ∈ l, m ≤ x
  | [], h => absurd rfl h
  | [a], _ => ⟨a, List.mem_cons_self, fun x hx => by rw [List.mem_singleton.mp hx]; exact Int.le_refl _⟩
  | a :: b :: l, _ => by
    obtain ⟨m, h1, h2⟩ := least_of (b :: l) (List.cons_ne_nil _ _)
    by_cases c : a ≤ m
    · refine ⟨a, List.mem_cons_self, fun x hx => ?_⟩
      rcases List.mem_cons.mp hx with rfl | hx
      · exact Int.le_refl _
      · exact Int.le_trans c (h2 x hx)
    · refine ⟨m, List.mem_cons_of_mem _ h1, fun x hx => ?_⟩
      rcases List.mem_cons.mp hx with rfl | hx
      · omega
      · exact h2 x hx
/-- one part has both -/
theorem both_iff {es : List (Nat × Nat)} {hs : List Int} {parts : List (List Nat)} {one other : Nat} {level : Int} (g : GoodParts es (up hs level) parts) (h1 : one < hs.length) :
    (∃ ps ∈ parts, one ∈ ps ∧ other ∈ ps) ↔ Both es hs one other level := by
  constructor
  · rintro ⟨ps, hp, ho, ht⟩
    obtain ⟨s, hs', hv⟩ := g.1 ps hp
    obtain ⟨m, c1⟩ := (hv one).mp ho
    obtain ⟨k, c2⟩ := (hv other).mp ht
    exact ⟨(c1.kept hs').2, _, (c1.symm J.symm hs').trans c2⟩
  · rintro ⟨h2, k, c2⟩
    obtain ⟨ps, hp, ho⟩ := g.2 one ⟨h1, h2⟩
    obtain ⟨s, hs', hv⟩ := g.1 ps hp
    obtain ⟨m, c1⟩ := (hv one).mp ho
    exact ⟨ps, hp, ho, (hv other).mpr ⟨_, c1.trans c2⟩⟩
theorem ok_pass_of {f : Addr} {fd : FuncData} (F : Fun K "pass_of" "pass_of" s_pass_of f fd) (Z : Bt mg) (C_above : Cal P w K mg base CX0 3 "above" P_above spAbove) : FnOk P w K mg base CX0 4 f fd P_pass_of spPassOf := by
  obtain ⟨tp, h_MOST_POINTS⟩ := Z.mp
  obtain ⟨th, h_MOST_HEIGHT⟩ := Z.mh
  refine F.ok sc_pass_of (fun vs H Q E h => ?_) (fun cdv A outer s H vs Q E hr h => ?_)
  · obtain ⟨p, r, n, es, adj, hs, one, other, rfl, _⟩ := h
    rfl
  · obtain ⟨p, r, n, es, adj, hs, one, other, rfl, hN, gN, g, hR, hl, h1, h2, hJ, q⟩ := h
    have hR' : H r = some (.tup (hs.map V.int)) := hR
    have hn2 := g.le
    refine ⟨_, (pss_cons (ps_for PassesOwn.never rfl (piList (K := K) (pe_revL (pe_callB (call_sortedDI rfl) (by rfl) Z.sorted (by decide +kernel) (pa_cons (pe_dc (own := [("height", 5)]) (g := gName 5) rfl sc_pass_of.nd (piTup (K := K) (pv 1)) (blkOk_by (own := [("height", 5)]) (N := N_pass_of) (sc := defScope s_pass_of) (by decide +kernel)) (fun _ _ _ _ _ => pg_name (i := 5) sc_pass_of.nd rfl (.inl rfl)) (fun _ _ _ _ _ => pts_nil) (fun _ _ _ _ _ => (pv 5)) (fun _ _ _ _ _ => pe_bl)) pa_nil)))) (pg_name (i := 4) sc_pass_of.nd rfl (by first | exact .inl rfl | exact .inr rfl)) (pss_one (ps_if (pt_val (pe_callB (cr_any rfl) (by rfl) Z.any (by decide +kernel) (pa_cons (pe_lc (own := [("part", 6)]) (g := gName 6) rfl sc_pass_of.nd (piList (K := K) (pe_cal C_above hr pass0 (pa_cons (pv 0) (pa_cons (pv 1) (pa_cons (pv 4) pa_nil))))) (blkOk_by (own := [("part", 6)]) (N := N_pass_of) (sc := defScope s_pass_of) (by decide +kernel)) (fun _ _ _ _ _ => pg_name (i := 6) sc_pass_of.nd rfl (by first | exact .inl rfl | exact .inr rfl)) (fun _ _ _ _ _ => pts_nil) (fun _ _ _ _ _ => (pe_and (pe_cmpR (opIn (K := K)) (pv 2) (pv 6) (by rfl)) (pe_one (pe_cmpR (opIn (K := K)) (pv 3) (pv 6) (by rfl)))))) pa_nil))) (pss_one (ps_ret (pv 4))) pss_nil)))
        (pss_one (ps_ret pe_non))), ?_⟩
    -- {height: True for height in row}
    refine ⟨_, rfl, r, rfl, ⟨_, SqT.of hR'⟩, fun D nD => ?_⟩
    refine dc_it (walk_tup (xs := hs.map V.int)) (fun i H' => Same H H' ∧ ∃ ks, H' D = some (.dK (dkI ks)) ∧ (∀ v, v ∈ ks ↔ v ∈ hs.take i) ∧ ks.length ≤ i) ⟨same_new nD, [], upd_same, fun v => by simp, Nat.le_refl _⟩ (fun i H' _ hh => SqT.of (hh.1 _ _ hR')) ?_ ?_
    · rintro i x H1 H2 hi ⟨s1, ks, hD, hm, hk⟩ ⟨rfl, hx⟩
      obtain ⟨h, hh, rfl⟩ := ints_get hx
      obtain ⟨ks', e1, e2, e3⟩ := dkI_put ks h
      have := get_lt hh
      refine ⟨rfl, _, rfl, dkI ks, Sum.inl h, rfl, hD, by unfold dkI; rw [List.length_map]; exact small1000 (by omega), same_over s1 nD, ks', ?_, fun v => ?_, by omega⟩
      · rw [e1]
        exact upd_same
      · rw [e2, hm, take_snoc hh, List.mem_append, List.mem_singleton]
    rintro H1 ⟨s1, ks, hD, hm, hk⟩
    rw [List.length_map] at hk
    rw [List.length_map, List.take_length] at hm
    -- sorted(..)[::-1]
    refine ⟨D, _, ks, rfl, .inl hD, dkI_keys ks, by omega, fun ys b pm pw nb => ?_⟩
    refine ⟨b, _, rfl, SqL.of upd_same, fun c nc => ?_⟩
    have er : (ys.map V.int).reverse = ys.reverse.map V.int := by rw [List.map_reverse]
    rw [er]
    have hmr : ∀ v, v ∈ ys.reverse ↔ v ∈ hs := fun v => by rw [List.mem_reverse, pm.mem_iff, hm]
    have pr : ys.reverse.Pairwise (fun a b => b ≤ a) := List.pairwise_reverse.mpr pw
    have lr : ys.reverse.length < 64 := by rw [List.length_reverse, pm.length_eq]; omega
    generalize ys.reverse = zs at nc hmr pr lr ⊢
    have s2 : Same H (upd (upd H1 b (.lst (ys.map V.int))) c (.lst (zs.map V.int))) := s1.trans ((same_new nb).trans (same_new nc))
    have hc : upd (upd H1 b (.lst (ys.map V.int))) c (.lst (zs.map V.int)) c = some (.lst (zs.map V.int)) := upd_same
    generalize upd (upd H1 b (.lst (ys.map V.int))) c (.lst (zs.map V.int)) = H2 at s2 hc ⊢
    refine ⟨c, rfl, ⟨_, SqL.of hc⟩, for_it (walk_list (xs := zs.map V.int)) (fun i σ H' => ∃ y4, σ = [some (.ref p), some (.ref r), some (pt one), some (pt other), y4, none, none] ∧ Same H2 H' ∧ ∀ v ∈ zs.take i, ¬ Both es hs one other v) ⟨none, rfl, Same.refl _, by simp⟩ (fun i σ H' _ ⟨_, _, s3, _⟩ => SqL.of (s3 _ _ hc)) ?_ ?_⟩
    · rintro i x σ H3 H4 hi ⟨y4, rfl, s3, hno⟩ ⟨rfl, hx⟩
      obtain ⟨L, hL, rfl⟩ := ints_get hx
      have s4 : Same H H4 := s2.trans s3
      -- any([one in part and other in part for part in above(near, row, level)])
      refine ⟨_, rfl, _, rfl, _, rfl, p, r, n, es, adj, hs, L, rfl, hN.same s4, gN, g, hR.same s4, hl, fun H5 f parts s45 hP gP lP => ?_⟩
      obtain ⟨as, a1, a2, a3⟩ := hP
      refine ⟨f, rfl, ⟨_, SqL.of a1⟩, fun D2 nD2 => ?_⟩
      refine lc_it (walk_list (xs := as.map V.ref)) (fun j H' => Same H5 H' ∧ H' D2 = some (.lst (((parts.take j).map fun ps => decide (one ∈ ps) && decide (other ∈ ps)).map V.bl))) ⟨same_new nD2, upd_same⟩ (fun j H' _ hh => SqL.of (hh.1 _ _ a1)) ?_ ?_
      · rintro j x H6 H7 hj ⟨s6, hD2⟩ ⟨rfl, hx2⟩
        obtain ⟨a, ha, rfl⟩ := refs_get hx2
        obtain ⟨ps, hps⟩ := get_some (l := parts) (i := j) (by rw [← a2]; exact get_lt ha)
        have hA := SqT.of (K := K) (s6 _ _ (a3 j a ps ha hps))
        have fin : ∀ bb, (decide (one ∈ ps) && decide (other ∈ ps)) = bb → ∃ acc, H7 D2 = some (.lst acc) ∧ acc.length < sizeLine ∧ Same H5 (upd H7 D2 (.lst (acc ++ [V.bl bb]))) ∧ upd H7 D2 (.lst (acc ++ [V.bl bb])) D2 = some (.lst (((parts.take (j + 1)).map fun ps => decide (one ∈ ps) && decide (other ∈ ps)).map V.bl)) := fun bb e => by
          refine ⟨_, hD2, ?_, same_over s6 nD2, ?_⟩
          · rw [List.length_map, List.length_map, List.length_take]
            exact small1000 (by omega)
          · rw [upd_same, take_snoc hps, List.map_append, List.map_append, ← e]
            rfl
        refine ⟨rfl, _, rfl, _, rfl, a, _, rfl, .inr hA, rfl, flat_pts ps, _, rfl, ?_⟩
        show if (inV (pt one) (pts ps)) = true then _ else _
        rw [inV_pts]
        by_cases c1 : one ∈ ps
        · rw [decide_eq_true c1]
          refine iteT ⟨_, rfl, _, rfl, a, _, rfl, .inr hA, rfl, flat_pts ps, ?_⟩
          show ∃ acc, H7 D2 = some (.lst acc) ∧ acc.length < sizeLine ∧ Same H5 (upd H7 D2 (.lst (acc ++ [V.bl (inV (pt other) (pts ps))]))) ∧ _
          rw [inV_pts]
          exact fin _ (by rw [decide_eq_true c1, Bool.true_and])
        · rw [decide_eq_false c1]
          exact iteF (fin false (by rw [decide_eq_false c1, Bool.false_and]))
      · rintro H6 ⟨s6, hD2⟩
        rw [List.length_map, a2, List.take_length] at hD2
        refine ⟨D2, _, rfl, SqL.of hD2, _, rfl, ?_⟩
        have hlen1 : one < hs.length := by omega
        have key : ((parts.map fun ps => decide (one ∈ ps) && decide (other ∈ ps)).any id = true) ↔ Both es hs one other L := by
          rw [← both_iff gP hlen1, List.any_map, List.any_eq_true]
          constructor
          · rintro ⟨ps, hp, e⟩
            have e : (decide (one ∈ ps) && decide (other ∈ ps)) = true := e
            rw [Bool.and_eq_true, decide_eq_true_eq, decide_eq_true_eq] at e
            exact ⟨ps, hp, e.1, e.2⟩
          · rintro ⟨ps, hp, e1, e2⟩
            refine ⟨ps, hp, ?_⟩
            show (decide (one ∈ ps) && decide (other ∈ ps)) = true
            rw [decide_eq_true e1, decide_eq_true e2]
            rfl
        refine ite2 (fun e => ?_) (fun e => ?_)
        · refine ⟨_, rfl, q H6 L (s4.trans (s45.trans s6)) (key.mp e) fun v hv hgt hB => ?_⟩
          have hvz : ht hs v ∈ zs := (hmr _).mpr (List.mem_of_getElem? (ht_at (by omega)))
          obtain ⟨j, hj⟩ := List.mem_iff_getElem?.mp hvz
          by_cases c : j < i
          · refine hno _ ?_ hB
            exact List.mem_of_getElem? (i := j) (by rw [List.getElem?_take, if_pos c]; exact hj)
          · by_cases c2 : j = i
            · subst c2
              rw [hL] at hj
              have := Option.some.inj hj
              omega
            · have := List.pairwise_iff_getElem.mp pr i j (get_lt hL) (get_lt hj) (by omega)
              rw [(List.getElem?_eq_some_iff.mp hL).2, (List.getElem?_eq_some_iff.mp hj).2] at this
              omega
        · refine ⟨_, rfl, s3.trans (s45.trans s6), fun v hv => ?_⟩
          rw [take_snoc hL] at hv
          rcases List.mem_append.mp hv with h | h
          · exact hno v h
          · rw [List.mem_singleton.mp h]
            exact fun hB => e (key.mpr hB)
    · rintro σ H3 ⟨y4, rfl, s3, hno⟩
      exfalso
      rw [List.length_map, List.take_length] at hno
      obtain ⟨m, hm1, hm2⟩ := least_of hs (by intro z; rw [z] at hl; simp at hl; omega)
      obtain ⟨k, hc⟩ := hJ
      refine hno m ((hmr m).mpr hm1) ⟨hm2 _ (List.mem_of_getElem? (ht_at (by omega))), k, ?_⟩
      have all : ∀ {k v}, Cn (J es) (fun _ => True) one k v → Cn (J es) (up hs m) one k v := by
        intro k v c
        induction c with
        | base => exact .base
        | step _ j _ ih =>
          have := (g.J_lt _ _ j).2.1
          exact .step ih j ⟨by omega, hm2 _ (List.mem_of_getElem? (ht_at (by omega)))⟩
      exact all hc
end
end Cl

set_option Elab.async false
set_option linter.all false
set_option maxRecDepth 100000
set_option maxHeartbeats 4000000
namespace Cl
open PySem PySem.Spec PyProof.Rows L2
section
variable {P : Program} {w : World} {K : PySem.W.Frag} {mg : Str → Option Value} {base : Heap}
variable {CN : Addr}
theorem ok_need_ends {f : Addr} {fd : FuncData} (F : Fun K "need_ends" "need_ends" s_need_ends f fd) (Z : Bt mg) (TX : NJ K mg CN) (C_near_of : Cal P w K mg base CX0 1 "near_of" P_near_of spNearOf) (C_need_both : Cal P w K mg base CX0 4 "need_both" P_need_both spNeedRow) (C_need_point : Cal P w K mg base CX0 3 "need_point" P_need_point spNeedPoint) (C_reach : Cal P w K mg base CX0 1 "reach" P_reach spReach) : FnOk P w K mg base (L2.CX P w) 5 f fd P_need_ends (spNeedEnds CN) := by
  refine F.okX sc_need_ends (fun vs H Q E h => ?_) (fun cdv A outer s H vs Q E hr h => ?_)
  · obtain ⟨p, r, n, es, hs, one, other, rfl, _⟩ := h
    rfl
  · obtain ⟨p, r, n, es, hs, one, other, rfl, hN, g, hR, gR, h1, h2, qE, q⟩ := h
    refine ⟨_, (pss_cons (ps_expr (pe_cal C_need_both hr pass0 (pa_cons (pv 0) (pa_cons (pv 1) pa_nil))))
        (pss_cons (ps_expr (pe_cal C_need_point hr pass0 (pa_cons (pv 0) (pa_cons (pv 2) pa_nil))))
        (pss_cons (ps_expr (pe_cal C_need_point hr pass0 (pa_cons (pv 0) (pa_cons (pv 3) pa_nil))))
        (pss_cons (ps_set (i := 4) sc_need_ends.nd rfl (by first | exact .inl rfl | exact .inr rfl) (pe_cal C_near_of hr pass0 (pa_cons (pv 0) pa_nil)))
        (pss_cons (ps_if (pt_cmpR (opNotIn (K := K)) (pv 3) (pe_cal C_reach hr pass0 (pa_cons (pv 4) (pa_cons (pv 2) (pa_cons (pe_dc (own := [("point", 5)]) (g := gName 5) rfl sc_need_ends.nd (pi_range1 (by rfl) Z.range (pa_cons (pe_ix (ixT (K := K)) (pv 0) pe_int (fun _ _ => rfl)) pa_nil)) (blkOk_by (own := [("point", 5)]) (N := N_need_ends) (sc := defScope s_need_ends) (by decide +kernel)) (fun _ _ _ _ _ => pg_name (i := 5) sc_need_ends.nd rfl (.inl rfl)) (fun _ _ _ _ _ => pts_nil) (fun _ _ _ _ _ => (pv 5)) (fun _ _ _ _ _ => pe_bl)) pa_nil)))) (by rfl)) (pss_one (ps_raise rfl (takes_of rfl rfl rfl rfl) (pmk_own0 PySem.F.excBase_ValueError TX.x TX.g TX.k (raises_own TX.b TX.t) (by rfl)))) pss_nil)
        (pss_one (ps_ret (pv 4)))))))), ?_⟩
    have hn := g.pos
    have hn2 := g.le
    refine ⟨_, rfl, _, rfl, p, n, es, r, hs, rfl, hN, g, hR, gR, fun H1 s1 => ?_⟩
    refine ⟨_, rfl, _, rfl, p, n, es, one, rfl, hN.same s1, g, h1, fun H2 s2 => ?_⟩
    have s2 := s1.trans s2
    refine ⟨_, rfl, _, rfl, p, n, es, other, rfl, hN.same s2, g, h2, fun H3 s3 => ?_⟩
    have s3 := s2.trans s3
    refine ⟨_, rfl, p, n, es, rfl, hN.same s3, g, fun H4 a adj s4 nA gA => ?_⟩
    have s4 := s3.trans s4
    obtain ⟨t, as, e1, e2, e3, e4⟩ := hN.same s4
    -- if other not in reach(near, one, {..})
    refine ⟨_, rfl, _, rfl, _, rfl, _, rfl, p, _, 0, pt n, rfl, rfl, SqT.of e1, atI_nat (j := 0) rfl, n, rfl, by omega, by omega, fun D nD => ?_⟩
    refine dc_it walk_rng (fun i H' => Same H4 H' ∧ H' D = some (.dK (dkT (List.range i)))) ⟨same_new nD, upd_same⟩ (fun _ _ _ _ => trivial) ?_ ?_
    · rintro i x H5 H6 hi ⟨s5, hD⟩ ⟨rfl, rfl⟩
      have hi' : i < n := by simpa using hi
      refine ⟨rfl, _, rfl, dkT (List.range i), Sum.inl (i : Int), rfl, hD, by unfold dkT; rw [List.length_map, List.length_range]; exact small1000 (by omega), same_over s5 nD, ?_⟩
      rw [dkT_snoc (by simp), List.range_succ]
      exact upd_same
    · rintro H5 ⟨s5, hD⟩
      have e0 : (n : Int).toNat = n := by omega
      rw [e0] at hD
      refine ⟨a, one, D, n, es, adj, List.range n, rfl, nA.same s5, gA, g, h1, ⟨_, hD, dkT_keys _, List.nodup_range, by rw [List.length_range]; omega⟩, fun H6 b ps s6 hb hps hps2 _ => ?_⟩
      refine ⟨b, _, rfl, .inr (SqT.of hb), rfl, flat_pts ps, _, rfl, ?_⟩
      have s6' : Same H H6 := s4.trans (s5.trans s6)
      have all : ∀ {k v}, Cn (J es) (fun _ => True) one k v → Cn (J es) (fun v => v ∈ List.range n) one k v := by
        intro k v c
        induction c with
        | base => exact .base
        | step _ j _ ih => exact .step ih j (List.mem_range.mpr (g.J_lt _ _ j).2.1)
      show if (!inV (pt other) (pts ps)) = true then _ else _
      rw [inV_pts]
      by_cases c : other ∈ ps
      · rw [decide_eq_true c]
        obtain ⟨_, k, hkn, hk⟩ := hps2 other c
        exact iteF ⟨_, rfl, q H6 a adj s6' (nA.same (s5.trans s6)) gA ⟨k, hkn, hk.imp fun _ _ => trivial⟩⟩
      · rw [decide_eq_false c]
        exact iteT (qE (fun ⟨k, hk⟩ => c ((hps other).mpr ⟨k, all hk⟩)) H6 s6')
theorem ok_least_climb {f : Addr} {fd : FuncData} (F : Fun K "least_climb" "least_climb" s_least_climb f fd) (Z : Bt mg) (C_climb_of : Cal P w K mg base CX0 1 "climb_of" P_climb_of spClimbOf) (C_need_ends : Cal P w K mg base (L2.CX P w) 5 "need_ends" P_need_ends (spNeedEnds CN)) : FnOk P w K mg base (L2.CX P w) 6 f fd P_least_climb (spFour CN RClimb) := by
  refine F.okX sc_least_climb (fun vs H Q E h => ?_) (fun cdv A outer s H vs Q E hr h => ?_)
  · obtain ⟨p, r, n, es, hs, one, other, rfl, _⟩ := h
    rfl
  · obtain ⟨p, r, n, es, hs, one, other, rfl, hN, g, hR, gR, h1, h2, qE, q⟩ := h
    refine ⟨_, (pss_cons (ps_set (i := 4) sc_least_climb.nd rfl (by first | exact .inl rfl | exact .inr rfl) (pe_cal C_need_ends hr (passes_call (takes_of rfl rfl rfl rfl) (fun _ _ _ _ h => h)) (pa_cons (pv 0) (pa_cons (pv 1) (pa_cons (pv 2) (pa_cons (pv 3) pa_nil))))))
        (pss_one (ps_ret (pe_dget (hu_of hr) (pe_cal C_climb_of hr pass0 (pa_cons (pv 4) (pa_cons (pv 1) (pa_cons (pv 2) pa_nil)))) (pv 3) (fun _ _ => rfl))))), ?_⟩
    refine ⟨_, rfl, _, rfl, _, rfl, _, rfl, p, r, n, es, hs, one, other, rfl, hN, g, hR, gR, h1, h2, qE, fun H1 a adj s1 nA gA hm => ?_⟩
    refine ⟨_, rfl, _, rfl, _, rfl, a, r, n, es, adj, hs, one, rfl, nA, gA, g, hR.same s1, gR, h1, fun H2 d kvs s2 hd hv => ?_⟩
    obtain ⟨m, hmn, hc⟩ := hm
    obtain ⟨c, hcv, hl⟩ := hv other ⟨m, hc⟩
    refine ⟨_, rfl, d, .int c, rfl, .inl ⟨kvs, Sum.inl (other : Int), .inl hd, rfl, hcv.symm⟩, ?_⟩
    exact q H2 _ (s1.trans s2) ⟨m, hmn, hc⟩ ⟨c, rfl, hl⟩
theorem ok_rising {f : Addr} {fd : FuncData} (F : Fun K "rising" "rising" s_rising f fd) (Z : Bt mg) (C_climb_of : Cal P w K mg base CX0 1 "climb_of" P_climb_of spClimbOf) (C_need_ends : Cal P w K mg base (L2.CX P w) 5 "need_ends" P_need_ends (spNeedEnds CN)) : FnOk P w K mg base (L2.CX P w) 6 f fd P_rising (spFour CN RRising) := by
  refine F.okX sc_rising (fun vs H Q E h => ?_) (fun cdv A outer s H vs Q E hr h => ?_)
  · obtain ⟨p, r, n, es, hs, one, other, rfl, _⟩ := h
    rfl
  · obtain ⟨p, r, n, es, hs, one, other, rfl, hN, g, hR, gR, h1, h2, qE, q⟩ := h
    refine ⟨_, (pss_cons (ps_set (i := 4) sc_rising.nd rfl (by first | exact .inl rfl | exact .inr rfl) (pe_cal C_need_ends hr (passes_call (takes_of rfl rfl rfl rfl) (fun _ _ _ _ h => h)) (pa_cons (pv 0) (pa_cons (pv 1) (pa_cons (pv 2) (pa_cons (pv 3) pa_nil))))))
        (pss_one (ps_ret (pe_cmpR op_eq (pe_dget (hu_of hr) (pe_cal C_climb_of hr pass0 (pa_cons (pv 4) (pa_cons (pv 1) (pa_cons (pv 2) pa_nil)))) (pv 3) (fun _ _ => rfl)) (pe_op op_sub (pe_ix (ixT (K := K)) (pv 1) (pv 3) (fun _ _ => rfl)) (pe_ix (ixT (K := K)) (pv 1) (pv 2) (fun _ _ => rfl))) (nomark _))))), ?_⟩
    refine ⟨_, rfl, _, rfl, _, rfl, _, rfl, p, r, n, es, hs, one, other, rfl, hN, g, hR, gR, h1, h2, qE, fun H1 a adj s1 nA gA hm => ?_⟩
    refine ⟨_, rfl, _, rfl, _, rfl, a, r, n, es, adj, hs, one, rfl, nA, gA, g, hR.same s1, gR, h1, fun H2 d kvs s2 hd hv => ?_⟩
    obtain ⟨m, hmn, hc⟩ := hm
    obtain ⟨c, hcv, hl⟩ := hv other ⟨m, hc⟩
    have hR2 : H2 r = some (.tup (hs.map V.int)) := hR.same (s1.trans s2)
    have gl := gR.1
    refine ⟨_, rfl, d, .int c, rfl, .inl ⟨kvs, Sum.inl (other : Int), .inl hd, rfl, hcv.symm⟩, ?_⟩
    refine ⟨_, rfl, _, rfl, r, _, other, .int (ht hs other), rfl, rfl, SqT.of hR2, atI_nat (ints_at (ht_at (by omega))), _, rfl, _, rfl, r, _, one, .int (ht hs one), rfl, rfl, SqT.of hR2, atI_nat (ints_at (ht_at (by omega))), _, _, rfl, rfl, rfl, ?_⟩
    refine q H2 _ (s1.trans s2) ⟨m, hmn, hc⟩ ⟨c, ?_, hl⟩
    rw [dec_int, Bool.beq_eq_decide_eq]
/-- upside down -/
def neg (hs : List Int) : List Int := hs.map fun h => -h
theorem ht_neg {hs : List Int} {v : Nat} (h : v < hs.length) : ht (neg hs) v = -ht hs v := by
  have e := ht_at h
  unfold ht neg
  rw [List.getElem?_map, e]
  rfl
theorem both_neg {n : Nat} {es : List (Nat × Nat)} {hs : List Int} {one other : Nat} {L : Int} (g : GoodNet n es) (hl : hs.length = n) (h1 : one < n) :
    Both es (neg hs) one other L ↔ (ht hs one ≤ -L ∧ Jd (J es) (fun v => ht hs v ≤ -L) one other) := by
  unfold Both
  rw [ht_neg (by omega)]
  have e : ∀ v, v < n → (up (neg hs) L v ↔ ht hs v ≤ -L) := fun v hv => by
    unfold up
    rw [ht_neg (by omega)]
    have : (neg hs).length = n := by unfold neg; rw [List.length_map]; exact hl
    omega
  have c1 : ∀ {k v}, Cn (J es) (up (neg hs) L) one k v → Cn (J es) (fun v => ht hs v ≤ -L) one k v := by
    intro k v c
    induction c with
    | base => exact .base
    | step _ j hv ih => exact .step ih j ((e _ (g.J_lt _ _ j).2.1).mp hv)
  have c2 : ∀ {k v}, Cn (J es) (fun v => ht hs v ≤ -L) one k v → Cn (J es) (up (neg hs) L) one k v := by
    intro k v c
    induction c with
    | base => exact .base
    | step _ j hv ih => exact .step ih j ((e _ (g.J_lt _ _ j).2.1).mpr hv)
  constructor
  · rintro ⟨a, k, c⟩
    exact ⟨by omega, k, c1 c⟩
  · rintro ⟨a, k, c⟩
    exact ⟨by omega, k, c2 c⟩
theorem ok_least_rise {f : Addr} {fd : FuncData} (F : Fun K "least_rise" "least_rise" s_least_rise f fd) (Z : Bt mg) (C_need_ends : Cal P w K mg base (L2.CX P w) 5 "need_ends" P_need_ends (spNeedEnds CN)) (C_pass_of : Cal P w K mg base CX0 4 "pass_of" P_pass_of spPassOf) : FnOk P w K mg base (L2.CX P w) 6 f fd P_least_rise (spFour CN RRise) := by
  refine F.okX sc_least_rise (fun vs H Q E h => ?_) (fun cdv A outer s H vs Q E hr h => ?_)
  · obtain ⟨p, r, n, es, hs, one, other, rfl, _⟩ := h
    rfl
  · obtain ⟨p, r, n, es, hs, one, other, rfl, hN, g, hR, gR, h1, h2, qE, q⟩ := h
    refine ⟨_, (pss_cons (ps_set (i := 4) sc_least_rise.nd rfl (by first | exact .inl rfl | exact .inr rfl) (pe_cal C_need_ends hr (passes_call (takes_of rfl rfl rfl rfl) (fun _ _ _ _ h => h)) (pa_cons (pv 0) (pa_cons (pv 1) (pa_cons (pv 2) (pa_cons (pv 3) pa_nil))))))
        (pss_one (ps_ret (pe_op op_sub (pe_un un_neg (pe_cal C_pass_of hr pass0 (pa_cons (pv 4) (pa_cons (pe_callTy call_tuple_of (by rfl) Z.tuple (by decide +kernel) (pa_cons (pe_lc (own := [("height", 5)]) (g := gName 5) rfl sc_least_rise.nd (piTup (K := K) (pv 1)) (blkOk_by (own := [("height", 5)]) (N := N_least_rise) (sc := defScope s_least_rise) (by decide +kernel)) (fun _ _ _ _ _ => pg_name (i := 5) sc_least_rise.nd rfl (by first | exact .inl rfl | exact .inr rfl)) (fun _ _ _ _ _ => pts_nil) (fun _ _ _ _ _ => (pe_un un_neg (pv 5)))) pa_nil)) (pa_cons (pv 2) (pa_cons (pv 3) pa_nil)))))) (pe_ix (ixT (K := K)) (pv 1) (pv 2) (fun _ _ => rfl)))))), ?_⟩
    have gl := gR.1
    have hn2 := g.le
    refine ⟨_, rfl, _, rfl, _, rfl, _, rfl, p, r, n, es, hs, one, other, rfl, hN, g, hR, gR, h1, h2, qE, fun H1 a adj s1 nA gA hm => ?_⟩
    have hR1 : H1 r = some (.tup (hs.map V.int)) := hR.same s1
    obtain ⟨m, hmn, hc⟩ := hm
    -- tuple([-height for height in row])
    refine ⟨_, rfl, _, rfl, r, rfl, ⟨_, SqT.of hR1⟩, fun D nD => ?_⟩
    refine lc_it (walk_tup (xs := hs.map V.int)) (fun i H' => Same H1 H' ∧ H' D = some (.lst ((neg (hs.take i)).map V.int))) ⟨same_new nD, upd_same⟩ (fun i H' _ hh => SqT.of (hh.1 _ _ hR1)) ?_ ?_
    · rintro i x H2 H3 hi ⟨s2, hD⟩ ⟨rfl, hx⟩
      obtain ⟨k, hk, rfl⟩ := ints_get hx
      refine ⟨rfl, _, rfl, k, rfl, _, hD, ?_, same_over s2 nD, ?_⟩
      · unfold neg
        rw [List.length_map, List.length_map, List.length_take]
        exact small1000 (by omega)
      · rw [upd_same, take_snoc hk]
        unfold neg
        rw [List.map_append, List.map_append]
        rfl
    · rintro H2 ⟨s2, hD⟩
      rw [List.length_map, List.take_length] at hD
      refine ⟨D, _, rfl, .inl ⟨SqL.of hD, fun t nt => ?_⟩⟩
      have s3 := s2.trans (same_new (o := .tup ((neg hs).map V.int)) nt)
      have ht3 : upd H2 t (.tup ((neg hs).map V.int)) t = some (.tup ((neg hs).map V.int)) := upd_same
      generalize upd H2 t (.tup ((neg hs).map V.int)) = H3 at s3 ht3
      refine ⟨_, rfl, _, rfl, a, t, n, es, adj, neg hs, one, other, rfl, nA.same s3, gA, g, ht3, by unfold neg; rw [List.length_map]; exact gl, h1, h2, ⟨m, hc⟩, fun H4 L s4 yes no => ?_⟩
      have s13 := s3.trans s4
      refine ⟨L, rfl, _, rfl, _, rfl, r, _, one, .int (ht hs one), rfl, rfl, SqT.of (s13 _ _ hR1), atI_nat (ints_at (ht_at (by omega))), _, _, rfl, rfl, ?_⟩
      refine q H4 _ (s1.trans s13) ⟨m, hmn, hc⟩ ⟨-L, rfl, ?_⟩
      refine pass_least g.J_lt gR.bd h1 ((both_neg g gl h1).mp yes) fun v hv hgt hb => ?_
      have e : ht (neg hs) v = -ht hs v := ht_neg (by omega)
      refine no v hv (by rw [e]; exact hgt) ?_
      rw [e]
      refine (both_neg g gl h1).mpr ?_
      rw [Int.neg_neg]
      exact hb
end
end Cl

set_option Elab.async false
set_option linter.all false
set_option maxRecDepth 100000
set_option maxHeartbeats 4000000
namespace Cl
open PySem PySem.Spec PyProof.Rows L2
section
variable {P : Program} {w : World} {K : PySem.W.Frag} {mg : Str → Option Value} {base : Heap}
/-! ### dicts from points to costs -/
def dkC (fs : List (Nat × Int)) : List (Key × V) := fs.map fun p => (Sum.inl (p.1 : Int), .int p.2)
def lk (fs : List (Nat × Int)) (k : Nat) : Option Int := (fs.find? fun p => decide (p.1 = k)).map (·.2)
theorem dkC_val : ∀ (fs : List (Nat × Int)) (k : Nat), valV (dkC fs) (Sum.inl (k : Int)) = (lk fs k).map V.int
  | [], k => rfl
  | p :: fs, k => by
    have ih := dkC_val fs k
    by_cases e : p.1 = k
    · have e1 : lk (p :: fs) k = some p.2 := by unfold lk; rw [List.find?_cons_of_pos (by simpa using e)]; rfl
      rw [e1]
      exact valV_pos (p := ((Sum.inl (p.1 : Int) : Key), V.int p.2)) (by rw [e])
    · have e1 : lk (p :: fs) k = lk fs k := by unfold lk; rw [List.find?_cons_of_neg (by simpa using e)]
      rw [e1, ← ih]
      refine valV_neg (p := ((Sum.inl (p.1 : Int) : Key), V.int p.2)) fun z => e ?_
      have : (p.1 : Int) = k := Sum.inl.inj z
      omega
theorem lk_mem {fs : List (Nat × Int)} {k : Nat} {c : Int} (h : lk fs k = some c) : (k, c) ∈ fs := by
  unfold lk at h
  cases e : fs.find? (fun p => decide (p.1 = k)) with
  | none => rw [e] at h; cases h
  | some p =>
    rw [e] at h
    have h1 := List.mem_of_find?_eq_some e
    have h2 := List.find?_some e
    have h3 : p.1 = k := of_decide_eq_true h2
    have h4 : p.2 = c := Option.some.inj h
    have : p = (k, c) := Prod.ext h3 h4
    rw [← this]
    exact h1
theorem lk_none {fs : List (Nat × Int)} {k : Nat} (h : lk fs k = none) : k ∉ fs.map (·.1) := fun m => by
  obtain ⟨p, hp, e⟩ := List.mem_map.mp m
  unfold lk at h
  rw [Option.map_eq_none_iff, List.find?_eq_none] at h
  exact h p hp (decide_eq_true e)
theorem lk_some {fs : List (Nat × Int)} {k : Nat} (h : k ∈ fs.map (·.1)) : ∃ c, lk fs k = some c := by
  cases e : lk fs k with
  | none => exact absurd h (lk_none e)
  | some c => exact ⟨c, rfl⟩
theorem lk_key {fs : List (Nat × Int)} {k : Nat} {c : Int} (h : lk fs k = some c) : k ∈ fs.map (·.1) := List.mem_map.mpr ⟨_, lk_mem h, rfl⟩
theorem lk_of_mem : ∀ {fs : List (Nat × Int)} {k : Nat} {c : Int}, (fs.map (·.1)).Nodup → (k, c) ∈ fs → lk fs k = some c
  | [], _, _, _, h => by simp at h
  | p :: fs, k, c, nd, h => by
    have nd : (p.1 :: fs.map (·.1)).Nodup := nd
    obtain ⟨h1, h2⟩ := List.nodup_cons.mp nd
    rcases List.mem_cons.mp h with e | h
    · unfold lk
      rw [List.find?_cons_of_pos (by rw [← e]; simp), ← e]
      rfl
    · have ne : p.1 ≠ k := fun e => h1 (by rw [e]; exact List.mem_map.mpr ⟨_, h, rfl⟩)
      have := lk_of_mem h2 h
      unfold lk at this ⊢
      rw [List.find?_cons_of_neg (by simpa using ne)]
      exact this
/-- a cost stored -/
theorem dkC_put (fs : List (Nat × Int)) (k : Nat) (c : Int) : ∃ fs', putK (dkC fs) (Sum.inl (k : Int)) (.int c) = dkC fs' ∧ (∀ j, lk fs' j = if j = k then some c else lk fs j) ∧
    fs'.map (·.1) = (if k ∈ fs.map (·.1) then fs.map (·.1) else fs.map (·.1) ++ [k]) := by
  have all : ∀ fs', putK (dkC fs) (Sum.inl (k : Int)) (.int c) = dkC fs' → ∀ j, lk fs' j = if j = k then some c else lk fs j := fun fs' e j => by
    have h := valV_put (dkC fs) (Sum.inl (k : Int)) (Sum.inl (j : Int)) (.int c)
    rw [e, dkC_val, dkC_val] at h
    by_cases ej : j = k
    · subst ej
      rw [if_pos rfl] at h
      rw [if_pos rfl]
      cases hl : lk fs' j with
      | none => rw [hl] at h; cases h
      | some d =>
        rw [hl] at h
        have := V.int.inj (Option.some.inj h)
        rw [this]
    · rw [if_neg (fun z => ej (by have : (j : Int) = k := Sum.inl.inj z; omega))] at h
      rw [if_neg ej]
      cases h1 : lk fs' j with
      | none =>
        cases h2 : lk fs j with
        | none => rfl
        | some d => rw [h1, h2] at h; cases h
      | some d' =>
        cases h2 : lk fs j with
        | none => rw [h1, h2] at h; cases h
        | some d =>
          rw [h1, h2] at h
          rw [V.int.inj (Option.some.inj h)]
  by_cases h : k ∈ fs.map (·.1)
  · have e : putK (dkC fs) (Sum.inl (k : Int)) (.int c) = dkC (fs.map fun p => if p.1 = k then (p.1, c) else p) := by
      unfold putK
      obtain ⟨p, hp, hk⟩ := List.mem_map.mp h
      have ha : ((dkC fs).any fun kv => decide (kv.1 = Sum.inl (k : Int))) = true := List.any_eq_true.mpr ⟨((Sum.inl (p.1 : Int) : Key), V.int p.2), List.mem_map.mpr ⟨p, hp, rfl⟩, decide_eq_true (by rw [hk])⟩
      rw [if_pos ha]
      unfold dkC
      rw [List.map_map, List.map_map]
      refine List.map_congr_left fun x _ => ?_
      show (if (Sum.inl (x.1 : Int) : Key) = Sum.inl (k : Int) then ((Sum.inl (x.1 : Int) : Key), V.int c) else (Sum.inl (x.1 : Int), V.int x.2)) = _
      by_cases ex : x.1 = k
      · rw [if_pos (by rw [ex])]
        show _ = ((Sum.inl (((if x.1 = k then (x.1, c) else x).1 : Nat) : Int) : Key), V.int (if x.1 = k then (x.1, c) else x).2)
        rw [if_pos ex]
      · rw [if_neg (fun z => ex (by have : (x.1 : Int) = k := Sum.inl.inj z; omega))]
        show _ = ((Sum.inl (((if x.1 = k then (x.1, c) else x).1 : Nat) : Int) : Key), V.int (if x.1 = k then (x.1, c) else x).2)
        rw [if_neg ex]
    refine ⟨_, e, all _ e, ?_⟩
    rw [if_pos h, List.map_map]
    refine List.map_congr_left fun x _ => ?_
    show (if x.1 = k then (x.1, c) else x).1 = x.1
    split <;> rfl
  · have e : putK (dkC fs) (Sum.inl (k : Int)) (.int c) = dkC (fs ++ [(k, c)]) := by
      have hv : valV (dkC fs) (Sum.inl (k : Int)) = none := by
        rw [dkC_val]
        cases hl : lk fs k with
        | none => rfl
        | some d => exact absurd (lk_key hl) h
      rw [putK_new _ hv]
      unfold dkC
      rw [List.map_append]
      rfl
    refine ⟨_, e, all _ e, ?_⟩
    rw [if_neg h, List.map_append]
    rfl
theorem dkC_len (fs : List (Nat × Int)) : (dkC fs).length = (fs.map (·.1)).length := by
  unfold dkC
  rw [List.length_map, List.length_map]
/-- the labels that a search keeps -/
structure LInv (n : Nat) (J : Nat → Nat → Prop) (op : Int → Int → Int) (w : Nat → Nat → Int) (s : Nat) (fs : List (Nat × Int)) : Prop where
  nd : (fs.map (·.1)).Nodup
  lt : ∀ v ∈ fs.map (·.1), v < n
  st : lk fs s = some 0
  wk : ∀ v c, lk fs v = some c → Wk J op zero w n s v c
theorem LInv.put {n : Nat} {J : Nat → Nat → Prop} {op : Int → Int → Int} {w : Nat → Nat → Int} {s : Nat} {fs fs' : List (Nat × Int)} {v : Nat} {t : Int} (R : LInv n J op w s fs)
    (hl : ∀ j, lk fs' j = if j = v then some t else lk fs j) (hk : fs'.map (·.1) = (if v ∈ fs.map (·.1) then fs.map (·.1) else fs.map (·.1) ++ [v])) (hv : v < n) (hw : Wk J op zero w n s v t) (hs : v = s → t = 0) : LInv n J op w s fs' := by
  refine ⟨?_, fun x hx => ?_, ?_, fun x c hx => ?_⟩
  · rw [hk]
    by_cases h : v ∈ fs.map (·.1)
    · rw [if_pos h]; exact R.nd
    · rw [if_neg h]; exact nd_snoc R.nd h
  · rw [hk] at hx
    by_cases h : v ∈ fs.map (·.1)
    · rw [if_pos h] at hx; exact R.lt x hx
    · rw [if_neg h] at hx
      rcases List.mem_append.mp hx with h' | h'
      · exact R.lt x h'
      · rw [List.mem_singleton.mp h']; exact hv
  · rw [hl]
    by_cases e : s = v
    · rw [if_pos e, hs e.symm]
    · rw [if_neg e]; exact R.st
  · rw [hl] at hx
    by_cases e : x = v
    · rw [if_pos e] at hx
      cases hx
      rw [e]
      exact hw
    · rw [if_neg e] at hx
      exact R.wk x c hx
theorem keys_put {fs fs' : List (Nat × Int)} {v : Nat} (hk : fs'.map (·.1) = (if v ∈ fs.map (·.1) then fs.map (·.1) else fs.map (·.1) ++ [v])) {x : Nat} (h : x ∈ fs.map (·.1)) : x ∈ fs'.map (·.1) := by
  rw [hk]
  split
  · exact h
  · exact List.mem_append_left _ h
end
end Cl

set_option Elab.async false
set_option linter.all false
set_option maxRecDepth 100000
set_option maxHeartbeats 4000000
namespace Cl
open PySem PySem.Spec PyProof.Rows L2
section
variable {P : Program} {w : World} {K : PySem.W.Frag} {mg : Str → Option Value} {base : Heap}
/-- Dijkstra's search between two turns: ds the points that are done -/
structure DInv (n : Nat) (J : Nat → Nat → Prop) (w : Nat → Nat → Int) (fs : List (Nat × Int)) (ds : List Nat) : Prop where
  nd : ds.Nodup
  sub : ∀ u ∈ ds, u ∈ fs.map (·.1)
  lab : ∀ u ∈ ds, ∀ c, lk fs u = some c → ∀ v, J u v → ∃ d, lk fs v = some d ∧ d ≤ c + w u v
  ord : ∀ u ∈ ds, ∀ v, v ∉ ds → ∀ c d, lk fs u = some c → lk fs v = some d → c ≤ d
/-- .. within a turn: c the cost of the point at hand -/
structure DTurn (n : Nat) (J : Nat → Nat → Prop) (w : Nat → Nat → Int) (fs : List (Nat × Int)) (ds : List Nat) (here : Nat) (c : Int) (part : List Nat) : Prop where
  sub : ∀ u ∈ ds, u ∈ fs.map (·.1)
  lab : ∀ u ∈ ds, ∀ cu, lk fs u = some cu → cu ≤ c ∧ ∀ v, J u v → ∃ d, lk fs v = some d ∧ d ≤ cu + w u v
  ge : ∀ v d, lk fs v = some d → v ∉ ds → c ≤ d
  at_ : lk fs here = some c
  new : here ∉ ds
  got : ∀ v ∈ part, ∃ d, lk fs v = some d ∧ d ≤ c + w here v
theorem DTurn.put {n : Nat} {J : Nat → Nat → Prop} {w : Nat → Nat → Int} {fs fs' : List (Nat × Int)} {ds : List Nat} {here v : Nat} {c : Int} {part : List Nat} (D : DTurn n J w fs ds here c part)
    (hl : ∀ j, lk fs' j = if j = v then some (c + w here v) else lk fs j) (hk : fs'.map (·.1) = (if v ∈ fs.map (·.1) then fs.map (·.1) else fs.map (·.1) ++ [v]))
    (hw : 0 ≤ w here v) (hne : v ≠ here) (hlow : ∀ d, lk fs v = some d → c + w here v < d) : DTurn n J w fs' ds here c (part ++ [v]) := by
  have hvd : v ∉ ds := fun h => by
    obtain ⟨cv, hcv⟩ := lk_some (D.sub v h)
    have := (D.lab v h cv hcv).1
    have := hlow cv hcv
    omega
  refine ⟨fun u hu => keys_put hk (D.sub u hu), fun u hu cu hcu => ?_, fun x d hx hxd => ?_, ?_, D.new, fun x hx => ?_⟩
  · have huv : u ≠ v := fun e => hvd (e ▸ hu)
    rw [hl, if_neg huv] at hcu
    obtain ⟨h1, h2⟩ := D.lab u hu cu hcu
    refine ⟨h1, fun x hx => ?_⟩
    obtain ⟨d, hd, hle⟩ := h2 x hx
    rw [hl]
    by_cases e : x = v
    · rw [if_pos e]
      rw [e] at hd hle
      have := hlow d hd
      exact ⟨_, rfl, by rw [e]; omega⟩
    · rw [if_neg e]
      exact ⟨d, hd, hle⟩
  · rw [hl] at hx
    by_cases e : x = v
    · rw [if_pos e] at hx
      cases hx
      omega
    · rw [if_neg e] at hx
      exact D.ge x d hx hxd
  · rw [hl, if_neg (Ne.symm hne)]
    exact D.at_
  · rw [hl]
    by_cases e : x = v
    · rw [if_pos e]
      exact ⟨_, rfl, by rw [e]; exact Int.le_refl _⟩
    · rw [if_neg e]
      rcases List.mem_append.mp hx with h | h
      · exact D.got x h
      · exact absurd (List.mem_singleton.mp h) e
theorem DTurn.keep {n : Nat} {J : Nat → Nat → Prop} {w : Nat → Nat → Int} {fs : List (Nat × Int)} {ds : List Nat} {here v : Nat} {c d : Int} {part : List Nat} (D : DTurn n J w fs ds here c part)
    (hd : lk fs v = some d) (hle : ¬ c + w here v < d) : DTurn n J w fs ds here c (part ++ [v]) := by
  refine ⟨D.sub, D.lab, D.ge, D.at_, D.new, fun x hx => ?_⟩
  rcases List.mem_append.mp hx with h | h
  · exact D.got x h
  · rw [List.mem_singleton.mp h]
    exact ⟨d, hd, by omega⟩
theorem DTurn.done {n : Nat} {J : Nat → Nat → Prop} {w : Nat → Nat → Int} {fs : List (Nat × Int)} {ds : List Nat} {here : Nat} {c : Int} {part : List Nat} (D : DTurn n J w fs ds here c part) (nd : ds.Nodup) (all : ∀ v, J here v → v ∈ part) :
    DInv n J w fs (ds ++ [here]) := by
  refine ⟨nd_snoc nd D.new, fun u hu => ?_, fun u hu cu hcu v hj => ?_, fun u hu v hv cu d hcu hd => ?_⟩
  · rcases List.mem_append.mp hu with h | h
    · exact D.sub u h
    · rw [List.mem_singleton.mp h]; exact lk_key D.at_
  · rcases List.mem_append.mp hu with h | h
    · exact (D.lab u h cu hcu).2 v hj
    · rw [List.mem_singleton.mp h] at hcu hj ⊢
      rw [D.at_] at hcu
      cases hcu
      exact D.got v (all v hj)
  · have hvd : v ∉ ds := fun h => hv (List.mem_append_left _ h)
    have := D.ge v d hd hvd
    rcases List.mem_append.mp hu with h | h
    · have := (D.lab u h cu hcu).1
      omega
    · rw [List.mem_singleton.mp h, D.at_] at hcu
      cases hcu
      exact this
theorem room_len {n : Nat} (h : n ≤ 100000) : n < sizeLine := by rw [sizeLine_eq]; omega
theorem ok_climb_of {f : Addr} {fd : FuncData} (F : Fun K "climb_of" "climb_of" s_climb_of f fd) (Z : Bt mg) : FnOk P w K mg base CX0 1 f fd P_climb_of spClimbOf := by
  obtain ⟨tp, h_MOST_POINTS⟩ := Z.mp
  obtain ⟨th, h_MOST_HEIGHT⟩ := Z.mh
  refine F.ok sc_climb_of (fun vs H Q E h => ?_) (fun cdv A outer s H vs Q E hr h => ?_)
  · obtain ⟨p, r, n, es, adj, hs, s0, rfl, _⟩ := h
    rfl
  · obtain ⟨p, r, n, es, adj, hs, s0, rfl, hN, gN, g, hR, gR, hs0, q⟩ := h
    have hR' : H r = some (.tup (hs.map V.int)) := hR
    have hn2 := g.le
    have gl := gR.1
    have AL := alg_climb (J := J es) (h := ht hs) g.J_lt gR.bd
    refine ⟨_, (pss_cons (ps_asg (pe_tup (pa_cons (pe_disp (pps_cons (pv 2) pe_int pps_nil) (by rfl) (by rfl) (fun z => by cases z) (by decide)) (pa_cons pe_dnewK pa_nil))) (pg_tup rfl (pgs_cons (pg_name (i := 3) sc_climb_of.nd rfl (by first | exact .inl rfl | exact .inr rfl)) (pgs_cons (pg_name (i := 4) sc_climb_of.nd rfl (by first | exact .inl rfl | exact .inr rfl)) pgs_nil))))
        (pss_cons (ps_while PassesOwn.never (pt_cmpR op_lt (pe_callB call_lenD (by rfl) Z.len (by decide +kernel) (pa_cons (pv 4) pa_nil)) (pe_callB call_lenD (by rfl) Z.len (by decide +kernel) (pa_cons (pv 3) pa_nil)) (nomark _)) (pss_cons (ps_set (i := 5) sc_climb_of.nd rfl (by first | exact .inl rfl | exact .inr rfl) (pe_ix (ixT (K := K)) (pe_callB (cr_minP rfl hr.units) (by rfl) Z.min (by decide +kernel) (pa_cons (pe_lock (pe_lc (own := [("point", 6)]) (g := gName 6) rfl sc_climb_of.nd (pi_keys (pv 3)) (blkOk_by (own := [("point", 6)]) (N := N_climb_of) (sc := defScope s_climb_of) (by decide +kernel)) (fun _ _ _ _ _ => pg_name (i := 6) sc_climb_of.nd rfl (by first | exact .inl rfl | exact .inr rfl)) (fun _ _ _ _ _ => (pts_one (pt_cmp (pc_dnotin (hu_of hr) (pv 6) (pv 4))))) (fun _ _ _ _ _ => (pe_tup (pa_cons (pe_dget (hu_of hr) (pv 3) (pv 6) (fun _ _ => rfl)) (pa_cons (pv 6) pa_nil)))))) pa_nil)) pe_int (fun _ _ => rfl)))
        (pss_cons (ps_dput (hu_of hr) (pv 4) (pv 5) pe_bl rfl)
        (pss_one (ps_for PassesOwn.never rfl (piList (K := K) (pe_ix (ixL (K := K)) (pv 0) (pv 5) (fun _ _ => rfl))) (pg_name (i := 6) sc_climb_of.nd rfl (by first | exact .inl rfl | exact .inr rfl)) (pss_cons (ps_set (i := 7) sc_climb_of.nd rfl (by first | exact .inl rfl | exact .inr rfl) (pe_op op_add (pe_dget (hu_of hr) (pv 3) (pv 5) (fun _ _ => rfl)) (pe_callB (call_max2 rfl) (by rfl) Z.max (by decide +kernel) (pa_cons pe_int (pa_cons (pe_op op_sub (pe_ix (ixT (K := K)) (pv 1) (pv 6) (fun _ _ => rfl)) (pe_ix (ixT (K := K)) (pv 1) (pv 5) (fun _ _ => rfl))) pa_nil)))))
        (pss_one (ps_if (PW.pt (pw_or (pt_cmp (pc_dnotin (hu_of hr) (pv 6) (pv 3))) (pw_or1 (pt_cmpR op_lt (pv 7) (pe_dget (hu_of hr) (pv 3) (pv 6) (fun _ _ => rfl)) (nomark _))))) (pss_one (ps_dput (hu_of hr) (pv 3) (pv 6) (pv 7) rfl)) pss_nil))))))))
        (pss_one (ps_ret (pv 3))))), ?_⟩
    -- found, done = {start: 0}, {}
    refine fun fd nfd => ⟨_, rfl, upd_same, [(Sum.inl (s0 : Int), .int 0)], rfl, (by show 1 ≤ 15; decide), ?_⟩
    rw [upd_upd]
    have s1 : Same H (upd H fd (.dK (mergeK [] [(Sum.inl (s0 : Int), .int 0)]))) := same_new nfd
    have f1 : upd H fd (.dK (mergeK [] [(Sum.inl (s0 : Int), .int 0)])) fd = some (.dK (dkC [(s0, 0)])) := upd_same
    generalize upd H fd (.dK (mergeK [] [(Sum.inl (s0 : Int), .int 0)])) = H1 at s1 f1
    refine fun dd ndd => ?_
    have s2 : Same H (upd H1 dd (.dK [])) := s1.trans (same_new ndd)
    have ndd0 : H dd = none := s1.free ndd
    have ne : fd ≠ dd := ne_of_none f1 ndd
    have f2 : upd H1 dd (.dK []) fd = some (.dK (dkC [(s0, 0)])) := by rw [upd_ne ne]; exact f1
    have d2 : upd H1 dd (.dK []) dd = some (.dK (dkT [])) := upd_same
    generalize upd H1 dd (.dK []) = H2 at s2 f2 d2
    refine ⟨small16 (by show 2 ≤ 1000; decide), fun t nt => ⟨t, _, rfl, SqT.of upd_same, rfl, _, _, rfl, _, _, rfl, rfl, ?_⟩⟩
    have s3 : Same H (upd H2 t (.tup [.ref fd, .ref dd])) := s2.trans (same_new nt)
    have f3 : upd H2 t (.tup [.ref fd, .ref dd]) fd = some (.dK (dkC [(s0, 0)])) := by rw [upd_ne (ne_of_none f2 nt)]; exact f2
    have d3 : upd H2 t (.tup [.ref fd, .ref dd]) dd = some (.dK (dkT [])) := by rw [upd_ne (ne_of_none d2 nt)]; exact d2
    generalize upd H2 t (.tup [.ref fd, .ref dd]) = H3 at s3 f3 d3
    -- while len(done) < len(found)
    refine ⟨fun m σ H' => ∃ fs ds y5 y6 y7, σ = [some (.ref p), some (.ref r), some (pt s0), some (.ref fd), some (.ref dd), y5, y6, y7] ∧ Same H H' ∧ H' fd = some (.dK (dkC fs)) ∧ H' dd = some (.dK (dkT ds)) ∧ LInv n (J es) (· + ·) (climbW (ht hs)) s0 fs ∧ DInv n (J es) (climbW (ht hs)) fs ds ∧ m = n - ds.length,
      ⟨_, [(s0, 0)], [], none, none, none, rfl, s3, f3, d3, ⟨by simp, by simp [hs0], by simp [lk], fun v c h => ?_⟩, ⟨by simp, by simp, by simp, by simp⟩, rfl⟩, ?_⟩
    · have := lk_mem h
      simp at this
      rw [this.1, this.2]
      exact .base s0
    rintro m σ H4 ⟨fs, ds, y5, y6, y7, rfl, s4, f4, d4, LI, DI, rfl⟩
    refine ⟨_, rfl, dd, _, rfl, d4, _, rfl, fd, _, rfl, f4, _, _, rfl, rfl, _, rfl, ?_⟩
    have hdl : (dkT ds).length = ds.length := by unfold dkT; rw [List.length_map]
    rw [hdl, dkC_len]
    have kn := nodup_le LI.nd LI.lt
    refine ite2 (fun hlt => ?_) (fun hge => ?_)
    · -- one turn
      have hlt : ds.length < (fs.map (·.1)).length := by have := of_decide_eq_true hlt; omega
      refine ⟨fun σ' H' => ∃ m', m' < n - ds.length ∧ ∃ fs ds y5 y6 y7, σ' = [some (.ref p), some (.ref r), some (pt s0), some (.ref fd), some (.ref dd), y5, y6, y7] ∧ Same H H' ∧ H' fd = some (.dK (dkC fs)) ∧ H' dd = some (.dK (dkT ds)) ∧ LInv n (J es) (· + ·) (climbW (ht hs)) s0 fs ∧ DInv n (J es) (climbW (ht hs)) fs ds ∧ m' = n - ds.length, fun σ' H' hh => hh, ?_⟩
      -- min([(found[point], point) for point in found if point not in done])[1]
      refine ⟨fd, _, f4, trivial, fun od => ?_⟩
      have sl : ∀ b o, b ≠ fd → H4 b = some o → upd H4 fd (.frz od (.dK (dkC fs))) b = some o := fun b o hb h => by rw [upd_ne hb]; exact h
      have hfl : upd H4 fd (.frz od (.dK (dkC fs))) fd = some (.frz od (.dK (dkC fs))) := upd_same
      have dl := sl _ _ ne.symm d4
      generalize upd H4 fd (.frz od (.dK (dkC fs))) = Hl at sl hfl dl
      refine ⟨_, rfl, fd, od, rfl, .inl ⟨_, hfl, fun D nD => ?_⟩⟩
      have nDf : fd ≠ D := ne_of_none hfl nD
      refine lc_it walk_keys (fun i H' => Same Hl H' ∧ ∃ ps : List (Addr × Int × Int), H' D = some (.lst (ps.map fun p => V.ref p.1)) ∧ (∀ p ∈ ps, H' p.1 = some (.tup [.int p.2.1, .int p.2.2])) ∧ ps.length ≤ i ∧ (∀ p ∈ ps, ∃ v : Nat, v ∉ ds ∧ lk fs v = some p.2.1 ∧ p.2.2 = (v : Int)) ∧ ∀ e ∈ fs.take i, e.1 ∉ ds → ∃ p ∈ ps, p.2.1 = e.2)
        ⟨same_new nD, [], upd_same, by simp, Nat.le_refl _, by simp, by simp⟩ (fun i H' _ hh => hh.1 _ _ hfl) ?_ ?_
      · rintro i x H5 H6 hi ⟨s5, ps, hD, hp, lp, h1, h2⟩ ⟨rfl, k, v, hk, rfl⟩
        have hk' : ∃ e, fs[i]? = some e ∧ k = Sum.inl (e.1 : Int) ∧ v = .int e.2 := by
          unfold dkC at hk
          rw [List.getElem?_map] at hk
          cases he : fs[i]? with
          | none => rw [he] at hk; cases hk
          | some e =>
            rw [he] at hk
            have := Option.some.inj hk
            exact ⟨e, rfl, (Prod.mk.inj this).1.symm, (Prod.mk.inj this).2.symm⟩
        obtain ⟨e, he, rfl, rfl⟩ := hk'
        have hle : lk fs e.1 = some e.2 := lk_of_mem LI.nd (List.mem_of_getElem? he)
        refine ⟨rfl, _, rfl, _, rfl, dd, _, rfl, .inl ⟨dkT ds, Sum.inl (e.1 : Int), .inl (s5 _ _ dl), rfl, rfl⟩, _, rfl, ?_⟩
        rw [keys_some (dkT_keys ds)]
        by_cases c : e.1 ∈ ds
        · rw [decide_eq_true c]
          refine iteF ⟨s5, ps, hD, hp, by omega, h1, fun e' he' hn' => ?_⟩
          rw [take_snoc he] at he'
          rcases List.mem_append.mp he' with h | h
          · exact h2 e' h hn'
          · rw [List.mem_singleton.mp h] at hn'
            exact absurd c hn'
        · rw [decide_eq_false c]
          refine iteT ⟨_, rfl, _, rfl, fd, .int e.2, rfl, .inl ⟨dkC fs, Sum.inl (e.1 : Int), .inr ⟨od, s5 _ _ hfl⟩, rfl, by rw [dkC_val, hle]; rfl⟩, ?_⟩
          refine ⟨_, rfl, small16 (by show 2 ≤ 1000; decide), fun T nT => ?_⟩
          have nTD : D ≠ T := ne_of_none hD nT
          have nTp : ∀ p ∈ ps, p.1 ≠ T := fun p hp' => ne_of_none (hp p hp') nT
          have nDp : ∀ p ∈ ps, p.1 ≠ D := fun p hp' => ne_of (hp p hp') hD (fun z => nomatch z)
          have ki := get_lt he
          refine ⟨_, by rw [upd_ne nTD]; exact hD, by rw [List.length_map]; exact small1000 (by rw [List.length_map] at kn; omega), same_over (s5.trans (same_new nT)) nD, ps ++ [(T, e.2, (e.1 : Int))], by rw [upd_same, List.map_append]; rfl, fun p' hp' => ?_, by rw [List.length_append, List.length_singleton]; omega, fun p' hp' => ?_, fun e' he' hn' => ?_⟩
          · rcases List.mem_append.mp hp' with h | h
            · rw [upd_ne (nDp _ h), upd_ne (nTp _ h)]
              exact hp _ h
            · rw [List.mem_singleton.mp h]
              show upd _ D _ T = _
              rw [upd_ne (Ne.symm nTD), upd_same]
              rfl
          · rcases List.mem_append.mp hp' with h | h
            · exact h1 _ h
            · rw [List.mem_singleton.mp h]
              exact ⟨e.1, c, hle, rfl⟩
          · rw [take_snoc he] at he'
            rcases List.mem_append.mp he' with h | h
            · obtain ⟨p', a, b⟩ := h2 e' h hn'
              exact ⟨p', List.mem_append_left _ a, b⟩
            · rw [List.mem_singleton.mp h]
              exact ⟨_, List.mem_append_right _ List.mem_cons_self, rfl⟩
      rintro H5 ⟨s5, ps, hD, hp, lp, h1, h2⟩
      have h2' : ∀ v c, lk fs v = some c → v ∉ ds → ∃ p ∈ ps, p.2.1 = c := fun v c hv hn' => by
        refine h2 (v, c) ?_ hn'
        have : (dkC fs).length = fs.length := by unfold dkC; rw [List.length_map]
        rw [this, List.take_length]
        exact lk_mem hv
      have hps : ps ≠ [] := fun z => by
        subst z
        have := nat_nodup_len (fs.map (·.1)) ds LI.nd fun x hx => Classical.byContradiction fun hnx => by
          obtain ⟨c, hc⟩ := lk_some hx
          obtain ⟨p, a, _⟩ := h2' x c hc hnx
          simp at a
        omega
      refine ⟨s5 _ _ hfl, ?_⟩
      have s6 : Same H4 (upd H5 fd (.dK (dkC fs))) := fun b o hb => by
        by_cases e : b = fd
        · subst e
          rw [f4] at hb
          cases hb
          exact upd_same
        · rw [upd_ne e]
          exact s5 _ _ (sl _ _ e hb)
      have hD6 : upd H5 fd (.dK (dkC fs)) D = some (.lst (ps.map fun p => V.ref p.1)) := by rw [upd_ne nDf.symm]; exact hD
      have hp6 : ∀ p ∈ ps, upd H5 fd (.dK (dkC fs)) p.1 = some (.tup [.int p.2.1, .int p.2.2]) := fun p' hp' => by
        rw [upd_ne (ne_of (hp p' hp') (s5 _ _ hfl) (fun z => nomatch z))]
        exact hp p' hp'
      generalize upd H5 fd (.dK (dkC fs)) = H6 at s6 hD6 hp6
      have f6 := s6 _ _ f4
      have d6 := s6 _ _ d4
      have sH6 : Same H H6 := s4.trans s6
      refine ⟨D, ps, rfl, SqL.of hD6, hps, hp6, fun m hm hmin => ?_⟩
      obtain ⟨here, hnd, hc, e2⟩ := h1 m hm
      refine ⟨m.1, _, 1, pt here, rfl, rfl, SqT.of (hp6 m hm), atI_nat (j := 1) (by rw [e2]; rfl), ?_⟩
      have hhn : here < n := LI.lt _ (lk_key hc)
      have dlen : ds.length < n := by omega
      have wnn : ∀ v, 0 ≤ climbW (ht hs) here v := fun v => by unfold climbW; omega
      have T0 : DTurn n (J es) (climbW (ht hs)) fs ds here m.2.1 [] := by
        refine ⟨DI.sub, fun u hu cu hcu => ⟨DI.ord u hu here hnd cu _ hcu hc, DI.lab u hu cu hcu⟩, fun v d hv hnv => ?_, hc, hnd, by simp⟩
        obtain ⟨p', a, b⟩ := h2' v d hv hnv
        have := hmin p' a
        omega
      -- done[here] = True
      refine ⟨_, rfl, _, rfl, dd, _, rfl, DPut.k (k := Sum.inl (here : Int)) d6 (by unfold dkT; rw [List.length_map]; exact room_len (by omega)), ?_⟩
      rw [dkT_snoc hnd]
      have s7 : Same H (upd H6 dd (.dK (dkT (ds ++ [here])))) := same_over sH6 ndd0
      have f7 : upd H6 dd (.dK (dkT (ds ++ [here]))) fd = some (.dK (dkC fs)) := by rw [upd_ne ne]; exact f6
      have d7 : upd H6 dd (.dK (dkT (ds ++ [here]))) dd = some (.dK (dkT (ds ++ [here]))) := upd_same
      generalize upd H6 dd (.dK (dkT (ds ++ [here]))) = H7 at s7 f7 d7
      obtain ⟨l, hl⟩ := get_some (l := adj) (i := here) (by rw [gN.1]; exact hhn)
      obtain ⟨la, as, n1, n2, n3⟩ := hN.at_ hl
      have mem_l := gN.2 here l hl
      -- for point in near[here]
      refine ⟨_, rfl, _, rfl, p, _, here, .ref la, rfl, rfl, SqL.of (s7 _ _ n1), atI_nat n2, la, rfl, ⟨_, SqL.of (s7 _ _ n3)⟩,
        for_it (walk_list (xs := pts l)) (fun k σ H' => ∃ fs2 y6 y7, σ = [some (.ref p), some (.ref r), some (pt s0), some (.ref fd), some (.ref dd), some (pt here), y6, y7] ∧ Same H H' ∧ H' fd = some (.dK (dkC fs2)) ∧ H' dd = some (.dK (dkT (ds ++ [here]))) ∧ LInv n (J es) (· + ·) (climbW (ht hs)) s0 fs2 ∧ DTurn n (J es) (climbW (ht hs)) fs2 ds here m.2.1 (l.take k))
          ⟨fs, y6, y7, rfl, s7, f7, d7, LI, T0⟩ (fun k σ H' _ ⟨_, _, _, _, s8, _⟩ => SqL.of (s8 _ _ n3)) ?_ ?_⟩
      · rintro k x σ H8 H9 hk ⟨fs2, y6, y7, rfl, s8, f8, d8, L2, T2⟩ ⟨rfl, hx⟩
        obtain ⟨v, hv, rfl⟩ := pts_get hx
        have hj : J es here v := (mem_l v).mp (List.mem_of_getElem? hv)
        have hjl := g.J_lt _ _ hj
        have hR9 : H9 r = some (.tup (hs.map V.int)) := s8 _ _ hR'
        have kn2 := nodup_le L2.nd L2.lt
        -- told = found[here] + max(0, row[point] - row[here])
        refine ⟨_, rfl, _, rfl, fd, .int m.2.1, rfl, .inl ⟨_, Sum.inl (here : Int), .inl f8, rfl, by rw [dkC_val, T2.at_]; rfl⟩, ?_⟩
        refine ⟨_, rfl, _, rfl, r, _, v, .int (ht hs v), rfl, rfl, SqT.of hR9, atI_nat (ints_at (ht_at (by omega))), _, rfl, _, rfl, r, _, here, .int (ht hs here), rfl, rfl, SqT.of hR9, atI_nat (ints_at (ht_at (by omega))), _, _, rfl, rfl, _, _, rfl, _, _, rfl, rfl, ?_⟩
        have et : m.2.1 + (if ht hs v - ht hs here > 0 then ht hs v - ht hs here else 0) = m.2.1 + climbW (ht hs) here v := by
          unfold climbW
          split <;> omega
        show gName 7 (V.int (m.2.1 + (if ht hs v - ht hs here > 0 then ht hs v - ht hs here else 0))) _ H9 _
        rw [et]
        have hw : Wk (J es) (· + ·) zero (climbW (ht hs)) n s0 v (m.2.1 + climbW (ht hs) here v) := (L2.wk here _ T2.at_).snoc AL hj
        have store : (∀ d, lk fs2 v = some d → m.2.1 + climbW (ht hs) here v < d) → sDPut (tVar 3) (tVar 6) (tVar 7) ⟨fun σ' H' => ∃ fs2 y6 y7, σ' = [some (.ref p), some (.ref r), some (pt s0), some (.ref fd), some (.ref dd), some (pt here), y6, y7] ∧ Same H H' ∧ H' fd = some (.dK (dkC fs2)) ∧ H' dd = some (.dK (dkT (ds ++ [here]))) ∧ LInv n (J es) (· + ·) (climbW (ht hs)) s0 fs2 ∧ DTurn n (J es) (climbW (ht hs)) fs2 ds here m.2.1 (l.take (k + 1)), fun _ _ => False, fun _ _ => False, fun _ _ => False⟩
            [some (.ref p), some (.ref r), some (pt s0), some (.ref fd), some (.ref dd), some (pt here), some (pt v), some (.int (m.2.1 + climbW (ht hs) here v))] H9 := fun hlow => by
          obtain ⟨fs3, e1, e2, e3⟩ := dkC_put fs2 v (m.2.1 + climbW (ht hs) here v)
          refine ⟨_, rfl, _, rfl, _, rfl, fd, _, rfl, DPut.k (k := Sum.inl (v : Int)) f8 (by rw [dkC_len]; exact room_len (by omega)), fs3, _, _, rfl, same_over s8 nfd, by rw [← e1]; exact upd_same, by rw [upd_ne ne.symm]; exact d8, L2.put e2 e3 hjl.2.1 hw (fun z => ?_), ?_⟩
          · have h0 := L2.st
            rw [← z] at h0
            have := hlow 0 h0
            have := wnn v
            have := (L2.wk here _ T2.at_).lo_le AL hs0
            omega
          · rw [take_snoc hv]
            exact T2.put e2 e3 (wnn v) (Ne.symm hjl.2.2) hlow
        refine ⟨_, rfl, _, rfl, fd, _, rfl, .inl ⟨_, Sum.inl (v : Int), .inl f8, rfl, rfl⟩, _, rfl, ?_⟩
        rw [dkC_val]
        cases hlk : lk fs2 v with
        | none =>
          exact iteT (store fun d hd => by rw [hlk] at hd; cases hd)
        | some d =>
          refine iteF ⟨_, rfl, _, rfl, _, rfl, fd, .int d, rfl, .inl ⟨_, Sum.inl (v : Int), .inl f8, rfl, by rw [dkC_val, hlk]; rfl⟩, _, _, rfl, rfl, _, rfl, ite2 (fun e => ?_) (fun e => ?_)⟩
          · have e := of_decide_eq_true e
            exact store fun d' hd' => by rw [hlk] at hd'; cases hd'; exact e
          · refine ⟨fs2, _, _, rfl, s8, f8, d8, L2, ?_⟩
            rw [take_snoc hv]
            exact T2.keep hlk fun z => e (decide_eq_true z)
      · rintro σ H8 ⟨fs2, y6, y7, rfl, s8, f8, d8, L2, T2⟩
        rw [pts_len, List.take_length] at T2
        refine ⟨n - (ds ++ [here]).length, by rw [List.length_append, List.length_singleton]; omega, fs2, ds ++ [here], _, y6, y7, rfl, s8, f8, d8, L2, T2.done DI.nd fun v hj => (mem_l v).mpr hj, rfl⟩
    · -- return found
      have hge : (fs.map (·.1)).length ≤ ds.length := by
        have : ¬ ((ds.length : Int) < ((fs.map (·.1)).length : Nat)) := fun z => hge (decide_eq_true z)
        omega
      have all : ∀ v ∈ fs.map (·.1), v ∈ ds := fun v hv => by
        refine Classical.byContradiction fun hnv => ?_
        have := nat_nodup_len (v :: ds) (fs.map (·.1)) (List.nodup_cons.mpr ⟨hnv, DI.nd⟩) fun x hx => by
          rcases List.mem_cons.mp hx with rfl | hx
          · exact hv
          · exact DI.sub x hx
        rw [List.length_cons] at this
        omega
      refine ⟨_, rfl, q H4 fd _ s4 f4 fun v hv => ?_⟩
      obtain ⟨k, hk⟩ := hv
      obtain ⟨c0, hw⟩ := hk.some_wk AL
      have hF : ∀ u v c, J es u v → lk fs u = some c → ∃ d, lk fs v = some d ∧ d ≤ c + climbW (ht hs) u v := fun u v c hj hu => DI.lab u (all u (lk_key hu)) c hu v hj
      obtain ⟨e, he, _⟩ := labels AL (F := lk fs) hF hw 0 LI.st
      refine ⟨e, by rw [dkC_val, he]; rfl, ?_⟩
      exact labels_least AL (F := lk fs) hF (by rw [LI.st]; rfl) (fun d _ => Int.zero_add d) hs0 he (LI.wk v e he)
end
end Cl

set_option Elab.async false
set_option linter.all false
set_option maxRecDepth 100000
set_option maxHeartbeats 4000000
namespace Cl
open PySem PySem.Spec PyProof.Rows L2
section
variable {P : Program} {w : World} {K : PySem.W.Frag} {mg : Str → Option Value} {base : Heap}
variable {CN : Addr}
/-! ### the measure: the sum of all labels -/
def val (o : Option Int) : Nat := match o with
  | none => 1000
  | some d => d.toNat
def msum (F : Nat → Option Int) : Nat → Nat
  | 0 => 0
  | k + 1 => msum F k + val (F k)
theorem msum_le {F G : Nat → Option Int} : ∀ n, (∀ v, v < n → val (F v) ≤ val (G v)) → msum F n ≤ msum G n
  | 0, _ => Nat.le_refl _
  | k + 1, h => by
    have ih := msum_le k fun v hv => h v (Nat.lt_succ_of_lt hv)
    have := h k (Nat.lt_succ_self k)
    unfold msum
    omega
theorem msum_lt {F G : Nat → Option Int} : ∀ n, (∀ v, v < n → val (F v) ≤ val (G v)) → ∀ u, u < n → val (F u) < val (G u) → msum F n < msum G n
  | 0, _, u, hu, _ => by omega
  | k + 1, h, u, hu, hl => by
    by_cases e : u = k
    · subst e
      have ih := msum_le u fun v hv => h v (Nat.lt_succ_of_lt hv)
      unfold msum
      omega
    · have ih := msum_lt k (fun v hv => h v (Nat.lt_succ_of_lt hv)) u (by omega) hl
      have := h k (Nat.lt_succ_self k)
      unfold msum
      omega
theorem msum_bd {F : Nat → Option Int} : ∀ n, (∀ v, v < n → val (F v) ≤ 1000) → msum F n ≤ 1000 * n
  | 0, _ => Nat.le_refl _
  | k + 1, h => by
    have ih := msum_bd k fun v hv => h v (Nat.lt_succ_of_lt hv)
    have := h k (Nat.lt_succ_self k)
    unfold msum
    omega
/-- a search that lowers labels: rs the points still to look at -/
structure SInv (J : Nat → Nat → Prop) (w : Nat → Nat → Int) (fs : List (Nat × Int)) (rs : List Nat) (skip : Nat → Prop) : Prop where
  sub : ∀ u ∈ rs, u ∈ fs.map (·.1)
  cl : ∀ u c, lk fs u = some c → u ∉ rs → ¬ skip u → ∀ v, J u v → ∃ d, lk fs v = some d ∧ d ≤ max c (w u v)
theorem SInv.put {J : Nat → Nat → Prop} {w : Nat → Nat → Int} {fs fs' : List (Nat × Int)} {rs : List Nat} {skip : Nat → Prop} {v : Nat} {t : Int} (S : SInv J w fs rs skip)
    (hl : ∀ j, lk fs' j = if j = v then some t else lk fs j) (hk : fs'.map (·.1) = (if v ∈ fs.map (·.1) then fs.map (·.1) else fs.map (·.1) ++ [v])) (hlow : ∀ d, lk fs v = some d → t < d) : SInv J w fs' (rs ++ [v]) skip := by
  refine ⟨fun u hu => ?_, fun u c hu hnr hsk x hx => ?_⟩
  · rcases List.mem_append.mp hu with h | h
    · exact keys_put hk (S.sub u h)
    · rw [List.mem_singleton.mp h]
      exact lk_key (c := t) (by rw [hl, if_pos rfl])
  · have huv : u ≠ v := fun e => hnr (List.mem_append_right _ (by rw [e]; exact List.mem_cons_self))
    rw [hl, if_neg huv] at hu
    obtain ⟨d, hd, hle⟩ := S.cl u c hu (fun m => hnr (List.mem_append_left _ m)) hsk x hx
    rw [hl]
    by_cases e : x = v
    · rw [if_pos e]
      rw [e] at hd hle
      have := hlow d hd
      exact ⟨t, rfl, by rw [e]; omega⟩
    · rw [if_neg e]
      exact ⟨d, hd, hle⟩
theorem step198 {n : Nat} {J : Nat → Nat → Prop} {h : Nat → Int} (lt : ∀ i j, J i j → i < n ∧ j < n ∧ i ≠ j) (hh : ∀ i, i < n → -99 ≤ h i ∧ h i ≤ 99) {k i j : Nat} {c : Int} (t : Wk J max zero (stepW h) k i j c) : c ≤ 198 := by
  induction t with
  | base i => show (0 : Int) ≤ 198; omega
  | @edge i j e =>
    have := hh i (lt i j e).1
    have := hh j (lt i j e).2.1
    show max (h j - h i) (h i - h j) ≤ 198
    omega
  | @step i m j c e _ t ih =>
    have := hh i (lt i m e).1
    have := hh m (lt i m e).2.1
    show max (max (h m - h i) (h i - h m)) c ≤ 198
    omega
theorem ok_least_step {f : Addr} {fd : FuncData} (F : Fun K "least_step" "least_step" s_least_step f fd) (Z : Bt mg) (C_need_ends : Cal P w K mg base (L2.CX P w) 5 "need_ends" P_need_ends (spNeedEnds CN)) : FnOk P w K mg base (L2.CX P w) 6 f fd P_least_step (spFour CN RStep) := by
  refine F.okX sc_least_step (fun vs H Q E h => ?_) (fun cdv A outer s H vs Q E hr h => ?_)
  · obtain ⟨p, r, n, es, hs, one, other, rfl, _⟩ := h
    rfl
  · obtain ⟨p, r, n, es, hs, one, other, rfl, hN, g, hR, gR, h1, h2, qE, q⟩ := h
    have hn2 := g.le
    have gl := gR.1
    have AL := alg_step (J := J es) (h := ht hs) g.J_lt gR.bd
    refine ⟨_, (pss_cons (ps_set (i := 4) sc_least_step.nd rfl (by first | exact .inl rfl | exact .inr rfl) (pe_cal C_need_ends hr (passes_call (takes_of rfl rfl rfl rfl) (fun _ _ _ _ h => h)) (pa_cons (pv 0) (pa_cons (pv 1) (pa_cons (pv 2) (pa_cons (pv 3) pa_nil))))))
        (PSs.nox (pss_cons (ps_par (i := 5) (j := 6) rfl sc_least_step.nd rfl rfl (by decide) rfl rfl (pa_cons (pe_disp (pps_cons (pv 2) pe_int pps_nil) (by rfl) (by rfl) (fun z => by cases z) (by decide)) (pa_cons (pe_lst (pa_cons (pv 2) pa_nil)) pa_nil)) (by rfl))
        (pss_cons (ps_while PassesOwn.never (pt_cmpR (op_neD hr.units) (pv 6) (pe_lst pa_nil) (nomark _)) (pss_cons (ps_set (i := 7) sc_least_step.nd rfl (by first | exact .inl rfl | exact .inr rfl) (pe_bm0 PySem.F.plainAttrs_list PySem.F.slot_list_pop PySem.F.type_list_pop mt_pop (pv 6)))
        (pss_one (ps_for PassesOwn.never rfl (piList (K := K) (pe_ix (ixL (K := K)) (pv 4) (pv 7) (fun _ _ => rfl))) (pg_name (i := 8) sc_least_step.nd rfl (by first | exact .inl rfl | exact .inr rfl)) (pss_cons (ps_set (i := 9) sc_least_step.nd rfl (by first | exact .inl rfl | exact .inr rfl) (pe_callB (call_max2 rfl) (by rfl) Z.max (by decide +kernel) (pa_cons (pe_dget (hu_of hr) (pv 5) (pv 7) (fun _ _ => rfl)) (pa_cons (pe_callB call_abs (by rfl) Z.abs (by decide +kernel) (pa_cons (pe_op op_sub (pe_ix (ixT (K := K)) (pv 1) (pv 8) (fun _ _ => rfl)) (pe_ix (ixT (K := K)) (pv 1) (pv 7) (fun _ _ => rfl))) pa_nil)) pa_nil))))
        (pss_one (ps_if (PW.pt (pw_or (pt_cmp (pc_dnotin (hu_of hr) (pv 8) (pv 5))) (pw_or1 (pt_cmpR op_lt (pv 9) (pe_dget (hu_of hr) (pv 5) (pv 8) (fun _ _ => rfl)) (nomark _))))) (pss_cons (ps_dput (hu_of hr) (pv 5) (pv 8) (pv 9) rfl)
        (pss_one (ps_expr (pe_bm PySem.F.plainAttrs_list PySem.F.slot_list_append PySem.F.type_list_append mt_append (pv 6) (pa_cons (pv 8) pa_nil))))) pss_nil)))))))
        (pss_one (ps_ret (pe_dget (hu_of hr) (pv 5) (pv 3) (fun _ _ => rfl)))))))), ?_⟩
    refine ⟨_, rfl, _, rfl, _, rfl, _, rfl, p, r, n, es, hs, one, other, rfl, hN, g, hR, gR, h1, h2, qE, fun H0 a adj s0 nA gA hm => ?_⟩
    have hR0 : H0 r = some (.tup (hs.map V.int)) := hR.same s0
    obtain ⟨m0, hmn, hc0⟩ := hm
    -- found, rim = {one: 0}, [one]
    refine fun fd nfd => ⟨_, rfl, upd_same, [(Sum.inl (one : Int), .int 0)], rfl, (by show 1 ≤ 15; decide), ?_⟩
    rw [upd_upd]
    have s1 : Same H0 (upd H0 fd (.dK (mergeK [] [(Sum.inl (one : Int), .int 0)]))) := same_new nfd
    have f1 : upd H0 fd (.dK (mergeK [] [(Sum.inl (one : Int), .int 0)])) fd = some (.dK (dkC [(one, 0)])) := upd_same
    generalize upd H0 fd (.dK (mergeK [] [(Sum.inl (one : Int), .int 0)])) = H1 at s1 f1
    refine ⟨_, rfl, small16 (by show 1 ≤ 1000; decide), fun rm nrm => ⟨_, _, rfl, ?_⟩⟩
    have s2 : Same H0 (upd H1 rm (.lst [pt one])) := s1.trans (same_new nrm)
    have nrm0 : H0 rm = none := s1.free nrm
    have ne : fd ≠ rm := ne_of_none f1 nrm
    have f2 : upd H1 rm (.lst [pt one]) fd = some (.dK (dkC [(one, 0)])) := by rw [upd_ne ne]; exact f1
    have r2 : upd H1 rm (.lst [pt one]) rm = some (.lst (pts [one])) := upd_same
    show tSeq _ _ _ _ (upd H1 rm (.lst [pt one]))
    generalize upd H1 rm (.lst [pt one]) = H2 at s2 f2 r2
    -- while rim != []
    refine ⟨fun m σ H' => ∃ fs rs y7 y8 y9, σ = [some (.ref p), some (.ref r), some (pt one), some (pt other), some (.ref a), some (.ref fd), some (.ref rm), y7, y8, y9] ∧ Same H0 H' ∧ H' fd = some (.dK (dkC fs)) ∧ H' rm = some (.lst (pts rs)) ∧ LInv n (J es) max (stepW (ht hs)) one fs ∧ SInv (J es) (stepW (ht hs)) fs rs (fun _ => False) ∧ m = msum (lk fs) n + rs.length ∧ m ≤ 20000,
      ⟨_, [(one, 0)], [one], none, none, none, rfl, s2, f2, r2, ⟨by simp, by simp [h1], by simp [lk], fun v c h => ?_⟩, ⟨by simp, fun u c hu hnr _ v _ => ?_⟩, rfl, ?_⟩, ?_⟩
    · have := lk_mem h
      simp at this
      rw [this.1, this.2]
      exact .base one
    · have := lk_key hu
      simp at this
      exact absurd (by rw [this]; simp) hnr
    · have := msum_bd (F := lk [(one, 0)]) n fun v _ => by
        unfold lk
        by_cases e : one = v
        · subst e
          simp [val]
        · simp [val, e]
      simp
      omega
    rintro m σ H3 ⟨fs, rs, y7, y8, y9, rfl, s3, f3, r3, LI, SI, rfl, hM⟩
    refine ⟨_, rfl, Nat.zero_le _, fun z nz => ?_⟩
    have r3' : upd H3 z (.lst []) rm = some (.lst (pts rs)) := by rw [upd_ne (ne_of_none r3 nz)]; exact r3
    have f3' : upd H3 z (.lst []) fd = some (.dK (dkC fs)) := by rw [upd_ne (ne_of_none f3 nz)]; exact f3
    have s3' : Same H0 (upd H3 z (.lst [])) := s3.trans (same_new nz)
    obtain ⟨d, e, q1, q2, q3, q4, q5⟩ := nonempty_rd (K := K) r3' upd_same
    refine ⟨d, e, q1, q2, q3, q4, _, rfl, ?_⟩
    rw [q5]
    generalize upd H3 z (.lst []) = H4 at r3' f3' s3'
    have kn := nodup_le LI.nd LI.lt
    cases hrs : rs with
    | nil =>
      -- return found[other]
      subst hrs
      have hF : ∀ u v c, J es u v → lk fs u = some c → ∃ d, lk fs v = some d ∧ d ≤ max c (stepW (ht hs) u v) := fun u v c hj hu => SI.cl u c hu (by simp) (fun z => z) v hj
      obtain ⟨c0, hw⟩ := hc0.some_wk AL
      obtain ⟨e, he, _⟩ := labels AL (F := lk fs) hF hw 0 LI.st
      refine iteF ⟨_, rfl, _, rfl, fd, .int e, rfl, .inl ⟨_, Sum.inl (other : Int), .inl f3', rfl, by rw [dkC_val, he]; rfl⟩, ?_⟩
      refine q H4 _ (s0.trans s3') ⟨m0, hmn, hc0⟩ ⟨e, rfl, ?_⟩
      exact labels_least AL (F := lk fs) hF (by rw [LI.st]; rfl) (fun d hd => by show max 0 d = d; omega) h1 he (LI.wk other e he)
    | cons r0 rr =>
      rw [← hrs]
      have hlen : 0 < rs.length := by rw [hrs]; simp
      have hb : (!rs.isEmpty) = true := by rw [hrs]; rfl
      rw [hb]
      refine iteT ?_
      refine ⟨fun σ' H' => ∃ m', m' < msum (lk fs) n + rs.length ∧ ∃ fs rs y7 y8 y9, σ' = [some (.ref p), some (.ref r), some (pt one), some (pt other), some (.ref a), some (.ref fd), some (.ref rm), y7, y8, y9] ∧ Same H0 H' ∧ H' fd = some (.dK (dkC fs)) ∧ H' rm = some (.lst (pts rs)) ∧ LInv n (J es) max (stepW (ht hs)) one fs ∧ SInv (J es) (stepW (ht hs)) fs rs (fun _ => False) ∧ m' = msum (lk fs) n + rs.length ∧ m' ≤ 20000, fun σ' H' hh => hh, ?_⟩
      -- here = rim.pop()
      obtain ⟨here, hhere⟩ := get_some (l := rs) (i := rs.length - 1) (by omega)
      have hhf : here ∈ fs.map (·.1) := SI.sub _ (List.mem_of_getElem? hhere)
      have hhn := LI.lt _ hhf
      obtain ⟨c, hc⟩ := lk_some hhf
      refine ⟨_, rfl, .inl ⟨rfl, _, SqL.of r3'⟩, rm, _, pt here, rfl, rfl, r3', by rw [pts_len]; exact pts_at hhere, ?_⟩
      have epop : (pts rs).dropLast = pts rs.dropLast := by unfold pts; rw [List.map_dropLast]
      rw [epop]
      have s4 : Same H0 (upd H4 rm (.lst (pts rs.dropLast))) := same_over s3' nrm0
      have f4 : upd H4 rm (.lst (pts rs.dropLast)) fd = some (.dK (dkC fs)) := by rw [upd_ne ne]; exact f3'
      have r4 : upd H4 rm (.lst (pts rs.dropLast)) rm = some (.lst (pts rs.dropLast)) := upd_same
      generalize upd H4 rm (.lst (pts rs.dropLast)) = H5 at s4 f4 r4
      obtain ⟨l, hl⟩ := get_some (l := adj) (i := here) (by rw [gA.1]; exact hhn)
      obtain ⟨la, as, n1, n2, n3⟩ := nA.at_ hl
      have mem_l := gA.2 here l hl
      have S0 : SInv (J es) (stepW (ht hs)) fs rs.dropLast (fun u => u = here) :=
        ⟨fun v hv => SI.sub v (List.dropLast_subset rs hv), fun u c hu hnu hsk v hj => SI.cl u c hu (fun hm => by
          have e := List.dropLast_concat_getLast (l := rs) (by intro z; rw [z] at hlen; simp at hlen)
          rw [← e] at hm
          rcases List.mem_append.mp hm with h | h
          · exact hnu h
          · have := List.mem_singleton.mp h
            rw [List.getLast_eq_getElem] at this
            have e3 := (List.getElem?_eq_some_iff.mp hhere).2
            exact hsk (this.trans e3)) (fun z => z) v hj⟩
      -- for point in near[here]
      refine ⟨_, rfl, _, rfl, a, _, here, .ref la, rfl, rfl, SqL.of (s4 _ _ n1), atI_nat n2, la, rfl, ⟨_, SqL.of (s4 _ _ n3)⟩,
        for_it (walk_list (xs := pts l)) (fun k σ H' => ∃ fs2 rs2 y8 y9, σ = [some (.ref p), some (.ref r), some (pt one), some (pt other), some (.ref a), some (.ref fd), some (.ref rm), some (pt here), y8, y9] ∧ Same H0 H' ∧ H' fd = some (.dK (dkC fs2)) ∧ H' rm = some (.lst (pts rs2)) ∧ LInv n (J es) max (stepW (ht hs)) one fs2 ∧ SInv (J es) (stepW (ht hs)) fs2 rs2 (fun u => u = here) ∧ lk fs2 here = some c ∧ (∀ v ∈ l.take k, ∃ d, lk fs2 v = some d ∧ d ≤ max c (stepW (ht hs) here v)) ∧ msum (lk fs2) n + rs2.length < msum (lk fs) n + rs.length)
          ⟨fs, rs.dropLast, y8, y9, rfl, s4, f4, r4, LI, S0, hc, by simp, by rw [List.length_dropLast]; omega⟩ (fun k σ H' _ ⟨_, _, _, _, _, s5, _⟩ => SqL.of (s5 _ _ n3)) ?_ ?_⟩
      · rintro k x σ H6 H7 hk ⟨fs2, rs2, y8, y9, rfl, s5, f5, r5, L2, S2, hh2, ht2, hm2⟩ ⟨rfl, hx⟩
        obtain ⟨v, hv, rfl⟩ := pts_get hx
        have hj : J es here v := (mem_l v).mp (List.mem_of_getElem? hv)
        have hjl := g.J_lt _ _ hj
        have hR7 : H7 r = some (.tup (hs.map V.int)) := s5 _ _ hR0
        have kn2 := nodup_le L2.nd L2.lt
        have hwlo := (AL.wLo _ _ hj)
        have hclo := (L2.wk here c hh2).lo_le AL h1
        have hcB := (L2.wk here c hh2).ltB AL (fun x y hx hy => by omega) h1
        -- told = max(found[here], abs(row[point] - row[here]))
        refine ⟨_, rfl, _, rfl, fd, .int c, rfl, .inl ⟨_, Sum.inl (here : Int), .inl f5, rfl, by rw [dkC_val, hh2]; rfl⟩, ?_⟩
        refine ⟨_, rfl, _, rfl, r, _, v, .int (ht hs v), rfl, rfl, SqT.of hR7, atI_nat (ints_at (ht_at (by omega))), _, rfl, _, rfl, r, _, here, .int (ht hs here), rfl, rfl, SqT.of hR7, atI_nat (ints_at (ht_at (by omega))), _, _, rfl, rfl, _, rfl, _, _, rfl, ?_⟩
        have et : (if (if ht hs v - ht hs here < 0 then -(ht hs v - ht hs here) else ht hs v - ht hs here) > c then (if ht hs v - ht hs here < 0 then -(ht hs v - ht hs here) else ht hs v - ht hs here) else c) = max c (stepW (ht hs) here v) := by
          unfold stepW
          split <;> split <;> omega
        show gName 9 (V.int (if (if ht hs v - ht hs here < 0 then -(ht hs v - ht hs here) else ht hs v - ht hs here) > c then (if ht hs v - ht hs here < 0 then -(ht hs v - ht hs here) else ht hs v - ht hs here) else c)) _ H7 _
        rw [et]
        have hw : Wk (J es) max zero (stepW (ht hs)) n one v (max c (stepW (ht hs) here v)) := (L2.wk here _ hh2).snoc AL hj
        have h198 := step198 g.J_lt gR.bd hw
        have h0t : 0 ≤ max c (stepW (ht hs) here v) := by omega
        have keep : ∀ x, x < n → ∀ fs3, (∀ j, lk fs3 j = if j = v then some (max c (stepW (ht hs) here v)) else lk fs2 j) → (∀ d, lk fs2 v = some d → max c (stepW (ht hs) here v) < d) → val (lk fs3 x) ≤ val (lk fs2 x) := fun x hx fs3 e2 hlow => by
          rw [e2]
          by_cases e : x = v
          · rw [if_pos e, e]
            cases hlk : lk fs2 v with
            | none =>
              show (max c (stepW (ht hs) here v)).toNat ≤ 1000
              omega
            | some d =>
              have := hlow d hlk
              show (max c (stepW (ht hs) here v)).toNat ≤ d.toNat
              omega
          · rw [if_neg e]
            exact Nat.le_refl _
        have low : ∀ fs3, (∀ j, lk fs3 j = if j = v then some (max c (stepW (ht hs) here v)) else lk fs2 j) → (∀ d, lk fs2 v = some d → max c (stepW (ht hs) here v) < d) → val (lk fs3 v) < val (lk fs2 v) := fun fs3 e2 hlow => by
          rw [e2, if_pos rfl]
          cases hlk : lk fs2 v with
          | none =>
            show (max c (stepW (ht hs) here v)).toNat < 1000
            omega
          | some d =>
            have := hlow d hlk
            show (max c (stepW (ht hs) here v)).toNat < d.toNat
            omega
        have store : (∀ d, lk fs2 v = some d → max c (stepW (ht hs) here v) < d) → ∃ fs3, putK (dkC fs2) (Sum.inl (v : Int)) (.int (max c (stepW (ht hs) here v))) = dkC fs3 ∧ LInv n (J es) max (stepW (ht hs)) one fs3 ∧ SInv (J es) (stepW (ht hs)) fs3 (rs2 ++ [v]) (fun u => u = here) ∧ lk fs3 here = some c ∧ (∀ u ∈ l.take (k + 1), ∃ d, lk fs3 u = some d ∧ d ≤ max c (stepW (ht hs) here u)) ∧ msum (lk fs3) n + (rs2 ++ [v]).length < msum (lk fs) n + rs.length := fun hlow => by
          obtain ⟨fs3, e1, e2, e3⟩ := dkC_put fs2 v (max c (stepW (ht hs) here v))
          have hm3 := msum_lt (F := lk fs3) (G := lk fs2) n (fun x hx => keep x hx fs3 e2 hlow) v hjl.2.1 (low fs3 e2 hlow)
          refine ⟨fs3, e1, L2.put e2 e3 hjl.2.1 hw (fun z => ?_), S2.put e2 e3 hlow, ?_, ?_, ?_⟩
          · have h0 := L2.st
            rw [← z] at h0
            have := hlow 0 h0
            omega
          · rw [e2, if_neg hjl.2.2]
            exact hh2
          · rw [take_snoc hv]
            intro u hu
            rw [e2]
            by_cases e : u = v
            · rw [if_pos e]
              exact ⟨_, rfl, by rw [e]; exact Int.le_refl _⟩
            · rw [if_neg e]
              rcases List.mem_append.mp hu with h | h
              · exact ht2 u h
              · exact absurd (List.mem_singleton.mp h) e
          · rw [List.length_append]
            simp
            omega
        have hrl : rs2.length ≤ 20000 := by omega
        have ea : (pts rs2 ++ [pt v]) = pts (rs2 ++ [v]) := by unfold pts; rw [List.map_append]; rfl
        refine ⟨_, rfl, _, rfl, fd, _, rfl, .inl ⟨_, Sum.inl (v : Int), .inl f5, rfl, rfl⟩, _, rfl, ?_⟩
        rw [dkC_val]
        cases hlk : lk fs2 v with
        | none =>
          obtain ⟨fs3, e1, L3, S3, h3, t3, m3⟩ := store fun d hd => by rw [hlk] at hd; cases hd
          refine iteT ⟨_, rfl, _, rfl, _, rfl, fd, _, rfl, DPut.k (k := Sum.inl (v : Int)) f5 (by rw [dkC_len]; exact room_len (by omega)), ?_⟩
          rw [e1]
          have r6 : upd H7 fd (.dK (dkC fs3)) rm = some (.lst (pts rs2)) := by rw [upd_ne ne.symm]; exact r5
          refine ⟨_, rfl, .inl ⟨rfl, _, SqL.of r6⟩, _, rfl, rm, _, _, rfl, rfl, r6, by rw [pts_len]; exact room_len (by omega), ?_⟩
          rw [ea]
          exact ⟨fs3, rs2 ++ [v], _, _, rfl, same_over (same_over s5 nfd) nrm0, by rw [upd_ne ne, upd_same], upd_same, L3, S3, h3, t3, m3⟩
        | some d =>
          refine iteF ⟨_, rfl, _, rfl, _, rfl, fd, .int d, rfl, .inl ⟨_, Sum.inl (v : Int), .inl f5, rfl, by rw [dkC_val, hlk]; rfl⟩, _, _, rfl, rfl, _, rfl, ite2 (fun e => ?_) (fun e => ?_)⟩
          · have e := of_decide_eq_true e
            obtain ⟨fs3, e1, L3, S3, h3, t3, m3⟩ := store fun d' hd' => by rw [hlk] at hd'; cases hd'; exact e
            refine ⟨_, rfl, _, rfl, _, rfl, fd, _, rfl, DPut.k (k := Sum.inl (v : Int)) f5 (by rw [dkC_len]; exact room_len (by omega)), ?_⟩
            rw [e1]
            have r6 : upd H7 fd (.dK (dkC fs3)) rm = some (.lst (pts rs2)) := by rw [upd_ne ne.symm]; exact r5
            refine ⟨_, rfl, .inl ⟨rfl, _, SqL.of r6⟩, _, rfl, rm, _, _, rfl, rfl, r6, by rw [pts_len]; exact room_len (by omega), ?_⟩
            rw [ea]
            exact ⟨fs3, rs2 ++ [v], _, _, rfl, same_over (same_over s5 nfd) nrm0, by rw [upd_ne ne, upd_same], upd_same, L3, S3, h3, t3, m3⟩
          · refine ⟨fs2, rs2, _, _, rfl, s5, f5, r5, L2, S2, hh2, ?_, hm2⟩
            rw [take_snoc hv]
            intro u hu
            rcases List.mem_append.mp hu with h | h
            · exact ht2 u h
            · rw [List.mem_singleton.mp h]
              exact ⟨d, hlk, by have : ¬ (max c (stepW (ht hs) here v) < d) := fun z => e (decide_eq_true z); omega⟩
      · rintro σ H6 ⟨fs2, rs2, y8, y9, rfl, s5, f5, r5, L2, S2, hh2, ht2, hm2⟩
        rw [pts_len, List.take_length] at ht2
        refine ⟨_, hm2, fs2, rs2, _, y8, y9, rfl, s5, f5, r5, L2, ⟨S2.sub, fun u cu hu hnu _ v hj => ?_⟩, rfl, by omega⟩
        by_cases e : u = here
        · subst e
          rw [hh2] at hu
          cases hu
          exact ht2 v ((mem_l v).mpr hj)
        · exact S2.cl u cu hu hnu e v hj
end
end Cl

set_option Elab.async false
set_option linter.all false
set_option maxRecDepth 100000
set_option maxHeartbeats 4000000
namespace Cl
open PySem PySem.Spec PyProof.Rows L2
section
variable {P : Program} {w : World} {K : PySem.W.Frag} {mg : Str → Option Value} {base : Heap}
def dkJ (es : List (Nat × Nat)) : List (List Key × V) := es.map fun e => ([Sum.inl (e.1 : Int), Sum.inl (e.2 : Int)], .bl true)
def addE (es : List (Nat × Nat)) (e : Nat × Nat) : List (Nat × Nat) := if e ∈ es then es else es ++ [e]
theorem pairKey {a b : Nat × Nat} : ([Sum.inl (a.1 : Int), Sum.inl (a.2 : Int)] : List Key) = [Sum.inl (b.1 : Int), Sum.inl (b.2 : Int)] ↔ a = b := by
  constructor
  · intro h
    simp at h
    exact Prod.ext (by omega) (by omega)
  · rintro rfl
    rfl
theorem dkJ_put (es : List (Nat × Nat)) (e : Nat × Nat) : putK (dkJ es) [Sum.inl (e.1 : Int), Sum.inl (e.2 : Int)] (.bl true) = dkJ (addE es e) := by
  have ha : ((dkJ es).any fun kv => decide (kv.1 = [Sum.inl (e.1 : Int), Sum.inl (e.2 : Int)])) = decide (e ∈ es) := by
    rw [Bool.eq_iff_iff, List.any_eq_true, decide_eq_true_iff]
    constructor
    · rintro ⟨kv, h1, h2⟩
      obtain ⟨x, hx, rfl⟩ := List.mem_map.mp h1
      have h2 := of_decide_eq_true h2
      rw [← pairKey.mp h2]
      exact hx
    · exact fun h => ⟨_, List.mem_map.mpr ⟨e, h, rfl⟩, decide_eq_true rfl⟩
  unfold putK addE
  rw [ha]
  by_cases h : e ∈ es
  · rw [if_pos (decide_eq_true h), if_pos h]
    unfold dkJ
    rw [List.map_map]
    refine List.map_congr_left fun x _ => ?_
    show (if ([Sum.inl (x.1 : Int), Sum.inl (x.2 : Int)] : List Key) = [Sum.inl (e.1 : Int), Sum.inl (e.2 : Int)] then (([Sum.inl (x.1 : Int), Sum.inl (x.2 : Int)] : List Key), V.bl true) else ([Sum.inl (x.1 : Int), Sum.inl (x.2 : Int)], V.bl true)) = _
    split <;> rfl
  · rw [if_neg (fun z => h (of_decide_eq_true z)), if_neg h]
    unfold dkJ
    rw [List.map_append]
    rfl
theorem dkJ_len (es : List (Nat × Nat)) : (dkJ es).length = es.length := List.length_map ..
structure JInv (n : Nat) (es : List (Nat × Nat)) : Prop where
  nd : es.Nodup
  lt : ∀ e ∈ es, e.1 < e.2 ∧ e.2 < n
theorem JInv.add {n : Nat} {es : List (Nat × Nat)} {e : Nat × Nat} (R : JInv n es) (h1 : e.1 < e.2) (h2 : e.2 < n) : JInv n (addE es e) := by
  unfold addE
  by_cases h : e ∈ es
  · rw [if_pos h]
    exact R
  · rw [if_neg h]
    refine ⟨?_, fun x hx => ?_⟩
    · rw [List.nodup_append]
      exact ⟨R.nd, by simp, fun a ha b hb => by rw [List.mem_singleton.mp hb]; exact fun z => h (z ▸ ha)⟩
    · rcases List.mem_append.mp hx with h' | h'
      · exact R.lt x h'
      · rw [List.mem_singleton.mp h']
        exact ⟨h1, h2⟩
theorem addE_len (es : List (Nat × Nat)) (e : Nat × Nat) : (addE es e).length ≤ es.length + 1 := by
  unfold addE
  split
  · omega
  · rw [List.length_append]
    exact Nat.le_refl _
theorem good_of {n : Nat} {es fs : List (Nat × Nat)} (R : JInv n es) (p : fs.Perm es) (n1 : 1 ≤ n) (n9 : n ≤ 9) (hl : es.length ≤ 60) (hp : fs.Pairwise fun e f => e.1 * 64 + e.2 ≤ f.1 * 64 + f.2) : GoodNet n fs := by
  have lt : ∀ e ∈ fs, e.1 < e.2 ∧ e.2 < n := fun e he => R.lt e (p.mem_iff.mp he)
  have nd : fs.Nodup := p.nodup_iff.mpr R.nd
  refine ⟨n1, n9, by rw [p.length_eq]; exact hl, lt, ?_⟩
  refine (hp.and nd).imp_of_mem fun {a b} ha hb h => ?_
  obtain ⟨h1, h2⟩ := h
  have := lt a ha
  have := lt b hb
  have h3 : ¬ (a.1 = b.1 ∧ a.2 = b.2) := fun z => h2 (Prod.ext z.1 z.2)
  omega
theorem ok_law_net {f : Addr} {fd : FuncData} (F : Fun K "_law_net" "_law_net" s_law_net f fd) (Z : Bt mg) (C_law_taken : Cal P w K mg base CX0 1 "_law_taken" P_law_taken (spTaken K)) : FnOk P w K mg base CX0 2 f fd P_law_net (spNet K) := by
  obtain ⟨tp, h_MOST_POINTS⟩ := Z.mp
  obtain ⟨th, h_MOST_HEIGHT⟩ := Z.mh
  refine F.ok sc_law_net (fun vs H Q E h => ?_) (fun cdv A outer s H vs Q E hr h => ?_)
  · obtain ⟨l, a, ns, rfl, _⟩ := h
    rfl
  · obtain ⟨l, a, ns, rfl, hS, hrow, q0⟩ := h
    refine ⟨_, (pss_cons (ps_par (i := 2) (j := 3) rfl sc_law_net.nd rfl rfl (by decide) rfl rfl (pa_cons (pe_op op_add pe_int (pe_cal C_law_taken hr pass0 (pa_cons (pv 0) (pa_cons (pv 1) pa_nil)))) (pa_cons pe_dnewT pa_nil)) (by rfl))
        (pss_cons (ps_for PassesOwn.never rfl (pi_range2 (by rfl) Z.range (pa_cons pe_int (pa_cons (pv 2) pa_nil))) (pg_name (i := 4) sc_law_net.nd rfl (by first | exact .inl rfl | exact .inr rfl)) (pss_one (ps_if (pt_cmpR op_gt (pe_cal C_law_taken hr pass0 (pa_cons (pv 0) (pa_cons pe_int pa_nil))) pe_int (nomark _)) (pss_cons (ps_set (i := 5) sc_law_net.nd rfl (by first | exact .inl rfl | exact .inr rfl) (pe_ifExp (pt_cmpR op_eq (pe_cal C_law_taken hr pass0 (pa_cons (pv 0) (pa_cons pe_int pa_nil))) pe_int (nomark _)) (pe_op op_sub (pv 4) pe_int) (pe_cal C_law_taken hr pass0 (pa_cons (pv 0) (pa_cons (pv 4) pa_nil)))))
        (pss_one (ps_dput (hu_of hr) (pv 3) (pe_tup (pa_cons (pv 5) (pa_cons (pv 4) pa_nil))) pe_bl rfl))) pss_nil)))
        (pss_cons (ps_for PassesOwn.never rfl (pi_range1 (by rfl) Z.range (pa_cons (pe_ifExp (pt_cmpR op_gt (pv 2) pe_int (nomark _)) (pe_cal C_law_taken hr pass0 (pa_cons (pv 0) (pa_cons (pv 2) pa_nil))) pe_int) pa_nil)) (pg_name (i := 6) sc_law_net.nd rfl (by first | exact .inl rfl | exact .inr rfl)) (pss_cons (ps_par (i := 7) (j := 5) rfl sc_law_net.nd rfl rfl (by decide) rfl rfl (pa_cons (pe_cal C_law_taken hr pass0 (pa_cons (pv 0) (pa_cons (pv 2) pa_nil))) (pa_cons (pe_cal C_law_taken hr pass0 (pa_cons (pv 0) (pa_cons (pv 2) pa_nil))) pa_nil)) (by rfl))
        (pss_one (ps_if (pt_cmpR op_ne (pv 7) (pv 5) (nomark _)) (pss_one (ps_dput (hu_of hr) (pv 3) (pe_tup (pa_cons (pe_callB (call_min2 rfl) (by rfl) Z.min (by decide +kernel) (pa_cons (pv 7) (pa_cons (pv 5) pa_nil))) (pa_cons (pe_callB (call_max2 rfl) (by rfl) Z.max (by decide +kernel) (pa_cons (pv 7) (pa_cons (pv 5) pa_nil))) pa_nil))) pe_bl rfl)) pss_nil))))
        (pss_one (ps_ret (pe_tup (pa_cons (pv 2) (pa_cons (pe_callTy call_tuple_of (by rfl) Z.tuple (by decide +kernel) (pa_cons (pe_callB (cr_sortDT rfl) (by rfl) Z.sorted (by decide +kernel) (pa_cons (pv 3) pa_nil)) pa_nil)) pa_nil)))))))), ?_⟩
    -- many, joins = 1 + taken(row, most), {}
    refine ⟨_, rfl, _, rfl, l, a, ns, 9, rfl, by decide, by decide, hS, hrow, fun H1 k1 ke1 r1 hk1 => ?_⟩
    refine ⟨_, _, rfl, rfl, fun D nD => ⟨_, _, rfl, ?_⟩⟩
    have hDl := r1.ne nD
    have nD0 : ∀ H0, Keep l H0 H1 → H0 D = none := fun H0 kk => by
      cases e : H0 D with
      | none => rfl
      | some o => have := kk D o hDl e; rw [nD] at this; cases this
    have ke2 : Keep l H (upd H1 D (.dT [])) := ke1.trans (Keep.new nD)
    have r2 : RowOk (upd H1 D (.dT [])) l a := r1.over hDl
    have d2 : upd H1 D (.dT []) D = some (.dT (dkJ [])) := upd_same
    generalize upd H1 D (.dT []) = H2 at ke2 r2 d2
    have en : V.int (1 + (k1 : Int)) = pt (k1 + 1) := by
      unfold pt
      congr 1
      omega
    show tSeq _ _ _ [some (.ref l), some (.int 9), some (V.int (1 + (k1 : Int))), some (.ref D), none, none, none, none] H2
    rw [en]
    have hn1 : 1 ≤ k1 + 1 := by omega
    have hn9 : k1 + 1 ≤ 9 := by omega
    generalize k1 + 1 = n at hn1 hn9
    have nDH : H D = none := nD0 H ke1
    have inv := fun (H' : Hp) (es : List (Nat × Nat)) (m : Nat) => Keep l H H' ∧ RowOk H' l a ∧ H' D = some (.dT (dkJ es)) ∧ JInv n es ∧ es.length ≤ m
    -- for point in range(1, many)
    refine ⟨_, rfl, 1, n, rfl, ⟨by decide, by decide, by omega, by omega⟩, ?_⟩
    refine for_it walk_range (fun k σ H' => ∃ es y4 y5 y6 y7, σ = [some (.ref l), some (.int 9), some (pt n), some (.ref D), y4, y5, y6, y7] ∧ Keep l H H' ∧ RowOk H' l a ∧ H' D = some (.dT (dkJ es)) ∧ JInv n es ∧ es.length ≤ k)
      ⟨[], none, none, none, none, rfl, ke2, r2, d2, ⟨List.nodup_nil, by simp⟩, by simp⟩ (fun _ _ _ _ _ => trivial) ?_ ?_
    · rintro k x σ H3 H4 hk ⟨es, y4, y5, y6, y7, rfl, ke3, r3, d3, JI, hl⟩ ⟨rfl, rfl⟩
      have hkn : k + 1 < n := by have : k < ((n : Int) - 1).toNat := hk; omega
      have ep : V.int (1 + (k : Int)) = pt (k + 1) := by
        unfold pt
        congr 1
        omega
      show gName 4 (V.int (1 + (k : Int))) _ H4 _
      rw [ep]
      generalize hv : k + 1 = v at hkn
      refine ⟨_, rfl, l, a, ns, 8, rfl, by decide, by decide, hS.keep ke3, r3, fun H5 k4 ke4 r4 hk4 => ?_⟩
      have d4 := ke4 _ _ hDl d3
      have ke4 := ke3.trans ke4
      refine ⟨_, _, rfl, rfl, _, rfl, ite2 (fun _ => ?_) (fun _ => ?_)⟩
      · refine post (C := fun x H' => ∃ o : Nat, x = pt o ∧ o < v ∧ Keep l H H' ∧ RowOk H' l a ∧ H' D = some (.dT (dkJ es))) ?_ ?_
        · rintro x H6 ⟨o, rfl, ho, ke6, r6, d6⟩
          refine ⟨_, rfl, _, rfl, _, rfl, small16 (by show 2 ≤ 1000; decide), fun T nT => ?_⟩
          have hDT : D ≠ T := ne_of_none d6 nT
          refine ⟨D, _, rfl, DPut.t (k := [Sum.inl (o : Int), Sum.inl (v : Int)]) (by rw [upd_ne hDT]; exact d6) upd_same (by rw [dkJ_len]; exact room_len (by omega)), ?_⟩
          have ep := dkJ_put es (o, v)
          refine ⟨addE es (o, v), _, _, _, _, rfl, keep_over (ke6.trans (Keep.new nT)) nDH, (r6.over (r6.ne nT)).over hDl, ?_, JI.add ho hkn, ?_⟩
          · rw [← ep]
            exact upd_same
          · have := addE_len es (o, v)
            omega
        · intro R hR
          refine ⟨_, rfl, l, a, ns, 2, rfl, by decide, by decide, hS.keep ke4, r4, fun H6 k6 ke6 r6 hk6 => ?_⟩
          have d6 := ke6 _ _ hDl d4
          have ke6 := ke4.trans ke6
          refine ⟨rfl, _, rfl, ite2 (fun _ => ?_) (fun _ => ?_)⟩
          · refine ⟨_, rfl, _, _, rfl, rfl, hR _ _ ⟨k, ?_, by omega, ke6, r6, d6⟩⟩
            show V.int ((v : Int) - 1) = V.int (k : Int)
            congr 1
            omega
          · exact ⟨_, rfl, _, rfl, l, a, ns, v, rfl, by omega, by omega, hS.keep ke6, r6, fun H7 k7 ke7 r7 hk7 => hR _ _ ⟨k7, rfl, hk7, ke6.trans ke7, r7, ke7 _ _ hDl d6⟩⟩
      · exact ⟨es, _, _, _, _, rfl, ke4, r4, d4, JI, by omega⟩
    · rintro σ H3 ⟨es, y4, y5, y6, y7, rfl, ke3, r3, d3, JI, hl⟩
      have hl8 : es.length ≤ 8 := by
        have : es.length ≤ ((n : Int) - 1).toNat := hl
        omega
      -- for turn in range(..)
      have key : ∀ R : VK, (∀ x H', (∃ c : Nat, x = pt c ∧ c ≤ 9 ∧ Keep l H H' ∧ RowOk H' l a ∧ H' D = some (.dT (dkJ es))) → R x H') →
          tIf (tTest (tOp (rI0 fun i j => V.bl (decide (j < i))) (tVar 2) (tC (V.int 2)))) (tCal (spTaken K) E0 (tCons (tVar 0) (tCons (tVar 2) tNil))) (tC (V.int 0)) [some (.ref l), some (.int 9), some (pt n), some (.ref D), y4, y5, y6, y7] H3 R := by
        intro R hR
        refine ⟨_, rfl, _, _, rfl, rfl, _, rfl, ite2 (fun _ => ?_) (fun _ => ?_)⟩
        · exact ⟨_, rfl, _, rfl, l, a, ns, n, rfl, by omega, by omega, hS.keep ke3, r3, fun H7 k7 ke7 r7 hk7 => hR _ _ ⟨k7, rfl, by omega, ke3.trans ke7, r7, ke7 _ _ hDl d3⟩⟩
        · exact hR _ _ ⟨0, rfl, by omega, ke3, r3, d3⟩
      refine key _ ?_
      rintro x H4 ⟨c, rfl, hc, ke4, r4, d4⟩
      refine ⟨c, rfl, by omega, by omega, ?_⟩
      refine for_it walk_rng (fun k σ H' => ∃ es y4 y5 y6 y7, σ = [some (.ref l), some (.int 9), some (pt n), some (.ref D), y4, y5, y6, y7] ∧ Keep l H H' ∧ RowOk H' l a ∧ H' D = some (.dT (dkJ es)) ∧ JInv n es ∧ es.length ≤ 8 + k)
        ⟨es, y4, y5, y6, y7, rfl, ke4, r4, d4, JI, by omega⟩ (fun _ _ _ _ _ => trivial) ?_ ?_
      · rintro k x σ H5 H6 hk ⟨es, y4, y5, y6, y7, rfl, ke5, r5, d5, JI, hl⟩ ⟨rfl, rfl⟩
        refine ⟨_, rfl, _, rfl, l, a, ns, n, rfl, by omega, by omega, hS.keep ke5, r5, fun H7 o ke7 r7 ho => ?_⟩
        have d7 := ke7 _ _ hDl d5
        have ke7 := ke5.trans ke7
        refine ⟨_, rfl, _, rfl, l, a, ns, n, rfl, by omega, by omega, hS.keep ke7, r7, fun H8 u ke8 r8 hu => ?_⟩
        have d8 := ke8 _ _ hDl d7
        have ke8 := ke7.trans ke8
        refine ⟨_, _, rfl, _, rfl, _, rfl, rfl, _, rfl, ite2 (fun e => ?_) (fun _ => ?_)⟩
        · have hne : o ≠ u := fun z => by subst z; simp at e
          have emin : (if (u : Int) < (o : Int) then (u : Int) else (o : Int)) = ((min o u : Nat) : Int) := by split <;> omega
          have emax : (if (u : Int) > (o : Int) then (u : Int) else (o : Int)) = ((max o u : Nat) : Int) := by split <;> omega
          refine ⟨_, rfl, _, rfl, _, rfl, _, _, rfl, _, rfl, _, rfl, _, _, rfl, small16 (by show 2 ≤ 1000; decide), fun T nT => ?_⟩
          have hDT : D ≠ T := ne_of_none d8 nT
          refine ⟨D, _, rfl, DPut.t (k := [Sum.inl ((min o u : Nat) : Int), Sum.inl ((max o u : Nat) : Int)]) (by rw [upd_ne hDT]; exact d8) (by
            rw [upd_same]
            show some (HO.tup [V.int (if (u : Int) < (o : Int) then (u : Int) else (o : Int)), V.int (if (u : Int) > (o : Int) then (u : Int) else (o : Int))]) = _
            rw [emin, emax]
            rfl) (by rw [dkJ_len]; exact room_len (by omega)), ?_⟩
          have ep := dkJ_put es (min o u, max o u)
          refine ⟨addE es (min o u, max o u), _, _, _, _, rfl, keep_over (ke8.trans (Keep.new nT)) nDH, (r8.over (r8.ne nT)).over hDl, ?_, JI.add (by show min o u < max o u; omega) (by show max o u < n; omega), ?_⟩
          · rw [← ep]
            exact upd_same
          · have := addE_len es (min o u, max o u)
            omega
        · exact ⟨es, _, _, _, _, rfl, ke8, r8, d8, JI, by omega⟩
      · rintro σ H5 ⟨es, y4, y5, y6, y7, rfl, ke5, r5, d5, JI, hl⟩
        have hl60 : es.length ≤ 60 := by omega
        refine ⟨_, rfl, _, rfl, D, dkJ es, es, rfl, d5, ?_, by omega, fun e he => by have := JI.lt e he; omega, fun zs p pm hz pw np => ?_⟩
        · unfold dkJ
          rw [List.map_map]
          rfl
        refine ⟨p, _, rfl, .inl ⟨SqL.of upd_same, fun t nt => ⟨small16 (by show 2 ≤ 1000; decide), fun r nr => ?_⟩⟩⟩
        have gg := good_of JI pm hn1 hn9 hl60 pw
        have kz : Same H5 (upd (upd (upd H5 p (.lst (zs.map fun z => V.ref z.1))) t (.tup (zs.map fun z => V.ref z.1))) r (.tup [pt n, .ref t])) := ((same_new np).trans (same_new nt)).trans (same_new nr)
        have htr : t ≠ r := ne_of_none upd_same nr
        refine q0 _ r n (zs.map (·.2)) (ke5.trans (Keep.of_same kz)) (((r5.over (r5.ne np)).over ((r5.over (r5.ne np)).ne nt)).over (((r5.over (r5.ne np)).over ((r5.over (r5.ne np)).ne nt)).ne nr)) ⟨t, zs.map (·.1), upd_same, ?_, ?_, fun i b e hb he => ?_⟩ gg
        · rw [upd_ne htr, upd_same, List.map_map]
          rfl
        · rw [List.length_map, List.length_map]
        · rw [List.getElem?_map] at hb he
          cases hzi : zs[i]? with
          | none => rw [hzi] at hb; cases hb
          | some z =>
            rw [hzi] at hb he
            cases hb
            cases he
            exact kz _ _ (hz z (List.mem_of_getElem? hzi))
end
end Cl

set_option Elab.async false
set_option linter.all false
set_option maxRecDepth 100000
set_option maxHeartbeats 4000000
namespace Cl
open PySem PySem.Spec PyProof.Rows L2
section
variable {P : Program} {w : World} {K : PySem.W.Frag} {mg : Str → Option Value} {base : Heap}
theorem encN_int {t : Int} (h : t < 9999) : encN t = .int (0 - t) := by
  unfold encN
  rw [if_neg (by omega)]
  congr 1
  omega
theorem encN_big : encN 9999 = .non := if_pos rfl
theorem dn_at {hs : List Int} {v : Nat} (h : v < hs.length) : (hs.map fun h => 0 - h)[v]? = some (0 - ht hs v) := by
  rw [List.getElem?_map, ht_at h]
  rfl
theorem encN_dec {t : Int} : decide (encN t = .non) = decide (t = 9999) := by
  unfold encN
  by_cases e : t = 9999
  · rw [if_pos e, decide_eq_true e]
    rfl
  · rw [if_neg e, decide_eq_false e]
    rfl
theorem relax_same {op : Int → Int → Int} {m i j : Nat} {T : Nat → Nat → Int} (h : T i j ≤ op (T i m) (T m j)) : relax op m i j T = T := by
  funext p q
  unfold relax
  by_cases e : p = i ∧ q = j
  · rw [if_pos e, e.1, e.2]
    omega
  · rw [if_neg e]
theorem ok_law_crossings {f : Addr} {fd : FuncData} (F : Fun K "_law_crossings" "_law_crossings" s_law_crossings f fd) (Z : Bt mg) : FnOk P w K mg base CX0 1 f fd P_law_crossings spCross := by
  obtain ⟨tp, h_MOST_POINTS⟩ := Z.mp
  obtain ⟨th, h_MOST_HEIGHT⟩ := Z.mh
  refine F.ok sc_law_crossings (fun vs H Q E h => ?_) (fun cdv A outer s H vs Q E hr h => ?_)
  · obtain ⟨p, r, n, es, hs, rfl, _⟩ := h
    rfl
  · obtain ⟨p, r, n, es, hs, rfl, hN, g, hR, gR, q0⟩ := h
    obtain ⟨t, as0, h1, h2, h3, h4⟩ := hN
    have hR : H r = some (.tup ((hs.map fun h => 0 - h).map V.int)) := hR
    have gl := gR.1
    have hn9 := g.le
    have AL := alg_rise (J := J es) (h := ht hs) g.J_lt gR.bd
    refine ⟨_, (pss_cons (ps_set (i := 2) sc_law_crossings.nd rfl (by first | exact .inl rfl | exact .inr rfl) (pe_ix (ixT (K := K)) (pv 0) pe_int (fun _ _ => rfl)))
        (pss_cons (ps_setLc (i := 3) (own := [("_law_one", 4)]) (g := gName 4) rfl sc_law_crossings.nd rfl rfl (sw_true rfl rfl rfl (by decide +kernel)) (pi_range1 (by rfl) Z.range (pa_cons (pv 2) pa_nil)) (blkOk_by (own := [("_law_one", 4)]) (N := N_law_crossings) (sc := defScope s_law_crossings) (by decide +kernel)) (fun _ _ _ _ _ => pg_name (i := 4) sc_law_crossings.nd rfl (by first | exact .inl rfl | exact .inr rfl)) (fun _ _ _ _ _ => pts_nil) (fun _ _ _ _ _ => (pe_lc (own := [("_law_other", 5)]) (g := gName 5) rfl sc_law_crossings.nd (pi_range1 (by rfl) Z.range (pa_cons (pv 2) pa_nil)) (blkOk_by (own := [("_law_other", 5)]) (N := N_law_crossings) (sc := relS (lcScope s_law_crossings 1) (defScope s_law_crossings)) (by decide +kernel)) (fun _ _ _ _ _ => pg_name (i := 5) sc_law_crossings.nd rfl (by first | exact .inl rfl | exact .inr rfl)) (fun _ _ _ _ _ => pts_nil) (fun _ _ _ _ _ => (pe_ifExp (pt_cmpR op_eq (pv 4) (pv 5) (nomark _)) (pe_ix (ixT (K := K)) (pv 1) (pv 4) (fun _ _ => rfl)) pe_non)))))
        (pss_cons (ps_for PassesOwn.never rfl (piTup (K := K) (pe_ix (ixT (K := K)) (pv 0) pe_int (fun _ _ => rfl))) (pg_tup rfl (pgs_cons (pg_name (i := 4) sc_law_crossings.nd rfl (by first | exact .inl rfl | exact .inr rfl)) (pgs_cons (pg_name (i := 5) sc_law_crossings.nd rfl (by first | exact .inl rfl | exact .inr rfl)) pgs_nil))) (pss_cons (ps_asg (pe_callB (call_min2 rfl) (by rfl) Z.min (by decide +kernel) (pa_cons (pe_ix (ixT (K := K)) (pv 1) (pv 4) (fun _ _ => rfl)) (pa_cons (pe_ix (ixT (K := K)) (pv 1) (pv 5) (fun _ _ => rfl)) pa_nil))) (pg_sub (pe_ix (ixL (K := K)) (pv 3) (pv 4) (fun _ _ => rfl)) (pv 5) set_list))
        (pss_one (ps_asg (pe_ix (ixL (K := K)) (pe_ix (ixL (K := K)) (pv 3) (pv 4) (fun _ _ => rfl)) (pv 5) (fun _ _ => rfl)) (pg_sub (pe_ix (ixL (K := K)) (pv 3) (pv 5) (fun _ _ => rfl)) (pv 4) set_list)))))
        (pss_cons (ps_for PassesOwn.never rfl (pi_range1 (by rfl) Z.range (pa_cons (pv 2) pa_nil)) (pg_name (i := 6) sc_law_crossings.nd rfl (by first | exact .inl rfl | exact .inr rfl)) (pss_one (ps_for PassesOwn.never rfl (pi_range1 (by rfl) Z.range (pa_cons (pv 2) pa_nil)) (pg_name (i := 4) sc_law_crossings.nd rfl (by first | exact .inl rfl | exact .inr rfl)) (pss_one (ps_for PassesOwn.never rfl (pi_range1 (by rfl) Z.range (pa_cons (pv 2) pa_nil)) (pg_name (i := 5) sc_law_crossings.nd rfl (by first | exact .inl rfl | exact .inr rfl)) (pss_one (ps_if (PW.pt (pw_and (pt_cmpR op_notN (pe_ix (ixL (K := K)) (pe_ix (ixL (K := K)) (pv 3) (pv 4) (fun _ _ => rfl)) (pv 6) (fun _ _ => rfl)) pe_non (nomark _)) (pw_and1 (pt_cmpR op_notN (pe_ix (ixL (K := K)) (pe_ix (ixL (K := K)) (pv 3) (pv 6) (fun _ _ => rfl)) (pv 5) (fun _ _ => rfl)) pe_non (nomark _))))) (pss_cons (ps_set (i := 7) sc_law_crossings.nd rfl (by first | exact .inl rfl | exact .inr rfl) (pe_callB (call_min2 rfl) (by rfl) Z.min (by decide +kernel) (pa_cons (pe_ix (ixL (K := K)) (pe_ix (ixL (K := K)) (pv 3) (pv 4) (fun _ _ => rfl)) (pv 6) (fun _ _ => rfl)) (pa_cons (pe_ix (ixL (K := K)) (pe_ix (ixL (K := K)) (pv 3) (pv 6) (fun _ _ => rfl)) (pv 5) (fun _ _ => rfl)) pa_nil))))
        (pss_one (ps_asg (pe_ifExp (pt_cmpR op_isN (pe_ix (ixL (K := K)) (pe_ix (ixL (K := K)) (pv 3) (pv 4) (fun _ _ => rfl)) (pv 5) (fun _ _ => rfl)) pe_non (nomark _)) (pv 7) (pe_callB (call_max2 rfl) (by rfl) Z.max (by decide +kernel) (pa_cons (pe_ix (ixL (K := K)) (pe_ix (ixL (K := K)) (pv 3) (pv 4) (fun _ _ => rfl)) (pv 5) (fun _ _ => rfl)) (pa_cons (pv 7) pa_nil)))) (pg_sub (pe_ix (ixL (K := K)) (pv 3) (pv 4) (fun _ _ => rfl)) (pv 5) set_list)))) pss_nil)))))))
        (pss_one (ps_ret (pv 3))))))), ?_⟩
    refine ⟨_, rfl, p, _, 0, pt n, rfl, rfl, SqT.of h1, atI_nat (j := 0) rfl, ?_⟩
    -- best = [[..]]
    refine ⟨_, rfl, n, rfl, by omega, by omega, fun D nD => ?_⟩
    refine lc_it walk_rng (fun i H' => Same H H' ∧ ∃ as, TabR H' D as i n encN (ini (ht hs) (riseW (ht hs)) []) ∧ ∀ a ∈ as, H a = none) ⟨same_new nD, [], ⟨upd_same, rfl, List.nodup_nil, by simp, by simp⟩, by simp⟩ (fun _ _ _ _ => trivial) ?_ ?_
    · rintro i x H1 H2 hi ⟨s1, as, T1, fr⟩ ⟨rfl, rfl⟩
      have hin : i < n := hi
      refine ⟨rfl, _, rfl, n, rfl, by omega, by omega, fun B nB => ?_⟩
      refine lc_it walk_rng (fun j H' => Same H2 H' ∧ H' B = some (.lst ((List.range j).map fun q => encN (ini (ht hs) (riseW (ht hs)) [] i q)))) ⟨same_new nB, upd_same⟩ (fun _ _ _ _ => trivial) ?_ ?_
      · rintro j x H3 H4 hj ⟨s3, b3⟩ ⟨rfl, rfl⟩
        have hjn : j < n := hj
        have R4 : H4 r = some (.tup ((hs.map fun h => 0 - h).map V.int)) := s3 _ _ (s1 _ _ hR)
        have sz : ((List.range j).map fun q => encN (ini (ht hs) (riseW (ht hs)) [] i q)).length < sizeLine := by rw [List.length_map, List.length_range]; exact small1000 (by omega)
        refine ⟨rfl, _, rfl, _, rfl, rfl, _, rfl, ite2 (fun e => ?_) (fun e => ?_)⟩
        · have e : i = j := by
            have := of_decide_eq_true e
            have : (i : Int) = j := V.int.inj this
            omega
          subst e
          refine ⟨_, rfl, _, rfl, r, _, i, .int (0 - ht hs i), rfl, rfl, SqT.of R4, atI_nat (ints_at (dn_at (by omega))), _, b3, sz, same_over s3 nB, ?_⟩
          have ee : encN (ini (ht hs) (riseW (ht hs)) [] i i) = .int (0 - ht hs i) := by
            have : ini (ht hs) (riseW (ht hs)) [] i i = ht hs i := by
              unfold ini
              rw [if_neg (by simp), if_pos rfl]
            rw [this]
            exact encN_int (by have := gR.bd i hin; omega)
          rw [upd_same, List.range_succ, List.map_append, ← ee]
          rfl
        · have e : i ≠ j := fun z => e (decide_eq_true (by rw [z]))
          refine ⟨_, b3, sz, same_over s3 nB, ?_⟩
          have ee : encN (ini (ht hs) (riseW (ht hs)) [] i j) = .non := by
            have : ini (ht hs) (riseW (ht hs)) [] i j = 9999 := by
              unfold ini
              rw [if_neg (by simp), if_neg e]
            rw [this]
            exact encN_big
          rw [upd_same, List.range_succ, List.map_append, ← ee]
          rfl
      · rintro H3 ⟨s3, b3⟩
        obtain ⟨f1, f2⟩ := T1.new nB
        have T3 := (T1.same s3).snoc f1 f2 b3
        refine ⟨_, T1.1 |> s3 _ _, by rw [List.length_map, T1.2.1]; exact small1000 (by omega), same_over (s1.trans s3) nD, as ++ [B], T3, fun a ha => ?_⟩
        rcases List.mem_append.mp ha with h | h
        · exact fr a h
        · rw [List.mem_singleton.mp h]
          exact s1.free nB
    · rintro H1 ⟨s1, as, T1, fr⟩
      have T1 : TabAt H1 D as n encN (ini (ht hs) (riseW (ht hs)) []) := T1
      have over : ∀ {H' : Hp} {a : Addr} {o : HO}, Same H H' → a ∈ as → Same H (upd H' a o) := fun s ha => same_over s (fr _ ha)
      -- for one, other in net[1]
      refine ⟨_, rfl, p, _, 1, .ref t, rfl, rfl, SqT.of (s1 _ _ h1), atI_nat (j := 1) rfl, t, rfl, ⟨_, SqT.of (s1 _ _ h2)⟩, ?_⟩
      refine for_it (walk_tup (xs := as0.map V.ref)) (fun k σ H' => ∃ S y4 y5 y6 y7, σ = [some (.ref p), some (.ref r), some (pt n), some (.ref D), y4, y5, y6, y7] ∧ Same H H' ∧ TabAt H' D as n encN (ini (ht hs) (riseW (ht hs)) S) ∧ ∀ i j, (i, j) ∈ S ↔ (i, j) ∈ es.take k ∨ (j, i) ∈ es.take k)
        ⟨[], none, none, none, none, rfl, s1, T1, by simp⟩ (fun k σ H' _ ⟨_, _, _, _, _, _, s, _⟩ => SqT.of (s _ _ h2)) ?_ ?_
      · rintro k x σ H2 H3 hk ⟨S, y4, y5, y6, y7, rfl, s3, T3, hS⟩ ⟨rfl, hx⟩
        obtain ⟨ea, hea, rfl⟩ := refs_get hx
        obtain ⟨e, he⟩ := get_some (l := es) (i := k) (by rw [← h3]; exact get_lt hea)
        obtain ⟨i, j⟩ := e
        have hE := s3 _ _ (h4 k ea _ hea he)
        have lt := g.lt _ (List.mem_of_getElem? he)
        have hi : i < n := by omega
        have hj : j < n := lt.2
        have R3 : H3 r = some (.tup ((hs.map fun h => 0 - h).map V.int)) := s3 _ _ hR
        obtain ⟨a, ha, ra, Ha, am, _⟩ := T3.row hi
        refine ⟨ea, _, rfl, SqT.of hE, rfl, _, _, rfl, _, _, rfl, rfl, ?_⟩
        show tSeq _ _ _ [some (.ref p), some (.ref r), some (pt n), some (.ref D), some (pt i), some (pt j), y6, y7] H3
        refine ⟨_, rfl, _, rfl, r, _, i, .int (0 - ht hs i), rfl, rfl, SqT.of R3, atI_nat (ints_at (dn_at (by omega))), _, rfl, _, rfl, r, _, j, .int (0 - ht hs j), rfl, rfl, SqT.of R3, atI_nat (ints_at (dn_at (by omega))), _, _, rfl, ?_⟩
        refine ⟨_, rfl, _, rfl, D, _, i, .ref a, rfl, rfl, SqL.of T3.1, atI_nat ra, _, rfl, a, _, j, j, rfl, rfl, Ha, ix_nat (by rw [trow_len]; exact hj), ?_⟩
        have e1 : V.int (if 0 - ht hs j < 0 - ht hs i then 0 - ht hs j else 0 - ht hs i) = encN (riseW (ht hs) i j) := by
          have h1 := gR.bd i hi
          have h2 := gR.bd j hj
          rw [encN_int (by unfold riseW; omega)]
          congr 1
          unfold riseW
          split <;> omega
        dsimp only
        rw [e1]
        have s4 : Same H (upd H3 a (.lst ((trow n encN (ini (ht hs) (riseW (ht hs)) S) i).set j (encN (riseW (ht hs) i j))))) := over s3 am
        have T4 := T3.put (j := j) ha (riseW (ht hs) i j)
        generalize upd H3 a (.lst ((trow n encN (ini (ht hs) (riseW (ht hs)) S) i).set j (encN (riseW (ht hs) i j)))) = H4 at s4 T4
        rw [ini_put] at T4
        -- best[other][one] = best[one][other]
        obtain ⟨a2, ha2, ra2, Ha2, am2, _⟩ := T4.row hi
        obtain ⟨b, hb, rb, Hb, bm, _⟩ := T4.row hj
        refine ⟨_, rfl, _, rfl, D, _, i, .ref a2, rfl, rfl, SqL.of T4.1, atI_nat ra2, _, rfl, a2, _, j, _, rfl, rfl, SqL.of Ha2, atI_nat (trow_at hj), ?_⟩
        refine ⟨_, rfl, _, rfl, D, _, j, .ref b, rfl, rfl, SqL.of T4.1, atI_nat rb, _, rfl, b, _, i, i, rfl, rfl, Hb, ix_nat (by rw [trow_len]; exact hi), ?_⟩
        have e2 : ini (ht hs) (riseW (ht hs)) (S ++ [(i, j)]) i j = riseW (ht hs) j i := by
          unfold ini
          rw [if_pos (List.mem_append_right _ List.mem_cons_self)]
          unfold riseW
          omega
        rw [e2]
        have T5 := T4.put (j := i) hb (riseW (ht hs) j i)
        rw [ini_put] at T5
        refine ⟨S ++ [(i, j)] ++ [(j, i)], _, _, _, _, rfl, over s4 bm, T5, fun p q => ?_⟩
        rw [take_snoc he, List.mem_append, List.mem_append, hS, List.mem_append, List.mem_append, List.mem_singleton, List.mem_singleton, List.mem_singleton]
        constructor
        · rintro ((h | h) | h)
          · exact h.elim (fun h => .inl (.inl h)) (fun h => .inr (.inl h))
          · exact .inl (.inr h)
          · exact .inr (.inr (by rw [Prod.mk.injEq] at h ⊢; exact ⟨h.2, h.1⟩))
        · rintro ((h | h) | (h | h))
          · exact .inl (.inl (.inl h))
          · exact .inl (.inr h)
          · exact .inl (.inl (.inr h))
          · exact .inr (by rw [Prod.mk.injEq] at h ⊢; exact ⟨h.2, h.1⟩)
      · rintro σ H2 ⟨S, y4, y5, y6, y7, rfl, s2, T2, hS⟩
        have I0 : Tab n (J es) max (ht hs) (riseW (ht hs)) (-99) 9999 0 0 0 (ini (ht hs) (riseW (ht hs)) S) := ini_tab AL (by decide) fun i j => by
          rw [hS, List.length_map, h3, List.take_length]
          exact Iff.rfl
        generalize ini (ht hs) (riseW (ht hs)) S = T at I0 T2
        -- for mid in range(many)
        refine ⟨_, rfl, n, rfl, by omega, by omega, ?_⟩
        refine for_it walk_rng (fun m σ H' => ∃ T y4 y5 y6 y7, σ = [some (.ref p), some (.ref r), some (pt n), some (.ref D), y4, y5, y6, y7] ∧ Same H H' ∧ TabAt H' D as n encN T ∧ Tab n (J es) max (ht hs) (riseW (ht hs)) (-99) 9999 m 0 0 T)
          ⟨T, y4, y5, y6, y7, rfl, s2, T2, I0⟩ (fun _ _ _ _ _ => trivial) ?_ ?_
        · rintro m x σ H3 H4 hm ⟨T, y4, y5, y6, y7, rfl, s4, T4, I4⟩ ⟨rfl, rfl⟩
          have hm : m < n := hm
          refine ⟨_, rfl, n, rfl, by omega, by omega, ?_⟩
          refine for_it walk_rng (fun i σ H' => ∃ T y4 y5 y7, σ = [some (.ref p), some (.ref r), some (pt n), some (.ref D), y4, y5, some (pt m), y7] ∧ Same H H' ∧ TabAt H' D as n encN T ∧ Tab n (J es) max (ht hs) (riseW (ht hs)) (-99) 9999 m i 0 T)
            ⟨T, y4, y5, y7, rfl, s4, T4, I4⟩ (fun _ _ _ _ _ => trivial) ?_ ?_
          · rintro i x σ H5 H6 hi ⟨T, y4, y5, y7, rfl, s6, T6, I6⟩ ⟨rfl, rfl⟩
            have hi : i < n := hi
            refine ⟨_, rfl, n, rfl, by omega, by omega, ?_⟩
            refine for_it walk_rng (fun j σ H' => ∃ T y5 y7, σ = [some (.ref p), some (.ref r), some (pt n), some (.ref D), some (pt i), y5, some (pt m), y7] ∧ Same H H' ∧ TabAt H' D as n encN T ∧ Tab n (J es) max (ht hs) (riseW (ht hs)) (-99) 9999 m i j T)
              ⟨T, y5, y7, rfl, s6, T6, I6⟩ (fun _ _ _ _ _ => trivial) ?_ ?_
            · rintro j x σ H7 H8 hj ⟨T, y5, y7, rfl, s8, T8, I8⟩ ⟨rfl, rfl⟩
              have hj : j < n := hj
              have I9 := I8.relax AL hm hi hj
              have b1 := I8.bd i m hi hm
              have b2 := I8.bd m j hm hj
              have b3 := I8.bd i j hi hj
              obtain ⟨a, ha, ra, Ha, am, _⟩ := T8.row hi
              obtain ⟨c, hc, rc, Hc, cm, _⟩ := T8.row hm
              refine ⟨_, rfl, _, rfl, D, _, i, .ref a, rfl, rfl, SqL.of T8.1, atI_nat ra, _, rfl, a, _, m, _, rfl, rfl, SqL.of Ha, atI_nat (trow_at hm), rfl, _, rfl, ?_⟩
              rw [encN_dec]
              by_cases c1 : T i m = 9999
              · rw [decide_eq_true c1]
                refine iteF (iteF ⟨T, _, _, rfl, s8, T8, ?_⟩)
                rw [relax_same (by omega)] at I9
                exact I9
              rw [decide_eq_false c1]
              refine iteT ⟨_, rfl, _, rfl, D, _, m, .ref c, rfl, rfl, SqL.of T8.1, atI_nat rc, _, rfl, c, _, j, _, rfl, rfl, SqL.of Hc, atI_nat (trow_at hj), rfl, _, rfl, ?_⟩
              rw [encN_dec]
              by_cases c2 : T m j = 9999
              · rw [decide_eq_true c2]
                refine iteF ⟨T, _, _, rfl, s8, T8, ?_⟩
                rw [relax_same (by omega)] at I9
                exact I9
              rw [decide_eq_false c2]
              have Him : (trow n encN T i)[m]? = some (.int (0 - T i m)) := by rw [trow_at hm, encN_int (by omega)]
              have Hmj : (trow n encN T m)[j]? = some (.int (0 - T m j)) := by rw [trow_at hj, encN_int (by omega)]
              refine iteT ⟨_, rfl, _, rfl, D, _, i, .ref a, rfl, rfl, SqL.of T8.1, atI_nat ra, _, rfl, a, _, m, _, rfl, rfl, SqL.of Ha, atI_nat Him, _, rfl, _, rfl, D, _, m, .ref c, rfl, rfl, SqL.of T8.1, atI_nat rc, _, rfl, c, _, j, _, rfl, rfl, SqL.of Hc, atI_nat Hmj, _, _, rfl, ?_⟩
              have e1 : (if 0 - T m j < 0 - T i m then 0 - T m j else 0 - T i m) = 0 - max (T i m) (T m j) := by split <;> omega
              dsimp only
              rw [e1]
              dsimp only [gName, tAsg]
              refine post (C := fun x H' => x = encN (min (T i j) (max (T i m) (T m j))) ∧ H' = H8) ?_ ?_
              · rintro x H9 ⟨rfl, rfl⟩
                refine ⟨_, rfl, _, rfl, D, _, i, .ref a, rfl, rfl, SqL.of T8.1, atI_nat ra, _, rfl, a, _, j, j, rfl, rfl, Ha, ix_nat (by rw [trow_len]; exact hj), ?_⟩
                exact ⟨_, _, _, rfl, over s8 am, T8.put ha _, I9⟩
              · intro R hR
                refine ⟨_, rfl, _, rfl, D, _, i, .ref a, rfl, rfl, SqL.of T8.1, atI_nat ra, _, rfl, a, _, j, _, rfl, rfl, SqL.of Ha, atI_nat (trow_at hj), rfl, _, rfl, ?_⟩
                rw [encN_dec]
                by_cases c3 : T i j = 9999
                · rw [decide_eq_true c3]
                  refine iteT ⟨_, rfl, hR _ _ ⟨?_, rfl⟩⟩
                  rw [encN_int (by omega)]
                  congr 1
                  omega
                · rw [decide_eq_false c3]
                  have Hij : (trow n encN T i)[j]? = some (.int (0 - T i j)) := by rw [trow_at hj, encN_int (by omega)]
                  refine iteF ⟨_, rfl, _, rfl, D, _, i, .ref a, rfl, rfl, SqL.of T8.1, atI_nat ra, _, rfl, a, _, j, _, rfl, rfl, SqL.of Ha, atI_nat Hij, _, rfl, _, _, rfl, hR _ _ ⟨?_, rfl⟩⟩
                  rw [encN_int (by omega)]
                  congr 1
                  split <;> omega
            · rintro σ H7 ⟨T, y5, y7, rfl, s8, T8, I8⟩
              exact ⟨T, _, _, _, rfl, s8, T8, Tab.row I8⟩
          · rintro σ H5 ⟨T, y4, y5, y7, rfl, s6, T6, I6⟩
            exact ⟨T, _, _, _, _, rfl, s6, T6, Tab.next I6⟩
        · rintro σ H3 ⟨T, y4, y5, y6, y7, rfl, s4, T4, I4⟩
          exact ⟨_, rfl, q0 H3 D as T s4 T4 I4⟩
end
end Cl

set_option Elab.async false
set_option linter.all false
set_option maxRecDepth 100000
set_option maxHeartbeats 4000000
namespace Cl
open PySem PySem.Spec PyProof.Rows L2
section
variable {P : Program} {w : World} {K : PySem.W.Frag} {mg : Str → Option Value} {base : Heap}
theorem kit_two {K : PySem.W.Frag} {t : String} (h1 : kitB t "tuple" = some false) (h2 : kitB t "list" = some false) : PySem.W.kitAny K (.type t) [.type "tuple", .type "list"] = some false :=
  kitAny_cons (b := false) (kit_ty h1) (fun _ => kitAny_cons (b := false) (kit_ty h2) (fun _ => rfl) (fun z => nomatch z)) (fun z => nomatch z)
theorem kit_two_list {K : PySem.W.Frag} : PySem.W.kitAny K (.type "list") [.type "tuple", .type "list"] = some true :=
  kitAny_cons (b := false) (kit_ty (by decide +kernel)) (fun _ => kitAny_cons (b := true) (kit_ty (by decide +kernel)) (fun z => nomatch z) (fun _ => rfl)) (fun z => nomatch z)
theorem cls_two : Paired ClsV [V.ty "tuple", V.ty "list"] [Value.type "tuple", Value.type "list"] := .cons (.ty "tuple") (.cons (.ty "list") .nil)
theorem ok_law_alike0 {f : Addr} {fd : FuncData} (F : Fun K "_law_alike" "_law_alike" s_law_alike f fd) (Z : Bt mg) : FnOk P w K mg base CX0 1 f fd P_law_alike spAlike0 := by
  refine F.ok sc_law_alike (fun vs H Q E h => ?_) (fun cdv A outer s H vs Q E hr h => ?_)
  · obtain ⟨v, rfl, _⟩ := h
    rfl
  · obtain ⟨v, rfl, hv, q0⟩ := h
    refine ⟨_, (pss_cons (ps_if (pt_val (pe_callB call_isiT (by rfl) Z.isinstance (by decide +kernel) (pa_cons (pv 1) (pa_cons (pe_tup (pa_cons (pe_bltn (v := .ty "tuple") (by rfl) Z.tuple (by decide +kernel) rfl) (pa_cons (pe_bltn (v := .ty "list") (by rfl) Z.list (by decide +kernel) rfl) pa_nil))) pa_nil)))) pss_never pss_nil)
        (pss_cons (ps_if (PW.pt (pw_or (pt_cmpR op_isN (pv 1) pe_non (nomark _)) (pw_or1 (pt_val (pe_callB call_isi (by rfl) Z.isinstance (by decide +kernel) (pa_cons (pv 1) (pa_cons (pe_bltn (v := .ty "str") (by rfl) Z.str (by decide +kernel) rfl) pa_nil))))))) (pss_one (ps_ret (pe_and (pe_cmpR op_eq (pv 0) (pv 1) (nomark _)) (pe_one (pe_cmpR op_eq (pe_callB call_isi (by rfl) Z.isinstance (by decide +kernel) (pa_cons (pv 0) (pa_cons (pe_bltn (v := .ty "str") (by rfl) Z.str (by decide +kernel) rfl) pa_nil))) (pe_callB call_isi (by rfl) Z.isinstance (by decide +kernel) (pa_cons (pv 1) (pa_cons (pe_bltn (v := .ty "str") (by rfl) Z.str (by decide +kernel) rfl) pa_nil))) (nomark _)))))) pss_nil)
        (pss_one (ps_ret (pe_and (pe_callB call_isi (by rfl) Z.isinstance (by decide +kernel) (pa_cons (pv 0) (pa_cons (pe_bltn (v := .ty "int") (by rfl) Z.int (by decide +kernel) rfl) pa_nil))) (pe_and (pe_cmpR op_eq (pe_callB call_isi (by rfl) Z.isinstance (by decide +kernel) (pa_cons (pv 0) (pa_cons (pe_bltn (v := .ty "bool") (by rfl) Z.bool (by decide +kernel) rfl) pa_nil))) (pe_callB call_isi (by rfl) Z.isinstance (by decide +kernel) (pa_cons (pv 1) (pa_cons (pe_bltn (v := .ty "bool") (by rfl) Z.bool (by decide +kernel) rfl) pa_nil))) (nomark _)) (pe_one (pe_cmpR op_eq (pv 0) (pv 1) (nomark _))))))))), ?_⟩
    rcases hv with ⟨i, rfl⟩ | ⟨b, rfl⟩
    · refine ⟨_, rfl, small16 (by show 2 ≤ 1000; decide), fun tp ntp => ⟨_, tp, _, _, _, false, rfl, upd_same, cls_two, .base (.int i), kit_two (by decide +kernel) (by decide +kernel), _, rfl, ?_⟩⟩
      have s1 : Same H (upd H tp (.tup [.ty "tuple", .ty "list"])) := same_new ntp
      generalize upd H tp (.tup [.ty "tuple", .ty "list"]) = H1 at s1
      refine iteF ⟨_, rfl, rfl, _, rfl, ite2 (fun e => nomatch (of_decide_eq_true e)) (fun _ => ?_)⟩
      refine ⟨_, rfl, _, _, _, _, false, rfl, .ty "str", .base (.int i), kit_ty (by decide +kernel), _, rfl, iteF ?_⟩
      refine ⟨_, rfl, _, _, _, _, true, rfl, .ty "int", .base (.int i), kit_ty (by decide +kernel), true, rfl, iteT ?_⟩
      refine ⟨_, rfl, _, _, _, _, false, rfl, .ty "bool", .base (.int i), kit_ty (by decide +kernel), _, rfl, _, _, _, _, false, rfl, .ty "bool", .base (.int i), kit_ty (by decide +kernel), rfl, ?_⟩
      refine ⟨true, by rw [decide_eq_true rfl], iteT ⟨_, rfl, _, rfl, rfl, ?_⟩⟩
      show Q (.bl (decide (_ = _))) H1
      rw [decide_eq_true rfl]
      exact q0 H1 s1
    · refine ⟨_, rfl, small16 (by show 2 ≤ 1000; decide), fun tp ntp => ⟨_, tp, _, _, _, false, rfl, upd_same, cls_two, .base (.bl b), kit_two (by decide +kernel) (by decide +kernel), _, rfl, ?_⟩⟩
      have s1 : Same H (upd H tp (.tup [.ty "tuple", .ty "list"])) := same_new ntp
      generalize upd H tp (.tup [.ty "tuple", .ty "list"]) = H1 at s1
      refine iteF ⟨_, rfl, rfl, _, rfl, ite2 (fun e => nomatch (of_decide_eq_true e)) (fun _ => ?_)⟩
      refine ⟨_, rfl, _, _, _, _, false, rfl, .ty "str", .base (.bl b), kit_ty (by decide +kernel), _, rfl, iteF ?_⟩
      refine ⟨_, rfl, _, _, _, _, true, rfl, .ty "int", .base (.bl b), kit_ty (by decide +kernel), true, rfl, iteT ?_⟩
      refine ⟨_, rfl, _, _, _, _, true, rfl, .ty "bool", .base (.bl b), kit_ty (by decide +kernel), _, rfl, _, _, _, _, true, rfl, .ty "bool", .base (.bl b), kit_ty (by decide +kernel), rfl, ?_⟩
      refine ⟨true, by rw [decide_eq_true rfl], iteT ⟨_, rfl, _, rfl, rfl, ?_⟩⟩
      show Q (.bl (decide (_ = _))) H1
      rw [decide_eq_true rfl]
      exact q0 H1 s1
theorem ok_law_alike {f : Addr} {fd : FuncData} (F : Fun K "_law_alike" "_law_alike" s_law_alike f fd) (Z : Bt mg) (C_law_alike : Cal P w K mg base CX0 1 "_law_alike" P_law_alike spAlike0) : FnOk P w K mg base CX0 2 f fd P_law_alike spAlike := by
  refine F.ok sc_law_alike (fun vs H Q E h => ?_) (fun cdv A outer s H vs Q E hr h => ?_)
  · obtain ⟨a, b, xs, rfl, _⟩ := h
    rfl
  · obtain ⟨a, b, xs, rfl, ha, hb, hf, hl, q0⟩ := h
    refine ⟨_, (pss_cons (ps_if (pt_val (pe_callB call_isiT (by rfl) Z.isinstance (by decide +kernel) (pa_cons (pv 1) (pa_cons (pe_tup (pa_cons (pe_bltn (v := .ty "tuple") (by rfl) Z.tuple (by decide +kernel) rfl) (pa_cons (pe_bltn (v := .ty "list") (by rfl) Z.list (by decide +kernel) rfl) pa_nil))) pa_nil)))) (pss_cons (ps_if (PW.pt (pw_or (pt_not (pt_val (pe_callB call_isiT (by rfl) Z.isinstance (by decide +kernel) (pa_cons (pv 0) (pa_cons (pe_tup (pa_cons (pe_bltn (v := .ty "tuple") (by rfl) Z.tuple (by decide +kernel) rfl) (pa_cons (pe_bltn (v := .ty "list") (by rfl) Z.list (by decide +kernel) rfl) pa_nil))) pa_nil))))) (pw_or1 (pt_cmpR op_ne (pe_callB call_isi (by rfl) Z.isinstance (by decide +kernel) (pa_cons (pv 0) (pa_cons (pe_bltn (v := .ty "list") (by rfl) Z.list (by decide +kernel) rfl) pa_nil))) (pe_callB call_isi (by rfl) Z.isinstance (by decide +kernel) (pa_cons (pv 1) (pa_cons (pe_bltn (v := .ty "list") (by rfl) Z.list (by decide +kernel) rfl) pa_nil))) (nomark _))))) (pss_one (ps_ret pe_bl)) pss_nil)
        (pss_cons (ps_if (pt_cmpR op_ne (pe_callB (lenS (K := K)) (by rfl) Z.len (by decide +kernel) (pa_cons (pv 0) pa_nil)) (pe_callB (lenS (K := K)) (by rfl) Z.len (by decide +kernel) (pa_cons (pv 1) pa_nil)) (nomark _)) (pss_one (ps_ret pe_bl)) pss_nil)
        (pss_one (ps_ret (pe_cmpR (op_eqD hr.units) (pe_lc (own := [("_law_k", 2)]) (g := gName 2) rfl sc_law_alike.nd (pi_range1 (by rfl) Z.range (pa_cons (pe_callB (lenS (K := K)) (by rfl) Z.len (by decide +kernel) (pa_cons (pv 1) pa_nil)) pa_nil)) (blkOk_by (own := [("_law_k", 2)]) (N := N_law_alike) (sc := defScope s_law_alike) (by decide +kernel)) (fun _ _ _ _ _ => pg_name (i := 2) sc_law_alike.nd rfl (by first | exact .inl rfl | exact .inr rfl)) (fun _ _ _ _ _ => (pts_one (pt_not (pt_val (pe_cal C_law_alike hr pass0 (pa_cons (pe_ix (ixL (K := K)) (pv 0) (pv 2) (fun _ _ => rfl)) (pa_cons (pe_ix (ixL (K := K)) (pv 1) (pv 2) (fun _ _ => rfl)) pa_nil))))))) (fun _ _ _ _ _ => (pv 2))) (pe_lst pa_nil) (nomark _)))))) pss_nil)
        (pss_cons (ps_if (PW.pt (pw_or (pt_cmpR op_isN (pv 1) pe_non (nomark _)) (pw_or1 (pt_val (pe_callB call_isi (by rfl) Z.isinstance (by decide +kernel) (pa_cons (pv 1) (pa_cons (pe_bltn (v := .ty "str") (by rfl) Z.str (by decide +kernel) rfl) pa_nil))))))) (pss_one (ps_ret (pe_and (pe_cmpR op_eq (pv 0) (pv 1) (nomark _)) (pe_one (pe_cmpR op_eq (pe_callB call_isi (by rfl) Z.isinstance (by decide +kernel) (pa_cons (pv 0) (pa_cons (pe_bltn (v := .ty "str") (by rfl) Z.str (by decide +kernel) rfl) pa_nil))) (pe_callB call_isi (by rfl) Z.isinstance (by decide +kernel) (pa_cons (pv 1) (pa_cons (pe_bltn (v := .ty "str") (by rfl) Z.str (by decide +kernel) rfl) pa_nil))) (nomark _)))))) pss_nil)
        (pss_one (ps_ret (pe_and (pe_callB call_isi (by rfl) Z.isinstance (by decide +kernel) (pa_cons (pv 0) (pa_cons (pe_bltn (v := .ty "int") (by rfl) Z.int (by decide +kernel) rfl) pa_nil))) (pe_and (pe_cmpR op_eq (pe_callB call_isi (by rfl) Z.isinstance (by decide +kernel) (pa_cons (pv 0) (pa_cons (pe_bltn (v := .ty "bool") (by rfl) Z.bool (by decide +kernel) rfl) pa_nil))) (pe_callB call_isi (by rfl) Z.isinstance (by decide +kernel) (pa_cons (pv 1) (pa_cons (pe_bltn (v := .ty "bool") (by rfl) Z.bool (by decide +kernel) rfl) pa_nil))) (nomark _)) (pe_one (pe_cmpR op_eq (pv 0) (pv 1) (nomark _))))))))), ?_⟩
    refine ⟨_, rfl, small16 (by show 2 ≤ 1000; decide), fun tp ntp => ⟨_, tp, _, _, _, true, rfl, upd_same, cls_two, .base (.lst (same_new ntp _ _ hb)), kit_two_list, _, rfl, ?_⟩⟩
    have s1 : Same H (upd H tp (.tup [.ty "tuple", .ty "list"])) := same_new ntp
    generalize upd H tp (.tup [.ty "tuple", .ty "list"]) = H1 at s1
    refine iteT ⟨_, rfl, small16 (by show 2 ≤ 1000; decide), fun tp2 ntp2 => ⟨_, tp2, _, _, _, true, rfl, upd_same, cls_two, .base (.lst (same_new ntp2 _ _ (s1 _ _ ha))), kit_two_list, _, rfl, ?_⟩⟩
    have s2 : Same H (upd H1 tp2 (.tup [.ty "tuple", .ty "list"])) := s1.trans (same_new ntp2)
    generalize upd H1 tp2 (.tup [.ty "tuple", .ty "list"]) = H2 at s2
    have a2 := s2 _ _ ha
    have b2 := s2 _ _ hb
    refine iteF ⟨_, rfl, _, _, _, _, true, rfl, .ty "list", .base (.lst a2), kit_ty (by decide +kernel), _, rfl, _, _, _, _, true, rfl, .ty "list", .base (.lst b2), kit_ty (by decide +kernel), rfl, ?_⟩
    refine ⟨_, rfl, ite2 (fun e => by simp at e) (fun _ => ?_)⟩
    refine ⟨_, rfl, a, xs, rfl, .inl (SqL.of a2), _, rfl, b, xs, rfl, .inl (SqL.of b2), rfl, _, rfl, ite2 (fun e => by simp at e) (fun _ => ?_)⟩
    refine ⟨_, rfl, b, xs, rfl, .inl (SqL.of b2), xs.length, rfl, by omega, by omega, fun D nD => ?_⟩
    refine lc_it walk_rng (fun i H' => Same H2 H' ∧ H' D = some (.lst [])) ⟨same_new nD, upd_same⟩ (fun _ _ _ _ => trivial) ?_ ?_
    · rintro i x H3 H4 hi ⟨s3, hD⟩ ⟨rfl, rfl⟩
      obtain ⟨v, hv⟩ := get_some (l := xs) (i := i) hi
      refine ⟨rfl, _, rfl, _, rfl, a, xs, i, v, rfl, rfl, SqL.of (s3 _ _ a2), atI_nat hv, _, rfl, _, rfl, b, xs, i, v, rfl, rfl, SqL.of (s3 _ _ b2), atI_nat hv, v, rfl, hf v (List.mem_of_getElem? hv), fun H5 s5 => ?_⟩
      exact ⟨true, rfl, iteF ⟨s3.trans s5, s5 _ _ hD⟩⟩
    · rintro H3 ⟨s3, hD⟩
      refine ⟨Nat.zero_le _, fun z nz => ?_⟩
      have hD2 : upd H3 z (.lst []) D = some (.lst (pts [])) := by rw [upd_ne (ne_of_none hD nz)]; exact hD
      obtain ⟨d, e, q1, q2, q3, q4, q5⟩ := nonempty_rd (K := K) hD2 upd_same
      refine ⟨d, e, q1, q2, q3, q4, ?_⟩
      have : PyData.eqv d e = true := by
        cases h : PyData.eqv d e with
        | true => rfl
        | false => rw [h] at q5; cases q5
      rw [this]
      exact q0 _ (s2.trans (s3.trans (same_new nz)))
end
end Cl

set_option Elab.async false
set_option linter.all false
set_option maxRecDepth 100000
set_option maxHeartbeats 4000000
namespace Cl
open PySem PySem.Spec PyProof.Rows L2
def tCallLR (i : Nat) (S : Addr → Sp → Prop) (E : L2.St → XK) (t : TA) : TE := fun σ H Q => ∃ f sp, σ[i]? = some (some (.ref f)) ∧ S f sp ∧ t σ H fun vs H1 => sp vs H1 Q (E σ)
theorem pe_callLR {X : Cx} {CX : CXT} {k i : Nat} {E : L2.St → XK} {x : Str} {p pos : Pos} {e : Expr} {es : List Expr} {t : TA} {S : Addr → Sp → Prop} (A : ∀ f sp, S f sp → HeldX X.prog X.w X.K X.mg X.base CX k f sp) (hr : Room k X.A) (hN : X.N[i]? = some x) (hv : Vis X.env.scope x)
    (hx : ∀ σ, PassesAt CX X σ (E σ)) (ha : PA X (e :: es) t)
    (hdb : (x == ("__debug__" : Str)) = false := by decide) (hcd : (x == ("__classdict__" : Str)) = false := by decide)
    (he : starEach (e :: es) X.env = (false, eval e X.env) :: starEach es X.env := by rfl) (hpl : (backTo pos (starEach es X.env)).any (·.1) = false := by rfl) : PE X (.Call (.Name x p) (e :: es) [] pos) (tCallLR i S E t) := by
  refine ⟨fun pins s σ H Q I h => ?_⟩
  obtain ⟨f, sp, hs, hS, ht⟩ := h
  obtain ⟨fd, ps, F, hk, hb⟩ := (A f sp hS).ex
  refine wpAny_Call_Name_kw (thn ((pe_var (pos := p) hN hv hdb hcd).run pins s σ H (fun v H1 => v = .ref f ∧ H1 = H) I ⟨.ref f, hs, rfl, rfl⟩) fun u s1 ⟨v, H1, I1, r1, q1⟩ => ?_)
  obtain ⟨rfl, rfl⟩ := q1
  cases r1
  refine PySem.W.callWith_K (h₀ := X.base) I.ok.mod.kin hk (thn (ha.run pos pins s1 σ _ _ I1 ht) fun us s2 ⟨vs, H2, I2, r, q⟩ => ⟨I2.kIn, ?_⟩) he hpl
  exact run_fnS F hr hb (hx σ) I2 r q
/-- a try as one word -/
def tTryO (K : PySem.W.Frag) (c : Value) (tb : WX → TS) (ts : Addr → Value → Option Addr → TS) (Wout : WX) : TS := fun D σ H => tb (wOnly K c ts Wout D) D σ H
theorem ps_tryO {X : Cx} {x : Str} {c : Value} {body suite : List Stmt} {b₀ : Stmt} {np pos pos' : Pos} {tb : WX → TS} {ts : Addr → Value → Option Addr → TS} {Wout : WX} (hs : X.stack = X.env :: X.outer) (hf : X.env.frame = some X.env.locals) (hc : Names X x c) (tk : Takes X Wout)
    (hb : ∀ (W : WX) (pn : List (Addr × Obj)) (xe : Value → Shared → Prop), Takes (X.tr pn xe) W → PassesOwn (model X.prog X.w) X.A X.env xe → PSs (X.tr pn xe) body (tb W))
    (hsu : ∀ (a : Addr) (oe : Obj) (cls : Value) (d : Option Addr) (pn : List (Addr × Obj)), Zc cls d oe → (∃ vs, oe.data = .fields vs) → PSs (X.suite a ((a, oe) :: pn)) (b₀ :: suite) (ts a cls d)) :
    PS X (.Try body [.ExceptHandler (some (.Name x np)) none (b₀ :: suite) pos'] [] [] pos) (tTryO X.K c tb ts Wout) := ps_try_only hs hf hc tk hb hsu
/-- all stands but the rows of two tables -/
def Off (as bs : List Addr) (H H' : Hp) : Prop := ∀ b o, b ∉ as → b ∉ bs → H b = some o → H' b = some o
theorem Off.refl (as bs : List Addr) (H : Hp) : Off as bs H H := fun _ _ _ _ h => h
theorem Off.one {as bs : List Addr} {H H' : Hp} {a : Addr} {o : HO} (s : Off as bs H H') (h : a ∈ as) : Off as bs H (upd H' a o) := fun b x n1 n2 e => by
  rw [upd_ne (fun z : b = a => n1 (by rw [z]; exact h))]
  exact s b x n1 n2 e
theorem Off.two {as bs : List Addr} {H H' : Hp} {a : Addr} {o : HO} (s : Off as bs H H') (h : a ∈ bs) : Off as bs H (upd H' a o) := fun b x n1 n2 e => by
  rw [upd_ne (fun z : b = a => n2 (by rw [z]; exact h))]
  exact s b x n1 n2 e
theorem TabAt.not {H : Hp} {p : Addr} {as : List Addr} {n : Nat} {enc : Int → V} {T : Nat → Nat → Int} (t : TabAt H p as n enc T) {b : Addr} {xs : List V} (h : H b = some (.tup xs)) : b ∉ as := fun z => by
  obtain ⟨i, hi⟩ := List.mem_iff_getElem?.mp z
  rw [t.2.2.2.2 i b hi] at h
  cases h
theorem max_if (x : Int) : (if x > 0 then x else 0) = max 0 x := by split <;> omega
theorem min_if (x y : Int) : (if y < x then y else x) = min x y := by split <;> omega
theorem max_if2 (x y : Int) : (if y > x then y else x) = max x y := by split <;> omega
theorem abs_if (x y : Int) : (if x - y < 0 then -(x - y) else x - y) = max (x - y) (y - x) := by split <;> omega
theorem for_tup {K : PySem.W.Frag} {tl : TE} {g : TG} {tb u : TS} {D : Ends} {σ : L2.St} {H : Hp} (C : V → Hp → Prop) (fin : ∀ v H', C v H' → ∃ a, v = .ref a ∧ (∃ xs, SqT K H' a xs) ∧ tSeq (tFor (fun _ H1 R => R (Itt K a) H1) g tb) u D σ H')
    (walk : ∀ R : VK, (∀ v H', C v H' → R v H') → tl σ H R) : tSeq (tFor (iTup K tl) g tb) u D σ H := walk _ fun v H' c => fin v H' c
def four (CN f1 f2 f3 f4 : Addr) (f : Addr) (sp : Sp) : Prop := (f = f1 ∧ sp = spFour CN RClimb) ∨ (f = f2 ∧ sp = spFour CN RRise) ∨ (f = f3 ∧ sp = spFour CN RStep) ∨ (f = f4 ∧ sp = spFour CN RRising)
theorem four_at {CN f1 f2 f3 f4 : Addr} : ∀ k, k < 4 → ∀ x, [V.ref f1, V.ref f2, V.ref f3, V.ref f4][k]? = some x → ∃ f, x = .ref f ∧ four CN f1 f2 f3 f4 f (spFour CN (rOf k))
  | 0, _, x, h => ⟨f1, (Option.some.inj h).symm, .inl ⟨rfl, rfl⟩⟩
  | 1, _, x, h => ⟨f2, (Option.some.inj h).symm, .inr (.inl ⟨rfl, rfl⟩)⟩
  | 2, _, x, h => ⟨f3, (Option.some.inj h).symm, .inr (.inr (.inl ⟨rfl, rfl⟩))⟩
  | 3, _, x, h => ⟨f4, (Option.some.inj h).symm, .inr (.inr (.inr ⟨rfl, rfl⟩))⟩
  | k + 4, h, _, _ => absurd h (by omega)
theorem res_snoc {n : Nat} {es : List (Nat × Nat)} {hs : List Int} {o u k : Nat} {vs : List V} {v : V} (lvs : vs.length = k) (hv : ∀ i v, vs[i]? = some v → Res n es hs o u i v) (h : Res n es hs o u k v) : ∀ i w, (vs ++ [v])[i]? = some w → Res n es hs o u i w := fun i w hi => by
  by_cases e : i < vs.length
  · rw [List.getElem?_append_left e] at hi
    exact hv i w hi
  · rw [List.getElem?_append_right (by omega)] at hi
    have : i - vs.length < 1 := get_lt hi
    have ei : i = k := by omega
    rw [show i - vs.length = 0 by omega] at hi
    have : v = w := Option.some.inj hi
    rw [ei, ← this]
    exact h
theorem dec_ints {x y : Int} : decide (V.int x = V.int y) = decide (x = y) := by
  by_cases e : x = y
  · rw [decide_eq_true e, decide_eq_true (by rw [e])]
  · rw [decide_eq_false e, decide_eq_false (fun z => e (V.int.inj z))]
section
variable {P : Program} {w : World} {K : PySem.W.Frag} {mg : Str → Option Value} {base : Heap}
variable {CN : Addr}
theorem ok_law {f : Addr} {fd : FuncData} (F : Fun K "law" "law" s_law f fd) (Z : Bt mg) (TX : NJ K mg CN) {f_least_climb f_least_rise f_least_step f_rising : Addr}
    (g_least_climb : mg "least_climb" = some (.ref f_least_climb)) (g_least_rise : mg "least_rise" = some (.ref f_least_rise)) (g_least_step : mg "least_step" = some (.ref f_least_step)) (g_rising : mg "rising" = some (.ref f_rising))
    (A4 : ∀ f sp, four CN f_least_climb f_least_rise f_least_step f_rising f sp → HeldX P w K mg base (L2.CX P w) 6 f sp)
    (C_law_alike : Cal P w K mg base CX0 2 "_law_alike" P_law_alike spAlike) (C_law_crossings : Cal P w K mg base CX0 1 "_law_crossings" P_law_crossings spCross) (C_law_down : Cal P w K mg base CX0 1 "_law_down" P_law_down spDown) (C_law_heights : Cal P w K mg base CX0 3 "_law_heights" P_law_heights (spHeights K)) (C_law_net : Cal P w K mg base CX0 2 "_law_net" P_law_net (spNet K)) (C_law_pick : Cal P w K mg base CX0 2 "_law_pick" P_law_pick (spPick K)) (C_law_taken : Cal P w K mg base CX0 1 "_law_taken" P_law_taken (spTaken K)) :
    FnOk P w K mg base CX0 7 f fd P_law (spLaw K) := by
  refine F.ok sc_law (fun vs H Q E h => ?_) (fun cdv A outer s H vs Q E hr h => ?_)
  · obtain ⟨a, ns, rfl, _⟩ := h
    rfl
  · obtain ⟨a, ns, rfl, hS0, hlen, q0⟩ := h
    refine ⟨_, (pss_cons (ps_set (i := 1) sc_law.nd rfl (by first | exact .inl rfl | exact .inr rfl) (pe_lst (pa_cons (pv 0) (pa_cons pe_int (pa_cons pe_int (pa_cons pe_int pa_nil))))))
        (pss_cons (ps_set (i := 2) sc_law.nd rfl (by first | exact .inl rfl | exact .inr rfl) (pe_cal C_law_net hr pass0 (pa_cons (pv 1) (pa_cons pe_int pa_nil))))
        (pss_cons (ps_set (i := 3) sc_law.nd rfl (by first | exact .inl rfl | exact .inr rfl) (pe_ix (ixT (K := K)) (pv 2) pe_int (fun _ _ => rfl)))
        (pss_cons (ps_set (i := 4) sc_law.nd rfl (by first | exact .inl rfl | exact .inr rfl) (pe_cal C_law_heights hr pass0 (pa_cons (pv 1) (pa_cons (pv 3) (pa_cons (pe_cal C_law_pick hr pass0 (pa_cons (pv 1) (pa_cons (pe_lst (pa_cons pe_int (pa_cons pe_int (pa_cons pe_int pa_nil)))) pa_nil))) pa_nil)))))
        (pss_cons (ps_set (i := 5) sc_law.nd rfl (by first | exact .inl rfl | exact .inr rfl) pe_int)
        (pss_cons (ps_setLc (i := 6) (own := [("_law_one", 8)]) (g := gName 8) rfl sc_law.nd rfl rfl (sw_true rfl rfl rfl (by decide +kernel)) (pi_range1 (by rfl) Z.range (pa_cons (pv 3) pa_nil)) (blkOk_by (own := [("_law_one", 8)]) (N := N_law) (sc := defScope s_law) (by decide +kernel)) (fun _ _ _ _ _ => pg_name (i := 8) sc_law.nd rfl (by first | exact .inl rfl | exact .inr rfl)) (fun _ _ _ _ _ => pts_nil) (fun _ _ _ _ _ => (pe_lc (own := [("_law_other", 9)]) (g := gName 9) rfl sc_law.nd (pi_range1 (by rfl) Z.range (pa_cons (pv 3) pa_nil)) (blkOk_by (own := [("_law_other", 9)]) (N := N_law) (sc := relS (lcScope s_law 5) (defScope s_law)) (by decide +kernel)) (fun _ _ _ _ _ => pg_name (i := 9) sc_law.nd rfl (by first | exact .inl rfl | exact .inr rfl)) (fun _ _ _ _ _ => pts_nil) (fun _ _ _ _ _ => (pe_ifExp (pt_cmpR op_eq (pv 8) (pv 9) (nomark _)) pe_int (pv 5))))))
        (pss_cons (ps_setLc (i := 7) (own := [("_law_one", 8)]) (g := gName 8) rfl sc_law.nd rfl rfl (sw_true rfl rfl rfl (by decide +kernel)) (pi_range1 (by rfl) Z.range (pa_cons (pv 3) pa_nil)) (blkOk_by (own := [("_law_one", 8)]) (N := N_law) (sc := defScope s_law) (by decide +kernel)) (fun _ _ _ _ _ => pg_name (i := 8) sc_law.nd rfl (by first | exact .inl rfl | exact .inr rfl)) (fun _ _ _ _ _ => pts_nil) (fun _ _ _ _ _ => (pe_lc (own := [("_law_other", 9)]) (g := gName 9) rfl sc_law.nd (pi_range1 (by rfl) Z.range (pa_cons (pv 3) pa_nil)) (blkOk_by (own := [("_law_other", 9)]) (N := N_law) (sc := relS (lcScope s_law 6) (defScope s_law)) (by decide +kernel)) (fun _ _ _ _ _ => pg_name (i := 9) sc_law.nd rfl (by first | exact .inl rfl | exact .inr rfl)) (fun _ _ _ _ _ => pts_nil) (fun _ _ _ _ _ => (pe_ifExp (pt_cmpR op_eq (pv 8) (pv 9) (nomark _)) pe_int (pv 5))))))
        (pss_cons (ps_for PassesOwn.never rfl (piTup (K := K) (pe_op op_catA (pe_ix (ixT (K := K)) (pv 2) pe_int (fun _ _ => rfl)) (pe_callTy call_tuple_of (by rfl) Z.tuple (by decide +kernel) (pa_cons (pe_lc (own := [("_law_pair", 15)]) (g := gName 15) rfl sc_law.nd (piTup (K := K) (pe_ix (ixT (K := K)) (pv 2) pe_int (fun _ _ => rfl))) (blkOk_by (own := [("_law_pair", 15)]) (N := N_law) (sc := defScope s_law) (by decide +kernel)) (fun _ _ _ _ _ => pg_name (i := 15) sc_law.nd rfl (by first | exact .inl rfl | exact .inr rfl)) (fun _ _ _ _ _ => pts_nil) (fun _ _ _ _ _ => (peRevT (K := K) (pv 15)))) pa_nil)))) (pg_tup rfl (pgs_cons (pg_name (i := 8) sc_law.nd rfl (by first | exact .inl rfl | exact .inr rfl)) (pgs_cons (pg_name (i := 9) sc_law.nd rfl (by first | exact .inl rfl | exact .inr rfl)) pgs_nil))) (pss_cons (ps_asg (pe_callB (call_max2 rfl) (by rfl) Z.max (by decide +kernel) (pa_cons pe_int (pa_cons (pe_op op_sub (pe_ix (ixT (K := K)) (pv 4) (pv 9) (fun _ _ => rfl)) (pe_ix (ixT (K := K)) (pv 4) (pv 8) (fun _ _ => rfl))) pa_nil))) (pg_sub (pe_ix (ixL (K := K)) (pv 6) (pv 8) (fun _ _ => rfl)) (pv 9) set_list))
        (pss_one (ps_asg (pe_callB call_abs (by rfl) Z.abs (by decide +kernel) (pa_cons (pe_op op_sub (pe_ix (ixT (K := K)) (pv 4) (pv 9) (fun _ _ => rfl)) (pe_ix (ixT (K := K)) (pv 4) (pv 8) (fun _ _ => rfl))) pa_nil)) (pg_sub (pe_ix (ixL (K := K)) (pv 7) (pv 8) (fun _ _ => rfl)) (pv 9) set_list)))))
        (pss_cons (ps_for PassesOwn.never rfl (pi_range1 (by rfl) Z.range (pa_cons (pv 3) pa_nil)) (pg_name (i := 10) sc_law.nd rfl (by first | exact .inl rfl | exact .inr rfl)) (pss_one (ps_for PassesOwn.never rfl (pi_range1 (by rfl) Z.range (pa_cons (pv 3) pa_nil)) (pg_name (i := 8) sc_law.nd rfl (by first | exact .inl rfl | exact .inr rfl)) (pss_one (ps_for PassesOwn.never rfl (pi_range1 (by rfl) Z.range (pa_cons (pv 3) pa_nil)) (pg_name (i := 9) sc_law.nd rfl (by first | exact .inl rfl | exact .inr rfl)) (pss_cons (ps_asg (pe_callB (call_min2 rfl) (by rfl) Z.min (by decide +kernel) (pa_cons (pe_ix (ixL (K := K)) (pe_ix (ixL (K := K)) (pv 6) (pv 8) (fun _ _ => rfl)) (pv 9) (fun _ _ => rfl)) (pa_cons (pe_op op_add (pe_ix (ixL (K := K)) (pe_ix (ixL (K := K)) (pv 6) (pv 8) (fun _ _ => rfl)) (pv 10) (fun _ _ => rfl)) (pe_ix (ixL (K := K)) (pe_ix (ixL (K := K)) (pv 6) (pv 10) (fun _ _ => rfl)) (pv 9) (fun _ _ => rfl))) pa_nil))) (pg_sub (pe_ix (ixL (K := K)) (pv 6) (pv 8) (fun _ _ => rfl)) (pv 9) set_list))
        (pss_one (ps_asg (pe_callB (call_min2 rfl) (by rfl) Z.min (by decide +kernel) (pa_cons (pe_ix (ixL (K := K)) (pe_ix (ixL (K := K)) (pv 7) (pv 8) (fun _ _ => rfl)) (pv 9) (fun _ _ => rfl)) (pa_cons (pe_callB (call_max2 rfl) (by rfl) Z.max (by decide +kernel) (pa_cons (pe_ix (ixL (K := K)) (pe_ix (ixL (K := K)) (pv 7) (pv 8) (fun _ _ => rfl)) (pv 10) (fun _ _ => rfl)) (pa_cons (pe_ix (ixL (K := K)) (pe_ix (ixL (K := K)) (pv 7) (pv 10) (fun _ _ => rfl)) (pv 9) (fun _ _ => rfl)) pa_nil))) pa_nil))) (pg_sub (pe_ix (ixL (K := K)) (pv 7) (pv 8) (fun _ _ => rfl)) (pv 9) set_list)))))))))
        (pss_cons (ps_set (i := 11) sc_law.nd rfl (by first | exact .inl rfl | exact .inr rfl) (pe_cal C_law_crossings hr pass0 (pa_cons (pv 2) (pa_cons (pe_cal C_law_down hr pass0 (pa_cons (pv 4) pa_nil)) pa_nil))))
        (pss_cons (ps_par (i := 8) (j := 9) rfl sc_law.nd rfl rfl (by decide) rfl rfl (pa_cons (pe_cal C_law_taken hr pass0 (pa_cons (pv 1) (pa_cons (pv 3) pa_nil))) (pa_cons (pe_cal C_law_taken hr pass0 (pa_cons (pv 1) (pa_cons (pv 3) pa_nil))) pa_nil)) (by rfl))
        (pss_cons (ps_set (i := 12) sc_law.nd rfl (by first | exact .inl rfl | exact .inr rfl) (pe_lst pa_nil))
        (pss_cons (ps_for PassesOwn.never rfl (piList (K := K) (pe_lst (pa_cons (pe_glob (v := .ref f_least_climb) (by rfl) g_least_climb rfl) (pa_cons (pe_glob (v := .ref f_least_rise) (by rfl) g_least_rise rfl) (pa_cons (pe_glob (v := .ref f_least_step) (by rfl) g_least_step rfl) (pa_cons (pe_glob (v := .ref f_rising) (by rfl) g_rising rfl) pa_nil)))))) (pg_name (i := 13) sc_law.nd rfl (by first | exact .inl rfl | exact .inr rfl)) (pss_one (ps_tryO (tb := fun W => tDrop (tBM K "list" rAppend (tVar 12) (tCons (tCallLR 13 (four CN f_least_climb f_least_rise f_least_step f_rising) (WE W) (tCons (tVar 2) (tCons (tVar 4) (tCons (tVar 8) (tCons (tVar 9) tNil))))) tNil))) (ts := fun _ _ _ => tDrop (tBM K "list" rAppend (tVar 12) (tCons (tC (.str "none")) tNil))) (Wout := fun _ _ _ _ => False) rfl rfl ⟨rfl, by decide, Or.inl TX.g⟩ takes0
          (fun W pn xe tk _ => pss_one (by exact (ps_expr (pe_bm PySem.F.plainAttrs_list PySem.F.slot_list_append PySem.F.type_list_append mt_append (pv 12) (pa_cons (pe_callLR (i := 13) (S := four CN f_least_climb f_least_rise f_least_step f_rising) A4 hr rfl (.inl rfl) (fun σ => passAt tk σ) (by exact (pa_cons (pv 2) (pa_cons (pv 4) (pa_cons (pv 8) (pa_cons (pv 9) pa_nil)))))) pa_nil)))))
          (fun a oe cls d pn hz hf => pss_one (by exact (ps_expr (pe_bm PySem.F.plainAttrs_list PySem.F.slot_list_append PySem.F.type_list_append mt_append (pv 12) (pa_cons pe_str pa_nil))))))))
        (pss_cons (ps_if (pt_cmpR op_ge (pe_ix (ixL (K := K)) (pe_ix (ixL (K := K)) (pv 6) (pv 8) (fun _ _ => rfl)) (pv 9) (fun _ _ => rfl)) (pv 5) (nomark _)) (pss_one (ps_ret (pe_cmpR (op_eqD hr.units) (pv 12) (pe_op op_rep (pe_lst (pa_cons pe_str pa_nil)) pe_int) (nomark _)))) pss_nil)
        (pss_cons (ps_set (i := 14) sc_law.nd rfl (by first | exact .inl rfl | exact .inr rfl) (pe_lst (pa_cons (pe_ix (ixL (K := K)) (pe_ix (ixL (K := K)) (pv 6) (pv 8) (fun _ _ => rfl)) (pv 9) (fun _ _ => rfl)) (pa_cons (pe_op op_sub (pe_op op_sub pe_int (pe_ix (ixL (K := K)) (pe_ix (ixL (K := K)) (pv 11) (pv 8) (fun _ _ => rfl)) (pv 9) (fun _ _ => rfl))) (pe_ix (ixT (K := K)) (pv 4) (pv 8) (fun _ _ => rfl))) (pa_cons (pe_ix (ixL (K := K)) (pe_ix (ixL (K := K)) (pv 7) (pv 8) (fun _ _ => rfl)) (pv 9) (fun _ _ => rfl)) pa_nil)))))
        (pss_one (ps_ret (pe_cal C_law_alike hr pass0 (pa_cons (pv 12) (pa_cons (pe_op op_cat (pv 14) (pe_lst (pa_cons (pe_cmpR op_eq (pe_ix (ixL (K := K)) (pe_ix (ixL (K := K)) (pv 6) (pv 8) (fun _ _ => rfl)) (pv 9) (fun _ _ => rfl)) (pe_op op_sub (pe_ix (ixT (K := K)) (pv 4) (pv 9) (fun _ _ => rfl)) (pe_ix (ixT (K := K)) (pv 4) (pv 8) (fun _ _ => rfl))) (nomark _)) pa_nil))) pa_nil)))))))))))))))))))), ?_⟩
    -- row = [script, 0, 7826, 0]
    refine ⟨_, rfl, small16 (by show 4 ≤ 1000; decide), fun l nl => ?_⟩
    have S1 : ScrAt K (upd H l (.lst [.ref a, .int 0, .int 7826, .int 0])) l a ns := (ScrAt.make hS0 nl).keep (Keep.new nl)
    have r1 : RowOk (upd H l (.lst [.ref a, .int 0, .int 7826, .int 0])) l a := ⟨0, 7826, 0, upd_same, by decide, by decide, by decide⟩
    show tSeq _ _ _ [some (.ref a), some (.ref l), none, none, none, none, none, none, none, none, none, none, none, none, none, none] (upd H l (.lst [.ref a, .int 0, .int 7826, .int 0]))
    generalize upd H l (.lst [.ref a, .int 0, .int 7826, .int 0]) = H1 at S1 r1
    -- net_here, many
    refine ⟨_, rfl, l, a, ns, rfl, S1, r1, fun H2 p n es k2 r2 hN g => ?_⟩
    have S2 := S1.keep k2
    have n1 := g.pos
    have n9 := g.le
    obtain ⟨q, as0, hp, hq, hql, hqa⟩ := id hN
    refine ⟨_, rfl, p, _, 0, pt n, rfl, rfl, SqT.of hp, atI_nat (j := 0) rfl, ?_⟩
    -- heights_here
    refine ⟨_, rfl, _, rfl, _, rfl, small16 (by show 3 ≤ 1000; decide), fun ql nql => ?_⟩
    have hqln := r2.ne nql
    refine ⟨l, a, ql, ns, _, rfl, S2.keep (Keep.new nql), r2.over hqln, hqln, upd_same, by show 1 ≤ 3; decide, by show 3 ≤ 1000; decide, fun H3 x k3 r3 hx => ?_⟩
    have hx : ∃ top : Nat, x = pt top ∧ top ≤ 99 := by
      have e : x = .int 3 ∨ x = .int 9 ∨ x = .int 99 := by simpa using hx
      rcases e with rfl | rfl | rfl
      · exact ⟨3, rfl, by decide⟩
      · exact ⟨9, rfl, by decide⟩
      · exact ⟨99, rfl, by decide⟩
    obtain ⟨top, rfl, htop⟩ := hx
    have k3 : Keep l H2 H3 := (Keep.new nql).trans k3
    refine ⟨l, a, ns, n, top, rfl, S2.keep k3, r3, n9, htop, fun H4 r hs k4 r4 hR gR => ?_⟩
    have k4 : Keep l H2 H4 := k3.trans k4
    have S4 := S2.keep k4
    obtain ⟨lx2, hl2⟩ := r2.lst
    have hN : NetAt H4 p n es := hN.keep k4 hl2
    obtain ⟨q, as0, hp, hq, hql, hqa⟩ := id hN
    have gl := gR.1
    have AC := alg_climb (J := J es) (h := ht hs) g.J_lt gR.bd
    have AS := alg_step (J := J es) (h := ht hs) g.J_lt gR.bd
    have AR := alg_rise (J := J es) (h := ht hs) g.J_lt gR.bd
    show tSeq _ _ _ [some (.ref a), some (.ref l), some (.ref p), some (pt n), some (.ref r), none, none, none, none, none, none, none, none, none, none, none] H4
    refine ⟨_, rfl, n, rfl, by omega, by omega, fun c1 nc1 => ?_⟩
    refine lc_it walk_rng (fun i H' => Same H4 H' ∧ ∃ as, TabR H' c1 as i n V.int (ini zero (climbW (ht hs)) []) ∧ ∀ a ∈ as, H4 a = none) ⟨same_new nc1, [], ⟨upd_same, rfl, List.nodup_nil, by simp, by simp⟩, by simp⟩ (fun _ _ _ _ => trivial) ?_ ?_
    · rintro i x H1 H2 hi ⟨s1, as, T1, fr⟩ ⟨rfl, rfl⟩
      have hin : i < n := hi
      refine ⟨rfl, _, rfl, n, rfl, by omega, by omega, fun B nB => ?_⟩
      refine lc_it walk_rng (fun j H' => Same H2 H' ∧ H' B = some (.lst ((List.range j).map fun q => V.int (ini zero (climbW (ht hs)) [] i q)))) ⟨same_new nB, upd_same⟩ (fun _ _ _ _ => trivial) ?_ ?_
      · rintro j x H3 H4 hj ⟨s3, b3⟩ ⟨rfl, rfl⟩
        have hjn : j < n := hj
        have sz : ((List.range j).map fun q => V.int (ini zero (climbW (ht hs)) [] i q)).length < sizeLine := by rw [List.length_map, List.length_range]; exact small1000 (by omega)
        refine ⟨rfl, _, rfl, _, rfl, rfl, _, rfl, ite2 (fun e => ?_) (fun e => ?_)⟩
        · have e : i = j := by
            have := of_decide_eq_true e
            have : (i : Int) = j := V.int.inj this
            omega
          subst e
          refine ⟨_, b3, sz, same_over s3 nB, ?_⟩
          have ee : V.int (ini zero (climbW (ht hs)) [] i i) = .int 0 := by
            unfold ini
            rw [if_neg (by simp), if_pos rfl]
            rfl
          rw [upd_same, List.range_succ, List.map_append, ← ee]
          rfl
        · have e : i ≠ j := fun z => e (decide_eq_true (by rw [z]))
          refine ⟨_, rfl, _, b3, sz, same_over s3 nB, ?_⟩
          have ee : V.int (ini zero (climbW (ht hs)) [] i j) = .int 9999 := by
            unfold ini
            rw [if_neg (by simp), if_neg e]
          rw [upd_same, List.range_succ, List.map_append, ← ee]
          rfl
      · rintro H3 ⟨s3, b3⟩
        obtain ⟨f1, f2⟩ := T1.new nB
        have T3 := (T1.same s3).snoc f1 f2 b3
        refine ⟨_, T1.1 |> s3 _ _, by rw [List.length_map, T1.2.1]; exact small1000 (by omega), same_over (s1.trans s3) nc1, as ++ [B], T3, fun a ha => ?_⟩
        rcases List.mem_append.mp ha with h | h
        · exact fr a h
        · rw [List.mem_singleton.mp h]
          exact s1.free nB
    rintro H5 ⟨s5, as1, T5, fr1⟩
    have T5 : TabAt H5 c1 as1 n V.int (ini zero (climbW (ht hs)) []) := T5
    refine ⟨_, rfl, n, rfl, by omega, by omega, fun c2 nc2 => ?_⟩
    refine lc_it walk_rng (fun i H' => Same H5 H' ∧ ∃ as, TabR H' c2 as i n V.int (ini zero (stepW (ht hs)) []) ∧ ∀ a ∈ as, H5 a = none) ⟨same_new nc2, [], ⟨upd_same, rfl, List.nodup_nil, by simp, by simp⟩, by simp⟩ (fun _ _ _ _ => trivial) ?_ ?_
    · rintro i x H1 H2 hi ⟨s1, as, T1, fr⟩ ⟨rfl, rfl⟩
      have hin : i < n := hi
      refine ⟨rfl, _, rfl, n, rfl, by omega, by omega, fun B nB => ?_⟩
      refine lc_it walk_rng (fun j H' => Same H2 H' ∧ H' B = some (.lst ((List.range j).map fun q => V.int (ini zero (stepW (ht hs)) [] i q)))) ⟨same_new nB, upd_same⟩ (fun _ _ _ _ => trivial) ?_ ?_
      · rintro j x H3 H4 hj ⟨s3, b3⟩ ⟨rfl, rfl⟩
        have hjn : j < n := hj
        have sz : ((List.range j).map fun q => V.int (ini zero (stepW (ht hs)) [] i q)).length < sizeLine := by rw [List.length_map, List.length_range]; exact small1000 (by omega)
        refine ⟨rfl, _, rfl, _, rfl, rfl, _, rfl, ite2 (fun e => ?_) (fun e => ?_)⟩
        · have e : i = j := by
            have := of_decide_eq_true e
            have : (i : Int) = j := V.int.inj this
            omega
          subst e
          refine ⟨_, b3, sz, same_over s3 nB, ?_⟩
          have ee : V.int (ini zero (stepW (ht hs)) [] i i) = .int 0 := by
            unfold ini
            rw [if_neg (by simp), if_pos rfl]
            rfl
          rw [upd_same, List.range_succ, List.map_append, ← ee]
          rfl
        · have e : i ≠ j := fun z => e (decide_eq_true (by rw [z]))
          refine ⟨_, rfl, _, b3, sz, same_over s3 nB, ?_⟩
          have ee : V.int (ini zero (stepW (ht hs)) [] i j) = .int 9999 := by
            unfold ini
            rw [if_neg (by simp), if_neg e]
          rw [upd_same, List.range_succ, List.map_append, ← ee]
          rfl
      · rintro H3 ⟨s3, b3⟩
        obtain ⟨f1, f2⟩ := T1.new nB
        have T3 := (T1.same s3).snoc f1 f2 b3
        refine ⟨_, T1.1 |> s3 _ _, by rw [List.length_map, T1.2.1]; exact small1000 (by omega), same_over (s1.trans s3) nc2, as ++ [B], T3, fun a ha => ?_⟩
        rcases List.mem_append.mp ha with h | h
        · exact fr a h
        · rw [List.mem_singleton.mp h]
          exact s1.free nB
    rintro H6 ⟨s6, as2, U6, fr2⟩
    have U6 : TabAt H6 c2 as2 n V.int (ini zero (stepW (ht hs)) []) := U6
    have T6 := T5.same s6
    have dis2 : ∀ b ∈ as2, b ≠ c1 ∧ b ∉ as1 := fun b hb => T5.r.new (fr2 b hb)
    have dis1 : ∀ b ∈ as1, b ≠ c2 ∧ b ∉ as2 := fun b hb => ⟨fun z => (T5.r.new nc2).2 (z ▸ hb), fun z => (dis2 b z).2 hb⟩
    have s6 := s5.trans s6
    have over1 : ∀ {H' : Hp} {a : Addr} {o : HO}, Same H4 H' → a ∈ as1 → Same H4 (upd H' a o) := fun s ha => same_over s (fr1 _ ha)
    have over2 : ∀ {H' : Hp} {a : Addr} {o : HO}, Same H4 H' → a ∈ as2 → Same H4 (upd H' a o) := fun s ha => same_over s (s5.free (fr2 _ ha))
    dsimp only [gName]
    show tSeq (tFor _ _ _) _ _ [some (.ref a), some (.ref l), some (.ref p), some (pt n), some (.ref r), some (.int 9999), some (.ref c1), some (.ref c2), none, none, none, none, none, none, none, none] H6
    -- for one, other in net_here[1] + tuple(..)
    have hp6 := s6 _ _ hp
    have hq6 := s6 _ _ hq
    refine for_tup (C := fun v H' => Same H6 H' ∧ ∃ (tp : Addr) (cs : List Addr), v = .ref tp ∧ H' tp = some (.tup (cs.map V.ref)) ∧ cs.length = (es ++ es.map fun e => (e.2, e.1)).length ∧ ∀ (i : Nat) (c : Addr) (e : Nat × Nat), cs[i]? = some c → (es ++ es.map fun e => (e.2, e.1))[i]? = some e → H' c = some (.tup [pt e.1, pt e.2])) ?_ ?_
    · rintro v H7 ⟨s7, tp, cs, rfl, htp, lcs, hcs⟩
      refine ⟨tp, rfl, ⟨_, SqT.of htp⟩, ?_⟩
      have s47 := s6.trans s7
      have T7 := T6.same s7
      have U7 := U6.same s7
      have tup7 : ∀ {H' : Hp} {b : Addr} {xs : List V}, Off as1 as2 H7 H' → H7 b = some (.tup xs) → H' b = some (.tup xs) := fun o h => o _ _ (T7.not h) (U7.not h) h
      have R7 : H7 r = some (.tup (hs.map V.int)) := s47 _ _ hR
      have hqs : ∀ i j, (i, j) ∈ (es ++ es.map fun e => (e.2, e.1)) ↔ J es i j := fun i j => by
        rw [List.mem_append, List.mem_map]
        constructor
        · rintro (h | ⟨e, h, z⟩)
          · exact .inl h
          · have := Prod.mk.inj z
            exact .inr (by rw [← this.1, ← this.2]; exact h)
        · rintro (h | h)
          · exact .inl h
          · exact .inr ⟨_, h, rfl⟩
      generalize (es ++ es.map fun e => (e.2, e.1)) = qs at lcs hcs hqs
      refine for_it (walk_tup (xs := cs.map V.ref)) (fun k σ H' => ∃ y8 y9, σ = [some (.ref a), some (.ref l), some (.ref p), some (pt n), some (.ref r), some (.int 9999), some (.ref c1), some (.ref c2), y8, y9, none, none, none, none, none, none] ∧ Off as1 as2 H7 H' ∧ TabAt H' c1 as1 n V.int (ini zero (climbW (ht hs)) (qs.take k)) ∧ TabAt H' c2 as2 n V.int (ini zero (stepW (ht hs)) (qs.take k)))
        ⟨none, none, rfl, Off.refl _ _ _, T7, U7⟩ (fun k σ H' _ ⟨_, _, _, o, _⟩ => SqT.of (tup7 o htp)) ?_ ?_
      · rintro k x σ H8 H9 hk ⟨y8, y9, rfl, o9, T9, U9⟩ ⟨rfl, hx⟩
        obtain ⟨ea, hea, rfl⟩ := refs_get hx
        obtain ⟨⟨i, j⟩, he⟩ := get_some (l := qs) (i := k) (by rw [← lcs]; exact get_lt hea)
        have hE := tup7 o9 (hcs k ea _ hea he)
        have lt := g.J_lt i j ((hqs i j).mp (List.mem_of_getElem? he))
        obtain ⟨hi, hj, _⟩ := lt
        have R9 := tup7 o9 R7
        obtain ⟨a1, ha1, ra1, Ha1, am1, _⟩ := T9.row hi
        obtain ⟨a2, ha2, ra2, Ha2, am2, _⟩ := U9.row hi
        refine ⟨ea, _, rfl, SqT.of hE, rfl, _, _, rfl, _, _, rfl, rfl, ?_⟩
        refine ⟨_, rfl, _, rfl, r, _, j, .int (ht hs j), rfl, rfl, SqT.of R9, atI_nat (ints_at (ht_at (by omega))), _, rfl, _, rfl, r, _, i, .int (ht hs i), rfl, rfl, SqT.of R9, atI_nat (ints_at (ht_at (by omega))), _, _, rfl, rfl, _, _, rfl, ?_⟩
        refine ⟨_, rfl, _, rfl, c1, _, i, .ref a1, rfl, rfl, SqL.of T9.1, atI_nat ra1, _, rfl, a1, _, j, j, rfl, rfl, Ha1, ix_nat (by rw [trow_len]; exact hj), ?_⟩
        dsimp only
        rw [max_if]
        have T10 := T9.put (j := j) ha1 (climbW (ht hs) i j)
        rw [ini_put, ← take_snoc he] at T10
        have U10 := U9.off (b := a1) (o := .lst ((trow n V.int (ini zero (climbW (ht hs)) (qs.take k)) i).set j (.int (climbW (ht hs) i j)))) (dis1 a1 am1).1 (dis1 a1 am1).2
        have o10 := o9.one (o := .lst ((trow n V.int (ini zero (climbW (ht hs)) (qs.take k)) i).set j (.int (climbW (ht hs) i j)))) am1
        have Ha2' : upd H9 a1 (.lst ((trow n V.int (ini zero (climbW (ht hs)) (qs.take k)) i).set j (.int (climbW (ht hs) i j)))) a2 = some (.lst (trow n V.int (ini zero (stepW (ht hs)) (qs.take k)) i)) := by
          rw [upd_ne (fun z : a2 = a1 => (dis2 a2 am2).2 (by rw [z]; exact am1))]
          exact Ha2
        have R10 := tup7 o10 R7
        refine ⟨_, rfl, _, rfl, r, _, j, .int (ht hs j), rfl, rfl, SqT.of R10, atI_nat (ints_at (ht_at (by omega))), _, rfl, _, rfl, r, _, i, .int (ht hs i), rfl, rfl, SqT.of R10, atI_nat (ints_at (ht_at (by omega))), _, _, rfl, rfl, _, rfl, ?_⟩
        refine ⟨_, rfl, _, rfl, c2, _, i, .ref a2, rfl, rfl, SqL.of U10.1, atI_nat ra2, _, rfl, a2, _, j, j, rfl, rfl, Ha2', ix_nat (by rw [trow_len]; exact hj), ?_⟩
        dsimp only
        rw [abs_if]
        have U11 := U10.put (j := j) ha2 (stepW (ht hs) i j)
        rw [ini_put, ← take_snoc he] at U11
        exact ⟨_, _, rfl, o10.two am2, T10.off (fun z => (dis2 a2 am2).1 z) (dis2 a2 am2).2, U11⟩
      · rintro σ H8 ⟨y8, y9, rfl, o8, T8, U8⟩
        have eqs : qs.take (cs.map V.ref).length = qs := by rw [List.length_map, lcs, List.take_length]
        rw [eqs] at T8 U8
        have I8 := ini_tab AC (by decide) hqs
        have M8 := ini_tab AS (by decide) hqs
        generalize ini zero (climbW (ht hs)) qs = T at T8 I8
        generalize ini zero (stepW (ht hs)) qs = U at U8 M8
        clear eqs
        -- for mid, one, other in range(many)
        refine ⟨_, rfl, n, rfl, by omega, by omega, ?_⟩
        refine for_it walk_rng (fun m σ H' => ∃ T U y8 y9 y10, σ = [some (.ref a), some (.ref l), some (.ref p), some (pt n), some (.ref r), some (.int 9999), some (.ref c1), some (.ref c2), y8, y9, y10, none, none, none, none, none] ∧ Off as1 as2 H7 H' ∧ TabAt H' c1 as1 n V.int T ∧ TabAt H' c2 as2 n V.int U ∧ Tab n (J es) (· + ·) zero (climbW (ht hs)) 0 9999 m 0 0 T ∧ Tab n (J es) max zero (stepW (ht hs)) 0 9999 m 0 0 U)
          ⟨T, U, y8, y9, none, rfl, o8, T8, U8, I8, M8⟩ (fun _ _ _ _ _ => trivial) ?_ ?_
        · rintro m x σ H9 H10 hm ⟨T, U, y8, y9, y10, rfl, o10, T10, U10, I10, M10⟩ ⟨rfl, rfl⟩
          have hm : m < n := hm
          refine ⟨_, rfl, n, rfl, by omega, by omega, ?_⟩
          refine for_it walk_rng (fun i σ H' => ∃ T U y8 y9, σ = [some (.ref a), some (.ref l), some (.ref p), some (pt n), some (.ref r), some (.int 9999), some (.ref c1), some (.ref c2), y8, y9, some (pt m), none, none, none, none, none] ∧ Off as1 as2 H7 H' ∧ TabAt H' c1 as1 n V.int T ∧ TabAt H' c2 as2 n V.int U ∧ Tab n (J es) (· + ·) zero (climbW (ht hs)) 0 9999 m i 0 T ∧ Tab n (J es) max zero (stepW (ht hs)) 0 9999 m i 0 U)
            ⟨T, U, y8, y9, rfl, o10, T10, U10, I10, M10⟩ (fun _ _ _ _ _ => trivial) ?_ ?_
          · rintro i x σ H11 H12 hi ⟨T, U, y8, y9, rfl, o12, T12, U12, I12, M12⟩ ⟨rfl, rfl⟩
            have hi : i < n := hi
            refine ⟨_, rfl, n, rfl, by omega, by omega, ?_⟩
            refine for_it walk_rng (fun j σ H' => ∃ T U y9, σ = [some (.ref a), some (.ref l), some (.ref p), some (pt n), some (.ref r), some (.int 9999), some (.ref c1), some (.ref c2), some (pt i), y9, some (pt m), none, none, none, none, none] ∧ Off as1 as2 H7 H' ∧ TabAt H' c1 as1 n V.int T ∧ TabAt H' c2 as2 n V.int U ∧ Tab n (J es) (· + ·) zero (climbW (ht hs)) 0 9999 m i j T ∧ Tab n (J es) max zero (stepW (ht hs)) 0 9999 m i j U)
              ⟨T, U, y9, rfl, o12, T12, U12, I12, M12⟩ (fun _ _ _ _ _ => trivial) ?_ ?_
            · rintro j x σ H13 H14 hj ⟨T, U, y9, rfl, o14, T14, U14, I14, M14⟩ ⟨rfl, rfl⟩
              have hj : j < n := hj
              obtain ⟨a1, ha1, ra1, Ha1, am1, _⟩ := T14.row hi
              obtain ⟨b1, hb1, rb1, Hb1, bm1, _⟩ := T14.row hm
              refine ⟨_, rfl, _, rfl, c1, _, i, .ref a1, rfl, rfl, SqL.of T14.1, atI_nat ra1, _, rfl, a1, _, j, _, rfl, rfl, SqL.of Ha1, atI_nat (trow_at hj), _, rfl, _, rfl, c1, _, i, .ref a1, rfl, rfl, SqL.of T14.1, atI_nat ra1, _, rfl, a1, _, m, _, rfl, rfl, SqL.of Ha1, atI_nat (trow_at hm), _, rfl, _, rfl, c1, _, m, .ref b1, rfl, rfl, SqL.of T14.1, atI_nat rb1, _, rfl, b1, _, j, _, rfl, rfl, SqL.of Hb1, atI_nat (trow_at hj), _, _, rfl, rfl, _, _, rfl, ?_⟩
              refine ⟨_, rfl, _, rfl, c1, _, i, .ref a1, rfl, rfl, SqL.of T14.1, atI_nat ra1, _, rfl, a1, _, j, j, rfl, rfl, Ha1, ix_nat (by rw [trow_len]; exact hj), ?_⟩
              dsimp only
              rw [min_if]
              have T15 := T14.put (j := j) ha1 (min (T i j) (T i m + T m j))
              have U15 := U14.off (b := a1) (o := .lst ((trow n V.int T i).set j (.int (min (T i j) (T i m + T m j))))) (dis1 a1 am1).1 (dis1 a1 am1).2
              have o15 := o14.one (o := .lst ((trow n V.int T i).set j (.int (min (T i j) (T i m + T m j))))) am1
              generalize upd H14 a1 (.lst ((trow n V.int T i).set j (.int (min (T i j) (T i m + T m j))))) = H15 at T15 U15 o15
              obtain ⟨a2, ha2, ra2, Ha2, am2, _⟩ := U15.row hi
              obtain ⟨b2, hb2, rb2, Hb2, bm2, _⟩ := U15.row hm
              refine ⟨_, rfl, _, rfl, c2, _, i, .ref a2, rfl, rfl, SqL.of U15.1, atI_nat ra2, _, rfl, a2, _, j, _, rfl, rfl, SqL.of Ha2, atI_nat (trow_at hj), _, rfl, _, rfl, c2, _, i, .ref a2, rfl, rfl, SqL.of U15.1, atI_nat ra2, _, rfl, a2, _, m, _, rfl, rfl, SqL.of Ha2, atI_nat (trow_at hm), _, rfl, _, rfl, c2, _, m, .ref b2, rfl, rfl, SqL.of U15.1, atI_nat rb2, _, rfl, b2, _, j, _, rfl, rfl, SqL.of Hb2, atI_nat (trow_at hj), _, _, rfl, _, _, rfl, ?_⟩
              refine ⟨_, rfl, _, rfl, c2, _, i, .ref a2, rfl, rfl, SqL.of U15.1, atI_nat ra2, _, rfl, a2, _, j, j, rfl, rfl, Ha2, ix_nat (by rw [trow_len]; exact hj), ?_⟩
              dsimp only
              rw [max_if2, min_if]
              have U16 := U15.put (j := j) ha2 (min (U i j) (max (U i m) (U m j)))
              exact ⟨_, _, _, rfl, o15.two am2, T15.off (fun z => (dis2 a2 am2).1 z) (dis2 a2 am2).2, U16, I14.relax AC hm hi hj, M14.relax AS hm hi hj⟩
            · rintro σ H13 ⟨T, U, y9, rfl, o14, T14, U14, I14, M14⟩
              exact ⟨T, U, _, _, rfl, o14, T14, U14, Tab.row I14, Tab.row M14⟩
          · rintro σ H11 ⟨T, U, y8, y9, rfl, o12, T12, U12, I12, M12⟩
            exact ⟨T, U, _, _, _, rfl, o12, T12, U12, Tab.next I12, Tab.next M12⟩
        · rintro σ H9 ⟨T, U, y8, y9, y10, rfl, o9, T9, U9, I9, M9⟩
          clear I8 M8 T8 U8 o8
          have s49 : Same H4 H9 := fun b o e => o9 b o (fun z => by rw [fr1 b z] at e; cases e) (fun z => by rw [s5.free (fr2 b z)] at e; cases e) (s47 b o e)
          -- down_here
          refine ⟨_, rfl, _, rfl, r, hs, rfl, hR.same s49, by omega, fun H10 dn s10 hdn => ?_⟩
          have s410 := s49.trans s10
          refine ⟨p, dn, n, es, hs, rfl, hN.same s410, g, hdn, gR, fun H11 c3 as3 W s11 X11 R11 => ?_⟩
          have s411 := s410.trans s11
          have S11 := S4.keep (Keep.of_same s411)
          have r11 : RowOk H11 l a := by
            obtain ⟨i, x, y, e1, e2⟩ := r4
            exact ⟨i, x, y, s411 _ _ e1, e2⟩
          -- one, other
          refine ⟨_, rfl, _, rfl, l, a, ns, n, rfl, n1, by omega, S11, r11, fun H12 o k12 r12 ho => ?_⟩
          refine ⟨_, rfl, _, rfl, l, a, ns, n, rfl, n1, by omega, S11.keep k12, r12, fun H13 u k13 r13 hu => ⟨_, _, rfl, ?_⟩⟩
          have k13 := k12.trans k13
          obtain ⟨lx, hl11⟩ := r11.lst
          have N13 := (hN.same s411).keep k13 hl11
          have R13 := (hR.same s411).keep k13 hl11
          have ei : ∀ t a, V.int t ≠ .ref a := fun t a z => nomatch z
          have en : ∀ t a, encN t ≠ .ref a := fun t a z => by
            unfold encN at z
            split at z <;> cases z
          have T13 := TabAt_keep ((T9.same s10).same s11) k13 r11 n1 ei
          have U13 := TabAt_keep ((U9.same s10).same s11) k13 r11 n1 ei
          have X13 := TabAt_keep X11 k13 r11 n1 en
          -- found = []
          refine ⟨Nat.zero_le _, fun fd nfd => ?_⟩
          have s14 : Same H13 (upd H13 fd (.lst [])) := same_new nfd
          have f14 : upd H13 fd (.lst []) fd = some (.lst []) := upd_same
          dsimp only [gName]
          show tSeq (tFor _ _ _) _ _ [some (.ref a), some (.ref l), some (.ref p), some (pt n), some (.ref r), some (.int 9999), some (.ref c1), some (.ref c2), some (pt o), some (pt u), y10, some (.ref c3), some (.ref fd), none, none, none] (upd H13 fd (.lst []))
          generalize upd H13 fd (.lst []) = H14 at s14 f14
          refine ⟨small16 (by show 4 ≤ 1000; decide), fun wl nwl => ⟨wl, rfl, ⟨_, SqL.of upd_same⟩, ?_⟩⟩
          have nwf : fd ≠ wl := ne_of_none f14 nwl
          refine for_it (walk_list (xs := [.ref f_least_climb, .ref f_least_rise, .ref f_least_step, .ref f_rising])) (fun k σ H' => ∃ y13 vs, σ = [some (.ref a), some (.ref l), some (.ref p), some (pt n), some (.ref r), some (.int 9999), some (.ref c1), some (.ref c2), some (pt o), some (pt u), y10, some (.ref c3), some (.ref fd), y13, none, none] ∧ Same H13 H' ∧ H' fd = some (.lst vs) ∧ vs.length = k ∧ H' wl = some (.lst [.ref f_least_climb, .ref f_least_rise, .ref f_least_step, .ref f_rising]) ∧ ∀ i v, vs[i]? = some v → Res n es hs o u i v)
            ⟨none, [], rfl, s14.trans (same_new nwl), by rw [upd_ne nwf]; exact f14, rfl, upd_same, by simp⟩ (fun k σ H' _ ⟨_, _, _, _, _, _, hw, _⟩ => SqL.of hw) ?_ ?_
          · rintro k x σ H15 H16 hk ⟨y13, vs, rfl, s16, f16, lvs, w16, hv⟩ ⟨rfl, hx⟩
            have hk4 : k < 4 := hk
            obtain ⟨f1, rfl, hf4⟩ := four_at (CN := CN) k hk4 x hx
            have f17 : ∀ {H17 : Hp}, Same H16 H17 → H17 fd = some (.lst vs) := fun s => s _ _ f16
            have nxt : ∀ (H17 : Hp) (v : V), Same H16 H17 → Res n es hs o u k v → Same H13 (upd H17 fd (.lst (vs ++ [v]))) ∧ upd H17 fd (.lst (vs ++ [v])) fd = some (.lst (vs ++ [v])) ∧ (vs ++ [v]).length = k + 1 ∧ upd H17 fd (.lst (vs ++ [v])) wl = some (.lst [.ref f_least_climb, .ref f_least_rise, .ref f_least_step, .ref f_rising]) ∧ ∀ i w, (vs ++ [v])[i]? = some w → Res n es hs o u i w :=
              fun H17 v s17 hr => ⟨same_over (s16.trans s17) nfd, upd_same, by rw [List.length_append, lvs]; rfl, by rw [upd_ne nwf.symm]; exact s17 _ _ w16, res_snoc lvs hv hr⟩
            refine ⟨_, rfl, .inl ⟨rfl, _, SqL.of f16⟩, f1, _, rfl, hf4, _, rfl, _, rfl, _, rfl, _, rfl, p, r, n, es, hs, o, u, rfl, N13.same s16, g, R13.same s16, gR, ho, hu, fun nj H17 s17 => ?_, fun H17 v s17 jm hr => ?_⟩
            · refine ⟨true, TX.e, fun _ a0 _ => ?_, fun z => nomatch z⟩
              refine ⟨_, rfl, .inl ⟨rfl, _, SqL.of (f17 s17)⟩, fd, _, _, rfl, rfl, f17 s17, by rw [lvs]; exact small1000 (by omega), ?_⟩
              exact ⟨_, _, rfl, nxt H17 _ s17 (.inl ⟨nj, rfl⟩)⟩
            · refine ⟨fd, _, _, rfl, rfl, f17 s17, by rw [lvs]; exact small1000 (by omega), ?_⟩
              exact ⟨_, _, rfl, nxt H17 _ s17 (.inr ⟨jm, hr⟩)⟩
          · rintro σ H15 ⟨y13, vs, rfl, s15, f15, lvs, w15, hv⟩
            have lvs : vs.length = 4 := lvs
            have T15 := T13.same s15
            have U15 := U13.same s15
            have X15 := X13.same s15
            have R15 : H15 r = some (.tup (hs.map V.int)) := s15 _ _ R13
            obtain ⟨a1, ha1, ra1, Ha1, am1, _⟩ := T15.row ho
            obtain ⟨a2, ha2, ra2, Ha2, am2, _⟩ := U15.row ho
            obtain ⟨a3, ha3, ra3, Ha3, am3, _⟩ := X15.row ho
            refine ⟨_, rfl, _, rfl, c1, _, o, .ref a1, rfl, rfl, SqL.of T15.1, atI_nat ra1, _, rfl, a1, _, u, _, rfl, rfl, SqL.of Ha1, atI_nat (trow_at hu), _, rfl, _, _, rfl, rfl, _, rfl, ite2 (fun e => ?_) (fun e => ?_)⟩
            · have hge : 9999 ≤ T o u := of_decide_eq_true e
              have evs := fin_none g gR I9 ho hu hge lvs hv
              subst evs
              refine ⟨_, rfl, small16 (by show 1 ≤ 1000; decide), fun z nz => ⟨z, 4, _, rfl, rfl, upd_same, by decide, by decide, small16 (by show 4 ≤ 1000; decide), fun y ny => ?_⟩⟩
              have fy := same_new (o := .lst (List.replicate (4 : Int).toNat [V.str "none"]).flatten) ny _ _ (same_new (o := .lst [V.str "none"]) nz _ _ f15)
              refine ⟨_, _, .lst (SqL.of fy) (.cons (.str _) (.cons (.str _) (.cons (.str _) (.cons (.str _) .nil)))), .lst (SqL.of upd_same) (.cons (.str _) (.cons (.str _) (.cons (.str _) (.cons (.str _) .nil)))), shaped_none, shaped_none, ?_⟩
              rw [eqv_none]
              exact q0 _
            · have hlt : T o u < 9999 := by
                have : ¬ (9999 ≤ T o u) := fun z => e (decide_eq_true z)
                omega
              obtain ⟨hW, evs⟩ := fin_list g gR I9 M9 R11 ho hu hlt lvs hv
              subst evs
              refine ⟨_, rfl, _, rfl, c1, _, o, .ref a1, rfl, rfl, SqL.of T15.1, atI_nat ra1, _, rfl, a1, _, u, .int (T o u), rfl, rfl, SqL.of Ha1, atI_nat (trow_at hu), _, rfl, _, rfl, c3, _, o, .ref a3, rfl, rfl, SqL.of X15.1, atI_nat ra3, _, rfl, a3, _, u, .int (0 - W o u), rfl, rfl, SqL.of Ha3, atI_nat (by rw [trow_at hu, encN_int hW]), _, _, rfl, rfl, _, rfl, _, rfl, r, _, o, .int (ht hs o), rfl, rfl, SqT.of R15, atI_nat (ints_at (ht_at (by omega))), _, _, rfl, rfl, _, rfl, _, rfl, c2, _, o, .ref a2, rfl, rfl, SqL.of U15.1, atI_nat ra2, _, rfl, a2, _, u, .int (U o u), rfl, rfl, SqL.of Ha2, atI_nat (trow_at hu), small16 (by show 3 ≤ 1000; decide), fun du ndu => ?_⟩
              have s16 := same_new (o := .lst [V.int (T o u), V.int (0 - (0 - W o u) - ht hs o), V.int (U o u)]) ndu
              have d16 : upd H15 du (.lst [V.int (T o u), V.int (0 - (0 - W o u) - ht hs o), V.int (U o u)]) du = some (.lst [V.int (T o u), V.int (0 - (0 - W o u) - ht hs o), V.int (U o u)]) := upd_same
              dsimp only [gName]
              show tRet _ _ _ (upd H15 du (.lst [V.int (T o u), V.int (0 - (0 - W o u) - ht hs o), V.int (U o u)]))
              generalize upd H15 du (.lst [V.int (T o u), V.int (0 - (0 - W o u) - ht hs o), V.int (U o u)]) = H16 at s16 d16
              have R16 := s16 _ _ R15
              refine ⟨_, rfl, _, rfl, _, rfl, _, rfl, c1, _, o, .ref a1, rfl, rfl, SqL.of (s16 _ _ T15.1), atI_nat ra1, _, rfl, a1, _, u, .int (T o u), rfl, rfl, SqL.of (s16 _ _ Ha1), atI_nat (trow_at hu), _, rfl, _, rfl, r, _, u, .int (ht hs u), rfl, rfl, SqT.of R16, atI_nat (ints_at (ht_at (by omega))), _, rfl, _, rfl, r, _, o, .int (ht hs o), rfl, rfl, SqT.of R16, atI_nat (ints_at (ht_at (by omega))), _, _, rfl, rfl, rfl, small16 (by show 1 ≤ 1000; decide), fun x nx => ?_⟩
              refine ⟨du, x, _, _, rfl, rfl, same_new nx _ _ d16, upd_same, small16 (by show 4 ≤ 1000; decide), fun y ny => ?_⟩
              refine ⟨fd, y, _, rfl, same_new ny _ _ (same_new nx _ _ (s16 _ _ f15)), ?_, ?_, by show 4 ≤ 63; decide, fun H' _ => q0 H'⟩
              · rw [upd_same]
                show some (HO.lst [V.int (T o u), V.int (0 - (0 - W o u) - ht hs o), V.int (U o u), V.bl (decide (V.int (T o u) = V.int (ht hs u - ht hs o)))]) = _
                rw [dec_ints, show 0 - (0 - W o u) - ht hs o = W o u - ht hs o by omega]
              · intro v hv
                have : v = .int (T o u) ∨ v = .int (W o u - ht hs o) ∨ v = .int (U o u) ∨ v = .bl (decide (T o u = ht hs u - ht hs o)) := by simpa using hv
                rcases this with rfl | rfl | rfl | rfl
                · exact .inl ⟨_, rfl⟩
                · exact .inl ⟨_, rfl⟩
                · exact .inl ⟨_, rfl⟩
                · exact .inr ⟨_, rfl⟩
    · intro R hR
      refine ⟨_, rfl, p, _, 1, .ref q, rfl, rfl, SqT.of hp6, atI_nat (j := 1) rfl, ?_⟩
      refine ⟨_, rfl, p, _, 1, .ref q, rfl, rfl, SqT.of hp6, atI_nat (j := 1) rfl, q, rfl, ⟨_, SqT.of hq6⟩, fun D nD => ?_⟩
      refine lc_it (walk_tup (xs := as0.map V.ref)) (fun i H' => Same H6 H' ∧ ∃ cs : List Addr, H' D = some (.lst (cs.map V.ref)) ∧ cs.length = i ∧ ∀ (j : Nat) (c : Addr) (e : Nat × Nat), cs[j]? = some c → es[j]? = some e → H' c = some (.tup [pt e.2, pt e.1])) ⟨same_new nD, [], upd_same, rfl, by simp⟩ (fun i H' _ hh => SqT.of (hh.1 _ _ hq6)) ?_ ?_
      · rintro i x H7 H8 hi ⟨s8, cs, hD, lcs, hcs⟩ ⟨rfl, hx⟩
        obtain ⟨ea, hea, rfl⟩ := refs_get hx
        obtain ⟨e, he⟩ := get_some (l := es) (i := i) (by rw [← hql]; exact get_lt hea)
        have hE := s8 _ _ (s6 _ _ (hqa i ea e hea he))
        have ilt := get_lt he
        have g60 := g.len
        refine ⟨rfl, _, rfl, ea, _, _, rfl, SqT.of hE, fun T nT => ?_⟩
        have hDT : D ≠ T := ne_of_none hD nT
        refine ⟨cs.map V.ref, by rw [upd_ne hDT]; exact hD, by rw [List.length_map]; exact small1000 (by omega), same_over (s8.trans (same_new nT)) nD, cs ++ [T], by rw [upd_same, List.map_append]; rfl, by rw [List.length_append, lcs]; rfl, fun j c e' hc he' => ?_⟩
        by_cases hj : j < i
        · rw [List.getElem?_append_left (by omega)] at hc
          have h0 := hcs j c e' hc he'
          rw [upd_ne (ne_of h0 hD (fun z => nomatch z)), upd_ne (ne_of_none h0 nT)]
          exact h0
        · rw [List.getElem?_append_right (by omega)] at hc
          have : j - cs.length < 1 := get_lt hc
          have ej : j = i := by omega
          subst ej
          rw [he] at he'
          cases he'
          have : c = T := by
            rw [show j - cs.length = 0 by omega] at hc
            simp at hc
            exact hc.symm
          subst this
          show upd _ D _ c = _
          rw [upd_ne (Ne.symm hDT), upd_same]
      · rintro H7 ⟨s8, cs, hD, lcs, hcs⟩
        have g60 := g.len
        rw [List.length_map] at lcs
        refine ⟨D, _, rfl, .inl ⟨SqL.of hD, fun t nt => ?_⟩⟩
        have s9 : Same H6 (upd H7 t (.tup (cs.map V.ref))) := s8.trans (same_new nt)
        have hcs9 : ∀ (j : Nat) (c : Addr) (e : Nat × Nat), cs[j]? = some c → es[j]? = some e → upd H7 t (.tup (cs.map V.ref)) c = some (.tup [pt e.2, pt e.1]) := fun j c e hc he => same_new nt _ _ (hcs j c e hc he)
        have ht9 : upd H7 t (.tup (cs.map V.ref)) t = some (.tup (cs.map V.ref)) := upd_same
        generalize upd H7 t (.tup (cs.map V.ref)) = H9 at s9 hcs9 ht9
        have hrev : ∀ (i : Nat) (c : Addr) (e : Nat × Nat), cs[i]? = some c → (es.map fun e => (e.2, e.1))[i]? = some e → H9 c = some (.tup [pt e.1, pt e.2]) := fun i c e hc he => by
          rw [List.getElem?_map] at he
          cases he2 : es[i]? with
          | none => rw [he2] at he; cases he
          | some e2 =>
            rw [he2] at he
            cases he
            exact hcs9 i c e2 hc he2
        refine ⟨q, t, _, _, rfl, rfl, SqT.of (s9 _ _ hq6), SqT.of ht9, by rw [List.length_map, List.length_map]; exact small16 (by omega), fun e0 => ?_, fun e0 e1 => ?_, fun e0 e1 P nP => ?_⟩
        · have ea0 : as0 = [] := List.map_eq_nil_iff.mp e0
          have ees : es = [] := List.length_eq_zero_iff.mp (by rw [← hql, ea0]; rfl)
          subst ees
          refine hR _ _ ⟨s9, t, cs, rfl, ht9, by rw [lcs, hql]; rfl, fun i c e hc he => ?_⟩
          simp at he
        · have e2 : cs = [] := List.map_eq_nil_iff.mp e1
          rw [e2] at lcs
          have : as0 = [] := List.length_eq_zero_iff.mp lcs.symm
          exact absurd (by rw [this]; rfl) e0
        · refine hR _ _ ⟨s9.trans (same_new nP), P, as0 ++ cs, rfl, by rw [upd_same, List.map_append], by rw [List.length_append, List.length_append, List.length_map, lcs, hql], fun i c e hc he => same_new nP _ _ ?_⟩
          by_cases hi : i < es.length
          · rw [List.getElem?_append_left (by omega)] at hc
            rw [List.getElem?_append_left hi] at he
            exact s9 _ _ (s6 _ _ (hqa i c e hc he))
          · rw [List.getElem?_append_right (by omega)] at hc
            rw [List.getElem?_append_right (by omega)] at he
            rw [hql] at hc
            exact hrev _ c e hc he
end
end Cl

set_option Elab.async false
set_option linter.all false
set_option maxRecDepth 100000
set_option maxHeartbeats 4000000
namespace Cl
open PySem PySem.Spec PyProof.Rows L2
/-- an error of the class at S is what «except S» names -/
theorem exc_of {K : PySem.W.Frag} {S : Addr} (h1 : PySem.W.subIn K (.ref S) (.type "BaseException") = some true) (h2 : PySem.W.isClsIn K S = true) (h3 : PySem.W.typeIn K (.ref S) = some (.type "type")) (h4 : PySem.W.subIn K (.ref S) (.ref S) = some true) :
    PySem.W.exmOne K (.ref S) (.ref S) = some true := by
  have e1 : (PySem.W.subIn K (.ref S) (.type "BaseException") == some true) = true := by rw [h1] <;> rfl
  have e2 : ((PySem.W.clsIn K S).isSome && PySem.W.typeIn K (.ref S) == some (.type "type")) = true := by
    have h2' : (PySem.W.clsIn K S).isSome = true := h2
    rw [h2', h3] <;> rfl
  show (if (PySem.W.subIn K (.ref S) (.type "BaseException") == some true) = true then (if ((PySem.W.clsIn K S).isSome && PySem.W.typeIn K (.ref S) == some (.type "type")) = true then PySem.W.subIn K (.ref S) (.ref S) else none) else none) = some true
  rw [if_pos e1, if_pos e2]
  exact h4
theorem all_mk {P : Program} {w : World} {K : PySem.W.Frag} {h : Heap} {mg : Str → Option Value} {fa : Addr} (X : K.In h) (G : h.Ns mainGlobals mg) (hfa : mg "law" = some (.ref fa))
    {f_whole : Addr} {od_whole an_whole : Option Addr} {sl_whole : Array (Option Value)} {oc_whole kV_whole dc_whole pm_whole cd_whole ct_whole : Value}
    {f_within : Addr} {od_within an_within : Option Addr} {sl_within : Array (Option Value)} {oc_within kV_within dc_within pm_within cd_within ct_within : Value}
    {f_tuple_of : Addr} {od_tuple_of an_tuple_of : Option Addr} {sl_tuple_of : Array (Option Value)} {oc_tuple_of kV_tuple_of dc_tuple_of pm_tuple_of cd_tuple_of ct_tuple_of : Value}
    {f_need_net : Addr} {od_need_net an_need_net : Option Addr} {sl_need_net : Array (Option Value)} {oc_need_net kV_need_net dc_need_net pm_need_net cd_need_net ct_need_net : Value}
    {f_need_row : Addr} {od_need_row an_need_row : Option Addr} {sl_need_row : Array (Option Value)} {oc_need_row kV_need_row dc_need_row pm_need_row cd_need_row ct_need_row : Value}
    {f_need_both : Addr} {od_need_both an_need_both : Option Addr} {sl_need_both : Array (Option Value)} {oc_need_both kV_need_both dc_need_both pm_need_both cd_need_both ct_need_both : Value}
    {f_need_point : Addr} {od_need_point an_need_point : Option Addr} {sl_need_point : Array (Option Value)} {oc_need_point kV_need_point dc_need_point pm_need_point cd_need_point ct_need_point : Value}
    {f_near_of : Addr} {od_near_of an_near_of : Option Addr} {sl_near_of : Array (Option Value)} {oc_near_of kV_near_of dc_near_of pm_near_of cd_near_of ct_near_of : Value}
    {f_reach : Addr} {od_reach an_reach : Option Addr} {sl_reach : Array (Option Value)} {oc_reach kV_reach dc_reach pm_reach cd_reach ct_reach : Value}
    {f_parts_of : Addr} {od_parts_of an_parts_of : Option Addr} {sl_parts_of : Array (Option Value)} {oc_parts_of kV_parts_of dc_parts_of pm_parts_of cd_parts_of ct_parts_of : Value}
    {f_above : Addr} {od_above an_above : Option Addr} {sl_above : Array (Option Value)} {oc_above kV_above dc_above pm_above cd_above ct_above : Value}
    {f_pass_of : Addr} {od_pass_of an_pass_of : Option Addr} {sl_pass_of : Array (Option Value)} {oc_pass_of kV_pass_of dc_pass_of pm_pass_of cd_pass_of ct_pass_of : Value}
    {f_need_ends : Addr} {od_need_ends an_need_ends : Option Addr} {sl_need_ends : Array (Option Value)} {oc_need_ends kV_need_ends dc_need_ends pm_need_ends cd_need_ends ct_need_ends : Value}
    {f_climb_of : Addr} {od_climb_of an_climb_of : Option Addr} {sl_climb_of : Array (Option Value)} {oc_climb_of kV_climb_of dc_climb_of pm_climb_of cd_climb_of ct_climb_of : Value}
    {f_least_climb : Addr} {od_least_climb an_least_climb : Option Addr} {sl_least_climb : Array (Option Value)} {oc_least_climb kV_least_climb dc_least_climb pm_least_climb cd_least_climb ct_least_climb : Value}
    {f_least_rise : Addr} {od_least_rise an_least_rise : Option Addr} {sl_least_rise : Array (Option Value)} {oc_least_rise kV_least_rise dc_least_rise pm_least_rise cd_least_rise ct_least_rise : Value}
    {f_least_step : Addr} {od_least_step an_least_step : Option Addr} {sl_least_step : Array (Option Value)} {oc_least_step kV_least_step dc_least_step pm_least_step cd_least_step ct_least_step : Value}
    {f_rising : Addr} {od_rising an_rising : Option Addr} {sl_rising : Array (Option Value)} {oc_rising kV_rising dc_rising pm_rising cd_rising ct_rising : Value}
    {f_law_taken : Addr} {od_law_taken an_law_taken : Option Addr} {sl_law_taken : Array (Option Value)} {oc_law_taken kV_law_taken dc_law_taken pm_law_taken cd_law_taken ct_law_taken : Value}
    {f_law_net : Addr} {od_law_net an_law_net : Option Addr} {sl_law_net : Array (Option Value)} {oc_law_net kV_law_net dc_law_net pm_law_net cd_law_net ct_law_net : Value}
    {f_law_pick : Addr} {od_law_pick an_law_pick : Option Addr} {sl_law_pick : Array (Option Value)} {oc_law_pick kV_law_pick dc_law_pick pm_law_pick cd_law_pick ct_law_pick : Value}
    {f_law_heights : Addr} {od_law_heights an_law_heights : Option Addr} {sl_law_heights : Array (Option Value)} {oc_law_heights kV_law_heights dc_law_heights pm_law_heights cd_law_heights ct_law_heights : Value}
    {f_law_crossings : Addr} {od_law_crossings an_law_crossings : Option Addr} {sl_law_crossings : Array (Option Value)} {oc_law_crossings kV_law_crossings dc_law_crossings pm_law_crossings cd_law_crossings ct_law_crossings : Value}
    {f_law_down : Addr} {od_law_down an_law_down : Option Addr} {sl_law_down : Array (Option Value)} {oc_law_down kV_law_down dc_law_down pm_law_down cd_law_down ct_law_down : Value}
    {f_law_alike : Addr} {od_law_alike an_law_alike : Option Addr} {sl_law_alike : Array (Option Value)} {oc_law_alike kV_law_alike dc_law_alike pm_law_alike cd_law_alike ct_law_alike : Value}
    {f_law : Addr} {od_law an_law : Option Addr} {sl_law : Array (Option Value)} {oc_law kV_law dc_law pm_law cd_law ct_law : Value}
    {tp th : Tok} {CN : Addr}
    (a_whole : PySem.W.nsIn K mainGlobals "whole" = some (some (.ref f_whole)))
    (l_whole : K.lookup f_whole = some ⟨oc_whole, od_whole, .func (PySem.W.fnOf "whole" "whole" (defArgs s_whole) (defBody s_whole) (defScope s_whole) .none kV_whole dc_whole pm_whole an_whole cd_whole ct_whole), sl_whole⟩)
    (c_whole : PySem.W.codeIn K cd_whole "whole" = true)
    (k_whole : PySem.W.keepIn K (.ref f_whole) = true)
    (a_within : PySem.W.nsIn K mainGlobals "within" = some (some (.ref f_within)))
    (l_within : K.lookup f_within = some ⟨oc_within, od_within, .func (PySem.W.fnOf "within" "within" (defArgs s_within) (defBody s_within) (defScope s_within) .none kV_within dc_within pm_within an_within cd_within ct_within), sl_within⟩)
    (c_within : PySem.W.codeIn K cd_within "within" = true)
    (k_within : PySem.W.keepIn K (.ref f_within) = true)
    (a_tuple_of : PySem.W.nsIn K mainGlobals "tuple_of" = some (some (.ref f_tuple_of)))
    (l_tuple_of : K.lookup f_tuple_of = some ⟨oc_tuple_of, od_tuple_of, .func (PySem.W.fnOf "tuple_of" "tuple_of" (defArgs s_tuple_of) (defBody s_tuple_of) (defScope s_tuple_of) .none kV_tuple_of dc_tuple_of pm_tuple_of an_tuple_of cd_tuple_of ct_tuple_of), sl_tuple_of⟩)
    (c_tuple_of : PySem.W.codeIn K cd_tuple_of "tuple_of" = true)
    (k_tuple_of : PySem.W.keepIn K (.ref f_tuple_of) = true)
    (a_need_net : PySem.W.nsIn K mainGlobals "need_net" = some (some (.ref f_need_net)))
    (l_need_net : K.lookup f_need_net = some ⟨oc_need_net, od_need_net, .func (PySem.W.fnOf "need_net" "need_net" (defArgs s_need_net) (defBody s_need_net) (defScope s_need_net) .none kV_need_net dc_need_net pm_need_net an_need_net cd_need_net ct_need_net), sl_need_net⟩)
    (c_need_net : PySem.W.codeIn K cd_need_net "need_net" = true)
    (k_need_net : PySem.W.keepIn K (.ref f_need_net) = true)
    (a_need_row : PySem.W.nsIn K mainGlobals "need_row" = some (some (.ref f_need_row)))
    (l_need_row : K.lookup f_need_row = some ⟨oc_need_row, od_need_row, .func (PySem.W.fnOf "need_row" "need_row" (defArgs s_need_row) (defBody s_need_row) (defScope s_need_row) .none kV_need_row dc_need_row pm_need_row an_need_row cd_need_row ct_need_row), sl_need_row⟩)
    (c_need_row : PySem.W.codeIn K cd_need_row "need_row" = true)
    (k_need_row : PySem.W.keepIn K (.ref f_need_row) = true)
    (a_need_both : PySem.W.nsIn K mainGlobals "need_both" = some (some (.ref f_need_both)))
    (l_need_both : K.lookup f_need_both = some ⟨oc_need_both, od_need_both, .func (PySem.W.fnOf "need_both" "need_both" (defArgs s_need_both) (defBody s_need_both) (defScope s_need_both) .none kV_need_both dc_need_both pm_need_both an_need_both cd_need_both ct_need_both), sl_need_both⟩)
    (c_need_both : PySem.W.codeIn K cd_need_both "need_both" = true)
    (k_need_both : PySem.W.keepIn K (.ref f_need_both) = true)
    (a_need_point : PySem.W.nsIn K mainGlobals "need_point" = some (some (.ref f_need_point)))
    (l_need_point : K.lookup f_need_point = some ⟨oc_need_point, od_need_point, .func (PySem.W.fnOf "need_point" "need_point" (defArgs s_need_point) (defBody s_need_point) (defScope s_need_point) .none kV_need_point dc_need_point pm_need_point an_need_point cd_need_point ct_need_point), sl_need_point⟩)
    (c_need_point : PySem.W.codeIn K cd_need_point "need_point" = true)
    (k_need_point : PySem.W.keepIn K (.ref f_need_point) = true)
    (a_near_of : PySem.W.nsIn K mainGlobals "near_of" = some (some (.ref f_near_of)))
    (l_near_of : K.lookup f_near_of = some ⟨oc_near_of, od_near_of, .func (PySem.W.fnOf "near_of" "near_of" (defArgs s_near_of) (defBody s_near_of) (defScope s_near_of) .none kV_near_of dc_near_of pm_near_of an_near_of cd_near_of ct_near_of), sl_near_of⟩)
    (c_near_of : PySem.W.codeIn K cd_near_of "near_of" = true)
    (k_near_of : PySem.W.keepIn K (.ref f_near_of) = true)
    (a_reach : PySem.W.nsIn K mainGlobals "reach" = some (some (.ref f_reach)))
    (l_reach : K.lookup f_reach = some ⟨oc_reach, od_reach, .func (PySem.W.fnOf "reach" "reach" (defArgs s_reach) (defBody s_reach) (defScope s_reach) .none kV_reach dc_reach pm_reach an_reach cd_reach ct_reach), sl_reach⟩)
    (c_reach : PySem.W.codeIn K cd_reach "reach" = true)
    (k_reach : PySem.W.keepIn K (.ref f_reach) = true)
    (a_parts_of : PySem.W.nsIn K mainGlobals "parts_of" = some (some (.ref f_parts_of)))
    (l_parts_of : K.lookup f_parts_of = some ⟨oc_parts_of, od_parts_of, .func (PySem.W.fnOf "parts_of" "parts_of" (defArgs s_parts_of) (defBody s_parts_of) (defScope s_parts_of) .none kV_parts_of dc_parts_of pm_parts_of an_parts_of cd_parts_of ct_parts_of), sl_parts_of⟩)
    (c_parts_of : PySem.W.codeIn K cd_parts_of "parts_of" = true)
    (k_parts_of : PySem.W.keepIn K (.ref f_parts_of) = true)
    (a_above : PySem.W.nsIn K mainGlobals "above" = some (some (.ref f_above)))
    (l_above : K.lookup f_above = some ⟨oc_above, od_above, .func (PySem.W.fnOf "above" "above" (defArgs s_above) (defBody s_above) (defScope s_above) .none kV_above dc_above pm_above an_above cd_above ct_above), sl_above⟩)
    (c_above : PySem.W.codeIn K cd_above "above" = true)
    (k_above : PySem.W.keepIn K (.ref f_above) = true)
    (a_pass_of : PySem.W.nsIn K mainGlobals "pass_of" = some (some (.ref f_pass_of)))
    (l_pass_of : K.lookup f_pass_of = some ⟨oc_pass_of, od_pass_of, .func (PySem.W.fnOf "pass_of" "pass_of" (defArgs s_pass_of) (defBody s_pass_of) (defScope s_pass_of) .none kV_pass_of dc_pass_of pm_pass_of an_pass_of cd_pass_of ct_pass_of), sl_pass_of⟩)
    (c_pass_of : PySem.W.codeIn K cd_pass_of "pass_of" = true)
    (k_pass_of : PySem.W.keepIn K (.ref f_pass_of) = true)
    (a_need_ends : PySem.W.nsIn K mainGlobals "need_ends" = some (some (.ref f_need_ends)))
    (l_need_ends : K.lookup f_need_ends = some ⟨oc_need_ends, od_need_ends, .func (PySem.W.fnOf "need_ends" "need_ends" (defArgs s_need_ends) (defBody s_need_ends) (defScope s_need_ends) .none kV_need_ends dc_need_ends pm_need_ends an_need_ends cd_need_ends ct_need_ends), sl_need_ends⟩)
    (c_need_ends : PySem.W.codeIn K cd_need_ends "need_ends" = true)
    (k_need_ends : PySem.W.keepIn K (.ref f_need_ends) = true)
    (a_climb_of : PySem.W.nsIn K mainGlobals "climb_of" = some (some (.ref f_climb_of)))
    (l_climb_of : K.lookup f_climb_of = some ⟨oc_climb_of, od_climb_of, .func (PySem.W.fnOf "climb_of" "climb_of" (defArgs s_climb_of) (defBody s_climb_of) (defScope s_climb_of) .none kV_climb_of dc_climb_of pm_climb_of an_climb_of cd_climb_of ct_climb_of), sl_climb_of⟩)
    (c_climb_of : PySem.W.codeIn K cd_climb_of "climb_of" = true)
    (k_climb_of : PySem.W.keepIn K (.ref f_climb_of) = true)
    (a_least_climb : PySem.W.nsIn K mainGlobals "least_climb" = some (some (.ref f_least_climb)))
    (l_least_climb : K.lookup f_least_climb = some ⟨oc_least_climb, od_least_climb, .func (PySem.W.fnOf "least_climb" "least_climb" (defArgs s_least_climb) (defBody s_least_climb) (defScope s_least_climb) .none kV_least_climb dc_least_climb pm_least_climb an_least_climb cd_least_climb ct_least_climb), sl_least_climb⟩)
    (c_least_climb : PySem.W.codeIn K cd_least_climb "least_climb" = true)
    (k_least_climb : PySem.W.keepIn K (.ref f_least_climb) = true)
    (a_least_rise : PySem.W.nsIn K mainGlobals "least_rise" = some (some (.ref f_least_rise)))
    (l_least_rise : K.lookup f_least_rise = some ⟨oc_least_rise, od_least_rise, .func (PySem.W.fnOf "least_rise" "least_rise" (defArgs s_least_rise) (defBody s_least_rise) (defScope s_least_rise) .none kV_least_rise dc_least_rise pm_least_rise an_least_rise cd_least_rise ct_least_rise), sl_least_rise⟩)
    (c_least_rise : PySem.W.codeIn K cd_least_rise "least_rise" = true)
    (k_least_rise : PySem.W.keepIn K (.ref f_least_rise) = true)
    (a_least_step : PySem.W.nsIn K mainGlobals "least_step" = some (some (.ref f_least_step)))
    (l_least_step : K.lookup f_least_step = some ⟨oc_least_step, od_least_step, .func (PySem.W.fnOf "least_step" "least_step" (defArgs s_least_step) (defBody s_least_step) (defScope s_least_step) .none kV_least_step dc_least_step pm_least_step an_least_step cd_least_step ct_least_step), sl_least_step⟩)
    (c_least_step : PySem.W.codeIn K cd_least_step "least_step" = true)
    (k_least_step : PySem.W.keepIn K (.ref f_least_step) = true)
    (a_rising : PySem.W.nsIn K mainGlobals "rising" = some (some (.ref f_rising)))
    (l_rising : K.lookup f_rising = some ⟨oc_rising, od_rising, .func (PySem.W.fnOf "rising" "rising" (defArgs s_rising) (defBody s_rising) (defScope s_rising) .none kV_rising dc_rising pm_rising an_rising cd_rising ct_rising), sl_rising⟩)
    (c_rising : PySem.W.codeIn K cd_rising "rising" = true)
    (k_rising : PySem.W.keepIn K (.ref f_rising) = true)
    (a_law_taken : PySem.W.nsIn K mainGlobals "_law_taken" = some (some (.ref f_law_taken)))
    (l_law_taken : K.lookup f_law_taken = some ⟨oc_law_taken, od_law_taken, .func (PySem.W.fnOf "_law_taken" "_law_taken" (defArgs s_law_taken) (defBody s_law_taken) (defScope s_law_taken) .none kV_law_taken dc_law_taken pm_law_taken an_law_taken cd_law_taken ct_law_taken), sl_law_taken⟩)
    (c_law_taken : PySem.W.codeIn K cd_law_taken "_law_taken" = true)
    (k_law_taken : PySem.W.keepIn K (.ref f_law_taken) = true)
    (a_law_net : PySem.W.nsIn K mainGlobals "_law_net" = some (some (.ref f_law_net)))
    (l_law_net : K.lookup f_law_net = some ⟨oc_law_net, od_law_net, .func (PySem.W.fnOf "_law_net" "_law_net" (defArgs s_law_net) (defBody s_law_net) (defScope s_law_net) .none kV_law_net dc_law_net pm_law_net an_law_net cd_law_net ct_law_net), sl_law_net⟩)
    (c_law_net : PySem.W.codeIn K cd_law_net "_law_net" = true)
    (k_law_net : PySem.W.keepIn K (.ref f_law_net) = true)
    (a_law_pick : PySem.W.nsIn K mainGlobals "_law_pick" = some (some (.ref f_law_pick)))
    (l_law_pick : K.lookup f_law_pick = some ⟨oc_law_pick, od_law_pick, .func (PySem.W.fnOf "_law_pick" "_law_pick" (defArgs s_law_pick) (defBody s_law_pick) (defScope s_law_pick) .none kV_law_pick dc_law_pick pm_law_pick an_law_pick cd_law_pick ct_law_pick), sl_law_pick⟩)
    (c_law_pick : PySem.W.codeIn K cd_law_pick "_law_pick" = true)
    (k_law_pick : PySem.W.keepIn K (.ref f_law_pick) = true)
    (a_law_heights : PySem.W.nsIn K mainGlobals "_law_heights" = some (some (.ref f_law_heights)))
    (l_law_heights : K.lookup f_law_heights = some ⟨oc_law_heights, od_law_heights, .func (PySem.W.fnOf "_law_heights" "_law_heights" (defArgs s_law_heights) (defBody s_law_heights) (defScope s_law_heights) .none kV_law_heights dc_law_heights pm_law_heights an_law_heights cd_law_heights ct_law_heights), sl_law_heights⟩)
    (c_law_heights : PySem.W.codeIn K cd_law_heights "_law_heights" = true)
    (k_law_heights : PySem.W.keepIn K (.ref f_law_heights) = true)
    (a_law_crossings : PySem.W.nsIn K mainGlobals "_law_crossings" = some (some (.ref f_law_crossings)))
    (l_law_crossings : K.lookup f_law_crossings = some ⟨oc_law_crossings, od_law_crossings, .func (PySem.W.fnOf "_law_crossings" "_law_crossings" (defArgs s_law_crossings) (defBody s_law_crossings) (defScope s_law_crossings) .none kV_law_crossings dc_law_crossings pm_law_crossings an_law_crossings cd_law_crossings ct_law_crossings), sl_law_crossings⟩)
    (c_law_crossings : PySem.W.codeIn K cd_law_crossings "_law_crossings" = true)
    (k_law_crossings : PySem.W.keepIn K (.ref f_law_crossings) = true)
    (a_law_down : PySem.W.nsIn K mainGlobals "_law_down" = some (some (.ref f_law_down)))
    (l_law_down : K.lookup f_law_down = some ⟨oc_law_down, od_law_down, .func (PySem.W.fnOf "_law_down" "_law_down" (defArgs s_law_down) (defBody s_law_down) (defScope s_law_down) .none kV_law_down dc_law_down pm_law_down an_law_down cd_law_down ct_law_down), sl_law_down⟩)
    (c_law_down : PySem.W.codeIn K cd_law_down "_law_down" = true)
    (k_law_down : PySem.W.keepIn K (.ref f_law_down) = true)
    (a_law_alike : PySem.W.nsIn K mainGlobals "_law_alike" = some (some (.ref f_law_alike)))
    (l_law_alike : K.lookup f_law_alike = some ⟨oc_law_alike, od_law_alike, .func (PySem.W.fnOf "_law_alike" "_law_alike" (defArgs s_law_alike) (defBody s_law_alike) (defScope s_law_alike) .none kV_law_alike dc_law_alike pm_law_alike an_law_alike cd_law_alike ct_law_alike), sl_law_alike⟩)
    (c_law_alike : PySem.W.codeIn K cd_law_alike "_law_alike" = true)
    (k_law_alike : PySem.W.keepIn K (.ref f_law_alike) = true)
    (a_law : PySem.W.nsIn K mainGlobals "law" = some (some (.ref f_law)))
    (l_law : K.lookup f_law = some ⟨oc_law, od_law, .func (PySem.W.fnOf "law" "law" (defArgs s_law) (defBody s_law) (defScope s_law) .none kV_law dc_law pm_law an_law cd_law ct_law), sl_law⟩)
    (c_law : PySem.W.codeIn K cd_law "law" = true)
    (k_law : PySem.W.keepIn K (.ref f_law) = true)
    (z_range : PySem.W.nsIn K mainGlobals "range" = some none)
    (z_enumerate : PySem.W.nsIn K mainGlobals "enumerate" = some none)
    (z_len : PySem.W.nsIn K mainGlobals "len" = some none)
    (z_max : PySem.W.nsIn K mainGlobals "max" = some none)
    (z_min : PySem.W.nsIn K mainGlobals "min" = some none)
    (z_abs : PySem.W.nsIn K mainGlobals "abs" = some none)
    (z_sorted : PySem.W.nsIn K mainGlobals "sorted" = some none)
    (z_tuple : PySem.W.nsIn K mainGlobals "tuple" = some none)
    (z_int : PySem.W.nsIn K mainGlobals "int" = some none)
    (z_list : PySem.W.nsIn K mainGlobals "list" = some none)
    (z_bool : PySem.W.nsIn K mainGlobals "bool" = some none)
    (z_str : PySem.W.nsIn K mainGlobals "str" = some none)
    (z_any : PySem.W.nsIn K mainGlobals "any" = some none)
    (z_all : PySem.W.nsIn K mainGlobals "all" = some none)
    (z_isinstance : PySem.W.nsIn K mainGlobals "isinstance" = some none)
    (mp : PySem.W.nsIn K mainGlobals "MOST_POINTS" = some (some (.int 12 tp)))
    (mh : PySem.W.nsIn K mainGlobals "MOST_HEIGHT" = some (some (.int 99 th)))
    (aN : PySem.W.nsIn K mainGlobals "NotJoined" = some (some (.ref CN)))
    (xN : PySem.W.excIn K CN [.type "ValueError", .type "Exception", .type "BaseException", .type "object"] "ValueError.__new__" = true)
    (kN : PySem.W.keepIn K (.ref CN) = true) (bN : PySem.W.subIn K (.ref CN) (.type "BaseException") = some true) (tN : PySem.W.typeIn K (.ref CN) = some (.type "type")) (iN : PySem.W.isClsIn K CN = true) (sN : PySem.W.subIn K (.ref CN) (.ref CN) = some true)
    : ∃ fd : FuncData, (∀ (s : Shared) (u : Value), BindsTo s fd ⟨[u], []⟩ [("_law_script", u)]) ∧ ∀ base : Heap, K.In base → base.Ns mainGlobals mg → FnOk P w K mg base CX0 7 fa fd ["_law_script"] (spLaw K) := by
  have e := hfa.symm.trans (PySem.W.mg_of X G a_law)
  cases e
  have Z : Bt mg := ⟨PySem.W.mg_none_of X G z_range, PySem.W.mg_none_of X G z_enumerate, PySem.W.mg_none_of X G z_len, PySem.W.mg_none_of X G z_max, PySem.W.mg_none_of X G z_min, PySem.W.mg_none_of X G z_abs, PySem.W.mg_none_of X G z_sorted, PySem.W.mg_none_of X G z_tuple, PySem.W.mg_none_of X G z_int, PySem.W.mg_none_of X G z_list, PySem.W.mg_none_of X G z_bool, PySem.W.mg_none_of X G z_str, PySem.W.mg_none_of X G z_any, PySem.W.mg_none_of X G z_all, PySem.W.mg_none_of X G z_isinstance, ⟨tp, PySem.W.mg_of X G mp⟩, ⟨th, PySem.W.mg_of X G mh⟩⟩
  have TX : NJ K mg CN := ⟨PySem.W.mg_of X G aN, xN, kN, bN, tN, exc_of bN iN tN sN⟩
  have F_whole := fun_mk (st := s_whole) l_whole c_whole k_whole
  have b_whole := F_whole.binds (ps := P_whole) fun _ _ _ _ _ _ us hl => match us, hl with | [_], _ => rfl
  have F_within := fun_mk (st := s_within) l_within c_within k_within
  have b_within := F_within.binds (ps := P_within) fun _ _ _ _ _ _ us hl => match us, hl with | [_, _, _], _ => rfl
  have F_tuple_of := fun_mk (st := s_tuple_of) l_tuple_of c_tuple_of k_tuple_of
  have b_tuple_of := F_tuple_of.binds (ps := P_tuple_of) fun _ _ _ _ _ _ us hl => match us, hl with | [_, _, _], _ => rfl
  have F_need_net := fun_mk (st := s_need_net) l_need_net c_need_net k_need_net
  have b_need_net := F_need_net.binds (ps := P_need_net) fun _ _ _ _ _ _ us hl => match us, hl with | [_], _ => rfl
  have F_need_row := fun_mk (st := s_need_row) l_need_row c_need_row k_need_row
  have b_need_row := F_need_row.binds (ps := P_need_row) fun _ _ _ _ _ _ us hl => match us, hl with | [_, _], _ => rfl
  have F_need_both := fun_mk (st := s_need_both) l_need_both c_need_both k_need_both
  have b_need_both := F_need_both.binds (ps := P_need_both) fun _ _ _ _ _ _ us hl => match us, hl with | [_, _], _ => rfl
  have F_need_point := fun_mk (st := s_need_point) l_need_point c_need_point k_need_point
  have b_need_point := F_need_point.binds (ps := P_need_point) fun _ _ _ _ _ _ us hl => match us, hl with | [_, _], _ => rfl
  have F_near_of := fun_mk (st := s_near_of) l_near_of c_near_of k_near_of
  have b_near_of := F_near_of.binds (ps := P_near_of) fun _ _ _ _ _ _ us hl => match us, hl with | [_], _ => rfl
  have F_reach := fun_mk (st := s_reach) l_reach c_reach k_reach
  have b_reach := F_reach.binds (ps := P_reach) fun _ _ _ _ _ _ us hl => match us, hl with | [_, _, _], _ => rfl
  have F_parts_of := fun_mk (st := s_parts_of) l_parts_of c_parts_of k_parts_of
  have b_parts_of := F_parts_of.binds (ps := P_parts_of) fun _ _ _ _ _ _ us hl => match us, hl with | [_, _], _ => rfl
  have F_above := fun_mk (st := s_above) l_above c_above k_above
  have b_above := F_above.binds (ps := P_above) fun _ _ _ _ _ _ us hl => match us, hl with | [_, _, _], _ => rfl
  have F_pass_of := fun_mk (st := s_pass_of) l_pass_of c_pass_of k_pass_of
  have b_pass_of := F_pass_of.binds (ps := P_pass_of) fun _ _ _ _ _ _ us hl => match us, hl with | [_, _, _, _], _ => rfl
  have F_need_ends := fun_mk (st := s_need_ends) l_need_ends c_need_ends k_need_ends
  have b_need_ends := F_need_ends.binds (ps := P_need_ends) fun _ _ _ _ _ _ us hl => match us, hl with | [_, _, _, _], _ => rfl
  have F_climb_of := fun_mk (st := s_climb_of) l_climb_of c_climb_of k_climb_of
  have b_climb_of := F_climb_of.binds (ps := P_climb_of) fun _ _ _ _ _ _ us hl => match us, hl with | [_, _, _], _ => rfl
  have F_least_climb := fun_mk (st := s_least_climb) l_least_climb c_least_climb k_least_climb
  have b_least_climb := F_least_climb.binds (ps := P_least_climb) fun _ _ _ _ _ _ us hl => match us, hl with | [_, _, _, _], _ => rfl
  have F_least_rise := fun_mk (st := s_least_rise) l_least_rise c_least_rise k_least_rise
  have b_least_rise := F_least_rise.binds (ps := P_least_rise) fun _ _ _ _ _ _ us hl => match us, hl with | [_, _, _, _], _ => rfl
  have F_least_step := fun_mk (st := s_least_step) l_least_step c_least_step k_least_step
  have b_least_step := F_least_step.binds (ps := P_least_step) fun _ _ _ _ _ _ us hl => match us, hl with | [_, _, _, _], _ => rfl
  have F_rising := fun_mk (st := s_rising) l_rising c_rising k_rising
  have b_rising := F_rising.binds (ps := P_rising) fun _ _ _ _ _ _ us hl => match us, hl with | [_, _, _, _], _ => rfl
  have F_law_taken := fun_mk (st := s_law_taken) l_law_taken c_law_taken k_law_taken
  have b_law_taken := F_law_taken.binds (ps := P_law_taken) fun _ _ _ _ _ _ us hl => match us, hl with | [_, _], _ => rfl
  have F_law_net := fun_mk (st := s_law_net) l_law_net c_law_net k_law_net
  have b_law_net := F_law_net.binds (ps := P_law_net) fun _ _ _ _ _ _ us hl => match us, hl with | [_, _], _ => rfl
  have F_law_pick := fun_mk (st := s_law_pick) l_law_pick c_law_pick k_law_pick
  have b_law_pick := F_law_pick.binds (ps := P_law_pick) fun _ _ _ _ _ _ us hl => match us, hl with | [_, _], _ => rfl
  have F_law_heights := fun_mk (st := s_law_heights) l_law_heights c_law_heights k_law_heights
  have b_law_heights := F_law_heights.binds (ps := P_law_heights) fun _ _ _ _ _ _ us hl => match us, hl with | [_, _, _], _ => rfl
  have F_law_crossings := fun_mk (st := s_law_crossings) l_law_crossings c_law_crossings k_law_crossings
  have b_law_crossings := F_law_crossings.binds (ps := P_law_crossings) fun _ _ _ _ _ _ us hl => match us, hl with | [_, _], _ => rfl
  have F_law_down := fun_mk (st := s_law_down) l_law_down c_law_down k_law_down
  have b_law_down := F_law_down.binds (ps := P_law_down) fun _ _ _ _ _ _ us hl => match us, hl with | [_], _ => rfl
  have F_law_alike := fun_mk (st := s_law_alike) l_law_alike c_law_alike k_law_alike
  have b_law_alike := F_law_alike.binds (ps := P_law_alike) fun _ _ _ _ _ _ us hl => match us, hl with | [_, _], _ => rfl
  have F_law := fun_mk (st := s_law) l_law c_law k_law
  refine ⟨PySem.W.fnOf "law" "law" (defArgs s_law) (defBody s_law) (defScope s_law) .none kV_law dc_law pm_law an_law cd_law ct_law, fun s u => .of_eq rfl, fun base _ _ => ?_⟩
  have C_whole : Cal P w K mg base CX0 1 "whole" P_whole spWhole := ⟨_, _, PySem.W.mg_of X G a_whole, k_whole, b_whole, ok_whole F_whole Z ⟩
  have C_within : Cal P w K mg base CX0 2 "within" P_within spWithin := ⟨_, _, PySem.W.mg_of X G a_within, k_within, b_within, ok_within F_within Z C_whole⟩
  have C_tuple_of : Cal P w K mg base CX0 1 "tuple_of" P_tuple_of spTupleOf := ⟨_, _, PySem.W.mg_of X G a_tuple_of, k_tuple_of, b_tuple_of, ok_tuple_of F_tuple_of Z ⟩
  have C_need_net : Cal P w K mg base CX0 3 "need_net" P_need_net spNeedNet := ⟨_, _, PySem.W.mg_of X G a_need_net, k_need_net, b_need_net, ok_need_net F_need_net Z C_tuple_of C_within⟩
  have C_need_row : Cal P w K mg base CX0 3 "need_row" P_need_row spNeedRow := ⟨_, _, PySem.W.mg_of X G a_need_row, k_need_row, b_need_row, ok_need_row F_need_row Z C_tuple_of C_within⟩
  have C_need_both : Cal P w K mg base CX0 4 "need_both" P_need_both spNeedRow := ⟨_, _, PySem.W.mg_of X G a_need_both, k_need_both, b_need_both, ok_need_both F_need_both Z C_need_net C_need_row⟩
  have C_need_point : Cal P w K mg base CX0 3 "need_point" P_need_point spNeedPoint := ⟨_, _, PySem.W.mg_of X G a_need_point, k_need_point, b_need_point, ok_need_point F_need_point Z C_within⟩
  have C_near_of : Cal P w K mg base CX0 1 "near_of" P_near_of spNearOf := ⟨_, _, PySem.W.mg_of X G a_near_of, k_near_of, b_near_of, ok_near_of F_near_of Z ⟩
  have C_reach : Cal P w K mg base CX0 1 "reach" P_reach spReach := ⟨_, _, PySem.W.mg_of X G a_reach, k_reach, b_reach, ok_reach F_reach Z ⟩
  have C_parts_of : Cal P w K mg base CX0 2 "parts_of" P_parts_of spPartsOf := ⟨_, _, PySem.W.mg_of X G a_parts_of, k_parts_of, b_parts_of, ok_parts_of F_parts_of Z C_reach⟩
  have C_above : Cal P w K mg base CX0 3 "above" P_above spAbove := ⟨_, _, PySem.W.mg_of X G a_above, k_above, b_above, ok_above F_above Z C_parts_of⟩
  have C_pass_of : Cal P w K mg base CX0 4 "pass_of" P_pass_of spPassOf := ⟨_, _, PySem.W.mg_of X G a_pass_of, k_pass_of, b_pass_of, ok_pass_of F_pass_of Z C_above⟩
  have C_need_ends : Cal P w K mg base (L2.CX P w) 5 "need_ends" P_need_ends (spNeedEnds CN) := ⟨_, _, PySem.W.mg_of X G a_need_ends, k_need_ends, b_need_ends, ok_need_ends F_need_ends Z TX C_near_of C_need_both C_need_point C_reach⟩
  have C_climb_of : Cal P w K mg base CX0 1 "climb_of" P_climb_of spClimbOf := ⟨_, _, PySem.W.mg_of X G a_climb_of, k_climb_of, b_climb_of, ok_climb_of F_climb_of Z ⟩
  have C_least_climb : Cal P w K mg base (L2.CX P w) 6 "least_climb" P_least_climb (spFour CN RClimb) := ⟨_, _, PySem.W.mg_of X G a_least_climb, k_least_climb, b_least_climb, ok_least_climb F_least_climb Z C_climb_of C_need_ends⟩
  have C_least_rise : Cal P w K mg base (L2.CX P w) 6 "least_rise" P_least_rise (spFour CN RRise) := ⟨_, _, PySem.W.mg_of X G a_least_rise, k_least_rise, b_least_rise, ok_least_rise F_least_rise Z C_need_ends C_pass_of⟩
  have C_least_step : Cal P w K mg base (L2.CX P w) 6 "least_step" P_least_step (spFour CN RStep) := ⟨_, _, PySem.W.mg_of X G a_least_step, k_least_step, b_least_step, ok_least_step F_least_step Z C_need_ends⟩
  have C_rising : Cal P w K mg base (L2.CX P w) 6 "rising" P_rising (spFour CN RRising) := ⟨_, _, PySem.W.mg_of X G a_rising, k_rising, b_rising, ok_rising F_rising Z C_climb_of C_need_ends⟩
  have C_law_taken : Cal P w K mg base CX0 1 "_law_taken" P_law_taken (spTaken K) := ⟨_, _, PySem.W.mg_of X G a_law_taken, k_law_taken, b_law_taken, ok_law_taken F_law_taken Z ⟩
  have C_law_net : Cal P w K mg base CX0 2 "_law_net" P_law_net (spNet K) := ⟨_, _, PySem.W.mg_of X G a_law_net, k_law_net, b_law_net, ok_law_net F_law_net Z C_law_taken⟩
  have C_law_pick : Cal P w K mg base CX0 2 "_law_pick" P_law_pick (spPick K) := ⟨_, _, PySem.W.mg_of X G a_law_pick, k_law_pick, b_law_pick, ok_law_pick F_law_pick Z C_law_taken⟩
  have C_law_heights : Cal P w K mg base CX0 3 "_law_heights" P_law_heights (spHeights K) := ⟨_, _, PySem.W.mg_of X G a_law_heights, k_law_heights, b_law_heights, ok_law_heights F_law_heights Z C_law_pick C_law_taken⟩
  have C_law_crossings : Cal P w K mg base CX0 1 "_law_crossings" P_law_crossings spCross := ⟨_, _, PySem.W.mg_of X G a_law_crossings, k_law_crossings, b_law_crossings, ok_law_crossings F_law_crossings Z ⟩
  have C_law_down : Cal P w K mg base CX0 1 "_law_down" P_law_down spDown := ⟨_, _, PySem.W.mg_of X G a_law_down, k_law_down, b_law_down, ok_law_down F_law_down Z ⟩
  have C_law_alike0 : Cal P w K mg base CX0 1 "_law_alike" P_law_alike spAlike0 := ⟨_, _, PySem.W.mg_of X G a_law_alike, k_law_alike, b_law_alike, ok_law_alike0 F_law_alike Z⟩
  have C_law_alike : Cal P w K mg base CX0 2 "_law_alike" P_law_alike spAlike := ⟨_, _, PySem.W.mg_of X G a_law_alike, k_law_alike, b_law_alike, ok_law_alike F_law_alike Z C_law_alike0⟩
  refine ok_law F_law Z TX (PySem.W.mg_of X G a_least_climb) (PySem.W.mg_of X G a_least_rise) (PySem.W.mg_of X G a_least_step) (PySem.W.mg_of X G a_rising) (fun f sp hf => ?_) C_law_alike C_law_crossings C_law_down C_law_heights C_law_net C_law_pick C_law_taken
  rcases hf with ⟨rfl, rfl⟩ | ⟨rfl, rfl⟩ | ⟨rfl, rfl⟩ | ⟨rfl, rfl⟩
  · exact ⟨_, _, ok_least_climb F_least_climb Z C_climb_of C_need_ends, k_least_climb, b_least_climb⟩
  · exact ⟨_, _, ok_least_rise F_least_rise Z C_need_ends C_pass_of, k_least_rise, b_least_rise⟩
  · exact ⟨_, _, ok_least_step F_least_step Z C_need_ends, k_least_step, b_least_step⟩
  · exact ⟨_, _, ok_rising F_rising Z C_climb_of C_need_ends, k_rising, b_rising⟩
theorem walk_law {l : PySem.W.OpenLaw} {q : Program} {loose : List Str} {XP : (Str → Option Value) → Heap → Prop} {YP : World → Heap → Prop} {d : DefRec} {K : Params → PySem.W.Frag} (hn : l.most = some 63) (hdf : d.params.defaults = [])
    (hY : ∀ (w : World) (h : Heap), YP w h → (K w.params).In h)
    (F : ∀ (w : World) (mg : Str → Option Value) (fa : Addr) (h : Heap), (K w.params).In h → h.Ns mainGlobals mg → mg d.name = some (.ref fa) →
      ∃ fd : FuncData, (∀ (s : Shared) (u : Value), BindsTo s fd ⟨[u], []⟩ [("_law_script", u)]) ∧ ∀ base : Heap, (K w.params).In base → base.Ns mainGlobals mg → FnOk l.prog w (K w.params) mg base CX0 7 fa fd ["_law_script"] (spLaw (K w.params))) :
    PySem.W.WalkO q loose XP YP l.row.toRowW d [] (fun f vs => PySem.call f vs) :=
  L2.walk_of (n := 63) (k := 7) (x := "_law_script") (CX := fun _ => CX0) (sp := fun w => spLaw (K w.params)) hn (by decide) hdf ⟨rfl, by decide, by decide⟩ hY F (fun _ _ a ns hl _ hS => ⟨a, ns, rfl, hS, hl, fun _ => rfl⟩) fun _ _ _ _ _ z => z
end Cl
open PySem PySem.W PyProof.Rows
set_option maxRecDepth 100000 in
set_option maxHeartbeats 0 in
theorem PySem.Challenge.cw_shavenets_k26_whole_climbs_holds : PySem.Challenge.rw_shavenets_k26_whole_climbs.Holds := by
  w_on; o_law; k_head; (case hw => w_witness2)
  k_fill
  refine Cl.walk_law (l := PySem.Challenge.rw_shavenets_k26_whole_climbs) rfl rfl (fun w h Y => PySem.W.kIn_of Y) ?F
  case F =>
    intro w mg fa h KX G hmg
    refine' Cl.all_mk KX G hmg ?a_whole ?l_whole ?c_whole ?k_whole ?a_within ?l_within ?c_within ?k_within ?a_tuple_of ?l_tuple_of ?c_tuple_of ?k_tuple_of ?a_need_net ?l_need_net ?c_need_net ?k_need_net ?a_need_row ?l_need_row ?c_need_row ?k_need_row ?a_need_both ?l_need_both ?c_need_both ?k_need_both ?a_need_point ?l_need_point ?c_need_point ?k_need_point ?a_near_of ?l_near_of ?c_near_of ?k_near_of ?a_reach ?l_reach ?c_reach ?k_reach ?a_parts_of ?l_parts_of ?c_parts_of ?k_parts_of ?a_above ?l_above ?c_above ?k_above ?a_pass_of ?l_pass_of ?c_pass_of ?k_pass_of ?a_need_ends ?l_need_ends ?c_need_ends ?k_need_ends ?a_climb_of ?l_climb_of ?c_climb_of ?k_climb_of ?a_least_climb ?l_least_climb ?c_least_climb ?k_least_climb ?a_least_rise ?l_least_rise ?c_least_rise ?k_least_rise ?a_least_step ?l_least_step ?c_least_step ?k_least_step ?a_rising ?l_rising ?c_rising ?k_rising ?a_law_taken ?l_law_taken ?c_law_taken ?k_law_taken ?a_law_net ?l_law_net ?c_law_net ?k_law_net ?a_law_pick ?l_law_pick ?c_law_pick ?k_law_pick ?a_law_heights ?l_law_heights ?c_law_heights ?k_law_heights ?a_law_crossings ?l_law_crossings ?c_law_crossings ?k_law_crossings ?a_law_down ?l_law_down ?c_law_down ?k_law_down ?a_law_alike ?l_law_alike ?c_law_alike ?k_law_alike ?a_law ?l_law ?c_law ?k_law ?z_range ?z_enumerate ?z_len ?z_max ?z_min ?z_abs ?z_sorted ?z_tuple ?z_int ?z_list ?z_bool ?z_str ?z_any ?z_all ?z_isinstance ?mp ?mh ?aN ?xN ?kN ?bN ?tN ?iN ?sN
    (case a_whole => k_is)
    (case l_whole => k_is)
    (case c_whole => k_is)
    (case k_whole => k_is)
    (case a_within => k_is)
    (case l_within => k_is)
    (case c_within => k_is)
    (case k_within => k_is)
    (case a_tuple_of => k_is)
    (case l_tuple_of => k_is)
    (case c_tuple_of => k_is)
    (case k_tuple_of => k_is)
    (case a_need_net => k_is)
    (case l_need_net => k_is)
    (case c_need_net => k_is)
    (case k_need_net => k_is)
    (case a_need_row => k_is)
    (case l_need_row => k_is)
    (case c_need_row => k_is)
    (case k_need_row => k_is)
    (case a_need_both => k_is)
    (case l_need_both => k_is)
    (case c_need_both => k_is)
    (case k_need_both => k_is)
    (case a_need_point => k_is)
    (case l_need_point => k_is)
    (case c_need_point => k_is)
    (case k_need_point => k_is)
    (case a_near_of => k_is)
    (case l_near_of => k_is)
    (case c_near_of => k_is)
    (case k_near_of => k_is)
    (case a_reach => k_is)
    (case l_reach => k_is)
    (case c_reach => k_is)
    (case k_reach => k_is)
    (case a_parts_of => k_is)
    (case l_parts_of => k_is)
    (case c_parts_of => k_is)
    (case k_parts_of => k_is)
    (case a_above => k_is)
    (case l_above => k_is)
    (case c_above => k_is)
    (case k_above => k_is)
    (case a_pass_of => k_is)
    (case l_pass_of => k_is)
    (case c_pass_of => k_is)
    (case k_pass_of => k_is)
    (case a_need_ends => k_is)
    (case l_need_ends => k_is)
    (case c_need_ends => k_is)
    (case k_need_ends => k_is)
    (case a_climb_of => k_is)
    (case l_climb_of => k_is)
    (case c_climb_of => k_is)
    (case k_climb_of => k_is)
    (case a_least_climb => k_is)
    (case l_least_climb => k_is)
    (case c_least_climb => k_is)
    (case k_least_climb => k_is)
    (case a_least_rise => k_is)
    (case l_least_rise => k_is)
    (case c_least_rise => k_is)
    (case k_least_rise => k_is)
    (case a_least_step => k_is)
    (case l_least_step => k_is)
    (case c_least_step => k_is)
    (case k_least_step => k_is)
    (case a_rising => k_is)
    (case l_rising => k_is)
    (case c_rising => k_is)
    (case k_rising => k_is)
    (case a_law_taken => k_is)
    (case l_law_taken => k_is)
    (case c_law_taken => k_is)
    (case k_law_taken => k_is)
    (case a_law_net => k_is)
    (case l_law_net => k_is)
    (case c_law_net => k_is)
    (case k_law_net => k_is)
    (case a_law_pick => k_is)
    (case l_law_pick => k_is)
    (case c_law_pick => k_is)
    (case k_law_pick => k_is)
    (case a_law_heights => k_is)
    (case l_law_heights => k_is)
    (case c_law_heights => k_is)
    (case k_law_heights => k_is)
    (case a_law_crossings => k_is)
    (case l_law_crossings => k_is)
    (case c_law_crossings => k_is)
    (case k_law_crossings => k_is)
    (case a_law_down => k_is)
    (case l_law_down => k_is)
    (case c_law_down => k_is)
    (case k_law_down => k_is)
    (case a_law_alike => k_is)
    (case l_law_alike => k_is)
    (case c_law_alike => k_is)
    (case k_law_alike => k_is)
    (case a_law => k_is)
    (case l_law => k_is)
    (case c_law => k_is)
    (case k_law => k_is)
    (case z_range => k_is)
    (case z_enumerate => k_is)
    (case z_len => k_is)
    (case z_max => k_is)
    (case z_min => k_is)
    (case z_abs => k_is)
    (case z_sorted => k_is)
    (case z_tuple => k_is)
    (case z_int => k_is)
    (case z_list => k_is)
    (case z_bool => k_is)
    (case z_str => k_is)
    (case z_any => k_is)
    (case z_all => k_is)
    (case z_isinstance => k_is)
    (case mp => k_is)
    (case mh => k_is)
    (case aN => k_is)
    (case xN => k_exc)
    (case kN => k_is)
    (case bN => k_is)
    (case tN => k_is)
    (case iN => k_is)
    (case sN => first | rfl | k_is)
