import PyProof.Rows.All
import Wide.All
import OpenK.AllK
import Wide.FinOn
import HandS.ForMost
import HandS.EndTab
import HandS.IsInst
import HandS.TupSets
import HandS.TupLe
import HandS.SetFor
import HandS.DictTup
import HandS.Walk
import PySem.Challenge.RW_joinworks_k10_whole_bounds_by_distances
import KE.GoesMore
import KE.GoesEnum
import KE.KMinKey
import HandS.SortKw
import HandS.Style
import KE.DatumOrd
import HandS.Strs
import HandS.TupLen
import HandS.Conv
import KE.KNestM
set_option Elab.async false
set_option linter.all false
/-! Plain mathematics, 1: ties, walks, least prices. -/
namespace K10M
abbrev Tie := Nat × Nat × Nat
def Edge (T : List Tie) (u v c : Nat) : Prop := (u, v, c) ∈ T ∨ (v, u, c) ∈ T
theorem Edge.symm {T : List Tie} {u v c : Nat} (h : Edge T u v c) : Edge T v u c := h.elim Or.inr Or.inl
inductive Walk (T : List Tie) : Nat → Nat → Nat → Prop
  | nil (u : Nat) : Walk T u u 0
  | snoc {u v x w c : Nat} : Walk T u v w → Edge T v x c → Walk T u x (w + c)
section
variable {T : List Tie}
theorem Walk.trans {u v a : Nat} (h : Walk T u v a) : ∀ {x b : Nat}, Walk T v x b → Walk T u x (a + b) := by
  intro x b g
  induction g with
  | nil => exact h
  | snoc _ e ih =>
    rw [← Nat.add_assoc]
    exact .snoc ih e
theorem Walk.one {u v c : Nat} (e : Edge T u v c) : Walk T u v c := by
  have := Walk.snoc (Walk.nil u) e
  rwa [Nat.zero_add] at this
theorem Walk.symm {u v w : Nat} (h : Walk T u v w) : Walk T v u w := by
  induction h with
  | nil => exact .nil _
  | snoc _ e ih =>
    rw [Nat.add_comm]
    exact (Walk.one e.symm).trans ih
/-- least prices told from a list of prices to begin with -/
structure Settle (T : List Tie) (n : Nat) (start told : List (Option Nat)) : Prop where
  len : told.length = n
  att : ∀ (v x : Nat), told[v]? = some (some x) → ∃ u s w, start[u]? = some (some s) ∧ Walk T u v w ∧ x = s + w
  opt : ∀ (u s v w : Nat), start[u]? = some (some s) → v < n → Walk T u v w → ∃ x, told[v]? = some (some x) ∧ x ≤ s + w
structure IsDist (T : List Tie) (n s : Nat) (row : List (Option Nat)) : Prop where
  len : row.length = n
  att : ∀ (v x : Nat), row[v]? = some (some x) → Walk T s v x
  opt : ∀ (v w : Nat), v < n → Walk T s v w → ∃ x, row[v]? = some (some x) ∧ x ≤ w
/-- ties whose places lie below n -/
def Within (T : List Tie) (n : Nat) : Prop := ∀ t ∈ T, t.1 < t.2.1 ∧ t.2.1 < n
theorem Within.edge {n u v c : Nat} (h : Within T n) (e : Edge T u v c) : u < n ∧ v < n ∧ u ≠ v := by
  rcases e with e | e
  · have := h _ e; simp at this; omega
  · have := h _ e; simp at this; omega
theorem settle_of {n : Nat} {start told : List (Option Nat)} (hT : Within T n) (hn : start.length = n) (len : told.length = n)
    (att : ∀ (v x : Nat), told[v]? = some (some x) → ∃ u s w, start[u]? = some (some s) ∧ Walk T u v w ∧ x = s + w)
    (low : ∀ (u s : Nat), start[u]? = some (some s) → ∃ x, told[u]? = some (some x) ∧ x ≤ s)
    (rel : ∀ (a b c x : Nat), Edge T a b c → told[a]? = some (some x) → ∃ y, told[b]? = some (some y) ∧ y ≤ x + c) : Settle T n start told := by
  refine ⟨len, att, fun u s v w hu hv hw => ?_⟩
  clear hv
  induction hw with
  | nil =>
    obtain ⟨x, h1, h2⟩ := low u s hu
    exact ⟨x, h1, by omega⟩
  | snoc _ e ih =>
    obtain ⟨x, h1, h2⟩ := ih
    obtain ⟨y, h3, h4⟩ := rel _ _ _ _ e h1
    exact ⟨y, h3, by omega⟩
theorem Settle.dist {n s : Nat} {start row : List (Option Nat)} (h : Settle T n start row) (hs : ∀ (u x : Nat), start[u]? = some (some x) ↔ u = s ∧ x = 0) : IsDist T n s row := by
  refine ⟨h.len, fun v x e => ?_, fun v w hv hw => ?_⟩
  · obtain ⟨u, y, w, h1, h2, h3⟩ := h.att v x e
    obtain ⟨rfl, rfl⟩ := (hs u y).mp h1
    rw [h3, Nat.zero_add]; exact h2
  · obtain ⟨x, h1, h2⟩ := h.opt s 0 v w ((hs s 0).mpr ⟨rfl, rfl⟩) hv hw
    exact ⟨x, h1, by omega⟩
theorem IsDist.uniq {n s : Nat} {r q : List (Option Nat)} (h : IsDist T n s r) (g : IsDist T n s q) : r = q := by
  have key : ∀ {r q : List (Option Nat)}, IsDist T n s r → IsDist T n s q → ∀ (v x : Nat), r[v]? = some (some x) → q[v]? = some (some x) := by
    intro r q h g v x e
    have hv : v < n := by
      have := (List.getElem?_eq_some_iff.mp e).1
      rw [h.len] at this; exact this
    obtain ⟨y, h1, h2⟩ := g.opt v x hv (h.att v x e)
    obtain ⟨z, h3, h4⟩ := h.opt v y hv (g.att v y h1)
    rw [e] at h3
    have : x = z := by injection h3 with h3; injection h3
    have : x = y := by omega
    rw [this]; exact h1
  refine List.ext_getElem? fun v => ?_
  by_cases hv : v < n
  · have hr : v < r.length := by rw [h.len]; exact hv
    have hq : v < q.length := by rw [g.len]; exact hv
    have e1 : r[v]? = some r[v] := List.getElem?_eq_getElem hr
    have e2 : q[v]? = some q[v] := List.getElem?_eq_getElem hq
    cases a : r[v] with
    | some x =>
      rw [a] at e1
      rw [e1, key h g v x e1]
    | none =>
      cases b : q[v] with
      | some x =>
        rw [b] at e2
        rw [key g h v x e2, e2]
      | none => rw [e1, e2, a, b]
  · rw [List.getElem?_eq_none (by rw [h.len]; omega), List.getElem?_eq_none (by rw [g.len]; omega)]
theorem IsDist.symm {n s t : Nat} {r q : List (Option Nat)} (h : IsDist T n s r) (g : IsDist T n t q) (hs : s < n) (ht : t < n) : ∀ x, r[t]? = some (some x) ↔ q[s]? = some (some x) := by
  have key : ∀ {s t : Nat} {r q : List (Option Nat)}, s < n → t < n → IsDist T n s r → IsDist T n t q → ∀ x, r[t]? = some (some x) → q[s]? = some (some x) := by
    intro s t r q hs ht h g x e
    obtain ⟨y, h1, h2⟩ := g.opt s x hs (h.att t x e).symm
    obtain ⟨z, h3, h4⟩ := h.opt t y ht (g.att s y h1).symm
    rw [e] at h3
    have : x = z := by injection h3 with h3; injection h3
    have : x = y := by omega
    rw [this]; exact h1
  exact fun x => ⟨key hs ht h g x, key ht hs g h x⟩

/-! ### rounds: each round makes one more good, unless all are -/
theorem countP_lt {α : Type} {p q : α → Bool} : ∀ {l : List α}, (∀ x ∈ l, p x = true → q x = true) → (∃ x ∈ l, p x = false ∧ q x = true) → l.countP p < l.countP q
  | [], _, h => by obtain ⟨x, h, _⟩ := h; cases h
  | a :: l, hm, h => by
    have hm' : ∀ x ∈ l, p x = true → q x = true := fun x hx => hm x (List.mem_cons_of_mem _ hx)
    have le : l.countP p ≤ l.countP q := List.countP_mono_left hm'
    obtain ⟨x, hx, h1, h2⟩ := h
    rw [List.countP_cons, List.countP_cons]
    rcases List.mem_cons.mp hx with rfl | hx
    · rw [h1, h2]; simp; omega
    · have := countP_lt hm' ⟨x, hx, h1, h2⟩
      have ha := hm a List.mem_cons_self
      cases hp : p a with
      | false => simp; omega
      | true => rw [ha hp]; simp; omega
theorem rounds {α : Type} (step : α → α) (good : α → Nat → Prop) (n : Nat) (Iv : α → Prop) (hI : ∀ s, Iv s → Iv (step s)) (mono : ∀ s i, Iv s → i < n → good s i → good (step s) i)
    (grow : ∀ s, Iv s → (∃ i, i < n ∧ ¬ good s i) → ∃ i, i < n ∧ ¬ good s i ∧ good (step s) i) : ∀ (s : α), Iv s → ∀ i, i < n → good (Nat.repeat step n s) i := by
  classical
  intro s hs
  have main : ∀ r, Iv (Nat.repeat step r s) ∧ ((∀ i, i < n → good (Nat.repeat step r s) i) ∨ r ≤ (List.range n).countP fun i => decide (good (Nat.repeat step r s) i)) := by
    intro r
    induction r with
    | zero => exact ⟨hs, .inr (Nat.zero_le _)⟩
    | succ r ih =>
      obtain ⟨iv, ih⟩ := ih
      refine ⟨hI _ iv, ?_⟩
      show (∀ i, i < n → good (step (Nat.repeat step r s)) i) ∨ _
      by_cases hall : ∀ i, i < n → good (Nat.repeat step r s) i
      · exact .inl fun i hi => mono _ i iv hi (hall i hi)
      · right
        rcases ih with ih | ih
        · exact absurd ih hall
        · have hex : ∃ i, i < n ∧ ¬ good (Nat.repeat step r s) i := by
            apply Classical.byContradiction
            intro hno
            exact hall fun i hi => Classical.byContradiction fun hg => hno ⟨i, hi, hg⟩
          obtain ⟨i, hi, h1, h2⟩ := grow _ iv hex
          have lt := countP_lt (p := fun i => decide (good (Nat.repeat step r s) i)) (q := fun i => decide (good (step (Nat.repeat step r s)) i)) (l := List.range n)
            (fun x hx hp => decide_eq_true (mono _ x iv (List.mem_range.mp hx) (of_decide_eq_true hp)))
            ⟨i, List.mem_range.mpr hi, decide_eq_false h1, decide_eq_true h2⟩
          show r + 1 ≤ (List.range n).countP fun i => decide (good (step (Nat.repeat step r s)) i)
          omega
  rcases (main n).2 with h | h
  · exact h
  · intro i hi
    have hle : (List.range n).countP (fun i => decide (good (Nat.repeat step n s) i)) = (List.range n).length := by
      have := List.countP_le_length (p := fun i => decide (good (Nat.repeat step n s) i)) (l := List.range n)
      rw [List.length_range] at this ⊢
      omega
    rw [List.countP_eq_length] at hle
    exact of_decide_eq_true (hle i (List.mem_range.mpr hi))

/-! ### the law's own rounds -/
def relax1 (far : List (Option Nat)) (h t c : Nat) : List (Option Nat) :=
  match far[h]?, far[t]? with
  | some (some x), some none => far.set t (some (x + c))
  | some (some x), some (some y) => if x + c < y then far.set t (some (x + c)) else far
  | _, _ => far
def farTie (far : List (Option Nat)) (t : Tie) : List (Option Nat) := relax1 (relax1 far t.1 t.2.1 t.2.2) t.2.1 t.1 t.2.2
def farRound (T : List Tie) (far : List (Option Nat)) : List (Option Nat) := T.foldl farTie far
/-- what a state of far is: of this length, each price is a walk's -/
structure FarOk (T : List Tie) (n s : Nat) (far : List (Option Nat)) : Prop where
  len : far.length = n
  att : ∀ (v x : Nat), far[v]? = some (some x) → Walk T s v x
theorem relax1_cases (far : List (Option Nat)) (h t c : Nat) : relax1 far h t c = far ∨ ∃ x, far[h]? = some (some x) ∧ relax1 far h t c = far.set t (some (x + c)) ∧ (far[t]? = some none ∨ ∃ y, far[t]? = some (some y) ∧ x + c < y) := by
  unfold relax1
  split
  · rename_i x h1 h2
    exact .inr ⟨x, h1, rfl, .inl h2⟩
  · rename_i x y h1 h2
    by_cases hc : x + c < y
    · rw [if_pos hc]
      exact .inr ⟨x, h1, rfl, .inr ⟨y, h2, hc⟩⟩
    · rw [if_neg hc]
      exact .inl rfl
  · exact .inl rfl
theorem relax1_ok {n s h t c : Nat} {far : List (Option Nat)} (F : FarOk T n s far) (e : Edge T h t c) : FarOk T n s (relax1 far h t c) := by
  rcases relax1_cases far h t c with q | ⟨x, h1, q, _⟩
  · rw [q]; exact F
  · rw [q]
    refine ⟨by rw [List.length_set]; exact F.len, fun v y hv => ?_⟩
    by_cases htv : t = v
    · subst htv
      rw [List.getElem?_set_self'] at hv
      cases hf : far[t]? with
      | none => rw [hf] at hv; cases hv
      | some z =>
        rw [hf] at hv
        have : x + c = y := by injection hv with hv; injection hv
        rw [← this]
        exact .snoc (F.att h x h1) e
    · rw [List.getElem?_set_ne htv] at hv
      exact F.att v y hv
/-- good: as the true row says -/
theorem relax1_keep {n s h t c v y : Nat} {far row : List (Option Nat)} (D : IsDist T n s row) (F : FarOk T n s far) (e : Edge T h t c) (hr : row[v]? = some (some y)) (hf : far[v]? = some (some y)) : (relax1 far h t c)[v]? = some (some y) := by
  rcases relax1_cases far h t c with q | ⟨x, h1, q, g⟩
  · rw [q]; exact hf
  · rw [q]
    by_cases htv : t = v
    · subst htv
      rcases g with g | ⟨z, g, hl⟩
      · rw [hf] at g; cases g
      · rw [hf] at g
        have : y = z := by injection g with g; injection g
        have hv : t < n := by
          have := (List.getElem?_eq_some_iff.mp hr).1
          rw [D.len] at this; exact this
        obtain ⟨z', h3, h4⟩ := D.opt t _ hv (.snoc (F.att h x h1) e)
        rw [hr] at h3
        have : y = z' := by injection h3 with h3; injection h3
        omega
    · rw [List.getElem?_set_ne htv]; exact hf
theorem relax1_hit {n s h t c x y : Nat} {far row : List (Option Nat)} (D : IsDist T n s row) (F : FarOk T n s far) (e : Edge T h t c) (hx : far[h]? = some (some x)) (hr : row[t]? = some (some y)) (hy : y = x + c) : (relax1 far h t c)[t]? = some (some y) := by
  have ht : t < n := by
    have := (List.getElem?_eq_some_iff.mp hr).1
    rw [D.len] at this; exact this
  have hl : t < far.length := by rw [F.len]; exact ht
  unfold relax1
  rw [hx]
  cases hf : far[t]? with
  | none => rw [List.getElem?_eq_none_iff] at hf; omega
  | some z =>
    cases z with
    | none =>
      show (far.set t (some (x + c)))[t]? = _
      rw [List.getElem?_set_self hl, hy]
    | some z =>
      show (if x + c < z then far.set t (some (x + c)) else far)[t]? = _
      by_cases hc : x + c < z
      · rw [if_pos hc, List.getElem?_set_self hl, hy]
      · rw [if_neg hc, hf]
        obtain ⟨z', h3, h4⟩ := D.opt t z ht (F.att t z hf)
        rw [hr] at h3
        have : y = z' := by injection h3 with h3; injection h3
        have : z = y := by omega
        rw [this]
theorem tie_ok {n s : Nat} {far : List (Option Nat)} {t : Tie} (F : FarOk T n s far) (ht : t ∈ T) : FarOk T n s (farTie far t) :=
  relax1_ok (relax1_ok F (.inl ht)) (.inr ht)
theorem tie_keep {n s v y : Nat} {far row : List (Option Nat)} {t : Tie} (D : IsDist T n s row) (F : FarOk T n s far) (ht : t ∈ T) (hr : row[v]? = some (some y)) (hf : far[v]? = some (some y)) : (farTie far t)[v]? = some (some y) :=
  relax1_keep D (relax1_ok F (.inl ht)) (.inr ht) hr (relax1_keep D F (.inl ht) hr hf)
theorem fold_ok {n s : Nat} {row : List (Option Nat)} (D : IsDist T n s row) : ∀ (l : List Tie) (far : List (Option Nat)), (∀ t ∈ l, t ∈ T) → FarOk T n s far →
    FarOk T n s (l.foldl farTie far) ∧ (∀ (v y : Nat), row[v]? = some (some y) → far[v]? = some (some y) → (l.foldl farTie far)[v]? = some (some y)) ∧
    ∀ (a b c x y : Nat), ((a, b, c) ∈ l ∨ (b, a, c) ∈ l) → row[a]? = some (some x) → far[a]? = some (some x) → row[b]? = some (some y) → y = x + c → (l.foldl farTie far)[b]? = some (some y)
  | [], far, _, F => ⟨F, fun _ _ _ h => h, fun a b c x y h => by rcases h with h | h <;> cases h⟩
  | t :: l, far, hl, F => by
    have ht : t ∈ T := hl t List.mem_cons_self
    have F1 := tie_ok F ht
    obtain ⟨i1, i2, i3⟩ := fold_ok D l (farTie far t) (fun u hu => hl u (List.mem_cons_of_mem _ hu)) F1
    refine ⟨i1, fun v y hr hf => i2 v y hr (tie_keep D F ht hr hf), fun a b c x y hm hra hfa hrb hy => ?_⟩
    have cons2 : ((a, b, c) = t ∨ (b, a, c) = t) ∨ ((a, b, c) ∈ l ∨ (b, a, c) ∈ l) := by
      rcases hm with hm | hm <;> rcases List.mem_cons.mp hm with e | e
      · exact .inl (.inl e)
      · exact .inr (.inl e)
      · exact .inl (.inr e)
      · exact .inr (.inr e)
    rcases cons2 with (e | e) | e
    · subst e
      refine i2 b y hrb ?_
      exact relax1_keep D (relax1_ok F (.inl ht)) (.inr ht) hrb (relax1_hit D F (.inl ht) hfa hrb hy)
    · subst e
      refine i2 b y hrb ?_
      exact relax1_hit D (relax1_ok F (.inl ht)) (.inr ht) (relax1_keep D F (.inl ht) hra hfa) hrb hy
    · exact i3 a b c x y e hra (tie_keep D F ht hra hfa) hrb hy
/-- the law's own row of least prices is the row -/
theorem far_is {n s : Nat} {row start : List (Option Nat)} (hT : Within T n) (D : IsDist T n s row) (hl : start.length = n) (hs : ∀ (u x : Nat), start[u]? = some (some x) ↔ u = s ∧ x = 0) : Nat.repeat (farRound T) n start = row := by
  have F0 : FarOk T n s start := ⟨hl, fun v x e => by obtain ⟨rfl, rfl⟩ := (hs v x).mp e; exact .nil _⟩
  have s0 : start[s]? = some (some 0) := (hs s 0).mpr ⟨rfl, rfl⟩
  have hsn : s < n := by
    have := (List.getElem?_eq_some_iff.mp s0).1
    rw [hl] at this; exact this
  have r0 : row[s]? = some (some 0) := by
    obtain ⟨x, h1, h2⟩ := D.opt s 0 hsn (.nil s)
    have : x = 0 := by omega
    rw [this] at h1; exact h1
  have main := rounds (farRound T) (fun (far : List (Option Nat)) (i : Nat) => ∀ y, row[i]? = some (some y) → far[i]? = some (some y)) n (fun far => FarOk T n s far ∧ far[s]? = some (some 0))
    (fun far ⟨F, f0⟩ => ⟨(fold_ok D T far (fun _ h => h) F).1, (fold_ok D T far (fun _ h => h) F).2.1 s 0 r0 f0⟩)
    (fun far i ⟨F, _⟩ hi g y hy => (fold_ok D T far (fun _ h => h) F).2.1 i y hy (g y hy))
    (fun far ⟨F, f0⟩ ⟨i, hi, hng⟩ => by
      -- a wrong place, its walk; the first wrong place along it
      have hex : ∃ y, row[i]? = some (some y) ∧ ¬ far[i]? = some (some y) := by
        apply Classical.byContradiction
        intro hno
        exact hng fun y hy => Classical.byContradiction fun hf => hno ⟨y, hy, hf⟩
      obtain ⟨y, hy, hf⟩ := hex
      have key : ∀ (v w : Nat), Walk T s v w → row[v]? = some (some w) → ¬ far[v]? = some (some w) → ∃ a b c x z, Edge T a b c ∧ row[a]? = some (some x) ∧ far[a]? = some (some x) ∧ row[b]? = some (some z) ∧ ¬ far[b]? = some (some z) ∧ z = x + c := by
        intro v w hw
        induction hw with
        | nil => intro h1 h2; exact absurd f0 h2
        | @snoc v x w c hw e ih =>
          intro h1 h2
          obtain ⟨hvn, hxn, _⟩ := hT.edge e
          obtain ⟨z, hz, hzl⟩ := D.opt v w hvn hw
          obtain ⟨z', hz', hzl'⟩ := D.opt x (z + c) hxn (.snoc (D.att v z hz) e)
          rw [h1] at hz'
          have : w + c = z' := by injection hz' with hz'; injection hz'
          have hzw : z = w := by omega
          subst hzw
          by_cases hg : far[v]? = some (some z)
          · exact ⟨v, x, c, z, z + c, e, hz, hg, h1, h2, rfl⟩
          · exact ih hz hg
      obtain ⟨a, b, c, x, z, e, h1, h2, h3, h4, h5⟩ := key i y (D.att i y hy) hy hf
      refine ⟨b, (hT.edge e).2.1, fun hall => h4 (hall z h3), fun y' hy' => ?_⟩
      have : z = y' := by rw [h3] at hy'; injection hy' with hy'; injection hy'
      subst this
      exact (fold_ok D T far (fun _ h => h) F).2.2 a b c x z e h1 h2 h3 h5)
  have FN : ∀ r, FarOk T n s (Nat.repeat (farRound T) r start) := by
    intro r
    induction r with
    | zero => exact F0
    | succ r ih => exact (fold_ok D T _ (fun _ h => h) ih).1
  have fin := main start ⟨F0, s0⟩
  refine IsDist.uniq (T := T) (n := n) (s := s) ⟨(FN n).len, (FN n).att, fun v w hv hw => ?_⟩ D
  obtain ⟨x, h1, h2⟩ := D.opt v w hv hw
  exact ⟨x, fin v hv x h1, h2⟩
end
end K10M


set_option Elab.async false
set_option linter.all false
/-! Plain mathematics, 2: parts, greedy trees. -/
namespace K10M
inductive Conn (R : Nat → Nat → Prop) : Nat → Nat → Prop
  | refl (u : Nat) : Conn R u u
  | step {u v x : Nat} : Conn R u v → (R v x ∨ R x v) → Conn R u x
section
variable {R S : Nat → Nat → Prop}
theorem Conn.trans {u v : Nat} (h : Conn R u v) : ∀ {x : Nat}, Conn R v x → Conn R u x := by
  intro x g
  induction g with
  | refl => exact h
  | step _ e ih => exact .step ih e
theorem Conn.one {u v : Nat} (e : R u v ∨ R v u) : Conn R u v := .step (.refl u) e
theorem Conn.symm {u v : Nat} (h : Conn R u v) : Conn R v u := by
  induction h with
  | refl => exact .refl _
  | step _ e ih => exact (Conn.one e.symm).trans ih
theorem Conn.lift {u v : Nat} (h : Conn R u v) (k : ∀ a b, R a b → Conn S a b) : Conn S u v := by
  induction h with
  | refl => exact .refl _
  | step _ e ih => exact ih.trans (e.elim (k _ _) fun z => (k _ _ z).symm)
theorem Conn.mono {u v : Nat} (h : Conn R u v) (k : ∀ a b, R a b → S a b) : Conn S u v := h.lift fun a b e => .one (.inl (k a b e))
/-- out of a set A: the last edge that leaves it -/
theorem Conn.leaves {A : Nat → Prop} {u w : Nat} (h : Conn R u w) (hu : A u) : A w ∨ ∃ a x, A a ∧ ¬ A x ∧ (R a x ∨ R x a) ∧ Conn (fun p q => R p q ∧ ¬ A p ∧ ¬ A q) x w := by
  classical
  induction h with
  | refl => exact .inl hu
  | @step v x _ e ih =>
    by_cases hx : A x
    · exact .inl hx
    · right
      rcases ih with hv | ⟨a, b, h1, h2, h3, h4⟩
      · exact ⟨v, x, hv, hx, e, .refl _⟩
      · by_cases hv : A v
        · exact ⟨v, x, hv, hx, e, .refl _⟩
        · exact ⟨a, b, h1, h2, h3, .step h4 (e.elim (fun z => .inl ⟨z, hv, hx⟩) fun z => .inr ⟨z, hx, hv⟩)⟩
end

/-! ### parts by labels -/
abbrev RP (P : List (Nat × Nat)) : Nat → Nat → Prop := fun a b => (a, b) ∈ P
def labPair (lb : List Nat) (p : Nat × Nat) : List Nat :=
  (lb.set p.1 (min (lb.getD p.1 0) (lb.getD p.2 0))).set p.2 (min (lb.getD p.1 0) (lb.getD p.2 0))
def labRound (P : List (Nat × Nat)) (lb : List Nat) : List Nat := P.foldl labPair lb
def labels (k : Nat) (P : List (Nat × Nat)) : List Nat := Nat.repeat (labRound P) k (List.range k)
structure LabOk (P : List (Nat × Nat)) (k : Nat) (lb : List Nat) : Prop where
  len : lb.length = k
  le : ∀ (i l : Nat), lb[i]? = some l → l ≤ i
  conn : ∀ (i l : Nat), lb[i]? = some l → Conn (RP P) l i
def Rep (P : List (Nat × Nat)) (m i : Nat) : Prop := Conn (RP P) m i ∧ ∀ j, Conn (RP P) j i → m ≤ j
theorem rep_ex (P : List (Nat × Nat)) : ∀ (n i j : Nat), j ≤ n → Conn (RP P) j i → ∃ m, Rep P m i := by
  classical
  intro n
  induction n with
  | zero =>
    intro i j hj h
    have : j = 0 := by omega
    subst this
    exact ⟨0, h, fun _ _ => Nat.zero_le _⟩
  | succ n ih =>
    intro i j hj h
    by_cases hs : ∃ j', j' < j ∧ Conn (RP P) j' i
    · obtain ⟨j', h1, h2⟩ := hs
      exact ih i j' (by omega) h2
    · exact ⟨j, h, fun j' h' => Nat.le_of_not_lt fun q => hs ⟨j', q, h'⟩⟩
theorem rep_of (P : List (Nat × Nat)) (i : Nat) : ∃ m, Rep P m i := rep_ex P i i i (Nat.le_refl _) (.refl _)
theorem Rep.uniq {P : List (Nat × Nat)} {m m' i : Nat} (h : Rep P m i) (h' : Rep P m' i) : m = m' := Nat.le_antisymm (h.2 _ h'.1) (h'.2 _ h.1)
theorem Rep.move {P : List (Nat × Nat)} {m i j : Nat} (h : Rep P m i) (c : Conn (RP P) i j) : Rep P m j := ⟨h.1.trans c, fun x hx => h.2 x (hx.trans c.symm)⟩
theorem Rep.self {P : List (Nat × Nat)} {m i : Nat} (h : Rep P m i) : Rep P m m := h.move h.1.symm
def Good (P : List (Nat × Nat)) (lb : List Nat) (i : Nat) : Prop := ∀ m, Rep P m i → lb[i]? = some m
theorem getD_some {lb : List Nat} {i d : Nat} (h : i < lb.length) : lb[i]? = some (lb.getD i d) := by
  rw [List.getElem?_eq_getElem h]
  simp [List.getD_eq_getElem?_getD, h]
def PIn (P : List (Nat × Nat)) (k : Nat) : Prop := ∀ p ∈ P, p.1 < k ∧ p.2 < k
section
variable {P : List (Nat × Nat)} {k : Nat} {lb : List Nat}
theorem labPair_get (lb : List Nat) (p : Nat × Nat) (i : Nat) (h1 : p.1 < lb.length) (h2 : p.2 < lb.length) : (labPair lb p)[i]? = if i = p.1 ∨ i = p.2 then some (min (lb.getD p.1 0) (lb.getD p.2 0)) else lb[i]? := by
  unfold labPair
  by_cases e2 : i = p.2
  · subst e2
    rw [List.getElem?_set_self (by rw [List.length_set]; exact h2), if_pos (.inr rfl)]
  · rw [List.getElem?_set_ne (Ne.symm e2)]
    by_cases e1 : i = p.1
    · subst e1
      rw [List.getElem?_set_self h1, if_pos (.inl rfl)]
    · rw [List.getElem?_set_ne (Ne.symm e1), if_neg (by rintro (z | z); exact e1 z; exact e2 z)]
theorem labPair_ok {p : Nat × Nat} (L : LabOk P k lb) (hk : PIn P k) (hp : p ∈ P) : LabOk P k (labPair lb p) := by
  obtain ⟨h1, h2⟩ := hk p hp
  rw [← L.len] at h1 h2
  have g1 := getD_some (d := 0) h1
  have g2 := getD_some (d := 0) h2
  have l1 := L.le _ _ g1
  have l2 := L.le _ _ g2
  have c1 := L.conn _ _ g1
  have c2 := L.conn _ _ g2
  have e : Conn (RP P) p.1 p.2 := .one (.inl hp)
  refine ⟨by unfold labPair; rw [List.length_set, List.length_set]; exact L.len, fun i l h => ?_, fun i l h => ?_⟩
  · rw [labPair_get lb p i h1 h2] at h
    split at h
    · rename_i q
      have : min (lb.getD p.1 0) (lb.getD p.2 0) = l := Option.some.inj h
      rcases q with q | q <;> omega
    · exact L.le i l h
  · rw [labPair_get lb p i h1 h2] at h
    split at h
    · rename_i q
      have hl : min (lb.getD p.1 0) (lb.getD p.2 0) = l := Option.some.inj h
      have a : Conn (RP P) l p.1 := by
        rcases Nat.le_total (lb.getD p.1 0) (lb.getD p.2 0) with z | z
        · rw [Nat.min_eq_left z] at hl; rw [← hl]; exact c1
        · rw [Nat.min_eq_right z] at hl; rw [← hl]; exact c2.trans e.symm
      rcases q with q | q
      · rw [q]; exact a
      · rw [q]; exact a.trans e
    · exact L.conn i l h
theorem LabOk.ge {i l m : Nat} (L : LabOk P k lb) (h : lb[i]? = some l) (r : Rep P m i) : m ≤ l := r.2 _ (L.conn i l h)
theorem labPair_keep {p : Nat × Nat} {i : Nat} (L : LabOk P k lb) (hk : PIn P k) (hp : p ∈ P) (g : Good P lb i) : Good P (labPair lb p) i := by
  intro m r
  have hi := g m r
  obtain ⟨h1, h2⟩ := hk p hp
  rw [← L.len] at h1 h2
  have g1 := getD_some (d := 0) h1
  have g2 := getD_some (d := 0) h2
  have e : Conn (RP P) p.1 p.2 := .one (.inl hp)
  rw [labPair_get lb p i h1 h2]
  split
  · rename_i q
    congr 1
    rcases q with q | q
    · subst q
      rw [g1] at hi
      have := Option.some.inj hi
      have := L.ge g2 (r.move e)
      omega
    · subst q
      rw [g2] at hi
      have := Option.some.inj hi
      have := L.ge g1 (r.move e.symm)
      omega
  · exact hi
theorem labPair_hit {p : Nat × Nat} {a b : Nat} (L : LabOk P k lb) (hk : PIn P k) (hp : p ∈ P) (hab : (p.1 = a ∧ p.2 = b) ∨ (p.1 = b ∧ p.2 = a)) (g : Good P lb a) : Good P (labPair lb p) b := by
  intro m r
  obtain ⟨h1, h2⟩ := hk p hp
  rw [← L.len] at h1 h2
  have g1 := getD_some (d := 0) h1
  have g2 := getD_some (d := 0) h2
  have e : Conn (RP P) p.1 p.2 := .one (.inl hp)
  rw [labPair_get lb p b h1 h2]
  rcases hab with ⟨rfl, rfl⟩ | ⟨rfl, rfl⟩
  · rw [if_pos (.inr rfl)]
    have hi := g m (r.move e.symm)
    rw [g1] at hi
    have := Option.some.inj hi
    have := L.ge g2 r
    congr 1; omega
  · rw [if_pos (.inl rfl)]
    have hi := g m (r.move e)
    rw [g2] at hi
    have := Option.some.inj hi
    have := L.ge g1 r
    congr 1; omega
theorem labFold (hk : PIn P k) : ∀ (l : List (Nat × Nat)) (lb : List Nat), (∀ p ∈ l, p ∈ P) → LabOk P k lb →
    LabOk P k (l.foldl labPair lb) ∧ (∀ i, Good P lb i → Good P (l.foldl labPair lb) i) ∧ ∀ a b, ((a, b) ∈ l ∨ (b, a) ∈ l) → Good P lb a → Good P (l.foldl labPair lb) b
  | [], lb, _, L => ⟨L, fun _ h => h, fun a b h => by rcases h with h | h <;> cases h⟩
  | p :: l, lb, hl, L => by
    have hp : p ∈ P := hl p List.mem_cons_self
    obtain ⟨i1, i2, i3⟩ := labFold hk l (labPair lb p) (fun u hu => hl u (List.mem_cons_of_mem _ hu)) (labPair_ok L hk hp)
    refine ⟨i1, fun i g => i2 i (labPair_keep L hk hp g), fun a b hm g => ?_⟩
    rcases hm with hm | hm <;> rcases List.mem_cons.mp hm with e | e
    · exact i2 b (labPair_hit L hk hp (.inl ⟨by rw [← e], by rw [← e]⟩) g)
    · exact i3 a b (.inl e) (labPair_keep L hk hp g)
    · exact i2 b (labPair_hit L hk hp (.inr ⟨by rw [← e], by rw [← e]⟩) g)
    · exact i3 a b (.inr e) (labPair_keep L hk hp g)
theorem lab0 (P : List (Nat × Nat)) (k : Nat) : LabOk P k (List.range k) := by
  refine ⟨List.length_range, fun i l h => ?_, fun i l h => ?_⟩
  · obtain ⟨h1, h2⟩ := List.getElem?_eq_some_iff.mp h
    rw [List.getElem_range] at h2
    omega
  · have e : i = l := by
      obtain ⟨h1, h2⟩ := List.getElem?_eq_some_iff.mp h
      rw [List.getElem_range] at h2
      exact h2
    rw [e]; exact .refl _
theorem labels_ok (hk : PIn P k) : LabOk P k (labels k P) := by
  have : ∀ r, LabOk P k (Nat.repeat (labRound P) r (List.range k)) := by
    intro r
    induction r with
    | zero => exact lab0 P k
    | succ r ih => exact (labFold hk P _ (fun _ h => h) ih).1
  exact this k
theorem labels_good (hk : PIn P k) : ∀ i, i < k → Good P (labels k P) i := by
  refine rounds (labRound P) (Good P) k (LabOk P k) (fun lb L => (labFold hk P lb (fun _ h => h) L).1) (fun lb i L _ g => (labFold hk P lb (fun _ h => h) L).2.1 i g) (fun lb L ⟨i, hi, hng⟩ => ?_) (List.range k) (lab0 P k)
  obtain ⟨m, hm⟩ := rep_of P i
  have gm : Good P lb m := by
    intro m' hm'
    have e : m = m' := hm.self.uniq hm'
    subst e
    have hml : m < lb.length := by
      have := hm.2 i (.refl _)
      rw [L.len]; omega
    have g := getD_some (d := 0) hml
    have h1 := L.le _ _ g
    have h2 := L.ge g hm.self
    rw [g]; congr 1; omega
  have key : ∀ x, Conn (RP P) m x → ¬ Good P lb x → ∃ a b, (RP P a b ∨ RP P b a) ∧ Good P lb a ∧ ¬ Good P lb b := by
    classical
    intro x hx
    induction hx with
    | refl => intro h; exact absurd gm h
    | @step v x _ e ih =>
      intro h
      by_cases hv : Good P lb v
      · exact ⟨v, x, e, hv, h⟩
      · exact ih hv
  obtain ⟨a, b, e, ga, gb⟩ := key i hm.1 hng
  have hb : b < k := by
    rcases e with e | e
    · exact (hk _ e).2
    · exact (hk _ e).1
  exact ⟨b, hb, gb, (labFold hk P lb (fun _ h => h) L).2.2 a b e ga⟩
theorem labels_rep (hk : PIn P k) {i m : Nat} (hi : i < k) (r : Rep P m i) : (labels k P)[i]? = some m := labels_good hk i hi m r
/-- how many parts: the places that are their own label -/
def nparts (k : Nat) (P : List (Nat × Nat)) : Nat := (List.range k).countP fun i => decide ((labels k P)[i]? = some i)
theorem root_iff (hk : PIn P k) {i : Nat} (hi : i < k) : (labels k P)[i]? = some i ↔ Rep P i i := by
  constructor
  · intro h
    obtain ⟨m, hm⟩ := rep_of P i
    have := labels_rep hk hi hm
    rw [h] at this
    have : i = m := Option.some.inj this
    subst this; exact hm
  · exact labels_rep hk hi
theorem labels_nil (k : Nat) : labels k [] = List.range k := by
  have : ∀ r, Nat.repeat (labRound []) r (List.range k) = List.range k := by
    intro r
    induction r with
    | zero => rfl
    | succ r ih => show labRound [] (Nat.repeat (labRound []) r (List.range k)) = _; rw [ih]; rfl
  exact this k
theorem nparts_nil (k : Nat) : nparts k [] = k := by
  unfold nparts
  rw [labels_nil]
  have : (List.range k).countP (fun i => decide ((List.range k)[i]? = some i)) = (List.range k).length := by
    rw [List.countP_eq_length]
    intro i hi
    have hi := List.mem_range.mp hi
    simp [hi]
  rw [this, List.length_range]
theorem countP_except {p q : Nat → Bool} : ∀ {l : List Nat} {M : Nat}, l.Nodup → M ∈ l → p M = true → (∀ x ∈ l, q x = (p x && decide (x ≠ M))) → l.countP q + 1 = l.countP p
  | [], _, _, h, _, _ => by cases h
  | a :: l, M, nd, hM, hp, hq => by
    obtain ⟨na, nd⟩ := List.nodup_cons.mp nd
    have ha := hq a List.mem_cons_self
    have hq' : ∀ x ∈ l, q x = (p x && decide (x ≠ M)) := fun x hx => hq x (List.mem_cons_of_mem _ hx)
    rw [List.countP_cons, List.countP_cons]
    rcases List.mem_cons.mp hM with e | hM'
    · subst e
      have : l.countP q = l.countP p := by
        apply List.countP_congr
        intro x hx
        have : x ≠ M := fun z => na (z ▸ hx)
        rw [hq' x hx]
        simp [this]
      rw [this, ha, hp]
      simp
    · have ih := countP_except nd hM' hp hq'
      have : a ≠ M := fun z => na (z ▸ hM')
      have e : q a = p a := by rw [ha]; simp [this]
      rw [e]
      omega
theorem conn_add {a b x y : Nat} : Conn (RP (P ++ [(a, b)])) x y ↔ Conn (RP P) x y ∨ (Conn (RP P) x a ∧ Conn (RP P) b y) ∨ (Conn (RP P) x b ∧ Conn (RP P) a y) := by
  have up : ∀ {u v : Nat}, Conn (RP P) u v → Conn (RP (P ++ [(a, b)])) u v := fun h => h.mono fun _ _ e => List.mem_append_left _ e
  have ab : Conn (RP (P ++ [(a, b)])) a b := .one (.inl (List.mem_append_right _ List.mem_cons_self))
  constructor
  · intro h
    induction h with
    | refl => exact .inl (.refl _)
    | @step v z _ e ih =>
      have e' : (RP P v z ∨ RP P z v) ∨ (v = a ∧ z = b) ∨ (v = b ∧ z = a) := by
        rcases e with e | e <;> rcases List.mem_append.mp e with e | e
        · exact .inl (.inl e)
        · have := List.mem_singleton.mp e; injection this with h1 h2; exact .inr (.inl ⟨h1, h2⟩)
        · exact .inl (.inr e)
        · have := List.mem_singleton.mp e; injection this with h1 h2; exact .inr (.inr ⟨h2, h1⟩)
      rcases e' with e' | ⟨rfl, rfl⟩ | ⟨rfl, rfl⟩
      · rcases ih with ih | ⟨i1, i2⟩ | ⟨i1, i2⟩
        · exact .inl (ih.step e')
        · exact .inr (.inl ⟨i1, i2.step e'⟩)
        · exact .inr (.inr ⟨i1, i2.step e'⟩)
      · rcases ih with ih | ⟨i1, i2⟩ | ⟨i1, i2⟩
        · exact .inr (.inl ⟨ih, .refl _⟩)
        · exact .inr (.inl ⟨i1, .refl _⟩)
        · exact .inl i1
      · rcases ih with ih | ⟨i1, i2⟩ | ⟨i1, i2⟩
        · exact .inr (.inr ⟨ih, .refl _⟩)
        · exact .inl i1
        · exact .inr (.inr ⟨i1, .refl _⟩)
  · rintro (h | ⟨h1, h2⟩ | ⟨h1, h2⟩)
    · exact up h
    · exact (up h1).trans (ab.trans (up h2))
    · exact (up h1).trans (ab.symm.trans (up h2))
theorem nparts_same {a b : Nat} (hk : PIn P k) (ha : a < k) (hb : b < k) (h : Conn (RP P) a b) : nparts k (P ++ [(a, b)]) = nparts k P := by
  have hk' : PIn (P ++ [(a, b)]) k := fun p hp => by
    rcases List.mem_append.mp hp with hp | hp
    · exact hk p hp
    · rw [List.mem_singleton.mp hp]; exact ⟨ha, hb⟩
  have eq : ∀ x y, Conn (RP (P ++ [(a, b)])) x y ↔ Conn (RP P) x y := fun x y => by
    rw [conn_add]
    exact ⟨fun z => z.elim id fun z => z.elim (fun z => (z.1.trans h).trans z.2) fun z => (z.1.trans h.symm).trans z.2, .inl⟩
  unfold nparts
  apply List.countP_congr
  intro i hi
  have hi := List.mem_range.mp hi
  rw [decide_eq_true_iff, decide_eq_true_iff, root_iff hk' hi, root_iff hk hi]
  unfold Rep
  constructor
  · exact fun z => ⟨.refl _, fun j hj => z.2 j ((eq _ _).mpr hj)⟩
  · exact fun z => ⟨.refl _, fun j hj => z.2 j ((eq _ _).mp hj)⟩
theorem nparts_less {a b : Nat} (hk : PIn P k) (ha : a < k) (hb : b < k) (h : ¬ Conn (RP P) a b) : nparts k (P ++ [(a, b)]) + 1 = nparts k P := by
  have hk' : PIn (P ++ [(a, b)]) k := fun p hp => by
    rcases List.mem_append.mp hp with hp | hp
    · exact hk p hp
    · rw [List.mem_singleton.mp hp]; exact ⟨ha, hb⟩
  obtain ⟨ra, hra⟩ := rep_of P a
  obtain ⟨rb, hrb⟩ := rep_of P b
  have hne : ra ≠ rb := fun e => h ((hra.1.symm.trans (e ▸ .refl _)).trans hrb.1)
  have la := hra.2 a (.refl _)
  have lb := hrb.2 b (.refl _)
  have key : ∀ i, Rep (P ++ [(a, b)]) i i ↔ Rep P i i ∧ i ≠ max ra rb := by
    intro i
    constructor
    · intro z
      refine ⟨⟨.refl _, fun j hj => z.2 j (conn_add.mpr (.inl hj))⟩, fun e => ?_⟩
      rcases Nat.lt_or_gt_of_ne hne with q | q
      · have ei : i = rb := by omega
        have := z.2 ra (conn_add.mpr (.inr (.inl ⟨hra.1, by rw [ei]; exact hrb.1.symm⟩)))
        omega
      · have ei : i = ra := by omega
        have := z.2 rb (conn_add.mpr (.inr (.inr ⟨hrb.1, by rw [ei]; exact hra.1.symm⟩)))
        omega
    · rintro ⟨z, hm⟩
      refine ⟨.refl _, fun j hj => ?_⟩
      rcases conn_add.mp hj with hj | ⟨h1, h2⟩ | ⟨h1, h2⟩
      · exact z.2 j hj
      · -- j ~ a, b ~ i : i = rb, j ≥ ra
        have ei : i = rb := z.uniq (hrb.move h2)
        have := hra.2 j h1
        omega
      · have ei : i = ra := z.uniq (hra.move h2)
        have := hrb.2 j h1
        omega
  unfold nparts
  refine countP_except (M := max ra rb) List.nodup_range (List.mem_range.mpr (by omega)) (decide_eq_true ?_) fun i hi => ?_
  · have hM : max ra rb < k := by omega
    rw [root_iff hk hM]
    rcases Nat.le_total ra rb with q | q
    · rw [Nat.max_eq_right q]; exact hrb.self
    · rw [Nat.max_eq_left q]; exact hra.self
  · have hi := List.mem_range.mp hi
    rw [Bool.eq_iff_iff, Bool.and_eq_true, decide_eq_true_iff, decide_eq_true_iff, decide_eq_true_iff, root_iff hk' hi, root_iff hk hi]
    exact key i
theorem nparts_all (hk : PIn P k) (h0 : 0 < k) (h : ∀ i j, i < k → j < k → Conn (RP P) i j) : nparts k P = 1 := by
  unfold nparts
  have e : (List.range k).countP (fun _ => false) + 1 = (List.range k).countP fun i => decide ((labels k P)[i]? = some i) := by
    refine countP_except (M := 0) List.nodup_range (List.mem_range.mpr h0) (decide_eq_true ?_) fun i hi => ?_
    · rw [root_iff hk h0]
      exact ⟨.refl _, fun _ _ => Nat.zero_le _⟩
    · have hi := List.mem_range.mp hi
      by_cases hz : i = 0
      · simp [hz]
      · have : ¬ (labels k P)[i]? = some i := by
          rw [root_iff hk hi]
          intro z
          have := z.2 0 (h 0 i h0 hi)
          omega
        simp [this]
  rw [← e]
  simp
theorem conn_of_one (hk : PIn P k) (h : nparts k P = 1) : ∀ i j, i < k → j < k → Conn (RP P) i j := by
  intro i j hi hj
  obtain ⟨a, ha⟩ := rep_of P i
  obtain ⟨b, hb⟩ := rep_of P j
  have hak : a < k := by have := ha.2 i (.refl _); omega
  have hbk : b < k := by have := hb.2 j (.refl _); omega
  by_cases e : a = b
  · subst e
    exact ha.1.symm.trans hb.1
  · exfalso
    have two := countP_except (p := fun i => decide ((labels k P)[i]? = some i)) (q := fun i => decide ((labels k P)[i]? = some i) && decide (i ≠ a)) (M := a) List.nodup_range (List.mem_range.mpr hak)
      (decide_eq_true ((root_iff hk hak).mpr ha.self)) fun _ _ => rfl
    have one := countP_except (p := fun i => decide ((labels k P)[i]? = some i) && decide (i ≠ a)) (q := fun i => (decide ((labels k P)[i]? = some i) && decide (i ≠ a)) && decide (i ≠ b)) (M := b) List.nodup_range (List.mem_range.mpr hbk)
      (by rw [Bool.and_eq_true]; exact ⟨decide_eq_true ((root_iff hk hbk).mpr hb.self), decide_eq_true fun z => e z.symm⟩) fun _ _ => rfl
    unfold nparts at h
    omega
end

/-! ### greedy trees -/
abbrev RT (F : List Tie) : Nat → Nat → Prop := fun a b => ∃ c, (a, b, c) ∈ F
def cost (F : List Tie) : Nat := (F.map fun e => e.2.2).sum
inductive Greedy (Vx : Nat → Prop) (D : Nat → Nat → Option Nat) : List Tie → Prop
  | nil : Greedy Vx D []
  | cons {H : List Tie} {u v c : Nat} : Greedy Vx D H → Vx u → Vx v → D u v = some c → ¬ Conn (RT H) u v →
      (∀ x y c', Vx x → Vx y → Conn (RT H) u x → ¬ Conn (RT H) u y → D x y = some c' → c ≤ c') → Greedy Vx D ((u, v, c) :: H)
/-- edges no cheaper than D says -/
def Dear (Vx : Nat → Prop) (D : Nat → Nat → Option Nat) (F : List Tie) : Prop := ∀ f ∈ F, Vx f.1 ∧ Vx f.2.1 ∧ ∃ c, c ≤ f.2.2 ∧ D f.1 f.2.1 = some c
theorem cost_erase : ∀ {F : List Tie} {f : Tie}, f ∈ F → cost (F.erase f) + f.2.2 = cost F
  | [], _, h => by cases h
  | a :: F, f, h => by
    unfold cost
    by_cases e : a = f
    · subst e
      rw [List.erase_cons_head]
      simp [Nat.add_comm]
    · have hm : f ∈ F := (List.mem_cons.mp h).resolve_left fun z => e z.symm
      have ih := cost_erase hm
      unfold cost at ih
      rw [List.erase_cons_tail (by simpa using e), List.map_cons, List.sum_cons, List.map_cons, List.sum_cons]
      omega
theorem greedy_step {Vx : Nat → Prop} {D : Nat → Nat → Option Nat} (hD : ∀ x y, Vx x → Vx y → D x y = D y x) {H : List Tie} (g : Greedy Vx D H) {F : List Tie} (hF : Dear Vx D F) (span : ∀ x y, Vx x → Vx y → Conn (RT F) x y) :
    ∃ F', Dear Vx D F' ∧ (∀ x y, Vx x → Vx y → Conn (RT (H ++ F')) x y) ∧ cost H + cost F' ≤ cost F := by
  induction g with
  | nil => exact ⟨F, hF, span, by unfold cost; simp⟩
  | @cons H u v c g hu hv hc hn hmin ih =>
    obtain ⟨F', d', s', c'⟩ := ih
    have hA : Conn (RT H) u u := .refl _
    rcases (s' u v hu hv).leaves (A := fun x => Conn (RT H) u x) hA with z | ⟨a, x, ha, hx, e, ho⟩
    · exact absurd z hn
    · have noH : ∀ {p q : Nat}, RT H p q → ¬ (p = a ∧ q = x) ∧ ¬ (p = x ∧ q = a) := fun {p q} r => by
        constructor
        · rintro ⟨rfl, rfl⟩; exact hx (ha.step (.inl r))
        · rintro ⟨rfl, rfl⟩; exact hx (ha.step (.inr r))
      -- the edge of F' that crosses
      have hf : ∃ f ∈ F', (f.1 = a ∧ f.2.1 = x) ∨ (f.1 = x ∧ f.2.1 = a) := by
        rcases e with ⟨c1, e⟩ | ⟨c1, e⟩ <;> rcases List.mem_append.mp e with e | e
        · exact absurd ⟨rfl, rfl⟩ (noH ⟨c1, e⟩).1
        · exact ⟨_, e, .inl ⟨rfl, rfl⟩⟩
        · exact absurd ⟨rfl, rfl⟩ (noH ⟨c1, e⟩).2
        · exact ⟨_, e, .inr ⟨rfl, rfl⟩⟩
      obtain ⟨f, hm, hfe⟩ := hf
      obtain ⟨v1, v2, c1, hc1, hDf⟩ := d' f hm
      have hcf : c ≤ f.2.2 := by
        rcases hfe with ⟨e1, e2⟩ | ⟨e1, e2⟩
        · rw [e1, e2] at hDf; rw [e1] at v1; rw [e2] at v2
          exact Nat.le_trans (hmin a x c1 v1 v2 ha hx hDf) hc1
        · rw [e1] at v1; rw [e2] at v2; rw [e1, e2, hD _ _ v1 v2] at hDf
          exact Nat.le_trans (hmin a x c1 v2 v1 ha hx hDf) hc1
      refine ⟨F'.erase f, fun z hz => d' z (List.mem_of_mem_erase hz), fun p q hp hq => (s' p q hp hq).lift fun r t hrt => ?_, ?_⟩
      · -- an edge of the old ones, in the new ones
        have upH : ∀ {r t : Nat}, Conn (RT H) r t → Conn (RT ((u, v, c) :: H ++ F'.erase f)) r t := fun h => h.mono fun _ _ ⟨c, e⟩ => ⟨c, List.mem_append_left _ (List.mem_cons_of_mem _ e)⟩
        have uv : Conn (RT ((u, v, c) :: H ++ F'.erase f)) u v := .one (.inl ⟨c, List.mem_append_left _ List.mem_cons_self⟩)
        have xv : Conn (RT ((u, v, c) :: H ++ F'.erase f)) x v := ho.mono fun r t ⟨⟨c2, e2⟩, nr, nt⟩ => by
          refine ⟨c2, ?_⟩
          rcases List.mem_append.mp e2 with e2 | e2
          · exact List.mem_append_left _ (List.mem_cons_of_mem _ e2)
          · refine List.mem_append_right _ ((List.mem_erase_of_ne fun z => ?_).mpr e2)
            rcases hfe with ⟨e3, e4⟩ | ⟨e3, e4⟩
            · rw [← z] at e3; exact nr (by rw [show r = a from e3]; exact ha)
            · rw [← z] at e4; exact nt (by rw [show t = a from e4]; exact ha)
        have ax : Conn (RT ((u, v, c) :: H ++ F'.erase f)) a x := ((upH ha).symm.trans uv).trans xv.symm
        obtain ⟨c2, e2⟩ := hrt
        rcases List.mem_append.mp e2 with e2 | e2
        · exact upH (.one (.inl ⟨c2, e2⟩))
        · by_cases z : (r, t, c2) = f
          · rcases hfe with ⟨e3, e4⟩ | ⟨e3, e4⟩
            · rw [← z] at e3 e4
              have e3 : r = a := e3
              have e4 : t = x := e4
              rw [e3, e4]; exact ax
            · rw [← z] at e3 e4
              have e3 : r = x := e3
              have e4 : t = a := e4
              rw [e3, e4]; exact ax.symm
          · exact .one (.inl ⟨c2, List.mem_append_right _ ((List.mem_erase_of_ne z).mpr e2)⟩)
      · have := cost_erase hm
        have e : cost ((u, v, c) :: H) = c + cost H := by unfold cost; rw [List.map_cons, List.sum_cons]
        omega
theorem greedy_le {Vx : Nat → Prop} {D : Nat → Nat → Option Nat} (hD : ∀ x y, Vx x → Vx y → D x y = D y x) {H F : List Tie} (g : Greedy Vx D H) (hF : Dear Vx D F) (span : ∀ x y, Vx x → Vx y → Conn (RT F) x y) : cost H ≤ cost F := by
  obtain ⟨F', _, _, h⟩ := greedy_step hD g hF span
  omega
theorem Greedy.dear {Vx : Nat → Prop} {D : Nat → Nat → Option Nat} {H : List Tie} (g : Greedy Vx D H) : Dear Vx D H := by
  induction g with
  | nil => exact fun _ h => nomatch h
  | cons _ hu hv hc _ _ ih =>
    intro f hf
    rcases List.mem_cons.mp hf with rfl | hf
    · exact ⟨hu, hv, _, Nat.le_refl _, hc⟩
    · exact ih f hf
end K10M


set_option Elab.async false
set_option linter.all false
/-! Plain mathematics, 3: webs of told places (the table), their tours. -/
namespace K10M
theorem disj_iff {X Y : Nat} : X &&& Y = 0 ↔ ∀ i, ¬ (X.testBit i = true ∧ Y.testBit i = true) := by
  constructor
  · intro h i ⟨h1, h2⟩
    have : (X &&& Y).testBit i = true := by rw [Nat.testBit_and, h1, h2]; rfl
    rw [h, Nat.zero_testBit] at this
    cases this
  · intro h
    apply Nat.eq_of_testBit_eq
    intro i
    rw [Nat.testBit_and, Nat.zero_testBit]
    cases a : X.testBit i with
    | false => rfl
    | true =>
      cases b : Y.testBit i with
      | false => rfl
      | true => exact absurd ⟨a, b⟩ (h i)
theorem bit_two {a i : Nat} : (2 ^ a).testBit i = true ↔ a = i := by
  rw [Nat.testBit_two_pow]; exact decide_eq_true_iff
theorem bit_or {X Y i : Nat} : (X ||| Y).testBit i = true ↔ X.testBit i = true ∨ Y.testBit i = true := by
  rw [Nat.testBit_or, Bool.or_eq_true]
inductive Web (T : List Tie) (told : List Nat) : Nat → Nat → Nat → Prop
  | start {a p : Nat} : told[a]? = some p → Web T told (2 ^ a) p 0
  | move {X u v w c : Nat} : Web T told X u w → Edge T u v c → Web T told X v (w + c)
  | meet {X Y u w w' : Nat} : Web T told X u w → Web T told Y u w' → X &&& Y = 0 → Web T told (X ||| Y) u (w + w')
section
variable {T : List Tie} {told : List Nat}
theorem Web.cast {X Y u w w' : Nat} (h : Web T told X u w) (e : X = Y) (e' : w = w') : Web T told Y u w' := by subst e; subst e'; exact h
theorem Web.walk {X u w : Nat} (h : Web T told X u w) {v c : Nat} (k : Walk T u v c) : Web T told X v (w + c) := by
  induction k with
  | nil => exact h
  | snoc _ e ih => exact (ih.move e).cast rfl (Nat.add_assoc _ _ _)
theorem Web.reroot {X z w : Nat} (h : Web T told X z w) : ∀ {a p : Nat}, X.testBit a = true → told[a]? = some p →
    (∃ w1, w1 ≤ w ∧ Web T told X p w1) ∧ ∀ {V w' : Nat}, Web T told V z w' → X &&& V = 0 → ∃ w2, w2 ≤ w + w' ∧ Web T told (X ||| V) p w2 := by
  induction h with
  | @start b q hq =>
    intro a p ha hp
    have := bit_two.mp ha
    subst this
    rw [hq] at hp
    have := Option.some.inj hp
    subst this
    exact ⟨⟨0, Nat.le_refl _, .start hq⟩, fun g d => ⟨_, Nat.le_refl _, .meet (.start hq) g d⟩⟩
  | @move X u v w c h e ih =>
    intro a p ha hp
    obtain ⟨⟨w1, l1, g1⟩, h2⟩ := ih ha hp
    refine ⟨⟨w1, by omega, g1⟩, fun {V w'} g d => ?_⟩
    obtain ⟨w2, l2, g2⟩ := h2 (g.move e.symm) d
    exact ⟨w2, by omega, g2⟩
  | @meet X Y u w w' h1 h2 d ih1 ih2 =>
    intro a p ha hp
    have dd := disj_iff.mp d
    have dsym : Y &&& X = 0 := by rw [Nat.and_comm]; exact d
    rcases bit_or.mp ha with hX | hY
    · obtain ⟨_, k⟩ := ih1 hX hp
      refine ⟨k h2 d, fun {V v} g e => ?_⟩
      have ee := disj_iff.mp e
      have hYV : Y &&& V = 0 := disj_iff.mpr fun i z => ee i ⟨bit_or.mpr (.inr z.1), z.2⟩
      have hXYV : X &&& (Y ||| V) = 0 := disj_iff.mpr fun i z => (bit_or.mp z.2).elim (fun q => dd i ⟨z.1, q⟩) fun q => ee i ⟨bit_or.mpr (.inl z.1), q⟩
      obtain ⟨w2, l2, g2⟩ := k (.meet h2 g hYV) hXYV
      exact ⟨w2, by omega, g2.cast (Nat.or_assoc _ _ _).symm rfl⟩
    · obtain ⟨_, k⟩ := ih2 hY hp
      refine ⟨?_, fun {V v} g e => ?_⟩
      · obtain ⟨w2, l2, g2⟩ := k h1 dsym
        exact ⟨w2, by omega, g2.cast (Nat.or_comm _ _) rfl⟩
      · have ee := disj_iff.mp e
        have hXV : X &&& V = 0 := disj_iff.mpr fun i z => ee i ⟨bit_or.mpr (.inl z.1), z.2⟩
        have hYXV : Y &&& (X ||| V) = 0 := disj_iff.mpr fun i z => (bit_or.mp z.2).elim (fun q => dd i ⟨q, z.1⟩) fun q => ee i ⟨bit_or.mpr (.inr z.1), q⟩
        obtain ⟨w2, l2, g2⟩ := k (.meet h1 g hXV) hYXV
        refine ⟨w2, by omega, g2.cast ?_ rfl⟩
        rw [← Nat.or_assoc, Nat.or_comm Y X]
/-! ### tours: (bit, leg) in turn, to v behind the last -/
abbrev Legs1 := List (Nat × Nat)
def nxt (told : List Nat) : Legs1 → Nat → Nat
  | [], v => v
  | (a, _) :: _, _ => told.getD a 0
def Legs (T : List Tie) (told : List Nat) : Legs1 → Nat → Prop
  | [], _ => True
  | (a, e) :: r, v => Walk T (told.getD a 0) (nxt told r v) e ∧ Legs T told r v
def lsum (l : Legs1) : Nat := (l.map (·.2)).sum
theorem nxt_app (A B : Legs1) (v : Nat) : nxt told (A ++ B) v = nxt told A (nxt told B v) := by
  cases A with
  | nil => rfl
  | cons x A => rfl
theorem legs_app : ∀ (A B : Legs1) (v : Nat), Legs T told (A ++ B) v ↔ Legs T told A (nxt told B v) ∧ Legs T told B v
  | [], B, v => by simp [Legs]
  | (a, e) :: A, B, v => by
    show (Walk T (told.getD a 0) (nxt told (A ++ B) v) e ∧ Legs T told (A ++ B) v) ↔ (Walk T (told.getD a 0) (nxt told A (nxt told B v)) e ∧ Legs T told A (nxt told B v)) ∧ Legs T told B v
    rw [legs_app A B v, nxt_app, and_assoc]
theorem nxt_ne {l : Legs1} (h : l ≠ []) (u v : Nat) : nxt told l u = nxt told l v := by
  cases l with
  | nil => exact absurd rfl h
  | cons x l => rfl
/-- the last leg goes on -/
def addLast : Legs1 → Nat → Legs1
  | [], _ => []
  | [(a, e)], c => [(a, e + c)]
  | x :: y :: r, c => x :: addLast (y :: r) c
theorem addLast_fst : ∀ (l : Legs1) (c : Nat), (addLast l c).map (·.1) = l.map (·.1)
  | [], _ => rfl
  | [(a, e)], _ => rfl
  | x :: y :: r, c => by
    show x.1 :: (addLast (y :: r) c).map (·.1) = x.1 :: (y :: r).map (·.1)
    rw [addLast_fst]
theorem addLast_ne {l : Legs1} (h : l ≠ []) (c : Nat) : addLast l c ≠ [] := fun z => by
  have := congrArg List.length (addLast_fst l c)
  rw [z] at this
  simp at this
  exact h (List.eq_nil_of_length_eq_zero this.symm)
theorem addLast_nxt : ∀ (l : Legs1) (c v : Nat), nxt told (addLast l c) v = nxt told l v
  | [], _, _ => rfl
  | [(a, e)], _, _ => rfl
  | x :: y :: r, c, v => rfl
theorem addLast_sum : ∀ {l : Legs1} (c : Nat), l ≠ [] → lsum (addLast l c) = lsum l + c
  | [], _, h => absurd rfl h
  | [(a, e)], c, _ => by simp [addLast, lsum]
  | x :: y :: r, c, _ => by
    have ih := addLast_sum (l := y :: r) c (by simp)
    unfold lsum at ih ⊢
    show ((x :: addLast (y :: r) c).map (·.2)).sum = ((x :: y :: r).map (·.2)).sum + c
    rw [List.map_cons, List.sum_cons, ih, List.map_cons (l := y :: r), List.sum_cons]
    omega
theorem addLast_legs : ∀ {l : Legs1} {v u c : Nat}, l ≠ [] → Legs T told l v → Walk T v u c → Legs T told (addLast l c) u
  | [], _, _, _, h, _, _ => absurd rfl h
  | [(a, e)], v, u, c, _, h, k => ⟨Walk.trans h.1 k, trivial⟩
  | (a, e) :: y :: r, v, u, c, _, h, k => by
    have ih := addLast_legs (l := y :: r) (by simp) h.2 k
    refine ⟨?_, ih⟩
    have e1 : nxt told (addLast (y :: r) c) u = nxt told (y :: r) v := by rw [addLast_nxt]; rfl
    rw [e1]
    exact h.1
/-- a web's tour: out to the first told place, along them, back -/
theorem Web.tour {X z w : Nat} (h : Web T told X z w) : ∃ (l : Legs1) (f : Nat), l ≠ [] ∧ (l.map (·.1)).Nodup ∧ (∀ a, a ∈ l.map (·.1) ↔ X.testBit a = true) ∧ (∀ a, a ∈ l.map (·.1) → a < told.length) ∧ Walk T z (nxt told l z) f ∧ Legs T told l z ∧ f + lsum l = 2 * w := by
  induction h with
  | @start a p hp =>
    have hl : a < told.length := (List.getElem?_eq_some_iff.mp hp).1
    have hg : told.getD a 0 = p := by simp [List.getD_eq_getElem?_getD, hp]
    refine ⟨[(a, 0)], 0, by simp, by simp, fun b => ?_, fun b hb => ?_, ?_, ⟨?_, trivial⟩, by simp [lsum]⟩
    · rw [bit_two]; simp [eq_comm]
    · simp at hb; rw [hb]; exact hl
    · show Walk T p (told.getD a 0) 0
      rw [hg]; exact .nil _
    · show Walk T (told.getD a 0) p 0
      rw [hg]; exact .nil _
  | @move X u v w c h e ih =>
    obtain ⟨l, f, ne, nd, hm, hl, hf, hL, hs⟩ := ih
    refine ⟨addLast l c, c + f, addLast_ne ne c, by rw [addLast_fst]; exact nd, fun a => by rw [addLast_fst]; exact hm a, fun a => by rw [addLast_fst]; exact hl a, ?_, addLast_legs ne hL (Walk.one e), ?_⟩
    · rw [addLast_nxt, nxt_ne ne v u]
      exact (Walk.one e.symm).trans hf
    · rw [addLast_sum c ne]; omega
  | @meet X Y u w w' h1 h2 d ih1 ih2 =>
    obtain ⟨l, f, ne, nd, hm, hl, hf, hL, hs⟩ := ih1
    obtain ⟨l', f', ne', nd', hm', hl', hf', hL', hs'⟩ := ih2
    have dd := disj_iff.mp d
    refine ⟨addLast l f' ++ l', f, by simp [addLast_ne ne], ?_, fun a => ?_, fun a => ?_, ?_, ?_, ?_⟩
    · rw [List.map_append, addLast_fst]
      refine List.nodup_append.mpr ⟨nd, nd', fun a ha b hb e => ?_⟩
      subst e
      exact dd a ⟨(hm a).mp ha, (hm' a).mp hb⟩
    · rw [List.map_append, addLast_fst, List.mem_append, hm, hm', bit_or]
    · rw [List.map_append, addLast_fst, List.mem_append]
      exact fun z => z.elim (hl a) (hl' a)
    · rw [nxt_app, addLast_nxt, nxt_ne ne _ u]
      exact hf
    · rw [legs_app]
      exact ⟨addLast_legs ne hL hf', hL'⟩
    · have e : lsum (addLast l f' ++ l') = lsum (addLast l f') + lsum l' := by unfold lsum; rw [List.map_append, List.sum_append]
      rw [e, addLast_sum f' ne]
      omega
/-- closed at the first: the tour round -/
theorem tour_round {l : Legs1} {f z : Nat} (ne : l ≠ []) (hf : Walk T z (nxt told l z) f) (hL : Legs T told l z) : Legs T told (addLast l f) (nxt told (addLast l f) 0) := by
  rw [addLast_nxt, nxt_ne ne 0 z]
  exact addLast_legs ne hL hf
/-- turned: B ++ A in place of A ++ B -/
theorem tour_turn {A B : Legs1} (h : Legs T told (A ++ B) (nxt told (A ++ B) 0)) : Legs T told (B ++ A) (nxt told (B ++ A) 0) := by
  cases A with
  | nil => simpa using h
  | cons x A =>
    cases B with
    | nil => simpa using h
    | cons y B =>
      rw [legs_app] at h ⊢
      refine ⟨?_, ?_⟩
      · exact h.2
      · exact h.1
/-- the way along all but the last leg, as edges between told places -/
def wayOf (told : List Nat) : Legs1 → List Tie
  | [] => []
  | [_] => []
  | (a, e) :: (b, e') :: r => (told.getD a 0, told.getD b 0, e) :: wayOf told ((b, e') :: r)
theorem way_cost : ∀ (l : Legs1) (a e : Nat), cost (wayOf told (l ++ [(a, e)])) = lsum l
  | [], a, e => rfl
  | [(b, e')], a, e => by simp [wayOf, cost, lsum]
  | (b, e') :: (c, e2) :: r, a, e => by
    have ih := way_cost ((c, e2) :: r) a e
    have e1 : cost ((told.getD b 0, told.getD c 0, e') :: wayOf told ((c, e2) :: r ++ [(a, e)])) = e' + cost (wayOf told ((c, e2) :: r ++ [(a, e)])) := by unfold cost; rw [List.map_cons, List.sum_cons]
    have e2' : lsum ((b, e') :: (c, e2) :: r) = e' + lsum ((c, e2) :: r) := by unfold lsum; rw [List.map_cons, List.sum_cons]
    show cost ((told.getD b 0, told.getD c 0, e') :: wayOf told ((c, e2) :: r ++ [(a, e)])) = _
    rw [e1, ih, e2']
theorem way_conn : ∀ (l : Legs1) (x : Nat × Nat), x ∈ l → Conn (RT (wayOf told l)) (nxt told l 0) (told.getD x.1 0)
  | [], _, h => nomatch h
  | [(a, e)], x, h => by
    have : x = (a, e) := List.mem_singleton.mp h
    subst this
    exact .refl _
  | (a, e) :: (b, e') :: r, x, h => by
    have up : ∀ {u v : Nat}, Conn (RT (wayOf told ((b, e') :: r))) u v → Conn (RT (wayOf told ((a, e) :: (b, e') :: r))) u v := fun h => h.mono fun _ _ ⟨c, q⟩ => ⟨c, List.mem_cons_of_mem _ q⟩
    have ab : Conn (RT (wayOf told ((a, e) :: (b, e') :: r))) (told.getD a 0) (told.getD b 0) := .one (.inl ⟨e, List.mem_cons_self⟩)
    rcases List.mem_cons.mp h with rfl | h
    · exact .refl _
    · exact ab.trans (up (way_conn ((b, e') :: r) x h))
theorem way_edge : ∀ {l : Legs1} {v : Nat}, Legs T told l v → ∀ f ∈ wayOf told l, ∃ a b, a ∈ l.map (·.1) ∧ b ∈ l.map (·.1) ∧ f.1 = told.getD a 0 ∧ f.2.1 = told.getD b 0 ∧ Walk T f.1 f.2.1 f.2.2
  | [], _, _, _, h => nomatch h
  | [_], _, _, _, h => nomatch h
  | (a, e) :: (b, e') :: r, v, h, f, hf => by
    rcases List.mem_cons.mp hf with rfl | hf
    · exact ⟨a, b, by simp, by simp, rfl, rfl, h.1⟩
    · obtain ⟨c, d, h1, h2, h3⟩ := way_edge h.2 f hf
      exact ⟨c, d, List.mem_cons_of_mem _ h1, List.mem_cons_of_mem _ h2, h3⟩
theorem nodup_len : ∀ {l D : List Nat}, l.Nodup → (∀ x ∈ l, x ∈ D) → l.length ≤ D.length
  | [], _, _, _ => Nat.zero_le _
  | a :: l, D, nd, h => by
    obtain ⟨na, nd⟩ := List.nodup_cons.mp nd
    have ha := h a List.mem_cons_self
    have ih := nodup_len (l := l) (D := D.erase a) nd fun x hx => (List.mem_erase_of_ne fun e => na (by rw [← e]; exact hx)).mpr (h x (List.mem_cons_of_mem _ hx))
    rw [List.length_erase_of_mem ha] at ih
    have := List.length_pos_of_mem ha
    rw [List.length_cons]
    omega
theorem sum_le : ∀ {l : Legs1} {m t : Nat}, (∀ x ∈ l, m + x.2 ≤ t) → l.length * m + lsum l ≤ l.length * t
  | [], _, _, _ => by simp [lsum]
  | x :: l, m, t, h => by
    have ih := sum_le (l := l) fun y hy => h y (List.mem_cons_of_mem _ hy)
    have hx := h x List.mem_cons_self
    have e : lsum (x :: l) = x.2 + lsum l := by simp [lsum]
    rw [e, List.length_cons, Nat.add_mul, Nat.add_mul, Nat.one_mul, Nat.one_mul]
    omega
/-- a least tree of the told places costs at most 2 - 2/k times a web -/
theorem web_bound {Dst : Nat → Nat → Option Nat} {m w z : Nat} (k : Nat) (hk : k = told.length) (h0 : 0 < k)
    (hleast : ∀ F : List Tie, Dear (fun x => x ∈ told) Dst F → (∀ x y, x ∈ told → y ∈ told → Conn (RT F) x y) → m ≤ cost F)
    (hD : ∀ x y e, x ∈ told → y ∈ told → Walk T x y e → ∃ c, c ≤ e ∧ Dst x y = some c)
    (h : Web T told (2 ^ k - 1) z w) : k * m ≤ 2 * (k - 1) * w := by
  obtain ⟨l, f, ne, nd, hm, hl, hf, hL, hs⟩ := h.tour
  have hR := tour_round ne hf hL
  have ne2 := addLast_ne ne f
  generalize hg : addLast l f = g at hR ne2
  have gf : g.map (·.1) = l.map (·.1) := by rw [← hg, addLast_fst]
  have gs : lsum g = 2 * w := by rw [← hg, addLast_sum f ne]; omega
  have mem : ∀ a, a ∈ g.map (·.1) ↔ a < k := fun a => by
    rw [gf, hm, Nat.testBit_two_pow_sub_one]; exact decide_eq_true_iff
  have len : g.length = k := by
    have e : (g.map (·.1)).length = g.length := List.length_map ..
    have h1 : (g.map (·.1)).length ≤ (List.range k).length := nodup_len (by rw [gf]; exact nd) fun x hx => List.mem_range.mpr ((mem x).mp hx)
    have h2 : (List.range k).length ≤ (g.map (·.1)).length := nodup_len List.nodup_range fun x hx => (mem x).mpr (List.mem_range.mp hx)
    rw [List.length_range] at h1 h2
    omega
  have toldAt : ∀ a, a < k → told.getD a 0 ∈ told := fun a ha => by
    have : told[a]? = some (told.getD a 0) := getD_some (by omega)
    exact List.mem_of_getElem? this
  have each : ∀ x ∈ g, m + x.2 ≤ 2 * w := by
    intro x hx
    obtain ⟨A, B, e⟩ := List.append_of_mem hx
    subst e
    have hT : Legs T told (B ++ (A ++ [x])) (nxt told (B ++ (A ++ [x])) 0) := by
      have := tour_turn (A := A ++ [x]) (B := B) (by simpa using hR)
      exact this
    have em : ∀ a, a ∈ (B ++ (A ++ [x])).map (·.1) ↔ a < k := fun a => by
      rw [← mem a]
      simp only [List.map_append, List.map_cons, List.map_nil, List.mem_append, List.mem_cons, List.not_mem_nil, or_false]
      constructor <;> (intro q; rcases q with q | q | q <;> simp [q])
    have es : lsum (B ++ (A ++ [x])) = 2 * w := by
      rw [← gs]
      simp only [lsum, List.map_append, List.map_cons, List.map_nil, List.sum_append, List.sum_cons, List.sum_nil]
      omega
    have c := way_cost (told := told) (B ++ A) x.1 x.2
    have e2 : (B ++ A) ++ [(x.1, x.2)] = B ++ (A ++ [x]) := by simp
    rw [e2] at c
    have es2 : lsum (B ++ (A ++ [x])) = lsum (B ++ A) + x.2 := by
      simp only [lsum, List.map_append, List.map_cons, List.map_nil, List.sum_append, List.sum_cons, List.sum_nil]
      omega
    have low := hleast (wayOf told (B ++ (A ++ [x]))) (fun q hq => by
      obtain ⟨a, b, ha, hb, h1, h2, h3⟩ := way_edge hT q hq
      have ta := toldAt a ((em a).mp ha)
      have tb := toldAt b ((em b).mp hb)
      rw [← h1] at ta
      rw [← h2] at tb
      exact ⟨ta, tb, hD _ _ _ ta tb h3⟩) (fun p q hp hq => by
      have at_ : ∀ p, p ∈ told → Conn (RT (wayOf told (B ++ (A ++ [x])))) (nxt told (B ++ (A ++ [x])) 0) p := fun p hp => by
        obtain ⟨i, hi⟩ := List.mem_iff_getElem?.mp hp
        have hil : i < k := by rw [hk]; exact (List.getElem?_eq_some_iff.mp hi).1
        obtain ⟨y, hy, hy1⟩ := List.mem_map.mp ((em i).mpr hil)
        have := way_conn (told := told) (B ++ (A ++ [x])) y hy
        have e3 : told.getD y.1 0 = p := by rw [hy1]; simp [List.getD_eq_getElem?_getD, hi]
        rw [e3] at this
        exact this
      exact (at_ p hp).symm.trans (at_ q hq))
    rw [c] at low
    omega
  have := sum_le each
  rw [len, gs] at this
  have e : 2 * (k - 1) * w + 2 * w = k * (2 * w) := by
    obtain ⟨j, rfl⟩ : ∃ j, k = j + 1 := ⟨k - 1, by omega⟩
    rw [Nat.add_sub_cancel, Nat.add_mul, Nat.one_mul]
    have : 2 * j * w = j * (2 * w) := by rw [Nat.mul_comm 2 j, Nat.mul_assoc]
    omega
  omega
end
end K10M


set_option Elab.async false
set_option linter.all false
/-! Plain mathematics, 4: both least trees of the told places. -/
namespace K10M
/-- what is told: the web's ties, the told places, the row of each -/
structure Base (T : List Tie) (n : Nat) (told : List Nat) (row : Nat → List (Option Nat)) : Prop where
  tw : Within T n
  nd : told.Nodup
  lt : ∀ p ∈ told, p < n
  rows : ∀ p ∈ told, IsDist T n p (row p)
def Dst (row : Nat → List (Option Nat)) (x y : Nat) : Option Nat := ((row x)[y]?).join
theorem dst_some {row : Nat → List (Option Nat)} {x y c : Nat} : Dst row x y = some c ↔ (row x)[y]? = some (some c) := by
  unfold Dst
  cases (row x)[y]? with
  | none => simp
  | some z => cases z <;> simp
section
variable {T : List Tie} {n : Nat} {told : List Nat} {row : Nat → List (Option Nat)}
theorem Base.symm (B : Base T n told row) : ∀ x y, x ∈ told → y ∈ told → Dst row x y = Dst row y x := by
  intro x y hx hy
  have h := (B.rows x hx).symm (B.rows y hy) (B.lt x hx) (B.lt y hy)
  cases a : Dst row x y with
  | some c => exact (dst_some.mpr ((h c).mp (dst_some.mp a))).symm
  | none =>
    cases b : Dst row y x with
    | some c => rw [dst_some.mpr ((h c).mpr (dst_some.mp b))] at a; cases a
    | none => rfl
theorem Base.walk (B : Base T n told row) : ∀ x y e, x ∈ told → y ∈ told → Walk T x y e → ∃ c, c ≤ e ∧ Dst row x y = some c := by
  intro x y e hx hy h
  obtain ⟨c, h1, h2⟩ := (B.rows x hx).opt y e (B.lt y hy) h
  exact ⟨c, h2, dst_some.mpr h1⟩
theorem Base.back (B : Base T n told row) {x y c : Nat} (hx : x ∈ told) (h : Dst row x y = some c) : Walk T x y c := (B.rows x hx).att y c (dst_some.mp h)
/-! ### the program's: one place after another -/
structure Prim (T : List Tie) (told : List Nat) (row : Nat → List (Option Nat)) (t0 total : Nat) (held left : List Nat) (H : List Tie) : Prop where
  g : Greedy (fun x => x ∈ told) (Dst row) H
  c : cost H = total
  all : ∀ x, x ∈ told ↔ x ∈ held ∨ x ∈ left
  no : ∀ x, x ∈ held → ¬ x ∈ left
  nd : left.Nodup
  t : t0 ∈ held
  inh : ∀ f ∈ H, f.1 ∈ held ∧ f.2.1 ∈ held
  comp : ∀ x, x ∈ told → (Conn (RT H) t0 x ↔ x ∈ held)
  web : ∃ M w, w ≤ total ∧ Web T told M t0 w ∧ ∀ a, M.testBit a = true ↔ ∃ p, p ∈ held ∧ told[a]? = some p
theorem prim_start (B : Base T n told row) {t0 : Nat} {r : List Nat} (e : told = t0 :: r) : Prim T told row t0 0 [t0] r [] := by
  have nd := B.nd
  rw [e] at nd
  obtain ⟨n1, n2⟩ := List.nodup_cons.mp nd
  refine ⟨.nil, rfl, fun x => by rw [e]; simp, fun x hx => ?_, n2, by simp, (fun _ h => nomatch h), fun x hx => ?_, 2 ^ 0, 0, Nat.le_refl _, .start (by rw [e]; rfl), fun a => ?_⟩
  · rw [List.mem_singleton.mp hx]; exact n1
  · constructor
    · intro h
      have : ∀ y, Conn (RT []) t0 y → y = t0 := by
        intro y h
        induction h with
        | refl => rfl
        | step _ e _ => rcases e with ⟨_, e⟩ | ⟨_, e⟩ <;> cases e
      rw [this x h]; simp
    · intro h; rw [List.mem_singleton.mp h]; exact .refl _
  · rw [bit_two]
    constructor
    · intro h; subst h; exact ⟨t0, by simp, by rw [e]; rfl⟩
    · rintro ⟨p, hp, h⟩
      rw [List.mem_singleton.mp hp] at h
      have h0 : told[0]? = some t0 := by rw [e]; rfl
      obtain ⟨l1, q1⟩ := List.getElem?_eq_some_iff.mp h
      obtain ⟨l2, q2⟩ := List.getElem?_eq_some_iff.mp h0
      exact ((List.getElem_inj B.nd).mp (q2.trans q1.symm))
theorem prim_step (B : Base T n told row) {t0 total c one place : Nat} {held left : List Nat} {H : List Tie} (p : Prim T told row t0 total held left H) (h1 : one ∈ held) (h2 : place ∈ left) (hd : Dst row one place = some c)
    (hmin : ∀ o q c', o ∈ held → q ∈ left → Dst row o q = some c' → c ≤ c') : Prim T told row t0 (total + c) (held ++ [place]) (left.erase place) ((one, place, c) :: H) := by
  have tone : one ∈ told := (p.all one).mpr (.inl h1)
  have tpl : place ∈ told := (p.all place).mpr (.inr h2)
  have c1 := (p.comp one tone).mpr h1
  have npl : ¬ place ∈ held := fun z => p.no place z h2
  have up : ∀ {u v : Nat}, Conn (RT H) u v → Conn (RT ((one, place, c) :: H)) u v := fun h => h.mono fun _ _ ⟨c, e⟩ => ⟨c, List.mem_cons_of_mem _ e⟩
  refine ⟨.cons p.g tone tpl hd (fun z => npl ((p.comp place tpl).mp (c1.trans z))) (fun x y c' hx hy cx cy he => ?_), ?_, fun x => ?_, fun x hx => ?_, p.nd.erase _, List.mem_append_left _ p.t, fun f hf => ?_, fun x hx => ?_, ?_⟩
  · have hxh := (p.comp x hx).mp (c1.trans cx)
    have hyl : y ∈ left := ((p.all y).mp hy).resolve_left fun z => cy (c1.symm.trans ((p.comp y hy).mpr z))
    exact hmin x y c' hxh hyl he
  · show cost ((one, place, c) :: H) = _
    have e : cost ((one, place, c) :: H) = c + cost H := by unfold cost; rw [List.map_cons, List.sum_cons]
    rw [e, p.c]; omega
  · rw [p.all x, List.mem_append, List.mem_singleton, p.nd.mem_erase_iff]
    by_cases e : x = place
    · subst e; simp [h2]
    · simp [e]
  · rcases List.mem_append.mp hx with hx | hx
    · exact fun z => p.no x hx (List.mem_of_mem_erase z)
    · rw [List.mem_singleton.mp hx, p.nd.mem_erase_iff]
      exact fun z => z.1 rfl
  · rcases List.mem_cons.mp hf with rfl | hf
    · exact ⟨List.mem_append_left _ h1, List.mem_append_right _ List.mem_cons_self⟩
    · exact ⟨List.mem_append_left _ (p.inh f hf).1, List.mem_append_left _ (p.inh f hf).2⟩
  · constructor
    · intro h
      have : ∀ y, Conn (RT ((one, place, c) :: H)) t0 y → y ∈ held ++ [place] := by
        intro y h
        induction h with
        | refl => exact List.mem_append_left _ p.t
        | @step v z _ e ih =>
          have inn : ∀ a b, RT ((one, place, c) :: H) a b → a ∈ held ++ [place] ∧ b ∈ held ++ [place] := fun a b ⟨c1, e⟩ => by
            rcases List.mem_cons.mp e with e | e
            · injection e with e1 e2
              injection e2 with e2 _
              rw [e1, e2]
              exact ⟨List.mem_append_left _ h1, List.mem_append_right _ List.mem_cons_self⟩
            · exact ⟨List.mem_append_left _ (p.inh _ e).1, List.mem_append_left _ (p.inh _ e).2⟩
          rcases e with e | e
          · exact (inn _ _ e).2
          · exact (inn _ _ e).1
      exact this x h
    · intro h
      rcases List.mem_append.mp h with h | h
      · exact up ((p.comp x hx).mpr h)
      · rw [List.mem_singleton.mp h]
        exact (up c1).step (.inl ⟨c, List.mem_cons_self⟩)
  · obtain ⟨M, w, hw, hW, hM⟩ := p.web
    obtain ⟨i, hi⟩ := List.mem_iff_getElem?.mp tone
    obtain ⟨j, hj⟩ := List.mem_iff_getElem?.mp tpl
    obtain ⟨t, ht⟩ := List.mem_iff_getElem?.mp ((p.all t0).mpr (.inl p.t))
    obtain ⟨⟨w1, l1, g1⟩, _⟩ := hW.reroot ((hM i).mpr ⟨one, h1, hi⟩) hi
    have g2 : Web T told (2 ^ j) one c := ((Web.start hj).walk (B.back tone hd).symm).cast rfl (Nat.zero_add _)
    have uniq : ∀ {a b q : Nat}, told[a]? = some q → told[b]? = some q → a = b := fun {a b q} e1 e2 => by
      obtain ⟨l1, q1⟩ := List.getElem?_eq_some_iff.mp e1
      obtain ⟨l2, q2⟩ := List.getElem?_eq_some_iff.mp e2
      exact (List.getElem_inj B.nd).mp (q1.trans q2.symm)
    have dj : M &&& 2 ^ j = 0 := disj_iff.mpr fun a ⟨z1, z2⟩ => by
      have := bit_two.mp z2
      subst this
      obtain ⟨q, hq, hq2⟩ := (hM j).mp z1
      rw [hj] at hq2
      exact npl (by rw [Option.some.inj hq2]; exact hq)
    have g3 := Web.meet g1 g2 dj
    obtain ⟨⟨w2, l2, g4⟩, _⟩ := g3.reroot (bit_or.mpr (.inl ((hM t).mpr ⟨t0, p.t, ht⟩))) ht
    refine ⟨M ||| 2 ^ j, w2, by omega, g4, fun a => ?_⟩
    rw [bit_or, bit_two, hM a]
    constructor
    · rintro (⟨q, hq, hq2⟩ | rfl)
      · exact ⟨q, List.mem_append_left _ hq, hq2⟩
      · exact ⟨place, List.mem_append_right _ List.mem_cons_self, hj⟩
    · rintro ⟨q, hq, hq2⟩
      rcases List.mem_append.mp hq with hq | hq
      · exact .inl ⟨q, hq, hq2⟩
      · rw [List.mem_singleton.mp hq] at hq2
        exact .inr (uniq hj hq2)
theorem Prim.span {t0 total : Nat} {held : List Nat} {H : List Tie} (p : Prim T told row t0 total held [] H) : ∀ x y, x ∈ told → y ∈ told → Conn (RT H) x y := by
  intro x y hx hy
  have hx' : x ∈ held := ((p.all x).mp hx).resolve_right fun z => nomatch z
  have hy' : y ∈ held := ((p.all y).mp hy).resolve_right fun z => nomatch z
  exact ((p.comp x hx).mpr hx').symm.trans ((p.comp y hy).mpr hy')
theorem Prim.full (B : Base T n told row) {t0 total : Nat} {held : List Nat} {H : List Tie} (p : Prim T told row t0 total held [] H) {z : Nat} (hz : z ∈ told) : ∃ w, w ≤ total ∧ Web T told (2 ^ told.length - 1) z w := by
  obtain ⟨M, w, hw, hW, hM⟩ := p.web
  have e : M = 2 ^ told.length - 1 := by
    apply Nat.eq_of_testBit_eq
    intro i
    rw [Nat.testBit_two_pow_sub_one, Bool.eq_iff_iff, hM i, decide_eq_true_iff]
    constructor
    · rintro ⟨q, _, h⟩; exact (List.getElem?_eq_some_iff.mp h).1
    · intro h
      have hm : told[i] ∈ told := List.getElem_mem h
      exact ⟨told[i], ((p.all _).mp hm).resolve_right (fun z => nomatch z), List.getElem?_eq_getElem h⟩
  obtain ⟨i, hi⟩ := List.mem_iff_getElem?.mp hz
  have hil := (List.getElem?_eq_some_iff.mp hi).1
  obtain ⟨⟨w1, l1, g1⟩, _⟩ := hW.reroot (a := i) ((hM i).mpr ⟨z, ((p.all z).mp hz).resolve_right (fun z => nomatch z), hi⟩) hi
  exact ⟨w1, by omega, g1.cast e rfl⟩
/-- told places without a web -/
theorem no_web {t0 total : Nat} {held left : List Nat} {H : List Tie} (B : Base T n told row) (p : Prim T told row t0 total held left H) (hl : left ≠ []) (hno : ∀ o q, o ∈ held → q ∈ left → Dst row o q = none) :
    (∀ F, Dear (fun x => x ∈ told) (Dst row) F → ¬ ∀ x y, x ∈ told → y ∈ told → Conn (RT F) x y) ∧ ∀ z w, ¬ Web T told (2 ^ told.length - 1) z w := by
  obtain ⟨q, hq⟩ := List.exists_mem_of_ne_nil left hl
  have tq : q ∈ told := (p.all q).mpr (.inr hq)
  have tt : t0 ∈ told := (p.all t0).mpr (.inl p.t)
  refine ⟨fun F dF sp => ?_, fun z w hW => ?_⟩
  · rcases (sp t0 q tt tq).leaves (A := fun x => x ∈ held) p.t with h | ⟨a, x, ha, hx, e, _⟩
    · exact p.no q h hq
    · rcases e with ⟨c, e⟩ | ⟨c, e⟩
      · obtain ⟨_, v2, c1, _, hd⟩ := dF _ e
        have v2 : x ∈ told := v2
        have hd : Dst row a x = some c1 := hd
        rw [hno a x ha (((p.all x).mp v2).resolve_left hx)] at hd
        cases hd
      · obtain ⟨v1, v2, c1, _, hd⟩ := dF _ e
        have v1 : x ∈ told := v1
        have v2 : a ∈ told := v2
        have hd : Dst row x a = some c1 := hd
        rw [B.symm x a v1 v2, hno a x ha (((p.all x).mp v1).resolve_left hx)] at hd
        cases hd
  · obtain ⟨l, f, ne, nd, hm, hlt, hf, hL, hs⟩ := hW.tour
    obtain ⟨i, hi⟩ := List.mem_iff_getElem?.mp tq
    obtain ⟨j, hj⟩ := List.mem_iff_getElem?.mp tt
    -- each told place is walked to from the first of the tour
    have reach : ∀ (l : Legs1) (v : Nat), Legs T told l v → ∀ x ∈ l, ∃ e, Walk T (nxt told l v) (told.getD x.1 0) e := by
      intro l
      induction l with
      | nil => intro v _ x hx; cases hx
      | cons y l ih =>
        intro v hL x hx
        rcases List.mem_cons.mp hx with rfl | hx
        · exact ⟨0, .nil _⟩
        · obtain ⟨e, he⟩ := ih v hL.2 x hx
          exact ⟨_, Walk.trans hL.1 he⟩
    have at_ : ∀ {i p : Nat}, told[i]? = some p → ∃ e, Walk T (nxt told l z) p e := fun {i p} hi => by
      have hil := (List.getElem?_eq_some_iff.mp hi).1
      obtain ⟨y, hy, hy1⟩ := List.mem_map.mp ((hm i).mpr (by rw [Nat.testBit_two_pow_sub_one]; exact decide_eq_true hil))
      obtain ⟨e, he⟩ := reach l z hL y hy
      rw [hy1, show told.getD i 0 = p by simp [List.getD_eq_getElem?_getD, hi]] at he
      exact ⟨e, he⟩
    obtain ⟨e1, w1⟩ := at_ hi
    obtain ⟨e2, w2⟩ := at_ hj
    obtain ⟨c, _, hc⟩ := B.walk t0 q _ tt tq (w2.symm.trans w1)
    rw [hno t0 q p.t hq] at hc
    cases hc

/-! ### the law's: ties from the cheapest on -/
structure Krus (told : List Nat) (row : Nat → List (Option Nat)) (k due : Nat) (done : List (Nat × Nat × Nat)) (held : List (Nat × Nat)) (F : List Tie) : Prop where
  g : Greedy (fun x => x ∈ told) (Dst row) F
  c : cost F = due
  inn : PIn held k
  to : ∀ a b, (a, b) ∈ held → ∃ c, (told.getD a 0, told.getD b 0, c) ∈ F
  fro : ∀ f ∈ F, ∃ a b, (a, b) ∈ held ∧ f.1 = told.getD a 0 ∧ f.2.1 = told.getD b 0
  had : ∀ c a b, (c, a, b) ∈ done → Conn (RP held) a b
  cnt : nparts k held + held.length = k
theorem krus_start (told : List Nat) (row : Nat → List (Option Nat)) (k : Nat) : Krus told row k 0 [] [] [] :=
  ⟨.nil, rfl, (fun _ h => nomatch h), (fun _ _ h => nomatch h), (fun _ h => nomatch h), (fun _ _ _ h => nomatch h), by rw [nparts_nil]; rfl⟩
theorem getD_inj (nd : told.Nodup) {a b : Nat} (ha : a < told.length) (hb : b < told.length) (h : told.getD a 0 = told.getD b 0) : a = b := by
  have e1 := getD_some (d := 0) ha
  have e2 := getD_some (d := 0) hb
  rw [h] at e1
  obtain ⟨l1, q1⟩ := List.getElem?_eq_some_iff.mp e1
  obtain ⟨l2, q2⟩ := List.getElem?_eq_some_iff.mp e2
  exact (List.getElem_inj nd).mp (q1.trans q2.symm)
theorem Krus.up {k due : Nat} {done : List (Nat × Nat × Nat)} {held : List (Nat × Nat)} {F : List Tie} (K : Krus told row k due done held F) {a b : Nat} (h : Conn (RP held) a b) : Conn (RT F) (told.getD a 0) (told.getD b 0) := by
  induction h with
  | refl => exact .refl _
  | step _ e ih =>
    refine ih.trans ?_
    rcases e with e | e
    · obtain ⟨c, h⟩ := K.to _ _ e; exact .one (.inl ⟨c, h⟩)
    · obtain ⟨c, h⟩ := K.to _ _ e; exact .one (.inr ⟨c, h⟩)
theorem Krus.down {k due : Nat} {done : List (Nat × Nat × Nat)} {held : List (Nat × Nat)} {F : List Tie} (nd : told.Nodup) (hk : k = told.length) (K : Krus told row k due done held F) {a y : Nat} (ha : a < k) (h : Conn (RT F) (told.getD a 0) y) : ∃ b, b < k ∧ y = told.getD b 0 ∧ Conn (RP held) a b := by
  induction h with
  | refl => exact ⟨a, ha, rfl, .refl _⟩
  | step _ e ih =>
    obtain ⟨b, hb, e1, h1⟩ := ih
    rcases e with ⟨c, e⟩ | ⟨c, e⟩
    · obtain ⟨p, q, hm, f1, f2⟩ := K.fro _ e
      have f1 : _ = told.getD p 0 := f1
      have := K.inn _ hm
      have : b = p := getD_inj nd (by omega) (by have := this.1; simp at this; omega) (e1.symm.trans f1)
      subst this
      exact ⟨q, (K.inn _ hm).2, f2, h1.step (.inl hm)⟩
    · obtain ⟨p, q, hm, f1, f2⟩ := K.fro _ e
      have f2 : _ = told.getD q 0 := f2
      have := K.inn _ hm
      have : b = q := getD_inj nd (by omega) (by have := this.2; simp at this; omega) (e1.symm.trans f2)
      subst this
      exact ⟨p, (K.inn _ hm).1, f1, h1.step (.inr hm)⟩
theorem told_at (told : List Nat) {a : Nat} (h : a < told.length) : told.getD a 0 ∈ told := List.mem_of_getElem? (getD_some h)
/-- the sorted list: all finite pairs, from the cheapest on -/
structure AllPairs (told : List Nat) (row : Nat → List (Option Nat)) (k : Nat) (S : List (Nat × Nat × Nat)) : Prop where
  mem : ∀ c a b, (c, a, b) ∈ S ↔ a < b ∧ b < k ∧ Dst row (told.getD a 0) (told.getD b 0) = some c
  up : S.Pairwise fun x y => x.1 ≤ y.1
theorem krus_skip {k due : Nat} {done : List (Nat × Nat × Nat)} {held : List (Nat × Nat)} {F : List Tie} (K : Krus told row k due done held F) {c a b : Nat} (ha : a < k) (hb : b < k) (h : ¬ nparts k (held ++ [(a, b)]) < nparts k held) : Krus told row k due (done ++ [(c, a, b)]) held F := by
  have hc : Conn (RP held) a b := by
    apply Classical.byContradiction
    intro z
    have := nparts_less K.inn ha hb z
    omega
  refine ⟨K.g, K.c, K.inn, K.to, K.fro, fun c' a' b' hm => ?_, K.cnt⟩
  rcases List.mem_append.mp hm with hm | hm
  · exact K.had _ _ _ hm
  · have := List.mem_singleton.mp hm
    injection this with _ e
    injection e with e1 e2
    rw [e1, e2]; exact hc
theorem krus_take {k due : Nat} {done rest : List (Nat × Nat × Nat)} {held : List (Nat × Nat)} {F : List Tie} (B : Base T n told row) (hk : k = told.length) {c a b : Nat} (A : AllPairs told row k (done ++ (c, a, b) :: rest)) (K : Krus told row k due done held F)
    (h : nparts k (held ++ [(a, b)]) < nparts k held) : Krus told row k (due + c) (done ++ [(c, a, b)]) (held ++ [(a, b)]) ((told.getD a 0, told.getD b 0, c) :: F) := by
  obtain ⟨hab, hb, hd⟩ := (A.mem c a b).mp (List.mem_append_right _ List.mem_cons_self)
  have ha : a < k := by omega
  have hn : ¬ Conn (RP held) a b := fun z => by
    have := nparts_same K.inn ha hb z
    omega
  have ta := told_at told (show a < told.length by omega)
  have tb := told_at told (show b < told.length by omega)
  have up : ∀ {x y : Nat}, Conn (RP held) x y → Conn (RP (held ++ [(a, b)])) x y := fun h => h.mono fun _ _ e => List.mem_append_left _ e
  refine ⟨.cons K.g ta tb hd (fun z => ?_) (fun x y c' hx hy cx cy he => ?_), ?_, fun p hp => ?_, fun a' b' hm => ?_, fun f hf => ?_, fun c' a' b' hm => ?_, ?_⟩
  · obtain ⟨b', hb', e, h'⟩ := K.down B.nd hk ha z
    have : b = b' := getD_inj B.nd (by omega) (by omega) e
    subst this
    exact hn h'
  · -- an edge over the cut is still to come
    obtain ⟨i, hi, ei, hic⟩ := K.down B.nd hk ha cx
    obtain ⟨j, hj⟩ := List.mem_iff_getElem?.mp hy
    have hjl : j < k := by rw [hk]; exact (List.getElem?_eq_some_iff.mp hj).1
    have ej : y = told.getD j 0 := by simp [List.getD_eq_getElem?_getD, hj]
    have hnij : ¬ Conn (RP held) i j := fun z => cy (by rw [ej]; exact K.up (hic.trans z))
    have hne : i ≠ j := fun z => hnij (by rw [z]; exact .refl _)
    have later : ∃ p q, ((p = i ∧ q = j) ∨ (p = j ∧ q = i)) ∧ (c', p, q) ∈ done ++ (c, a, b) :: rest := by
      rcases Nat.lt_or_gt_of_ne hne with z | z
      · exact ⟨i, j, .inl ⟨rfl, rfl⟩, (A.mem c' i j).mpr ⟨z, hjl, by rw [← ei, ← ej]; exact he⟩⟩
      · exact ⟨j, i, .inr ⟨rfl, rfl⟩, (A.mem c' j i).mpr ⟨z, hi, by rw [← ei, ← ej, B.symm y x hy hx]; exact he⟩⟩
    obtain ⟨p, q, hpq, hm⟩ := later
    rcases List.mem_append.mp hm with hm | hm
    · exfalso
      have := K.had _ _ _ hm
      rcases hpq with ⟨rfl, rfl⟩ | ⟨rfl, rfl⟩
      · exact hnij this
      · exact hnij this.symm
    · rcases List.mem_cons.mp hm with e | hm
      · injection e with e _; omega
      · have := A.up
        rw [List.pairwise_append] at this
        exact (List.pairwise_cons.mp this.2.1).1 _ hm
  · have e : cost ((told.getD a 0, told.getD b 0, c) :: F) = c + cost F := by unfold cost; rw [List.map_cons, List.sum_cons]
    rw [e, K.c]; omega
  · rcases List.mem_append.mp hp with hp | hp
    · exact K.inn p hp
    · rw [List.mem_singleton.mp hp]; exact ⟨ha, hb⟩
  · rcases List.mem_append.mp hm with hm | hm
    · obtain ⟨c', h'⟩ := K.to _ _ hm
      exact ⟨c', List.mem_cons_of_mem _ h'⟩
    · have := List.mem_singleton.mp hm
      injection this with e1 e2
      rw [e1, e2]
      exact ⟨c, List.mem_cons_self⟩
  · rcases List.mem_cons.mp hf with rfl | hf
    · exact ⟨a, b, List.mem_append_right _ List.mem_cons_self, rfl, rfl⟩
    · obtain ⟨p, q, hm, e1, e2⟩ := K.fro f hf
      exact ⟨p, q, List.mem_append_left _ hm, e1, e2⟩
  · rcases List.mem_append.mp hm with hm | hm
    · exact up (K.had _ _ _ hm)
    · have := List.mem_singleton.mp hm
      injection this with _ e
      injection e with e1 e2
      rw [e1, e2]
      exact .one (.inl (List.mem_append_right _ List.mem_cons_self))
  · have h1 := nparts_less K.inn ha hb hn
    have h2 := K.cnt
    rw [List.length_append]
    simp
    omega
theorem Krus.span_iff {k due : Nat} {S : List (Nat × Nat × Nat)} {held : List (Nat × Nat)} {F : List Tie} (B : Base T n told row) (hk : k = told.length) (h0 : 0 < k) (K : Krus told row k due S held F) :
    held.length = k - 1 ↔ ∀ x y, x ∈ told → y ∈ told → Conn (RT F) x y := by
  have ix : ∀ {x : Nat}, x ∈ told → ∃ i, i < k ∧ x = told.getD i 0 := fun {x} hx => by
    obtain ⟨i, hi⟩ := List.mem_iff_getElem?.mp hx
    exact ⟨i, by rw [hk]; exact (List.getElem?_eq_some_iff.mp hi).1, by simp [List.getD_eq_getElem?_getD, hi]⟩
  constructor
  · intro h
    have h1 : nparts k held = 1 := by have := K.cnt; omega
    intro x y hx hy
    obtain ⟨i, hi, rfl⟩ := ix hx
    obtain ⟨j, hj, rfl⟩ := ix hy
    exact K.up (conn_of_one K.inn h1 i j hi hj)
  · intro h
    have h1 : nparts k held = 1 := nparts_all K.inn h0 fun i j hi hj => by
      have := h _ _ (told_at told (show i < told.length by omega)) (told_at told (show j < told.length by omega))
      obtain ⟨j', hj', e, hc⟩ := K.down B.nd hk hi this
      have : j = j' := getD_inj B.nd (by omega) (by omega) e
      subst this
      exact hc
    have := K.cnt
    omega
/-- any least tree's edges are joined by those that the law holds -/
theorem Krus.joins {k due : Nat} {S : List (Nat × Nat × Nat)} {held : List (Nat × Nat)} {F H : List Tie} (B : Base T n told row) (hk : k = told.length) (A : AllPairs told row k S) (K : Krus told row k due S held F) (dH : Dear (fun x => x ∈ told) (Dst row) H) {x y : Nat} (h : Conn (RT H) x y) : Conn (RT F) x y := by
  refine h.lift fun u v ⟨c, e⟩ => ?_
  obtain ⟨hu, hv, c', _, hd⟩ := dH _ e
  have hu : u ∈ told := hu
  have hv : v ∈ told := hv
  have hd : Dst row u v = some c' := hd
  obtain ⟨i, hi⟩ := List.mem_iff_getElem?.mp hu
  obtain ⟨j, hj⟩ := List.mem_iff_getElem?.mp hv
  have hil : i < k := by rw [hk]; exact (List.getElem?_eq_some_iff.mp hi).1
  have hjl : j < k := by rw [hk]; exact (List.getElem?_eq_some_iff.mp hj).1
  have ei : told.getD i 0 = u := by simp [List.getD_eq_getElem?_getD, hi]
  have ej : told.getD j 0 = v := by simp [List.getD_eq_getElem?_getD, hj]
  rcases Nat.lt_trichotomy i j with z | z | z
  · have := K.up (K.had _ _ _ ((A.mem c' i j).mpr ⟨z, hjl, by rw [ei, ej]; exact hd⟩))
    rw [ei, ej] at this
    exact this
  · subst z
    rw [← ei, ← ej]
    exact .refl _
  · have := K.up (K.had _ _ _ ((A.mem c' j i).mpr ⟨z, hil, by rw [ei, ej, B.symm v u hv hu]; exact hd⟩))
    rw [ei, ej] at this
    exact this.symm
/-- both come to an end: they agree -/
theorem both_some {k due t0 total : Nat} {S : List (Nat × Nat × Nat)} {heldK : List (Nat × Nat)} {F H : List Tie} {held : List Nat} (B : Base T n told row) (hk : k = told.length) (h0 : 0 < k) (A : AllPairs told row k S) (K : Krus told row k due S heldK F)
    (p : Prim T told row t0 total held [] H) : heldK.length = k - 1 ∧ due = total := by
  have sp : ∀ x y, x ∈ told → y ∈ told → Conn (RT F) x y := fun x y hx hy => K.joins B hk A p.g.dear (p.span x y hx hy)
  refine ⟨(K.span_iff B hk h0).mpr sp, ?_⟩
  have l1 := greedy_le B.symm K.g p.g.dear p.span
  have l2 := greedy_le B.symm p.g K.g.dear sp
  rw [K.c, p.c] at l1
  rw [K.c, p.c] at l2
  omega
theorem both_none {k due t0 total : Nat} {S : List (Nat × Nat × Nat)} {heldK : List (Nat × Nat)} {F H : List Tie} {held left : List Nat} (B : Base T n told row) (hk : k = told.length) (h0 : 0 < k) (K : Krus told row k due S heldK F)
    (p : Prim T told row t0 total held left H) (hl : left ≠ []) (hno : ∀ o q, o ∈ held → q ∈ left → Dst row o q = none) : heldK.length ≠ k - 1 := by
  intro z
  exact (no_web B p hl hno).1 F K.g.dear ((K.span_iff B hk h0).mp z)
theorem prim_bound {t0 total z w : Nat} {held : List Nat} {H : List Tie} (B : Base T n told row) (h0 : 0 < told.length) (p : Prim T told row t0 total held [] H) (h : Web T told (2 ^ told.length - 1) z w) : told.length * total ≤ 2 * (told.length - 1) * w :=
  web_bound told.length rfl h0 (fun F dF sp => by rw [← p.c]; exact greedy_le B.symm p.g dF sp) B.walk h
end
end K10M


set_option Elab.async false
set_option linter.all false
set_option maxRecDepth 100000
/-! What each def promises. -/
namespace K10
open PySem L2 K10M
/-! ### the text by places -/
def top (i : Nat) : Stmt := PySem.Challenge.pw_joinworks_k10_whole_bounds_by_distances.main.body.getD i (.Pass ⟨0, 0, 0, 0⟩)
abbrev sIsInt : Stmt := top 8
abbrev sIsFrom : Stmt := top 9
abbrev sIsTie : Stmt := top 10
abbrev sNeedWeb : Stmt := top 11
abbrev sRising : Stmt := top 12
abbrev sNbrs : Stmt := top 14
abbrev sSpread : Stmt := top 15
abbrev sFrom : Stmt := top 16
abbrev sNeedTold : Stmt := top 19
abbrev sInit : Stmt := inClass (top 20) 0
abbrev sMerged : Stmt := inClass (top 20) 1
abbrev sClose : Stmt := inClass (top 20) 2
abbrev sTies : Stmt := inClass (top 20) 3
abbrev sJoin : Stmt := top 21
abbrev sPrice : Stmt := top 22
abbrev sDPrice : Stmt := top 23
abbrev sTaken : Stmt := top 25
abbrev sPick : Stmt := top 26
abbrev sAlike : Stmt := top 27
abbrev sWeb : Stmt := top 28
abbrev sJWeb : Stmt := top 29
abbrev sParts : Stmt := top 30
abbrev sTold : Stmt := top 31
abbrev sFar : Stmt := top 32
abbrev sLaw : Stmt := top 33
/-! ### what the module's names hold -/
structure Txt (mg : Str → Option Value) : Prop where
  isi : mg "isinstance" = none
  int : mg "int" = none
  bool : mg "bool" = none
  str : mg "str" = none
  tuple : mg "tuple" = none
  list : mg "list" = none
  set : mg "set" = none
  len : mg "len" = none
  all : mg "all" = none
  any : mg "any" = none
  enum : mg "enumerate" = none
  range : mg "range" = none
  min : mg "min" = none
  sorted : mg "sorted" = none
  mplaces : ∃ t, mg "MOST_PLACES" = some (.int 12 t)
  mties : ∃ t, mg "MOST_TIES" = some (.int 30 t)
  mprice : ∃ t, mg "MOST_PRICE" = some (.int 999 t)
  mtold : ∃ t, mg "MOST_TOLD" = some (.int 8 t)
/-- a def that the module's name x holds, with its promise -/
def Callee (P : Program) (w : World) (K : PySem.W.Frag) (mg : Str → Option Value) (base : Heap) (k : Nat) (x : Str) (ps : List Str) (sp : Sp) : Prop :=
  ∃ (f : Addr) (fd : FuncData), FnOk P w K mg base CX0 k f fd ps sp ∧ mg x = some (.ref f) ∧ PySem.W.keepIn K (.ref f) = true ∧ Binds K fd ps []
section
variable {X : Cx} {k j : Nat} {x : Str} {ps : List Str} {sp : Sp} {p pos : Pos} {e : Expr} {es : List Expr} {t : TA}
theorem pe_c (C : Callee X.prog X.w X.K X.mg X.base k x ps sp) (hr : Room j X.A) (hk : k ≤ j) (hg : Gl X x) (ha : PA X (e :: es) t) (hdb : (x == ("__debug__" : Str)) = false := by decide)
    (he : starEach (e :: es) X.env = (false, eval e X.env) :: starEach es X.env := by rfl) (hpl : (backTo pos (starEach es X.env)).any (·.1) = false := by rfl) :
    PE X (.Call (.Name x p) (e :: es) [] pos) (tCall sp [] E0 t) := by
  refine ⟨fun pins s σ H Q I h => ?_⟩
  obtain ⟨f, fd, F, hm, hkp, hb⟩ := C
  exact (pe_call F (hr.mono hk) hg hm hkp hb .nil pass0 ha hdb he hpl).run pins s σ H Q I h
end
/-! ### rules within a comprehension's block: the written part by its own name -/
section
variable {X : Cx}
theorem ix_tup' (K : PySem.W.Frag) (h : X.K = K := by rfl) : IxR X (rIxT K) := by subst h; exact ix_tup
theorem ix_list' (K : PySem.W.Frag) (h : X.K = K := by rfl) : IxR X (rIxL K) := by subst h; exact ix_list
theorem pi_tup' (K : PySem.W.Frag) {tg l : Expr} {tl : TE} (hl : PE X l tl) (h : X.K = K := by rfl) : PI X tg l (iTup K tl) := by subst h; exact pi_tup hl
theorem pi_list' (K : PySem.W.Frag) {tg l : Expr} {tl : TE} (hl : PE X l tl) (h : X.K = K := by rfl) : PI X tg l (iList K tl) := by subst h; exact pi_list hl
theorem call_len_seq' (K : PySem.W.Frag) (h : X.K = K := by rfl) : CallR X (.builtin "len") (fun xs H Q => ∃ p ys, xs = [.ref p] ∧ (SqL K H p ys ∨ SqT K H p ys) ∧ Q (.int ys.length) H) := by subst h; exact call_len_seq
theorem call_tuple_of' (K : PySem.W.Frag) (h : X.K = K := by rfl) : CallR X (.type "tuple") (fun xs H Q => ∃ p ys, xs = [.ref p] ∧ ((SqL K H p ys ∧ ∀ l, H l = none → Q (.ref l) (upd H l (.tup ys))) ∨ (SqT K H p ys ∧ Q (.ref p) H))) := by subst h; exact call_tuple_of
theorem pg_tup' (K : PySem.W.Frag) {es : List Expr} {k : Nat} {t : TGs} {n : Nat} {pos : Pos} (hc : X.calm = true) (h : PGs X es t) (hK : X.K = K := by rfl)
    (hn : (assignEach es X.env).length = n := by rfl) (hst : (assignEach es X.env).findIdx? (·.1) = none := by rfl) : PG X (.Tuple es k pos) (gTup K n t) := by subst hK; exact pg_tup hc h hn hst
end
theorem same_upd {H : Hp} {p : Addr} {o : HO} (h : H p = none) : Same H (upd H p o) := fun b u e => by
  rw [upd_ne (ne_of_none e h)]; exact e

/-! ### a op1 b op2 c op3 d -/
section
variable {X : Cx} {a b c d : Expr} {ta tb tc td : TE} {pos : Pos}
def tChain3 (r r' r2 : R2) (ta tb tc td : TE) : TE := fun σ H Q => ta σ H fun x H1 => tb σ H1 fun y H2 => r x y H2 fun z H3 => ∃ k, z = .bl k ∧
  (if k = true then tc σ H3 fun u H4 => r' y u H4 fun z H5 => ∃ k, z = .bl k ∧ (if k = true then td σ H5 fun v H6 => r2 u v H6 Q else Q (.bl false) H5) else Q (.bl false) H3)
theorem pe_chain3 {op op' op2 : CmpOp} {r r' r2 : R2} (ho : OpR X (compareOp op) r) (ho' : OpR X (compareOp op') r') (ho2 : OpR X (compareOp op2) r2) (ha : PE X a ta) (hb : PE X b tb) (hc : PE X c tc) (hd : PE X d td)
    (hm : PySem.lastMarks [op, op', op2] [b, c, d] = false := by with_unfolding_all rfl) : PE X (.Compare a [op, op', op2] [b, c, d] pos) (tChain3 r r' r2 ta tb tc td) := by
  refine ⟨fun pins s σ H Q I h => ?_⟩
  refine PyProof.Rows.Compare_chain (thn (ha.run pins s σ H _ I h) fun v s1 ⟨x, H1, I1, r1, q1⟩ => PyProof.Rows.chain_link (thn (hb.run pins s1 σ H1 _ I1 q1) fun u s2 ⟨y, H2, I2, r2, q2⟩ =>
    thn (ho pins s2 σ H2 x y v u _ I2 r1 r2 q2) fun d s3 ⟨z, H3, I3, r3, k, e, q3⟩ => ?_)) hm
  subst e
  cases r3
  refine wpAny_truthy_bool ?_
  cases k with
  | false => exact PyProof.Rows.ite_ff ⟨.bl false, H3, I3, rfl, q3⟩
  | true =>
    refine PyProof.Rows.ite_tt (PyProof.Rows.chain_link (thn (hc.run pins s3 σ H3 _ I3 q3) fun w' s4 ⟨z', H4, I4, r4, q4⟩ => thn (ho' pins s4 σ H4 y z' u w' _ I4 r2 r4 q4) fun d s5 ⟨z, H5, I5, r5, k, e, q5⟩ => ?_))
    subst e
    cases r5
    refine wpAny_truthy_bool ?_
    cases k with
    | false => exact PyProof.Rows.ite_ff ⟨.bl false, H5, I5, rfl, q5⟩
    | true => exact PyProof.Rows.ite_tt (PyProof.Rows.chain_last (thn (hd.run pins s5 σ H5 _ I5 q5) fun w2 s6 ⟨z2, H6, I6, r6, q6⟩ => ho2 pins s6 σ H6 z' z2 w' w2 Q I6 r4 r6 q6))
end
theorem same_put {H1 H : Hp} {D : Addr} {o : HO} (hD : H1 D = none) (s : Same H1 H) : Same H1 (upd H D o) := fun b u e => by
  rw [upd_ne (ne_of_none e hD)]; exact s b u e
theorem sz {n : Nat} (h : n ≤ 100000) : n < sizeLine := Nat.lt_of_le_of_lt h (by rw [sizeLine_eq]; decide)
theorem szl {n : Nat} (h : n ≤ 100000) : n ≤ sizeLine := Nat.le_of_lt (sz h)
theorem iteD {p A B : Prop} [Decidable p] (h : p) (k : A) : if decide p = true then A else B := by rw [decide_eq_true h]; exact iteT k
theorem iteDF {p A B : Prop} [Decidable p] (h : ¬ p) (k : B) : if decide p = true then A else B := by rw [decide_eq_false h]; exact iteF k
theorem iteN {p A B : Prop} [Decidable p] (h : p) (k : B) : if (!decide p) = true then A else B := by rw [decide_eq_true h]; exact iteF k
theorem iteNF {p A B : Prop} [Decidable p] (h : ¬ p) (k : A) : if (!decide p) = true then A else B := by rw [decide_eq_false h]; exact iteT k
theorem bl_t {p : Prop} [Decidable p] {Q : VK} {H : Hp} (h : p) (q : Q (.bl true) H) : Q (.bl (decide p)) H := by rw [decide_eq_true h]; exact q
theorem bl_f {p : Prop} [Decidable p] {Q : VK} {H : Hp} (h : ¬ p) (q : Q (.bl false) H) : Q (.bl (decide p)) H := by rw [decide_eq_false h]; exact q
/-! ### data -/
abbrev nV (x : Nat) : V := .int x
def oV : Option Nat → V
  | none => .non
  | some x => .int x
def TieAt (H : Hp) (p : Addr) (t : Tie) : Prop := H p = some (.tup [nV t.1, nV t.2.1, nV t.2.2])
structure WebAt (H : Hp) (w : Addr) (n : Nat) (T : List Tie) : Prop where
  ex : ∃ (pt : Addr) (ps : List Addr), H w = some (.tup [nV n, .ref pt]) ∧ H pt = some (.tup (ps.map V.ref)) ∧ Paired (TieAt H) ps T
/-- pairs rise -/
def lexLt (s t : Tie) : Prop := s.1 < t.1 ∨ (s.1 = t.1 ∧ s.2.1 < t.2.1)
structure WebOk (n : Nat) (T : List Tie) : Prop where
  n1 : 1 ≤ n
  n8 : n ≤ 8
  l30 : T.length ≤ 30
  win : Within T n
  price : ∀ t ∈ T, t.2.2 ≤ 999
  up : T.Pairwise lexLt
abbrev ToldAt (H : Hp) (a : Addr) (told : List Nat) : Prop := H a = some (.tup (told.map nV))
structure ToldOk (n : Nat) (told : List Nat) : Prop where
  ne : told ≠ []
  l6 : told.length ≤ 6
  up : told.Pairwise (· < ·)
  lt : ∀ p ∈ told, p < n
abbrev RowAt (H : Hp) (a : Addr) (row : List (Option Nat)) : Prop := H a = some (.lst (row.map oV))
theorem WebAt.ext {H H' : Hp} {w : Addr} {n : Nat} {T : List Tie} (h : WebAt H w n T) (e : ∀ b xs, H b = some (.tup xs) → H' b = some (.tup xs)) : WebAt H' w n T := by
  obtain ⟨pt, ps, h1, h2, h3⟩ := h.ex
  exact ⟨pt, ps, e _ _ h1, e _ _ h2, h3.mono fun a b q => e _ _ q⟩
theorem WebAt.same {H H' : Hp} {w : Addr} {n : Nat} {T : List Tie} (h : WebAt H w n T) (e : Same H H') : WebAt H' w n T := h.ext fun b xs => e b _
/-! ### heaps that grow; the table of spread's code object -/
/-- all but the tables stay -/
abbrev Grow (H H' : Hp) : Prop := LamX.ExtN H H'
theorem grow_put {H1 H : Hp} {D : Addr} {o : HO} (hD : H1 D = none) (s : Grow H1 H) : Grow H1 (upd H D o) := fun b u e n => by
  rw [upd_ne (ne_of_none e hD)]; exact s b u e n
theorem Grow.of {H H' : Hp} (e : Same H H') : Grow H H' := fun b o h _ => e b o h
theorem Grow.at {H H' : Hp} {b : Addr} {o : HO} (e : Grow H H') (h : H b = some o) (n : ∀ ps, o ≠ .tbl ps := by intro _ z; cases z) : H' b = some o := e b o h n
theorem WebAt.grow {H H' : Hp} {w : Addr} {n : Nat} {T : List Tie} (h : WebAt H w n T) (e : Grow H H') : WebAt H' w n T := h.ext fun b xs q => e.at q
theorem Grow.free {H H' : Hp} (e : Grow H H') {l : Addr} (h : H' l = Option.none) : H l = none ∨ ∃ ps, H l = some (.tbl ps) := by
  cases q : H l with
  | none => exact .inl rfl
  | some o =>
    by_cases t : ∃ ps, o = .tbl ps
    · obtain ⟨ps, rfl⟩ := t; exact .inr ⟨ps, rfl⟩
    · rw [e l o q fun ps z => t ⟨ps, z⟩] at h; cases h
/-- the name that the lambda of spread bears -/
abbrev lamQ : Str := (("spread" : Str) ++ ".<locals>.") ++ "<lambda>"
abbrev Tab (P : Addr) (H : Hp) : Prop := LamX.TabS H P lamQ
theorem Tab.same {P : Addr} {H H' : Hp} (t : Tab P H) (e : Same H H') : Tab P H' := t.ext e
/-! ### promises: the webs' checks -/
def spIsInt : Sp := fun vs H Q _ => ∃ i : Int, vs = [.int i] ∧ Q (.bl true) H
def spIsFrom : Sp := fun vs H Q _ => ∃ i a b : Int, vs = [.int i, .int a, .int b] ∧ Q (.bl (decide (a ≤ i ∧ i ≤ b))) H
def spIsTie : Sp := fun vs H Q _ => ∃ (p : Addr) (t : Tie) (n : Nat), vs = [.ref p, nV n] ∧ TieAt H p t ∧ t.1 < t.2.1 ∧ t.2.1 < n ∧ t.2.2 ≤ 999 ∧ ∀ H', Same H H' → Q (.bl true) H'
def spNeedWeb : Sp := fun vs H Q _ => ∃ (w : Addr) (n : Nat) (T : List Tie), vs = [.ref w] ∧ WebAt H w n T ∧ WebOk n T ∧ ∀ H', Same H H' → Q .non H'
def spRising : Sp := fun vs H Q _ => ∃ (a : Addr) (n : Nat) (told : List Nat), vs = [.ref a, nV n] ∧ ToldAt H a told ∧ ToldOk n told ∧ ∀ H', Same H H' → Q (.bl true) H'
def spNeedTold : Sp := fun vs H Q _ => ∃ (w a : Addr) (n : Nat) (T : List Tie) (told : List Nat), vs = [.ref w, .ref a] ∧ WebAt H w n T ∧ ToldAt H a told ∧ ToldOk n told ∧ ∀ H', Same H H' → Q .non H'
/-! ### ways -/
/-- the neighbors of a place: (other, price, index of the tie) -/
structure NbOk (T : List Tie) (i : Nat) (l : List (Nat × Nat × Nat)) : Prop where
  of : ∀ o c x, (o, c, x) ∈ l → T[x]? = some (i, o, c) ∨ T[x]? = some (o, i, c)
  has : ∀ (x a b c : Nat), T[x]? = some (a, b, c) → (a = i → (b, c, x) ∈ l) ∧ (b = i → (a, c, x) ∈ l)
def NbAt (H : Hp) (a : Addr) (l : List (Nat × Nat × Nat)) : Prop := ∃ ps : List Addr, H a = some (.lst (ps.map V.ref)) ∧ Paired (TieAt H) ps l
def NbsAt (H : Hp) (f : Addr) (n : Nat) (T : List Tie) : Prop := ∃ as : List Addr, H f = some (.lst (as.map V.ref)) ∧ as.length = n ∧ ∀ (i : Nat) (a : Addr), as[i]? = some a → ∃ l, NbAt H a l ∧ NbOk T i l
def spNbrs : Sp := fun vs H Q _ => ∃ (w : Addr) (n : Nat) (T : List Tie), vs = [.ref w] ∧ WebAt H w n T ∧ WebOk n T ∧ ∀ (f : Addr) (H' : Hp), Same H H' → NbsAt H' f n T → Q (.ref f) H'
/-- the ways back: by which tie each place is come to -/
inductive Chain (T : List Tie) (by_ : List (Option Nat)) : Nat → Nat → Prop
  | root {v : Nat} : by_[v]? = some none → Chain T by_ v 0
  | step {v i d a b c : Nat} : by_[v]? = some (some i) → T[i]? = some (a, b, c) → (v = a ∨ v = b) → Chain T by_ (a + b - v) d → Chain T by_ v (d + 1)
structure ByOk (T : List Tie) (n : Nat) (by_ : List (Option Nat)) : Prop where
  len : by_.length = n
  ch : ∀ v, v < n → ∃ d, d < n ∧ Chain T by_ v d
def spSpread (P : Addr) : Sp := fun vs H Q _ => ∃ (w s : Addr) (n : Nat) (T : List Tie) (start : List (Option Nat)), vs = [.ref w, .ref s] ∧ WebAt H w n T ∧ WebOk n T ∧ RowAt H s start ∧ start.length = n ∧ Tab P H ∧
  ∀ (r ta ba : Addr) (told by_ : List (Option Nat)) (H' : Hp), H ta = none → Grow H H' → Tab P H' → H' r = some (.tup [.ref ta, .ref ba]) → RowAt H' ta told → RowAt H' ba by_ → Settle T n start told → ByOk T n by_ → Q (.ref r) H'
def spFrom (P : Addr) : Sp := fun vs H Q _ => ∃ (w : Addr) (p n : Nat) (T : List Tie), vs = [.ref w, nV p] ∧ WebAt H w n T ∧ WebOk n T ∧ p < n ∧ Tab P H ∧
  ∀ (r ta ba : Addr) (row : List (Option Nat)) (H' : Hp), H ta = none → Grow H H' → Tab P H' → H' r = some (.tup [.ref ta, .ref ba]) → RowAt H' ta row → IsDist T n p row → Q (.ref r) H'
/-! ### the table -/
/-- a lot's row: attained, relaxed, no dearer than its start -/
structure LotOk (T : List Tie) (n : Nat) (told : List Nat) (best : Nat → List (Option Nat)) (lot : Nat) : Prop where
  len : (best lot).length = n
  att : ∀ (v x : Nat), (best lot)[v]? = some (some x) → Web T told lot v x
  rel : ∀ (a b c x : Nat), Edge T a b c → (best lot)[a]? = some (some x) → ∃ y, (best lot)[b]? = some (some y) ∧ y ≤ x + c
  one : ∀ (at_ p : Nat), lot = 2 ^ at_ → told[at_]? = some p → (best lot)[p]? = some (some 0)
  two : ∀ (X Y u a b : Nat), X ≠ 0 → Y ≠ 0 → X &&& Y = 0 → X ||| Y = lot → (best X)[u]? = some (some a) → (best Y)[u]? = some (some b) → ∃ y, (best lot)[u]? = some (some y) ∧ y ≤ a + b
end K10


set_option Elab.async false
set_option linter.all false
set_option maxRecDepth 100000
set_option maxHeartbeats 4000000
/-! enumerate of a tuple. -/
namespace PySem
open Sem (wp)
open AutoSeq1 (wpAny_loadPart')
theorem k10_meets_enum_newT (l : Addr) (items : Array Value) (n : Nat) (dct : Option Addr) (sl : Array (Option Value)) :
    Meets (Builtin.«enumerate.__new__» ⟨[.type "enumerate", .ref l], []⟩) (fun _ R s => s.heap.get? l = some { cls := .type "tuple", dict := dct, data := .seq items n, slots := sl } ∧
      R (.ok (.ret (.ref (s.heap.push { cls := .type "tuple_iterator", data := .fields #[.ref l, .int 0 0] }).objs.size)))
        { s with heap := (s.heap.push { cls := .type "tuple_iterator", data := .fields #[.ref l, .int 0 0] }).push { cls := .type "enumerate", data := .fields #[.none, .bool false, .ref s.heap.objs.size, rawInt 0, .none, .none] } }) :=
  .of_wp fun prog w A R s h => by
    obtain ⟨hp, g, d, tk, os⟩ := s; obtain ⟨hl, h⟩ := h
    have hsub := sub_enumerate
    have hL : Heap.IsTuple (Shared.heap ⟨hp, g, d, tk, os⟩) l items := ⟨_, hl, rfl, n, rfl⟩
    wp_walk using wpAny_loadPart' hl
    refine wpAny_stack_any fun st => wpAny_pure ?_
    split
    · rename_i c _ _ _ _ _
      cases (c == Value.type "enumerate")
      · wp_walk using wpAny_loadPart' hl, wpAny_pyIter_tuple hL
        exact ⟨_, rfl, h⟩
      · wp_walk using wpAny_loadPart' hl, wpAny_pyIter_tuple hL
        exact ⟨_, rfl, h⟩
    · wp_walk using wpAny_loadPart' hl, wpAny_pyIter_tuple hL
      exact ⟨_, rfl, h⟩
section
variable {prog : Program} {w : World} {A : Around} {E : Value → Shared → Prop} {s : Shared}
theorem k10_call_enum_tuple {l : Addr} {items : Array Value} {Q : Value → Shared → Prop} (hL : s.heap.IsTuple l items)
    (h : ∀ h', IsEnum h' (s.heap.objs.size + 1) s.heap.objs.size 0 .none → h'.IsTupleIter s.heap.objs.size l 0 → h'.objs.size = s.heap.objs.size + 2 →
      (∀ b o, s.heap.get? b = some o → h'.get? b = some o) → Q (.ref (s.heap.objs.size + 1)) { s with heap := h' }) :
    wpAny (model prog w) A (call (.type "enumerate") [.ref l]) Q E s := by
  obtain ⟨⟨c, dct, dt, sl⟩, hl, hc, n, hd⟩ := hL
  replace hc : c = .type "tuple" := hc
  replace hd : dt = .seq items n := hd
  subst hc hd
  refine callType_new F.called_enumerate (by decide) (F.typeCall_enumerate_1 _) (F.newCall_enumerate_1 _) (fun obj => F.args_object_init_2 obj _) F.entry_enumerate_new
    (k10_meets_enum_newT l items n dct sl) ⟨hl, ?_⟩
  have hz : (s.heap.push { cls := .type "tuple_iterator", data := .fields #[.ref l, .int 0 0] }).objs.size = s.heap.objs.size + 1 := Heap.size_push ..
  show _ ∧ _
  rw [hz]
  have he : IsEnum ((s.heap.push { cls := .type "tuple_iterator", data := .fields #[.ref l, .int 0 0] }).push
      { cls := .type "enumerate", data := .fields #[.none, .bool false, .ref s.heap.objs.size, rawInt 0, .none, .none] }) (s.heap.objs.size + 1) s.heap.objs.size 0 .none := by
    have := Heap.get?_push_size (s.heap.push { cls := .type "tuple_iterator", data := .fields #[.ref l, .int 0 0] })
      (o := { cls := .type "enumerate", data := .fields #[.none, .bool false, .ref s.heap.objs.size, rawInt 0, .none, .none] }) rfl
    rw [hz] at this; exact this
  refine ⟨⟨_, he, rfl⟩, h _ he ⟨_, Heap.get?_push_of_some _ (Heap.get?_push_size _ rfl), rfl, rfl⟩ (by rw [Heap.size_push, hz]) fun b o x => Heap.get?_push_of_some _ (Heap.get?_push_of_some _ x)⟩
end
end PySem
namespace K10
open PySem PySem.Spec PyProof.Rows L2
/-- the tuple at a, each item in a new pair -/
def IteT (K : PySem.W.Frag) (a : Addr) : It :=
  ⟨fun i H => ∃ (xs : List V) (x : V), SqT K H a xs ∧ xs[i]? = some x, fun i H v H' => ∃ T x, v = .ref T ∧ H T = none ∧ H' = upd H T (.tup [.int (i : Nat), x]) ∧ ∀ xs, SqT K H a xs → xs[i]? = some x, fun i H => ∃ xs : List V, SqT K H a xs ∧ xs.length ≤ i⟩
theorem turn_enumT {P : Program} {w : World} {K : PySem.W.Frag} {elts : List Expr} {kk : Nat} {tpos : Pos} (a e it : Addr) :
    Turn P w K (.Tuple elts kk tpos) (IteT K a) [e, it] e (fun i h => (∃ old, IsEnum h e it ((i : Nat) : Int) old) ∧ h.IsTupleIter it a i ∧ e ≠ it) where
  mem := by simp
  obj := fun i h st b hb => by
    obtain ⟨⟨old, he⟩, ⟨o, ho, hc, hd⟩, _⟩ := st
    have e' : b = e ∨ b = it := by simpa using hb
    rcases e' with z | z
    · rw [z]; exact ⟨_, he, fun v q => nomatch q⟩
    · rw [z]; exact ⟨o, ho, fun v q => by rw [hd] at q; cases q⟩
  keep := fun i h h' st k => let ⟨⟨old, he⟩, hi, hne⟩ := st; ⟨⟨old, k e (by simp) _ he⟩, hi.at fun o q => k it (by simp) o q, hne⟩
  item := by
    intro X hP hw hK hc i pins s σ H E I hf st hg
    subst hP hw hK
    obtain ⟨⟨old, he⟩, hit, hne⟩ := st
    obtain ⟨xs, x, hq, hx⟩ := hg
    obtain ⟨its, rv, p, hz⟩ := I.tuple hq
    have p' : s.heap.IsTuple a its.toArray := p
    obtain ⟨u, hu, ru⟩ := rv.get hx
    have hel : e < s.heap.objs.size := Heap.lt_size he
    have hil : it < s.heap.objs.size := by obtain ⟨_, q, _⟩ := hit; exact Heap.lt_size q
    have hai : a ≠ it := by
      obtain ⟨o1, ho1, hc1, _⟩ := id hit
      obtain ⟨o2, ho2, hc2, _⟩ := id p'
      intro z
      rw [z, ho1] at ho2
      cases ho2
      rw [hc1] at hc2
      injection hc2 with z2
      exact absurd z2 (by decide)
    have hea : e ≠ a := by
      obtain ⟨o2, ho2, hc2, _⟩ := id p'
      intro z
      rw [← z] at ho2
      have he' : s.heap.get? e = some _ := he
      rw [he'] at ho2
      cases ho2
      injection hc2 with z2
      exact absurd z2 (by decide)
    have D := Draws.tuple (prog := X.prog) (w := X.w) (A := X.A.in1) (I.ok.hd hc) it a hai its.toArray
    have hil' : i < its.toArray.size := by
      have := (List.getElem?_eq_some_iff.mp hu).1
      simpa using this
    refine wpAny_pyNext_enum_itemD D he ⟨hit, p'⟩ hil' hne (by simp [hne, hea]) fun y h' tk hP ho hst' hT hsz hk => ?_
    have hP' : its.toArray[i]? = some y := hP
    have ey : y = u := by
      have : its[i]? = some y := by simpa using hP'
      rw [hu] at this
      exact (Option.some.inj this).symm
    subst ey
    refine ⟨_, rfl, wpAny_letOwnedTupleGo_enum (s := { s with heap := h', toks := tk + 1 }) ho fun h'' he' sb => ?_⟩
    have hT2 : h''.get? s.heap.objs.size = some { cls := .type "tuple", data := .seq #[.int i tk, y] } := (sb.2 _ (Nat.ne_of_gt hel)).trans hT
    have new : ObjOk X.prog X.w (upd H s.heap.objs.size (.tup [.int (i : Nat), x])) h'' s.heap.objs.size (.tup [.int (i : Nat), x]) :=
      ⟨by show 2 ≤ sizeLine; decide, [.int i tk, y], .cons ⟨_, rfl⟩ (.cons ru .nil), ⟨_, hT2, rfl, _, rfl⟩⟩
    have I1 : Inv X pins σ (upd H s.heap.objs.size (.tup [.int (i : Nat), x])) { s with heap := h'', toks := tk + 1 } :=
      I.turnedNew (ch := [e, it]) (fun b ob hb q => (sb.2 b (fun z => hb (by simp [z]))).trans (hk b ob (fun z => hb (by simp [z])) (fun z => hb (by simp [z])) q)) hf (Nat.le_refl _) new
    refine ⟨.ref s.heap.objs.size, _, I1, rfl, ⟨_, x, rfl, I.hok.fresh (Nat.le_refl _), rfl, fun ys hy => by rw [I.tuple_inj hy hq]; exact hx⟩, ⟨⟨y, ?_⟩, hst'.1.at fun o q => (sb.2 it (Ne.symm hne)).trans q, hne⟩, fun b hb => ?_⟩
    · have e1 : ((i + 1 : Nat) : Int) = (i : Int) + 1 := by omega
      rw [e1]; exact he'
    · have hb' : b < s.heap.objs.size := by
        have e' : b = e ∨ b = it := by simpa using hb
        rcases e' with z | z
        · rw [z]; exact hel
        · rw [z]; exact hil
      rw [upd_ne (Nat.ne_of_lt hb')]
      exact (hf b hb).1
  done := by
    intro X hP hw hK hc i pins s σ H E I hf st hg
    subst hP hw hK
    obtain ⟨⟨old, he⟩, hit, hne⟩ := st
    obtain ⟨xs, hq, hx⟩ := hg
    obtain ⟨its, rv, p, hz⟩ := I.tuple hq
    have p' : s.heap.IsTuple a its.toArray := p
    obtain ⟨f0, f1, f2, f3, f4, f5⟩ := hf it (by simp)
    have hl := rv.length
    have hai : a ≠ it := by
      obtain ⟨o1, ho1, hc1, _⟩ := id hit
      obtain ⟨o2, ho2, hc2, _⟩ := id p'
      intro z
      rw [z, ho1] at ho2
      cases ho2
      rw [hc1] at hc2
      injection hc2 with z2
      exact absurd z2 (by decide)
    have hT : s.TypeIs (.ref e) "enumerate" := ⟨_, he, rfl⟩
    unfold pyNext
    refine wpAny_bind (wpAny_attempt (wpAny_callSpecial?_slot (name := Str.ofString "__next__") hT F.slot_enumerate_next
      (wpAny_call_entry F.slot_enumerate_next hT F.entry_enumerate_next ?_ (F.args_enumerate_next_1 _))))
    show wpAny _ _ (field (.ref e) 2 >>= _) _ _ _
    refine wpAny_bind (wpAny_field he rfl (x := .ref it) rfl ?_)
    refine wpAny_bind (wpAny_nextOf_tuple_end (A := X.A.in1) (I.ok.hd hc) hit p' (by simp; omega) fun h' x he' hx' => ?_)
    obtain ⟨o, ho, hc'⟩ := hx'
    refine wpAny_bind (wpAny_isInstance (T := "StopIteration") (b := true) ⟨o, ho, hc'⟩ isSubtype_stop ?_)
    exact wpAny_pure ⟨rfl, I.turned (t' := s.toks) (fun b o hb q => he' b o hb q) f0 f1 f3 f4 f5⟩
  self := fun A i s Q E st h => let ⟨⟨_, he⟩, _⟩ := st; wpAny_pyIter_enum he h
def iEnumT (K : PySem.W.Frag) (ta : TA) : TI := fun σ H R => ta σ H fun vs H1 => ∃ a xs, vs = [.ref a] ∧ SqT K H1 a xs ∧ R (IteT K a) H1
theorem pi_enumT {X : Cx} {e : Expr} {ta : TA} {p pos tpos : Pos} {elts : List Expr} {kk : Nat} (hg : Gl X "enumerate") (hm : X.mg "enumerate" = none) (ha : PA X [e] ta) (hs : starEach [e] X.env = [(false, eval e X.env)] := by rfl) :
    PI X (.Tuple elts kk tpos) (.Call (.Name "enumerate" p) [e] [] pos) (iEnumT X.K ta) := by
  refine ⟨fun pins s σ H R I h => ?_⟩
  refine Call_ (ld_blt I hg hm boot_enumerate (PyProof.Rows.callWith_type1 (thn (ha.run pos pins s σ H _ I h) fun us s1 ⟨vs, H1, I1, r1, q1⟩ => ?_) hs rfl))
  obtain ⟨a, xs, ex, hq, q⟩ := q1
  subst ex
  cases r1 with
  | cons r rr =>
    cases rr
    cases r
    obtain ⟨its, rv, p', hz⟩ := I1.tuple hq
    refine k10_call_enum_tuple (show s1.heap.IsTuple a its.toArray from p') fun h' he hit hsz hk => wpAny_pyIter_enum he ?_
    have I2 : Inv X pins σ H1 { s1 with heap := h' } := I1.kept (t' := s1.toks) hk
    refine ⟨s1.heap.objs.size + 1, [s1.heap.objs.size + 1, s1.heap.objs.size], _, _, H1, rfl, I2, turn_enumT a (s1.heap.objs.size + 1) s1.heap.objs.size, ⟨⟨.none, he⟩, hit, Nat.succ_ne_self _⟩, fun b hb => ?_, q⟩
    have e' : b = s1.heap.objs.size + 1 ∨ b = s1.heap.objs.size := by simpa using hb
    have hle : s1.heap.objs.size ≤ b := by
      rcases e' with z | z
      · rw [z]; exact Nat.le_add_right _ _
      · rw [z]; exact Nat.le_refl _
    exact I1.fpOk hle (I1.hok.fresh hle)
theorem walk_enumT {K : PySem.W.Frag} {a : Addr} {xs : List V} : Walk (IteT K a) xs.length (fun H => SqT K H a xs) (YPair (fun i => some (.int (i : Nat))) (fun i => xs[i]?)) := by
  refine ⟨fun i H hi hG => ⟨xs, xs[i], hG, by simp [hi]⟩, fun H hG => ⟨xs, hG, Nat.le_refl _⟩, fun i H x H' hi hG hy => ?_⟩
  obtain ⟨T, y, e, hn, eH, hy⟩ := hy
  exact ⟨T, _, y, e, hn, eH, rfl, hy xs hG⟩
end K10


set_option Elab.async false
set_option linter.all false
set_option maxRecDepth 100000
set_option maxHeartbeats 4000000
namespace K10
open PySem L2 K10M
section
variable {P : Program} {w : World} {K : PySem.W.Frag} {mg : Str → Option Value} {base : Heap}
theorem scIsInt : FnScope ["value"] ["value"] (defScope sIsInt) := ⟨rfl, rfl, rfl, by decide +kernel, rfl, by decide +kernel, by decide +kernel⟩
theorem b_int : bootBuiltins "int" = some (.type "int") := by decide +kernel
theorem b_bool : bootBuiltins "bool" = some (.type "bool") := by decide +kernel
theorem b_tuple : bootBuiltins "tuple" = some (.type "tuple") := by decide +kernel
theorem b_list : bootBuiltins "list" = some (.type "list") := by decide +kernel
theorem b_str : bootBuiltins "str" = some (.type "str") := by decide +kernel
theorem b_isi : bootBuiltins "isinstance" = some (.builtin "isinstance") := by decide +kernel
theorem b_all : bootBuiltins "all" = some (.builtin "all") := by decide +kernel
theorem b_any : bootBuiltins "any" = some (.builtin "any") := by decide +kernel
theorem b_min : bootBuiltins "min" = some (.builtin "min") := by decide +kernel
theorem b_sorted : bootBuiltins "sorted" = some (.builtin "sorted") := by decide +kernel
theorem b_len : bootBuiltins "len" = some (.builtin "len") := by decide +kernel
theorem ok_isInt {f : Addr} {fd : FuncData} (F : Fun K "is_int" "is_int" sIsInt f fd) (T : Txt mg) : FnOk P w K mg base CX0 1 f fd ["value"] spIsInt := by
  refine F.ok scIsInt (fun vs H Q E h => ?_) (fun cdv A outer s H vs Q E hr h => ?_)
  · obtain ⟨i, rfl, _⟩ := h; rfl
  · obtain ⟨i, rfl, q⟩ := h
    refine ⟨_, pss_one (ps_ret (pe_and (pe_callB call_isi (by rfl) T.isi b_isi (pa_cons (pv 0) (pa_cons (pe_bltn (v := .ty "int") (by rfl) T.int b_int rfl) pa_nil)))
      (pe_one (pe_not (pe_callB call_isi (by rfl) T.isi b_isi (pa_cons (pv 0) (pa_cons (pe_bltn (v := .ty "bool") (by rfl) T.bool b_bool rfl) pa_nil))))))), ?_⟩
    refine ⟨_, rfl, _, _, _, _, true, rfl, .ty _, .base (.int i), kit_ty (by decide +kernel), _, rfl, iteT ?_⟩
    exact ⟨_, rfl, _, _, _, _, false, rfl, .ty _, .base (.int i), kit_ty (by decide +kernel), _, rfl, q⟩
theorem scIsFrom : FnScope ["value", "least", "most"] ["value", "least", "most"] (defScope sIsFrom) := ⟨rfl, rfl, rfl, by decide +kernel, rfl, by decide +kernel, by decide +kernel⟩
theorem ok_isFrom {f : Addr} {fd : FuncData} (F : Fun K "is_from" "is_from" sIsFrom f fd) (T : Txt mg) (C1 : Callee P w K mg base 1 "is_int" ["value"] spIsInt) : FnOk P w K mg base CX0 2 f fd ["value", "least", "most"] spIsFrom := by
  refine F.ok scIsFrom (fun vs H Q E h => ?_) (fun cdv A outer s H vs Q E hr h => ?_)
  · obtain ⟨i, a, b, rfl, _⟩ := h; rfl
  · obtain ⟨i, a, b, rfl, q⟩ := h
    refine ⟨_, pss_one (ps_ret (pe_and (pe_c C1 hr (by decide) (by rfl) (pa_cons (pv 0) pa_nil))
      (pe_one (pe_chain op_le op_le (pv 1) (pv 0) (pv 2))))), ?_⟩
    refine ⟨_, rfl, i, rfl, _, rfl, iteT ?_⟩
    refine ⟨_, rfl, _, rfl, _, _, rfl, rfl, _, rfl, ?_⟩
    by_cases h1 : a ≤ i
    · rw [decide_eq_true h1]
      refine iteT ⟨_, rfl, _, _, rfl, rfl, ?_⟩
      simp only [h1, true_and] at q
      exact q
    · rw [decide_eq_false h1]
      refine iteF ?_
      simp only [h1, false_and, decide_false] at q
      exact q

theorem b_enum : bootBuiltins "enumerate" = some (.type "enumerate") := by decide +kernel
abbrev nTie : List Str := ["value", "many", "one"]
theorem scIsTie : FnScope nTie ["value", "many"] (defScope sIsTie) := ⟨rfl, rfl, rfl, by decide +kernel, rfl, by decide +kernel, by decide +kernel⟩
theorem ok_isTie {f : Addr} {fd : FuncData} (F : Fun K "is_tie" "is_tie" sIsTie f fd) (T : Txt mg) (C1 : Callee P w K mg base 1 "is_int" ["value"] spIsInt) : FnOk P w K mg base CX0 2 f fd ["value", "many"] spIsTie := by
  refine F.ok scIsTie (fun vs H Q E h => ?_) (fun cdv A outer s H vs Q E hr h => ?_)
  · obtain ⟨p, t, n, rfl, _⟩ := h; rfl
  · obtain ⟨p, ⟨a, b, c⟩, n, rfl, ht, hab, hbn, hc, q⟩ := h
    obtain ⟨tp, mp⟩ := T.mprice
    have ht : H p = some (.tup [nV a, nV b, nV c]) := ht
    have hab : a < b := hab
    have hbn : b < n := hbn
    have hc : c ≤ 999 := hc
    refine ⟨_, pss_cons (ps_if (PW.pt (pw_or (pt_not (pt_val (pe_callB call_isi (by rfl) T.isi b_isi (pa_cons (pv 0) (pa_cons (pe_bltn (v := .ty "tuple") (by rfl) T.tuple b_tuple rfl) pa_nil)))))
        (pw_or (pt_cmpR op_ne (pe_callB call_len_seq (by rfl) T.len b_len (pa_cons (pv 0) pa_nil)) pe_int (nomark _))
        (pw_or1 (pt_not (pt_val (pe_callB (cr_all rfl) (by rfl) T.all b_all (pa_cons
          (pe_lc (own := [("one", 2)]) (g := gName 2) (tt := tYes) rfl scIsTie.nd (pi_tup (pv 0)) (blkOk_by (N := nTie) (sc := defScope sIsTie) (by decide +kernel))
            (fun _ _ _ _ _ => pg_name (i := 2) scIsTie.nd rfl (Or.inl rfl)) (fun _ _ _ _ _ => pts_nil) (fun _ _ _ _ _ => pe_c C1 hr (by decide) (by rfl) (pa_cons (pv 2) pa_nil))) pa_nil))))))))
        pss_never pss_nil)
      (pss_one (ps_ret (pe_and (pe_chain3 op_le op_lt op_lt pe_int (pe_ix ix_tup (pv 0) pe_int (fun _ _ => rfl)) (pe_ix ix_tup (pv 0) pe_int (fun _ _ => rfl)) (pv 1))
        (pe_one (pe_chain op_le op_le pe_int (pe_ix ix_tup (pv 0) pe_int (fun _ _ => rfl)) (pe_glob (v := .int 999) (by rfl) mp ⟨_, rfl⟩)))))), ?_⟩
    refine ⟨_, rfl, _, _, _, _, true, rfl, .ty _, .base (.tup ht), kit_ty (by decide +kernel), _, rfl, iteF ?_⟩
    refine ⟨_, rfl, p, _, rfl, .inr (SqT.of ht), rfl, _, rfl, ?_⟩
    refine iteNS rfl ?_
    refine ⟨_, rfl, p, rfl, ⟨_, SqT.of ht⟩, fun D hD => lc_tup (K := K) (a := p) (xs := [nV a, nV b, nV c]) (fun i H' => Same H H' ∧ ∃ bs : List Bool, bs.length = i ∧ (∀ x ∈ bs, x = true) ∧ H' D = some (.lst (bs.map V.bl))) ?_ (fun i H' _ ⟨s1, _⟩ => SqT.of (s1 _ _ ht)) ?_ ?_⟩
    · exact ⟨same_put hD (Same.refl _), [], rfl, fun _ h => (nomatch h), upd_same⟩
    · rintro i x H' hi ⟨s1, bs, hb, ha, hd⟩
      have hil : i < 3 := (List.getElem?_eq_some_iff.mp hi).1
      obtain ⟨z, rfl⟩ : ∃ z : Nat, x = nV z := by
        match i, hi with
        | 0, hi => exact ⟨a, (Option.some.inj hi).symm⟩
        | 1, hi => exact ⟨b, (Option.some.inj hi).symm⟩
        | 2, hi => exact ⟨c, (Option.some.inj hi).symm⟩
      refine ⟨rfl, _, rfl, z, rfl, bs.map V.bl, hd, ?_, same_put hD s1, bs ++ [true], ?_, ?_, ?_⟩
      · rw [List.length_map]; exact sz (by omega)
      · simp [hb]
      · intro y hy
        rcases List.mem_append.mp hy with hy | hy
        · exact ha y hy
        · exact List.mem_singleton.mp hy
      · rw [upd_same, List.map_append]; rfl
    · rintro H' ⟨s1, bs, hb, ha, hd⟩
      refine ⟨D, bs, rfl, SqL.of hd, true, ?_, iteF ?_⟩
      · have : bs.all id = true := List.all_eq_true.mpr fun x hx => ha x hx
        rw [this]
      have ht' := s1 _ _ ht
      refine ⟨_, rfl, p, _, _, _, rfl, rfl, SqT.of ht', atI_nat (j := 0) rfl, _, _, rfl, rfl, _, rfl, ?_⟩
      refine iteD (show (0 : Int) ≤ (a : Int) by omega) ?_
      refine ⟨_, rfl, p, _, _, _, rfl, rfl, SqT.of ht', atI_nat (j := 1) rfl, _, _, rfl, rfl, _, rfl, ?_⟩
      refine iteD (show (a : Int) < (b : Int) by omega) ?_
      refine ⟨_, rfl, _, _, rfl, rfl, _, rfl, ?_⟩
      refine iteD (show (b : Int) < (n : Int) by omega) ?_
      refine ⟨_, rfl, p, _, _, _, rfl, rfl, SqT.of ht', atI_nat (j := 2) rfl, _, _, rfl, rfl, _, rfl, ?_⟩
      refine iteD (show (0 : Int) ≤ (c : Int) by omega) ?_
      exact ⟨_, _, rfl, rfl, bl_t (show (c : Int) ≤ 999 by omega) (q H' s1)⟩
end
end K10


set_option Elab.async false
set_option linter.all false
set_option maxRecDepth 100000
set_option maxHeartbeats 4000000
namespace K10
open PySem L2 K10M
theorem pair_get {α β : Type} {F : α → β → Prop} : ∀ {l₁ : List α} {l₂ : List β} {i : Nat} {a : α}, Paired F l₁ l₂ → l₁[i]? = some a → ∃ b, l₂[i]? = some b ∧ F a b
  | _, _, 0, _, .cons r _, h => by simp at h; subst h; exact ⟨_, rfl, r⟩
  | _, _, i + 1, _, .cons _ t, h => by
    obtain ⟨b, h1, h2⟩ := pair_get (i := i) t (by simpa using h)
    exact ⟨b, by simpa using h1, h2⟩
theorem pair_get2 {α β : Type} {F : α → β → Prop} : ∀ {l₁ : List α} {l₂ : List β} {i : Nat} {b : β}, Paired F l₁ l₂ → l₂[i]? = some b → ∃ a, l₁[i]? = some a ∧ F a b
  | _, _, 0, _, .cons r _, h => by simp at h; subst h; exact ⟨_, rfl, r⟩
  | _, _, i + 1, _, .cons _ t, h => by
    obtain ⟨b, h1, h2⟩ := pair_get2 (i := i) t (by simpa using h)
    exact ⟨b, by simpa using h1, h2⟩
section
variable {P : Program} {w : World} {K : PySem.W.Frag} {mg : Str → Option Value} {base : Heap}
abbrev nNeed : List Str := ["value", "many", "ties", "index", "tie"]
theorem scNeed : FnScope nNeed ["value"] (defScope sNeedWeb) := ⟨rfl, rfl, rfl, by decide +kernel, rfl, by decide +kernel, by decide +kernel⟩
theorem cut2 (a b c : V) : cutV [a, b, c] none (some 2) = [a, b] := rfl
theorem notwhole3 (xs : List V) (h : xs.length = 3) : ¬ (HT.sIx xs.length 0 none = 0 ∧ HT.sIx xs.length xs.length (some 2) = xs.length) := by
  rintro ⟨_, z⟩
  rw [h] at z
  revert z; decide
theorem ok_needWeb {f : Addr} {fd : FuncData} (F : Fun K "need_web" "need_web" sNeedWeb f fd) (T : Txt mg) (C1 : Callee P w K mg base 2 "is_from" ["value", "least", "most"] spIsFrom) (C2 : Callee P w K mg base 2 "is_tie" ["value", "many"] spIsTie) :
    FnOk P w K mg base CX0 3 f fd ["value"] spNeedWeb := by
  refine F.ok scNeed (fun vs H Q E h => ?_) (fun cdv A outer s H vs Q E hr h => ?_)
  · obtain ⟨w, n, T, rfl, _⟩ := h; rfl
  · obtain ⟨wb, n, Ti, rfl, hW, hO, q⟩ := h
    obtain ⟨pt, ps, hw, hpt, hps⟩ := hW.ex
    obtain ⟨tp, mp⟩ := T.mplaces
    obtain ⟨tq, mq⟩ := T.mties
    have hl : ps.length = Ti.length := hps.length
    refine ⟨_, (pss_cons (ps_if (PW.pt (pw_or (pt_not (pt_val (pe_callB call_isi (by rfl) T.isi b_isi (pa_cons (pv 0) (pa_cons (pe_bltn (v := .ty "tuple") (by rfl) T.tuple b_tuple rfl) pa_nil))))) (pw_or (pt_cmpR op_ne (pe_callB call_len_seq (by rfl) T.len b_len (pa_cons (pv 0) pa_nil)) pe_int (nomark _)) (pw_or1 (pt_not (pt_val (pe_c C1 hr (by decide) (by rfl) (pa_cons (pe_ix ix_tup (pv 0) pe_int (fun _ _ => rfl)) (pa_cons pe_int (pa_cons (pe_glob (v := .int 12) (by rfl) mp ⟨_, rfl⟩) pa_nil)))))))))) (pss_one ps_never) pss_nil)
      (pss_cons (ps_asg (pv 0) (pg_tup rfl (pgs_cons (pg_name (i := 1) scNeed.nd rfl (.inl rfl)) (pgs_cons (pg_name (i := 2) scNeed.nd rfl (.inl rfl)) pgs_nil))))
      (pss_cons (ps_if (PW.pt (pw_or (pt_not (pt_val (pe_callB call_isi (by rfl) T.isi b_isi (pa_cons (pv 2) (pa_cons (pe_bltn (v := .ty "tuple") (by rfl) T.tuple b_tuple rfl) pa_nil))))) (pw_or1 (pt_cmpR op_gt (pe_callB call_len_seq (by rfl) T.len b_len (pa_cons (pv 2) pa_nil)) (pe_glob (v := .int 30) (by rfl) mq ⟨_, rfl⟩) (nomark _))))) (pss_one ps_never) pss_nil)
      (pss_one (ps_for PassesOwn.never rfl (pi_enumT (by rfl) T.enum (pa_cons (pv 2) pa_nil)) (pg_tup rfl (pgs_cons (pg_name (i := 3) scNeed.nd rfl (.inl rfl)) (pgs_cons (pg_name (i := 4) scNeed.nd rfl (.inl rfl)) pgs_nil))) (pss_one (ps_if (PW.pt (pw_or (pt_not (pt_val (pe_c C2 hr (by decide) (by rfl) (pa_cons (pv 4) (pa_cons (pv 1) pa_nil))))) (pw_or1 (PW.pt (pw_and (pt_cmpR op_gt (pv 3) pe_int (nomark _)) (pw_and1 (pt_cmpR (op_leT hr.units0) (pe_slice sl_tup (pv 4) po_none (po_some pe_int)) (pe_slice sl_tup (pe_ix ix_tup (pv 2) (pe_op op_sub (pv 3) pe_int) (fun _ _ => rfl)) po_none (po_some pe_int)) (nomark _)))))))) (pss_one ps_never) pss_nil))))))), ?_⟩
    refine ⟨_, rfl, _, _, _, _, true, rfl, .ty _, .base (.tup hw), kit_ty (by decide +kernel), _, rfl, iteF ?_⟩
    refine ⟨_, rfl, wb, _, rfl, .inr (SqT.of hw), rfl, _, rfl, ?_⟩
    refine iteNS rfl ?_
    refine ⟨_, rfl, wb, _, _, _, rfl, rfl, SqT.of hw, atI_nat (j := 0) rfl, _, _, _, rfl, _, rfl, ?_⟩
    refine iteN (show (1 : Int) ≤ (n : Int) ∧ (n : Int) ≤ 12 from ⟨by have := hO.n1; omega, by have := hO.n8; omega⟩) ?_
    refine ⟨_, rfl, wb, _, rfl, SqT.of hw, rfl, _, _, rfl, _, _, rfl, rfl, ?_⟩
    refine ⟨_, rfl, _, _, _, _, true, rfl, .ty _, .base (.tup hpt), kit_ty (by decide +kernel), _, rfl, iteF ?_⟩
    refine ⟨_, rfl, pt, _, rfl, .inr (SqT.of hpt), _, _, rfl, rfl, _, rfl, ?_⟩
    refine iteDF (show ¬ (30 : Int) < (((ps.map V.ref).length : Nat) : Int) from by rw [List.length_map]; have := hO.l30; omega) ?_
    refine ⟨_, rfl, pt, _, rfl, SqT.of hpt, for_it (walk_enumT (K := K) (a := pt) (xs := ps.map V.ref)) (fun i σ H' => Same H H' ∧ ∃ vi vt, σ = [some (.ref wb), some (nV n), some (.ref pt), vi, vt]) ⟨Same.refl _, none, none, rfl⟩ (fun i σ H' _ ⟨s1, _⟩ => SqT.of (s1 _ _ hpt)) ?_ ?_⟩
    · rintro i x σ H1 H2 hi ⟨s1, vi, vt, rfl⟩ ⟨Tp, x1, x2, rfl, hn, rfl, e1, e2⟩
      have e1 : x1 = .int (i : Int) := (Option.some.inj e1).symm
      subst e1
      obtain ⟨p, hp, rfl⟩ : ∃ p, ps[i]? = some p ∧ x2 = .ref p := by
        have e2 : (ps.map V.ref)[i]? = some x2 := e2
        rw [List.getElem?_map] at e2
        cases h : ps[i]? with
        | none => rw [h] at e2; cases e2
        | some p => rw [h] at e2; exact ⟨p, rfl, (Option.some.inj e2).symm⟩
      obtain ⟨t, ht, hA⟩ := pair_get hps hp
      have s2 : Same H1 (upd H1 Tp (.tup [.int (i : Int), .ref p])) := same_upd hn
      have sA := s1.trans s2
      have hm : t ∈ Ti := List.mem_of_getElem? ht
      refine ⟨Tp, _, rfl, SqT.of upd_same, rfl, _, _, rfl, _, _, rfl, rfl, ?_⟩
      refine ⟨_, rfl, _, rfl, p, t, n, rfl, sA _ _ hA, (hO.win t hm).1, (hO.win t hm).2, hO.price t hm, fun H3 s3 => ⟨_, rfl, iteF ?_⟩⟩
      refine ⟨_, rfl, _, _, rfl, rfl, _, rfl, ?_⟩
      have s13 := sA.trans s3
      by_cases h0 : i = 0
      · subst h0
        refine iteDF (show ¬ (0 : Int) < ((0 : Nat) : Int) by omega) ?_
        refine iteF ?_
        exact ⟨s13, _, _, rfl⟩
      · refine iteD (show (0 : Int) < (i : Int) by omega) ?_
        obtain ⟨j, rfl⟩ : ∃ j, i = j + 1 := ⟨i - 1, by omega⟩
        have hj : j < ps.length := by have := (List.getElem?_eq_some_iff.mp hp).1; omega
        have hp' : ps[j]? = some ps[j] := List.getElem?_eq_getElem hj
        obtain ⟨t', ht', hA'⟩ := pair_get hps hp'
        have hlt : lexLt t' t := by
          obtain ⟨l1, q1⟩ := List.getElem?_eq_some_iff.mp ht'
          obtain ⟨l2, q2⟩ := List.getElem?_eq_some_iff.mp ht
          have := List.pairwise_iff_getElem.mp hO.up j (j + 1) l1 l2 (by omega)
          rw [q1, q2] at this; exact this
        have a3 : H3 p = some (.tup [nV t.1, nV t.2.1, nV t.2.2]) := s13 _ _ hA
        refine ⟨_, rfl, _, rfl, p, _, rfl, SqT.of a3, notwhole3 _ rfl, fun p1 np1 => ?_⟩
        have s14 : Same H (upd H3 p1 (.tup (cutV [nV t.1, nV t.2.1, nV t.2.2] none (some 2)))) := s13.trans (same_upd np1)
        refine ⟨_, rfl, _, rfl, _, _, rfl, rfl, pt, _, _, _, rfl, rfl, SqT.of (s14 _ _ hpt), at_of (j := j) (by omega) (by rw [List.getElem?_map, hp']; rfl), _, rfl, ps[j], _, rfl, SqT.of (s14 _ _ hA'), notwhole3 _ rfl, fun p2 np2 => ?_⟩
        refine ⟨p1, p2, [(t.1 : Int), (t.2.1 : Int)], [(t'.1 : Int), (t'.2.1 : Int)], rfl, rfl, SqT.of ?_, SqT.of upd_same, _, rfl, ?_⟩
        · rw [upd_ne (ne_of_none upd_same np2)]; exact upd_same
        · have e0 : Ob.lexAt (fun j => decide ([(t.1 : Int), (t.2.1 : Int)].getD j 0 = [(t'.1 : Int), (t'.2.1 : Int)].getD j 0)) (fun j => decide ([(t.1 : Int), (t.2.1 : Int)].getD j 0 ≤ [(t'.1 : Int), (t'.2.1 : Int)].getD j 0))
              (decide ([(t.1 : Int), (t.2.1 : Int)].length ≤ [(t'.1 : Int), (t'.2.1 : Int)].length)) 0 (min [(t.1 : Int), (t.2.1 : Int)].length [(t'.1 : Int), (t'.2.1 : Int)].length) = false := by
            show (if decide ((t.1 : Int) = (t'.1 : Int)) = true then (if decide ((t.2.1 : Int) = (t'.2.1 : Int)) = true then _ else decide ((t.2.1 : Int) ≤ (t'.2.1 : Int))) else decide ((t.1 : Int) ≤ (t'.1 : Int))) = false
            rcases hlt with z | ⟨z1, z2⟩
            · rw [if_neg (by rw [decide_eq_true_iff]; omega), decide_eq_false (by omega)]
            · rw [if_pos (by rw [decide_eq_true_iff]; omega), if_neg (by rw [decide_eq_true_iff]; omega), decide_eq_false (by omega)]
          rw [e0]
          refine iteF ?_
          exact ⟨s14.trans (same_upd np2), _, _, rfl⟩
    · rintro σ H' ⟨s1, vi, vt, rfl⟩
      exact q H' s1
abbrev nRis : List Str := ["value", "most", "one", "at"]
theorem scRis : FnScope nRis ["value", "most"] (defScope sRising) := ⟨rfl, rfl, rfl, by decide +kernel, rfl, by decide +kernel, by decide +kernel⟩
theorem ok_rising {f : Addr} {fd : FuncData} (F : Fun K "is_rising" "is_rising" sRising f fd) (T : Txt mg) (C1 : Callee P w K mg base 2 "is_from" ["value", "least", "most"] spIsFrom) :
    FnOk P w K mg base CX0 3 f fd ["value", "most"] spRising := by
  refine F.ok scRis (fun vs H Q E h => ?_) (fun cdv A outer s H vs Q E hr h => ?_)
  · obtain ⟨a, n, told, rfl, _⟩ := h; rfl
  · obtain ⟨a, n, told, rfl, hA, hO, q⟩ := h
    refine ⟨_, (pss_cons (ps_if (PW.pt (pw_or (pt_not (pt_val (pe_callB call_isi (by rfl) T.isi b_isi (pa_cons (pv 0) (pa_cons (pe_bltn (v := .ty "tuple") (by rfl) T.tuple b_tuple rfl) pa_nil))))) (pw_or1 (pt_not (pt_val (pe_callB (cr_all rfl) (by rfl) T.all b_all (pa_cons (pe_lc (own := [("one", 2)]) rfl scRis.nd (pi_tup (pv 0)) (blkOk_by (N := nRis) (sc := defScope sRising) (by decide +kernel)) (fun _ _ _ _ _ => (pg_name (i := 2) scRis.nd rfl (.inl rfl))) (fun _ _ _ _ _ => pts_nil) (fun _ _ _ _ _ => (pe_c C1 hr (by decide) (by rfl) (pa_cons (pv 2) (pa_cons pe_int (pa_cons (pe_op op_sub (pv 1) pe_int) pa_nil)))))) pa_nil))))))) (pss_one (ps_ret pe_bl)) pss_nil)
      (pss_one (ps_ret (pe_not (pe_callB (cr_any rfl) (by rfl) T.any b_any (pa_cons (pe_lc (own := [("at", 3)]) rfl scRis.nd (pi_range2 (by rfl) T.range (pa_cons pe_int (pa_cons (pe_callB call_len_seq (by rfl) T.len b_len (pa_cons (pv 0) pa_nil)) pa_nil))) (blkOk_by (N := nRis) (sc := defScope sRising) (by decide +kernel)) (fun _ _ _ _ _ => (pg_name (i := 3) scRis.nd rfl (.inl rfl))) (fun _ _ _ _ _ => pts_nil) (fun _ _ _ _ _ => (pe_cmpR op_le (pe_ix (ix_tup' K) (pv 0) (pv 3) (fun _ _ => rfl)) (pe_ix (ix_tup' K) (pv 0) (pe_op op_sub (pv 3) pe_int) (fun _ _ => rfl)) (nomark _)))) pa_nil)))))), ?_⟩
    refine ⟨_, rfl, _, _, _, _, true, rfl, .ty _, .base (.tup hA), kit_ty (by decide +kernel), _, rfl, iteF ?_⟩
    refine ⟨_, rfl, a, rfl, ⟨_, SqT.of hA⟩, fun D hD => lc_tup (K := K) (a := a) (xs := told.map nV) (fun i H' => Same H H' ∧ ∃ bs : List Bool, bs.length = i ∧ (∀ x ∈ bs, x = true) ∧ H' D = some (.lst (bs.map V.bl))) ⟨same_put hD (Same.refl _), [], rfl, fun _ h => (nomatch h), upd_same⟩ (fun i H' _ ⟨s1, _⟩ => SqT.of (s1 _ _ hA)) ?_ ?_⟩
    · rintro i x H' hi ⟨s1, bs, hb, ha, hd⟩
      have hil : i < (told.map nV).length := (List.getElem?_eq_some_iff.mp hi).1
      rw [List.length_map] at hil
      have hl6 := hO.l6
      obtain ⟨z, hz, rfl⟩ : ∃ z : Nat, z ∈ told ∧ x = nV z := by
        rw [List.getElem?_map] at hi
        cases h : told[i]? with
        | none => rw [h] at hi; cases hi
        | some z => rw [h] at hi; exact ⟨z, List.mem_of_getElem? h, (Option.some.inj hi).symm⟩
      refine ⟨rfl, _, rfl, _, rfl, _, _, rfl, rfl, _, _, _, rfl, bs.map V.bl, hd, ?_, same_put hD s1, bs ++ [true], ?_, ?_, ?_⟩
      · rw [List.length_map]; exact sz (by omega)
      · simp [hb]
      · intro y hy
        rcases List.mem_append.mp hy with hy | hy
        · exact ha y hy
        · exact List.mem_singleton.mp hy
      · have hzn := hO.lt z hz
        rw [decide_eq_true (show (0 : Int) ≤ (z : Int) ∧ (z : Int) ≤ (n : Int) - 1 from ⟨by omega, by omega⟩), upd_same, List.map_append]; rfl
    · rintro H1 ⟨s1, bs, hb, ha, hd⟩
      refine ⟨D, bs, rfl, SqL.of hd, true, ?_, iteF ?_⟩
      · have : bs.all id = true := List.all_eq_true.mpr fun x hx => ha x hx
        rw [this]
      have hA1 := s1 _ _ hA
      have hl6 := hO.l6
      refine ⟨_, rfl, a, _, rfl, .inr (SqT.of hA1), 1, _, rfl, ⟨by omega, by omega, by omega, by rw [List.length_map]; omega⟩, fun D2 hD2 => lc_range (fun i H' => Same H H' ∧ H' a = some (.tup (told.map nV)) ∧ ∃ bs : List Bool, bs.length = i ∧ (∀ x ∈ bs, x = false) ∧ H' D2 = some (.lst (bs.map V.bl))) ?_ ?_ ?_⟩
      · refine ⟨fun b o e => ?_, ?_, [], rfl, fun _ h => (nomatch h), upd_same⟩
        · exact same_upd hD2 _ _ (s1 _ _ e)
        · exact same_upd hD2 _ _ hA1
      · rintro i H' hi ⟨s2, hA2, bs2, hb2, ha2, hd2⟩
        rw [List.length_map] at hi
        have h1 : i + 1 < told.length := by omega
        have e1 : told[i + 1]? = some told[i + 1] := List.getElem?_eq_getElem h1
        have e0 : told[i]? = some told[i] := List.getElem?_eq_getElem (by omega)
        have hlt := List.pairwise_iff_getElem.mp hO.up i (i + 1) (by omega) h1 (by omega)
        refine ⟨rfl, _, rfl, _, rfl, a, _, _, _, rfl, rfl, SqT.of hA2, at_of (j := i + 1) (by omega) (by rw [List.getElem?_map, e1]; rfl), _, rfl, _, rfl, _, _, rfl, rfl, a, _, _, _, rfl, rfl, SqT.of hA2, at_of (j := i) (by omega) (by rw [List.getElem?_map, e0]; rfl), _, _, rfl, rfl, bs2.map V.bl, hd2, ?_, ?_, ?_, bs2 ++ [false], ?_, ?_, ?_⟩
        · rw [List.length_map]; exact sz (by omega)
        · intro b o e
          rw [upd_ne (fun z => by rw [z] at e; have := s1 _ _ e; rw [hD2] at this; cases this)]; exact s2 _ _ e
        · rw [upd_ne (ne_of_none hA1 hD2)]; exact hA2
        · simp [hb2]
        · intro y hy
          rcases List.mem_append.mp hy with hy | hy
          · exact ha2 y hy
          · exact List.mem_singleton.mp hy
        · rw [upd_same]
          show some (HO.lst (bs2.map V.bl ++ [V.bl (decide ((told[i + 1] : Int) ≤ (told[i] : Int)))])) = _
          rw [decide_eq_false (show ¬ (told[i + 1] : Int) ≤ (told[i] : Int) by omega), List.map_append]; rfl
      · rintro H2 ⟨s2, hA2, bs2, hb2, ha2, hd2⟩
        refine ⟨D2, bs2, rfl, SqL.of hd2, false, ?_, q H2 s2⟩
        have : bs2.any id = false := by
          rw [Bool.eq_false_iff]
          intro z
          obtain ⟨x, hx, hx2⟩ := List.any_eq_true.mp z
          rw [ha2 x hx] at hx2; cases hx2
        rw [this]
abbrev nNT : List Str := ["web", "value"]
theorem scNT : FnScope nNT ["web", "value"] (defScope sNeedTold) := ⟨rfl, rfl, rfl, by decide +kernel, rfl, by decide +kernel, by decide +kernel⟩
theorem ok_needTold {f : Addr} {fd : FuncData} (F : Fun K "need_told" "need_told" sNeedTold f fd) (T : Txt mg) (C1 : Callee P w K mg base 3 "is_rising" ["value", "most"] spRising) :
    FnOk P w K mg base CX0 4 f fd ["web", "value"] spNeedTold := by
  refine F.ok scNT (fun vs H Q E h => ?_) (fun cdv A outer s H vs Q E hr h => ?_)
  · obtain ⟨wb, a, n, Ti, told, rfl, _⟩ := h; rfl
  · obtain ⟨wb, a, n, Ti, told, rfl, hW, hA, hO, q⟩ := h
    obtain ⟨pt, ps, hw, hpt, hps⟩ := hW.ex
    obtain ⟨tp, mp⟩ := T.mtold
    refine ⟨_, (pss_one (ps_if (PW.pt (pw_or (pt_not (pt_val (pe_c C1 hr (by decide) (by rfl) (pa_cons (pv 1) (pa_cons (pe_ix ix_tup (pv 0) pe_int (fun _ _ => rfl)) pa_nil))))) (pw_or1 (pt_not (pt_chain op_le op_le pe_int (pe_callB call_len_seq (by rfl) T.len b_len (pa_cons (pv 1) pa_nil)) (pe_glob (v := .int 8) (by rfl) mp ⟨_, rfl⟩)))))) (pss_one ps_never) pss_nil)), ?_⟩
    refine ⟨_, rfl, _, rfl, wb, _, _, _, rfl, rfl, SqT.of hw, atI_nat (j := 0) rfl, a, n, told, rfl, hA, hO, fun H1 s1 => ⟨_, rfl, iteF ?_⟩⟩
    have hl : 1 ≤ told.length := List.length_pos_iff.mpr hO.ne
    have hl6 := hO.l6
    refine ⟨_, rfl, a, _, rfl, .inr (SqT.of (s1 _ _ hA)), _, _, rfl, rfl, _, rfl, ?_⟩
    refine iteD (show (1 : Int) ≤ (((told.map nV).length : Nat) : Int) by rw [List.length_map]; omega) ?_
    refine ⟨_, _, rfl, rfl, _, rfl, ?_⟩
    refine iteN (show (((told.map nV).length : Nat) : Int) ≤ 8 by rw [List.length_map]; omega) ?_
    exact q H1 s1
end
end K10


set_option Elab.async false
set_option linter.all false
set_option maxRecDepth 100000
set_option maxHeartbeats 4000000
namespace K10
open PySem L2 K10M
structure NbInv (H0 : Hp) (f : Addr) (as : List Addr) (L : Nat → List (Nat × Nat × Nat)) (H' : Hp) : Prop where
  same : Same H0 H'
  fl : H' f = some (.lst (as.map V.ref))
  nd : as.Nodup
  fr : ∀ a ∈ as, H0 a = none ∧ a ≠ f
  f0 : H0 f = none
  at_ : ∀ (i : Nat) (a : Addr), as[i]? = some a → NbAt H' a (L i)
theorem NbInv.more {H0 : Hp} {f : Addr} {as : List Addr} {L : Nat → List (Nat × Nat × Nat)} {H1 H' : Hp} (h : NbInv H0 f as L H1) (s : Same H1 H') : NbInv H0 f as L H' :=
  ⟨h.same.trans s, s _ _ h.fl, h.nd, h.fr, h.f0, fun i a e => let ⟨ps, h1, h2⟩ := h.at_ i a e; ⟨ps, s _ _ h1, h2.mono fun _ _ q => s _ _ q⟩⟩
theorem NbInv.step {H0 : Hp} {f : Addr} {as : List Addr} {L : Nat → List (Nat × Nat × Nat)} {H' : Hp} (h : NbInv H0 f as L H') {i o c x : Nat} {A p : Addr} {ps : List Addr} (hi : as[i]? = some A) (hA : H' A = some (.lst (ps.map V.ref))) (hps : Paired (TieAt H') ps (L i))
    (hp : H' p = some (.tup [nV o, nV c, nV x])) : NbInv H0 f as (fun k => if k = i then L i ++ [(o, c, x)] else L k) (upd H' A (.lst (ps.map V.ref ++ [V.ref p]))) := by
  have hm : A ∈ as := List.mem_of_getElem? hi
  have nA : ∀ b xs, H' b = some (.tup xs) → b ≠ A := fun b xs e => ne_of e hA (by intro z; cases z)
  refine ⟨fun b u e => ?_, ?_, h.nd, h.fr, h.f0, fun k a e => ?_⟩
  · rw [upd_ne (ne_of_none e (h.fr A hm).1)]; exact h.same b u e
  · rw [upd_ne (Ne.symm (h.fr A hm).2)]; exact h.fl
  · by_cases hk : k = i
    · subst hk
      rw [hi] at e
      cases e
      rw [if_pos rfl]
      refine ⟨ps ++ [p], by rw [upd_same, List.map_append]; rfl, ?_⟩
      refine Paired.snoc (hps.mono fun q t z => ?_) ?_
      · show upd H' A _ q = _
        rw [upd_ne (nA q _ z)]; exact z
      · show upd H' A _ p = _
        rw [upd_ne (nA p _ hp)]; exact hp
    · rw [if_neg hk]
      obtain ⟨qs, h1, h2⟩ := h.at_ k a e
      have ne : a ≠ A := fun z => by
        subst z
        obtain ⟨l1, q1⟩ := List.getElem?_eq_some_iff.mp e
        obtain ⟨l2, q2⟩ := List.getElem?_eq_some_iff.mp hi
        exact hk ((List.getElem_inj h.nd).mp (q1.trans q2.symm))
      refine ⟨qs, by rw [upd_ne ne]; exact h1, h2.mono fun q t z => ?_⟩
      show upd H' A _ q = _
      rw [upd_ne (nA q _ z)]; exact z
structure LOk (T : List Tie) (j : Nat) (L : Nat → List (Nat × Nat × Nat)) : Prop where
  of : ∀ i o c x, (o, c, x) ∈ L i → T[x]? = some (i, o, c) ∨ T[x]? = some (o, i, c)
  has : ∀ (i x a b c : Nat), x < j → T[x]? = some (a, b, c) → (a = i → (b, c, x) ∈ L i) ∧ (b = i → (a, c, x) ∈ L i)
  len : ∀ i, (L i).length ≤ 2 * j
theorem LOk.step {T : List Tie} {j a b c : Nat} {L : Nat → List (Nat × Nat × Nat)} (h : LOk T j L) (e : T[j]? = some (a, b, c)) (hab : a ≠ b) :
    LOk T (j + 1) (fun k => if k = b then (fun k => if k = a then L a ++ [(b, c, j)] else L k) b ++ [(a, c, j)] else (fun k => if k = a then L a ++ [(b, c, j)] else L k) k) := by
  have up : ∀ i y, y ∈ L i → y ∈ (fun k => if k = b then (fun k => if k = a then L a ++ [(b, c, j)] else L k) b ++ [(a, c, j)] else (fun k => if k = a then L a ++ [(b, c, j)] else L k) k) i := by
    intro i y hy
    dsimp only
    by_cases h1 : i = b
    · rw [if_pos h1, if_neg (Ne.symm hab)]
      subst h1; exact List.mem_append_left _ hy
    · rw [if_neg h1]
      by_cases h2 : i = a
      · rw [if_pos h2]; subst h2; exact List.mem_append_left _ hy
      · rw [if_neg h2]; exact hy
  refine ⟨fun i o c' x hm => ?_, fun i x a' b' c' hx hT => ?_, fun i => ?_⟩
  · dsimp only at hm
    by_cases h1 : i = b
    · rw [if_pos h1, if_neg (Ne.symm hab)] at hm
      rcases List.mem_append.mp hm with hm | hm
      · subst h1; exact h.of _ _ _ _ hm
      · have := List.mem_singleton.mp hm
        injection this with e1 e2
        injection e2 with e2 e3
        subst h1 e1 e2 e3
        exact .inr e
    · rw [if_neg h1] at hm
      by_cases h2 : i = a
      · rw [if_pos h2] at hm
        rcases List.mem_append.mp hm with hm | hm
        · subst h2; exact h.of _ _ _ _ hm
        · have := List.mem_singleton.mp hm
          injection this with e1 e2
          injection e2 with e2 e3
          subst h2 e1 e2 e3
          exact .inl e
      · rw [if_neg h2] at hm
        exact h.of _ _ _ _ hm
  · by_cases hxj : x < j
    · have := h.has i x a' b' c' hxj hT
      exact ⟨fun z => up i _ (this.1 z), fun z => up i _ (this.2 z)⟩
    · have : x = j := by omega
      subst this
      rw [e] at hT
      have := Option.some.inj hT
      injection this with e1 e2
      injection e2 with e2 e3
      subst e1 e2 e3
      refine ⟨fun z => ?_, fun z => ?_⟩
      · subst z
        dsimp only
        rw [if_neg hab, if_pos rfl]
        exact List.mem_append_right _ List.mem_cons_self
      · subst z
        dsimp only
        rw [if_pos rfl]
        exact List.mem_append_right _ List.mem_cons_self
  · have l1 := h.len i
    have l2 := h.len a
    have l3 := h.len b
    dsimp only
    by_cases h1 : i = b
    · rw [if_pos h1, if_neg (Ne.symm hab), List.length_append]; simp; omega
    · rw [if_neg h1]
      by_cases h2 : i = a
      · rw [if_pos h2, List.length_append]; simp; omega
      · rw [if_neg h2]; omega
section
variable {P : Program} {w : World} {K : PySem.W.Frag} {mg : Str → Option Value} {base : Heap}
abbrev nNb : List Str := ["web", "found", "index", "a", "b", "cost", "place"]
theorem scNb : FnScope nNb ["web"] (defScope sNbrs) := ⟨rfl, rfl, rfl, by decide +kernel, rfl, by decide +kernel, by decide +kernel⟩
theorem ok_nbrs {f : Addr} {fd : FuncData} (F : Fun K "neighbors_of" "neighbors_of" sNbrs f fd) (T : Txt mg) : FnOk P w K mg base CX0 1 f fd ["web"] spNbrs := by
  refine F.ok scNb (fun vs H Q E h => ?_) (fun cdv A outer s H vs Q E hr h => ?_)
  · obtain ⟨wb, n, Ti, rfl, _⟩ := h; rfl
  · obtain ⟨wb, n, Ti, rfl, hW, hO, q⟩ := h
    obtain ⟨pt, ps, hw, hpt, hps⟩ := hW.ex
    have hn8 := hO.n8
    refine ⟨_, (pss_cons (ps_setLc (i := 1) (own := [("place", 6)]) rfl scNb.nd rfl rfl (sw_true rfl rfl rfl (by decide +kernel)) (pi_range1 (by rfl) T.range (pa_cons (pe_ix ix_tup (pv 0) pe_int (fun _ _ => rfl)) pa_nil)) (blkOk_by (N := nNb) (sc := defScope sNbrs) (by decide +kernel)) (fun _ _ _ _ _ => (pg_name (i := 6) scNb.nd rfl (.inl rfl))) (fun _ _ _ _ _ => pts_nil) (fun _ _ _ _ _ => (pe_lst pa_nil)))
      (pss_cons (ps_for PassesOwn.never rfl (pi_enumT (by rfl) T.enum (pa_cons (pe_ix ix_tup (pv 0) pe_int (fun _ _ => rfl)) pa_nil)) (pg_tup rfl (pgs_cons (pg_name (i := 2) scNb.nd rfl (.inl rfl)) (pgs_cons (pg_tup rfl (pgs_cons (pg_name (i := 3) scNb.nd rfl (.inl rfl)) (pgs_cons (pg_name (i := 4) scNb.nd rfl (.inl rfl)) (pgs_cons (pg_name (i := 5) scNb.nd rfl (.inl rfl)) pgs_nil)))) pgs_nil))) (pss_cons (ps_expr (pe_bm PySem.F.plainAttrs_list PySem.F.slot_list_append PySem.F.type_list_append mt_append (pe_ix ix_list (pv 1) (pv 3) (fun _ _ => rfl)) (pa_cons (pe_tup (pa_cons (pv 4) (pa_cons (pv 5) (pa_cons (pv 2) pa_nil)))) pa_nil)))
      (pss_one (ps_expr (pe_bm PySem.F.plainAttrs_list PySem.F.slot_list_append PySem.F.type_list_append mt_append (pe_ix ix_list (pv 1) (pv 4) (fun _ _ => rfl)) (pa_cons (pe_tup (pa_cons (pv 3) (pa_cons (pv 5) (pa_cons (pv 2) pa_nil)))) pa_nil))))))
      (pss_one (ps_ret (pv 1))))), ?_⟩
    refine ⟨_, rfl, wb, _, _, _, rfl, rfl, SqT.of hw, atI_nat (j := 0) rfl, n, rfl, by omega, by omega, fun D hD => lc_range (fun i H' => ∃ as, as.length = i ∧ NbInv H D as (fun _ => []) H') ?_ ?_ ?_⟩
    · exact ⟨[], rfl, same_put hD (Same.refl _), upd_same, List.nodup_nil, fun _ h => (nomatch h), hD, fun i a e => by simp at e⟩
    · rintro i H' hi ⟨as, hl, N⟩
      refine ⟨rfl, szl (by simp), fun p np => ⟨as.map V.ref, ?_, ?_, as ++ [p], ?_, ?_⟩⟩
      · rw [upd_ne (ne_of_none N.fl np)]; exact N.fl
      · rw [List.length_map]; exact sz (by omega)
      · simp [hl]
      · have pD : p ≠ D := fun z => by rw [z, N.fl] at np; cases np
        refine ⟨same_put hD (N.same.trans (same_upd np)), by rw [upd_same, List.map_append]; rfl, ?_, fun a ha => ?_, hD, fun k a e => ?_⟩
        · refine List.nodup_append.mpr ⟨N.nd, by simp, fun a ha b hb e => ?_⟩
          rw [List.mem_singleton.mp hb] at e
          obtain ⟨k, hk⟩ := List.mem_iff_getElem?.mp ha
          obtain ⟨_, h1, _⟩ := N.at_ k a hk
          rw [e, np] at h1; cases h1
        · rcases List.mem_append.mp ha with ha | ha
          · exact N.fr a ha
          · rw [List.mem_singleton.mp ha]; exact ⟨N.same.free np, pD⟩
        · by_cases hk : k < as.length
          · rw [List.getElem?_append_left hk] at e
            obtain ⟨qs, h1, h2⟩ := N.at_ k a e
            have aD : a ≠ D := (N.fr a (List.mem_of_getElem? e)).2
            refine ⟨qs, by rw [upd_ne aD, upd_ne (ne_of_none h1 np)]; exact h1, ?_⟩
            cases h2
            exact .nil
          · rw [List.getElem?_append_right (by omega)] at e
            have : k - as.length = 0 := by
              have := (List.getElem?_eq_some_iff.mp e).1
              simp at this; omega
            rw [this] at e
            simp at e
            subst e
            exact ⟨[], by rw [upd_ne pD, upd_same]; rfl, .nil⟩
    · rintro H1 ⟨as, hl, N⟩
      have hl : as.length = n := by omega
      refine ⟨_, rfl, wb, _, _, _, rfl, rfl, SqT.of (N.same _ _ hw), atI_nat (j := 1) rfl, pt, _, rfl, SqT.of (N.same _ _ hpt), for_it (walk_enumT (K := K) (a := pt) (xs := ps.map V.ref)) (fun i σ H' => ∃ L, NbInv H D as L H' ∧ LOk Ti i L ∧ ∃ v1 v2 v3 v4 v5, σ = [some (.ref wb), some (.ref D), v1, v2, v3, v4, v5]) ?_ ?_ ?_ ?_⟩
      · exact ⟨_, N, ⟨(fun i o c x h => nomatch h), (fun i x a b c h => absurd h (Nat.not_lt_zero _)), fun i => Nat.zero_le _⟩, _, _, _, _, _, rfl⟩
      · rintro i σ H' _ ⟨L, N, _⟩
        exact SqT.of (N.same _ _ hpt)
      · rintro i x σ H2 H3 hi ⟨L, N2, LO, v1, v2, v3, v4, v5, rfl⟩ ⟨Tp, x1, x2, rfl, hn, rfl, e1, e2⟩
        have e1 : x1 = .int (i : Int) := (Option.some.inj e1).symm
        subst e1
        have e2 : (ps.map V.ref)[i]? = some x2 := e2
        obtain ⟨p, hp, rfl⟩ : ∃ p, ps[i]? = some p ∧ x2 = .ref p := by
          rw [List.getElem?_map] at e2
          cases h : ps[i]? with
          | none => rw [h] at e2; cases e2
          | some p => rw [h] at e2; exact ⟨p, rfl, (Option.some.inj e2).symm⟩
        obtain ⟨⟨a, b, c⟩, ht, hA⟩ := pair_get hps hp
        have N3 := N2.more (same_upd (o := .tup [.int (i : Int), .ref p]) hn)
        have hil : i < 30 := by
          have := (List.getElem?_eq_some_iff.mp ht).1
          have := hO.l30
          omega
        have hab := hO.win _ (List.mem_of_getElem? ht)
        have hab1 : a < b := hab.1
        have hbn : b < n := hab.2
        obtain ⟨Aa, hAa⟩ : ∃ A, as[a]? = some A := ⟨as[a], List.getElem?_eq_getElem (by omega)⟩
        obtain ⟨Ab, hAb⟩ : ∃ A, as[b]? = some A := ⟨as[b], List.getElem?_eq_getElem (by omega)⟩
        have hA3 : upd H2 Tp (.tup [.int (i : Int), .ref p]) p = some (.tup [nV a, nV b, nV c]) := N3.same _ _ hA
        refine ⟨Tp, _, rfl, SqT.of upd_same, rfl, _, _, rfl, _, _, rfl, ⟨p, _, rfl, SqT.of hA3, rfl, _, _, rfl, _, _, rfl, _, _, rfl, rfl, rfl, ?_⟩⟩
        obtain ⟨qs, g1, g2⟩ := N3.at_ a Aa hAa
        have l1 : qs.length = (L a).length := g2.length
        have l2 := LO.len a
        refine ⟨_, rfl, _, rfl, D, _, _, .ref Aa, rfl, rfl, SqL.of N3.fl, at_of (j := a) rfl (by rw [List.getElem?_map, hAa]; rfl), .inl ⟨rfl, _, SqL.of g1⟩, _, rfl, _, rfl, _, rfl, szl (by simp), fun p1 np1 => ?_⟩
        have N4 := N3.more (same_upd (o := .tup [nV b, nV c, nV i]) np1)
        have s4 := same_upd (o := HO.tup [nV b, nV c, nV i]) np1
        refine ⟨Aa, _, _, rfl, rfl, s4 _ _ g1, by rw [List.length_map]; exact sz (by omega), ?_⟩
        have N5 := N4.step (o := b) (c := c) (x := i) hAa (s4 _ _ g1) (g2.mono fun _ _ z => s4 _ _ z) upd_same
        obtain ⟨rs, k1, k2⟩ := N5.at_ b Ab hAb
        have l3 : rs.length = (L b).length := by
          have := k2.length
          rw [this, if_neg (by omega)]
        have l4 := LO.len b
        refine ⟨_, rfl, _, rfl, D, _, _, .ref Ab, rfl, rfl, SqL.of N5.fl, at_of (j := b) rfl (by rw [List.getElem?_map, hAb]; rfl), .inl ⟨rfl, _, SqL.of k1⟩, _, rfl, _, rfl, _, rfl, szl (by simp), fun p2 np2 => ?_⟩
        have N6 := N5.more (same_upd (o := .tup [nV a, nV c, nV i]) np2)
        have s6 := same_upd (o := HO.tup [nV a, nV c, nV i]) np2
        refine ⟨Ab, _, _, rfl, rfl, s6 _ _ k1, by rw [List.length_map]; exact sz (by omega), ?_⟩
        have N7 := N6.step (o := a) (c := c) (x := i) hAb (s6 _ _ k1) (k2.mono fun _ _ z => s6 _ _ z) upd_same
        exact ⟨_, N7, LO.step ht (by omega), _, _, _, _, _, rfl⟩
      · rintro σ H2 ⟨L, N2, LO, v1, v2, v3, v4, v5, rfl⟩
        refine ⟨_, rfl, q D H2 N2.same ⟨as, N2.fl, hl, fun i a e => ⟨L i, N2.at_ i a e, ⟨fun o c x => LO.of i o c x, fun x a b c e => LO.has i x a b c ?_ e⟩⟩⟩⟩
        have h1 := (List.getElem?_eq_some_iff.mp e).1
        have h2 : ps.length = Ti.length := hps.length
        rw [List.length_map]; omega
end
end K10


set_option Elab.async false
set_option linter.all false
set_option maxRecDepth 100000
set_option maxHeartbeats 4000000
/-! min of a list by a key that gives tuples of ints; min of a list of tuples of ints. -/
namespace PyProof.Rows
open PySem
abbrev KeptH (h h' : Heap) : Prop := ∀ b o, h.get? b = some o → h'.get? b = some o
section
variable {prog : Program} {w : World} {A : Around} {E : Value → Shared → Prop} {s : Shared}
theorem k10_isTup_upd {h : Heap} {S T : Addr} {its xs : Array Value} {c : Nat} {f : Obj → Obj} (hT : IsTup h T its) (hS : h.get? S = some (seqObj "list" xs c)) : IsTup (h.update S f) T its := by
  obtain ⟨o, ho, hc, n, hd⟩ := hT
  have ne : T ≠ S := fun z => by
    rw [z, hS] at ho
    cases ho
    injection hc with z2
    exact absurd z2 (by decide)
  exact ⟨o, (Heap.get?_update_ne _ _ _ _ ne).trans ho, hc, n, hd⟩
theorem k10_min_key_loop {l q I S : Addr} {vs : List Value} {h₀ : Heap} {R : Result → Shared → Prop} (hh : A.handled = none) (hu : A.in1.units < cLine)
    (hl : h₀.IsList l vs.toArray) (hI : h₀.get? I = none) (hS : h₀.get? S = none) (hSI : S ≠ I)
    (turn : ∀ (v : Value), v ∈ vs → ∀ (h : Heap) (tk : Nat), KeptH h₀ h → ∀ (Qk : Value → Shared → Prop),
      (∀ (T : Addr) (its : Array Value) (ns : List Int) (h' : Heap) (tk' : Nat), IsTup h' T its → IntsAre its.toList ns → KeptH h h' → Qk (.ref T) { s with heap := h', toks := tk' }) →
      wpAny (model prog w) A.in1 (call (.ref q) [v]) Qk (fun _ _ => False) { s with heap := h, toks := tk })
    (hR : ∀ v h' tk', v ∈ vs → KeptH h₀ h' → R (.ok (.ret v)) { s with heap := h', toks := tk' }) :
    ∀ (r j : Nat) (h : Heap) (tk : Nat) (vb : Value) (T : Addr) (its : Array Value) (ns : List Int) (c : Nat), vs.length - (j + 1) = r → j + 1 ≤ vs.length → KeptH h₀ h →
      h.get? S = some (seqObj "list" #[vb, .ref T] c) → IsTup h T its → IntsAre its.toList ns → h.IsListIter I l (j + 1) → vb ∈ vs →
      codeAny (model prog w) A (.builtin "min.loop" ⟨[.ref I, .ref q, .ref S], []⟩) R { s with heap := h, toks := tk } := by
  have hname : (toString "min" ++ toString ".loop" : String) = "min.loop" := by decide
  have hlI : l ≠ I := by
    obtain ⟨o, ho, _⟩ := hl
    intro z
    rw [z, hI] at ho
    cases ho
  have W := Walks.list (prog := prog) (w := w) (A := A.in1) hh I l hlI vs.toArray
  have hsz : vs.toArray.size = vs.length := List.size_toArray ..
  intro r
  induction r with
  | zero =>
    intro j h tk vb T its ns c hr hj hk hSo hT hi hit hvb
    have hin : j + 1 = vs.length := by omega
    refine codeAny_builtin PySem.F.entry_min_loop ?_
    rw [Around.under_plainId PySem.F.plain_min_loop _]
    show wpAny _ A.in1 (seqItems? (.ref S) >>= _) _ _ _
    refine wpAny_bind (wpAny_seqItems hSo rfl ?_)
    show wpAny _ A.in1 (tryCatch (pyNext (.ref I)) _ >>= _) _ _ _
    refine wpAny_bind (wpAny_tryCatch (W.done _ _ _ ⟨by rw [hsz, ← hin]; exact hit, hl.at fun o e => hk _ o e⟩ fun h' tk' hk' => ?_))
    have hS' := hk' S _ (by simpa using hSI) hSo
    show wpAny _ A.in1 (updateSeq S (fun _ => #[]) >>= _) _ _ _
    refine wpAny_bind ?_
    refine wpAny_updateSeq hS' rfl (wpAny_bind (wpAny_letGo (wpAny_pure ?_)))
    refine hR vb _ _ hvb fun b o e => ?_
    have nS : b ≠ S := fun z => by rw [z, hS] at e; cases e
    have nI : b ≠ I := fun z => by rw [z, hI] at e; cases e
    exact (Heap.get?_update_ne _ _ _ _ nS).trans (hk' b o (by simpa using nI) (hk b o e))
  | succ r ih =>
    intro j h tk vb T its ns c hr hj hk hSo hT hi hit hvb
    have hlt : j + 1 < vs.length := by omega
    refine codeAny_builtin PySem.F.entry_min_loop ?_
    rw [Around.under_plainId PySem.F.plain_min_loop _]
    show wpAny _ A.in1 (seqItems? (.ref S) >>= _) _ _ _
    refine wpAny_bind (wpAny_seqItems hSo rfl ?_)
    show wpAny _ A.in1 (tryCatch (pyNext (.ref I)) _ >>= _) _ _ _
    refine wpAny_bind (wpAny_tryCatch (W.item (j + 1) _ _ _ (by rw [hsz]; exact hlt) ⟨hit, hl.at fun o e => hk _ o e⟩ fun v h' tk' hP hst' hk' => ?_))
    have hv : vs[j + 1]? = some v := by simpa using hP
    have hvm : v ∈ vs := List.mem_of_getElem? hv
    obtain ⟨oI', hoI', hoc, hod⟩ := id hst'.1
    have hS1 := hk' S _ (by simpa using hSI) hSo
    have hk1 : KeptH h₀ h' := fun b o e => hk' b o (by
      have nI : b ≠ I := fun z => by rw [z, hI] at e; cases e
      simpa using nI) (hk b o e)
    show wpAny _ A.in1 (tryCatch (holding [v] (call (.ref q) [v])) _ >>= _) _ _ _
    refine wpAny_bind (wpAny_tryCatch (wpAny_holding (wpAny_mono (turn v hvm h' tk' hk1 _ fun T2 its2 ns2 h2 tk2 hT2 hi2 hk2 => ?_) (fun _ _ z => z) fun _ _ hF => hF.elim)))
    have hS2 := hk2 S _ hS1
    have hT0 : IsTup h2 T its := by
      obtain ⟨o, ho, hc, n, hd⟩ := hT
      have nI : T ≠ I := fun z => by
        obtain ⟨oI, hoI, hcI, _⟩ := hit
        rw [z, hoI] at ho
        cases ho
        rw [hc] at hcI
        injection hcI with z2
        exact absurd z2 (by decide)
      exact ⟨o, hk2 _ _ (hk' T o (by simpa using nI) ho), hc, n, hd⟩
    have hit2 : h2.IsListIter I l (j + 1 + 1) := ⟨oI', hk2 _ _ hoI', hoc, hod⟩
    show wpAny _ A.in1 (tryCatch (holding [v, .ref T2] (richCompare .Lt (.ref T2) (.ref T) >>= _)) _ >>= _) _ _ _
    refine wpAny_bind (wpAny_tryCatch (wpAny_holding (wpAny_bind (HT.lt_tupInts hT2 hT0 hi2 hi hu ?_))))
    refine wpAny_bind (wpAny_holding (wpAny_truthy_bool ?_))
    refine wpAny_bind (wpAny_letGo (wpAny_pure ?_))
    cases hb : HT.lexLt ns2 ns with
    | true =>
      obtain ⟨c2, hc2⟩ : ∃ c2, (h2.update S (Obj.mapSeq fun _ => #[v, .ref T2])).get? S = some (seqObj "list" #[v, .ref T2] c2) := ⟨_, get?_update_seq hS2 fun _ => #[v, .ref T2]⟩
      simp only [if_true]
      refine wpAny_bind ?_
      refine wpAny_updateSeq hS2 rfl (wpAny_bind (wpAny_letGo ?_))
      rw [hname]
      refine wpAny_pure ⟨plainId_quiet PySem.F.plain_min_loop _, ih (j + 1) _ _ v T2 its2 ns2 c2 (by omega) hlt (fun b o e => ?_) hc2 (k10_isTup_upd hT2 hS2) hi2 ⟨oI', (Heap.get?_update_ne _ _ _ _ hSI.symm).trans (hk2 _ _ hoI'), hoc, hod⟩ hvm⟩
      have nS : b ≠ S := fun z => by rw [z, hS] at e; cases e
      exact (Heap.get?_update_ne _ _ _ _ nS).trans (hk2 b o (hk1 b o e))
    | false =>
      simp only [Bool.false_eq_true, if_false]
      refine wpAny_bind (wpAny_letGo ?_)
      rw [hname]
      exact wpAny_pure ⟨plainId_quiet PySem.F.plain_min_loop _, ih (j + 1) _ _ vb T its ns c (by omega) hlt (fun b o e => hk2 b o (hk1 b o e)) hS2 hT0 hi hit2 hvb⟩
theorem k10_min_key {l q : Addr} {vs : List Value} {Q : Value → Shared → Prop} (hh : A.handled = none) (hu : A.in1.units < cLine) (hl : s.heap.IsList l vs.toArray) (hne : 0 < vs.length)
    (turn : ∀ (v : Value), v ∈ vs → ∀ (h : Heap) (tk : Nat), KeptH s.heap h → ∀ (Qk : Value → Shared → Prop),
      (∀ (T : Addr) (its : Array Value) (ns : List Int) (h' : Heap) (tk' : Nat), IsTup h' T its → IntsAre its.toList ns → KeptH h h' → Qk (.ref T) { s with heap := h', toks := tk' }) →
      wpAny (model prog w) A.in1 (call (.ref q) [v]) Qk (fun _ _ => False) { s with heap := h, toks := tk })
    (hQ : ∀ v h' tk', v ∈ vs → KeptH s.heap h' → Q v { s with heap := h', toks := tk' }) :
    wpAny (model prog w) A (call (.builtin "min") [.ref l] [(Str.ofString "key", .ref q)]) Q E s := by
  have hname : (toString "min" ++ toString ".loop" : String) = "min.loop" := by decide
  obtain ⟨ol, hol, _⟩ := id hl
  have hll : l < s.heap.objs.size := Heap.lt_size hol
  refine kmk_tree PySem.F.kind_min PySem.F.plain_min PySem.F.entry_min (kmk_min_key _ _) ?_
  show wpAny _ A.in1 (Builtin.Builtins.bindParams "min" ["key", "default"] 0 ⟨[], [(Str.ofString "key", .ref q)]⟩ >>= _) _ _ s
  refine wpAny_bind (wpAny_of_eq (show Builtin.Builtins.bindParams "min" ["key", "default"] 0 ⟨[], [(Str.ofString "key", .ref q)]⟩ = pure [some (.ref q), none] from rfl) ?_)
  refine wpAny_bind (wpAny_pure ?_)
  refine wpAny_bind (wpAny_pyIter_list hl ?_)
  refine wpAny_bind (wpAny_newList ?_ (Nat.zero_le _))
  rw [hname]
  have hS : (s.heap.push { cls := .type "list_iterator", data := .fields #[.ref l, .int 0 0] }).objs.size = s.heap.objs.size + 1 := size_push' ..
  have hlI : l ≠ s.heap.objs.size := Nat.ne_of_lt hll
  have nI : s.heap.get? s.heap.objs.size = none := Heap.get?_none_of_le (Nat.le_refl _)
  have nS : s.heap.get? (s.heap.push { cls := .type "list_iterator", data := .fields #[.ref l, .int 0 0] }).objs.size = none := by rw [hS]; exact Heap.get?_none_of_le (Nat.le_succ _)
  have hSI : (s.heap.push { cls := .type "list_iterator", data := .fields #[.ref l, .int 0 0] }).objs.size ≠ s.heap.objs.size := by rw [hS]; exact Nat.ne_of_gt (Nat.lt_succ_self _)
  refine wpAny_pure ⟨plainId_quiet PySem.F.plain_min_loop _, ?_⟩
  have gI : ((s.heap.push { cls := .type "list_iterator", data := .fields #[.ref l, .int 0 0] }).push (seqObj "list" #[] 0)).get? s.heap.objs.size = some { cls := .type "list_iterator", data := .fields #[.ref l, .int 0 0] } :=
    Heap.get?_push_of_some _ (Heap.get?_push_size _ rfl)
  have gS : ((s.heap.push { cls := .type "list_iterator", data := .fields #[.ref l, .int 0 0] }).push (seqObj "list" #[] 0)).get? (s.heap.push { cls := .type "list_iterator", data := .fields #[.ref l, .int 0 0] }).objs.size = some (seqObj "list" #[] 0) := Heap.get?_push_size _ rfl
  have k0 : KeptH s.heap ((s.heap.push { cls := .type "list_iterator", data := .fields #[.ref l, .int 0 0] }).push (seqObj "list" #[] 0)) := fun b o e => Heap.get?_push_of_some _ (Heap.get?_push_of_some _ e)
  have W := Walks.list (prog := prog) (w := w) (A := A.in1) hh s.heap.objs.size l hlI vs.toArray
  have hsz : vs.toArray.size = vs.length := List.size_toArray ..
  refine codeAny_builtin PySem.F.entry_min_loop ?_
  rw [Around.under_plainId PySem.F.plain_min_loop _]
  show wpAny _ A.in1 (seqItems? (.ref _) >>= _) _ _ _
  refine wpAny_bind (wpAny_seqItems gS rfl ?_)
  show wpAny _ A.in1 (tryCatch (pyNext (.ref s.heap.objs.size)) _ >>= _) _ _ _
  refine wpAny_bind (wpAny_tryCatch (W.item 0 _ _ _ (by rw [hsz]; exact hne) ⟨⟨_, gI, rfl, rfl⟩, hl.at fun o e => k0 _ o e⟩ fun v h' tk' hP hst' hk' => ?_))
  have hv : vs[0]? = some v := by simpa using hP
  have hvm : v ∈ vs := List.mem_of_getElem? hv
  obtain ⟨oI', hoI', hoc, hod⟩ := id hst'.1
  have hS1 := hk' _ _ (by simpa using hSI) gS
  have k1 : KeptH s.heap h' := fun b o e => hk' b o (by
    have z : b ≠ s.heap.objs.size := Nat.ne_of_lt (Heap.lt_size e)
    simpa using z) (k0 b o e)
  show wpAny _ A.in1 (tryCatch (holding [v] (call (.ref q) [v])) _ >>= _) _ _ _
  refine wpAny_bind (wpAny_tryCatch (wpAny_holding (wpAny_mono (turn v hvm h' tk' k1 _ fun T2 its2 ns2 h2 tk2 hT2 hi2 hk2 => ?_) (fun _ _ z => z) fun _ _ hF => hF.elim)))
  have hS2 := hk2 _ _ hS1
  obtain ⟨c2, hc2⟩ : ∃ c2, (h2.update (s.heap.push { cls := .type "list_iterator", data := .fields #[.ref l, .int 0 0] }).objs.size (Obj.mapSeq fun _ => #[v, .ref T2])).get? (s.heap.push { cls := .type "list_iterator", data := .fields #[.ref l, .int 0 0] }).objs.size = some (seqObj "list" #[v, .ref T2] c2) := ⟨_, get?_update_seq hS2 fun _ => #[v, .ref T2]⟩
  show wpAny _ A.in1 (updateSeq (s.heap.push { cls := .type "list_iterator", data := .fields #[.ref l, .int 0 0] }).objs.size (fun _ => #[v, .ref T2]) >>= _) _ _ _
  refine wpAny_bind ?_
  refine wpAny_updateSeq hS2 rfl ?_
  rw [hname]
  refine wpAny_pure ⟨plainId_quiet PySem.F.plain_min_loop _, k10_min_key_loop hh hu hl nI nS hSI turn hQ _ 0 _ _ v T2 its2 ns2 c2 rfl hne (fun b o e => ?_) hc2 (k10_isTup_upd hT2 hS2) hi2 ⟨oI', (Heap.get?_update_ne _ _ _ _ hSI.symm).trans (hk2 _ _ hoI'), hoc, hod⟩ hvm⟩
  have z : b ≠ (s.heap.push { cls := .type "list_iterator", data := .fields #[.ref l, .int 0 0] }).objs.size := fun z => by rw [z, nS] at e; cases e
  exact (Heap.get?_update_ne _ _ _ _ z).trans (hk2 b o (k1 b o e))
end
end PyProof.Rows


set_option Elab.async false
set_option linter.all false
set_option maxRecDepth 100000
set_option maxHeartbeats 4000000
/-! min(xs, key=lambda place: (told[place], place)), told captured. -/
namespace K10
open PySem PySem.Spec PyProof.Rows L2 LamX
def tMinLam (Pt : Addr) (it : Nat) (ta : TE) : TE := fun σ H Q => ta σ H fun x H1 => ∃ (a t : Addr) (ns : List Nat) (row : List (Option Nat)), [x] = [V.ref a] ∧ H1 a = some (.lst (ns.map nV)) ∧ ns ≠ [] ∧ σ[it]? = some (some (.ref t)) ∧ H1 t = some (.lst (row.map oV)) ∧ row.length ≤ 100 ∧
  (∀ m ∈ ns, ∃ x, row[m]? = some (some x)) ∧ Tab Pt H1 ∧ ∀ (m : Nat) (H2 : Hp), m ∈ ns → Grow H1 H2 → Tab Pt H2 → Q (nV m) H2
theorem clo_at {cells : List (Str × Addr)} {scope : Scope} {y : Str} {c : Addr} (hf : scope.names.lookup y = some .free) (hc : cells.lookup y = some c) (hu : ∀ z ∈ scope.names, z.2 = .free → ∃ c, cells.lookup z.1 = some c) :
    (cloFrom cells scope.names []).lookup y = some c := by
  have hy : (y, NameKind.free) ∈ scope.names := PySem.mem_of_lookup hf
  obtain ⟨c2, h2⟩ := mem_lookup (cloFrom_has (cells := cells) (acc := []) hy)
  rcases cloFrom_mem (PySem.mem_of_lookup h2) with hm | ⟨h1, h3⟩
  · cases hm
  · rw [hc] at h3
    rw [h2, h3]; rfl
theorem pe_minLam {X : Cx} {c Pt : Addr} {it : Nat} {a : Expr} {ta : TE} {params : Arguments} {scope : Scope} {p pos kpos lpos p1 p2 p3 p4 p5 : Pos} {kk : Nat} (TB : LamX.TabB X.base X.mg c Pt) (hcode : X.env.code = .ref c) (hq : X.env.qual ++ "<lambda>" = lamQ)
    (hc : X.calm = true) (hr : Room 1 X.A) (hg : Gl X ("min" : Str)) (hm : X.mg ("min" : Str) = none) (hN : X.N[it]? = some ("told" : Str)) (hcell : X.env.scope.names.lookup ("told" : Str) = some .cell) (ha : PE X a ta)
    (hk : scope.kind = .function) (hco : scope.isCoroutine = false) (hgen : scope.isGenerator = false) (hl1 : scope.names.lookup ("place" : Str) = some .local) (hl2 : scope.names.lookup ("told" : Str) = some .free) (hnc : ∀ z ∈ scope.names, z.2 ≠ .cell) (hfr : ∀ z ∈ scope.names, z.2 = .free → z.1 = ("told" : Str))
    (hdef : defaultsOf params X.env = ([], []))
    (hbind : ∀ (q : Str) (body : Expr) (cl : List (Str × Addr)) (pm cv ctv v : Value), bindArgs (PySem.W.kla_fn "<lambda>" q params body scope cl pm cv ctv) ⟨[v], []⟩ = pure [(("place" : Str), v)])
    (hse : starEach [a] X.env = (false, eval a X.env) :: starEach [] X.env := by rfl) (he : backTo pos (starEach [a] X.env) = (false, eval a X.env) :: backTo pos (starEach [] X.env) := by rfl) (hpl : (backTo pos (starEach [a] X.env)).any (·.1) = false := by rfl) :
    PE X (.Call (.Name "min" p) [a] [⟨some "key", .Lambda params (.Tuple [.Subscript (.Name "told" p1) (.Name "place" p2) p3, .Name "place" p4] kk p5) scope lpos, kpos⟩] pos) (tMinLam Pt it ta) := by
  refine ⟨fun pins s σ H Q I h => ?_⟩
  refine wpAny_Call_Name_kw (ld_blt (u := .builtin "min") I hg hm (by decide +kernel) ?_ (by decide) (by decide))
  refine PyProof.Rows.callWith_kw (thn ((pa_cons ha pa_nil hse).run pos pins s σ H (fun vs H1 => ∃ (a t : Addr) (ns : List Nat) (row : List (Option Nat)), vs = [V.ref a] ∧ H1 a = some (.lst (ns.map nV)) ∧ ns ≠ [] ∧ σ[it]? = some (some (.ref t)) ∧ H1 t = some (.lst (row.map oV)) ∧ row.length ≤ 100 ∧
    (∀ m ∈ ns, ∃ x, row[m]? = some (some x)) ∧ Tab Pt H1 ∧ ∀ (m : Nat) (H2 : Hp), m ∈ ns → Grow H1 H2 → Tab Pt H2 → Q (nV m) H2) I h) fun us s1 ⟨vs, H1, I1, r1, q1⟩ => ?_) he hpl (by rfl) (by rfl)
  obtain ⟨al, t, ns, row, rfl, hal, hne, hsig, hrow, hrl, hin, hTab, hQ⟩ := q1
  obtain ⟨u1, rfl⟩ : ∃ u1, us = [u1] := by cases r1 with | cons a b => cases b; exact ⟨_, rfl⟩
  obtain rfl : u1 = .ref al := by cases r1 with | cons a b => exact a
  have hfree : ∀ y ∈ scope.names, y.2 = .free → ∃ c, X.env.cells.lookup y.1 = some c := fun y hy e => by
    rw [hfr y hy e]
    exact I.ok.has _ (.inl hcell)
  show wpAny _ _ (evalAll ((do let v ← eval (.Lambda params (.Tuple [.Subscript (.Name "told" p1) (.Name "place" p2) p3, .Name "place" p4] kk p5) scope lpos) X.env; standAt pos; pure v) :: [])) _ _ s1
  refine wpAny_evalAll_cons (wpAny_bind (lam_make2 (T := [(Pt, X.env.qual ++ "<lambda>")]) I1 TB hcode (by simp) (fun p hp _ => by rw [List.mem_singleton.mp hp]) (fun p hp => by rw [List.mem_singleton.mp hp]; show LamX.TabS H1 Pt (X.env.qual ++ "<lambda>"); rw [hq]; exact hTab) hdef hfree fun f c' pm ctv H2 s2 I2 eN T2 hf hfn hfo hcd =>
    wpAny_bind (wpAny_standAt (wpAny_pure (wpAny_evalAll_nil ?_)))))
  have hTab2 : Tab Pt H2 := by
    have := T2 (Pt, X.env.qual ++ "<lambda>") (by simp)
    have this : LamX.TabS H2 Pt (X.env.qual ++ "<lambda>") := this
    rw [hq] at this; exact this
  obtain ⟨⟨oc, cvs, ct, hoc, hdc, hvc⟩, _, _⟩ := I2.hok c' _ hcd
  obtain ⟨its, n1, ri, hol, _⟩ := I2.lst (Grow.at eN hal)
  obtain ⟨rits, n2, rr, hor, _⟩ := I2.lst (Grow.at eN hrow)
  obtain ⟨m, hns, hloc⟩ := I2.loc
  obtain ⟨uu, ru, hlook⟩ := hloc it _ _ hN hsig (.inr (.inl hcell))
  obtain rfl : uu = .ref t := ru
  obtain ⟨ca, hca, hcv⟩ : ∃ ca, X.env.cells.lookup ("told" : Str) = some ca ∧ s2.heap.IsCell ca (some (.ref t)) := by
    rcases hlook with ⟨k1, _⟩ | ⟨_, ca, k1, k2⟩
    · have k1 : X.env.scope.names.lookup ("told" : Str) = some .local := k1
      rw [hcell] at k1; cases k1
    · exact ⟨ca, k1, k2⟩
  show wpAny _ _ (call (.builtin "min") [.ref al] [(Str.ofString "key", .ref f)]) _ _ s2
  have hlen : its.length = ns.length := by have := ri.length; rw [List.length_map] at this; exact this.symm
  have hmem : ∀ v ∈ its, ∃ m t, m ∈ ns ∧ v = .int (m : Nat) t := by
    intro v hv
    obtain ⟨i, hi⟩ := List.mem_iff_getElem?.mp hv
    have hil : i < ns.length := by rw [← hlen]; exact (List.getElem?_eq_some_iff.mp hi).1
    have hk : ns[i]? = some ns[i] := List.getElem?_eq_getElem hil
    obtain ⟨u, hu, ru⟩ := ri.get (i := i) (x := nV ns[i]) (by rw [List.getElem?_map, hk]; rfl)
    rw [hi] at hu
    cases hu
    obtain ⟨tk, rfl⟩ := ru
    exact ⟨ns[i], tk, List.mem_of_getElem? hk, rfl⟩
  refine PyProof.Rows.k10_min_key hr.hd (by have := hr.un; show X.A.units + 1 < _; omega) ⟨_, hol, rfl, _, rfl⟩ (by rw [hlen]; exact List.length_pos_iff.mpr hne) (fun v hv h tk kp Qk hQk => ?_) (fun v h' tk' hv kp => ?_)
  · obtain ⟨m, mt, hm, rfl⟩ := hmem v hv
    obtain ⟨x0, hx0⟩ := hin m hm
    obtain ⟨xv, hxv, rxv⟩ : ∃ xv, rits[m]? = some xv ∧ RelV (.int (x0 : Int)) xv := rr.get (by rw [List.getElem?_map, hx0]; rfl)
    obtain ⟨xt, rfl⟩ := rxv
    refine wpAny_call (PySem.W.kla_callFunE hr.in1.depth (kp _ _ hf) rfl hco hgen rfl ⟨c', oc, cvs, ct, rfl, kp _ _ hoc, hdc, hvc⟩ ?_)
    rw [hbind]
    refine wpAny_pure (wpAny_newFunctionEnv hnc (fun y hy => ?_) (fun h₁ hns hsb => ⟨((I2.kept (t' := tk) kp).nolimit).fresh _ hsb, ?_⟩) hk)
    · rw [List.mem_singleton.mp hy]; exact hl1
    · have k1 : ∀ b o, s2.heap.get? b = some o → h₁.get? b = some o := fun b o e => hsb.extBut b o (Nat.ne_of_lt (Heap.lt_size (kp b o e))) (Heap.get?_push_of_some _ (kp b o e))
      have k2 : ∀ b o, h.get? b = some o → h₁.get? b = some o := fun b o e => hsb.extBut b o (Nat.ne_of_lt (Heap.lt_size e)) (Heap.get?_push_of_some _ e)
      obtain ⟨co, hco1, hco2⟩ := hcv
      refine PySem.W.kla_codeExpr ?_
      refine wpAny_Tuple_spliced ?_
      refine Calls.spliced_cons ?_
      refine Subscript_ ?_
      refine wpAny_Name (wpAny_loadName_free hk hl2 (clo_at hl2 hca hfree) ⟨co, k1 _ _ hco1, hco2⟩ ?_)
      refine wpAny_Name (wpAny_loadName_local hk hl1 hns (by rfl) ?_)
      refine item_listR (x := .int x0 xt) ⟨_, k1 _ _ hor, rfl, _, rfl⟩ (by omega) ?_ ?_ ?_
      · have h1 := (List.getElem?_eq_some_iff.mp hxv).1
        have h2 := (List.getElem?_eq_some_iff.mp hx0).1
        have h3 := hrl
        omega
      · show rits.toArray[((m : Nat) : Int).toNat]? = _
        rw [Int.toNat_natCast, List.getElem?_toArray]; exact hxv
      refine Calls.spliced_cons ?_
      refine wpAny_Name (wpAny_loadName_local hk hl1 hns (by rfl) ?_)
      refine Calls.spliced_nil ⟨szl (by simp), hQk _ #[.int x0 xt, .int m mt] [x0, m] _ _ ⟨_, Heap.get?_push_size _ rfl, rfl, _, rfl⟩ (.cons _ _ (.cons _ _ .nil)) fun b o e => Heap.get?_push_of_some _ (k2 _ _ e)⟩
  · obtain ⟨m, mt, hm, rfl⟩ := hmem v hv
    exact ⟨nV m, H2, I2.kept kp, ⟨mt, rfl⟩, hQ m H2 hm eN hTab2⟩
end K10


set_option Elab.async false
set_option linter.all false
set_option maxRecDepth 100000
set_option maxHeartbeats 4000000
/-! spread's law: what its two lists and its open places keep. -/
namespace K10
open PySem L2 K10M
theorem sum_set {α : Type} (f : α → Nat) : ∀ {l : List α} {i : Nat} {a : α} (b : α), l[i]? = some a → ((l.set i b).map f).sum + f a = (l.map f).sum + f b
  | [], i, a, b, h => by simp at h
  | x :: l, 0, a, b, h => by
    have : x = a := by simpa using h
    subst this
    simp [List.set]; omega
  | x :: l, i + 1, a, b, h => by
    have := sum_set f (l := l) (i := i) b (by simpa using h)
    simp only [List.set, List.map_cons, List.sum_cons] at this ⊢
    omega
def phi (B : Nat) : Option Nat → Nat
  | none => B + 1
  | some x => x
def none1 : Option Nat → Nat
  | none => 1
  | some _ => 0
abbrev nones (l : List (Option Nat)) : Nat := (l.map none1).sum
abbrev phis (B : Nat) (l : List (Option Nat)) : Nat := (l.map (phi B)).sum
theorem Chain.uniq {T : List Tie} {by_ : List (Option Nat)} {v d : Nat} (h : Chain T by_ v d) : ∀ {e : Nat}, Chain T by_ v e → d = e := by
  induction h with
  | root h1 =>
    intro e g
    cases g with
    | root => rfl
    | step q => rw [h1] at q; cases q
  | step h1 h2 h3 h4 ih =>
    intro e g
    cases g with
    | root q => rw [h1] at q; cases q
    | step q1 q2 q3 q4 =>
      rw [h1] at q1
      cases q1
      rw [h2] at q2
      cases q2
      rw [ih q4]
theorem Chain.list {T : List Tie} {n : Nat} (hT : Within T n) {by_ : List (Option Nat)} {v d : Nat} (h : Chain T by_ v d) : v < n → ∃ l : List Nat, l.length = d + 1 ∧ l.Nodup ∧ ∀ u ∈ l, u < n ∧ ∃ e, e ≤ d ∧ Chain T by_ u e := by
  induction h with
  | root h1 => exact fun hv => ⟨[_], rfl, by simp, fun u hu => by rw [List.mem_singleton.mp hu]; exact ⟨hv, 0, Nat.le_refl _, .root h1⟩⟩
  | @step v i d a b c h1 h2 h3 h4 ih =>
    intro hv
    have hw := hT _ (List.mem_of_getElem? h2)
    have w1 : a < b := hw.1
    have w2 : b < n := hw.2
    obtain ⟨l, q1, q2, q3⟩ := ih (by omega)
    refine ⟨v :: l, by simp [q1], List.nodup_cons.mpr ⟨fun hm => ?_, q2⟩, fun u hu => ?_⟩
    · obtain ⟨_, e, he, hc⟩ := q3 v hm
      have := hc.uniq (.step h1 h2 h3 h4)
      omega
    · rcases List.mem_cons.mp hu with rfl | hu
      · exact ⟨hv, d + 1, Nat.le_refl _, .step h1 h2 h3 h4⟩
      · obtain ⟨k1, e, k2, k3⟩ := q3 u hu
        exact ⟨k1, e, by omega, k3⟩
theorem Chain.low {T : List Tie} {n : Nat} (hT : Within T n) {by_ : List (Option Nat)} {v d : Nat} (h : Chain T by_ v d) (hv : v < n) : d < n := by
  obtain ⟨l, h1, h2, h3⟩ := h.list hT hv
  have := nodup_len (D := List.range n) h2 fun u hu => List.mem_range.mpr (h3 u hu).1
  rw [h1, List.length_range] at this
  exact this
structure SpI (T : List Tie) (n B : Nat) (start told by_ : List (Option Nat)) (op : List Nat) (ex : Nat → Prop) : Prop where
  lt : told.length = n
  lb : by_.length = n
  opn : ∀ v ∈ op, ∃ x, told[v]? = some (some x)
  nd : op.Nodup
  att : ∀ (v x : Nat), told[v]? = some (some x) → ∃ u s w, start[u]? = some (some s) ∧ Walk T u v w ∧ x = s + w
  low : ∀ (u s : Nat), start[u]? = some (some s) → ∃ x, told[u]? = some (some x) ∧ x ≤ s
  rel : ∀ (a b c x : Nat), Edge T a b c → a ∉ op → ¬ ex a → told[a]? = some (some x) → ∃ y, told[b]? = some (some y) ∧ y ≤ x + c
  cap : ∀ (v x : Nat), told[v]? = some (some x) → x + 999 * nones told ≤ B
  byT : ∀ (v i : Nat), by_[v]? = some (some i) → ∃ a b c xu xv, T[i]? = some (a, b, c) ∧ (v = a ∨ v = b) ∧ told[a + b - v]? = some (some xu) ∧ told[v]? = some (some xv) ∧ xu ≤ xv
  ch : ∀ v, v < n → ∃ d, Chain T by_ v d
section
variable {T : List Tie} {n B : Nat} {start told by_ : List (Option Nat)} {op : List Nat} {ex : Nat → Prop}
theorem SpI.lto (h : SpI T n B start told by_ op ex) : ∀ v ∈ op, v < n := fun v hv => by
  obtain ⟨x, hx⟩ := h.opn v hv
  have := (List.getElem?_eq_some_iff.mp hx).1
  rwa [h.lt] at this
theorem SpI.len (h : SpI T n B start told by_ op ex) : op.length ≤ n := by
  have := nodup_len (D := List.range n) h.nd fun u hu => List.mem_range.mpr (h.lto u hu)
  rwa [List.length_range] at this
theorem SpI.done (hT : Within T n) (hs : start.length = n) (h : SpI T n B start told by_ [] fun _ => False) : Settle T n start told ∧ ByOk T n by_ :=
  ⟨settle_of hT hs h.lt h.att h.low fun a b c x e g => h.rel a b c x e (by simp) id g, ⟨h.lb, fun v hv => let ⟨d, hd⟩ := h.ch v hv; ⟨d, hd.low hT hv, hd⟩⟩⟩
theorem SpI.take {here : Nat} (h : SpI T n B start told by_ op fun _ => False) : SpI T n B start told by_ (op.erase here) (fun v => v = here) :=
  ⟨h.lt, h.lb, fun v hv => h.opn v (List.mem_of_mem_erase hv), h.nd.erase _, h.att, h.low, fun a b c x e g k q => h.rel a b c x e (fun z => g ((List.mem_erase_of_ne k).mpr z)) id q, h.cap, h.byT, h.ch⟩
/-- all ancestors of a told place are told, and no dearer -/
theorem Chain.anc {by2 : List (Option Nat)} {v d : Nat} {x : Nat} (h : SpI T n B start told by_ op ex) (o : Nat) (ho : ∀ y, told[o]? = some (some y) → x < y) (c : Chain T by_ v d) : ∀ {xv : Nat}, told[v]? = some (some xv) → xv ≤ x → (∀ u, u ≠ o → by2[u]? = by_[u]?) → ∃ e, Chain T by2 v e := by
  induction c with
  | @root v h1 =>
    intro xv hv hx hb
    have ne : v ≠ o := fun z => by rw [z] at hv; have := ho _ hv; omega
    exact ⟨0, .root (by rw [hb _ ne]; exact h1)⟩
  | @step v i d a b c h1 h2 h3 h4 ih =>
    intro xv hv hx hb
    have ne : v ≠ o := fun z => by rw [z] at hv; have := ho _ hv; omega
    obtain ⟨a', b', c', xu, xv', q1, q2, q3, q4, q5⟩ := h.byT v i h1
    rw [h2] at q1
    cases q1
    rw [hv] at q4
    cases q4
    obtain ⟨e, he⟩ := ih q3 (by omega) hb
    exact ⟨e + 1, .step (by rw [hb _ ne]; exact h1) h2 h3 he⟩
theorem Chain.thru {by2 : List (Option Nat)} {v d o : Nat} (c : Chain T by_ v d) (ho : ∃ e, Chain T by2 o e) (hb : ∀ u, u ≠ o → by2[u]? = by_[u]?) : ∃ e, Chain T by2 v e := by
  induction c with
  | @root v h1 =>
    by_cases z : v = o
    · rw [z]; exact ho
    · exact ⟨0, .root (by rw [hb _ z]; exact h1)⟩
  | @step v i d a b c h1 h2 h3 h4 ih =>
    by_cases z : v = o
    · rw [z]; exact ho
    · obtain ⟨e, he⟩ := ih
      exact ⟨e + 1, .step (by rw [hb _ z]; exact h1) h2 h3 he⟩
theorem get_set {α : Type} {l : List α} {i j : Nat} {b x : α} (hi : i < l.length) (h : (l.set i b)[j]? = some x) : (j = i ∧ x = b) ∨ (j ≠ i ∧ l[j]? = some x) := by
  by_cases e : j = i
  · subst e
    rw [List.getElem?_set_self hi] at h
    exact .inl ⟨rfl, (Option.some.inj h).symm⟩
  · rw [List.getElem?_set_ne (Ne.symm e)] at h
    exact .inr ⟨e, h⟩
/-- a place is relaxed -/
theorem SpI.relax {here o c i y : Nat} (hT : Within T n) (hp : ∀ t ∈ T, t.2.2 ≤ 999) (h : SpI T n B start told by_ op (fun v => v = here)) (hy : told[here]? = some (some y)) (hi : T[i]? = some (here, o, c) ∨ T[i]? = some (o, here, c))
    (hlt : ∀ z, told[o]? = some (some z) → y + c < z) :
    SpI T n B start (told.set o (some (y + c))) (by_.set o (some i)) (if o ∈ op then op else op ++ [o]) (fun v => v = here) ∧ o ≠ here ∧ 2 * phis B (told.set o (some (y + c))) + (if o ∈ op then op else op ++ [o]).length < 2 * phis B told + op.length ∧ o < n := by
  have hE : Edge T here o c := hi.elim (fun e => .inl (List.mem_of_getElem? e)) (fun e => .inr (List.mem_of_getElem? e))
  obtain ⟨e1, e2, e3⟩ := hT.edge hE
  have hc : c ≤ 999 := hi.elim (fun e => hp _ (List.mem_of_getElem? e)) (fun e => hp _ (List.mem_of_getElem? e))
  have lo : o < told.length := by rw [h.lt]; exact e2
  have lob : o < by_.length := by rw [h.lb]; exact e2
  have mem : ∀ v, v ∈ (if o ∈ op then op else op ++ [o]) ↔ v ∈ op ∨ v = o := fun v => by
    by_cases z : o ∈ op
    · rw [if_pos z]
      exact ⟨.inl, fun k => k.elim id fun e => e ▸ z⟩
    · rw [if_neg z]; simp
  have gs : ∀ {v x : Nat}, (told.set o (some (y + c)))[v]? = some (some x) → (v = o ∧ x = y + c) ∨ (v ≠ o ∧ told[v]? = some (some x)) := fun {v x} g => by
    rcases get_set lo g with ⟨k1, k2⟩ | k
    · exact .inl ⟨k1, Option.some.inj k2⟩
    · exact .inr k
  have so : (told.set o (some (y + c)))[o]? = some (some (y + c)) := List.getElem?_set_self lo
  have up : ∀ {v x : Nat}, told[v]? = some (some x) → ∃ z, (told.set o (some (y + c)))[v]? = some (some z) ∧ z ≤ x := fun {v x} g => by
    by_cases z : v = o
    · subst z
      exact ⟨_, so, by have := hlt _ g; omega⟩
    · exact ⟨x, by rw [List.getElem?_set_ne (Ne.symm z)]; exact g, Nat.le_refl _⟩
  obtain ⟨old, hold⟩ : ∃ z, told[o]? = some z := ⟨told[o], List.getElem?_eq_getElem lo⟩
  have hs1 := sum_set none1 (l := told) (some (y + c)) hold
  have hs2 := sum_set (phi B) (l := told) (some (y + c)) hold
  have cy := h.cap _ _ hy
  have hB : y + c + 999 * nones (told.set o (some (y + c))) ≤ B := by
    cases old with
    | none =>
      have : nones (told.set o (some (y + c))) + 1 = nones told := hs1
      rw [← this] at cy; omega
    | some z =>
      have : nones (told.set o (some (y + c))) = nones told := hs1
      have h1 := hlt _ hold
      have h2 := h.cap _ _ hold
      rw [this]; omega
  have hN : nones (told.set o (some (y + c))) ≤ nones told := by
    have : nones (told.set o (some (y + c))) + none1 old = nones told := hs1
    omega
  have hPhi : phis B (told.set o (some (y + c))) < phis B told := by
    have : phis B (told.set o (some (y + c))) + phi B old = phis B told + (y + c) := hs2
    cases old with
    | none =>
      have e : phi B none = B + 1 := rfl
      rw [e] at this; omega
    | some z =>
      have e : phi B (some z) = z := rfl
      have h1 := hlt _ hold
      rw [e] at this; omega
  have hbn : ∀ u, u ≠ o → (by_.set o (some i))[u]? = by_[u]? := fun u hu => List.getElem?_set_ne (Ne.symm hu)
  have hho : (by_.set o (some i))[here]? = by_[here]? := hbn _ e3
  have chO : ∃ e, Chain T (by_.set o (some i)) o e := by
    obtain ⟨d, hd⟩ := h.ch here e1
    obtain ⟨e, he⟩ := Chain.anc (by2 := by_.set o (some i)) h o (x := y) (fun z hz => by have := hlt z hz; omega) hd hy (Nat.le_refl _) hbn
    have ho : (by_.set o (some i))[o]? = some (some i) := List.getElem?_set_self lob
    rcases hi with q | q
    · exact ⟨e + 1, .step ho q (.inr rfl) (by rw [Nat.add_sub_cancel]; exact he)⟩
    · exact ⟨e + 1, .step ho q (.inl rfl) (by rw [Nat.add_sub_cancel_left]; exact he)⟩
  refine ⟨⟨by rw [List.length_set]; exact h.lt, by rw [List.length_set]; exact h.lb, fun v hv => ?_, ?_, fun v x g => ?_, fun u s g => ?_, fun a b d x e g1 g2 g3 => ?_, fun v x g => ?_, fun v j g => ?_, fun v hv => ?_⟩, Ne.symm e3, ?_, e2⟩
  · rcases (mem v).mp hv with k | k
    · obtain ⟨x, hx⟩ := h.opn v k
      obtain ⟨z, hz, _⟩ := up hx
      exact ⟨z, hz⟩
    · rw [k]; exact ⟨_, so⟩
  · by_cases z : o ∈ op
    · rw [if_pos z]; exact h.nd
    · rw [if_neg z]
      exact List.nodup_append.mpr ⟨h.nd, by simp, fun a ha b hb e => z (by rw [List.mem_singleton.mp hb] at e; rw [← e]; exact ha)⟩
  · rcases gs g with ⟨rfl, rfl⟩ | ⟨_, g⟩
    · obtain ⟨u, s, w, k1, k2, k3⟩ := h.att _ _ hy
      exact ⟨u, s, w + c, k1, .snoc k2 hE, by omega⟩
    · exact h.att v x g
  · obtain ⟨x, k1, k2⟩ := h.low u s g
    obtain ⟨z, k3, k4⟩ := up k1
    exact ⟨z, k3, by omega⟩
  · have g1' : a ∉ op ∧ a ≠ o := ⟨fun z => g1 ((mem a).mpr (.inl z)), fun z => g1 ((mem a).mpr (.inr z))⟩
    rcases gs g3 with ⟨k, _⟩ | ⟨_, k⟩
    · exact absurd k g1'.2
    · obtain ⟨z, k1, k2⟩ := h.rel a b d x e g1'.1 g2 k
      obtain ⟨z2, k3, k4⟩ := up k1
      exact ⟨z2, k3, by omega⟩
  · rcases gs g with ⟨rfl, rfl⟩ | ⟨_, g⟩
    · exact hB
    · have := h.cap v x g
      omega
  · rcases get_set lob g with ⟨rfl, k⟩ | ⟨k, g⟩
    · cases k
      rcases hi with q | q
      · exact ⟨here, _, c, y, y + c, q, .inr rfl, by rw [Nat.add_sub_cancel, List.getElem?_set_ne (Ne.symm e3)]; exact hy, so, by omega⟩
      · exact ⟨_, here, c, y, y + c, q, .inl rfl, by rw [Nat.add_sub_cancel_left, List.getElem?_set_ne (Ne.symm e3)]; exact hy, so, by omega⟩
    · obtain ⟨a, b, d, xu, xv, q1, q2, q3, q4, q5⟩ := h.byT v j g
      have hv2 : (told.set o (some (y + c)))[v]? = some (some xv) := by rw [List.getElem?_set_ne (Ne.symm k)]; exact q4
      obtain ⟨z, k3, k4⟩ := up q3
      exact ⟨a, b, d, z, xv, q1, q2, k3, hv2, by omega⟩
  · obtain ⟨d, hd⟩ := h.ch v hv
    exact hd.thru chO hbn
  · have : (if o ∈ op then op else op ++ [o]).length ≤ op.length + 1 := by
      by_cases z : o ∈ op
      · rw [if_pos z]; omega
      · rw [if_neg z]; simp
    omega
/-- all ties at here are relaxed -/
theorem SpI.end_ {here y : Nat} {l : List (Nat × Nat × Nat)} (hl : NbOk T here l) (h : SpI T n B start told by_ op (fun v => v = here)) (hy : told[here]? = some (some y)) (hr : ∀ o c x, (o, c, x) ∈ l → ∃ z, told[o]? = some (some z) ∧ z ≤ y + c) : SpI T n B start told by_ op (fun _ => False) := by
  refine ⟨h.lt, h.lb, h.opn, h.nd, h.att, h.low, fun a b c x e g1 g2 g3 => ?_, h.cap, h.byT, h.ch⟩
  by_cases z : a = here
  · subst z
    rw [hy] at g3
    cases g3
    rcases e with e | e
    · obtain ⟨i, hi⟩ := List.mem_iff_getElem?.mp e
      exact hr _ _ _ ((hl.has i _ _ _ hi).1 rfl)
    · obtain ⟨i, hi⟩ := List.mem_iff_getElem?.mp e
      exact hr _ _ _ ((hl.has i _ _ _ hi).2 rfl)
  · exact h.rel a b c x e g1 z g3
/-- the start -/
theorem SpI_start (hs : start.length = n) : ∃ B, SpI T n B start start (List.replicate n none) ((List.range n).filter fun v => (start.getD v none).isSome) (fun _ => False) := by
  have key : ∀ l : List (Option Nat), ∃ M, ∀ (v x : Nat), l[v]? = some (some x) → x ≤ M := by
    intro l
    induction l with
    | nil => exact ⟨0, fun v x e => by simp at e⟩
    | cons a l ih =>
      obtain ⟨M, hM⟩ := ih
      refine ⟨M + a.getD 0, fun v x e => ?_⟩
      cases v with
      | zero =>
        have : a = some x := by simpa using e
        rw [this]; simp
      | succ v =>
        have := hM v x (by simpa using e)
        omega
  obtain ⟨M, hM⟩ := key start
  refine ⟨M + 999 * nones start, hs, by simp, fun v hv => ?_, List.Pairwise.filter _ List.nodup_range, fun v x e => ⟨v, x, 0, e, .nil _, rfl⟩, fun u s e => ⟨s, e, Nat.le_refl _⟩, fun a b c x e g1 _ g3 => ?_, fun v x e => ?_, fun v i e => ?_, fun v hv => ?_⟩
  · have := (List.mem_filter.mp hv).2
    cases h : start[v]? with
    | none => rw [List.getD_eq_getElem?_getD, h] at this; cases this
    | some o =>
      rw [List.getD_eq_getElem?_getD, h] at this
      cases o with
      | none => cases this
      | some x => exact ⟨x, rfl⟩
  · refine absurd (List.mem_filter.mpr ⟨List.mem_range.mpr ?_, ?_⟩) g1
    · have := (List.getElem?_eq_some_iff.mp g3).1; omega
    · rw [List.getD_eq_getElem?_getD, g3]; rfl
  · have := hM v x e
    omega
  · rw [List.getElem?_replicate] at e
    split at e <;> cases e
  · exact ⟨0, .root (by rw [List.getElem?_replicate, if_pos hv])⟩
end
end K10


set_option Elab.async false
set_option linter.all false
set_option maxRecDepth 100000
set_option maxHeartbeats 4000000
/-! small facts about the abstract heap and data -/
namespace K10
open PySem L2 K10M
theorem Tab.putL {P a : Addr} {H : Hp} {xs : List V} {o : HO} (h : H a = some (.lst xs)) (t : Tab P H) : Tab P (upd H a o) := by
  obtain ⟨ps, h1, h2, h3⟩ := t
  have nP : P ≠ a := fun z => by rw [z, h] at h1; cases h1
  refine ⟨ps, by rw [upd_ne nP]; exact h1, h2, fun pos cv hc => ?_⟩
  obtain ⟨c, e1, e2⟩ := h3 pos cv hc
  have nC : c ≠ a := fun z => by rw [z, h] at e2; unfold LamX.CodeO at e2; cases e2
  exact ⟨c, e1, by rw [upd_ne nC]; exact e2⟩
theorem Tab.putD {P a : Addr} {H : Hp} {xs : List (List Key × V)} {o : HO} (h : H a = some (.dT xs)) (t : Tab P H) : Tab P (upd H a o) := by
  obtain ⟨ps, h1, h2, h3⟩ := t
  have nP : P ≠ a := fun z => by rw [z, h] at h1; cases h1
  refine ⟨ps, by rw [upd_ne nP]; exact h1, h2, fun pos cv hc => ?_⟩
  obtain ⟨c, e1, e2⟩ := h3 pos cv hc
  have nC : c ≠ a := fun z => by rw [z, h] at e2; unfold LamX.CodeO at e2; cases e2
  exact ⟨c, e1, by rw [upd_ne nC]; exact e2⟩
theorem Tab.putK {P a : Addr} {H : Hp} {xs : List (Key × V)} {o : HO} (h : H a = some (.dK xs)) (t : Tab P H) : Tab P (upd H a o) := by
  obtain ⟨ps, h1, h2, h3⟩ := t
  have nP : P ≠ a := fun z => by rw [z, h] at h1; cases h1
  refine ⟨ps, by rw [upd_ne nP]; exact h1, h2, fun pos cv hc => ?_⟩
  obtain ⟨c, e1, e2⟩ := h3 pos cv hc
  have nC : c ≠ a := fun z => by rw [z, h] at e2; unfold LamX.CodeO at e2; cases e2
  exact ⟨c, e1, by rw [upd_ne nC]; exact e2⟩
theorem Tab.at {P : Addr} {H : Hp} (t : Tab P H) : ∃ ps, H P = some (.tbl ps) := ⟨t.choose, t.choose_spec.1⟩
/-! ### ints in a list, as data -/
def dN (x : Nat) : PyData := .int x
theorem DpAll.ints {K : PySem.W.Frag} {H : Hp} : ∀ ns : List Nat, DpAll K H (ns.map nV) (ns.map dN)
  | [] => .nil
  | n :: ns => .cons (.int _) (DpAll.ints ns)
theorem lay_ints : ∀ ns : List Nat, PyData.canLayAll0 (ns.map dN) = true
  | [] => rfl
  | n :: ns => by
    have := lay_ints ns
    simp only [List.map_cons, PyData.canLayAll0, this, Bool.and_true]
    rfl
theorem deep_ints : ∀ ns : List Nat, PyData.depthAll (ns.map dN) ≤ 1
  | [] => by simp [PyData.depthAll]
  | n :: ns => by
    have := deep_ints ns
    have h : PyData.depth (dN n) ≤ 1 := by simp [dN, PyData.depth]
    simp only [List.map_cons, PyData.depthAll]
    omega
theorem shaped_ints (ns : List Nat) : SeqAt.shaped (.list (ns.map dN)) = true := by
  unfold SeqAt.shaped
  have h := deep_ints ns
  have h1 : PyData.canLay0 (.list (ns.map dN)) = true := by simp [PyData.canLay0, lay_ints]
  have h2 : PyData.depth (.list (ns.map dN)) ≤ 64 := by simp only [PyData.depth]; omega
  rw [h1, decide_eq_true h2]; rfl
theorem eqv_nil (ds : List PyData) : PyData.eqv (.list ds) (.list []) = decide (ds = []) := by
  cases ds <;> simp [PyData.eqv, PyData.eqvAll]
theorem flat_ints (ns : List Nat) : (ns.map nV).all flatV = true := by
  rw [List.all_map, List.all_eq_true]
  intro x _; rfl
theorem inV_ints (o : Nat) (ns : List Nat) : inV (nV o) (ns.map nV) = decide (o ∈ ns) := by
  unfold inV
  induction ns with
  | nil => simp
  | cons n ns ih =>
    have e : eqV (nV n) (nV o) = decide (n = o) := by
      show ((n : Int) == (o : Int)) = _
      by_cases h : n = o
      · subst h; simp
      · rw [decide_eq_false h]
        exact beq_eq_false_iff_ne.mpr (by omega)
    rw [List.map_cons, List.any_cons, e, ih]
    by_cases h : n = o
    · subst h; simp
    · have h2 : ¬ o = n := fun z => h z.symm
      simp [h, h2]
theorem erase_at {ns : List Nat} {k : Nat} (h : k ∈ ns) (nd : ns.Nodup) : ∃ j : Nat, (ns.map Int.ofNat)[j]? = some (k : Int) ∧ (∀ m : Nat, m < j → (ns.map Int.ofNat)[m]? ≠ some (k : Int)) ∧ ((ns.map Int.ofNat).eraseIdx j) = (ns.erase k).map Int.ofNat := by
  induction ns with
  | nil => cases h
  | cons n ns ih =>
    by_cases e : n = k
    · subst e
      exact ⟨0, rfl, fun m hm => absurd hm (Nat.not_lt_zero _), by simp⟩
    · have hk : k ∈ ns := by
        rcases List.mem_cons.mp h with z | z
        · exact absurd z.symm e
        · exact z
      obtain ⟨j, h1, h2, h3⟩ := ih hk (List.nodup_cons.mp nd).2
      refine ⟨j + 1, by simpa using h1, fun m hm => ?_, ?_⟩
      · cases m with
        | zero =>
          simp only [List.map_cons, List.getElem?_cons_zero, ne_eq, Option.some.injEq]
          intro z
          exact e (Int.ofNat.inj z)
        | succ m => simpa using h2 m (by omega)
      · have e2 : (n == k) = false := beq_eq_false_iff_ne.mpr e
        simp only [List.map_cons, List.eraseIdx_cons_succ, List.erase_cons, e2, Bool.false_eq_true, if_false, h3]
theorem ix_nat {n j : Nat} (hj : j < n) : ixN n (j : Int) = some j := by
  unfold ixN
  rw [if_pos (by omega), if_pos (by omega)]
  simp
theorem map_int (ns : List Nat) : (ns.map Int.ofNat).map V.int = ns.map nV := by rw [List.map_map]; rfl
end K10


set_option Elab.async false
set_option linter.all false
set_option maxRecDepth 100000
set_option maxHeartbeats 4000000
namespace K10
open PySem L2 K10M PyProof.Rows
/-- Fun, its code value told -/
structure FunC (K : PySem.W.Frag) (x qual : Str) (st : Stmt) (f : Addr) (fd : FuncData) (cdv : Value) : Prop where
  ex : ∃ (oc : Value) (od : Option Addr) (kV doc pm : Value) (an : Option Addr) (ct : Value) (osl : Array (Option Value)),
    fd = PySem.W.fnOf x qual (defArgs st) (defBody st) (defScope st) .none kV doc pm an cdv ct ∧ K.lookup f = some ⟨oc, od, .func fd, osl⟩ ∧ PySem.W.codeIn K cdv qual = true
  kp : PySem.W.keepIn K (.ref f) = true
section
variable {P : Program} {w : World} {K : PySem.W.Frag} {mg : Str → Option Value} {base : Heap}
theorem FunC.fn {x qual : Str} {st : Stmt} {f : Addr} {fd : FuncData} {cdv : Value} (F : FunC K x qual st f fd cdv) : Fun K x qual st f fd := by
  obtain ⟨oc, od, kV, doc, pm, an, ct, osl, e, lk, hcd⟩ := F.ex
  exact ⟨⟨oc, od, kV, doc, pm, an, cdv, ct, osl, e, lk, hcd⟩, F.kp⟩
theorem FunC.ok {x qual : Str} {st : Stmt} {f : Addr} {fd : FuncData} {cdv : Value} {N ps : List Str} {k : Nat} {sp : Sp} (F : FunC K x qual st f fd cdv) (S : FnScope N ps (defScope st)) (len : ∀ vs H Q E, sp vs H Q E → vs.length = ps.length)
    (hbody : ∀ (A : Around) (outer : List Env) (s : Shared) (H : Hp) (vs : List V) (Q : VK) (E : XK), Room k (A.deeper (envOfC qual (defScope st) s.heap.objs.size f cdv)) → sp vs H Q E →
      ∃ t, PSs (cxOf CX0 P w K mg base N qual (defScope st) f cdv A outer s H E).nox (defBody st) t ∧ t { nx := fun _ H' => Q .non H', rt := Q } (start N vs) H) : FnOk P w K mg base CX0 (k + 1) f fd ps sp := by
  obtain ⟨oc, od, kV, doc, pm, an, ct, osl, rfl, lk, hcd⟩ := F.ex
  refine fn_of lk hcd S len fun A outer s H vs Q E hr hsp => ?_
  obtain ⟨t, h, q⟩ := hbody A outer s H vs Q E hr hsp
  exact ⟨t, h.nox, q⟩
abbrev nSpr : List Str := ["web", "start", "near", "told", "by", "open_places", "here", "other", "cost", "index", "place"]
theorem scSpr : FnScope nSpr ["web", "start"] (defScope sSpread) := ⟨rfl, rfl, rfl, by decide +kernel, rfl, by decide +kernel, by decide +kernel⟩
/-- spread's heap: all of Hb stands but the three lists -/
structure SpH (Hb : Hp) (Pt ta ba oa : Addr) (told by_ : List (Option Nat)) (op : List Nat) (H' : Hp) : Prop where
  ext : ∀ b o, Hb b = some o → (∀ ps, o ≠ .tbl ps) → b ≠ ta → b ≠ ba → b ≠ oa → H' b = some o
  tab : Tab Pt H'
  hta : H' ta = some (.lst (told.map oV))
  hba : H' ba = some (.lst (by_.map oV))
  hoa : H' oa = some (.lst (op.map nV))
  n1 : ta ≠ ba
  n2 : ta ≠ oa
  n3 : ba ≠ oa
section
variable {Hb H1 H2 : Hp} {Pt ta ba oa : Addr} {told by_ : List (Option Nat)} {op : List Nat}
theorem SpH.more (h : SpH Hb Pt ta ba oa told by_ op H1) (g : Grow H1 H2) (t : Tab Pt H2) : SpH Hb Pt ta ba oa told by_ op H2 :=
  ⟨fun b o e n k1 k2 k3 => g b o (h.ext b o e n k1 k2 k3) n, t, Grow.at g h.hta, Grow.at g h.hba, Grow.at g h.hoa, h.n1, h.n2, h.n3⟩
theorem SpH.same (h : SpH Hb Pt ta ba oa told by_ op H1) (g : Same H1 H2) : SpH Hb Pt ta ba oa told by_ op H2 := h.more (Grow.of g) (h.tab.same g)
theorem SpH.setT (h : SpH Hb Pt ta ba oa told by_ op H1) (t2 : List (Option Nat)) : SpH Hb Pt ta ba oa t2 by_ op (upd H1 ta (.lst (t2.map oV))) :=
  ⟨fun b o e n k1 k2 k3 => by rw [upd_ne k1]; exact h.ext b o e n k1 k2 k3, h.tab.putL h.hta, upd_same, by rw [upd_ne (Ne.symm h.n1)]; exact h.hba, by rw [upd_ne (Ne.symm h.n2)]; exact h.hoa, h.n1, h.n2, h.n3⟩
theorem SpH.setB (h : SpH Hb Pt ta ba oa told by_ op H1) (t2 : List (Option Nat)) : SpH Hb Pt ta ba oa told t2 op (upd H1 ba (.lst (t2.map oV))) :=
  ⟨fun b o e n k1 k2 k3 => by rw [upd_ne k2]; exact h.ext b o e n k1 k2 k3, h.tab.putL h.hba, by rw [upd_ne h.n1]; exact h.hta, upd_same, by rw [upd_ne (Ne.symm h.n3)]; exact h.hoa, h.n1, h.n2, h.n3⟩
theorem SpH.setO (h : SpH Hb Pt ta ba oa told by_ op H1) (t2 : List Nat) : SpH Hb Pt ta ba oa told by_ t2 (upd H1 oa (.lst (t2.map nV))) :=
  ⟨fun b o e n k1 k2 k3 => by rw [upd_ne k3]; exact h.ext b o e n k1 k2 k3, h.tab.putL h.hoa, by rw [upd_ne h.n2]; exact h.hta, by rw [upd_ne h.n3]; exact h.hba, upd_same, h.n1, h.n2, h.n3⟩
end
theorem Paired.mapA {α β : Type} {F G : α → β → Prop} {xs : List α} {ys : List β} (h : Paired F xs ys) (g : ∀ a b, F a b → G a b) : Paired G xs ys := h.mono g
theorem oV_some {o : Option Nat} (h : ¬ oV o = .non) : ∃ x, o = some x := by
  cases o with
  | none => exact absurd rfl h
  | some x => exact ⟨x, rfl⟩
theorem at_row {row : List (Option Nat)} {v : Nat} {o : Option Nat} (h : row[v]? = some o) : atI (row.map oV) ((v : Nat) : Int) = some (oV o) := atI_nat (by rw [List.getElem?_map, h]; rfl)
theorem or_rel {K : PySem.W.Frag} {wb st fn ta ba oa : Addr} {here o c x y : Nat} {told : List (Option Nat)} {v10 : Option V} {H : Hp} {Q : Bool → Hp → Prop} (ht : H ta = some (.lst (told.map oV))) (hy : told[here]? = some (some y)) (ho : o < told.length)
    (h1 : (∀ z, told[o]? = some (some z) → y + c < z) → Q true H) (h2 : ∀ z, told[o]? = some (some z) → z ≤ y + c → Q false H) :
    tOr (tTest (tOp (fun x y H Q => y = V.non ∧ Q (V.bl (decide (x = V.non))) H) (tOp (rIxL K) (tVar 3) (tVar 7)) (tC V.non)))
      (tTest (tOp (rI0 fun i j => V.bl (decide (i < j))) (tOp (rI0 fun i j => V.int (i + j)) (tOp (rIxL K) (tVar 3) (tVar 6)) (tVar 8)) (tOp (rIxL K) (tVar 3) (tVar 7))))
      [some (.ref wb), some (.ref st), some (.ref fn), some (.ref ta), some (.ref ba), some (.ref oa), some (nV here), some (nV o), some (nV c), some (nV x), v10] H Q := by
  obtain ⟨old, hold⟩ : ∃ z, told[o]? = some z := ⟨told[o], List.getElem?_eq_getElem ho⟩
  refine ⟨_, rfl, _, rfl, ta, _, _, _, rfl, rfl, SqL.of ht, at_row hold, rfl, _, rfl, ?_⟩
  cases old with
  | none => exact iteD (by rfl) (h1 fun z e => by rw [hold] at e; cases e)
  | some z =>
    refine iteDF (fun e => by cases e) ⟨_, rfl, _, rfl, ta, _, _, _, rfl, rfl, SqL.of ht, at_row hy, _, rfl, _, _, rfl, rfl, _, rfl, _, rfl, ta, _, _, _, rfl, rfl, SqL.of ht, at_row hold, _, _, rfl, rfl, _, rfl, ?_⟩
    by_cases hlt : y + c < z
    · rw [decide_eq_true (by omega)]
      exact h1 fun z' e => by rw [hold] at e; cases e; exact hlt
    · rw [decide_eq_false (by omega)]
      exact h2 z hold (by omega)
theorem ok_spread {f c Pt : Addr} {fd : FuncData} (F : FunC K "spread" "spread" sSpread f fd (.ref c)) (TB : LamX.TabB base mg c Pt) (T : Txt mg) (C1 : Callee P w K mg base 1 "neighbors_of" ["web"] spNbrs) : FnOk P w K mg base CX0 2 f fd ["web", "start"] (spSpread Pt) := by
  refine F.ok scSpr (fun vs H Q E h => ?_) (fun A outer s H vs Q E hr h => ?_)
  · obtain ⟨wb, st, n, Ti, sta, rfl, _⟩ := h; rfl
  · obtain ⟨wb, st, n, Ti, sta, rfl, hW, hO, hst, hsl, hTab, q⟩ := h
    obtain ⟨pt, ps, hw, hpt, hps⟩ := hW.ex
    have hn8 := hO.n8
    refine ⟨_, (pss_cons (ps_asg (pe_tup (pa_cons (pe_c C1 hr (by decide) (by rfl) (pa_cons (pv 0) pa_nil)) (pa_cons (pe_callTy call_list_of (by rfl) T.list b_list (pa_cons (pv 1) pa_nil)) (pa_cons (pe_op op_rep (pe_lst (pa_cons pe_non pa_nil)) (pe_ix ix_tup (pv 0) pe_int (fun _ _ => rfl))) pa_nil)))) (pg_tup rfl (pgs_cons (pg_name (i := 2) scSpr.nd rfl (.inl rfl)) (pgs_cons (pg_name (i := 3) scSpr.nd rfl (.inr rfl)) (pgs_cons (pg_name (i := 4) scSpr.nd rfl (.inl rfl)) pgs_nil)))))
      (pss_cons (ps_setLc (i := 5) (own := [("place", 10)]) rfl scSpr.nd rfl rfl (sw_true rfl rfl rfl (by decide +kernel)) (pi_range1 (by rfl) T.range (pa_cons (pe_ix ix_tup (pv 0) pe_int (fun _ _ => rfl)) pa_nil)) (blkOk_by (N := nSpr) (sc := defScope sSpread) (by decide +kernel)) (fun _ _ _ _ _ => (pg_name (i := 10) scSpr.nd rfl (.inl rfl))) (fun _ _ _ _ _ => (pts_one (pt_cmpR op_notN (pe_ix (ix_list' K) (pv 3) (pv 10) (fun _ _ => rfl)) pe_non (nomark _)))) (fun _ _ _ _ _ => (pv 10)))
      (pss_cons (ps_while PassesOwn.never (pt_cmpR (op_neD hr.units) (pv 5) (pe_lst pa_nil) (nomark _)) (pss_cons (ps_set (i := 6) scSpr.nd rfl (.inl rfl) (pe_minLam (it := 3) TB rfl rfl rfl hr (by rfl) T.min rfl rfl (pv 5) rfl rfl rfl rfl rfl (by decide +kernel) (by decide +kernel) rfl (fun _ _ _ _ _ _ _ => rfl)))
      (pss_cons (ps_expr (pe_bm PySem.F.plainAttrs_list PySem.F.slot_list_remove PySem.F.type_list_remove mt_remove (pv 5) (pa_cons (pv 6) pa_nil)))
      (pss_one (ps_for PassesOwn.never rfl (pi_list (pe_ix ix_list (pv 2) (pv 6) (fun _ _ => rfl))) (pg_tup rfl (pgs_cons (pg_name (i := 7) scSpr.nd rfl (.inl rfl)) (pgs_cons (pg_name (i := 8) scSpr.nd rfl (.inl rfl)) (pgs_cons (pg_name (i := 9) scSpr.nd rfl (.inl rfl)) pgs_nil)))) (pss_one (ps_if (PW.pt (pw_or (pt_cmpR op_isN (pe_ix ix_list (pv 3) (pv 7) (fun _ _ => rfl)) pe_non (nomark _)) (pw_or1 (pt_cmpR op_lt (pe_op op_add (pe_ix ix_list (pv 3) (pv 6) (fun _ _ => rfl)) (pv 8)) (pe_ix ix_list (pv 3) (pv 7) (fun _ _ => rfl)) (nomark _))))) (pss_cons (ps_asg (pe_tup (pa_cons (pe_op op_add (pe_ix ix_list (pv 3) (pv 6) (fun _ _ => rfl)) (pv 8)) (pa_cons (pv 9) pa_nil))) (pg_tup rfl (pgs_cons (pg_sub (pv 3) (pv 7) set_list) (pgs_cons (pg_sub (pv 4) (pv 7) set_list) pgs_nil))))
      (pss_one (ps_if (pt_cmpR op_notIn_seq (pv 7) (pv 5) (by rfl)) (pss_one (ps_expr (pe_bm PySem.F.plainAttrs_list PySem.F.slot_list_append PySem.F.type_list_append mt_append (pv 5) (pa_cons (pv 7) pa_nil)))) pss_nil))) pss_nil)))))))
      (pss_one (ps_ret (pe_tup (pa_cons (pv 3) (pa_cons (pv 4) pa_nil)))))))), ?_⟩
    have nT : ∀ {b : Addr} {xs : List V}, H b = some (.tup xs) → ∀ ps, HO.tup xs ≠ .tbl ps := fun _ ps z => by cases z
    refine ⟨_, rfl, wb, n, Ti, rfl, hW, hO, fun fn H1 s1 hN => ⟨_, rfl, st, sta.map oV, rfl, .inl (SqL.of (s1 _ _ hst)), fun ta nta => ⟨szl (by simp), fun p np => ?_⟩⟩⟩
    have s2 := s1.trans (same_upd (o := .lst (sta.map oV)) nta)
    have s3 := s2.trans (same_upd (o := .lst [V.non]) np)
    refine ⟨_, rfl, wb, _, _, _, rfl, rfl, SqT.of (s3 _ _ hw), atI_nat (j := 0) rfl, p, n, [V.non], rfl, rfl, upd_same, by omega, by omega, szl (by simp; omega), fun ba nba => ⟨szl (by simp), fun tp ntp => ⟨tp, _, rfl, SqT.of upd_same, rfl, _, _, rfl, _, _, rfl, _, _, rfl, rfl, ?_⟩⟩⟩
    have s4 := s3.trans (same_upd (o := .lst (List.replicate ((n : Nat) : Int).toNat [V.non]).flatten) nba)
    have s5 := s4.trans (same_upd (o := .tup [V.ref fn, V.ref ta, V.ref ba]) ntp)
    obtain ⟨B, hB⟩ := SpI_start (T := Ti) (n := n) hsl
    have nta0 : H ta = none := s1.free nta
    have x2 := (same_upd (o := .lst (sta.map oV)) nta)
    have x3 := x2.trans (same_upd (o := .lst [V.non]) np)
    have x4 := x3.trans (same_upd (o := .lst (List.replicate ((n : Nat) : Int).toNat [V.non]).flatten) nba)
    have x5 := x4.trans (same_upd (o := .tup [V.ref fn, V.ref ta, V.ref ba]) ntp)
    have fba : H1 ba = none := x3.free nba
    have tb1 : ta ≠ ba := fun z => by
      have : upd (upd H1 ta (.lst (sta.map oV))) p (.lst [V.non]) ta = some (.lst (sta.map oV)) := same_upd np _ _ upd_same
      rw [← z, this] at nba; cases nba
    have gta : upd (upd (upd (upd H1 ta (.lst (sta.map oV))) p (.lst [V.non])) ba (.lst (List.replicate ((n : Nat) : Int).toNat [V.non]).flatten)) tp (.tup [V.ref fn, V.ref ta, V.ref ba]) ta = some (.lst (sta.map oV)) :=
      same_upd ntp _ _ (same_upd nba _ _ (same_upd np _ _ upd_same))
    have gba : upd (upd (upd (upd H1 ta (.lst (sta.map oV))) p (.lst [V.non])) ba (.lst (List.replicate ((n : Nat) : Int).toNat [V.non]).flatten)) tp (.tup [V.ref fn, V.ref ta, V.ref ba]) ba = some (.lst ((List.replicate n (none : Option Nat)).map oV)) := by
      rw [same_upd ntp _ _ upd_same, Int.toNat_natCast, List.flatten_replicate_singleton, List.map_replicate]; rfl
    generalize hHb : upd (upd (upd (upd H1 ta (.lst (sta.map oV))) p (.lst [V.non])) ba (.lst (List.replicate ((n : Nat) : Int).toNat [V.non]).flatten)) tp (.tup [V.ref fn, V.ref ta, V.ref ba]) = Hb at s5 x5 gta gba ⊢
    clear hHb s4 s3 s2 x4 x3 x2 ntp nba np
    refine ⟨_, rfl, wb, _, _, _, rfl, rfl, SqT.of (s5 _ _ hw), atI_nat (j := 0) rfl, n, rfl, by omega, by omega, fun oa noa => lc_range (fun i H' => Same Hb H' ∧ H' oa = some (.lst (((List.range i).filter fun v => (sta.getD v none).isSome).map nV))) ⟨same_put noa (Same.refl _), upd_same⟩ ?_ ?_⟩
    · rintro i H' hi ⟨s6, h6⟩
      have hin : i < n := by simpa using hi
      obtain ⟨old, hold⟩ : ∃ z, sta[i]? = some z := ⟨sta[i]'(by omega), List.getElem?_eq_getElem (by omega)⟩
      have e1 : ((List.range (i + 1)).filter fun v => (sta.getD v none).isSome) = ((List.range i).filter fun v => (sta.getD v none).isSome) ++ (if old.isSome = true then [i] else []) := by
        rw [List.range_succ, List.filter_append]
        congr 1
        have : (sta.getD i none).isSome = old.isSome := by rw [List.getD_eq_getElem?_getD, hold]; rfl
        simp only [List.filter_cons, List.filter_nil, this]
      refine ⟨rfl, _, rfl, _, rfl, ta, _, _, _, rfl, rfl, SqL.of (s6 _ _ gta), at_of (j := i) (by omega) (by rw [List.getElem?_map, hold]; rfl), rfl, _, rfl, ?_⟩
      cases old with
      | none =>
        refine iteN rfl ⟨s6, ?_⟩
        rw [e1, h6]; simp
      | some x =>
        refine iteNF (fun z => by cases z) ⟨_, rfl, _, h6, ?_, same_put noa s6, ?_⟩
        · rw [List.length_map]
          exact sz (Nat.le_trans (List.length_filter_le _ _) (by rw [List.length_range]; omega))
        · rw [upd_same, e1, List.map_append]
          simp only [Option.isSome_some, if_true, List.map_cons, List.map_nil, Int.zero_add]
    · rintro H6 ⟨s6, h6⟩
      have h6 : H6 oa = some (.lst (((List.range n).filter fun v => (sta.getD v none).isSome).map nV)) := h6
      have tab5 : Tab Pt Hb := hTab.same s5
      have n2 : ta ≠ oa := ne_of_none gta noa
      have n3 : ba ≠ oa := ne_of_none gba noa
      have S0 : SpH Hb Pt ta ba oa sta (List.replicate n none) ((List.range n).filter fun v => (sta.getD v none).isSome) H6 :=
        ⟨fun b o e _ _ _ _ => s6 _ _ e, tab5.same s6, s6 _ _ gta, s6 _ _ gba, h6, tb1, n2, n3⟩
      have keep : ∀ {H' : Hp} {told by_ : List (Option Nat)} {op : List Nat}, SpH Hb Pt ta ba oa told by_ op H' → ∀ b o, H1 b = some o → (∀ ps, o ≠ .tbl ps) → H' b = some o := fun S b o e n =>
        S.ext b o (x5 _ _ e) n (ne_of_none e nta) (ne_of_none e fba) (ne_of_none (x5 _ _ e) noa)
      obtain ⟨as, a1, a2, a3⟩ := hN
      refine ⟨fun m σ H' => ∃ told by_ op v6 v7 v8 v9 v10, σ = [some (.ref wb), some (.ref st), some (.ref fn), some (.ref ta), some (.ref ba), some (.ref oa), v6, v7, v8, v9, v10] ∧ SpH Hb Pt ta ba oa told by_ op H' ∧ SpI Ti n B sta told by_ op (fun _ => False) ∧ m = 2 * phis B told + op.length,
        ⟨_, sta, _, _, _, _, _, _, _, rfl, S0, hB, rfl⟩, ?_⟩
      rintro m σ H7 ⟨told, by_, op, v6, v7, v8, v9, v10, rfl, S, I, rfl⟩
      refine ⟨_, rfl, szl (by simp), fun p np => ⟨.list (op.map dN), .list [], .lst (SqL.of ((S.same (same_upd np)).hoa)) (DpAll.ints op), .lst (SqL.of upd_same) .nil, shaped_ints op, rfl, _, rfl, ?_⟩⟩
      have S := S.same (same_upd (o := .lst []) np)
      rw [eqv_nil]
      by_cases hop : op.map dN = []
      · have hop' : op = [] := List.map_eq_nil_iff.mp hop
        subst hop'
        refine iteN hop ?_
        obtain ⟨q1, q2⟩ := I.done hO.win hsl
        refine ⟨_, rfl, _, rfl, szl (by simp), fun r nr => ?_⟩
        have S := S.same (same_upd (o := .tup [V.ref ta, V.ref ba]) nr)
        refine q r ta ba told by_ _ nta0 (fun b o e n => keep S b o (s1 _ _ e) n) S.tab upd_same S.hta S.hba q1 q2
      · have hop' : op ≠ [] := fun z => hop (by rw [z]; rfl)
        refine iteNF hop ⟨fun σ' H' => ∃ m', m' < 2 * phis B told + op.length ∧ ∃ told by_ op v6 v7 v8 v9 v10, σ' = [some (.ref wb), some (.ref st), some (.ref fn), some (.ref ta), some (.ref ba), some (.ref oa), v6, v7, v8, v9, v10] ∧ SpH Hb Pt ta ba oa told by_ op H' ∧ SpI Ti n B sta told by_ op (fun _ => False) ∧ m' = 2 * phis B told + op.length, fun _ _ h => h, ?_⟩
        refine ⟨_, rfl, oa, ta, op, told, rfl, S.hoa, hop', rfl, S.hta, by rw [I.lt]; omega, I.opn, S.tab, fun here H8 hm g8 t8 => ?_⟩
        have S := S.more g8 t8
        have hhn := I.lto _ hm
        obtain ⟨y, hy⟩ := I.opn _ hm
        obtain ⟨j, j1, j2, j3⟩ := erase_at hm I.nd
        refine ⟨_, rfl, .inl ⟨rfl, _, SqL.of S.hoa⟩, _, rfl, oa, op.map Int.ofNat, here, j, rfl, rfl, by rw [map_int]; exact S.hoa, j1, j2, ?_⟩
        rw [j3, map_int]
        have S := S.setO (op.erase here)
        have I2 := I.take (here := here)
        obtain ⟨Ah, hAh⟩ : ∃ A, as[here]? = some A := ⟨as[here]'(by omega), List.getElem?_eq_getElem (by omega)⟩
        obtain ⟨l, ⟨qs, l1, l2⟩, hl⟩ := a3 here Ah hAh
        have hlen : (op.erase here).length + 1 = op.length := by
          have := List.length_erase_of_mem hm
          have := List.length_pos_of_mem hm
          omega
        refine ⟨_, rfl, _, rfl, fn, _, _, .ref Ah, rfl, rfl, SqL.of (keep S _ _ a1 (by intro _ z; cases z)), at_of (j := here) rfl (by rw [List.getElem?_map, hAh]; rfl), Ah, rfl, ⟨_, SqL.of (keep S _ _ l1 (by intro _ z; cases z))⟩, for_list (K := K) (a := Ah) (xs := qs.map V.ref)
          (fun j σ H' => ∃ told2 by2 op2 v7 v8 v9 v10, σ = [some (.ref wb), some (.ref st), some (.ref fn), some (.ref ta), some (.ref ba), some (.ref oa), some (nV here), v7, v8, v9, v10] ∧ SpH Hb Pt ta ba oa told2 by2 op2 H' ∧ SpI Ti n B sta told2 by2 op2 (fun v => v = here) ∧ told2[here]? = some (some y) ∧
            (∀ o c x, (o, c, x) ∈ l.take j → ∃ z, told2[o]? = some (some z) ∧ z ≤ y + c) ∧ 2 * phis B told2 + op2.length < 2 * phis B told + op.length)
          ⟨_, _, _, _, _, _, _, rfl, S, I2, hy, (fun o c x h => by simp at h), by omega⟩ ?_ ?_ ?_⟩
        · rintro i σ H' _ ⟨told2, by2, op2, v7, v8, v9, v10, _, S2, _⟩
          exact SqL.of (keep S2 _ _ l1 (by intro _ z; cases z))
        · rintro i x σ H' hx ⟨told2, by2, op2, v7, v8, v9, v10, rfl, S2, J, hy2, hr2, hm2⟩
          obtain ⟨pk, hpk, rfl⟩ : ∃ p, qs[i]? = some p ∧ x = .ref p := by
            rw [List.getElem?_map] at hx
            cases h : qs[i]? with
            | none => rw [h] at hx; cases hx
            | some p => rw [h] at hx; exact ⟨p, rfl, (Option.some.inj hx).symm⟩
          obtain ⟨⟨o, c, xi⟩, ht, hA⟩ := pair_get l2 hpk
          have hA : H1 pk = some (.tup [nV o, nV c, nV xi]) := hA
          have hE := hl.of o c xi (List.mem_of_getElem? ht)
          have hEd : Edge Ti here o c := hE.elim (fun e => .inl (List.mem_of_getElem? e)) (fun e => .inr (List.mem_of_getElem? e))
          obtain ⟨w1, w2, w3⟩ := hO.win.edge hEd
          have tk : l.take (i + 1) = l.take i ++ [(o, c, xi)] := by rw [List.take_add_one, ht]; rfl
          refine ⟨pk, _, rfl, SqT.of (keep S2 _ _ hA (by intro _ z; cases z)), rfl, _, _, rfl, _, _, rfl, _, _, rfl, rfl, or_rel S2.hta hy2 (by rw [J.lt]; omega) (fun hlt => iteT ?_) (fun z hz hle => iteF ?_)⟩
          · obtain ⟨J2, _, m2, _⟩ := J.relax hO.win hO.price hy2 hE hlt
            have lo : o < told2.length := by rw [J.lt]; omega
            have lob : o < by2.length := by rw [J.lb]; omega
            refine ⟨_, rfl, _, rfl, ta, _, _, _, rfl, rfl, SqL.of S2.hta, at_row hy2, _, rfl, _, _, rfl, rfl, _, rfl, szl (by simp), fun tp2 ntp2 => ⟨tp2, _, rfl, SqT.of upd_same, rfl, _, _, rfl, ?_⟩⟩
            have S3 := S2.same (same_upd (o := .tup [.int ((y : Int) + (c : Int)), nV xi]) ntp2)
            refine ⟨_, rfl, _, rfl, ta, _, _, o, rfl, rfl, S3.hta, ix_nat (by rw [List.length_map]; exact lo), ?_⟩
            have e1 : (told2.map oV).set o (.int ((y : Int) + (c : Int))) = (told2.set o (some (y + c))).map oV := by rw [List.map_set]; rfl
            rw [e1]
            have S4 := S3.setT (told2.set o (some (y + c)))
            refine ⟨_, _, rfl, _, rfl, _, rfl, ba, _, _, o, rfl, rfl, S4.hba, ix_nat (by rw [List.length_map]; exact lob), rfl, ?_⟩
            have e2 : (by2.map oV).set o (nV xi) = (by2.set o (some xi)).map oV := by rw [List.map_set]; rfl
            rw [e2]
            have S5 := S4.setB (by2.set o (some xi))
            have hyn : (told2.set o (some (y + c)))[here]? = some (some y) := by rw [List.getElem?_set_ne (Ne.symm w3)]; exact hy2
            have hrn : ∀ o' c' x', (o', c', x') ∈ l.take (i + 1) → ∃ z, (told2.set o (some (y + c)))[o']? = some (some z) ∧ z ≤ y + c' := by
              intro o' c' x' hm'
              rw [tk] at hm'
              by_cases eo : o' = o
              · subst eo
                refine ⟨_, List.getElem?_set_self lo, ?_⟩
                rcases List.mem_append.mp hm' with hm' | hm'
                · obtain ⟨z, z1, z2⟩ := hr2 _ _ _ hm'
                  have := hlt z z1
                  omega
                · cases List.mem_singleton.mp hm'
                  omega
              · rcases List.mem_append.mp hm' with hm' | hm'
                · rw [List.getElem?_set_ne (Ne.symm eo)]; exact hr2 _ _ _ hm'
                · cases List.mem_singleton.mp hm'
                  exact absurd rfl eo
            refine ⟨_, rfl, _, rfl, oa, _, rfl, .inl (SqL.of S5.hoa), rfl, flat_ints _, _, rfl, ?_⟩
            rw [inV_ints]
            by_cases hoo : o ∈ op2
            · rw [if_pos hoo] at J2 m2
              refine iteN hoo ⟨_, _, _, _, _, _, _, rfl, S5, J2, hyn, hrn, by omega⟩
            · rw [if_neg hoo] at J2 m2
              refine iteNF hoo ⟨_, rfl, .inl ⟨rfl, _, SqL.of S5.hoa⟩, _, rfl, oa, _, _, rfl, rfl, S5.hoa, ?_, ?_⟩
              · rw [List.length_map]; exact sz (by have := J.len; omega)
              · have S6 := S5.setO (op2 ++ [o])
                rw [List.map_append] at S6
                exact ⟨_, _, _, _, _, _, _, rfl, S6, J2, hyn, hrn, by omega⟩
          · refine ⟨_, _, _, _, _, _, _, rfl, S2, J, hy2, fun o' c' x' hm' => ?_, hm2⟩
            rw [tk] at hm'
            rcases List.mem_append.mp hm' with hm' | hm'
            · exact hr2 _ _ _ hm'
            · cases List.mem_singleton.mp hm'
              exact ⟨z, hz, hle⟩
        · rintro σ H' ⟨told2, by2, op2, v7, v8, v9, v10, rfl, S2, J, hy2, hr2, hm2⟩
          refine ⟨_, hm2, _, _, _, _, _, _, _, _, rfl, S2, J.end_ hl hy2 (fun o c x hm' => hr2 o c x ?_), rfl⟩
          have : l.take (qs.map V.ref).length = l := List.take_of_length_le (by rw [List.length_map, l2.length]; omega)
          rw [this]; exact hm'
end
end K10


set_option Elab.async false
set_option linter.all false
set_option maxRecDepth 100000
set_option maxHeartbeats 4000000
namespace K10
open PySem L2 K10M PyProof.Rows
/-- 0 at p, none elsewhere -/
def oneAt (n p : Nat) : List (Option Nat) := (List.range n).map fun v => if v = p then some 0 else none
theorem oneAt_len (n p : Nat) : (oneAt n p).length = n := by simp [oneAt]
theorem oneAt_get {n p : Nat} (hp : p < n) (u x : Nat) : (oneAt n p)[u]? = some (some x) ↔ u = p ∧ x = 0 := by
  unfold oneAt
  rw [List.getElem?_map]
  constructor
  · intro h
    cases e : (List.range n)[u]? with
    | none => rw [e] at h; cases h
    | some v =>
      rw [e] at h
      have hv : v = u := by
        have := List.getElem?_eq_some_iff.mp e
        obtain ⟨_, h2⟩ := this
        rw [List.getElem_range] at h2
        exact h2.symm
      have h : (if v = p then some 0 else none) = some x := Option.some.inj h
      by_cases z : v = p
      · rw [if_pos z] at h
        exact ⟨by omega, (Option.some.inj h).symm⟩
      · rw [if_neg z] at h; cases h
  · rintro ⟨rfl, rfl⟩
    rw [List.getElem?_range hp]
    simp
theorem oneAt_succ (i p : Nat) : (oneAt (i + 1) p) = oneAt i p ++ [if i = p then some 0 else none] := by
  simp [oneAt, List.range_succ]
section
variable {P : Program} {w : World} {K : PySem.W.Frag} {mg : Str → Option Value} {base : Heap}
abbrev nFr : List Str := ["web", "place", "at"]
theorem scFr : FnScope nFr ["web", "place"] (defScope sFrom) := ⟨rfl, rfl, rfl, by decide +kernel, rfl, by decide +kernel, by decide +kernel⟩
theorem ok_from {f Pt : Addr} {fd : FuncData} (F : Fun K "from_place" "from_place" sFrom f fd) (T : Txt mg) (C2 : Callee P w K mg base 2 "spread" ["web", "start"] (spSpread Pt)) : FnOk P w K mg base CX0 3 f fd ["web", "place"] (spFrom Pt) := by
  refine F.ok scFr (fun vs H Q E h => ?_) (fun cdv A outer s H vs Q E hr h => ?_)
  · obtain ⟨wb, p, n, Ti, rfl, _⟩ := h; rfl
  · obtain ⟨wb, p, n, Ti, rfl, hW, hO, hp, hTab, q⟩ := h
    obtain ⟨pt, ps, hw, hpt, hps⟩ := hW.ex
    have hn8 := hO.n8
    refine ⟨_, (pss_one (ps_ret (pe_c C2 hr (by decide) (by rfl) (pa_cons (pv 0) (pa_cons (pe_lc (own := [("at", 2)]) rfl scFr.nd (pi_range1 (by rfl) T.range (pa_cons (pe_ix ix_tup (pv 0) pe_int (fun _ _ => rfl)) pa_nil)) (blkOk_by (N := nFr) (sc := defScope sFrom) (by decide +kernel)) (fun _ _ _ _ _ => (pg_name (i := 2) scFr.nd rfl (.inl rfl))) (fun _ _ _ _ _ => pts_nil) (fun _ _ _ _ _ => (pe_ifExp (pt_cmpR op_eq (pv 2) (pv 1) (nomark _)) pe_int pe_non))) pa_nil))))), ?_⟩
    refine ⟨_, rfl, ?_⟩
    refine ⟨_, rfl, wb, _, _, _, rfl, rfl, SqT.of hw, atI_nat (j := 0) rfl, n, rfl, by omega, by omega, fun D hD => lc_range (fun i H' => Same H H' ∧ H' D = some (.lst ((oneAt i p).map oV))) ⟨same_put hD (Same.refl _), upd_same⟩ ?_ ?_⟩
    · rintro i H' hi ⟨s1, h1⟩
      have hin : i < n := by simpa using hi
      refine ⟨rfl, _, rfl, _, rfl, rfl, _, rfl, ?_⟩
      have sD : (List.map oV (oneAt i p)).length < sizeLine := by rw [List.length_map, oneAt_len]; exact sz (by omega)
      by_cases h : i = p
      · refine iteD (by rw [h, Int.zero_add]) ⟨_, h1, sD, same_put hD s1, ?_⟩
        rw [upd_same, oneAt_succ, List.map_append, if_pos h]; rfl
      · refine iteDF (fun z => h (by injection z with z; omega)) ⟨_, h1, sD, same_put hD s1, ?_⟩
        rw [upd_same, oneAt_succ, List.map_append, if_neg h]; rfl
    · rintro H1 ⟨s1, h1⟩
      have h1 : H1 D = some (.lst ((oneAt n p).map oV)) := h1
      refine ⟨wb, D, n, Ti, oneAt n p, rfl, hW.same s1, hO, h1, oneAt_len n p, hTab.same s1, fun r ta ba told by_ H2 nta g t2 h2 h3 h4 hs hb => ?_⟩
      exact q r ta ba told H2 (s1.free nta) ((Grow.of s1).trans g) t2 h2 h3 (hs.dist (oneAt_get hp))
end
end K10


set_option Elab.async false
set_option linter.all false
set_option maxRecDepth 100000
set_option maxHeartbeats 4000000
/-! The table's law: lots, their parts, least prices of webs, the ties' depth. -/
namespace K10
open PySem L2 K10M
/-- the number of places in a lot (lots are below 64) -/
def pc (x : Nat) : Nat := (List.range 6).countP fun i => x.testBit i
/-- a proper part -/
structure Part (lot q : Nat) : Prop where
  pos : 0 < q
  sub : q &&& lot = q
  ne : q ≠ lot
def chk1 : Bool := (List.range 64).all fun lot => (List.range 64).all fun q => !(q &&& lot == q && q != 0 && q != lot) ||
  (decide (q < lot) && decide (pc q < pc lot) && decide (pc (lot - q) < pc lot) && ((lot - q) &&& lot == lot - q) && (q &&& (lot - q) == 0) && (q ||| (lot - q) == lot) && decide (0 < lot - q) && decide (1 ≤ pc q) && decide (pc lot ≤ 6))
def chk2 : Bool := (List.range 64).all fun lot => (List.range 64).all fun part => !(part &&& lot == part && part != 0) ||
  (((part - 1) &&& lot) &&& lot == ((part - 1) &&& lot) && decide (((part - 1) &&& lot) < part) && (List.range 64).all fun q => !(q &&& lot == q) || !(decide (q < part)) || decide (q ≤ (part - 1) &&& lot))
theorem chk1_ok : chk1 = true := by decide +kernel
theorem chk2_ok : chk2 = true := by decide +kernel
theorem Part.facts {lot q : Nat} (h : Part lot q) (hl : lot < 64) : q < lot ∧ pc q < pc lot ∧ pc (lot - q) < pc lot ∧ Part lot (lot - q) ∧ q &&& (lot - q) = 0 ∧ q ||| (lot - q) = lot ∧ 0 < lot - q := by
  have h1 := chk1_ok
  unfold chk1 at h1
  have hq : q ≤ lot := by
    have := Nat.and_le_right (n := q) (m := lot)
    rw [h.sub] at this; exact this
  have h2 := List.all_eq_true.mp (List.all_eq_true.mp h1 lot (List.mem_range.mpr hl)) q (List.mem_range.mpr (by omega))
  have e1 : (q &&& lot == q) = true := beq_iff_eq.mpr h.sub
  have e2 : (q != 0) = true := bne_iff_ne.mpr (by have := h.pos; omega)
  have e3 : (q != lot) = true := bne_iff_ne.mpr h.ne
  rw [e1, e2, e3] at h2
  simp only [Bool.and_true, Bool.not_true, Bool.false_or, Bool.and_eq_true, decide_eq_true_eq, beq_iff_eq] at h2
  obtain ⟨⟨⟨⟨⟨⟨⟨⟨a, b⟩, c⟩, d⟩, e⟩, f⟩, g⟩, i⟩, j⟩ := h2
  exact ⟨a, b, c, ⟨g, d, by have := h.pos; omega⟩, e, f, g⟩
theorem pc_le {lot : Nat} : pc lot ≤ 6 := by
  unfold pc
  have := List.countP_le_length (p := fun i => lot.testBit i) (l := List.range 6)
  simpa using this
theorem pc_pos {lot : Nat} (hl : lot < 64) (h0 : lot ≠ 0) : 0 < pc lot := by
  have h : ((List.range 64).all fun lot => lot == 0 || decide (0 < pc lot)) = true := by decide +kernel
  have := List.all_eq_true.mp h lot (List.mem_range.mpr hl)
  rw [beq_eq_false_iff_ne.mpr h0] at this
  simpa using this
theorem next_part {lot part : Nat} (hl : lot < 64) (hs : part &&& lot = part) (hp : 0 < part) : ((part - 1) &&& lot) &&& lot = ((part - 1) &&& lot) ∧ ((part - 1) &&& lot) < part ∧ ∀ q, q &&& lot = q → q < part → q ≤ (part - 1) &&& lot := by
  have h1 := chk2_ok
  unfold chk2 at h1
  have hq : part ≤ lot := by
    have := Nat.and_le_right (n := part) (m := lot)
    rw [hs] at this; exact this
  have h2 := List.all_eq_true.mp (List.all_eq_true.mp h1 lot (List.mem_range.mpr hl)) part (List.mem_range.mpr (by omega))
  have e1 : (part &&& lot == part) = true := beq_iff_eq.mpr hs
  have e2 : (part != 0) = true := bne_iff_ne.mpr (by omega)
  rw [e1, e2] at h2
  simp only [Bool.and_true, Bool.not_true, Bool.false_or, Bool.and_eq_true, decide_eq_true_eq, beq_iff_eq] at h2
  obtain ⟨⟨a, b⟩, c⟩ := h2
  refine ⟨a, b, fun q h3 h4 => ?_⟩
  have h5 := List.all_eq_true.mp c q (List.mem_range.mpr (by omega))
  have e3 : (q &&& lot == q) = true := beq_iff_eq.mpr h3
  rw [e3, decide_eq_true h4] at h5
  simpa using h5
/-! ### least prices -/
theorem or_pos {X Y : Nat} (h : X ≠ 0) : X ||| Y ≠ 0 := fun z => h (by
  apply Nat.eq_of_testBit_eq
  intro i
  have : (X ||| Y).testBit i = false := by rw [z, Nat.zero_testBit]
  rw [Nat.testBit_or, Bool.or_eq_false_iff] at this
  rw [this.1, Nat.zero_testBit])
theorem web_pos {T : List Tie} {told : List Nat} {X v w : Nat} (h : Web T told X v w) : X ≠ 0 := by
  induction h with
  | start => exact Nat.ne_of_gt (Nat.two_pow_pos _)
  | move _ _ ih => exact ih
  | meet _ _ _ i1 _ => exact or_pos i1
theorem web_low {T : List Tie} {told : List Nat} {X v w : Nat} (h : Web T told X v w) : X < 2 ^ told.length := by
  induction h with
  | start h => exact Nat.pow_lt_pow_right (by decide) (List.getElem?_eq_some_iff.mp h).1
  | move _ _ ih => exact ih
  | meet _ _ _ i1 i2 => exact Nat.or_lt_two_pow i1 i2
theorem web_le {T : List Tie} {n : Nat} {told : List Nat} {best : Nat → List (Option Nat)} (h : ∀ lot, lot ≠ 0 → lot < 2 ^ told.length → LotOk T n told best lot) {X v w : Nat} (hw : Web T told X v w) : ∃ x, (best X)[v]? = some (some x) ∧ x ≤ w := by
  induction hw with
  | @start a p hp => exact ⟨0, (h _ (web_pos (Web.start (T := T) hp)) (web_low (Web.start (T := T) hp))).one a p rfl hp, Nat.le_refl _⟩
  | move hw e ih =>
    obtain ⟨x, h1, h2⟩ := ih
    obtain ⟨y, h3, h4⟩ := (h _ (web_pos hw) (web_low hw)).rel _ _ _ _ e h1
    exact ⟨y, h3, by omega⟩
  | meet g1 g2 d i1 i2 =>
    obtain ⟨x, h1, h2⟩ := i1
    obtain ⟨y, h3, h4⟩ := i2
    have g := Web.meet g1 g2 d
    obtain ⟨z, h5, h6⟩ := (h _ (web_pos g) (web_low g)).two _ _ _ _ _ (web_pos g1) (web_pos g2) d rfl h1 h3
    exact ⟨z, h5, by omega⟩
/-- the least price of a web of all told places that ends at z -/
def IsLeast (T : List Tie) (told : List Nat) (X z : Nat) : Option Nat → Prop
  | none => ∀ w, ¬ Web T told X z w
  | some x => Web T told X z x ∧ ∀ w, Web T told X z w → x ≤ w
theorem isLeast_of {T : List Tie} {n : Nat} {told : List Nat} {best : Nat → List (Option Nat)} (h : ∀ lot, lot ≠ 0 → lot < 2 ^ told.length → LotOk T n told best lot) {X z : Nat} (h0 : X ≠ 0) (hX : X < 2 ^ told.length) {o : Option Nat} (ho : (best X)[z]? = some o) : IsLeast T told X z o := by
  cases o with
  | none =>
    intro w hw
    obtain ⟨x, h1, _⟩ := web_le h hw
    rw [ho] at h1; cases h1
  | some x =>
    refine ⟨(h X h0 hX).att z x ho, fun w hw => ?_⟩
    obtain ⟨y, h1, h2⟩ := web_le h hw
    rw [ho] at h1
    cases h1
    exact h2
/-- a lot's row, settled from what its parts give -/
theorem lot_merged {T : List Tie} {n : Nat} {told : List Nat} {best : Nat → List (Option Nat)} {lot : Nat} {start : List (Option Nat)} (hT : Within T n) (hl : lot < 64) (hne : ∀ a, a < told.length → lot ≠ 2 ^ a) (hn : start.length = n)
    (hp : ∀ q, Part lot q → LotOk T n told best q)
    (att : ∀ v x : Nat, start[v]? = some (some x) → ∃ q a b : Nat, Part lot q ∧ (best q)[v]? = some (some a) ∧ (best (lot - q))[v]? = some (some b) ∧ x = a + b)
    (opt : ∀ q v a b : Nat, Part lot q → (best q)[v]? = some (some a) → (best (lot - q))[v]? = some (some b) → ∃ y, start[v]? = some (some y) ∧ y ≤ a + b)
    (S : Settle T n start (best lot)) : LotOk T n told best lot := by
  refine ⟨S.len, fun v x e => ?_, fun a b c x e h => ?_, fun at_ p e h => ?_, fun X Y u a b hX hY d e h1 h2 => ?_⟩
  · obtain ⟨u, s, w, h1, h2, h3⟩ := S.att v x e
    obtain ⟨q, a, b, p1, p2, p3, p4⟩ := att u s h1
    obtain ⟨f1, f2, f3, f4, f5, f6, f7⟩ := p1.facts hl
    have g := (Web.meet ((hp q p1).att u a p2) ((hp _ f4).att u b p3) f5).walk h2
    exact g.cast f6 (by omega)
  · obtain ⟨u, s, w, h1, h2, h3⟩ := S.att a x h
    obtain ⟨y, h4, h5⟩ := S.opt u s b (w + c) h1 (hT.edge e).2.1 (.snoc h2 e)
    exact ⟨y, h4, by omega⟩
  · exact absurd e (hne at_ (List.getElem?_eq_some_iff.mp h).1)
  · have dd := disj_iff.mp d
    have subX : X &&& lot = X := by
      rw [← e]
      apply Nat.eq_of_testBit_eq
      intro i
      rw [Nat.testBit_and, Nat.testBit_or]
      cases X.testBit i <;> simp
    have hXl : X ≠ lot := fun z => by
      rw [← e] at z
      apply hY
      apply Nat.eq_of_testBit_eq
      intro i
      rw [Nat.zero_testBit]
      cases k : Y.testBit i with
      | false => rfl
      | true =>
        have : X.testBit i = true := by rw [z, Nat.testBit_or, k, Bool.or_true]
        exact absurd ⟨this, k⟩ (dd i)
    have P : Part lot X := ⟨by omega, subX, hXl⟩
    obtain ⟨f1, f2, f3, f4, f5, f6, f7⟩ := P.facts hl
    have hYe : Y = lot - X := by
      apply Nat.eq_of_testBit_eq
      intro i
      have k1 : (X ||| Y).testBit i = (X ||| (lot - X)).testBit i := by rw [e, f6]
      have k2 := dd i
      have k3 := disj_iff.mp f5 i
      rw [Nat.testBit_or, Nat.testBit_or] at k1
      cases q1 : X.testBit i <;> cases q2 : Y.testBit i <;> cases q3 : (lot - X).testBit i <;> simp_all
    rw [hYe] at h2
    obtain ⟨y, h3, h4⟩ := opt X u a b P h1 h2
    have hu : u < n := by
      have := (List.getElem?_eq_some_iff.mp h3).1
      omega
    obtain ⟨z, h5, h6⟩ := S.opt u y u 0 h3 hu (.nil u)
    exact ⟨z, h5, by omega⟩
theorem lot_one {T : List Tie} {n : Nat} {told : List Nat} {best : Nat → List (Option Nat)} {at_ p : Nat} {start : List (Option Nat)} (hT : Within T n) (hp : told[at_]? = some p) (hpn : p < n) (hs : ∀ u x : Nat, start[u]? = some (some x) ↔ u = p ∧ x = 0)
    (S : Settle T n start (best (2 ^ at_))) : LotOk T n told best (2 ^ at_) := by
  refine ⟨S.len, fun v x e => ?_, fun a b c x e h => ?_, fun at2 p2 e h => ?_, fun X Y u a b hX hY d e h1 h2 => ?_⟩
  · obtain ⟨u, s, w, h1, h2, h3⟩ := S.att v x e
    obtain ⟨rfl, rfl⟩ := (hs u s).mp h1
    exact ((Web.start hp).walk h2).cast rfl h3.symm
  · obtain ⟨u, s, w, h1, h2, h3⟩ := S.att a x h
    obtain ⟨y, h4, h5⟩ := S.opt u s b (w + c) h1 (hT.edge e).2.1 (.snoc h2 e)
    exact ⟨y, h4, by omega⟩
  · have : at_ = at2 := by
      have : (2 ^ at2).testBit at_ = true := by rw [← e]; exact bit_two.mpr rfl
      exact (bit_two.mp this).symm
    subst this
    rw [hp] at h
    cases h
    obtain ⟨y, h4, h5⟩ := S.opt p 0 p 0 ((hs p 0).mpr ⟨rfl, rfl⟩) hpn (.nil p)
    have : y = 0 := by omega
    rw [this] at h4; exact h4
  · exfalso
    have dd := disj_iff.mp d
    have bits : ∀ {Z : Nat}, Z ≠ 0 → (∀ i, Z.testBit i = true → (2 ^ at_).testBit i = true) → Z.testBit at_ = true := fun {Z} hz h => by
      obtain ⟨i, hi⟩ := Nat.exists_testBit_of_ne_zero hz
      have := bit_two.mp (h i hi)
      rw [this]; exact hi
    have b1 := bits hX fun i h => by rw [← e]; exact bit_or.mpr (.inl h)
    have b2 := bits hY fun i h => by rw [← e]; exact bit_or.mpr (.inr h)
    exact dd at_ ⟨b1, b2⟩
/-! ### the ties: how deep, how many -/
inductive How
  | part (q : Nat)
  | way (i : Nat)
abbrev Made := Nat → Nat → Option How
/-- ties ends from a lot and a place: its depth, its list's length -/
inductive Ends (T : List Tie) (n : Nat) (M : Made) : Nat → Nat → Nat → Nat → Prop
  | stop {lot p d l : Nat} : M lot p = none → p < n → Ends T n M lot p d l
  | way {lot p i a b c d l : Nat} : M lot p = some (.way i) → p < n → T[i]? = some (a, b, c) → (p = a ∨ p = b) → Ends T n M lot (a + b - p) d l → Ends T n M lot p (d + 1) (l + 1)
  | part {lot p q d l1 l2 : Nat} : M lot p = some (.part q) → p < n → q ≤ lot → Ends T n M q p d l1 → Ends T n M (lot - q) p d l2 → Ends T n M lot p (d + 1) (l1 + l2)
section
variable {T : List Tie} {n : Nat} {M M' : Made}
theorem Ends.more {lot p d l : Nat} (h : Ends T n M lot p d l) : ∀ {d' l' : Nat}, d ≤ d' → l ≤ l' → Ends T n M lot p d' l' := by
  induction h with
  | stop h1 h2 => exact fun _ _ => .stop h1 h2
  | way h1 h2 h3 h4 h5 ih =>
    intro d' l' hd hl
    obtain ⟨d', rfl⟩ : ∃ k, d' = k + 1 := ⟨d' - 1, by omega⟩
    obtain ⟨l', rfl⟩ : ∃ k, l' = k + 1 := ⟨l' - 1, by omega⟩
    exact .way h1 h2 h3 h4 (ih (by omega) (by omega))
  | @part lot p q d l1 l2 h1 h2 h3 h4 h5 i1 i2 =>
    intro d' l' hd hl
    obtain ⟨d', rfl⟩ : ∃ k, d' = k + 1 := ⟨d' - 1, by omega⟩
    obtain ⟨k, rfl⟩ : ∃ k, l' = l1 + k := ⟨l' - l1, by omega⟩
    exact .part h1 h2 h3 (i1 (by omega) (Nat.le_refl _)) (i2 (by omega) (by omega))
/-- only entries of lots outside S change: lots in S (closed under parts) keep their ends -/
theorem Ends.keep {lot p d l : Nat} (h : Ends T n M lot p d l) (S : Nat → Prop) (hS : ∀ lot, S lot → ∀ p, M' lot p = M lot p) (hc : ∀ lot p q, S lot → M lot p = some (.part q) → S q ∧ S (lot - q)) : S lot → Ends T n M' lot p d l := by
  induction h with
  | stop h1 h2 => exact fun hs => .stop (by rw [hS _ hs]; exact h1) h2
  | way h1 h2 h3 h4 h5 ih => exact fun hs => .way (by rw [hS _ hs]; exact h1) h2 h3 h4 (ih hs)
  | part h1 h2 h3 h4 h5 i1 i2 => exact fun hs => .part (by rw [hS _ hs]; exact h1) h2 h3 (i1 (hc _ _ _ hs h1).1) (i2 (hc _ _ _ hs h1).2)
/-- a lot's places end, when its parts' places do -/
theorem ends_lot {by_ : List (Option Nat)} {lot : Nat} (hT : Within T n) (hl : lot < 64) (hB : ByOk T n by_) (hn : n ≤ 8) (hway : ∀ p i, by_[p]? = some (some i) → M lot p = some (.way i)) (hno : ∀ p, by_[p]? = some none → M lot p = none ∨ ∃ q, Part lot q ∧ M lot p = some (.part q))
    (hp : ∀ q, Part lot q → ∀ p, p < n → Ends T n M q p (8 * pc q) (8 * 2 ^ pc q - 8)) (h0 : 0 < pc lot) : ∀ p, p < n → Ends T n M lot p (8 * pc lot) (8 * 2 ^ pc lot - 8) := by
  intro p hpn
  obtain ⟨m, hm⟩ : ∃ m, pc lot = m + 1 := ⟨pc lot - 1, by omega⟩
  have key : ∀ v d, Chain T by_ v d → v < n → Ends T n M lot v (d + 1 + 8 * m) (d + (8 * 2 ^ m - 8) + (8 * 2 ^ m - 8)) := by
    intro v d c
    induction c with
    | @root v h1 =>
      intro hv
      rcases hno v h1 with h | ⟨q, P, h⟩
      · exact .stop h hv
      · obtain ⟨f1, f2, f3, f4, f5, f6, f7⟩ := P.facts hl
        have p1 : 2 ^ pc q ≤ 2 ^ m := Nat.pow_le_pow_right (by decide) (by omega)
        have p2 : 2 ^ pc (lot - q) ≤ 2 ^ m := Nat.pow_le_pow_right (by decide) (by omega)
        have g := Ends.part h hv (Nat.le_of_lt f1) ((hp q P v hv).more (d' := 8 * m) (l' := 8 * 2 ^ m - 8) (by omega) (by omega)) ((hp _ f4 v hv).more (d' := 8 * m) (l' := 8 * 2 ^ m - 8) (by omega) (by omega))
        exact g.more (by omega) (by omega)
    | @step v i d a b c h1 h2 h3 h4 ih =>
      intro hv
      have hw := hT _ (List.mem_of_getElem? h2)
      have w1 : a < b := hw.1
      have w2 : b < n := hw.2
      have g := Ends.way (hway v i h1) hv h2 h3 (ih (by omega))
      exact g.more (by omega) (by omega)
  obtain ⟨d, hd, c⟩ := hB.ch p hpn
  have g := key p d c hpn
  rw [hm]
  have : 2 ^ (m + 1) = 2 * 2 ^ m := by rw [Nat.pow_succ, Nat.mul_comm]
  have h1 : 1 ≤ 2 ^ m := Nat.one_le_two_pow
  exact g.more (by omega) (by omega)
end
end K10


set_option Elab.async false
set_option linter.all false
set_option maxRecDepth 100000
set_option maxHeartbeats 4000000
/-! The Table object in the abstract heap; promises of its methods. -/
namespace K10
open PySem L2 K10M PyProof.Rows
abbrev kL (x : Nat) : Key := .inl (x : Int)
def BestOf (H : Hp) : Option V → Option (List (Option Nat)) → Prop
  | none, none => True
  | some v, some row => ∃ ra, v = .ref ra ∧ RowAt H ra row
  | _, _ => False
def MadeOf (H : Hp) : Option V → Option How → Prop
  | none, none => True
  | some v, some (.part q) => v = nV q
  | some v, some (.way i) => ∃ w, v = .ref w ∧ H w = some (.tup [.str ("way" : Str), nV i])
  | _, _ => False
abbrev BMap := Nat → Option (List (Option Nat))
def bst (B : BMap) (q : Nat) : List (Option Nat) := (B q).getD []
structure BestH (H : Hp) (bd : Addr) (B : BMap) (cb : Nat) : Prop where
  ex : ∃ bk : List (Key × V), H bd = some (.dK bk) ∧ bk.length ≤ cb ∧ ∀ lot, BestOf H (valV bk (kL lot)) (B lot)
structure MadeH (H : Hp) (md : Addr) (M : Made) (cm : Nat) : Prop where
  ex : ∃ mk : List (List Key × V), H md = some (.dT mk) ∧ mk.length ≤ cm ∧ ∀ lot p, MadeOf H (valV mk [kL lot, kL p]) (M lot p)
structure TblH (C wb ta x : Addr) (n : Nat) (T : List Tie) (told : List Nat) (bd md : Addr) (B : BMap) (cb : Nat) (M : Made) (cm : Nat) (H : Hp) : Prop where
  ins : ∃ dx fs, H x = some (.ins C dx fs) ∧ fs.lookup ("net" : Str) = some (.ref wb) ∧ fs.lookup ("wanted" : Str) = some (.ref ta) ∧ fs.lookup ("best" : Str) = some (.ref bd) ∧ fs.lookup ("made" : Str) = some (.ref md) ∧
    fs.lookup ("merged" : Str) = none ∧ fs.lookup ("close" : Str) = none ∧ fs.lookup ("ties" : Str) = none
  web : WebAt H wb n T
  told : ToldAt H ta told
  best : BestH H bd B cb
  made : MadeH H md M cm
/-- all but bd and md stay -/
abbrev KB (bd md : Addr) (H H' : Hp) : Prop := ∀ b o, H b = some o → b ≠ bd → b ≠ md → H' b = some o
/-- all but bd, md and the tables stay -/
abbrev KBG (bd md : Addr) (H H' : Hp) : Prop := ∀ b o, H b = some o → (∀ ps, o ≠ .tbl ps) → b ≠ bd → b ≠ md → H' b = some o
section
variable {C wb ta x bd md : Addr} {n cb cm : Nat} {T : List Tie} {told : List Nat} {B : BMap} {M : Made} {H H' : Hp}
theorem BestOf.keep {H H' : Hp} {o : Option V} {r : Option (List (Option Nat))} (h : BestOf H o r) (k : ∀ b xs, H b = some (.lst xs) → H' b = some (.lst xs)) : BestOf H' o r := by
  cases o with
  | none => cases r <;> exact h
  | some v =>
    cases r with
    | none => exact h
    | some row => obtain ⟨ra, e, q⟩ := h; exact ⟨ra, e, k _ _ q⟩
theorem MadeOf.keep {H H' : Hp} {o : Option V} {r : Option How} (h : MadeOf H o r) (k : ∀ b xs, H b = some (.tup xs) → H' b = some (.tup xs)) : MadeOf H' o r := by
  cases o with
  | none => cases r <;> exact h
  | some v =>
    cases r with
    | none => exact h
    | some q =>
      cases q with
      | part q => exact h
      | way i => obtain ⟨w, e, q⟩ := h; exact ⟨w, e, k _ _ q⟩
theorem TblH.dK (h : TblH C wb ta x n T told bd md B cb M cm H) : ∃ bk, H bd = some (.dK bk) := ⟨h.best.ex.choose, h.best.ex.choose_spec.1⟩
theorem TblH.dT (h : TblH C wb ta x n T told bd md B cb M cm H) : ∃ mk, H md = some (.dT mk) := ⟨h.made.ex.choose, h.made.ex.choose_spec.1⟩
theorem TblH.ne (h : TblH C wb ta x n T told bd md B cb M cm H) : bd ≠ md := fun z => by
  obtain ⟨bk, e1⟩ := h.dK
  obtain ⟨mk, e2⟩ := h.dT
  rw [z, e2] at e1; cases e1
/-- lists, tuples and instances are neither bd nor md -/
theorem TblH.off (h : TblH C wb ta x n T told bd md B cb M cm H) {b : Addr} {o : HO} (e : H b = some o) (h1 : ∀ bk, o ≠ .dK bk) (h2 : ∀ mk, o ≠ .dT mk) : b ≠ bd ∧ b ≠ md := by
  obtain ⟨bk, e1⟩ := h.dK
  obtain ⟨mk, e2⟩ := h.dT
  exact ⟨fun z => by rw [z, e1] at e; exact h1 bk (Option.some.inj e).symm, fun z => by rw [z, e2] at e; exact h2 mk (Option.some.inj e).symm⟩
/-- everything but the two dicts is kept; the two dicts are as told -/
theorem TblH.next {B' : BMap} {cb' cm' : Nat} {M' : Made} (h : TblH C wb ta x n T told bd md B cb M cm H) (k : KBG bd md H H') (hb : BestH H' bd B' cb') (hm : MadeH H' md M' cm') : TblH C wb ta x n T told bd md B' cb' M' cm' H' := by
  have kp : ∀ b o, H b = some o → (∀ ps, o ≠ .tbl ps) → (∀ bk, o ≠ .dK bk) → (∀ mk, o ≠ .dT mk) → H' b = some o := fun b o e h0 h1 h2 => k b o e h0 (h.off e h1 h2).1 (h.off e h1 h2).2
  obtain ⟨dx, fs, i1, i2⟩ := h.ins
  exact ⟨⟨dx, fs, kp _ _ i1 (by intro _ z; cases z) (by intro _ z; cases z) (by intro _ z; cases z), i2⟩, h.web.ext fun b xs e => kp _ _ e (by intro _ z; cases z) (by intro _ z; cases z) (by intro _ z; cases z),
    kp _ _ h.told (by intro _ z; cases z) (by intro _ z; cases z) (by intro _ z; cases z), hb, hm⟩
theorem BestH.keep (h : BestH H bd B cb) {bk : List (Key × V)} (k : ∀ b xs, H b = some (.lst xs) → H' b = some (.lst xs)) (k2 : ∀ bk, H bd = some (.dK bk) → H' bd = some (.dK bk)) : BestH H' bd B cb := by
  obtain ⟨bk, h1, h2, h3⟩ := h.ex
  exact ⟨bk, k2 _ h1, h2, fun lot => (h3 lot).keep k⟩
theorem MadeH.keep (h : MadeH H md M cm) (k : ∀ b xs, H b = some (.tup xs) → H' b = some (.tup xs)) (k2 : ∀ mk, H md = some (.dT mk) → H' md = some (.dT mk)) : MadeH H' md M cm := by
  obtain ⟨bk, h1, h2, h3⟩ := h.ex
  exact ⟨bk, k2 _ h1, h2, fun lot p => (h3 lot p).keep k⟩
theorem TblH.grow (h : TblH C wb ta x n T told bd md B cb M cm H) (g : Grow H H') : TblH C wb ta x n T told bd md B cb M cm H' :=
  h.next (fun b o e n _ _ => g b o e n) (h.best.keep (bk := []) (fun b xs e => Grow.at g e) (fun bk e => Grow.at g e)) (h.made.keep (fun b xs e => Grow.at g e) (fun bk e => Grow.at g e))
theorem TblH.same (h : TblH C wb ta x n T told bd md B cb M cm H) (s : Same H H') : TblH C wb ta x n T told bd md B cb M cm H' := h.grow (Grow.of s)
/-- a list that is none of the rows is changed -/
theorem MadeH.putL (h : MadeH H md M cm) {a : Addr} {xs : List V} {o : HO} (e : H a = some (.lst xs)) : MadeH (upd H a o) md M cm :=
  h.keep (fun b ys q => by rw [upd_ne (ne_of q e (by intro z; cases z))]; exact q) (fun mk q => by rw [upd_ne (ne_of q e (by intro z; cases z))]; exact q)
/-- made[lot, p] is set -/
theorem MadeH.put (h : MadeH H md M cm) {mk : List (List Key × V)} (e : H md = some (.dT mk)) {lot p : Nat} {v : V} {w : How} (hv : MadeOf (upd H md (.dT (putK mk [kL lot, kL p] v))) (some v) (some w)) :
    MadeH (upd H md (.dT (putK mk [kL lot, kL p] v))) md (fun l q => if l = lot ∧ q = p then some w else M l q) (cm + 1) := by
  obtain ⟨mk', h1, h2, h3⟩ := h.ex
  rw [e] at h1
  cases h1
  refine ⟨_, upd_same, ?_, fun l q => ?_⟩
  · have : ∀ (c : List (List Key × V)) k x, (putK c k x).length ≤ c.length + 1 := fun c k x => by
      unfold putK
      split <;> simp
    have := this mk [kL lot, kL p] v
    omega
  · rw [valV_put]
    by_cases z : l = lot ∧ q = p
    · obtain ⟨rfl, rfl⟩ := z
      rw [if_pos rfl, if_pos ⟨rfl, rfl⟩]
      exact hv
    · rw [if_neg z, if_neg (fun k => z (by
        injection k with k1 k2
        injection k2 with k2 _
        exact ⟨by have := Sum.inl.inj k1; omega, by have := Sum.inl.inj k2; omega⟩))]
      exact (h3 l q).keep fun b ys q => by rw [upd_ne (ne_of q e (by intro z; cases z))]; exact q
/-- best[lot] is set -/
theorem BestH.put (h : BestH H bd B cb) {bk : List (Key × V)} (e : H bd = some (.dK bk)) {lot : Nat} {ra : Addr} {row : List (Option Nat)} (hv : RowAt H ra row) :
    BestH (upd H bd (.dK (putK bk (kL lot) (.ref ra)))) bd (fun l => if l = lot then some row else B l) (cb + 1) := by
  obtain ⟨mk', h1, h2, h3⟩ := h.ex
  rw [e] at h1
  cases h1
  have kp : ∀ b xs, H b = some (.lst xs) → upd H bd (.dK (putK bk (kL lot) (.ref ra))) b = some (.lst xs) := fun b xs q => by rw [upd_ne (ne_of q e (by intro z; cases z))]; exact q
  refine ⟨_, upd_same, ?_, fun l => ?_⟩
  · have : ∀ (c : List (Key × V)) k x, (putK c k x).length ≤ c.length + 1 := fun c k x => by
      unfold putK
      split <;> simp
    have := this bk (kL lot) (.ref ra)
    omega
  · rw [valV_put]
    by_cases z : l = lot
    · subst z
      rw [if_pos rfl, if_pos rfl]
      exact ⟨ra, rfl, kp _ _ hv⟩
    · rw [if_neg z, if_neg (fun k => z (by have := Sum.inl.inj k; omega))]
      exact (h3 l).keep kp
theorem BestH.get (h : BestH H bd B cb) {lot : Nat} {row : List (Option Nat)} (hb : B lot = some row) : ∃ ra, DGet H bd (nV lot) (some (.ref ra)) ∧ RowAt H ra row := by
  obtain ⟨bk, h1, _, h3⟩ := h.ex
  have := h3 lot
  rw [hb] at this
  cases e : valV bk (kL lot) with
  | none => rw [e] at this; exact this.elim
  | some v =>
    rw [e] at this
    obtain ⟨ra, rfl, q⟩ := this
    exact ⟨ra, by have := DGet.k h1 (k := kL lot); rw [e] at this; exact this, q⟩
theorem BestH.any (h : BestH H bd B cb) (lot : Nat) : ∃ o, DGet H bd (nV lot) o ∧ o.isSome = (B lot).isSome := by
  obtain ⟨bk, h1, _, h3⟩ := h.ex
  refine ⟨_, DGet.k h1 (k := kL lot), ?_⟩
  have := h3 lot
  cases e : valV bk (kL lot) <;> cases e2 : B lot <;> rw [e, e2] at this <;> first | rfl | exact this.elim
theorem MadeH.any (h : MadeH H md M cm) {w : Addr} {lot p : Nat} (hw : H w = some (.tup [nV lot, nV p])) : ∃ o, DGet H md (.ref w) o ∧ MadeOf H o (M lot p) := by
  obtain ⟨mk, h1, _, h3⟩ := h.ex
  exact ⟨_, DGet.t h1 (k := [kL lot, kL p]) hw, h3 lot p⟩
end
theorem Tab.kb {P bd md : Addr} {H H' : Hp} {bk : List (Key × V)} {mk : List (List Key × V)} (t : Tab P H) (e1 : H bd = some (.dK bk)) (e2 : H md = some (.dT mk)) (k : KB bd md H H') : Tab P H' := by
  obtain ⟨ps, h1, h2, h3⟩ := t
  refine ⟨ps, k _ _ h1 (fun z => by rw [z, e1] at h1; cases h1) (fun z => by rw [z, e2] at h1; cases h1), h2, fun pos cv hc => ?_⟩
  obtain ⟨c, q1, q2⟩ := h3 pos cv hc
  exact ⟨c, q1, k _ _ q2 (fun z => by rw [z, e1] at q2; unfold LamX.CodeO at q2; cases q2) (fun z => by rw [z, e2] at q2; unfold LamX.CodeO at q2; cases q2)⟩
/-! ### the class's facts -/
structure ClsT (K : PySem.W.Frag) (C : Addr) : Prop where
  c : Cls K C
  net : NoAttr K C "net"
  wanted : NoAttr K C "wanted"
  best : NoAttr K C "best"
  made : NoAttr K C "made"
/-- a method of the class, with its promise -/
def Method (P : Program) (w : World) (K : PySem.W.Frag) (mg : Str → Option Value) (base : Heap) (k : Nat) (C : Addr) (m : Str) (ps : List Str) (sp : Sp) : Prop :=
  ∃ (f : Addr) (fd : FuncData), FnOk P w K mg base CX0 k f fd ps sp ∧ Meth K C m f ∧ Binds K fd ps []
/-! ### promises -/
def spMerged (C : Addr) : Sp := fun vs H Q _ => ∃ (x wb ta bd md : Addr) (n : Nat) (T : List Tie) (told : List Nat) (B : BMap) (cb : Nat) (M : Made) (cm lot : Nat), vs = [.ref x, nV lot] ∧ TblH C wb ta x n T told bd md B cb M cm H ∧ WebOk n T ∧ lot < 64 ∧ 0 < lot ∧ cm ≤ 90000 ∧
  (∀ q, Part lot q → ∃ row, B q = some row ∧ row.length = n) ∧
  ∀ (fa : Addr) (row : List (Option Nat)) (M' : Made) (H' : Hp), KB bd md H H' → H fa = none → RowAt H' fa row → row.length = n → TblH C wb ta x n T told bd md B cb M' (cm + 8 * lot) H' →
    (∀ l p, l ≠ lot → M' l p = M l p) → (∀ p, M' lot p = M lot p ∨ ∃ q, Part lot q ∧ M' lot p = some (.part q)) →
    (∀ v y : Nat, row[v]? = some (some y) → ∃ q a b : Nat, Part lot q ∧ (bst B q)[v]? = some (some a) ∧ (bst B (lot - q))[v]? = some (some b) ∧ y = a + b) →
    (∀ q v a b : Nat, Part lot q → (bst B q)[v]? = some (some a) → (bst B (lot - q))[v]? = some (some b) → ∃ y, row[v]? = some (some y) ∧ y ≤ a + b) → Q (.ref fa) H'
def spClose (C Pt : Addr) : Sp := fun vs H Q _ => ∃ (x wb ta bd md s : Addr) (n : Nat) (T : List Tie) (told : List Nat) (B : BMap) (cb : Nat) (M : Made) (cm lot : Nat) (start : List (Option Nat)), vs = [.ref x, nV lot, .ref s] ∧ TblH C wb ta x n T told bd md B cb M cm H ∧ WebOk n T ∧
  RowAt H s start ∧ start.length = n ∧ Tab Pt H ∧ cb ≤ 1000 ∧ cm ≤ 90000 ∧
  ∀ (row by_ : List (Option Nat)) (M' : Made) (H' : Hp), KBG bd md H H' → Tab Pt H' → TblH C wb ta x n T told bd md (fun l => if l = lot then some row else B l) (cb + 1) M' (cm + 8) H' → Settle T n start row → ByOk T n by_ →
    (∀ l p, l ≠ lot → M' l p = M l p) → (∀ p i : Nat, by_[p]? = some (some i) → M' lot p = some (.way i)) → (∀ p : Nat, by_[p]? = some none → M' lot p = M lot p) → Q .non H'
/-- all lots are told -/
structure TblOk (T : List Tie) (n : Nat) (told : List Nat) (B : BMap) (M : Made) : Prop where
  lots : ∀ lot, lot ≠ 0 → lot < 2 ^ told.length → (∃ row, B lot = some row) ∧ LotOk T n told (bst B) lot
  ends : ∀ lot p, lot ≠ 0 → lot < 2 ^ told.length → p < n → Ends T n M lot p 48 504
def spInit (C Pt : Addr) : Sp := fun vs H Q _ => ∃ (x wb ta dx : Addr) (n : Nat) (T : List Tie) (told : List Nat), vs = [.ref x, .ref wb, .ref ta] ∧ H x = some (.ins C dx []) ∧ WebAt H wb n T ∧ WebOk n T ∧ ToldAt H ta told ∧ ToldOk n told ∧ Tab Pt H ∧
  ∀ (bd md : Addr) (B : BMap) (M : Made) (cb cm : Nat) (H' : Hp), (∀ b o, H b = some o → (∀ ps, o ≠ .tbl ps) → b ≠ x → H' b = some o) → Tab Pt H' → TblH C wb ta x n T told bd md B cb M cm H' → TblOk T n told B M → Q .non H'
def spTies (C : Addr) (d : Nat) : Sp := fun vs H Q _ => ∃ (x wb ta bd md : Addr) (n : Nat) (T : List Tie) (told : List Nat) (B : BMap) (cb : Nat) (M : Made) (cm lot p l : Nat), vs = [.ref x, nV lot, nV p] ∧ TblH C wb ta x n T told bd md B cb M cm H ∧ WebOk n T ∧ Ends T n M lot p d l ∧ l ≤ 1000 ∧
  ∀ (r : Addr) (is : List Nat) (H' : Hp), Same H H' → H' r = some (.lst (is.map nV)) → is.length ≤ l → (∀ i ∈ is, i < 30) → Q (.ref r) H'
end K10


set_option Elab.async false
set_option linter.all false
set_option maxRecDepth 100000
set_option maxHeartbeats 4000000
namespace K10
open PySem L2 K10M PyProof.Rows
section
variable {K : PySem.W.Frag} {C wb ta x bd md : Addr} {n cb cm : Nat} {T : List Tie} {told : List Nat} {B : BMap} {M : Made} {H : Hp} {Q : V → Prop}
theorem fldN (cl : ClsT K C) (h : TblH C wb ta x n T told bd md B cb M cm H) (q : Q (.ref wb)) : ∃ a C dx fs v, V.ref x = .ref a ∧ H a = some (.ins C dx fs) ∧ Cls K C ∧ NoAttr K C "net" ∧ fs.lookup ("net" : Str) = some v ∧ Q v := by
  obtain ⟨dx, fs, i0, i1, i2, i3, i4, _⟩ := h.ins
  exact ⟨x, C, dx, fs, _, rfl, i0, cl.c, cl.net, i1, q⟩
theorem fldB (cl : ClsT K C) (h : TblH C wb ta x n T told bd md B cb M cm H) (q : Q (.ref bd)) : ∃ a C dx fs v, V.ref x = .ref a ∧ H a = some (.ins C dx fs) ∧ Cls K C ∧ NoAttr K C "best" ∧ fs.lookup ("best" : Str) = some v ∧ Q v := by
  obtain ⟨dx, fs, i0, i1, i2, i3, i4, _⟩ := h.ins
  exact ⟨x, C, dx, fs, _, rfl, i0, cl.c, cl.best, i3, q⟩
theorem fldM (cl : ClsT K C) (h : TblH C wb ta x n T told bd md B cb M cm H) (q : Q (.ref md)) : ∃ a C dx fs v, V.ref x = .ref a ∧ H a = some (.ins C dx fs) ∧ Cls K C ∧ NoAttr K C "made" ∧ fs.lookup ("made" : Str) = some v ∧ Q v := by
  obtain ⟨dx, fs, i0, i1, i2, i3, i4, _⟩ := h.ins
  exact ⟨x, C, dx, fs, _, rfl, i0, cl.c, cl.made, i4, q⟩
theorem TblH.w0 (h : TblH C wb ta x n T told bd md B cb M cm H) : ∃ pt : V, H wb = some (.tup [nV n, pt]) := by
  obtain ⟨pt, ps, hw, _⟩ := h.web.ex
  exact ⟨_, hw⟩
theorem MadeH.le (h : MadeH H md M cm) {c : Nat} (hc : cm ≤ c) : MadeH H md M c := let ⟨k, a, b, d⟩ := h.ex; ⟨k, a, by omega, d⟩
theorem TblH.le {c : Nat} (h : TblH C wb ta x n T told bd md B cb M cm H) (hc : cm ≤ c) : TblH C wb ta x n T told bd md B cb M c H := ⟨h.ins, h.web, h.told, h.best, h.made.le hc⟩
end
section
variable {P : Program} {w : World} {K : PySem.W.Frag} {mg : Str → Option Value} {base : Heap}
abbrev nClo : List Str := ["self", "lot", "start", "told", "by", "place"]
theorem scClo : FnScope nClo ["self", "lot", "start"] (defScope sClose) := ⟨rfl, rfl, rfl, by decide +kernel, rfl, by decide +kernel, by decide +kernel⟩
theorem ok_close {f C Pt : Addr} {fd : FuncData} (F : Fun K "close" "Table.close" sClose f fd) (T : Txt mg) (cl : ClsT K C) (C2 : Callee P w K mg base 2 "spread" ["web", "start"] (spSpread Pt)) : FnOk P w K mg base CX0 3 f fd ["self", "lot", "start"] (spClose C Pt) := by
  refine F.ok scClo (fun vs H Q E h => ?_) (fun cdv A outer s H vs Q E hr h => ?_)
  · obtain ⟨x, wb, ta, bd, md, st, n, Ti, told, B, cb, M, cm, lot, start, rfl, _⟩ := h; rfl
  · obtain ⟨x, wb, ta, bd, md, st, n, Ti, told, B, cb, M, cm, lot, start, rfl, hT, hO, hst, hsl, hTab, hcb, hcm, q⟩ := h
    have hu := hu_of hr
    have hn8 := hO.n8
    refine ⟨_, (pss_cons (ps_asg (pe_c C2 hr (by decide) (by rfl) (pa_cons (pe_fld (pv 0) rfl) (pa_cons (pv 2) pa_nil))) (pg_tup rfl (pgs_cons (pg_name (i := 3) scClo.nd rfl (.inl rfl)) (pgs_cons (pg_name (i := 4) scClo.nd rfl (.inl rfl)) pgs_nil))))
      (pss_cons (ps_dput hu (pe_fld (pv 0) rfl) (pv 1) (pv 3) rfl)
      (pss_one (ps_for PassesOwn.never rfl (pi_range1 (by rfl) T.range (pa_cons (pe_ix ix_tup (pe_fld (pv 0) rfl) pe_int (fun _ _ => rfl)) pa_nil)) (pg_name (i := 5) scClo.nd rfl (.inl rfl)) (pss_one (ps_if (pt_cmpR op_notN (pe_ix ix_list (pv 4) (pv 5) (fun _ _ => rfl)) pe_non (nomark _)) (pss_one (ps_dput hu (pe_fld (pv 0) rfl) (pe_tup (pa_cons (pv 1) (pa_cons (pv 5) pa_nil))) (pe_tup (pa_cons pe_str (pa_cons (pe_ix ix_list (pv 4) (pv 5) (fun _ _ => rfl)) pa_nil))) rfl)) pss_nil)))))), ?_⟩
    refine ⟨_, rfl, fldN cl hT ?_⟩
    refine ⟨_, rfl, wb, st, n, Ti, start, rfl, hT.web, hO, hst, hsl, hTab, fun r ra ba row by_ H1 _ g1 t1 hr1 hra hba hS hB => ?_⟩
    refine ⟨r, _, rfl, SqT.of hr1, rfl, _, _, rfl, _, _, rfl, rfl, ?_⟩
    have hT1 := hT.grow g1
    obtain ⟨bk, hbk⟩ := hT1.dK
    obtain ⟨_, hbl⟩ : ∃ bk, H1 bd = some (.dK bk) ∧ bk.length ≤ cb := let ⟨bk, a, b, _⟩ := hT1.best.ex; ⟨bk, a, b⟩
    have hbl : bk.length ≤ cb := by rw [hbl.1] at hbk; cases hbk; exact hbl.2
    refine ⟨_, rfl, ?_⟩
    refine ⟨_, rfl, fldB cl hT1 ?_⟩
    refine ⟨_, rfl, bd, _, rfl, DPut.k (k := kL lot) hbk (sz (by omega)), ?_⟩
    have B2 := hT1.best.put hbk (lot := lot) hra
    have nb : ∀ b xs, H1 b = some (.lst xs) → upd H1 bd (.dK (putK bk (kL lot) (.ref ra))) b = some (.lst xs) := fun b xs q => by rw [upd_ne (ne_of q hbk (by intro z; cases z))]; exact q
    have nt : ∀ b xs, H1 b = some (.tup xs) → upd H1 bd (.dK (putK bk (kL lot) (.ref ra))) b = some (.tup xs) := fun b xs q => by rw [upd_ne (ne_of q hbk (by intro z; cases z))]; exact q
    have hT2 : TblH C wb ta x n Ti told bd md (fun l => if l = lot then some row else B l) (cb + 1) M cm (upd H1 bd (.dK (putK bk (kL lot) (.ref ra)))) :=
      hT1.next (fun b o e _ k1 _ => by rw [upd_ne k1]; exact e) B2 (hT1.made.keep nt fun mk e => by rw [upd_ne (Ne.symm hT1.ne)]; exact e)
    have t2 : Tab Pt (upd H1 bd (.dK (putK bk (kL lot) (.ref ra)))) := t1.putK hbk
    have k2 : KBG bd md H (upd H1 bd (.dK (putK bk (kL lot) (.ref ra)))) := fun b o e n k1 k2 => by rw [upd_ne k1]; exact g1 b o e n
    have hba2 := nb _ _ hba
    generalize upd H1 bd (.dK (putK bk (kL lot) (.ref ra))) = H2 at hT2 t2 k2 hba2 ⊢
    obtain ⟨wv, hw2⟩ := hT2.w0
    refine ⟨_, rfl, fldN cl hT2 ?_⟩
    refine ⟨wb, _, _, _, rfl, rfl, SqT.of hw2, atI_nat (j := 0) rfl, n, rfl, by omega, by omega, for_range (fun i σ H' => ∃ M' v, σ = [some (.ref x), some (nV lot), some (.ref st), some (.ref ra), some (.ref ba), v] ∧ KBG bd md H H' ∧ Tab Pt H' ∧ RowAt H' ba by_ ∧ TblH C wb ta x n Ti told bd md (fun l => if l = lot then some row else B l) (cb + 1) M' (cm + i) H' ∧
      (∀ l p, l ≠ lot ∨ i ≤ p → M' l p = M l p) ∧ (∀ p i' : Nat, p < i → by_[p]? = some (some i') → M' lot p = some (.way i')) ∧ (∀ p : Nat, by_[p]? = some none → M' lot p = M lot p)) ⟨M, _, rfl, k2, t2, hba2, hT2, (fun _ _ _ => rfl), (fun p _ h => absurd h (Nat.not_lt_zero _)), fun _ _ => rfl⟩ ?_ ?_⟩
    · rintro i σ H3 hi ⟨M', v, rfl, k3, t3, hba3, hT3, m1, m2, m3⟩
      have hin : i < n := by simpa using hi
      obtain ⟨old, hold⟩ : ∃ z, by_[i]? = some z := ⟨by_[i]'(by rw [hB.len]; exact hin), List.getElem?_eq_getElem _⟩
      refine ⟨_, rfl, _, rfl, ba, _, _, _, rfl, rfl, SqL.of hba3, at_of (j := i) (by omega) (by rw [List.getElem?_map, hold]; rfl), rfl, _, rfl, ?_⟩
      cases old with
      | none =>
        refine iteN rfl ⟨M', _, rfl, k3, t3, hba3, hT3.le (by omega), fun l p h => m1 l p (by omega), fun p i' hp h => ?_, m3⟩
        · by_cases e : p = i
          · subst e; rw [hold] at h; cases h
          · exact m2 p i' (by omega) h
      | some xi =>
        refine iteNF (fun z => by cases z) ?_
        refine ⟨_, rfl, _, rfl, ba, _, _, _, rfl, rfl, SqL.of hba3, at_of (j := i) (by omega) (by rw [List.getElem?_map, hold]; rfl), szl (by simp), fun wv nwv => ?_⟩
        have s1 := same_upd (o := HO.tup [V.str ("way" : Str), oV (some xi)]) nwv
        have hT4 := hT3.same s1
        refine ⟨_, rfl, fldM cl hT4 ?_⟩
        refine ⟨_, rfl, _, rfl, szl (by simp), fun kp nkp => ?_⟩
        have s2 := same_upd (o := HO.tup [nV lot, V.int (0 + (i : Int))]) nkp
        have hT5 := hT4.same s2
        have s12 := s1.trans s2
        have hway := s2 _ _ (upd_same (H := H3) (a := wv) (o := HO.tup [V.str ("way" : Str), oV (some xi)]))
        have hkey : upd (upd H3 wv (.tup [V.str ("way" : Str), oV (some xi)])) kp (.tup [nV lot, V.int (0 + (i : Int))]) kp = some (.tup ([kL lot, kL i].map kV)) := by
          rw [upd_same, Int.zero_add]; rfl
        have k5 : KBG bd md H (upd (upd H3 wv (.tup [V.str ("way" : Str), oV (some xi)])) kp (.tup [nV lot, V.int (0 + (i : Int))])) := fun b o e n q1 q2 => s12 _ _ (k3 b o e n q1 q2)
        have t5 := t3.same s12
        have hba5 := s12 _ _ hba3
        generalize upd (upd H3 wv (.tup [V.str ("way" : Str), oV (some xi)])) kp (.tup [nV lot, V.int (0 + (i : Int))]) = H5 at hT5 hway hkey k5 t5 hba5 ⊢
        obtain ⟨mk, hmk, hml, hmo⟩ := hT5.made.ex
        refine ⟨md, _, rfl, DPut.t (k := [kL lot, kL i]) hmk hkey (sz (by omega)), ?_⟩
        have nm : ∀ b xs, H5 b = some (.lst xs) → upd H5 md (.dT (putK mk [kL lot, kL i] (.ref wv))) b = some (.lst xs) := fun b xs q => by rw [upd_ne (ne_of q hmk (by intro z; cases z))]; exact q
        have M5 := hT5.made.put hmk (lot := lot) (p := i) (v := .ref wv) (w := .way xi) ⟨wv, rfl, by rw [upd_ne (ne_of hway hmk (by intro z; cases z))]; exact hway⟩
        refine ⟨_, _, rfl, fun b o e n q1 q2 => by rw [upd_ne q2]; exact k5 b o e n q1 q2, t5.putD hmk, nm _ _ hba5,
          hT5.next (fun b o e _ _ q2 => by rw [upd_ne q2]; exact e) (hT5.best.keep (bk := []) nm fun bk e => by rw [upd_ne hT5.ne]; exact e) M5, fun l p h => ?_, fun p i' hp h => ?_, fun p h => ?_⟩
        · rw [if_neg (by omega)]; exact m1 l p (by omega)
        · by_cases e : p = i
          · subst e
            rw [hold] at h
            cases h
            rw [if_pos ⟨rfl, rfl⟩]
          · rw [if_neg (fun z => e z.2)]; exact m2 p i' (by omega) h
        · rw [if_neg (fun z => by rw [z.2, hold] at h; cases h)]; exact m3 p h
    · rintro σ H3 ⟨M', v, rfl, k3, t3, hba3, hT3, m1, m2, m3⟩
      have hn : ((n : Int)).toNat = n := by omega
      rw [hn] at m2 hT3
      refine q row by_ M' H3 k3 t3 (hT3.le (by omega)) hS hB (fun l p h => m1 l p (.inl h)) (fun p i h => m2 p i ?_ h) m3
      · have := (List.getElem?_eq_some_iff.mp h).1
        rw [hB.len] at this; exact this
end
end K10


set_option Elab.async false
set_option linter.all false
set_option maxRecDepth 100000
set_option maxHeartbeats 4000000
namespace K10
open PySem L2 K10M PyProof.Rows
theorem band (a b : Nat) : Builtin.bitAnd (a : Int) (b : Int) = ((a &&& b : Nat) : Int) := by
  unfold Builtin.bitAnd
  rw [decide_eq_true (show (0 : Int) ≤ a by omega), decide_eq_true (show (0 : Int) ≤ b by omega)]
  show (((a : Int).toNat &&& (b : Int).toNat : Nat) : Int) = _
  rw [Int.toNat_natCast, Int.toNat_natCast]
theorem op_andN {X : Cx} : OpR X (binaryOp .BitAnd) (fun x y H Q => ∃ (i j : Int) (a b : Nat), x = .int i ∧ y = .int j ∧ i = (a : Int) ∧ j = (b : Int) ∧ Q (nV (a &&& b)) H) := by
  intro pins s σ H x y v u Q I rx ry h
  obtain ⟨i, j, a, b, rfl, rfl, rfl, rfl, q⟩ := h
  exact op_and pins s σ H _ _ v u Q I rx ry ⟨_, _, rfl, rfl, show Q (.int (Builtin.bitAnd (a : Int) (b : Int))) H by rw [band]; exact q⟩
/-- what merged has found -/
structure MgI (B : BMap) (lot n : Nat) (seen : Nat → Nat → Prop) (row : List (Option Nat)) : Prop where
  len : row.length = n
  att : ∀ v y : Nat, row[v]? = some (some y) → ∃ q a b : Nat, Part lot q ∧ (bst B q)[v]? = some (some a) ∧ (bst B (lot - q))[v]? = some (some b) ∧ y = a + b
  opt : ∀ q v a b : Nat, Part lot q → seen q v → (bst B q)[v]? = some (some a) → (bst B (lot - q))[v]? = some (some b) → ∃ y, row[v]? = some (some y) ∧ y ≤ a + b
theorem MgI.mono {B : BMap} {lot n : Nat} {seen seen' : Nat → Nat → Prop} {row : List (Option Nat)} (h : MgI B lot n seen row) (k : ∀ q v, Part lot q → v < n → seen' q v → seen q v) (hB : ∀ q, Part lot q → (bst B q).length = n) : MgI B lot n seen' row :=
  ⟨h.len, h.att, fun q v a b p s h1 h2 => h.opt q v a b p (k q v p (by have := (List.getElem?_eq_some_iff.mp h1).1; rw [hB q p] at this; exact this) s) h1 h2⟩
theorem MgI.step {B : BMap} {lot n : Nat} {seen : Nat → Nat → Prop} {row : List (Option Nat)} (h : MgI B lot n seen row) {part i a b : Nat} (hi : i < n) (P : Part lot part) (ha : (bst B part)[i]? = some (some a)) (hb : (bst B (lot - part))[i]? = some (some b)) (hlt : ∀ z, row[i]? = some (some z) → a + b < z) :
    MgI B lot n (fun q v => seen q v ∨ (q = part ∧ v = i)) (row.set i (some (a + b))) := by
  have li : i < row.length := by rw [h.len]; exact hi
  refine ⟨by rw [List.length_set]; exact h.len, fun v y e => ?_, fun q v a' b' p s h1 h2 => ?_⟩
  · rcases get_set li e with ⟨rfl, k⟩ | ⟨_, k⟩
    · exact ⟨part, a, b, P, ha, hb, Option.some.inj k⟩
    · exact h.att v y k
  · by_cases z : v = i
    · subst z
      refine ⟨_, List.getElem?_set_self li, ?_⟩
      rcases s with s | ⟨rfl, _⟩
      · obtain ⟨y, k1, k2⟩ := h.opt q v a' b' p s h1 h2
        have := hlt y k1
        omega
      · rw [ha] at h1
        rw [hb] at h2
        cases h1; cases h2
        exact Nat.le_refl _
    · rw [List.getElem?_set_ne (Ne.symm z)]
      rcases s with s | ⟨_, s⟩
      · exact h.opt q v a' b' p s h1 h2
      · exact absurd s z
theorem MgI.skip {B : BMap} {lot n : Nat} {seen : Nat → Nat → Prop} {row : List (Option Nat)} (h : MgI B lot n seen row) {part i : Nat} (hz : ∀ a b, (bst B part)[i]? = some (some a) → (bst B (lot - part))[i]? = some (some b) → ∃ z, row[i]? = some (some z) ∧ z ≤ a + b) :
    MgI B lot n (fun q v => seen q v ∨ (q = part ∧ v = i)) row := by
  refine ⟨h.len, h.att, fun q v a' b' p s h1 h2 => ?_⟩
  rcases s with s | ⟨rfl, rfl⟩
  · exact h.opt q v a' b' p s h1 h2
  · exact hz a' b' h1 h2
theorem BestH.get2 {H : Hp} {bd : Addr} {B : BMap} {cb lot : Nat} {row : List (Option Nat)} (h : BestH H bd B cb) (hb : B lot = some row) : ∃ ra, RowAt H ra row ∧ ∀ H' : Hp, (∀ bk, H bd = some (.dK bk) → H' bd = some (.dK bk)) → DGet H' bd (nV lot) (some (.ref ra)) := by
  obtain ⟨bk, h1, _, h3⟩ := h.ex
  have := h3 lot
  rw [hb] at this
  cases e : valV bk (kL lot) with
  | none => rw [e] at this; exact this.elim
  | some v =>
    rw [e] at this
    obtain ⟨ra, rfl, q⟩ := this
    exact ⟨ra, q, fun H' k => by have := DGet.k (k := kL lot) (k bk h1); rw [e] at this; exact this⟩
theorem or_fnd {K : PySem.W.Frag} {v0 v1 v3 v4 v5 : Option V} {fa : Addr} {i w : Nat} {i' w' : Int} {row : List (Option Nat)} {H : Hp} {Q : Bool → Hp → Prop} (hi' : i' = (i : Int)) (hw' : w' = (w : Int)) (ht : H fa = some (.lst (row.map oV))) (hi : i < row.length)
    (h1 : (∀ z, row[i]? = some (some z) → w < z) → Q true H) (h2 : ∀ z, row[i]? = some (some z) → z ≤ w → Q false H) :
    tOr (tTest (tOp (fun x y H Q => y = V.non ∧ Q (V.bl (decide (x = V.non))) H) (tOp (rIxL K) (tVar 2) (tVar 6)) (tC V.non)))
      (tTest (tOp (rI0 fun i j => V.bl (decide (i < j))) (tVar 7) (tOp (rIxL K) (tVar 2) (tVar 6))))
      [v0, v1, some (.ref fa), v3, v4, v5, some (.int i'), some (.int w')] H Q := by
  subst hi' hw'
  obtain ⟨old, hold⟩ : ∃ z, row[i]? = some z := ⟨row[i], List.getElem?_eq_getElem hi⟩
  refine ⟨_, rfl, _, rfl, fa, _, _, _, rfl, rfl, SqL.of ht, at_row hold, rfl, _, rfl, ?_⟩
  cases old with
  | none => exact iteD (by rfl) (h1 fun z e => by rw [hold] at e; cases e)
  | some z =>
    refine iteDF (fun e => by cases e) ⟨_, rfl, _, rfl, _, rfl, fa, _, _, _, rfl, rfl, SqL.of ht, at_row hold, _, _, rfl, rfl, _, rfl, ?_⟩
    by_cases hlt : w < z
    · rw [decide_eq_true (by omega)]
      exact h1 fun z' e => by rw [hold] at e; cases e; exact hlt
    · rw [decide_eq_false (by omega)]
      exact h2 z hold (by omega)
section
variable {P : Program} {w : World} {K : PySem.W.Frag} {mg : Str → Option Value} {base : Heap}
abbrev nMer : List Str := ["self", "lot", "found", "part", "one", "other", "place", "whole"]
theorem scMer : FnScope nMer ["self", "lot"] (defScope sMerged) := ⟨rfl, rfl, rfl, by decide +kernel, rfl, by decide +kernel, by decide +kernel⟩
theorem ok_merged {f C : Addr} {fd : FuncData} (F : Fun K "merged" "Table.merged" sMerged f fd) (T : Txt mg) (cl : ClsT K C) : FnOk P w K mg base CX0 1 f fd ["self", "lot"] (spMerged C) := by
  refine F.ok scMer (fun vs H Q E h => ?_) (fun cdv A outer s H vs Q E hr h => ?_)
  · obtain ⟨x, wb, ta, bd, md, n, Ti, told, B, cb, M, cm, lot, rfl, _⟩ := h; rfl
  · obtain ⟨x, wb, ta, bd, md, n, Ti, told, B, cb, M, cm, lot, rfl, hT, hO, hl64, hl0, hcm, hBq, q⟩ := h
    have hu := hu_of hr
    have hn8 := hO.n8
    have hBl : ∀ q, Part lot q → (bst B q).length = n := fun q p => by
      obtain ⟨row, h1, h2⟩ := hBq q p
      unfold bst
      rw [h1]; exact h2
    refine ⟨_, (pss_cons (ps_set (i := 2) scMer.nd rfl (.inl rfl) (pe_op op_rep (pe_lst (pa_cons pe_non pa_nil)) (pe_ix ix_tup (pe_fld (pv 0) rfl) pe_int (fun _ _ => rfl))))
      (pss_cons (ps_set (i := 3) scMer.nd rfl (.inl rfl) (pe_op op_andN (pe_op op_sub (pv 1) pe_int) (pv 1)))
      (pss_cons (ps_while PassesOwn.never (pt_cmpR op_gt (pv 3) pe_int (nomark _)) (pss_cons (ps_par (i := 4) (j := 5) rfl scMer.nd rfl rfl (by decide) rfl rfl (pa_cons (pe_dget hu (pe_fld (pv 0) rfl) (pv 3) (fun _ _ => rfl)) (pa_cons (pe_dget hu (pe_fld (pv 0) rfl) (pe_op op_sub (pv 1) (pv 3)) (fun _ _ => rfl)) pa_nil)) (by rfl))
      (pss_cons (ps_for PassesOwn.never rfl (pi_range1 (by rfl) T.range (pa_cons (pe_ix ix_tup (pe_fld (pv 0) rfl) pe_int (fun _ _ => rfl)) pa_nil)) (pg_name (i := 6) scMer.nd rfl (.inl rfl)) (pss_one (ps_if (PW.pt (pw_and (pt_cmpR op_notN (pe_ix ix_list (pv 4) (pv 6) (fun _ _ => rfl)) pe_non (nomark _)) (pw_and1 (pt_cmpR op_notN (pe_ix ix_list (pv 5) (pv 6) (fun _ _ => rfl)) pe_non (nomark _))))) (pss_cons (ps_set (i := 7) scMer.nd rfl (.inl rfl) (pe_op op_add (pe_ix ix_list (pv 4) (pv 6) (fun _ _ => rfl)) (pe_ix ix_list (pv 5) (pv 6) (fun _ _ => rfl))))
      (pss_one (ps_if (PW.pt (pw_or (pt_cmpR op_isN (pe_ix ix_list (pv 2) (pv 6) (fun _ _ => rfl)) pe_non (nomark _)) (pw_or1 (pt_cmpR op_lt (pv 7) (pe_ix ix_list (pv 2) (pv 6) (fun _ _ => rfl)) (nomark _))))) (pss_cons (ps_asg (pv 7) (pg_sub (pv 2) (pv 6) set_list))
      (pss_one (ps_dput hu (pe_fld (pv 0) rfl) (pe_tup (pa_cons (pv 1) (pa_cons (pv 6) pa_nil))) (pv 3) rfl))) pss_nil))) pss_nil)))
      (pss_one (ps_set (i := 3) scMer.nd rfl (.inl rfl) (pe_op op_andN (pe_op op_sub (pv 3) pe_int) (pv 1)))))))
      (pss_one (ps_ret (pv 2)))))), ?_⟩
    refine ⟨szl (by simp), fun p np => ?_⟩
    have hT1 := hT.same (same_upd (o := .lst [V.non]) np)
    obtain ⟨wv, hw1⟩ := hT1.w0
    refine ⟨_, rfl, fldN cl hT1 ?_⟩
    refine ⟨wb, _, _, _, rfl, rfl, SqT.of hw1, atI_nat (j := 0) rfl, p, n, [V.non], rfl, rfl, upd_same, by omega, by omega, szl (by simp; omega), fun fa nfa => ?_⟩
    have nfa0 : H fa = none := (same_upd (o := .lst [V.non]) np).free nfa
    have s2 := (same_upd (o := .lst [V.non]) np).trans (same_upd (o := .lst (List.replicate ((n : Nat) : Int).toNat [V.non]).flatten) nfa)
    have hfa : upd (upd H p (.lst [V.non])) fa (.lst (List.replicate ((n : Nat) : Int).toNat [V.non]).flatten) fa = some (.lst ((List.replicate n (none : Option Nat)).map oV)) := by
      rw [upd_same, Int.toNat_natCast, List.flatten_replicate_singleton, List.map_replicate]; rfl
    have k2 : ∀ b o, H b = some o → b ≠ md → upd (upd H p (.lst [V.non])) fa (.lst (List.replicate ((n : Nat) : Int).toNat [V.non]).flatten) b = some o := fun b o e _ => s2 _ _ e
    have hM2 : MadeH (upd (upd H p (.lst [V.non])) fa (.lst (List.replicate ((n : Nat) : Int).toNat [V.non]).flatten)) md M cm := hT.made.keep (fun b xs e => s2 _ _ e) (fun mk e => s2 _ _ e)
    generalize upd (upd H p (.lst [V.non])) fa (.lst (List.replicate ((n : Nat) : Int).toNat [V.non]).flatten) = H2 at hfa k2 hM2 ⊢
    -- what stands as long as only made and the found list change
    have tbl : ∀ {H' : Hp} {M' : Made} {c : Nat}, (∀ b o, H b = some o → b ≠ md → H' b = some o) → MadeH H' md M' c → TblH C wb ta x n Ti told bd md B cb M' c H' := fun {H' M' c} k m =>
      hT.next (fun b o e _ _ q2 => k b o e q2) (hT.best.keep (bk := []) (fun b xs e => k _ _ e (hT.off e (by intro _ z; cases z) (by intro _ z; cases z)).2) (fun bk e => k _ _ e hT.ne)) m
    have nfm : fa ≠ md := fun z => by
      obtain ⟨mk, e⟩ := hT.dT
      rw [z, e] at nfa0; cases nfa0
    have elot : ((lot : Int) - 1) = ((lot - 1 : Nat) : Int) := by omega
    have selfsub : lot &&& lot = lot := Nat.and_self lot
    obtain ⟨p1, p2, p3⟩ := next_part hl64 selfsub hl0
    refine ⟨_, rfl, _, _, rfl, rfl, _, rfl, _, _, _, _, rfl, rfl, elot, rfl, ?_⟩
    refine ⟨fun m σ H' => ∃ M' row part v4 v5 v6 v7, σ = [some (.ref x), some (nV lot), some (.ref fa), some (nV part), v4, v5, v6, v7] ∧ (∀ b o, H b = some o → b ≠ md → H' b = some o) ∧ H' fa = some (.lst (row.map oV)) ∧ MadeH H' md M' (cm + 8 * (lot - part)) ∧
      part &&& lot = part ∧ part < lot ∧ MgI B lot n (fun q _ => part < q) row ∧ (∀ l p, l ≠ lot → M' l p = M l p) ∧ (∀ p, M' lot p = M lot p ∨ ∃ q, Part lot q ∧ M' lot p = some (.part q)) ∧ m = part,
      ⟨_, M, _, _, _, _, _, _, rfl, k2, hfa, hM2.le (by omega), p1, p2, ⟨by simp, fun v y e => ?_, fun q v a b P s => ?_⟩, fun _ _ _ => rfl, fun _ => .inl rfl, rfl⟩, ?_⟩
    · rw [List.getElem?_replicate] at e
      split at e <;> cases e
    · have := p3 q P.sub (P.facts hl64).1
      exact absurd s (by omega)
    rintro m σ H3 ⟨M', row, part, v4, v5, v6, v7, rfl, k3, hfa3, hM3, b1, b2, G, m1, m2, rfl⟩
    refine ⟨_, rfl, _, _, rfl, rfl, _, rfl, ?_⟩
    by_cases h0 : 0 < m
    · have P : Part lot m := ⟨h0, b1, by omega⟩
      obtain ⟨f1, f2, f3, f4, f5, f6, f7⟩ := P.facts hl64
      obtain ⟨n1, n2, n3⟩ := next_part hl64 b1 h0
      obtain ⟨ra, ea, la⟩ := hBq m P
      obtain ⟨rb, eb, lb⟩ := hBq (lot - m) f4
      have ba : bst B m = ra := by unfold bst; rw [ea]; rfl
      have bb : bst B (lot - m) = rb := by unfold bst; rw [eb]; rfl
      have hT3 := tbl k3 hM3
      obtain ⟨aa, raH, ga⟩ := hT.best.get2 ea
      obtain ⟨ab, rbH, gb⟩ := hT.best.get2 eb
      have gaN : ∀ {H' : Hp}, (∀ b o, H b = some o → b ≠ md → H' b = some o) → RowAt H' aa ra ∧ RowAt H' ab rb := fun k =>
        ⟨k _ _ raH (hT.off raH (by intro _ z; cases z) (by intro _ z; cases z)).2, k _ _ rbH (hT.off rbH (by intro _ z; cases z) (by intro _ z; cases z)).2⟩
      have esub : ((lot : Int) - (m : Int)) = ((lot - m : Nat) : Int) := by omega
      have gb' : DGet H3 bd (.int ((lot : Int) - (m : Int))) (some (.ref ab)) := by rw [esub]; exact gb H3 (fun bk e => k3 _ _ e hT.ne)
      refine iteD (show (0 : Int) < (m : Int) by omega) ⟨fun σ' H' => ∃ m', m' < m ∧ ∃ M' row part v4 v5 v6 v7, σ' = [some (.ref x), some (nV lot), some (.ref fa), some (nV part), v4, v5, v6, v7] ∧ (∀ b o, H b = some o → b ≠ md → H' b = some o) ∧ H' fa = some (.lst (row.map oV)) ∧ MadeH H' md M' (cm + 8 * (lot - part)) ∧
        part &&& lot = part ∧ part < lot ∧ MgI B lot n (fun q _ => part < q) row ∧ (∀ l p, l ≠ lot → M' l p = M l p) ∧ (∀ p, M' lot p = M lot p ∨ ∃ q, Part lot q ∧ M' lot p = some (.part q)) ∧ m' = part, fun _ _ h => h, ?_⟩
      refine ⟨_, rfl, fldB cl hT3 ?_⟩
      refine ⟨_, rfl, bd, _, rfl, ga H3 (fun bk e => k3 _ _ e hT.ne), ?_⟩
      refine ⟨_, rfl, fldB cl hT3 ?_⟩
      refine ⟨_, rfl, _, rfl, _, _, rfl, rfl, bd, _, rfl, gb', _, _, rfl, ?_⟩
      obtain ⟨wv3, hw3⟩ := hT3.w0
      refine ⟨_, rfl, fldN cl hT3 ?_⟩
      refine ⟨wb, _, _, _, rfl, rfl, SqT.of hw3, atI_nat (j := 0) rfl, n, rfl, by omega, by omega, for_range (fun i σ H' => ∃ M' row v6 v7, σ = [some (.ref x), some (nV lot), some (.ref fa), some (nV m), some (.ref aa), some (.ref ab), v6, v7] ∧ (∀ b o, H b = some o → b ≠ md → H' b = some o) ∧ H' fa = some (.lst (row.map oV)) ∧ MadeH H' md M' (cm + 8 * (lot - m) + i) ∧
        MgI B lot n (fun q v => m < q ∨ (q = m ∧ v < i)) row ∧ (∀ l p, l ≠ lot → M' l p = M l p) ∧ (∀ p, M' lot p = M lot p ∨ ∃ q, Part lot q ∧ M' lot p = some (.part q)))
        ⟨M', row, _, _, rfl, k3, hfa3, hM3, G.mono (fun q v _ _ h => by omega) hBl, m1, m2⟩ ?_ ?_⟩
      · rintro i σ H4 hi ⟨M4, row4, v6', v7', rfl, k4, hfa4, hM4, G4, m14, m24⟩
        have hin : i < n := by simpa using hi
        have la : ra.length = n := la
        obtain ⟨oa, hoa⟩ : ∃ z, ra[i]? = some z := ⟨ra[i]'(by omega), List.getElem?_eq_getElem _⟩
        obtain ⟨ob, hob⟩ : ∃ z, rb[i]? = some z := ⟨rb[i]'(by omega), List.getElem?_eq_getElem _⟩
        obtain ⟨oc, hoc⟩ : ∃ z, row4[i]? = some z := ⟨row4[i]'(by rw [G4.len]; exact hin), List.getElem?_eq_getElem _⟩
        obtain ⟨qa, qb⟩ := gaN k4
        have seen : ∀ q v, Part lot q → v < n → (m < q ∨ (q = m ∧ v < i + 1)) → ((m < q ∨ (q = m ∧ v < i)) ∨ (q = m ∧ v = i)) := fun q v _ _ h => by omega
        have none_ : (oa = none ∨ ob = none) → MgI B lot n (fun q v => m < q ∨ (q = m ∧ v < i + 1)) row4 := fun h => (G4.skip (part := m) (i := i) (fun a b h1 h2 => by
          rw [ba, hoa] at h1
          rw [bb, hob] at h2
          rcases h with h | h
          · rw [h] at h1; cases h1
          · rw [h] at h2; cases h2)).mono seen hBl
        refine ⟨_, rfl, _, rfl, aa, _, _, _, rfl, rfl, SqL.of qa, at_of (j := i) (by omega) (by rw [List.getElem?_map, hoa]; rfl), rfl, _, rfl, ?_⟩
        cases oa with
        | none => exact iteN rfl (iteF ⟨M4, row4, _, _, rfl, k4, hfa4, hM4.le (by omega), none_ (.inl rfl), m14, m24⟩)
        | some a =>
          refine iteNF (fun z => by cases z) ⟨_, rfl, _, rfl, ab, _, _, _, rfl, rfl, SqL.of qb, at_of (j := i) (by omega) (by rw [List.getElem?_map, hob]; rfl), rfl, _, rfl, ?_⟩
          cases ob with
          | none => exact iteN rfl ⟨M4, row4, _, _, rfl, k4, hfa4, hM4.le (by omega), none_ (.inr rfl), m14, m24⟩
          | some b =>
            refine iteNF (fun z => by cases z) ?_
            have ga4 : (bst B m)[i]? = some (some a) := by rw [ba]; exact hoa
            have gb4 : (bst B (lot - m))[i]? = some (some b) := by rw [bb]; exact hob
            refine ⟨_, rfl, _, rfl, aa, _, _, _, rfl, rfl, SqL.of qa, at_of (j := i) (by omega) (by rw [List.getElem?_map, hoa]; rfl), _, rfl, _, rfl, ab, _, _, _, rfl, rfl, SqL.of qb, at_of (j := i) (by omega) (by rw [List.getElem?_map, hob]; rfl), _, _, rfl, rfl, ?_⟩
            have lic : i < row4.length := by rw [G4.len]; exact hin
            have skip : ∀ z, oc = some z → z ≤ a + b → MgI B lot n (fun q v => m < q ∨ (q = m ∧ v < i + 1)) row4 := fun z hz hle => (G4.skip (part := m) (i := i) (fun a' b' h1 h2 => by
              rw [ga4] at h1
              rw [gb4] at h2
              cases h1; cases h2
              exact ⟨z, by rw [hoc, hz], hle⟩)).mono seen hBl
            have eab : ((a : Int) + (b : Int)) = ((a + b : Nat) : Int) := by omega
            -- found[place] = whole, made[lot, place] = part
            have put : (∀ z, row4[i]? = some (some z) → a + b < z) → MgI B lot n (fun q v => m < q ∨ (q = m ∧ v < i + 1)) (row4.set i (some (a + b))) := fun hlt => (G4.step hin P ga4 gb4 hlt).mono seen hBl
            have e1 : (row4.map oV).set i (.int ((a : Int) + (b : Int))) = (row4.set i (some (a + b))).map oV := by rw [List.map_set]; rfl
            have hfa5 : upd H4 fa (.lst ((row4.set i (some (a + b))).map oV)) fa = some (.lst ((row4.set i (some (a + b))).map oV)) := upd_same
            have k5 : ∀ b' o, H b' = some o → b' ≠ md → upd H4 fa (.lst ((row4.set i (some (a + b))).map oV)) b' = some o := fun b' o e q2 => by
              rw [upd_ne (ne_of_none e nfa0)]; exact k4 b' o e q2
            have hM5 := hM4.putL (o := .lst ((row4.set i (some (a + b))).map oV)) hfa4
            refine or_fnd (i := i) (w := a + b) (by omega) eab hfa4 lic (fun hlt => iteT ?_) (fun z hz hle => iteF ?_)
            · refine ⟨_, rfl, _, rfl, _, rfl, fa, _, _, i, rfl, rfl, hfa4, by rw [List.length_map, Int.zero_add]; exact ix_nat lic, ?_⟩
              rw [e1]
              have hT5 := tbl k5 hM5
              have G5 := put hlt
              generalize upd H4 fa (.lst ((row4.set i (some (a + b))).map oV)) = H5 at hfa5 k5 hM5 hT5 ⊢
              refine ⟨_, rfl, _, rfl, fldM cl hT5 ?_⟩
              refine ⟨_, rfl, _, rfl, szl (by simp), fun kp nkp => ?_⟩
              have s6 := same_upd (o := HO.tup [nV lot, V.int (0 + (i : Int))]) nkp
              have hkey : upd H5 kp (.tup [nV lot, V.int (0 + (i : Int))]) kp = some (.tup ([kL lot, kL i].map kV)) := by
                rw [upd_same, Int.zero_add]; rfl
              have k6 : ∀ b' o, H b' = some o → b' ≠ md → upd H5 kp (.tup [nV lot, V.int (0 + (i : Int))]) b' = some o := fun b' o e q2 => s6 _ _ (k5 b' o e q2)
              have hM6 := hM5.keep (fun b xs e => s6 _ _ e) (fun mk e => s6 _ _ e)
              have hfa6 := s6 _ _ hfa5
              generalize upd H5 kp (.tup [nV lot, V.int (0 + (i : Int))]) = H6 at hkey k6 hM6 hfa6 ⊢
              obtain ⟨mk, hmk, hml, hmo⟩ := hM6.ex
              refine ⟨md, _, rfl, DPut.t (k := [kL lot, kL i]) hmk hkey (sz (by omega)), ?_⟩
              have M7 := hM6.put hmk (lot := lot) (p := i) (v := nV m) (w := .part m) rfl
              refine ⟨_, _, _, _, rfl, fun b' o e q2 => by rw [upd_ne q2]; exact k6 b' o e q2, by rw [upd_ne (ne_of hfa6 hmk (by intro z; cases z))]; exact hfa6, M7, G5, fun l p h => ?_, fun p => ?_⟩
              · rw [if_neg (fun z => h z.1)]; exact m14 l p h
              · by_cases e : p = i
                · rw [if_pos ⟨rfl, e⟩]; exact .inr ⟨m, P, rfl⟩
                · rw [if_neg (fun z => e z.2)]; exact m24 p
            · exact ⟨M4, row4, _, _, rfl, k4, hfa4, hM4.le (by omega), skip z (by rw [hoc] at hz; exact Option.some.inj hz) hle, m14, m24⟩
      · rintro σ H4 ⟨M4, row4, v6', v7', rfl, k4, hfa4, hM4, G4, m14, m24⟩
        have hn : ((n : Int)).toNat = n := by omega
        rw [hn] at hM4 G4
        have em : ((m : Int) - 1) = ((m - 1 : Nat) : Int) := by omega
        refine ⟨_, rfl, _, _, rfl, rfl, _, rfl, _, _, _, _, rfl, rfl, em, rfl, ?_⟩
        exact ⟨_, n2, M4, row4, _, _, _, _, _, rfl, k4, hfa4, hM4.le (by omega), n1, by omega, G4.mono (fun q v p hv h => by
          have := n3 q p.sub
          omega) hBl, m14, m24, rfl⟩
    · refine iteDF (show ¬ (0 : Int) < (m : Int) by omega) ⟨_, rfl, ?_⟩
      have hm0 : m = 0 := by omega
      subst hm0
      exact q fa row M' H3 (fun b o e _ q2 => k3 b o e q2) nfa0 hfa3 G.len ((tbl k3 hM3).le (by omega)) m1 m2 G.att (fun q v a b p h1 h2 => G.opt q v a b p p.pos h1 h2)
end
end K10


set_option Elab.async false
set_option linter.all false
set_option maxRecDepth 100000
set_option maxHeartbeats 4000000
namespace K10
open PySem L2 K10M PyProof.Rows
section
variable {X : Cx} {C : Addr} {m : Str} {k j : Nat} {ps : List Str} {sp : Sp} {o e : Expr} {es : List Expr} {ta : TE} {t : TA} {apos pos : Pos} {pl : Sem Bool}
theorem pe_mc (cl : ClsT X.K C) (M : Method X.prog X.w X.K X.mg X.base k C m ps sp) (he : PE X o ta) (hr : Room j X.A) (hk : k ≤ j) (ha : PA X (e :: es) t)
    (hst : starEach (e :: es) X.env = (false, eval e X.env) :: starEach es X.env := by rfl) (hpl : (backTo pos (starEach es X.env)).any (·.1) = false := by rfl)
    (ht : eval (.Call (.Attribute o m apos) (e :: es) [] pos) X.env = (do
      let ov ← eval o X.env
      standAt apos.atName
      let (f, first) ← holding [ov] (getMethod ov m pl)
      callWith pos f first (backTo pos (starEach (e :: es) X.env)) (backToKw pos (keywordEach [] X.env))) := by rfl) :
    PE X (.Call (.Attribute o m apos) (e :: es) [] pos) (tMeth C m sp [] E0 ta t) := by
  refine ⟨fun pins s σ H Q I h => ?_⟩
  obtain ⟨f, fd, F, hm, hb⟩ := M
  exact (pe_meth he cl.c hm F (hr.mono hk) hb .nil pass0 ha hst hpl ht).run pins s σ H Q I h
end
/-! ### what __init__ has done -/
theorem ends_keep {T : List Tie} {n : Nat} {M M' : Made} {lot p d l : Nat} (h : Ends T n M lot p d l) (S : Nat → Prop) (hS : ∀ lot, S lot → ∀ p, M' lot p = M lot p) (hc : ∀ lot p q, S lot → p < n → M lot p = some (.part q) → S q ∧ S (lot - q)) : S lot → Ends T n M' lot p d l := by
  induction h with
  | stop h1 h2 => exact fun hs => .stop (by rw [hS _ hs]; exact h1) h2
  | way h1 h2 h3 h4 h5 ih => exact fun hs => .way (by rw [hS _ hs]; exact h1) h2 h3 h4 (ih hs)
  | part h1 h2 h3 h4 h5 i1 i2 => exact fun hs => .part (by rw [hS _ hs]; exact h1) h2 h3 (i1 (hc _ _ _ hs h2 h1).1) (i2 (hc _ _ _ hs h2 h1).2)
structure InitI (T : List Tie) (n : Nat) (told : List Nat) (S : Nat → Prop) (B : BMap) (M : Made) : Prop where
  has : ∀ lot, S lot → lot ≠ 0 ∧ lot < 64 ∧ ∃ row, B lot = some row ∧ row.length = n
  no : ∀ lot, ¬ S lot → B lot = none ∧ ∀ p, M lot p = none
  parts : ∀ lot q, S lot → Part lot q → S q
  lots : ∀ lot, S lot → LotOk T n told (bst B) lot
  ends : ∀ lot, S lot → ∀ p, p < n → Ends T n M lot p (8 * pc lot) (8 * 2 ^ pc lot - 8)
  mp : ∀ lot p q, p < n → M lot p = some (.part q) → Part lot q
section
variable {T : List Tie} {n : Nat} {told : List Nat} {S : Nat → Prop} {B : BMap} {M : Made}
theorem InitI.start : InitI T n told (fun _ => False) (fun _ => none) (fun _ _ => none) :=
  ⟨fun _ h => h.elim, fun _ _ => ⟨rfl, fun _ => rfl⟩, fun _ _ h => h.elim, fun _ h => h.elim, fun _ h => h.elim, fun _ _ _ _ h => by cases h⟩
theorem bst_ne {l k : Nat} {row : List (Option Nat)} (h : k ≠ l) : bst (fun l' => if l' = l then some row else B l') k = bst B k := by
  show (if k = l then some row else B k).getD [] = _
  rw [if_neg h]; rfl
theorem bst_eq {l : Nat} {row : List (Option Nat)} : bst (fun l' => if l' = l then some row else B l') l = row := by
  show (if l = l then some row else B l).getD [] = _
  rw [if_pos rfl]; rfl
theorem part_of {X Y lot : Nat} (hX : X ≠ 0) (hY : Y ≠ 0) (d : X &&& Y = 0) (e : X ||| Y = lot) : Part lot X := by
  have dd := disj_iff.mp d
  refine ⟨by omega, ?_, fun z => ?_⟩
  · rw [← e]
    apply Nat.eq_of_testBit_eq
    intro i
    rw [Nat.testBit_and, Nat.testBit_or]
    cases X.testBit i <;> simp
  · rw [← e] at z
    apply hY
    apply Nat.eq_of_testBit_eq
    intro i
    rw [Nat.zero_testBit]
    cases k : Y.testBit i with
    | false => rfl
    | true =>
      have : X.testBit i = true := by rw [z, Nat.testBit_or, k, Bool.or_true]
      exact absurd ⟨this, k⟩ (dd i)
theorem InitI.old (I : InitI T n told S B M) {l : Nat} {row : List (Option Nat)} (hl : ¬ S l) : ∀ lot, S lot → LotOk T n told (bst fun l' => if l' = l then some row else B l') lot := fun lot hs => by
  have h := I.lots lot hs
  have e : ∀ k, S k → bst (fun l' => if l' = l then some row else B l') k = bst B k := fun k hk => bst_ne fun z => hl (z ▸ hk)
  refine ⟨by rw [e lot hs]; exact h.len, fun v x g => h.att v x (by rw [e lot hs] at g; exact g), fun a b c x hE g => by rw [e lot hs] at g ⊢; exact h.rel a b c x hE g, fun at_ p g1 g2 => by rw [e lot hs]; exact h.one at_ p g1 g2, fun X Y u a b hX hY d g k1 k2 => ?_⟩
  have s1 := I.parts lot X hs (part_of hX hY d g)
  have s2 := I.parts lot Y hs (part_of hY hX (by rw [Nat.and_comm]; exact d) (by rw [Nat.or_comm]; exact g))
  rw [e X s1] at k1
  rw [e Y s2] at k2
  rw [e lot hs]
  exact h.two X Y u a b hX hY d g k1 k2
theorem InitI.step (I : InitI T n told S B M) (hT : Within T n) (hn : n ≤ 8) {l : Nat} {row by_ : List (Option Nat)} {M1 M' : Made} (hl : ¬ S l) (h0 : l ≠ 0) (h64 : l < 64) (hparts : ∀ q, Part l q → S q) (hrow : row.length = n) (hB : ByOk T n by_)
    (m1 : ∀ k p, k ≠ l → M1 k p = M k p) (m2 : ∀ p, M1 l p = M l p ∨ ∃ q, Part l q ∧ M1 l p = some (.part q)) (m3 : ∀ k p, k ≠ l → M' k p = M1 k p) (m4 : ∀ p i : Nat, by_[p]? = some (some i) → M' l p = some (.way i)) (m5 : ∀ p : Nat, by_[p]? = some none → M' l p = M1 l p)
    (hlot : LotOk T n told (bst fun l' => if l' = l then some row else B l') l) : InitI T n told (fun k => S k ∨ k = l) (fun l' => if l' = l then some row else B l') M' := by
  have same : ∀ k, S k → ∀ p, M' k p = M k p := fun k hk p => by
    have : k ≠ l := fun z => hl (z ▸ hk)
    rw [m3 k p this, m1 k p this]
  have hM1 : ∀ p, M1 l p = none ∨ ∃ q, Part l q ∧ M1 l p = some (.part q) := fun p => by
    rcases m2 p with h | h
    · exact .inl (by rw [h]; exact (I.no l hl).2 p)
    · exact .inr h
  have keep : ∀ k, S k → ∀ p, p < n → Ends T n M' k p (8 * pc k) (8 * 2 ^ pc k - 8) := fun k hk p hp => ends_keep (I.ends k hk p hp) S same (fun lot p q hs hp e => by
    have P := I.mp lot p q hp e
    exact ⟨I.parts lot q hs P, I.parts lot _ hs (P.facts (I.has lot hs).2.1).2.2.2.1⟩) hk
  refine ⟨fun k hk => ?_, fun k hk => ?_, fun k q hk P => ?_, fun k hk => ?_, fun k hk p hp => ?_, fun k p q hp e => ?_⟩
  · rcases hk with hk | rfl
    · obtain ⟨a, b, r, c, d⟩ := I.has k hk
      have : k ≠ l := fun z => hl (z ▸ hk)
      exact ⟨a, b, r, by rw [if_neg this]; exact c, d⟩
    · exact ⟨h0, h64, row, by rw [if_pos rfl], hrow⟩
  · have h1 : ¬ S k := fun z => hk (.inl z)
    have h2 : k ≠ l := fun z => hk (.inr z)
    obtain ⟨a, b⟩ := I.no k h1
    exact ⟨by rw [if_neg h2]; exact a, fun p => by rw [m3 k p h2, m1 k p h2]; exact b p⟩
  · rcases hk with hk | rfl
    · exact .inl (I.parts k q hk P)
    · exact .inl (hparts q P)
  · rcases hk with hk | rfl
    · exact I.old hl k hk
    · exact hlot
  · rcases hk with hk | rfl
    · exact keep k hk p hp
    · exact ends_lot hT h64 hB hn m4 (fun p h => by rw [m5 p h]; exact hM1 p) (fun q P p hp => keep q (hparts q P) p hp) (pc_pos h64 h0) p hp
  · by_cases z : k = l
    · subst z
      obtain ⟨o, ho⟩ : ∃ z, by_[p]? = some z := ⟨by_[p]'(by rw [hB.len]; exact hp), List.getElem?_eq_getElem _⟩
      cases o with
      | none =>
        rw [m5 p ho] at e
        rcases hM1 p with h | ⟨q', P, h⟩
        · rw [h] at e; cases e
        · rw [h] at e; cases e; exact P
      | some i => rw [m4 p i ho] at e; cases e
    · rw [m3 k p z, m1 k p z] at e
      exact I.mp k p q hp e
end
theorem part_two {a q : Nat} (h : Part (2 ^ a) q) (h64 : 2 ^ a < 64) : False := by
  obtain ⟨f1, f2, f3, f4, f5, f6, f7⟩ := h.facts h64
  have bits : ∀ {Z : Nat}, Z ≠ 0 → (∀ i, Z.testBit i = true → (2 ^ a).testBit i = true) → Z.testBit a = true := fun {Z} hz h => by
    obtain ⟨i, hi⟩ := Nat.exists_testBit_of_ne_zero hz
    have := bit_two.mp (h i hi)
    rw [this]; exact hi
  have b1 := bits (Nat.ne_of_gt h.pos) fun i h => by rw [← f6]; exact bit_or.mpr (.inl h)
  have b2 := bits (Nat.ne_of_gt f7) fun i h => by rw [← f6]; exact bit_or.mpr (.inr h)
  exact disj_iff.mp f5 a ⟨b1, b2⟩
theorem putF_lt {f : Str} {v : V} : ∀ {fs : List (Str × V)} {k : Nat}, fs.length < k → (putF f v fs).length < k + 1
  | [], k, h => by simp [putF]; omega
  | (g, x) :: r, k, h => by
    unfold putF
    split
    · simp at h ⊢; omega
    · obtain ⟨k, rfl⟩ : ∃ m, k = m + 1 := ⟨k - 1, by simp at h; omega⟩
      have := putF_lt (f := f) (v := v) (fs := r) (k := k) (by simpa using h)
      simp; omega
theorem two_pow_z (i : Nat) : (1 * 2 ^ ((i : Nat) : Int).toNat : Int) = ((2 ^ i : Nat) : Int) := by
  rw [Int.toNat_natCast, Int.one_mul, Int.natCast_pow]; rfl
theorem two_pow_lt {i k : Nat} (h : i < k) (hk : k ≤ 6) : 2 ^ i < 2 ^ k ∧ 2 ^ k ≤ 64 ∧ 2 ^ i < 64 := by
  have h1 : 2 ^ i < 2 ^ k := Nat.pow_lt_pow_right (by decide) h
  have h2 : 2 ^ k ≤ 2 ^ 6 := Nat.pow_le_pow_right (by decide) hk
  have h3 : (2 : Nat) ^ 6 = 64 := by decide
  omega
section
variable {P : Program} {w : World} {K : PySem.W.Frag} {mg : Str → Option Value} {base : Heap}
abbrev nIni : List Str := ["self", "web", "told", "at", "place", "other", "lot"]
theorem scIni : FnScope nIni ["self", "web", "told"] (defScope sInit) := ⟨rfl, rfl, rfl, by decide +kernel, rfl, by decide +kernel, by decide +kernel⟩
theorem ok_init {f C Pt : Addr} {fd : FuncData} (F : Fun K "__init__" "Table.__init__" sInit f fd) (T : Txt mg) (cl : ClsT K C) (C3 : Method P w K mg base 3 C "close" ["self", "lot", "start"] (spClose C Pt)) (C4 : Method P w K mg base 1 C "merged" ["self", "lot"] (spMerged C)) :
    FnOk P w K mg base CX0 4 f fd ["self", "web", "told"] (spInit C Pt) := by
  refine F.ok scIni (fun vs H Q E h => ?_) (fun cdv A outer s H vs Q E hr h => ?_)
  · obtain ⟨x, wb, ta, dx, n, Ti, told, rfl, _⟩ := h; rfl
  · obtain ⟨x, wb, ta, dx, n, Ti, told, rfl, hx, hW, hO, hA, hL, hTab, q⟩ := h
    have hu := hu_of hr
    have hn8 := hO.n8
    refine ⟨_, (pss_cons (ps_fld (pv 0) (pv 1) rfl)
      (pss_cons (ps_fld (pv 0) (pv 2) rfl)
      (pss_cons (ps_fld (pv 0) pe_dnewK rfl)
      (pss_cons (ps_fld (pv 0) pe_dnewT rfl)
      (pss_cons (ps_for PassesOwn.never rfl (pi_enumT (by rfl) T.enum (pa_cons (pv 2) pa_nil)) (pg_tup rfl (pgs_cons (pg_name (i := 3) scIni.nd rfl (.inl rfl)) (pgs_cons (pg_name (i := 4) scIni.nd rfl (.inr rfl)) pgs_nil))) (pss_one (ps_expr (pe_mc cl C3 (pv 0) hr (by first | decide | exact Nat.le_refl _) (pa_cons (pe_op op_shl pe_int (pv 3)) (pa_cons (pe_lc (own := [("other", 5)]) rfl scIni.nd (pi_range1 (by rfl) T.range (pa_cons (pe_ix ix_tup (pv 1) pe_int (fun _ _ => rfl)) pa_nil)) (blkOk_by (N := nIni) (sc := defScope sInit) (by decide +kernel)) (fun _ _ _ _ _ => (pg_name (i := 5) scIni.nd rfl (.inl rfl))) (fun _ _ _ _ _ => pts_nil) (fun _ _ _ _ _ => (pe_ifExp (pt_cmpR op_eq (pv 5) (pv 4) (nomark _)) pe_int pe_non))) pa_nil))))))
      (pss_one (ps_for PassesOwn.never rfl (pi_range2 (by rfl) T.range (pa_cons pe_int (pa_cons (pe_op op_shl pe_int (pe_callB call_len_seq (by rfl) T.len b_len (pa_cons (pv 2) pa_nil))) pa_nil))) (pg_name (i := 6) scIni.nd rfl (.inl rfl)) (pss_one (ps_if (pt_cmp (pc_dnotin hu (pv 6) (pe_fld (pv 0) rfl))) (pss_one (ps_expr (pe_mc cl C3 (pv 0) hr (by first | decide | exact Nat.le_refl _) (pa_cons (pv 6) (pa_cons (pe_mc cl C4 (pv 0) hr (by first | decide | exact Nat.le_refl _) (pa_cons (pv 6) pa_nil)) pa_nil))))) pss_nil))))))))), ?_⟩
    have ntb : ∀ {b : Addr} {o o' : HO}, H b = some o → H x = some o' → o ≠ o' → b ≠ x := fun e1 e2 n z => n (by rw [z, e2] at e1; exact (Option.some.inj e1).symm)
    have xW : ∀ b xs, H b = some (.tup xs) → b ≠ x := fun b xs e => ntb e hx (by intro z; cases z)
    refine ⟨_, rfl, _, rfl, x, C, dx, _, rfl, hx, cl.c, cl.net, by decide, ?_⟩
    refine ⟨_, rfl, _, rfl, x, C, dx, _, rfl, upd_same, cl.c, cl.wanted, Nat.lt_of_lt_of_le (putF_lt (k := 1) (by decide)) (by decide), fun bd nbd => ?_⟩
    have f2 : ∀ b o, H b = some o → b ≠ x → upd (upd H x (.ins C dx (putF "net" (.ref wb) []))) x (.ins C dx (putF "wanted" (.ref ta) (putF "net" (.ref wb) []))) b = some o := fun b o e ne => by rw [upd_ne ne, upd_ne ne]; exact e
    have x2 : upd (upd H x (.ins C dx (putF "net" (.ref wb) []))) x (.ins C dx (putF "wanted" (.ref ta) (putF "net" (.ref wb) []))) x = some (.ins C dx (putF "wanted" (.ref ta) (putF "net" (.ref wb) []))) := upd_same
    have nbx : bd ≠ x := fun z => by rw [z, x2] at nbd; cases nbd
    have nb0 : H bd = none := by rw [upd_ne nbx, upd_ne nbx] at nbd; exact nbd
    generalize upd (upd H x (.ins C dx (putF "net" (.ref wb) []))) x (.ins C dx (putF "wanted" (.ref ta) (putF "net" (.ref wb) []))) = H2 at f2 x2 nbd ⊢
    refine ⟨_, rfl, x, C, dx, _, rfl, by rw [upd_ne (Ne.symm nbx)]; exact x2, cl.c, cl.best, Nat.lt_of_lt_of_le (putF_lt (putF_lt (k := 1) (by decide))) (by decide), fun md nmd => ?_⟩
    have f3 : ∀ b o, H b = some o → b ≠ x → upd (upd H2 bd (.dK [])) x (.ins C dx (putF "best" (.ref bd) (putF "wanted" (.ref ta) (putF "net" (.ref wb) [])))) b = some o := fun b o e ne => by rw [upd_ne ne, upd_ne (ne_of_none e nb0)]; exact f2 b o e ne
    have x3 : upd (upd H2 bd (.dK [])) x (.ins C dx (putF "best" (.ref bd) (putF "wanted" (.ref ta) (putF "net" (.ref wb) [])))) x = some (.ins C dx (putF "best" (.ref bd) (putF "wanted" (.ref ta) (putF "net" (.ref wb) [])))) := upd_same
    have b3 : upd (upd H2 bd (.dK [])) x (.ins C dx (putF "best" (.ref bd) (putF "wanted" (.ref ta) (putF "net" (.ref wb) [])))) bd = some (.dK []) := by rw [upd_ne nbx, upd_same]
    have nmx : md ≠ x := fun z => by rw [z, x3] at nmd; cases nmd
    have nmb : md ≠ bd := fun z => by rw [z, b3] at nmd; cases nmd
    have nm0 : H md = none := by
      cases e : H md with
      | none => rfl
      | some o => rw [f3 md o e nmx] at nmd; cases nmd
    generalize upd (upd H2 bd (.dK [])) x (.ins C dx (putF "best" (.ref bd) (putF "wanted" (.ref ta) (putF "net" (.ref wb) [])))) = H3 at f3 x3 b3 nmd ⊢
    refine ⟨_, rfl, x, C, dx, _, rfl, by rw [upd_ne (Ne.symm nmx)]; exact x3, cl.c, cl.made, Nat.lt_of_lt_of_le (putF_lt (putF_lt (putF_lt (k := 1) (by decide)))) (by decide), ?_⟩
    have f4 : ∀ b o, H b = some o → b ≠ x → upd (upd H3 md (.dT [])) x (.ins C dx (putF "made" (.ref md) (putF "best" (.ref bd) (putF "wanted" (.ref ta) (putF "net" (.ref wb) []))))) b = some o := fun b o e ne => by rw [upd_ne ne, upd_ne (ne_of_none e nm0)]; exact f3 b o e ne
    have x4 : upd (upd H3 md (.dT [])) x (.ins C dx (putF "made" (.ref md) (putF "best" (.ref bd) (putF "wanted" (.ref ta) (putF "net" (.ref wb) []))))) x = some (.ins C dx (putF "made" (.ref md) (putF "best" (.ref bd) (putF "wanted" (.ref ta) (putF "net" (.ref wb) []))))) := upd_same
    have b4 : upd (upd H3 md (.dT [])) x (.ins C dx (putF "made" (.ref md) (putF "best" (.ref bd) (putF "wanted" (.ref ta) (putF "net" (.ref wb) []))))) bd = some (.dK []) := by rw [upd_ne nbx, upd_ne (Ne.symm nmb)]; exact b3
    have m4 : upd (upd H3 md (.dT [])) x (.ins C dx (putF "made" (.ref md) (putF "best" (.ref bd) (putF "wanted" (.ref ta) (putF "net" (.ref wb) []))))) md = some (.dT []) := by rw [upd_ne nmx, upd_same]
    generalize upd (upd H3 md (.dT [])) x (.ins C dx (putF "made" (.ref md) (putF "best" (.ref bd) (putF "wanted" (.ref ta) (putF "net" (.ref wb) []))))) = H4 at f4 x4 b4 m4 ⊢
    clear f2 x2 nbd f3 x3 b3 nmd
    have hT4 : TblH C wb ta x n Ti told bd md (fun _ => none) 0 (fun _ _ => none) 0 H4 :=
      ⟨⟨dx, _, x4, rfl, rfl, rfl, rfl, rfl, rfl, rfl⟩, hW.ext fun b xs e => f4 b _ e (xW b xs e), f4 _ _ hA (xW _ _ hA), ⟨[], b4, by simp, fun _ => trivial⟩, ⟨[], m4, by simp, fun _ _ => trivial⟩⟩
    have t4 : Tab Pt H4 := by
      obtain ⟨ps, h1, h2, h3⟩ := hTab
      refine ⟨ps, f4 _ _ h1 (ntb h1 hx (by intro z; cases z)), h2, fun pos cv hc => ?_⟩
      obtain ⟨c, e1, e2⟩ := h3 pos cv hc
      exact ⟨c, e1, f4 _ _ e2 (ntb e2 hx (by intro z; unfold LamX.CodeO at z; cases z))⟩
    have hl6 := hL.l6
    refine ⟨_, rfl, ta, _, rfl, SqT.of hT4.told, for_it (walk_enumT (K := K) (a := ta) (xs := told.map nV)) (fun i σ H' => ∃ S B M v3 v4 v5 v6, σ = [some (.ref x), some (.ref wb), some (.ref ta), v3, v4, v5, v6] ∧ (∀ b o, H b = some o → (∀ ps, o ≠ .tbl ps) → b ≠ x → H' b = some o) ∧ Tab Pt H' ∧
      TblH C wb ta x n Ti told bd md B i M (8 * i) H' ∧ InitI Ti n told S B M ∧ (∀ a, a < i → S (2 ^ a)) ∧ (∀ k, S k → ∃ a, a < i ∧ k = 2 ^ a)) ⟨_, _, _, _, _, _, _, rfl, fun b o e _ ne => f4 b o e ne, t4, hT4, InitI.start, (fun a h => absurd h (Nat.not_lt_zero _)), fun k h => h.elim⟩
      (fun i σ H' _ ⟨S, B, M, v3, v4, v5, v6, _, _, _, hT', _⟩ => SqT.of hT'.told) ?_ ?_⟩
    · rintro i xv σ H5 H6 hi ⟨S, B, M, v3, v4, v5, v6, rfl, fr, t5, hT5, I5, s5, s6⟩ ⟨Tp, x1, x2, rfl, hn, rfl, e1, e2⟩
      have e1 : x1 = .int (i : Int) := (Option.some.inj e1).symm
      subst e1
      have e2 : (told.map nV)[i]? = some x2 := e2
      obtain ⟨p, hp, rfl⟩ : ∃ p, told[i]? = some p ∧ x2 = nV p := by
        rw [List.getElem?_map] at e2
        cases h : told[i]? with
        | none => rw [h] at e2; cases e2
        | some p => rw [h] at e2; exact ⟨p, rfl, (Option.some.inj e2).symm⟩
      have hik : i < told.length := (List.getElem?_eq_some_iff.mp hp).1
      obtain ⟨w1, w2, w3⟩ := two_pow_lt hik hl6
      have hpn : p < n := hL.lt p (List.mem_of_getElem? hp)
      have sT := same_upd (o := HO.tup [V.int (i : Int), nV p]) hn
      have hT6 := hT5.same sT
      have t6 := t5.same sT
      refine ⟨Tp, _, rfl, SqT.of upd_same, rfl, _, _, rfl, _, _, rfl, rfl, ?_⟩
      obtain ⟨dx', fs', i0, _, _, _, _, _, i6, _⟩ := hT6.ins
      obtain ⟨wv, hw6⟩ := hT6.w0
      refine ⟨_, rfl, x, dx', fs', rfl, i0, i6, _, rfl, _, _, rfl, rfl, ⟨by omega, by omega, by decide⟩, ?_⟩
      generalize upd H5 Tp (.tup [V.int (i : Int), nV p]) = H6 at hT6 t6 sT i0 hw6 ⊢
      refine ⟨_, rfl, wb, _, _, _, rfl, rfl, SqT.of hw6, atI_nat (j := 0) rfl, n, rfl, by omega, by omega, fun D hD => lc_range (fun j H' => Same H6 H' ∧ H' D = some (.lst ((oneAt j p).map oV))) ⟨same_put hD (Same.refl _), upd_same⟩ ?_ ?_⟩
      · rintro j H' hj ⟨s1, h1⟩
        have hjn : j < n := by simpa using hj
        refine ⟨rfl, _, rfl, _, rfl, rfl, _, rfl, ?_⟩
        have sD : (List.map oV (oneAt j p)).length < sizeLine := by rw [List.length_map, oneAt_len]; exact sz (by omega)
        by_cases h : j = p
        · refine iteD (by rw [h, Int.zero_add]) ⟨_, h1, sD, same_put hD s1, ?_⟩
          rw [upd_same, oneAt_succ, List.map_append, if_pos h]; rfl
        · refine iteDF (fun z => h (by injection z with z; omega)) ⟨_, h1, sD, same_put hD s1, ?_⟩
          rw [upd_same, oneAt_succ, List.map_append, if_neg h]; rfl
      · rintro H7 ⟨s7, h7⟩
        have h7 : H7 D = some (.lst ((oneAt n p).map oV)) := h7
        refine ⟨x, wb, ta, bd, md, D, n, Ti, told, B, i, M, 8 * i, 2 ^ i, oneAt n p, ?_, hT6.same s7, hO, h7, oneAt_len n p, t6.same s7, by omega, by omega, fun row by_ M' H8 k8 t8 hT8 hS hB m1 m2 m3 => ?_⟩
        · show [V.ref x, .int (1 * 2 ^ ((i : Nat) : Int).toNat), V.ref D] = _
          rw [two_pow_z]
        · have nS : ¬ S (2 ^ i) := fun z => by
            obtain ⟨a, h1, h2⟩ := s6 _ z
            have := Nat.pow_lt_pow_right (a := 2) (by decide) h1
            omega
          have B8 : Settle Ti n (oneAt n p) (bst (fun l' => if l' = 2 ^ i then some row else B l') (2 ^ i)) := by rw [bst_eq]; exact hS
          refine ⟨_, _, _, _, _, _, _, rfl, fun b o e ne nx => k8 b o (s7 _ _ (sT _ _ (fr b o e ne nx))) ne (ne_of_none e nb0) (ne_of_none e nm0), t8, hT8,
            I5.step hO.win hn8 (M1 := M) nS (Nat.ne_of_gt (Nat.two_pow_pos i)) w3 (fun q P => (part_two P w3).elim) hS.len hB (fun _ _ _ => rfl) (fun _ => .inl rfl) m1 m2 m3 (lot_one hO.win hp hpn (oneAt_get hpn) B8), fun a ha => ?_, fun k hk => ?_⟩
          · by_cases z : a = i
            · rw [z]; exact .inr rfl
            · exact .inl (s5 a (by omega))
          · rcases hk with hk | hk
            · obtain ⟨a, h1, h2⟩ := s6 k hk
              exact ⟨a, by omega, h2⟩
            · exact ⟨i, by omega, hk⟩
    · rintro σ H5 ⟨S, B, M, v3, v4, v5, v6, rfl, fr, t5, hT5, I5, s5, s6⟩
      have hlen : (told.map nV).length = told.length := List.length_map ..
      rw [hlen] at hT5 s5 s6
      have hk1 : 1 ≤ told.length := List.length_pos_iff.mpr hL.ne
      obtain ⟨w1, w2, w3⟩ := two_pow_lt (i := 0) hk1 hl6
      have eL : (1 * 2 ^ (((told.map nV).length : Nat) : Int).toNat : Int) = ((2 ^ told.length : Nat) : Int) := by rw [two_pow_z, hlen]
      refine ⟨_, rfl, ta, _, rfl, .inr (SqT.of hT5.told), _, _, rfl, rfl, ⟨by omega, by rw [hlen]; omega, by decide⟩, _, _, rfl, ⟨by omega, by omega, by rw [eL]; omega, by rw [eL]; omega⟩, for_range (fun i σ H' => ∃ S B M cb cm v3 v4 v5 v6, σ = [some (.ref x), some (.ref wb), some (.ref ta), v3, v4, v5, v6] ∧ (∀ b o, H b = some o → (∀ ps, o ≠ .tbl ps) → b ≠ x → H' b = some o) ∧ Tab Pt H' ∧
        cb ≤ 6 + i ∧ cm ≤ 48 + 520 * i ∧ TblH C wb ta x n Ti told bd md B cb M cm H' ∧ InitI Ti n told S B M ∧ (∀ a, a < told.length → S (2 ^ a)) ∧ (∀ k, k ≠ 0 → k ≤ i → S k)) ⟨S, B, M, _, _, _, _, _, _, rfl, fr, t5, by omega, by omega, hT5, I5, s5, fun k h1 h2 => absurd h2 (by omega)⟩ ?_ ?_⟩
      · rintro i σ H6 hi ⟨S, B, M, cb, cm, v3, v4, v5, v6, rfl, fr, t6, hcb, hcm, hT6, I6, s7, s8⟩
        have hi2 : i < 2 ^ told.length - 1 := by rw [eL] at hi; omega
        have e1 : ((1 : Int) + (i : Int)) = ((i + 1 : Nat) : Int) := by omega
        rw [e1]
        obtain ⟨o, ho1, ho2⟩ := hT6.best.any (i + 1)
        refine ⟨_, rfl, _, rfl, fldB cl hT6 ?_⟩
        refine ⟨bd, o, rfl, ho1, _, rfl, ?_⟩
        rw [ho2]
        cases hb : B (i + 1) with
        | some row =>
          refine iteF ⟨S, B, M, cb, cm, _, _, _, _, rfl, fr, t6, by omega, by omega, hT6, I6, s7, fun k h1 h2 => ?_⟩
          by_cases z : k = i + 1
          · rw [z]
            refine Classical.byContradiction fun q => ?_
            have := (I6.no _ q).1
            rw [hb] at this; cases this
          · exact s8 k h1 (by omega)
        | none =>
          have nS : ¬ S (i + 1) := fun z => by
            obtain ⟨_, _, r, h, _⟩ := I6.has _ z
            rw [hb] at h; cases h
          have hl64 : i + 1 < 64 := by omega
          have hpS : ∀ q, Part (i + 1) q → S q := fun q P => s8 q (Nat.ne_of_gt P.pos) (by have := (P.facts hl64).1; omega)
          obtain ⟨dx', fs', i0, _, _, _, _, i5, i6, _⟩ := hT6.ins
          refine iteT ⟨_, rfl, x, dx', fs', rfl, i0, i6, _, rfl, _, rfl, x, dx', fs', rfl, i0, i5, _, rfl, x, wb, ta, bd, md, n, Ti, told, B, cb, M, cm, i + 1, rfl, hT6, hO, hl64, by omega, by omega, fun q P => ?_, fun fa row1 M1 H7 k7 nfa hfa hl1 hT7 m1 m2 att opt => ?_⟩
          · obtain ⟨_, _, r⟩ := I6.has q (hpS q P)
            exact r
          · obtain ⟨bk, hbk⟩ := hT6.dK
            obtain ⟨mk, hmk⟩ := hT6.dT
            refine ⟨x, wb, ta, bd, md, fa, n, Ti, told, B, cb, M1, cm + 8 * (i + 1), i + 1, row1, rfl, hT7, hO, hfa, hl1, t6.kb hbk hmk k7, by omega, by omega, fun row by_ M' H8 k8 t8 hT8 hS hB m3 m4 m5 => ?_⟩
            have B8 : Settle Ti n row1 (bst (fun l' => if l' = i + 1 then some row else B l') (i + 1)) := by rw [bst_eq]; exact hS
            have eB : ∀ q, Part (i + 1) q → bst (fun l' => if l' = i + 1 then some row else B l') q = bst B q ∧ bst (fun l' => if l' = i + 1 then some row else B l') (i + 1 - q) = bst B (i + 1 - q) := fun q P => ⟨bst_ne P.ne, bst_ne (P.facts hl64).2.2.2.1.ne⟩
            have L8 := lot_merged (best := bst fun l' => if l' = i + 1 then some row else B l') hO.win hl64 (fun a ha z => nS (z ▸ s7 a ha)) hl1 (fun q P => I6.old nS q (hpS q P))
              (fun v y e => by
                obtain ⟨q, a, b, P, h1, h2, h3⟩ := att v y e
                exact ⟨q, a, b, P, by rw [(eB q P).1]; exact h1, by rw [(eB q P).2]; exact h2, h3⟩)
              (fun q v a b P h1 h2 => opt q v a b P (by rw [(eB q P).1] at h1; exact h1) (by rw [(eB q P).2] at h2; exact h2)) B8
            refine ⟨_, _, M', cb + 1, cm + 8 * (i + 1) + 8, _, _, _, _, rfl, fun b o e ne nx => k8 b o (k7 b o (fr b o e ne nx) (ne_of_none e nb0) (ne_of_none e nm0)) ne (ne_of_none e nb0) (ne_of_none e nm0), t8, by omega, by omega, hT8,
              I6.step hO.win hn8 nS (by omega) hl64 hpS hS.len hB m1 m2 m3 m4 m5 L8, fun a ha => .inl (s7 a ha), fun k h1 h2 => ?_⟩
            by_cases z : k = i + 1
            · exact .inr z
            · exact .inl (s8 k h1 (by omega))
      · rintro σ H6 ⟨S, B, M, cb, cm, v3, v4, v5, v6, rfl, fr, t6, hcb, hcm, hT6, I6, s7, s8⟩
        have s9 : ∀ k, k ≠ 0 → k < 2 ^ told.length → S k := fun k h1 h2 => s8 k h1 (by rw [eL]; omega)
        refine q bd md B M cb cm H6 fr t6 hT6 ⟨fun lot h1 h2 => ?_, fun lot p h1 h2 hp => ?_⟩
        · obtain ⟨_, _, r, h, _⟩ := I6.has lot (s9 lot h1 h2)
          exact ⟨⟨r, h⟩, I6.lots lot (s9 lot h1 h2)⟩
        · have h := I6.ends lot (s9 lot h1 h2) p hp
          have := pc_le (lot := lot)
          have h3 : 2 ^ pc lot ≤ 2 ^ 6 := Nat.pow_le_pow_right (by decide) this
          have h4 : (2 : Nat) ^ 6 = 64 := by decide
          exact h.more (by omega) (by omega)
end
end K10


set_option Elab.async false
set_option linter.all false
set_option maxRecDepth 100000
set_option maxHeartbeats 4000000
namespace K10
open PySem L2 K10M PyProof.Rows
section
variable {P : Program} {w : World} {K : PySem.W.Frag} {mg : Str → Option Value} {base : Heap}
abbrev nTi : List Str := ["self", "lot", "place", "how", "a", "b"]
theorem scTi : FnScope nTi ["self", "lot", "place"] (defScope sTies) := ⟨rfl, rfl, rfl, by decide +kernel, rfl, by decide +kernel, by decide +kernel⟩
/-- the promise at depth below d -/
def spT (C : Addr) : Nat → Sp
  | 0 => fun _ _ _ _ => False
  | d + 1 => spTies C d
theorem ok_ties1 {f C : Addr} {fd : FuncData} {d k : Nat} (F : Fun K "ties" "Table.ties" sTies f fd) (T : Txt mg) (cl : ClsT K C) (C5 : Method P w K mg base k C "ties" ["self", "lot", "place"] (spT C d)) :
    FnOk P w K mg base CX0 (k + 1) f fd ["self", "lot", "place"] (spTies C d) := by
  refine F.ok scTi (fun vs H Q E h => ?_) (fun cdv A outer s H vs Q E hr h => ?_)
  · obtain ⟨x, wb, ta, bd, md, n, Ti, told, B, cb, M, cm, lot, p, l, rfl, _⟩ := h; rfl
  · obtain ⟨x, wb, ta, bd, md, n, Ti, told, B, cb, M, cm, lot, p, l, rfl, hT, hO, hE, hl, q⟩ := h
    have hu := hu_of hr
    have hn8 := hO.n8
    refine ⟨_, (pss_cons (ps_set (i := 3) scTi.nd rfl (.inl rfl) (pe_dget1 hu (pe_fld (pv 0) rfl) (pe_tup (pa_cons (pv 1) (pa_cons (pv 2) pa_nil))) ⟨by rfl, by rfl, by rfl, by rfl⟩))
      (pss_cons (ps_if (pt_cmpR op_isN (pv 3) pe_non (nomark _)) (pss_one (ps_ret (pe_lst pa_nil))) pss_nil)
      (pss_cons (ps_if (pt_val (pe_callB call_isi (by rfl) T.isi b_isi (pa_cons (pv 3) (pa_cons (pe_bltn (v := .ty "tuple") (by rfl) T.tuple b_tuple rfl) pa_nil)))) (pss_cons (ps_asg (pe_slice sl_tup (pe_ix ix_tup (pe_ix ix_tup (pe_fld (pv 0) rfl) pe_int (fun _ _ => rfl)) (pe_ix ix_tup (pv 3) pe_int (fun _ _ => rfl)) (fun _ _ => rfl)) po_none (po_some pe_int)) (pg_tup rfl (pgs_cons (pg_name (i := 4) scTi.nd rfl (.inl rfl)) (pgs_cons (pg_name (i := 5) scTi.nd rfl (.inl rfl)) pgs_nil))))
      (pss_one (ps_ret (pe_op op_cat (pe_lst (pa_cons (pe_ix ix_tup (pv 3) pe_int (fun _ _ => rfl)) pa_nil)) (pe_mc cl C5 (pv 0) hr (by first | decide | exact Nat.le_refl _) (pa_cons (pv 1) (pa_cons (pe_op op_sub (pe_op op_add (pv 4) (pv 5)) (pv 2)) pa_nil))))))) pss_nil)
      (pss_one (ps_ret (pe_op op_cat (pe_mc cl C5 (pv 0) hr (by first | decide | exact Nat.le_refl _) (pa_cons (pv 3) (pa_cons (pv 2) pa_nil))) (pe_mc cl C5 (pv 0) hr (by first | decide | exact Nat.le_refl _) (pa_cons (pe_op op_sub (pv 1) (pv 3)) (pa_cons (pv 2) pa_nil))))))))), ?_⟩
    obtain ⟨mk, hmk⟩ := hT.dT
    refine ⟨_, rfl, fldM cl hT ?_⟩
    refine ⟨md, rfl, .inr ⟨mk, .inl hmk⟩, _, rfl, _, rfl, szl (by simp), fun kp nkp => ?_⟩
    have s1 := same_upd (o := HO.tup [nV lot, nV p]) nkp
    have hT1 := hT.same s1
    have hkp : upd H kp (.tup [nV lot, nV p]) kp = some (.tup [nV lot, nV p]) := upd_same
    generalize upd H kp (.tup [nV lot, nV p]) = H1 at s1 hT1 hkp ⊢
    obtain ⟨o, ho1, ho2⟩ := hT1.made.any (lot := lot) (p := p) hkp
    refine ⟨o, ho1, ?_⟩
    cases hE with
    | stop h1 h2 =>
      rw [h1] at ho2
      cases o with
      | some v => exact ho2.elim
      | none =>
        refine ⟨_, rfl, rfl, _, rfl, iteD (by rfl) ⟨szl (by simp), fun r nr => ?_⟩⟩
        exact q r [] _ (s1.trans (same_upd nr)) upd_same (Nat.zero_le _) (fun i h => nomatch h)
    | @way _ _ i a b c d' l' h1 h2 h3 h4 h5 =>
      rw [h1] at ho2
      cases o with
      | none => exact ho2.elim
      | some v =>
        obtain ⟨wv, rfl, hwv⟩ := ho2
        have hw := hO.win _ (List.mem_of_getElem? h3)
        have w1 : a < b := hw.1
        have w2 : b < n := hw.2
        have hi30 : i < 30 := by
          have := (List.getElem?_eq_some_iff.mp h3).1
          have := hO.l30
          omega
        obtain ⟨pt, ps, hwb, hpt, hps⟩ := hT1.web.ex
        obtain ⟨pa, hpa, hA⟩ := pair_get2 hps h3
        have hA : H1 pa = some (.tup [nV a, nV b, nV c]) := hA
        refine ⟨_, rfl, rfl, _, rfl, iteDF (fun z => by cases z) ?_⟩
        refine ⟨_, rfl, _, _, _, _, true, rfl, .ty _, .base (.tup hwv), kit_ty (by decide +kernel), _, rfl, iteT ?_⟩
        refine ⟨_, rfl, fldN cl hT1 ?_⟩
        refine ⟨wb, _, _, _, rfl, rfl, SqT.of hwb, atI_nat (j := 1) rfl, _, rfl, wv, _, _, _, rfl, rfl, SqT.of hwv, atI_nat (j := 1) rfl, pt, _, _, _, rfl, rfl, SqT.of hpt, at_of (j := i) rfl (by rw [List.getElem?_map, hpa]; rfl), _, rfl, pa, _, rfl, SqT.of hA, notwhole3 _ rfl, fun sp np => ?_⟩
        have s2 := same_upd (o := HO.tup (cutV [nV a, nV b, nV c] none (some 2))) np
        refine ⟨sp, _, rfl, SqT.of upd_same, rfl, _, _, rfl, _, _, rfl, rfl, ?_⟩
        have hT2 := hT1.same s2
        have hwv2 := s2 _ _ hwv
        refine ⟨_, rfl, wv, _, _, _, rfl, rfl, SqT.of hwv2, atI_nat (j := 1) rfl, szl (by simp), fun ip nip => ?_⟩
        have s3 := same_upd (o := HO.lst [nV i]) nip
        have hT3 := hT2.same s3
        have hip := upd_same (H := upd H1 sp (.tup (cutV [nV a, nV b, nV c] none (some 2)))) (a := ip) (o := HO.lst [nV i])
        obtain ⟨dx', fs', i0, _, _, _, _, i5, i6, i7⟩ := hT3.ins
        have ep : ((a : Int) + (b : Int) - (p : Int)) = ((a + b - p : Nat) : Int) := by omega
        refine ⟨_, rfl, x, dx', fs', rfl, i0, i7, _, rfl, _, rfl, _, rfl, _, _, rfl, rfl, _, rfl, _, _, rfl, rfl, ?_⟩
        have s123 := (s1.trans s2).trans s3
        refine ⟨x, wb, ta, bd, md, n, Ti, told, B, cb, M, cm, lot, a + b - p, l', (by show [V.ref x, nV lot, V.int ((a : Int) + (b : Int) - (p : Int))] = _; rw [ep]), hT3, hO, h5, by omega, fun r2 is2 H4 s4 hr2 hl2 hi2 => ?_⟩
        refine ⟨ip, r2, _, _, rfl, rfl, s4 _ _ hip, hr2, ?_, fun r nr => ?_⟩
        · rw [List.length_map]; exact szl (by simp; omega)
        · refine q r (i :: is2) _ ((s123.trans s4).trans (same_upd nr)) upd_same (by simp; omega) (fun j hj => ?_)
          rcases List.mem_cons.mp hj with rfl | hj
          · exact hi30
          · exact hi2 j hj
    | @part _ _ q' d' l1 l2 h1 h2 h3 h4 h5 =>
      rw [h1] at ho2
      cases o with
      | none => exact ho2.elim
      | some v =>
        obtain rfl : v = nV q' := ho2
        refine ⟨_, rfl, rfl, _, rfl, iteDF (fun z => by cases z) ?_⟩
        refine ⟨_, rfl, _, _, _, _, false, rfl, .ty _, .base (.int _), kit_ty (by decide +kernel), _, rfl, iteF ?_⟩
        obtain ⟨dx', fs', i0, _, _, _, _, i5, i6, i7⟩ := hT1.ins
        refine ⟨_, rfl, x, dx', fs', rfl, i0, i7, _, rfl, _, rfl, ?_⟩
        refine ⟨x, wb, ta, bd, md, n, Ti, told, B, cb, M, cm, q', p, l1, rfl, hT1, hO, h4, by omega, fun r1 is1 H2 s2 hr1 hl1 hi1 => ?_⟩
        have hT2 := hT1.same s2
        obtain ⟨dx', fs', i0, _, _, _, _, i5, i6, i7⟩ := hT2.ins
        have ep : ((lot : Int) - (q' : Int)) = ((lot - q' : Nat) : Int) := by omega
        refine ⟨_, rfl, x, dx', fs', rfl, i0, i7, _, rfl, _, rfl, _, _, rfl, rfl, _, rfl, ?_⟩
        refine ⟨x, wb, ta, bd, md, n, Ti, told, B, cb, M, cm, lot - q', p, l2, (by show [V.ref x, V.int ((lot : Int) - (q' : Int)), nV p] = _; rw [ep]), hT2, hO, h5, by omega, fun r2 is2 H3 s3 hr2 hl2 hi2 => ?_⟩
        refine ⟨r1, r2, _, _, rfl, rfl, s3 _ _ hr1, hr2, ?_, fun r nr => ?_⟩
        · rw [List.length_map, List.length_map]; exact szl (by omega)
        · refine q r (is1 ++ is2) _ ((s1.trans s2).trans (s3.trans (same_upd nr))) ?_ (by simp; omega) (fun j hj => ?_)
          · rw [upd_same, List.map_append]
          · rcases List.mem_append.mp hj with hj | hj
            · exact hi1 j hj
            · exact hi2 j hj
theorem ok_ties {f C : Addr} {fd : FuncData} (F : Fun K "ties" "Table.ties" sTies f fd) (T : Txt mg) (cl : ClsT K C) (hm : Meth K C "ties" f) (hb : Binds K fd ["self", "lot", "place"] []) : ∀ d, FnOk P w K mg base CX0 (d + 1) f fd ["self", "lot", "place"] (spTies C d)
  | 0 => ok_ties1 F T cl (d := 0) (k := 0) ⟨f, fd, ⟨fun _ _ _ _ h => h.elim, fun _ _ _ _ _ _ _ _ _ _ _ _ _ h => h.elim⟩, hm, hb⟩
  | d + 1 => ok_ties1 F T cl (d := d + 1) (k := d + 1) ⟨f, fd, ok_ties F T cl hm hb d, hm, hb⟩
end
end K10


set_option Elab.async false
set_option linter.all false
set_option maxRecDepth 100000
set_option maxHeartbeats 4000000
/-! set(list of ints), turned from the kit's proof for a tuple. -/
namespace PySem
open PyProof.Rows L2
section
variable {P : Program} {w : World} {A : Around} {E : Value → Shared → Prop} {s : Shared}
set_option maxRecDepth 100000 in
set_option maxHeartbeats 3200000 in
theorem k10_set_list {l : Addr} {items : Array Value} (ns : List Int) {Q : Value → Shared → Prop} (hh : A.handled = none) (hl : s.heap.IsList l items) (hit : IntsAre items.toList ns) (hb : ns.length + 1 < scanBound)
    (h : ∀ (h' : Heap) (tk c : Nat), SetR w h' s.heap.objs.size (fun j => decide (j ∈ ns)) c → c ≤ ns.length → (∀ b o, s.heap.get? b = some o → h'.get? b = some o) → Q (.ref s.heap.objs.size) { s with heap := h', toks := tk }) :
    wpAny (model P w) A (call (.type "set") [.ref l]) Q E s := by
  have hisz : items.size = ns.length := by
    have q := IntsAre.length hit
    rw [Array.length_toList] at q
    exact q
  obtain ⟨c, tl, hmro⟩ := F.called_set.mro
  have hmade := F.called_set.made
  have hsub := F.called_set.sub
  refine wpAny_call (codeAny_of_tree ?_)
  show wpAny _ _ (callAny (.type "set") _) _ _ _
  refine wpAny_pure ⟨Code.quiet_builtin _ (by decide +kernel), codeAny_builtin F.entry_type_call ?_⟩
  rw [Around.under_plain (weight_type_call_type "set" [.ref l] []) rfl]
  have h1 := F.called_set.notType
  have h2 := F.called_set.canCreate
  have hct := F.typeCall_set_1 (.ref l)
  repeat (any_goals (first | assumption | wp_step))

  refine codeAny_mono (code_set_led1 (.ref l) (E := E) (Q₁ := fun obj s₁ => obj = .ref s.heap.objs.size ∧ s₁ = { s with heap := s.heap.push { cls := .type "set", dict := none, data := .set #[] 0 (.fresh 0 0 (!w.params.followText "set-order")) } }) ⟨rfl, rfl⟩) fun r s₁ hr => ?_
  cases r with
  | error e => exact hr
  | ok fl =>
    cases fl with
    | ret obj =>
      obtain ⟨rfl, rfl⟩ := hr
      have hS : (s.heap.push { cls := .type "set", dict := none, data := .set #[] 0 (.fresh 0 0 (!w.params.followText "set-order")) }).get? s.heap.objs.size = some { cls := .type "set", dict := none, data := .set #[] 0 (.fresh 0 0 (!w.params.followText "set-order")) } := Heap.get?_push_size _ rfl
      have hT : Shared.TypeIs { s with heap := s.heap.push { cls := .type "set", dict := none, data := .set #[] 0 (.fresh 0 0 (!w.params.followText "set-order")) } } (.ref s.heap.objs.size) "set" := ⟨_, hS, rfl⟩
      have hli := F.called_set.init.lookup
      have hbi := F.called_set.init.bind (.ref s.heap.objs.size)
      repeat (any_goals (first | assumption | wp_step))

      refine codeAny_mono (codeAny_call_builtin (R := wants (fun r s₂ => r = .none ∧ ∃ h' tk c, s₂ = { s with heap := h', toks := tk } ∧ SetR w h' s.heap.objs.size (fun j => decide (j ∈ ns)) c ∧ c ≤ ns.length ∧
          (∀ b o, s.heap.get? b = some o → h'.get? b = some o)) E) F.called_set.init.plain F.entry_set_init (check_set_init_1 hT ?_)) fun r₂ s₂ hr₂ => ?_
      · obtain ⟨ol, hol, hcl, nl, hdl⟩ := hl
        obtain ⟨ocls, odict, odata, oslots⟩ := ol
        simp only at hcl hdl
        subst hcl; subst hdl
        have hol' : (s.heap.push { cls := .type "set", dict := none, data := .set #[] 0 (.fresh 0 0 (!w.params.followText "set-order")) }).get? l = some { cls := .type "list", dict := odict, data := .seq items nl, slots := oslots } := Heap.get?_push_of_some _ hol
        have hsls := F.sub_list_set
        have hslf := F.sub_list_frozenset
        have hne : (Value.type "list" == Value.type "dict") = false := by decide
        have hl1 : (s.heap.push { cls := .type "set", dict := none, data := .set #[] 0 (.fresh 0 0 (!w.params.followText "set-order")) }).IsList l items := ⟨_, hol', rfl, nl, rfl⟩
        unfold Builtin.«set.__init__» noKeywords Builtin.Frozenset.updateFrom
        generalize hPI : pyIter = PI
        wp_walk
        subst hPI

        refine wpAny_pyIter_list hl1 ?_
        refine wpAny_bind (wpAny_runValue ?_)
        have hlS : l < s.heap.objs.size := Heap.lt_size hol
        have hh3 : A.in1.in1.in1.handled = none := by simp [hh]
        have hz1 : (s.heap.push { cls := .type "set", dict := none, data := .set #[] 0 (.fresh 0 0 (!w.params.followText "set-order")) }).objs.size = s.heap.objs.size + 1 := Heap.size_push ..
        have hneI : l ≠ (s.heap.push { cls := .type "set", dict := none, data := .set #[] 0 (.fresh 0 0 (!w.params.followText "set-order")) }).objs.size := by
          rw [Heap.size_push]; exact Nat.ne_of_lt (Nat.lt_succ_of_lt hlS)
        have hSf : s.heap.objs.size ∉ [(s.heap.push { cls := .type "set", dict := none, data := .set #[] 0 (.fresh 0 0 (!w.params.followText "set-order")) }).objs.size, l] := by
          rw [Heap.size_push]; simp only [List.mem_cons, List.mem_singleton, List.not_mem_nil, or_false, not_or]
          exact ⟨Nat.ne_of_lt (Nat.lt_succ_self _), Nat.ne_of_gt hlS⟩
        have hval : ∀ (i : Nat) (v : Value), items[i]? = some v → ∃ k t, ns[i]? = some k ∧ v = .int k t := fun i v hv => by
          have hi : i < ns.length := by rw [← hisz]; exact (Array.getElem?_eq_some_iff.mp hv).1
          obtain ⟨t, e⟩ := PyProof.Rows.IntsAre.int_at hit i v (by rw [Array.getElem?_toList]; exact hv)
          refine ⟨ns[i], t, List.getElem?_eq_getElem hi, ?_⟩
          rw [e, List.getD_eq_getElem?_getD, List.getElem?_eq_getElem hi] <;> rfl
        refine set_update_ints ((Walks.list hh3 _ l hneI items).toS) s.heap.objs.size
          hSf ns hisz hb hval (items.size - 0) 0 _ (by omega) (Nat.zero_le _)
          ⟨⟨_, Heap.get?_push_size _ rfl, rfl, rfl⟩, (hl1.push _)⟩ ?hS0 ?hR
        case hS0 =>
          have hget : ((s.heap.push { cls := .type "set", dict := none, data := .set #[] 0 (.fresh 0 0 (!w.params.followText "set-order")) }).push { cls := .type "list_iterator", data := .fields #[.ref l, .int 0 0] }).get? s.heap.objs.size
              = some { cls := .type "set", dict := none, data := .set #[] 0 (.fresh 0 0 (!w.params.followText "set-order")) } := Heap.get?_push_of_some _ hS
          exact ⟨0, Nat.le_refl 0, setR_new_at hget⟩
        case hR =>
          intro s' c' hm hc' hS'
          obtain ⟨h', g2, d', tk', os'⟩ := s'
          have eg : g2 = s.gens := hm.gens
          have ed : d' = s.drawn := hm.drawn
          have eo : os' = s.os := hm.os
          subst eg; subst ed; subst eo
          show wpAny _ _ _ _ _ _
          refine wpAny_pure ?_
          show wpAny _ _ (ret Value.none) _ _ _
          rw [hisz] at hc'
          refine wpAny_pure ⟨rfl, h', tk', c', rfl, hS', hc', fun b o e => ?_⟩
          have hb0 : b < s.heap.objs.size := Heap.lt_size e
          have hb1 : b ≠ s.heap.objs.size := Nat.ne_of_lt hb0
          have hb2 : b ≠ (s.heap.push { cls := .type "set", dict := none, data := .set #[] 0 (.fresh 0 0 (!w.params.followText "set-order")) }).objs.size := by
            rw [Heap.size_push]; exact Nat.ne_of_lt (Nat.lt_succ_of_lt hb0)
          exact hm.heap b o (by simp only [List.mem_cons, List.mem_singleton, List.not_mem_nil, or_false, not_or]; exact ⟨hb1, hb2⟩) (Heap.get?_push_of_some _ (Heap.get?_push_of_some _ e))

      · cases r₂ with
        | error e => exact hr₂
        | ok fl₂ =>
          cases fl₂ with
          | ret r =>
            obtain ⟨rfl, h', tk, c', rfl, hS', hc', hk'⟩ := hr₂
            repeat (any_goals (first | assumption | wp_step))
            exact h _ _ _ hS' hc' hk'
          | _ => exact hr₂.elim
    | _ => exact hr.elim
end
end PySem


set_option Elab.async false
set_option linter.all false
set_option maxRecDepth 100000
set_option maxHeartbeats 4000000
/-! rules: set(list of ints), min(list of pairs of ints) -/
namespace K10
open PySem PySem.Spec PyProof.Rows L2 K10M
section
variable {X : Cx}
/-- set(xs), xs a list of ints -/
def rSetI (K : PySem.W.Frag) (w : World) : List V → Hp → VK → Prop := fun xs H Q => ∃ (l : Addr) (ns : List Int), xs = [V.ref l] ∧ SqL K H l (ns.map V.int) ∧ ns.length ≤ 4000 ∧
  ∀ (p : Addr) (c : Nat) (ks : List Int), H p = none → ks.Nodup → ks.length = c → (∀ k : Int, k ∈ ks ↔ k ∈ ns) → Q (.ref p) (upd H p (SetO w p (fun j => decide (j ∈ ns)) c))
theorem cr_setI (hc : X.calm = true) : CallR X (.type "set") (rSetI X.K X.w) := by
  intro pins s σ H xs us Q I r h
  obtain ⟨l, ns, rfl, hl, hf, q⟩ := h
  rw [Vals.ref1 r]
  obtain ⟨its, rv, pl, hz⟩ := I.list hl
  have hn : H s.heap.objs.size = none := I.hok.fresh (Nat.le_refl _)
  refine k10_set_list (P := X.prog) (w := X.w) ns (I.ok.hd hc) pl.isList (by simpa using ints_of_vals rv) (by unfold scanBound; omega) fun h' tk c R _ k => ?_
  refine ⟨.ref s.heap.objs.size, upd H s.heap.objs.size (SetO X.w s.heap.objs.size (fun j => decide (j ∈ ns)) c), I.laid (t' := tk) k (Nat.le_refl _) (setO_new R), rfl, ?_⟩
  obtain ⟨o, es, ep, t, ho, hex, hd, hg, nd, hm, hb, hfit, hsz, _⟩ := R
  exact q _ c (es.toList.map keyOf) hn nd (by rw [List.length_map, Array.length_toList]; exact hsz) fun k => by
    rw [← hm k]
    simp
/-! ### min of pairs -/
def ltP (p q : Int × Int) : Bool := if p.1 = q.1 then decide (p.2 < q.2) else decide (p.1 < q.1)
theorem fold_le : ∀ (xs : List (Int × Int)) (a : Int × Int), (xs.foldl (fun a y => if ltP y a = true then y else a) a).1 ≤ a.1 ∧ ∀ y ∈ xs, (xs.foldl (fun a y => if ltP y a = true then y else a) a).1 ≤ y.1
  | [], a => ⟨Int.le_refl _, fun _ h => nomatch h⟩
  | x :: xs, a => by
    rw [List.foldl_cons]
    have hx : (if ltP x a = true then x else a).1 ≤ a.1 ∧ (if ltP x a = true then x else a).1 ≤ x.1 := by
      unfold ltP
      by_cases e : x.1 = a.1
      · rw [if_pos e]
        split <;> omega
      · rw [if_neg e]
        by_cases e2 : x.1 < a.1
        · rw [decide_eq_true e2, if_pos rfl]; omega
        · rw [decide_eq_false e2, if_neg (by decide)]; omega
    obtain ⟨h1, h2⟩ := fold_le xs (if ltP x a = true then x else a)
    refine ⟨by omega, fun y hy => ?_⟩
    rcases List.mem_cons.mp hy with rfl | hy
    · omega
    · exact h2 y hy
def PairAt (H : Hp) (t : Addr) (p : Nat × Nat) : Prop := H t = some (.tup [nV p.1, nV p.2])
/-- min(xs), xs a list of pairs of ints -/
def rMinP : List V → Hp → VK → Prop := fun vs H Q => ∃ (a : Addr) (ts : List Addr) (ps : List (Nat × Nat)), vs = [V.ref a] ∧ H a = some (.lst (ts.map V.ref)) ∧ Paired (PairAt H) ts ps ∧ ps ≠ [] ∧
  ∀ (t : Addr) (p : Nat × Nat), p ∈ ps → PairAt H t p → (∀ q ∈ ps, p.1 ≤ q.1) → Q (.ref t) H
theorem hold_pairs {P : Program} {w : World} {H : Hp} {h : Heap} (ok : HOk P w H h) : ∀ {ts : List Addr} {ps : List (Nat × Nat)}, Paired (PairAt H) ts ps → PySem.W.HoldAll h (ts.map Value.ref) (ps.map fun p => ((p.1 : Int), (p.2 : Int)))
  | _, _, .nil => PySem.W.HoldAll.nil
  | _, _, .cons (a := t) (b := p) e r => by
    refine PySem.W.HoldAll.cons ?_ (hold_pairs ok r)
    obtain ⟨_, its, rv, o, ho, hc, n, hd⟩ := ok t _ (show H t = some (.tup [nV p.1, nV p.2]) from e)
    cases rv with
    | cons r1 r2 =>
      cases r2 with
      | cons r2 r3 =>
        cases r3
        obtain ⟨t1, rfl⟩ := r1
        obtain ⟨t2, rfl⟩ := r2
        exact PySem.W.holds_pair ⟨o, ho, hc, n, hd⟩ (PySem.W.holds_int _ _) (PySem.W.holds_int _ _)
theorem cr_minP (hc : X.calm = true) (hu : X.A.units + 64 < cLine) : CallR X (.builtin "min") rMinP := by
  intro pins s σ H xs us Q I r h
  obtain ⟨a, ts, ps, rfl, ha, hp, hne, q⟩ := h
  rw [Vals.ref1 r]
  obtain ⟨its, n, rv, ho, hz⟩ := I.lst ha
  have hits : its = ts.map Value.ref := by
    clear hp ha ho hz
    induction ts generalizing its with
    | nil => cases rv; rfl
    | cons t ts ih =>
      cases rv with
      | cons r1 r2 =>
        obtain rfl := (show _ = Value.ref t from r1)
        rw [ih _ r2, List.map_cons]
  subst hits
  have hh := hold_pairs I.hok hp
  cases ps with
  | nil => exact absurd rfl hne
  | cons p ps =>
    rw [List.map_cons] at hh
    refine PySem.W.min_list_datum (α := Int × Int) (I.ok.hd hc) ⟨_, ho, rfl, _, rfl⟩ (by simpa using hh) (by
      have : PySem.W.Datum.depth (Int × Int) ≤ 60 := by decide
      omega) fun i v h' tk hi hv hk => ?_
    have I2 : Inv X pins σ H { s with heap := h', toks := tk } := I.kept hk
    have hi : (ts.map Value.ref)[i]? = some v := by simpa using hi
    rw [List.getElem?_map] at hi
    cases et : ts[i]? with
    | none => rw [et] at hi; cases hi
    | some t =>
      rw [et] at hi
      obtain rfl : Value.ref t = v := Option.some.inj hi
      obtain ⟨p', hp', he⟩ : ∃ p', (p :: ps)[i]? = some p' ∧ PairAt H t p' := by
        have : ∀ {l₁ : List Addr} {l₂ : List (Nat × Nat)} {i : Nat}, Paired (PairAt H) l₁ l₂ → l₁[i]? = some t → ∃ b, l₂[i]? = some b ∧ PairAt H t b := by
          intro l₁ l₂ i h
          induction h generalizing i with
          | nil => intro e; simp at e
          | cons r h ih =>
            cases i with
            | zero => intro e; simp at e; subst e; exact ⟨_, rfl, r⟩
            | succ i => intro e; simpa using ih (by simpa using e)
        exact this hp et
      refine ⟨.ref t, H, I2, rfl, q t p' (List.mem_of_getElem? hp') he fun y hy => ?_⟩
      -- the item that min gives is the least
      obtain ⟨l, va, vb, e1, e2, e3, e4⟩ := PySem.W.pair_of_holds hv
      obtain rfl : t = l := by injection e1
      obtain ⟨_, its', rv', o', ho', hc', n', hd'⟩ := I2.hok t _ (show H t = some (.tup [nV p'.1, nV p'.2]) from he)
      obtain ⟨o2, ho2, hc2, n2, hd2⟩ := e2
      have ho' : h'.get? t = some o' := ho'
      rw [ho'] at ho2
      obtain rfl := Option.some.inj ho2
      rw [hd'] at hd2
      injection hd2 with hd2 _
      have hd3 : its' = [va, vb] := by
        have := congrArg Array.toList hd2
        simpa using this
      subst hd3
      cases rv' with
      | cons r1 r2 =>
        obtain ⟨t1, rfl⟩ := r1
        obtain ⟨n1, hn1⟩ := PySem.W.int_of_holds e3
        have em : ((p'.1 : Nat) : Int) = (PySem.W.minOf ((p.1 : Int), (p.2 : Int)) (ps.map fun p => ((p.1 : Int), (p.2 : Int)))).1 := by
          injection hn1
        have fl := fold_le (ps.map fun p => ((p.1 : Int), (p.2 : Int))) ((p.1 : Int), (p.2 : Int))
        have em2 : PySem.W.minOf ((p.1 : Int), (p.2 : Int)) (ps.map fun p => ((p.1 : Int), (p.2 : Int))) = (ps.map fun p => ((p.1 : Int), (p.2 : Int))).foldl (fun a y => if ltP y a = true then y else a) ((p.1 : Int), (p.2 : Int)) := rfl
        rw [em2] at em
        rcases List.mem_cons.mp hy with rfl | hy
        · have := fl.1
          rw [← em] at this
          exact Int.ofNat_le.mp this
        · have := fl.2 _ (List.mem_map.mpr ⟨y, hy, rfl⟩)
          rw [← em] at this
          exact Int.ofNat_le.mp this
end
end K10


set_option Elab.async false
set_option linter.all false
set_option maxRecDepth 100000
set_option maxHeartbeats 4000000
namespace K10
open PySem L2 K10M PyProof.Rows
theorem b_set : bootBuiltins "set" = some (.type "set") := by decide +kernel
/-- the class's maker -/
def Maker (P : Program) (w : World) (K : PySem.W.Frag) (mg : Str → Option Value) (base : Heap) (k : Nat) (C : Addr) (x : Str) (ps : List Str) (sp : Sp) : Prop :=
  ∃ (f : Addr) (fd : FuncData), FnOk P w K mg base CX0 k f fd ps sp ∧ Mk K C f ∧ Binds K fd ps [] ∧ mg x = some (.ref C)
section
variable {X : Cx} {C : Addr} {x : Str} {k j : Nat} {ps : List Str} {sp : Sp} {e : Expr} {es : List Expr} {t : TA} {p pos : Pos}
theorem pe_mk (M : Maker X.prog X.w X.K X.mg X.base k C x ps sp) (hr : Room j X.A) (hk : k + 1 ≤ j) (hg : Gl X x) (ha : PA X (e :: es) t) (hdb : (x == ("__debug__" : Str)) = false := by decide)
    (he : starEach (e :: es) X.env = (false, eval e X.env) :: starEach es X.env := by rfl) (hpl : (backTo pos (starEach es X.env)).any (·.1) = false := by rfl) : PE X (.Call (.Name x p) (e :: es) [] pos) (tMake C sp [] E0 t) := by
  refine ⟨fun pins s σ H Q I h => ?_⟩
  obtain ⟨f, fd, F, hm, hb, hg2⟩ := M
  exact (pe_make hm F (hr.mono hk) hg hg2 hb .nil pass0 ha hdb he hpl).run pins s σ H Q I h
end
theorem ints_few {m : Nat} {ks : List Int} (nd : ks.Nodup) (h : ∀ k ∈ ks, 0 ≤ k ∧ k < m) : ks.length ≤ m := by
  have h1 : (ks.map Int.toNat).Nodup := by
    refine List.pairwise_map.mpr (List.Pairwise.imp_of_mem (fun {a b} ha hb ne z => ne ?_) nd)
    have := h a ha
    have := h b hb
    omega
  have := nodup_len (D := List.range m) h1 fun x hx => by
    obtain ⟨k, hk, rfl⟩ := List.mem_map.mp hx
    have := h k hk
    exact List.mem_range.mpr (by omega)
  rw [List.length_map, List.length_range] at this
  exact this
theorem at_last {told : List Nat} {z : Nat} (h : told[told.length - 1]? = some z) : atI (told.map nV) (-1) = some (nV z) := by
  have hl := (List.getElem?_eq_some_iff.mp h).1
  unfold atI ixN
  rw [List.length_map, if_neg (by omega), if_pos (by omega)]
  show (told.map nV)[((-1 : Int) + ((told.length : Nat) : Int)).toNat]? = _
  have e : ((-1 : Int) + ((told.length : Nat) : Int)).toNat = told.length - 1 := by omega
  rw [e, List.getElem?_map, h]; rfl
def JoinV (H : Hp) : Option Nat → V → Prop
  | none, v => v = .non
  | some x, v => ∃ r s, v = .ref r ∧ H r = some (.tup [nV x, .ref s])
def spJoin (Pt : Addr) : Sp := fun vs H Q _ => ∃ (w a : Addr) (n : Nat) (T : List Tie) (told : List Nat) (z : Nat), vs = [.ref w, .ref a] ∧ WebAt H w n T ∧ WebOk n T ∧ ToldAt H a told ∧ ToldOk n told ∧ told[told.length - 1]? = some z ∧ Tab Pt H ∧
  ∀ (o : Option Nat) (v : V) (H' : Hp), Grow H H' → Tab Pt H' → IsLeast T told (2 ^ told.length - 1) z o → JoinV H' o v → Q v H'
def spPrice (Pt : Addr) : Sp := fun vs H Q _ => ∃ (w a : Addr) (n : Nat) (T : List Tie) (told : List Nat) (z : Nat), vs = [.ref w, .ref a] ∧ WebAt H w n T ∧ WebOk n T ∧ ToldAt H a told ∧ ToldOk n told ∧ told[told.length - 1]? = some z ∧ Tab Pt H ∧
  ∀ (o : Option Nat) (H' : Hp), Grow H H' → Tab Pt H' → IsLeast T told (2 ^ told.length - 1) z o → Q (oV o) H'
section
variable {P : Program} {w : World} {K : PySem.W.Frag} {mg : Str → Option Value} {base : Heap}
abbrev nLj : List Str := ["web", "told", "table", "whole", "last"]
theorem scLj : FnScope nLj ["web", "told"] (defScope sJoin) := ⟨rfl, rfl, rfl, by decide +kernel, rfl, by decide +kernel, by decide +kernel⟩
theorem ok_join {f C Pt : Addr} {fd : FuncData} (F : Fun K "least_join" "least_join" sJoin f fd) (T : Txt mg) (cl : ClsT K C) (C5 : Method P w K mg base 49 C "ties" ["self", "lot", "place"] (spTies C 48)) (C6 : Maker P w K mg base 4 C "Table" ["self", "web", "told"] (spInit C Pt)) :
    FnOk P w K mg base CX0 50 f fd ["web", "told"] (spJoin Pt) := by
  refine F.ok scLj (fun vs H Q E h => ?_) (fun cdv A outer s H vs Q E hr h => ?_)
  · obtain ⟨wb, ta, n, Ti, told, z, rfl, _⟩ := h; rfl
  · obtain ⟨wb, ta, n, Ti, told, z, rfl, hW, hO, hA, hL, hz, hTab, q⟩ := h
    have hu := hu_of hr
    have hn8 := hO.n8
    have hl6 := hL.l6
    have hk1 : 1 ≤ told.length := List.length_pos_iff.mpr hL.ne
    obtain ⟨w1, w2, w3⟩ := two_pow_lt (i := 0) hk1 hl6
    have hzn : z < n := hL.lt z (List.mem_of_getElem? hz)
    have hlen : (told.map nV).length = told.length := List.length_map ..
    have eL : (1 * 2 ^ (((told.map nV).length : Nat) : Int).toNat - 1 : Int) = ((2 ^ told.length - 1 : Nat) : Int) := by rw [two_pow_z, hlen]; omega
    refine ⟨_, (pss_cons (ps_par3 (i := 2) (j := 3) (l := 4) rfl scLj.nd rfl rfl rfl (by decide) (by decide) (by decide) rfl rfl rfl (pa_cons (pe_mk C6 hr (by decide) (by rfl) (pa_cons (pv 0) (pa_cons (pv 1) pa_nil))) (pa_cons (pe_op op_sub (pe_op op_shl pe_int (pe_callB call_len_seq (by rfl) T.len b_len (pa_cons (pv 1) pa_nil))) pe_int) (pa_cons (pe_ix ix_tup (pv 1) (pe_un un_neg pe_int) (fun _ _ => rfl)) pa_nil))) (by rfl))
      (pss_cons (ps_if (pt_cmpR op_isN (pe_ix ix_list (pe_dget hu (pe_fld (pv 2) rfl) (pv 3) (fun _ _ => rfl)) (pv 4) (fun _ _ => rfl)) pe_non (nomark _)) (pss_one (ps_ret pe_non)) pss_nil)
      (pss_one (ps_ret (pe_tup (pa_cons (pe_ix ix_list (pe_dget hu (pe_fld (pv 2) rfl) (pv 3) (fun _ _ => rfl)) (pv 4) (fun _ _ => rfl)) (pa_cons (pe_callTy call_tuple_of (by rfl) T.tuple b_tuple (pa_cons (pe_callB (cr_sortedSet rfl) (by rfl) T.sorted b_sorted (pa_cons (pe_callTy (cr_setI rfl) (by rfl) T.set b_set (pa_cons (pe_mc cl C5 (pv 2) hr (by first | decide | exact Nat.le_refl _) (pa_cons (pv 3) (pa_cons (pv 4) pa_nil))) pa_nil)) pa_nil)) pa_nil)) pa_nil))))))), ?_⟩
    refine ⟨_, rfl, _, rfl, fun x dx nx ndx ne => ?_⟩
    have s1 : Same H (upd (upd H dx (.own x)) x (.ins C dx [])) := (same_upd ndx).trans (same_upd (by rw [upd_ne (Ne.symm ne)]; exact nx))
    refine ⟨x, wb, ta, dx, n, Ti, told, rfl, upd_same, hW.same s1, hO, s1 _ _ hA, hL, hTab.same s1, fun bd md B M cb cm H2 fr t2 hT hK => ⟨rfl, ?_⟩⟩
    have g2 : Grow H H2 := fun b o e n => fr b o (s1 _ _ e) n (ne_of_none e nx)
    have gW : ∀ {H' : Hp} {o : Option V}, DGet H' bd (nV (2 ^ told.length - 1)) o → DGet H' bd (.int (1 * 2 ^ (((told.map nV).length : Nat) : Int).toNat - 1)) o := fun h => by rw [eL]; exact h
    obtain ⟨⟨row, hrow⟩, hLot⟩ := hK.lots (2 ^ told.length - 1) (by omega) (by omega)
    have hbst : bst B (2 ^ told.length - 1) = row := by unfold bst; rw [hrow]; rfl
    have hlr : row.length = n := by rw [← hbst]; exact hLot.len
    obtain ⟨o, ho⟩ : ∃ o, row[z]? = some o := ⟨row[z]'(by omega), List.getElem?_eq_getElem _⟩
    have hLeast : IsLeast Ti told (2 ^ told.length - 1) z o := isLeast_of (best := bst B) (n := n) (fun lot h1 h2 => (hK.lots lot h1 h2).2) (by omega) (by omega) (by rw [hbst]; exact ho)
    obtain ⟨ra, gr, hra⟩ := hT.best.get hrow
    refine ⟨_, rfl, ta, _, rfl, .inr (SqT.of hT.told), _, _, rfl, rfl, ⟨by omega, by rw [hlen]; omega, by decide⟩, _, _, rfl, rfl, _, rfl, _, rfl, ta, _, _, _, rfl, rfl, SqT.of hT.told, at_last hz, _, _, _, rfl, ?_⟩
    refine ⟨_, rfl, fldB cl hT ?_⟩
    refine ⟨_, rfl, bd, _, rfl, gW gr, _, rfl, ra, _, _, _, rfl, rfl, SqL.of hra, at_row ho, rfl, _, rfl, ?_⟩
    cases o with
    | none =>
      refine iteD (by rfl) ?_
      exact q none .non H2 g2 t2 hLeast rfl
    | some v =>
      refine iteDF (fun z => by cases z) ?_
      refine ⟨_, rfl, fldB cl hT ?_⟩
      obtain ⟨dx', fs', i0, _, _, _, _, i5, i6, i7⟩ := hT.ins
      refine ⟨_, rfl, bd, _, rfl, gW gr, _, rfl, ra, _, _, _, rfl, rfl, SqL.of hra, at_row ho, _, rfl, x, dx', fs', rfl, i0, i7, _, rfl, _, rfl, x, wb, ta, bd, md, n, Ti, told, B, cb, M, cm, 2 ^ told.length - 1, z, 504, (by show [V.ref x, .int (1 * 2 ^ (((told.map nV).length : Nat) : Int).toNat - 1), nV z] = _; rw [eL]), hT, hO, hK.ends _ z (by omega) (by omega) hzn, by omega, fun r is H3 s3 hr3 hl3 hi3 => ?_⟩
      refine ⟨r, is.map Int.ofNat, rfl, SqL.of (by rw [map_int]; exact hr3), by rw [List.length_map]; omega, fun p c ks np nd hkl hki => ?_⟩
      have hc : c ≤ 30 := by
        rw [← hkl]
        refine ints_few nd fun k hk => ?_
        obtain ⟨i, hi, rfl⟩ := List.mem_map.mp ((hki k).mp hk)
        have := hi3 i hi
        constructor
        · exact Int.natCast_nonneg i
        · exact Int.ofNat_lt.mpr this
      refine ⟨p, _, c, rfl, upd_same, by omega, fun ns p2 _ _ hl np2 => ?_⟩
      refine ⟨p2, _, rfl, .inl ⟨SqL.of upd_same, fun p3 np3 => ⟨szl (by simp), fun r2 nr2 => ?_⟩⟩⟩
      have s4 := ((s3.trans (same_upd np)).trans (same_upd np2)).trans ((same_upd np3).trans (same_upd (o := .tup [nV v, V.ref p3]) nr2))
      exact q (some v) (.ref r2) _ (g2.trans (Grow.of s4)) (t2.same s4) hLeast ⟨r2, p3, rfl, upd_same⟩
abbrev nLp : List Str := ["web", "told", "found"]
theorem scLp : FnScope nLp ["web", "told"] (defScope sPrice) := ⟨rfl, rfl, rfl, by decide +kernel, rfl, by decide +kernel, by decide +kernel⟩
theorem ok_price {f Pt : Addr} {fd : FuncData} (F : Fun K "least_price" "least_price" sPrice f fd) (T : Txt mg) (C1 : Callee P w K mg base 3 "need_web" ["value"] spNeedWeb) (C2 : Callee P w K mg base 4 "need_told" ["web", "value"] spNeedTold) (C3 : Callee P w K mg base 50 "least_join" ["web", "told"] (spJoin Pt)) :
    FnOk P w K mg base CX0 51 f fd ["web", "told"] (spPrice Pt) := by
  refine F.ok scLp (fun vs H Q E h => ?_) (fun cdv A outer s H vs Q E hr h => ?_)
  · obtain ⟨wb, ta, n, Ti, told, z, rfl, _⟩ := h; rfl
  · obtain ⟨wb, ta, n, Ti, told, z, rfl, hW, hO, hA, hL, hz, hTab, q⟩ := h
    refine ⟨_, (pss_cons (ps_expr (pe_c C1 hr (by decide) (by rfl) (pa_cons (pv 0) pa_nil)))
      (pss_cons (ps_expr (pe_c C2 hr (by decide) (by rfl) (pa_cons (pv 0) (pa_cons (pv 1) pa_nil))))
      (pss_cons (ps_set (i := 2) scLp.nd rfl (.inl rfl) (pe_c C3 hr (by decide) (by rfl) (pa_cons (pv 0) (pa_cons (pv 1) pa_nil))))
      (pss_one (ps_ret (pe_ifExp (pt_cmpR op_notN (pv 2) pe_non (nomark _)) (pe_ix ix_tup (pv 2) pe_int (fun _ _ => rfl)) pe_non)))))), ?_⟩
    refine ⟨_, rfl, wb, n, Ti, rfl, hW, hO, fun H1 s1 => ?_⟩
    refine ⟨_, rfl, _, rfl, wb, ta, n, Ti, told, rfl, hW.same s1, s1 _ _ hA, hL, fun H2 s2 => ?_⟩
    have s12 := s1.trans s2
    refine ⟨_, rfl, _, rfl, wb, ta, n, Ti, told, z, rfl, hW.same s12, hO, s12 _ _ hA, hL, hz, hTab.same s12, fun o v H3 g3 t3 hLe hv => ?_⟩
    cases o with
    | none =>
      obtain rfl : v = .non := hv
      refine ⟨_, rfl, rfl, _, rfl, iteN rfl ?_⟩
      exact q none H3 ((Grow.of s12).trans g3) t3 hLe
    | some y =>
      obtain ⟨r, sl, rfl, hr⟩ := hv
      refine ⟨_, rfl, rfl, _, rfl, iteNF (fun z => by cases z) ⟨_, rfl, r, _, _, _, rfl, rfl, SqT.of hr, atI_nat (j := 0) rfl, ?_⟩⟩
      exact q (some y) H3 ((Grow.of s12).trans g3) t3 hLe
end
end K10


set_option Elab.async false
set_option linter.all false
set_option maxRecDepth 100000
set_option maxHeartbeats 4000000
namespace K10
open PySem L2 K10M PyProof.Rows
/-! ### comprehensions with two fors over lists -/
theorem lc2_list {K : PySem.W.Frag} {a : Addr} {xs : List V} {g g1 : TG} {tt tt1 : TT} {wi1 : TI} {te : TE} {vs vs1 : List Nat} {σ : L2.St} {H1 : Hp} {D : Addr} {Qd : Hp → Prop} (Pv : Nat → Hp → Prop) (h0 : Pv 0 (upd H1 D (.lst []))) (hl : ∀ i H, i ≤ xs.length → Pv i H → SqL K H a xs)
    (hs : ∀ i x H, xs[i]? = some x → Pv i H → g x (wipe σ vs) H fun σ2 H2 => wipe σ2 vs = wipe σ vs ∧ tt σ2 H2 fun b H3 =>
      if b = true then wi1 σ2 H3 fun J1 H4 => ∃ W1 : Nat → Nat → Hp → Prop, (∃ m, W1 0 m H4) ∧ ∀ j k H, W1 j k H → (J1.stop j H ∧ Pv (i + 1) H) ∨ (J1.go j H ∧ ∃ Nx1 : Hp → Prop, (∀ H', Nx1 H' → ∃ k', k' < k ∧ W1 (j + 1) k' H') ∧ ∀ x H', J1.yld j H x H' → g1 x (wipe σ2 vs1) H' fun σ3 H5 => wipe σ3 vs1 = wipe σ2 vs1 ∧ tt1 σ3 H5 fun b H6 => if b = true then te σ3 H6 fun y H7 => ∃ acc, H7 D = some (.lst acc) ∧ acc.length < sizeLine ∧ Nx1 (upd H7 D (.lst (acc ++ [y]))) else Nx1 H6)
      else Pv (i + 1) H3) (hd : ∀ H, Pv xs.length H → Qd H) :
    ∃ W : Nat → Nat → Hp → Prop, (∃ m, W 0 m (upd H1 D (.lst []))) ∧ ∀ i m H, W i m H → ((Itl K a).stop i H ∧ Qd H) ∨ ((Itl K a).go i H ∧ ∃ Nx : Hp → Prop, (∀ H', Nx H' → ∃ m', m' < m ∧ W (i + 1) m' H') ∧ ∀ x H', (Itl K a).yld i H x H' → g x (wipe σ vs) H' fun σ2 H2 => wipe σ2 vs = wipe σ vs ∧ tt σ2 H2 fun b H3 =>
      if b = true then wi1 σ2 H3 fun J1 H4 => ∃ W1 : Nat → Nat → Hp → Prop, (∃ m, W1 0 m H4) ∧ ∀ j k H, W1 j k H → (J1.stop j H ∧ Nx H) ∨ (J1.go j H ∧ ∃ Nx1 : Hp → Prop, (∀ H', Nx1 H' → ∃ k', k' < k ∧ W1 (j + 1) k' H') ∧ ∀ x H', J1.yld j H x H' → g1 x (wipe σ2 vs1) H' fun σ3 H5 => wipe σ3 vs1 = wipe σ2 vs1 ∧ tt1 σ3 H5 fun b H6 => if b = true then te σ3 H6 fun y H7 => ∃ acc, H7 D = some (.lst acc) ∧ acc.length < sizeLine ∧ Nx1 (upd H7 D (.lst (acc ++ [y]))) else Nx1 H6)
      else Nx H3) := by
  refine ⟨fun i m H => m = xs.length - i ∧ i ≤ xs.length ∧ Pv i H, ⟨xs.length, by simp, Nat.zero_le _, h0⟩, ?_⟩
  rintro i m H ⟨rfl, hi, p⟩
  have q := hl i H hi p
  by_cases hlt : i < xs.length
  · refine .inr ⟨⟨xs, xs[i], q, by simp [hlt]⟩, Pv (i + 1), fun H' p' => ⟨xs.length - (i + 1), by omega, rfl, hlt, p'⟩, fun x H' y => ?_⟩
    obtain ⟨e, y⟩ := y
    subst e
    exact hs i x _ (y xs q) p
  · have e : i = xs.length := by omega
    subst e
    exact .inl ⟨⟨xs, q, Nat.le_refl _⟩, hd H p⟩
theorem lc2_in {K : PySem.W.Frag} {b : Addr} {ys : List V} {g1 : TG} {tt1 : TT} {te : TE} {vs1 : List Nat} {σ2 : L2.St} {H4 : Hp} {D : Addr} {Nx : Hp → Prop} (Pv : Nat → Hp → Prop) (h0 : Pv 0 H4) (hl : ∀ j H, j ≤ ys.length → Pv j H → SqL K H b ys)
    (hs : ∀ j y H, ys[j]? = some y → Pv j H → g1 y (wipe σ2 vs1) H fun σ3 H5 => wipe σ3 vs1 = wipe σ2 vs1 ∧ tt1 σ3 H5 fun b H6 => if b = true then te σ3 H6 fun y H7 => ∃ acc, H7 D = some (.lst acc) ∧ acc.length < sizeLine ∧ Pv (j + 1) (upd H7 D (.lst (acc ++ [y]))) else Pv (j + 1) H6)
    (hd : ∀ H, Pv ys.length H → Nx H) :
    ∃ W1 : Nat → Nat → Hp → Prop, (∃ m, W1 0 m H4) ∧ ∀ j k H, W1 j k H → ((Itl K b).stop j H ∧ Nx H) ∨ ((Itl K b).go j H ∧ ∃ Nx1 : Hp → Prop, (∀ H', Nx1 H' → ∃ k', k' < k ∧ W1 (j + 1) k' H') ∧ ∀ x H', (Itl K b).yld j H x H' → g1 x (wipe σ2 vs1) H' fun σ3 H5 => wipe σ3 vs1 = wipe σ2 vs1 ∧ tt1 σ3 H5 fun b H6 => if b = true then te σ3 H6 fun y H7 => ∃ acc, H7 D = some (.lst acc) ∧ acc.length < sizeLine ∧ Nx1 (upd H7 D (.lst (acc ++ [y]))) else Nx1 H6) := by
  refine ⟨fun i m H => m = ys.length - i ∧ i ≤ ys.length ∧ Pv i H, ⟨ys.length, by simp, Nat.zero_le _, h0⟩, ?_⟩
  rintro i m H ⟨rfl, hi, p⟩
  have q := hl i H hi p
  by_cases hlt : i < ys.length
  · refine .inr ⟨⟨ys, ys[i], q, by simp [hlt]⟩, Pv (i + 1), fun H' p' => ⟨ys.length - (i + 1), by omega, rfl, hlt, p'⟩, fun x H' y => ?_⟩
    obtain ⟨e, y⟩ := y
    subst e
    exact hs i x _ (y ys q) p
  · have e : i = ys.length := by omega
    subst e
    exact .inl ⟨⟨ys, q, Nat.le_refl _⟩, hd H p⟩
/-! ### pairs as data -/
def dP (p : Nat × Nat) : PyData := .tuple [.int p.1, .int p.2]
theorem DpAll.pairs {K : PySem.W.Frag} {H : Hp} : ∀ {ts : List Addr} {ps : List (Nat × Nat)}, Paired (PairAt H) ts ps → DpAll K H (ts.map V.ref) (ps.map dP)
  | _, _, .nil => .nil
  | _, _, .cons e r => .cons (.tup (SqT.of (show H _ = some (.tup [nV _, nV _]) from e)) (.cons (.int _) (.cons (.int _) .nil))) (DpAll.pairs r)
theorem lay_pairs : ∀ ps : List (Nat × Nat), PyData.canLayAll0 (ps.map dP) = true
  | [] => rfl
  | p :: ps => by
    have := lay_pairs ps
    simp only [List.map_cons, PyData.canLayAll0, this, Bool.and_true]
    rfl
theorem deep_pairs : ∀ ps : List (Nat × Nat), PyData.depthAll (ps.map dP) ≤ 10
  | [] => by simp [PyData.depthAll]
  | p :: ps => by
    have := deep_pairs ps
    have h : PyData.depth (dP p) ≤ 10 := by simp [dP, PyData.depth, PyData.depthAll]
    simp only [List.map_cons, PyData.depthAll]
    omega
theorem shaped_pairs (ps : List (Nat × Nat)) : SeqAt.shaped (.list (ps.map dP)) = true := by
  unfold SeqAt.shaped
  have h := deep_pairs ps
  have h1 : PyData.canLay0 (.list (ps.map dP)) = true := by simp [PyData.canLay0, lay_pairs]
  have h2 : PyData.depth (.list (ps.map dP)) ≤ 64 := by simp only [PyData.depth]; omega
  rw [h1, decide_eq_true h2]; rfl
/-- the end of distance_price -/
def PrimEnd (T : List Tie) (told : List Nat) (row : Nat → List (Option Nat)) : Option Nat → Prop
  | some total => ∃ t0 held H, Prim T told row t0 total held [] H
  | none => ∃ t0 total held left H, Prim T told row t0 total held left H ∧ left ≠ [] ∧ ∀ o q, o ∈ held → q ∈ left → Dst row o q = none
def spDist (Pt : Addr) : Sp := fun vs H Q _ => ∃ (w a : Addr) (n : Nat) (T : List Tie) (told : List Nat) (row : Nat → List (Option Nat)), vs = [.ref w, .ref a] ∧ WebAt H w n T ∧ WebOk n T ∧ ToldAt H a told ∧ ToldOk n told ∧ Base T n told row ∧ Tab Pt H ∧
  ∀ (o : Option Nat) (H' : Hp), Grow H H' → Tab Pt H' → PrimEnd T told row o → Q (oV o) H'
structure RowsH (H : Hp) (rd ha la : Addr) (told : List Nat) (row : Nat → List (Option Nat)) (i : Nat) : Prop where
  ex : ∃ kvs : List (Key × V), H rd = some (.dK kvs) ∧ kvs.length ≤ i ∧ ∀ j p, j < i → told[j]? = some p → ∃ ra, valV kvs (kL p) = some (.ref ra) ∧ RowAt H ra (row p) ∧ ra ≠ ha ∧ ra ≠ la
theorem Tab.kbL {P ha la : Addr} {H H' : Hp} {xs ys : List V} (t : Tab P H) (e1 : H ha = some (.lst xs)) (e2 : H la = some (.lst ys)) (k : KB ha la H H') : Tab P H' := by
  obtain ⟨ps, h1, h2, h3⟩ := t
  refine ⟨ps, k _ _ h1 (fun z => by rw [z, e1] at h1; cases h1) (fun z => by rw [z, e2] at h1; cases h1), h2, fun pos cv hc => ?_⟩
  obtain ⟨c, q1, q2⟩ := h3 pos cv hc
  exact ⟨c, q1, k _ _ q2 (fun z => by rw [z, e1] at q2; unfold LamX.CodeO at q2; cases q2) (fun z => by rw [z, e2] at q2; unfold LamX.CodeO at q2; cases q2)⟩
theorem RowsH.get {H : Hp} {rd ha la : Addr} {told : List Nat} {row : Nat → List (Option Nat)} (h : RowsH H rd ha la told row told.length) {p : Nat} (hp : p ∈ told) : ∃ ra, DGet H rd (nV p) (some (.ref ra)) ∧ RowAt H ra (row p) := by
  obtain ⟨kvs, h1, _, h3⟩ := h.ex
  obtain ⟨j, hj⟩ := List.mem_iff_getElem?.mp hp
  obtain ⟨ra, h4, h5, _⟩ := h3 j p (List.getElem?_eq_some_iff.mp hj).1 hj
  exact ⟨ra, by have := DGet.k h1 (k := kL p); rw [h4] at this; exact this, h5⟩
theorem RowsH.kb {H H' : Hp} {rd ha la : Addr} {told : List Nat} {row : Nat → List (Option Nat)} {i : Nat} {xs ys : List V} (h : RowsH H rd ha la told row i) (e1 : H ha = some (.lst xs)) (e2 : H la = some (.lst ys)) (k : KB ha la H H') : RowsH H' rd ha la told row i := by
  obtain ⟨kvs, h1, h2, h3⟩ := h.ex
  refine ⟨kvs, k _ _ h1 (ne_of h1 e1 (by intro z; cases z)) (ne_of h1 e2 (by intro z; cases z)), h2, fun j p hj e => ?_⟩
  obtain ⟨ra, h4, h5, h6, h7⟩ := h3 j p hj e
  exact ⟨ra, h4, k _ _ h5 h6 h7, h6, h7⟩
/-- the pairs that the comprehension has found -/
structure PsI (told : List Nat) (row : Nat → List (Option Nat)) (held left : List Nat) (seen : Nat → Nat → Prop) (ps : List (Nat × Nat)) : Prop where
  of : ∀ p ∈ ps, ∃ one, one ∈ held ∧ p.2 ∈ left ∧ Dst row one p.2 = some p.1
  has : ∀ one o c, seen one o → Dst row one o = some c → (c, o) ∈ ps
theorem cut_tail (t0 : Nat) (r : List Nat) : cutV ((t0 :: r).map nV) (some 1) none = r.map nV := by
  unfold cutV
  have e : HT.sIx ((t0 :: r).map nV).length 0 (some 1) = 1 := by
    have := HT.sIx_nat ((t0 :: r).map nV).length 0 1
    rw [show ((1 : Nat) : Int) = 1 from rfl] at this
    rw [this]; simp
  rw [e, HT.sIx_none]
  simp only [List.map_cons, List.length_cons, List.drop_succ_cons, List.drop_zero, Nat.add_sub_cancel]
  exact List.take_length
theorem notwhole1 (t0 : Nat) (r : List Nat) : ¬ (HT.sIx ((t0 :: r).map nV).length 0 (some 1) = 0 ∧ HT.sIx ((t0 :: r).map nV).length ((t0 :: r).map nV).length none = ((t0 :: r).map nV).length) := by
  have e : HT.sIx ((t0 :: r).map nV).length 0 (some 1) = 1 := by
    have := HT.sIx_nat ((t0 :: r).map nV).length 0 1
    rw [show ((1 : Nat) : Int) = 1 from rfl] at this
    rw [this]; simp
  rw [e]
  rintro ⟨z, _⟩
  cases z
section
variable {P : Program} {w : World} {K : PySem.W.Frag} {mg : Str → Option Value} {base : Heap}
abbrev nDp : List Str := ["web", "told", "total", "held", "left", "rows", "place", "some", "cost", "one", "other"]
theorem scDp : FnScope nDp ["web", "told"] (defScope sDPrice) := ⟨rfl, rfl, rfl, by decide +kernel, rfl, by decide +kernel, by decide +kernel⟩
theorem ok_dist {f Pt : Addr} {fd : FuncData} (F : Fun K "distance_price" "distance_price" sDPrice f fd) (T : Txt mg) (C1 : Callee P w K mg base 3 "need_web" ["value"] spNeedWeb) (C2 : Callee P w K mg base 4 "need_told" ["web", "value"] spNeedTold) (C3 : Callee P w K mg base 3 "from_place" ["web", "place"] (spFrom Pt)) :
    FnOk P w K mg base CX0 5 f fd ["web", "told"] (spDist Pt) := by
  refine F.ok scDp (fun vs H Q E h => ?_) (fun cdv A outer s H vs Q E hr h => ?_)
  · obtain ⟨wb, ta, n, Ti, told, row, rfl, _⟩ := h; rfl
  · obtain ⟨wb, ta, n, Ti, told, row, rfl, hW, hO, hA, hL, hB, hTab, q⟩ := h
    have hu := hu_of hr
    have hn8 := hO.n8
    have hl6 := hL.l6
    obtain ⟨t0, rest, rfl⟩ : ∃ t0 r, told = t0 :: r := by
      cases told with
      | nil => exact absurd rfl hL.ne
      | cons a r => exact ⟨a, r, rfl⟩
    refine ⟨_, (pss_cons (ps_expr (pe_c C1 hr (by decide) (by rfl) (pa_cons (pv 0) pa_nil)))
      (pss_cons (ps_expr (pe_c C2 hr (by decide) (by rfl) (pa_cons (pv 0) (pa_cons (pv 1) pa_nil))))
      (pss_cons (ps_asg (pe_tup (pa_cons pe_int (pa_cons (pe_lst (pa_cons (pe_ix ix_tup (pv 1) pe_int (fun _ _ => rfl)) pa_nil)) (pa_cons (pe_callTy call_list_of (by rfl) T.list b_list (pa_cons (pe_slice sl_tup (pv 1) (po_some pe_int) po_none) pa_nil)) pa_nil)))) (pg_tup rfl (pgs_cons (pg_name (i := 2) scDp.nd rfl (.inl rfl)) (pgs_cons (pg_name (i := 3) scDp.nd rfl (.inl rfl)) (pgs_cons (pg_name (i := 4) scDp.nd rfl (.inr rfl)) pgs_nil)))))
      (pss_cons (ps_set (i := 5) scDp.nd rfl (.inr rfl) pe_dnewK)
      (pss_cons (ps_for PassesOwn.never rfl (pi_tup (pv 1)) (pg_name (i := 6) scDp.nd rfl (.inl rfl)) (pss_one (ps_dput hu (pv 5) (pv 6) (pe_ix ix_tup (pe_c C3 hr (by decide) (by rfl) (pa_cons (pv 0) (pa_cons (pv 6) pa_nil))) pe_int (fun _ _ => rfl)) rfl)))
      (pss_cons (ps_while PassesOwn.never (pt_cmpR (op_neD hr.units) (pv 4) (pe_lst pa_nil) (nomark _)) (pss_cons (ps_setLc2 (i := 7) (own := [("one", 9), ("other", 10)]) (vs1 := [10]) rfl scDp.nd rfl rfl (sw_true rfl rfl rfl (by decide +kernel)) (pi_list (pv 3)) (blkOk_by (N := nDp) (sc := defScope sDPrice) (by decide +kernel)) (by decide) (fun _ _ _ _ _ => (pg_name (i := 9) scDp.nd rfl (.inl rfl))) (fun _ _ _ _ _ => pts_nil) (fun _ _ _ _ _ => (pi_list' K (pv 4))) (fun _ _ _ _ _ => (pg_name (i := 10) scDp.nd rfl (.inl rfl))) (fun _ _ _ _ _ => (pts_one (pt_cmpR op_notN (pe_ix (ix_list' K) (pe_dget hu (pv 5) (pv 9) (fun _ _ => rfl)) (pv 10) (fun _ _ => rfl)) pe_non (nomark _)))) (fun _ _ _ _ _ => (pe_tup (pa_cons (pe_ix (ix_list' K) (pe_dget hu (pv 5) (pv 9) (fun _ _ => rfl)) (pv 10) (fun _ _ => rfl)) (pa_cons (pv 10) pa_nil)))))
      (pss_cons (ps_if (pt_cmpR (op_eqD hr.units) (pv 7) (pe_lst pa_nil) (nomark _)) (pss_one (ps_ret pe_non)) pss_nil)
      (pss_cons (ps_asg (pe_callB (cr_minP rfl hr.units) (by rfl) T.min b_min (pa_cons (pv 7) pa_nil)) (pg_tup rfl (pgs_cons (pg_name (i := 8) scDp.nd rfl (.inl rfl)) (pgs_cons (pg_name (i := 6) scDp.nd rfl (.inl rfl)) pgs_nil))))
      (pss_cons (ps_aug (i := 2) scDp.nd rfl (.inl rfl) (pv 8) ip_add)
      (pss_cons (ps_expr (pe_bm PySem.F.plainAttrs_list PySem.F.slot_list_append PySem.F.type_list_append mt_append (pv 3) (pa_cons (pv 6) pa_nil)))
      (pss_one (ps_expr (pe_bm PySem.F.plainAttrs_list PySem.F.slot_list_remove PySem.F.type_list_remove mt_remove (pv 4) (pa_cons (pv 6) pa_nil))))))))))
      (pss_one (ps_ret (pv 2))))))))), ?_⟩
    refine ⟨_, rfl, wb, n, Ti, rfl, hW, hO, fun H1 s1 => ?_⟩
    refine ⟨_, rfl, _, rfl, wb, ta, n, Ti, _, rfl, hW.same s1, s1 _ _ hA, hL, fun H2 s2 => ?_⟩
    have s12 := s1.trans s2
    have hA2 := s12 _ _ hA
    refine ⟨_, rfl, ta, _, _, _, rfl, rfl, SqT.of hA2, atI_nat (j := 0) rfl, szl (by simp), fun ha nha => ?_⟩
    have s3 := same_upd (o := HO.lst [nV t0]) nha
    refine ⟨_, rfl, _, rfl, ta, _, rfl, SqT.of (s3 _ _ hA2), notwhole1 t0 rest, fun sl nsl => ?_⟩
    have s4 := s3.trans (same_upd (o := HO.tup (cutV ((t0 :: rest).map nV) (some 1) none)) nsl)
    refine ⟨sl, _, rfl, .inr (SqT.of upd_same), fun la nla => ⟨szl (by simp), fun tp ntp => ⟨tp, _, rfl, SqT.of upd_same, rfl, _, _, rfl, _, _, rfl, _, _, rfl, rfl, ?_⟩⟩⟩
    rw [cut_tail] at nla ntp s4 ⊢
    have s5 := s4.trans (same_upd (o := HO.lst (rest.map nV)) nla)
    have s6 := s5.trans (same_upd (o := HO.tup [V.int 0, V.ref ha, V.ref la]) ntp)
    refine fun rd nrd => ?_
    have s7 := s6.trans (same_upd (o := HO.dK []) nrd)
    have bA := s7 _ _ hA2
    have hal : ha ≠ la := ne_of_none (same_upd nsl _ _ (upd_same (H := H2) (a := ha) (o := HO.lst [nV t0]))) nla
    have bha := (((same_upd nsl).trans (same_upd nla)).trans ((same_upd ntp).trans (same_upd (o := .dK []) nrd))) _ _ (upd_same (H := H2) (a := ha) (o := HO.lst [nV t0]))
    have bla := ((same_upd ntp).trans (same_upd (o := .dK []) nrd)) _ _ (upd_same (a := la) (o := HO.lst (rest.map nV)))
    have brd := upd_same (H := upd (upd (upd (upd H2 ha (.lst [nV t0])) sl (.tup (rest.map nV))) la (.lst (rest.map nV))) tp (.tup [V.int 0, V.ref ha, V.ref la])) (a := rd) (o := HO.dK [])
    have sB := s12.trans s7
    have fha : H ha = none := s12.free nha
    have fla : H la = none := (s12.trans s4).free nla
    have frd : H rd = none := (s12.trans s6).free nrd
    generalize upd (upd (upd (upd (upd H2 ha (.lst [nV t0])) sl (.tup (rest.map nV))) la (.lst (rest.map nV))) tp (.tup [V.int 0, V.ref ha, V.ref la])) rd (.dK []) = Hb at bA bha bla brd sB s7 ⊢
    clear s7 s6 s5 s4 s3 ntp nla nsl nha nrd
    have hne1 : ha ≠ rd := ne_of bha brd (by intro z; cases z)
    have hne2 : la ≠ rd := ne_of bla brd (by intro z; cases z)
    refine ⟨_, rfl, ta, rfl, ⟨_, SqT.of bA⟩, for_tup (K := K) (a := ta) (xs := (t0 :: rest).map nV) (fun i σ H' => ∃ v6 v7 v8 v9 v10, σ = [some (.ref wb), some (.ref ta), some (nV 0), some (.ref ha), some (.ref la), some (.ref rd), v6, v7, v8, v9, v10] ∧ (∀ b o, Hb b = some o → (∀ ps, o ≠ .tbl ps) → b ≠ rd → H' b = some o) ∧ Tab Pt H' ∧ RowsH H' rd ha la (t0 :: rest) row i)
      ⟨_, _, _, _, _, rfl, fun b o e _ _ => e, hTab.same sB, ⟨[], brd, Nat.le_refl _, fun j p h => absurd h (Nat.not_lt_zero _)⟩⟩ (fun i σ H' _ ⟨_, _, _, _, _, _, f, _⟩ => SqT.of (f _ _ bA (by intro _ z; cases z) (ne_of bA brd (by intro z; cases z)))) ?_ ?_⟩
    · rintro i xv σ H3 hx ⟨v6, v7, v8, v9, v10, rfl, f3, t3, R3⟩
      obtain ⟨p, hp, rfl⟩ : ∃ p, (t0 :: rest)[i]? = some p ∧ xv = nV p := by
        rw [List.getElem?_map] at hx
        cases h : (t0 :: rest)[i]? with
        | none => rw [h] at hx; cases hx
        | some p => rw [h] at hx; exact ⟨p, rfl, (Option.some.inj hx).symm⟩
      have hpm := List.mem_of_getElem? hp
      have hil := (List.getElem?_eq_some_iff.mp hp).1
      have hW3 : WebAt H3 wb n Ti := hW.ext fun b xs e => f3 b _ (sB _ _ e) (by intro _ z; cases z) (ne_of_none e frd)
      refine ⟨_, rfl, _, rfl, wb, p, n, Ti, rfl, hW3, hO, hL.lt p hpm, t3, fun r ra ba rw H4 nra g4 t4 hr4 hra4 hd => ⟨r, _, _, _, rfl, rfl, SqT.of hr4, atI_nat (j := 0) rfl, ?_⟩⟩
      obtain rfl : rw = row p := hd.uniq (hB.rows p hpm)
      obtain ⟨kvs, k1, k2, k3⟩ := R3.ex
      have k1' : H4 rd = some (.dK kvs) := Grow.at g4 k1
      have h3a : H3 ha = some (.lst [nV t0]) := f3 _ _ bha (by intro _ z; cases z) hne1
      have h3l : H3 la = some (.lst (rest.map nV)) := f3 _ _ bla (by intro _ z; cases z) hne2
      refine ⟨_, rfl, _, rfl, rd, _, rfl, DPut.k (k := kL p) k1' (sz (by omega)), ?_⟩
      have lst_ : ∀ b xs, H4 b = some (.lst xs) → upd H4 rd (.dK (putK kvs (kL p) (.ref ra))) b = some (.lst xs) := fun b xs e => by rw [upd_ne (ne_of e k1' (by intro z; cases z))]; exact e
      refine ⟨_, _, _, _, _, rfl, fun b o e n ne => by rw [upd_ne ne]; exact g4 b o (f3 b o e n ne) n, t4.putK k1', ⟨_, upd_same, ?_, fun j p' hj e => ?_⟩⟩
      · have : ∀ (c : List (Key × V)) k x, (putK c k x).length ≤ c.length + 1 := fun c k x => by
          unfold putK
          split <;> simp
        have := this kvs (kL p) (.ref ra)
        omega
      · rw [valV_put]
        by_cases z : p' = p
        · subst z
          rw [if_pos rfl]
          exact ⟨ra, rfl, lst_ _ _ hra4, Ne.symm (ne_of_none h3a nra), Ne.symm (ne_of_none h3l nra)⟩
        · rw [if_neg (fun k => z (by have := Sum.inl.inj k; omega))]
          have hj' : j < i := by
            by_cases zj : j = i
            · subst zj; rw [hp] at e; exact absurd (Option.some.inj e).symm z
            · omega
          obtain ⟨ra', q1, q2, q3, q4⟩ := k3 j p' hj' e
          exact ⟨ra', q1, lst_ _ _ (Grow.at g4 q2), q3, q4⟩
    · rintro σ Hc ⟨v6, v7, v8, v9, v10, rfl, fc, tc, Rc⟩
      have Rc : RowsH Hc rd ha la (t0 :: rest) row (t0 :: rest).length := by rw [List.length_map] at Rc; exact Rc
      have cha : Hc ha = some (.lst ([t0].map nV)) := fc _ _ bha (by intro _ z; cases z) hne1
      have cla : Hc la = some (.lst (rest.map nV)) := fc _ _ bla (by intro _ z; cases z) hne2
      have gc : Grow H Hc := fun b o e n => fc b o (sB _ _ e) n (ne_of_none e frd)
      have grow : ∀ {H' : Hp}, KB ha la Hc H' → Grow H H' := fun k b o e n => k b o (gc b o e n) (ne_of_none e fha) (ne_of_none e fla)
      refine ⟨fun m σ H' => ∃ total held left Hf v6 v7 v8 v9 v10, σ = [some (.ref wb), some (.ref ta), some (nV total), some (.ref ha), some (.ref la), some (.ref rd), v6, v7, v8, v9, v10] ∧ KB ha la Hc H' ∧ H' ha = some (.lst (held.map nV)) ∧ H' la = some (.lst (left.map nV)) ∧
        Prim Ti (t0 :: rest) row t0 total held left Hf ∧ held.length + left.length ≤ 6 ∧ m = left.length, ⟨_, 0, [t0], rest, [], _, _, _, _, _, rfl, fun _ _ e _ _ => e, cha, cla, prim_start hB rfl, by simp at hl6 ⊢; omega, rfl⟩, ?_⟩
      rintro m σ H5 ⟨total, held, left, Hf, v6, v7, v8, v9, v10, rfl, k5, h5a, h5l, Pm, hlen, rfl⟩
      refine ⟨_, rfl, szl (by simp), fun p np => ⟨.list (left.map dN), .list [], .lst (SqL.of (same_upd np _ _ h5l)) (DpAll.ints left), .lst (SqL.of upd_same) .nil, shaped_ints left, rfl, _, rfl, ?_⟩⟩
      have s6 := same_upd (o := HO.lst []) np
      have k6 : KB ha la Hc (upd H5 p (.lst [])) := fun b o e q1 q2 => s6 _ _ (k5 b o e q1 q2)
      have h6a := s6 _ _ h5a
      have h6l := s6 _ _ h5l
      generalize upd H5 p (.lst []) = H6 at s6 k6 h6a h6l ⊢
      have R6 := Rc.kb cha cla k6
      rw [eqv_nil]
      by_cases hle : left.map dN = []
      · have hle' : left = [] := List.map_eq_nil_iff.mp hle
        subst hle'
        refine iteN hle ⟨_, rfl, ?_⟩
        exact q (some total) H6 (grow k6) (tc.kbL cha cla k6) ⟨t0, held, Hf, Pm⟩
      · have hle' : left ≠ [] := fun z => hle (by rw [z]; rfl)
        refine iteNF hle ⟨fun σ' H' => ∃ m', m' < left.length ∧ ∃ total held left Hf v6 v7 v8 v9 v10, σ' = [some (.ref wb), some (.ref ta), some (nV total), some (.ref ha), some (.ref la), some (.ref rd), v6, v7, v8, v9, v10] ∧ KB ha la Hc H' ∧ H' ha = some (.lst (held.map nV)) ∧ H' la = some (.lst (left.map nV)) ∧
          Prim Ti (t0 :: rest) row t0 total held left Hf ∧ held.length + left.length ≤ 6 ∧ m' = left.length, fun _ _ h => h, ?_⟩
        refine ⟨_, rfl, ha, rfl, ⟨_, SqL.of h6a⟩, fun D nD => lc2_list (K := K) (a := ha) (xs := held.map nV) (fun i H' => Same H6 H' ∧ ∃ ts ps, H' D = some (.lst (ts.map V.ref)) ∧ Paired (PairAt H') ts ps ∧ ps.length ≤ 6 * i ∧ PsI (t0 :: rest) row held left (fun one o => ∃ j, j < i ∧ held[j]? = some one ∧ o ∈ left) ps)
          ⟨same_put nD (Same.refl _), [], [], upd_same, .nil, Nat.zero_le _, (fun _ h => nomatch h), fun one o c ⟨j, h, _⟩ => absurd h (Nat.not_lt_zero _)⟩ (fun i H' _ ⟨s7, _⟩ => SqL.of (s7 _ _ h6a)) ?_ ?_⟩
        · rintro i x H7 hx ⟨s7, ts, ps, h7, P7, l7, I7⟩
          obtain ⟨one, hone, rfl⟩ : ∃ p, held[i]? = some p ∧ x = nV p := by
            rw [List.getElem?_map] at hx
            cases h : held[i]? with
            | none => rw [h] at hx; cases hx
            | some p => rw [h] at hx; exact ⟨p, rfl, (Option.some.inj hx).symm⟩
          have honem := List.mem_of_getElem? hone
          have htold : one ∈ t0 :: rest := (Pm.all one).mpr (.inl honem)
          refine ⟨rfl, ?_⟩
          refine ⟨_, rfl, la, rfl, ⟨_, SqL.of (s7 _ _ h6l)⟩, lc2_in (K := K) (b := la) (ys := left.map nV) (fun j H' => Same H6 H' ∧ ∃ ts ps, H' D = some (.lst (ts.map V.ref)) ∧ Paired (PairAt H') ts ps ∧ ps.length ≤ 6 * i + j ∧ PsI (t0 :: rest) row held left (fun one' o => (∃ j, j < i ∧ held[j]? = some one' ∧ o ∈ left) ∨ (one' = one ∧ ∃ j', j' < j ∧ left[j']? = some o)) ps)
            ⟨s7, ts, ps, h7, P7, l7, I7.of, fun one' o c h => I7.has one' o c (h.resolve_right fun ⟨_, j', h, _⟩ => absurd h (Nat.not_lt_zero _))⟩ (fun j H' _ ⟨s8, _⟩ => SqL.of (s8 _ _ h6l)) ?_ ?_⟩
          · rintro j y H8 hy ⟨s8, ts8, ps8, h8, P8, l8, I8⟩
            obtain ⟨o, ho, rfl⟩ : ∃ p, left[j]? = some p ∧ y = nV p := by
              rw [List.getElem?_map] at hy
              cases h : left[j]? with
              | none => rw [h] at hy; cases hy
              | some p => rw [h] at hy; exact ⟨p, rfl, (Option.some.inj hy).symm⟩
            have hom := List.mem_of_getElem? ho
            have hjl := (List.getElem?_eq_some_iff.mp ho).1
            have hil := (List.getElem?_eq_some_iff.mp hone).1
            have hotold : o ∈ t0 :: rest := (Pm.all o).mpr (.inr hom)
            have hon := hL.lt o hotold
            have k8 : KB ha la Hc H8 := fun b o e q1 q2 => s8 _ _ (k6 b o e q1 q2)
            have R8 := Rc.kb cha cla k8
            obtain ⟨ra, gr, hra⟩ := R8.get htold
            obtain ⟨z, hz⟩ : ∃ z, (row one)[o]? = some z := ⟨(row one)[o]'(by rw [(hB.rows one htold).len]; exact hon), List.getElem?_eq_getElem _⟩
            refine ⟨rfl, _, rfl, _, rfl, rd, _, rfl, gr, _, rfl, ra, _, _, _, rfl, rfl, SqL.of hra, at_row hz, rfl, _, rfl, ?_⟩
            cases z with
            | none =>
              refine iteN rfl ⟨s8, ts8, ps8, h8, P8, by omega, I8.of, fun one' o' c h hd => ?_⟩
              rcases h with h | ⟨rfl, j', hj', e⟩
              · exact I8.has one' o' c (.inl h) hd
              · by_cases zj : j' = j
                · subst zj
                  rw [ho] at e
                  cases e
                  rw [dst_some, hz] at hd; cases hd
                · exact I8.has _ o' c (.inr ⟨rfl, j', by omega, e⟩) hd
            | some c =>
              refine iteNF (fun z => by cases z) ⟨_, rfl, _, rfl, rd, _, rfl, gr, _, rfl, ra, _, _, _, rfl, rfl, SqL.of hra, at_row hz, _, rfl, szl (by simp), fun tp ntp => ⟨ts8.map V.ref, ?_, ?_, ?_⟩⟩
              · rw [upd_ne (ne_of_none h8 ntp)]; exact h8
              · have := P8.length
                rw [List.length_map]
                exact sz (by omega)
              · have s9 := same_upd (o := HO.tup [oV (some c), nV o]) ntp
                have nDt : tp ≠ D := fun z => by rw [z, h8] at ntp; cases ntp
                refine ⟨same_put nD (s8.trans s9), ts8 ++ [tp], ps8 ++ [(c, o)], by rw [upd_same, List.map_append]; rfl, ?_, by rw [List.length_append]; simp; omega, fun p hp => ?_, fun one' o' c' h hd => ?_⟩
                · refine Paired.snoc (P8.mono fun a b e => ?_) ?_
                  · have e : H8 a = some (.tup [nV b.1, nV b.2]) := e
                    show upd _ D _ a = _
                    rw [upd_ne (ne_of e h8 (by intro z; cases z)), upd_ne (ne_of_none e ntp)]; exact e
                  · show upd _ D _ tp = some (.tup [nV c, nV o])
                    rw [upd_ne nDt, upd_same]; rfl
                · rcases List.mem_append.mp hp with hp | hp
                  · exact I8.of p hp
                  · rw [List.mem_singleton.mp hp]
                    exact ⟨one, honem, hom, dst_some.mpr hz⟩
                · rcases h with h | ⟨rfl, j', hj', e⟩
                  · exact List.mem_append_left _ (I8.has one' o' c' (.inl h) hd)
                  · by_cases zj : j' = j
                    · subst zj
                      rw [ho] at e
                      cases e
                      rw [dst_some, hz] at hd
                      cases hd
                      exact List.mem_append_right _ List.mem_cons_self
                    · exact List.mem_append_left _ (I8.has _ o' c' (.inr ⟨rfl, j', by omega, e⟩) hd)
          · rintro H8 ⟨s8, ts8, ps8, h8, P8, l8, I8⟩
            have hll : (left.map nV).length = left.length := List.length_map ..
            rw [hll] at l8 I8
            have hil := (List.getElem?_eq_some_iff.mp hone).1
            refine ⟨s8, ts8, ps8, h8, P8, by omega, I8.of, fun one' o' c' h hd => I8.has one' o' c' ?_ hd⟩
            obtain ⟨j, hj, e, ho'⟩ := h
            by_cases z : j = i
            · subst z
              rw [hone] at e
              cases e
              obtain ⟨j', hj'⟩ := List.mem_iff_getElem?.mp ho'
              exact .inr ⟨rfl, j', (List.getElem?_eq_some_iff.mp hj').1, hj'⟩
            · exact .inl ⟨j, by omega, e, ho'⟩
        · rintro H7 ⟨s7, ts, ps, h7, P7, l7, I7⟩
          have hll : (held.map nV).length = held.length := List.length_map ..
          rw [hll] at l7 I7
          have has : ∀ one o c, one ∈ held → o ∈ left → Dst row one o = some c → (c, o) ∈ ps := fun one o c h1 h2 hd => by
            obtain ⟨j, hj⟩ := List.mem_iff_getElem?.mp h1
            exact I7.has one o c ⟨j, (List.getElem?_eq_some_iff.mp hj).1, hj, h2⟩ hd
          refine ⟨_, rfl, szl (by simp), fun p2 np2 => ?_⟩
          have s8 := same_upd (o := HO.lst []) np2
          have P8 : Paired (PairAt (upd H7 p2 (.lst []))) ts ps := P7.mono fun a b e => s8 _ _ e
          refine ⟨.list (ps.map dP), .list [], .lst (SqL.of (s8 _ _ h7)) (DpAll.pairs P8), .lst (SqL.of upd_same) .nil, shaped_pairs ps, rfl, _, rfl, ?_⟩
          have h8 := s8 _ _ h7
          have s68 := s7.trans s8
          have k8 : KB ha la Hc (upd H7 p2 (.lst [])) := fun b o e q1 q2 => s68 _ _ (k6 b o e q1 q2)
          have h8a := s68 _ _ h6a
          have h8l := s68 _ _ h6l
          generalize upd H7 p2 (.lst []) = H8 at P8 h8 k8 h8a h8l ⊢
          rw [eqv_nil]
          by_cases hps : ps.map dP = []
          · have hps' : ps = [] := List.map_eq_nil_iff.mp hps
            refine iteD hps ?_
            refine q none H8 (grow k8) (tc.kbL cha cla k8) ⟨t0, total, held, left, Hf, Pm, hle', fun o q' h1 h2 => ?_⟩
            cases hd : Dst row o q' with
            | none => rfl
            | some c =>
              have := has o q' c h1 h2 hd
              rw [hps'] at this; cases this
          · have hps' : ps ≠ [] := fun z => hps (by rw [z]; rfl)
            refine iteDF hps ?_
            refine ⟨_, rfl, D, ts, ps, rfl, h8, P8, hps', fun t pp hpp hPt hmin => ⟨t, _, rfl, SqT.of hPt, rfl, _, _, rfl, _, _, rfl, rfl, ?_⟩⟩
            obtain ⟨one, h1, h2, hd⟩ := I7.of pp hpp
            have Pm2 := prim_step hB Pm h1 h2 hd fun o q' c' q1 q2 q3 => hmin _ (has o q' c' q1 q2 q3)
            have hmem : pp.2 ∈ left := h2
            obtain ⟨j, j1, j2, j3⟩ := erase_at hmem Pm.nd
            have hll := List.length_erase_of_mem hmem
            have hlp := List.length_pos_of_mem hmem
            refine ⟨_, rfl, _, rfl, _, _, rfl, rfl, _, rfl, .inl ⟨rfl, _, SqL.of h8a⟩, _, rfl, ha, _, _, rfl, rfl, h8a, by rw [List.length_map]; exact sz (by omega), ?_⟩
            have k9 : KB ha la Hc (upd H8 ha (.lst (held.map nV ++ [nV pp.2]))) := fun b o e q1 q2 => by rw [upd_ne q1]; exact k8 b o e q1 q2
            have h9a : upd H8 ha (.lst (held.map nV ++ [nV pp.2])) ha = some (.lst ((held ++ [pp.2]).map nV)) := by rw [upd_same, List.map_append]; rfl
            have h9l : upd H8 ha (.lst (held.map nV ++ [nV pp.2])) la = some (.lst (left.map nV)) := by rw [upd_ne (Ne.symm hal)]; exact h8l
            generalize upd H8 ha (.lst (held.map nV ++ [nV pp.2])) = H9 at k9 h9a h9l ⊢
            refine ⟨_, rfl, .inl ⟨rfl, _, SqL.of h9l⟩, _, rfl, la, left.map Int.ofNat, pp.2, j, rfl, rfl, by rw [map_int]; exact h9l, j1, j2, ?_⟩
            rw [j3, map_int]
            exact ⟨_, by omega, total + pp.1, held ++ [pp.2], left.erase pp.2, _, _, _, _, _, _, rfl, fun b o e q1 q2 => by rw [upd_ne q2]; exact k9 b o e q1 q2, by rw [upd_ne hal]; exact h9a, upd_same, Pm2, by rw [List.length_append]; simp; omega, rfl⟩
end
end K10


set_option Elab.async false
set_option linter.all false
set_option maxRecDepth 100000
set_option maxHeartbeats 4000000
namespace K10
open PySem L2 K10M PyProof.Rows
/-- all but the row stays -/
abbrev KR (r : Addr) (H H' : Hp) : Prop := ∀ b o, H b = some o → b ≠ r → H' b = some o
/-- all but the row and the tables stays -/
abbrev KRG (r : Addr) (H H' : Hp) : Prop := ∀ b o, H b = some o → (∀ ps, o ≠ .tbl ps) → b ≠ r → H' b = some o
/-- the law's row of draws at r, the script at a -/
structure LRow (K : PySem.W.Frag) (H : Hp) (r a : Addr) (ns : List Int) : Prop where
  ex : ∃ (i seed rest : Int), 0 ≤ i ∧ H r = some (.lst [.ref a, .int i, .int seed, .int rest])
  sqs : ∀ H', KRG r H H' → SqL K H' a (ns.map V.int)
theorem LRow.sq {K : PySem.W.Frag} {H : Hp} {r a : Addr} {ns : List Int} (h : LRow K H r a ns) : SqL K H a (ns.map V.int) := h.sqs H fun _ _ e _ _ => e
theorem LRow.put {K : PySem.W.Frag} {H : Hp} {r a : Addr} {ns : List Int} (h : LRow K H r a ns) (i seed rest : Int) (hi : 0 ≤ i) : LRow K (upd H r (.lst [.ref a, .int i, .int seed, .int rest])) r a ns :=
  ⟨⟨i, seed, rest, hi, upd_same⟩, fun H' k => h.sqs H' fun b o e n ne => k b o (by rw [upd_ne ne]; exact e) n ne⟩
theorem LRow.grow {K : PySem.W.Frag} {H H' : Hp} {r a : Addr} {ns : List Int} (h : LRow K H r a ns) (s : Grow H H') : LRow K H' r a ns := by
  obtain ⟨i, seed, rest, hi, e⟩ := h.ex
  exact ⟨⟨i, seed, rest, hi, Grow.at s e⟩, fun H2 k => h.sqs H2 fun b o e n ne => k b o (s b o e n) n ne⟩
theorem LRow.same {K : PySem.W.Frag} {H H' : Hp} {r a : Addr} {ns : List Int} (h : LRow K H r a ns) (s : Same H H') : LRow K H' r a ns := h.grow (Grow.of s)
def spTaken (K : PySem.W.Frag) : Sp := fun vs H Q _ => ∃ (r a : Addr) (ns : List Int) (m : Nat), vs = [.ref r, nV m] ∧ LRow K H r a ns ∧ 0 < m ∧ m < 1073741824 ∧
  ∀ (x : Nat) (H' : Hp), x < m → KR r H H' → LRow K H' r a ns → Q (nV x) H'
def spPick (K : PySem.W.Frag) : Sp := fun vs H Q _ => ∃ (r a l : Addr) (ns : List Int) (xs : List Nat), vs = [.ref r, .ref l] ∧ LRow K H r a ns ∧ H l = some (.lst (xs.map nV)) ∧ xs ≠ [] ∧ xs.length < 1000 ∧
  ∀ (x : Nat) (H' : Hp), x ∈ xs → KR r H H' → LRow K H' r a ns → Q (nV x) H'
theorem mod_nat {i : Int} {m : Nat} (h : 0 < m) : ∃ x : Nat, x < m ∧ i % (m : Int) = (x : Int) := by
  have h1 := Int.emod_nonneg i (show (m : Int) ≠ 0 by omega)
  have h2 := Int.emod_lt_of_pos i (show (0 : Int) < (m : Int) by omega)
  exact ⟨(i % (m : Int)).toNat, by omega, by omega⟩
section
variable {P : Program} {w : World} {K : PySem.W.Frag} {mg : Str → Option Value} {base : Heap}
abbrev nTk : List Str := ["_law_row", "_law_many", "_law_found", "_law_cell"]
theorem scTk : FnScope nTk ["_law_row", "_law_many"] (defScope sTaken) := ⟨rfl, rfl, rfl, by decide +kernel, rfl, by decide +kernel, by decide +kernel⟩
theorem ok_taken {f : Addr} {fd : FuncData} (F : Fun K "_law_taken" "_law_taken" sTaken f fd) (T : Txt mg) : FnOk P w K mg base CX0 1 f fd ["_law_row", "_law_many"] (spTaken K) := by
  refine F.ok scTk (fun vs H Q E h => ?_) (fun cdv A outer s H vs Q E hr h => ?_)
  · obtain ⟨r, a, ns, m, rfl, _⟩ := h; rfl
  · obtain ⟨r, a, ns, m, rfl, hR, hm, hm2, q⟩ := h
    obtain ⟨i, seed, rest, hi0, e⟩ := hR.ex
    have hmi : (0 : Int) < (m : Int) := by omega
    have kr : ∀ {H1 : Hp} {o : HO}, KR r H H1 → KR r H (upd H1 r o) := fun k b o e ne => by rw [upd_ne ne]; exact k b o e ne
    refine ⟨_, (pss_cons (ps_if (pt_cmpR op_gt (pe_ix ix_list (pv 0) pe_int (fun _ _ => rfl)) pe_int (nomark _)) (pss_cons (ps_set (i := 2) scTk.nd rfl (.inl rfl) (pe_op op_mod (pe_callTy call_int1 (by rfl) T.int b_int (pa_cons (pe_ix ix_list (pv 0) pe_int (fun _ _ => rfl)) pa_nil)) (pv 1)))
      (pss_cons (ps_asg (pe_op op_fdiv (pe_ix ix_list (pv 0) pe_int (fun _ _ => rfl)) (pv 1)) (pg_sub (pv 0) pe_int set_list))
      (pss_one (ps_ret (pv 2))))) pss_nil)
      (pss_cons (ps_asg (pe_op op_add (pe_ix ix_list (pv 0) pe_int (fun _ _ => rfl)) pe_int) (pg_sub (pv 0) pe_int set_list))
      (pss_cons (ps_if (pt_cmpR op_gt (pe_ix ix_list (pv 0) pe_int (fun _ _ => rfl)) (pe_callB call_len_seq (by rfl) T.len b_len (pa_cons (pe_ix ix_list (pv 0) pe_int (fun _ _ => rfl)) pa_nil)) (nomark _)) (pss_cons (ps_asg (pe_op op_mod (pe_callTy call_int1 (by rfl) T.int b_int (pa_cons (pe_op op_add (pe_op op_mul (pe_ix ix_list (pv 0) pe_int (fun _ _ => rfl)) pe_int) pe_int) pa_nil)) pe_int) (pg_sub (pv 0) pe_int set_list))
      (pss_one (ps_ret (pe_op op_mod (pe_callTy call_int1 (by rfl) T.int b_int (pa_cons (pe_op op_fdiv (pe_ix ix_list (pv 0) pe_int (fun _ _ => rfl)) pe_int) pa_nil)) (pv 1))))) pss_nil)
      (pss_cons (ps_set (i := 3) scTk.nd rfl (.inl rfl) (pe_ix ix_list (pe_ix ix_list (pv 0) pe_int (fun _ _ => rfl)) (pe_op op_sub (pe_ix ix_list (pv 0) pe_int (fun _ _ => rfl)) pe_int) (fun _ _ => rfl)))
      (pss_cons (ps_asg (pe_op op_mod (pe_callTy call_int1 (by rfl) T.int b_int (pa_cons (pe_op op_add (pe_op op_add (pe_op op_mul (pe_ix ix_list (pv 0) pe_int (fun _ _ => rfl)) pe_int) (pv 3)) pe_int) pa_nil)) pe_int) (pg_sub (pv 0) pe_int set_list))
      (pss_cons (ps_if (pt_cmpR op_ge (pv 3) (pe_op op_pow pe_int pe_int) (nomark _)) (pss_one (ps_asg (pe_op op_fdiv (pv 3) (pv 1)) (pg_sub (pv 0) pe_int set_list))) pss_nil)
      (pss_one (ps_ret (pe_op op_mod (pe_callTy call_int1 (by rfl) T.int b_int (pa_cons (pv 3) pa_nil)) (pv 1)))))))))), ?_⟩
    refine ⟨_, rfl, r, _, _, _, rfl, rfl, SqL.of e, atI_nat (j := 3) rfl, _, _, rfl, rfl, _, rfl, ?_⟩
    by_cases h0 : (0 : Int) < rest
    · rw [decide_eq_true h0]
      refine iteT ?_
      obtain ⟨x, hx, ex⟩ := mod_nat (i := rest) hm
      refine ⟨_, rfl, r, _, _, _, rfl, rfl, SqL.of e, atI_nat (j := 3) rfl, .inl ⟨_, rfl, _, rfl, _, _, rfl, rfl, hmi, ?_⟩⟩
      refine ⟨_, rfl, r, _, _, _, rfl, rfl, SqL.of e, atI_nat (j := 3) rfl, _, rfl, _, _, rfl, rfl, ⟨hmi, by omega⟩, _, rfl, r, _, _, 3, rfl, rfl, e, rfl, _, rfl, ?_⟩
      show Q (.int (rest % (m : Int))) _
      rw [ex]
      exact q x _ hx (kr fun _ _ e _ => e) (hR.put i seed (rest / (m : Int)) hi0)
    · rw [decide_eq_false h0]
      refine iteF ?_
      refine ⟨_, rfl, r, _, _, _, rfl, rfl, SqL.of e, atI_nat (j := 1) rfl, _, _, rfl, rfl, _, rfl, r, _, _, 1, rfl, rfl, e, rfl, ?_⟩
      have hR1 := hR.put (i + 1) seed rest (by omega)
      have k1 : KR r H (upd H r (.lst [.ref a, .int (i + 1), .int seed, .int rest])) := kr fun _ _ e _ => e
      have e1 : upd H r (.lst [.ref a, .int (i + 1), .int seed, .int rest]) r = some (.lst [.ref a, .int (i + 1), .int seed, .int rest]) := upd_same
      have kr1 : ∀ {o : HO}, KR r H (upd (upd H r (.lst [.ref a, .int (i + 1), .int seed, .int rest])) r o) := kr k1
      refine ⟨_, rfl, r, _, _, _, rfl, rfl, SqL.of e1, atI_nat (j := 1) rfl, _, rfl, r, _, _, _, rfl, rfl, SqL.of e1, atI_nat (j := 0) rfl, a, _, rfl, .inl hR1.sq, _, _, rfl, rfl, _, rfl, ?_⟩
      by_cases hc : (((ns.map V.int).length : Nat) : Int) < i + 1
      · rw [decide_eq_true hc]
        refine iteT ?_
        refine ⟨_, rfl, r, _, _, _, rfl, rfl, SqL.of e1, atI_nat (j := 2) rfl, _, _, rfl, rfl, .inr ⟨by decide, by decide⟩, _, _, rfl, rfl, .inl ⟨_, rfl, _, _, rfl, rfl, (show (0 : Int) < 2147483647 by decide), _, rfl, r, _, _, 2, rfl, rfl, e1, rfl, ?_⟩⟩
        have hR2 := hR1.put (i + 1) ((seed * 48271 + 11) % 2147483647) rest (by omega)
        have e2 : upd (upd H r (.lst [.ref a, .int (i + 1), .int seed, .int rest])) r (.lst [.ref a, .int (i + 1), .int ((seed * 48271 + 11) % 2147483647), .int rest]) r = some (.lst [.ref a, .int (i + 1), .int ((seed * 48271 + 11) % 2147483647), .int rest]) := upd_same
        obtain ⟨x, hx, ex⟩ := mod_nat (i := (seed * 48271 + 11) % 2147483647 / 7) hm
        refine ⟨_, rfl, r, _, _, _, rfl, rfl, SqL.of e2, atI_nat (j := 2) rfl, _, _, rfl, rfl, ⟨by decide, by decide⟩, .inl ⟨_, rfl, _, rfl, _, _, rfl, rfl, hmi, ?_⟩⟩
        show Q (.int ((seed * 48271 + 11) % 2147483647 / 7 % (m : Int))) _
        rw [ex]
        exact q x _ hx kr1 hR2
      · rw [decide_eq_false hc]
        refine iteF ?_
        rw [List.length_map] at hc
        obtain ⟨cell, hcell⟩ : ∃ c, ns[i.toNat]? = some c := ⟨ns[i.toNat]'(by omega), List.getElem?_eq_getElem _⟩
        refine ⟨_, rfl, r, _, _, _, rfl, rfl, SqL.of e1, atI_nat (j := 0) rfl, _, rfl, r, _, _, _, rfl, rfl, SqL.of e1, atI_nat (j := 1) rfl, _, _, rfl, rfl, a, _, _, .int cell, rfl, rfl, hR1.sq, at_of (j := i.toNat) (by omega) (by rw [List.getElem?_map, hcell]; rfl), ?_⟩
        refine ⟨_, rfl, r, _, _, _, rfl, rfl, SqL.of e1, atI_nat (j := 2) rfl, _, _, rfl, rfl, .inr ⟨by decide, by decide⟩, _, rfl, _, _, rfl, rfl, _, _, rfl, rfl, .inl ⟨_, rfl, _, _, rfl, rfl, (show (0 : Int) < 2147483647 by decide), _, rfl, r, _, _, 2, rfl, rfl, e1, rfl, ?_⟩⟩
        have hR2 := hR1.put (i + 1) ((seed * 48271 + cell + 11) % 2147483647) rest (by omega)
        have e2 : upd (upd H r (.lst [.ref a, .int (i + 1), .int seed, .int rest])) r (.lst [.ref a, .int (i + 1), .int ((seed * 48271 + cell + 11) % 2147483647), .int rest]) r = some (.lst [.ref a, .int (i + 1), .int ((seed * 48271 + cell + 11) % 2147483647), .int rest]) := upd_same
        obtain ⟨x, hx, ex⟩ := mod_nat (i := cell) hm
        refine ⟨_, rfl, _, _, rfl, rfl, ⟨by decide, by decide, by decide⟩, _, _, rfl, rfl, _, rfl, ?_⟩
        by_cases hbig : (10 : Int) ^ (18 : Int).toNat ≤ cell
        · rw [decide_eq_true hbig]
          refine iteT ⟨_, rfl, _, rfl, _, _, rfl, rfl, ⟨hmi, by omega⟩, _, rfl, r, _, _, 3, rfl, rfl, e2, rfl, _, rfl, .inl ⟨_, rfl, _, rfl, _, _, rfl, rfl, hmi, ?_⟩⟩
          show Q (.int (cell % (m : Int))) _
          rw [ex]
          exact q x _ hx (kr kr1) (hR2.put (i + 1) _ (cell / (m : Int)) (by omega))
        · rw [decide_eq_false hbig]
          refine iteF ⟨_, rfl, .inl ⟨_, rfl, _, rfl, _, _, rfl, rfl, hmi, ?_⟩⟩
          show Q (.int (cell % (m : Int))) _
          rw [ex]
          exact q x _ hx kr1 hR2
abbrev nPk : List Str := ["_law_row", "_law_things"]
theorem scPk : FnScope nPk ["_law_row", "_law_things"] (defScope sPick) := ⟨rfl, rfl, rfl, by decide +kernel, rfl, by decide +kernel, by decide +kernel⟩
theorem ok_pick {f : Addr} {fd : FuncData} (F : Fun K "_law_pick" "_law_pick" sPick f fd) (T : Txt mg) (C1 : Callee P w K mg base 1 "_law_taken" ["_law_row", "_law_many"] (spTaken K)) : FnOk P w K mg base CX0 2 f fd ["_law_row", "_law_things"] (spPick K) := by
  refine F.ok scPk (fun vs H Q E h => ?_) (fun cdv A outer s H vs Q E hr h => ?_)
  · obtain ⟨r, a, l, ns, xs, rfl, _⟩ := h; rfl
  · obtain ⟨r, a, l, ns, xs, rfl, hR, hl, hne, hsz, q⟩ := h
    obtain ⟨i, seed, rest, hi0, e⟩ := hR.ex
    have hlr : l ≠ r := fun z => by
      rw [z, e] at hl
      injection hl with hl
      injection hl with hl
      cases xs with
      | nil => cases hl
      | cons x xs => injection hl with hl _; cases hl
    have hpos := List.length_pos_iff.mpr hne
    refine ⟨_, (pss_one (ps_ret (pe_ix ix_list (pv 1) (pe_c C1 hr (by decide) (by rfl) (pa_cons (pv 0) (pa_cons (pe_callB call_len_seq (by rfl) T.len b_len (pa_cons (pv 1) pa_nil)) pa_nil))) (fun _ _ => rfl)))), ?_⟩
    refine ⟨_, rfl, _, rfl, _, rfl, l, _, rfl, .inl (SqL.of hl), r, a, ns, xs.length, by rw [List.length_map]; rfl, hR, hpos, by omega, fun x H1 hx k1 hR1 => ?_⟩
    obtain ⟨y, hy⟩ : ∃ y, xs[x]? = some y := ⟨xs[x], List.getElem?_eq_getElem hx⟩
    refine ⟨l, _, _, _, rfl, rfl, SqL.of (k1 _ _ hl hlr), at_of (j := x) rfl (by rw [List.getElem?_map, hy]; rfl), ?_⟩
    exact q y H1 (List.mem_of_getElem? hy) k1 hR1
end
end K10


set_option Elab.async false
set_option linter.all false
set_option maxRecDepth 100000
set_option maxHeartbeats 4000000
namespace K10
open PySem L2 K10M PyProof.Rows
def spAlike : Sp := fun vs H Q _ => ∃ (x y : Option Nat), vs = [oV x, oV y] ∧ ∀ H', Same H H' → Q (.bl (decide (x = y))) H'
theorem oV_inj {x y : Option Nat} : oV x = oV y ↔ x = y := by
  cases x <;> cases y <;> simp [oV]
  constructor
  · intro h; omega
  · intro h; omega
/-- the ties drawn so far, all before (a, b) -/
structure TiesI (H : Hp) (D : Addr) (n a b : Nat) (T : List Tie) : Prop where
  ex : ∃ ps : List Addr, H D = some (.lst (ps.map V.ref)) ∧ Paired (TieAt H) ps T
  l30 : T.length ≤ 30
  win : Within T n
  price : ∀ t ∈ T, t.2.2 ≤ 999
  up : T.Pairwise lexLt
  last : ∀ t ∈ T, t.1 < a ∨ (t.1 = a ∧ t.2.1 < b)
theorem TiesI.next {H : Hp} {D : Addr} {n a b a' b' : Nat} {T : List Tie} (h : TiesI H D n a b T) (hl : a < a' ∨ (a = a' ∧ b ≤ b')) : TiesI H D n a' b' T :=
  ⟨h.ex, h.l30, h.win, h.price, h.up, fun t ht => by have := h.last t ht; omega⟩
theorem TiesI.grow {H H' : Hp} {D : Addr} {n a b : Nat} {T : List Tie} (h : TiesI H D n a b T) (k1 : ∀ xs, H D = some (.lst xs) → H' D = some (.lst xs)) (k2 : ∀ b xs, H b = some (.tup xs) → H' b = some (.tup xs)) : TiesI H' D n a b T := by
  obtain ⟨ps, h1, h2⟩ := h.ex
  exact ⟨⟨ps, k1 _ h1, h2.mono fun p t e => k2 _ _ e⟩, h.l30, h.win, h.price, h.up, h.last⟩
theorem TiesI.same {H H' : Hp} {D : Addr} {n a b : Nat} {T : List Tie} (h : TiesI H D n a b T) (s : Same H H') : TiesI H' D n a b T := h.grow (fun _ e => s _ _ e) fun _ _ e => s _ _ e
theorem TiesI.kr {K : PySem.W.Frag} {H H' : Hp} {D r sa : Addr} {ns : List Int} {n a b : Nat} {T : List Tie} (h : TiesI H D n a b T) (hR : LRow K H r sa ns) (hD : D ≠ r) (k : KR r H H') : TiesI H' D n a b T := by
  obtain ⟨i, seed, rest, _, e⟩ := hR.ex
  exact h.grow (fun _ e2 => k _ _ e2 hD) fun b xs e2 => k _ _ e2 (ne_of e2 e (by intro z; cases z))
theorem TiesI.add {H : Hp} {D p : Addr} {n a b c : Nat} {T : List Tie} (h : TiesI H D n a b T) (hlt : T.length < 30) (ha : a < b) (hb : b < n) (hc : c ≤ 999) {ps : List Addr} (h1 : H D = some (.lst (ps.map V.ref))) (h2 : Paired (TieAt H) ps T) (hp : H p = some (.tup [nV a, nV b, nV c])) :
    TiesI (upd H D (.lst (ps.map V.ref ++ [V.ref p]))) D n a (b + 1) (T ++ [(a, b, c)]) := by
  have kt : ∀ q xs, H q = some (.tup xs) → upd H D (.lst (ps.map V.ref ++ [V.ref p])) q = some (.tup xs) := fun q xs e => by rw [upd_ne (ne_of e h1 (by intro z; cases z))]; exact e
  refine ⟨⟨ps ++ [p], by rw [upd_same, List.map_append]; rfl, Paired.snoc (h2.mono fun q t e => kt _ _ e) (kt _ _ hp)⟩, by rw [List.length_append]; simp; omega, fun t ht => ?_, fun t ht => ?_, ?_, fun t ht => ?_⟩
  · rcases List.mem_append.mp ht with ht | ht
    · exact h.win t ht
    · rw [List.mem_singleton.mp ht]; exact ⟨ha, hb⟩
  · rcases List.mem_append.mp ht with ht | ht
    · exact h.price t ht
    · rw [List.mem_singleton.mp ht]; exact hc
  · refine List.pairwise_append.mpr ⟨h.up, List.pairwise_singleton _ _, fun t ht u hu => ?_⟩
    rw [List.mem_singleton.mp hu]
    have := h.last t ht
    show t.1 < a ∨ (t.1 = a ∧ t.2.1 < b)
    exact this
  · rcases List.mem_append.mp ht with ht | ht
    · have := h.last t ht; omega
    · rw [List.mem_singleton.mp ht]; right; exact ⟨rfl, Nat.lt_succ_self b⟩
/-- an object that was new is changed -/
theorem LRow.put2 {K : PySem.W.Frag} {H0 H : Hp} {r a D : Addr} {ns : List Int} {o : HO} (h0 : LRow K H0 r a ns) (hD : H0 D = none) (k : KR r H0 H) (h : LRow K H r a ns) : LRow K (upd H D o) r a ns := by
  obtain ⟨i0, seed0, rest0, _, e0⟩ := h0.ex
  obtain ⟨i, seed, rest, hi, e⟩ := h.ex
  exact ⟨⟨i, seed, rest, hi, by rw [upd_ne (ne_of_none e0 hD)]; exact e⟩, fun H2 k2 => h0.sqs H2 fun b o e n ne => k2 b o (by rw [upd_ne (ne_of_none e hD)]; exact k b o e ne) n ne⟩
theorem KR.trans {r : Addr} {H1 H2 H3 : Hp} (h : KR r H1 H2) (g : KR r H2 H3) : KR r H1 H3 := fun b o e ne => g b o (h b o e ne) ne
theorem KR.of {r : Addr} {H1 H2 : Hp} (s : Same H1 H2) : KR r H1 H2 := fun b o e _ => s b o e
/-- a web is drawn -/
def spWeb (K : PySem.W.Frag) : Sp := fun vs H Q _ => ∃ (r a : Addr) (ns : List Int) (m d : Nat), vs = [.ref r, nV m, nV d] ∧ LRow K H r a ns ∧ 0 < m ∧ m ≤ 8 ∧
  ∀ (w : Addr) (n : Nat) (T : List Tie) (H' : Hp), KR r H H' → LRow K H' r a ns → WebAt H' w n T → WebOk n T → Q (.ref w) H'
theorem kit_none2 {K : PySem.W.Frag} : PySem.W.kitAny K (.type "NoneType") [.type "tuple", .type "list"] = some false :=
  kitAny_cons (b := false) (kit_ty (by decide +kernel)) (fun _ => kitAny_cons (b := false) (kit_ty (by decide +kernel)) (fun _ => kitAny_nil) (fun h => nomatch h)) (fun h => nomatch h)
theorem kit_int2 {K : PySem.W.Frag} : PySem.W.kitAny K (.type "int") [.type "tuple", .type "list"] = some false :=
  kitAny_cons (b := false) (kit_ty (by decide +kernel)) (fun _ => kitAny_cons (b := false) (kit_ty (by decide +kernel)) (fun _ => kitAny_nil) (fun h => nomatch h)) (fun h => nomatch h)
section
variable {P : Program} {w : World} {K : PySem.W.Frag} {mg : Str → Option Value} {base : Heap}
abbrev nAl : List Str := ["_law_found", "_law_due", "_law_k"]
theorem scAl : FnScope nAl ["_law_found", "_law_due"] (defScope sAlike) := ⟨rfl, rfl, rfl, by decide +kernel, rfl, by decide +kernel, by decide +kernel⟩
theorem ok_alike {f : Addr} {fd : FuncData} (F : Fun K "_law_alike" "_law_alike" sAlike f fd) (T : Txt mg) : FnOk P w K mg base CX0 1 f fd ["_law_found", "_law_due"] spAlike := by
  refine F.ok scAl (fun vs H Q E h => ?_) (fun cdv A outer s H vs Q E hr h => ?_)
  · obtain ⟨x, y, rfl, _⟩ := h; rfl
  · obtain ⟨x, y, rfl, q⟩ := h
    refine ⟨_, (pss_cons (ps_if (pt_val (pe_callB call_isiT (by rfl) T.isi b_isi (pa_cons (pv 1) (pa_cons (pe_tup (pa_cons (pe_bltn (v := .ty "tuple") (by rfl) T.tuple b_tuple rfl) (pa_cons (pe_bltn (v := .ty "list") (by rfl) T.list b_list rfl) pa_nil))) pa_nil)))) pss_never pss_nil)
      (pss_cons (ps_if (PW.pt (pw_or (pt_cmpR op_isN (pv 1) pe_non (nomark _)) (pw_or1 (pt_val (pe_callB call_isi (by rfl) T.isi b_isi (pa_cons (pv 1) (pa_cons (pe_bltn (v := .ty "str") (by rfl) T.str b_str rfl) pa_nil))))))) (pss_one (ps_ret (pe_and (pe_cmpR op_eq (pv 0) (pv 1) (nomark _)) (pe_one (pe_cmpR op_eq (pe_callB call_isi (by rfl) T.isi b_isi (pa_cons (pv 0) (pa_cons (pe_bltn (v := .ty "str") (by rfl) T.str b_str rfl) pa_nil))) (pe_callB call_isi (by rfl) T.isi b_isi (pa_cons (pv 1) (pa_cons (pe_bltn (v := .ty "str") (by rfl) T.str b_str rfl) pa_nil))) (nomark _)))))) pss_nil)
      (pss_one (ps_ret (pe_and (pe_callB call_isi (by rfl) T.isi b_isi (pa_cons (pv 0) (pa_cons (pe_bltn (v := .ty "int") (by rfl) T.int b_int rfl) pa_nil))) (pe_and (pe_cmpR op_eq (pe_callB call_isi (by rfl) T.isi b_isi (pa_cons (pv 0) (pa_cons (pe_bltn (v := .ty "bool") (by rfl) T.bool b_bool rfl) pa_nil))) (pe_callB call_isi (by rfl) T.isi b_isi (pa_cons (pv 1) (pa_cons (pe_bltn (v := .ty "bool") (by rfl) T.bool b_bool rfl) pa_nil))) (nomark _)) (pe_one (pe_cmpR op_eq (pv 0) (pv 1) (nomark _))))))))), ?_⟩
    refine ⟨_, rfl, szl (by simp), fun tp np => ?_⟩
    have s1 := same_upd (o := HO.tup [V.ty "tuple", V.ty "list"]) np
    cases y with
    | none =>
      refine ⟨.non, tp, _, _, _, false, rfl, upd_same, .cons (.ty _) (.cons (.ty _) .nil), .base .non, kit_none2, _, rfl, iteF ?_⟩
      refine ⟨_, rfl, rfl, _, rfl, iteD (by rfl) (iteT ?_)⟩
      cases x with
      | none =>
        refine ⟨_, rfl, _, rfl, rfl, _, rfl, iteT ?_⟩
        refine ⟨_, rfl, .non, _, _, _, false, rfl, .ty _, .base .non, kit_ty (by decide +kernel), _, rfl, .non, _, _, _, false, rfl, .ty _, .base .non, kit_ty (by decide +kernel), rfl, ?_⟩
        exact q _ s1
      | some x =>
        refine ⟨_, rfl, _, rfl, rfl, _, rfl, iteF ?_⟩
        exact q _ s1
    | some y =>
      refine ⟨.int y, tp, _, _, _, false, rfl, upd_same, .cons (.ty _) (.cons (.ty _) .nil), .base (.int _), kit_int2, _, rfl, iteF ?_⟩
      refine ⟨_, rfl, rfl, _, rfl, iteDF (fun z => by cases z) ?_⟩
      refine ⟨_, rfl, .int y, _, _, _, false, rfl, .ty _, .base (.int _), kit_ty (by decide +kernel), _, rfl, iteF ?_⟩
      cases x with
      | none =>
        refine ⟨_, rfl, .non, _, _, _, false, rfl, .ty _, .base .non, kit_ty (by decide +kernel), _, rfl, iteF ?_⟩
        exact q _ s1
      | some x =>
        refine ⟨_, rfl, .int x, _, _, _, true, rfl, .ty _, .base (.int _), kit_ty (by decide +kernel), _, rfl, iteT ?_⟩
        refine ⟨_, rfl, .int x, _, _, _, false, rfl, .ty _, .base (.int _), kit_ty (by decide +kernel), _, rfl, .int y, _, _, _, false, rfl, .ty _, .base (.int _), kit_ty (by decide +kernel), rfl, _, rfl, iteT ?_⟩
        refine ⟨_, rfl, _, rfl, rfl, ?_⟩
        have := q _ s1
        by_cases h : x = y
        · subst h
          rw [decide_eq_true rfl] at this
          rw [decide_eq_true rfl]
          exact this
        · rw [decide_eq_false (fun z => h (Option.some.inj z))] at this
          rw [decide_eq_false (fun z => h (Option.some.inj (oV_inj.mp z)))]
          exact this
abbrev nWb : List Str := ["_law_row", "_law_most", "_law_dense", "_law_many", "_law_ties", "_law_top", "_law_a", "_law_b"]
theorem scWb : FnScope nWb ["_law_row", "_law_most", "_law_dense"] (defScope sWeb) := ⟨rfl, rfl, rfl, by decide +kernel, rfl, by decide +kernel, by decide +kernel⟩
theorem ok_web {f : Addr} {fd : FuncData} (F : Fun K "_law_web" "_law_web" sWeb f fd) (T : Txt mg) (C1 : Callee P w K mg base 1 "_law_taken" ["_law_row", "_law_many"] (spTaken K)) (C2 : Callee P w K mg base 2 "_law_pick" ["_law_row", "_law_things"] (spPick K)) :
    FnOk P w K mg base CX0 3 f fd ["_law_row", "_law_most", "_law_dense"] (spWeb K) := by
  refine F.ok scWb (fun vs H Q E h => ?_) (fun cdv A outer s H vs Q E hr h => ?_)
  · obtain ⟨r, a, ns, m, d, rfl, _⟩ := h; rfl
  · obtain ⟨r, sa, ns, m, d, rfl, hR, hm, hm8, q⟩ := h
    refine ⟨_, (pss_cons (ps_par (i := 3) (j := 4) rfl scWb.nd rfl rfl (by decide) rfl rfl (pa_cons (pe_op op_add pe_int (pe_c C1 hr (by decide) (by rfl) (pa_cons (pv 0) (pa_cons (pv 1) pa_nil)))) (pa_cons (pe_lst pa_nil) pa_nil)) (by rfl))
      (pss_cons (ps_set (i := 5) scWb.nd rfl (.inl rfl) (pe_c C2 hr (by decide) (by rfl) (pa_cons (pv 0) (pa_cons (pe_lst (pa_cons pe_int (pa_cons pe_int (pa_cons pe_int pa_nil)))) pa_nil))))
      (pss_cons (ps_for PassesOwn.never rfl (pi_range1 (by rfl) T.range (pa_cons (pv 3) pa_nil)) (pg_name (i := 6) scWb.nd rfl (.inl rfl)) (pss_one (ps_for PassesOwn.never rfl (pi_range2 (by rfl) T.range (pa_cons (pe_op op_add (pv 6) pe_int) (pa_cons (pv 3) pa_nil))) (pg_name (i := 7) scWb.nd rfl (.inl rfl)) (pss_one (ps_if (PW.pt (pw_and (pt_cmpR op_lt (pe_c C1 hr (by decide) (by rfl) (pa_cons (pv 0) (pa_cons pe_int pa_nil))) (pv 2) (nomark _)) (pw_and1 (pt_cmpR op_lt (pe_callB call_len_seq (by rfl) T.len b_len (pa_cons (pv 4) pa_nil)) pe_int (nomark _))))) (pss_one (ps_expr (pe_bm PySem.F.plainAttrs_list PySem.F.slot_list_append PySem.F.type_list_append mt_append (pv 4) (pa_cons (pe_tup (pa_cons (pv 6) (pa_cons (pv 7) (pa_cons (pe_c C1 hr (by decide) (by rfl) (pa_cons (pv 0) (pa_cons (pv 5) pa_nil))) pa_nil)))) pa_nil)))) pss_nil)))))
      (pss_one (ps_ret (pe_tup (pa_cons (pv 3) (pa_cons (pe_callTy call_tuple_of (by rfl) T.tuple b_tuple (pa_cons (pv 4) pa_nil)) pa_nil)))))))), ?_⟩
    refine ⟨_, rfl, _, rfl, r, sa, ns, m, rfl, hR, hm, by omega, fun n0 H1 hn0 k1 hR1 => ⟨_, _, rfl, rfl, szl (by simp), fun D nD => ⟨_, _, rfl, ?_⟩⟩⟩
    have sD := same_upd (o := HO.lst []) nD
    have hR2 := hR1.same sD
    have k2 := k1.trans (KR.of sD)
    have nDr : D ≠ r := fun z => by
      obtain ⟨i, seed, rest, _, e⟩ := hR1.ex
      rw [z, e] at nD; cases nD
    have hD2 : TiesI (upd H1 D (.lst [])) D (1 + n0) 0 0 [] := ⟨⟨[], upd_same, .nil⟩, Nat.zero_le _, (fun _ h => nomatch h), (fun _ h => nomatch h), .nil, (fun _ h => nomatch h)⟩
    generalize upd H1 D (.lst []) = H2 at hR2 k2 hD2 ⊢
    refine ⟨_, rfl, szl (by simp), fun l nl => ?_⟩
    have sl := same_upd (o := HO.lst [V.int 2, V.int 6, V.int 40]) nl
    refine ⟨r, sa, l, ns, [2, 6, 40], rfl, hR2.same sl, upd_same, by simp, by decide, fun tp H3 htp k3 hR3 => ?_⟩
    have htp1 : 0 < tp ∧ tp ≤ 40 := by
      rcases List.mem_cons.mp htp with rfl | htp
      · decide
      · rcases List.mem_cons.mp htp with rfl | htp
        · decide
        · rw [List.mem_singleton.mp htp]; decide
    have k23 := (k2.trans (KR.of sl)).trans k3
    have hD3 := (hD2.same sl).kr (hR2.same sl) nDr k3
    refine ⟨_, rfl, (1 + n0 : Nat), rfl, by omega, by omega, for_range (fun i σ H' => ∃ T v6 v7, σ = [some (.ref r), some (nV m), some (nV d), some (nV (1 + n0)), some (.ref D), some (nV tp), v6, v7] ∧ KR r H H' ∧ LRow K H' r sa ns ∧ TiesI H' D (1 + n0) i 0 T) ⟨_, _, _, rfl, k23, hR3, hD3⟩ ?_ ?_⟩
    · rintro i σ H4 hi ⟨T4, v6, v7, rfl, k4, hR4, hD4⟩
      rw [Int.zero_add]
      have hin : i < 1 + n0 := by omega
      have ec : (((1 + n0 : Nat) : Int) - ((i : Int) + 1)).toNat = 1 + n0 - (i + 1) := by omega
      refine ⟨_, rfl, _, _, rfl, rfl, _, rfl, (i : Int) + 1, ((1 + n0 : Nat) : Int), rfl, ⟨by omega, by omega, by omega, by omega⟩, for_range (fun j σ H' => ∃ T v7, σ = [some (.ref r), some (nV m), some (nV d), some (nV (1 + n0)), some (.ref D), some (nV tp), some (nV i), v7] ∧ KR r H H' ∧ LRow K H' r sa ns ∧ TiesI H' D (1 + n0) i (i + 1 + j) T) ⟨T4, _, rfl, k4, hR4, hD4.next (by omega)⟩ ?_ ?_⟩
      · rintro j σ H5 hj ⟨T5, v7, rfl, k5, hR5, hD5⟩
        have ej : ((i : Int) + 1 + (j : Int)) = ((i + 1 + j : Nat) : Int) := by omega
        rw [ej]
        rw [ec] at hj
        refine ⟨_, rfl, r, sa, ns, 10, rfl, hR5, by omega, by omega, fun x1 H6 _ k6 hR6 => ?_⟩
        have hD6 := hD5.kr hR5 nDr k6
        have k56 := k5.trans k6
        refine ⟨_, rfl, _, _, rfl, rfl, _, rfl, ?_⟩
        obtain ⟨ps6, e6, P6⟩ := hD6.ex
        have hl6 := P6.length
        by_cases hd : (x1 : Int) < (d : Int)
        · rw [decide_eq_true hd]
          refine iteT ⟨_, rfl, D, _, rfl, .inl (SqL.of e6), _, _, rfl, rfl, _, rfl, ?_⟩
          by_cases h30 : (((ps6.map V.ref).length : Nat) : Int) < 30
          · rw [decide_eq_true h30]
            rw [List.length_map] at h30
            refine iteT ⟨_, rfl, .inl ⟨rfl, _, SqL.of e6⟩, _, rfl, _, rfl, _, rfl, _, rfl, r, sa, ns, tp, rfl, hR6, htp1.1, by omega, fun c H7 hc k7 hR7 => ⟨szl (by simp), fun p np => ?_⟩⟩
            have hD7 := hD6.kr hR6 nDr k7
            have sp := same_upd (o := HO.tup [nV i, nV (i + 1 + j), nV c]) np
            have hD8 := hD7.same sp
            have hR8 := hR7.same sp
            obtain ⟨ps8, e8, P8⟩ := hD8.ex
            have hp8 : upd H7 p (.tup [nV i, nV (i + 1 + j), nV c]) p = some (.tup [nV i, nV (i + 1 + j), nV c]) := upd_same
            have k8 := (k56.trans k7).trans (KR.of sp)
            have l8 := P8.length
            generalize upd H7 p (.tup [nV i, nV (i + 1 + j), nV c]) = H8 at hD8 hR8 e8 P8 hp8 k8 ⊢
            refine ⟨D, _, _, rfl, rfl, e8, by rw [List.length_map]; exact sz (by omega), ?_⟩
            have kD : KR r H8 (upd H8 D (.lst (ps8.map V.ref ++ [V.ref p]))) → True := fun _ => trivial
            refine ⟨_, _, rfl, fun b o e ne => ?_, ?_, hD8.add (by omega) (by omega) (by omega) (by omega) e8 P8 hp8⟩
            · have nDb : b ≠ D := fun z => by
                have h1 : H1 D = none := nD
                have := k1 b o e ne
                rw [z, h1] at this; cases this
              rw [upd_ne nDb]; exact k8 b o e ne
            · have fD : H D = none := by
                cases e : H D with
                | none => rfl
                | some o =>
                  have h1 : H1 D = none := nD
                  rw [k1 D o e nDr] at h1; cases h1
              exact hR.put2 fD k8 hR8
          · rw [decide_eq_false h30]
            exact iteF ⟨_, _, rfl, k56, hR6, hD6.next (by omega)⟩
        · rw [decide_eq_false hd]
          exact iteF (iteF ⟨_, _, rfl, k56, hR6, hD6.next (by omega)⟩)
      · rintro σ H5 ⟨T5, v7, rfl, k5, hR5, hD5⟩
        exact ⟨_, _, _, rfl, k5, hR5, hD5.next (by omega)⟩
    · rintro σ H4 ⟨T4, v6, v7, rfl, k4, hR4, hD4⟩
      obtain ⟨ps4, e4, P4⟩ := hD4.ex
      refine ⟨_, rfl, _, rfl, D, _, rfl, .inl ⟨SqL.of e4, fun tpl ntpl => ⟨szl (by simp), fun wv nwv => ?_⟩⟩⟩
      have s1 := same_upd (o := HO.tup (ps4.map V.ref)) ntpl
      have s2 := same_upd (o := HO.tup [nV (1 + n0), V.ref tpl]) nwv
      have s12 := s1.trans s2
      refine q wv (1 + n0) T4 _ (k4.trans (KR.of s12)) (hR4.same s12) ⟨tpl, ps4, upd_same, s2 _ _ upd_same, P4.mono fun p t e => s12 _ _ e⟩ ⟨by omega, by omega, hD4.l30, hD4.win, hD4.price, hD4.up⟩
end
end K10


set_option Elab.async false
set_option linter.all false
set_option maxRecDepth 100000
set_option maxHeartbeats 4000000
/-! sorted(d), d a dict whose keys are pairs of ints -/
namespace K10
open PySem PySem.Spec PyProof.Rows L2 K10M
theorem perm_lift {α β : Type} {f : α → β} {l m : List β} (h : l.Perm m) : ∀ L0 : List α, m = L0.map f → ∃ L' : List α, L'.Perm L0 ∧ l = L'.map f := by
  induction h with
  | nil => intro L0 e; exact ⟨[], by rw [List.map_eq_nil_iff.mp e.symm], rfl⟩
  | cons x h ih =>
    intro L0 e
    cases L0 with
    | nil => cases e
    | cons a L0 =>
      rw [List.map_cons] at e
      injection e with e1 e2
      obtain ⟨L', h1, h2⟩ := ih L0 e2
      exact ⟨a :: L', h1.cons a, by rw [List.map_cons, ← h2, e1]⟩
  | swap x y l =>
    intro L0 e
    cases L0 with
    | nil => cases e
    | cons a L0 =>
      cases L0 with
      | nil => rw [List.map_cons] at e; injection e with _ e; cases e
      | cons b L0 =>
        simp only [List.map_cons] at e
        injection e with e1 e
        injection e with e2 e3
        exact ⟨b :: a :: L0, List.Perm.swap a b L0, by simp only [List.map_cons]; rw [← e1, ← e2, ← e3]⟩
  | trans _ _ ih1 ih2 =>
    intro L0 e
    obtain ⟨L1, h1, h2⟩ := ih2 L0 e
    obtain ⟨L2, h3, h4⟩ := ih1 L1 h2
    exact ⟨L2, h3.trans h1, h4⟩
section
variable {X : Cx}
/-- sorted(d), the keys pairs of ints in [0, 64) -/
def rSortDT : List V → Hp → VK → Prop := fun vs H Q => ∃ (d : Addr) (kvs : List (List Key × V)) (ks : List (Nat × Nat)), vs = [V.ref d] ∧ H d = some (.dT kvs) ∧ kvs.map (·.1) = ks.map (fun p => [kL p.1, kL p.2]) ∧ ks.length < 64 ∧ (∀ p ∈ ks, p.1 < 64 ∧ p.2 < 64) ∧
  ∀ (q : Addr) (ts : List Addr) (ps : List (Nat × Nat)), H q = none → ps.Perm ks → ps.Pairwise (fun a b => a.1 * 64 + a.2 ≤ b.1 * 64 + b.2) → Paired (PairAt H) ts ps → Q (.ref q) (upd H q (.lst (ts.map V.ref)))
theorem cr_sortDT (hc : X.calm = true) : CallR X (.builtin "sorted") rSortDT := by
  intro pins s σ H vs us Q I r h
  obtain ⟨d, kvs, ks, rfl, hd, hks, h64, hlt, q⟩ := h
  rw [Vals.ref1 r]
  obtain ⟨z, hs, xs, pr, o, es, ep, ho, hx, hdt, he, hn⟩ := (show ObjOk X.prog X.w H s.heap d (.dT kvs) from I.hok d _ hd)
  have l1 : es.size = xs.length := size_of_entries he
  have l2 : kvs.length = xs.length := Paired.length pr
  have l3 : kvs.length = ks.length := by
    have := congrArg List.length hks
    rw [List.length_map, List.length_map] at this
    exact this
  -- the keys' addresses, each with its pair
  obtain ⟨L0, hL0, hL1, hL2⟩ : ∃ L0 : List (Addr × (Nat × Nat)), xs.map (fun x => x.2.1) = L0.map (·.1) ∧ L0.map (·.2) = ks ∧ ∀ e ∈ L0, PairAt H e.1 e.2 := by
    clear he hn l1 l2 l3 z q h64 hd
    induction pr generalizing ks with
    | nil =>
      cases ks with
      | nil => exact ⟨[], rfl, rfl, fun _ h => nomatch h⟩
      | cons k ks => cases hks
    | @cons p x ps ys e t ih =>
      cases ks with
      | nil => cases hks
      | cons k ks =>
        rw [List.map_cons, List.map_cons] at hks
        injection hks with e1 e2
        obtain ⟨L0, h1, h2, h3⟩ := ih ks e2 fun p hp => hlt p (List.mem_cons_of_mem _ hp)
        refine ⟨(x.2.1, k) :: L0, by rw [List.map_cons, List.map_cons, h1], by rw [List.map_cons, h2], fun y hy => ?_⟩
        rcases List.mem_cons.mp hy with rfl | hy
        · have := e.2.1
          rw [e1] at this
          exact this
        · exact h3 y hy
  refine Calls.call_function_entry PyProof.Rows.kind_sorted PyProof.Rows.plain_sorted PyProof.Rows.entry_sorted (PyProof.Rows.args_sorted1 _) ?_
  unfold Builtin.«sorted»
  refine wpAny_bind (m := checkCount "sorted" 1 1 _) (wpAny_pure ?_)
  refine wpAny_bind (PySem.W.kdu_collect (A := X.A.in1) (kdl_raw hs hx hdt) (I.ok.hd hc) ho (by rw [sizeLine_eq]; omega) fun h' tk acc kp it => ?_)
  have ea : acc.toList = xs.map fun x => Value.ref x.2.1 := by
    have hl : acc.toList.length = xs.length := by rw [Array.length_toList, it.1]; exact l1
    apply List.ext_getElem?
    intro j
    rw [List.getElem?_map]
    cases hj : acc.toList[j]? with
    | none =>
      have h1 := List.getElem?_eq_none_iff.mp hj
      rw [List.getElem?_eq_none (by omega)]
      all_goals rfl
    | some v =>
      obtain ⟨en, hen, hv⟩ := it.2 j v (by rw [← Array.getElem?_toList]; exact hj)
      have qe := entry_at he j
      rw [hen] at qe
      cases hb : xs[j]? with
      | none =>
        rw [hb] at qe
        exact nomatch (show some en = none from qe)
      | some b =>
        rw [hb] at qe
        have e2 : en = entryOfKey (tupleKind (mixKind X.prog X.w)) b := Option.some.inj qe
        rw [hv, e2]
        all_goals rfl
  have eb : acc.toList = L0.map fun e => Value.ref e.1 := by
    rw [ea]
    have : xs.map (fun x => Value.ref x.2.1) = (xs.map fun x => x.2.1).map Value.ref := by rw [List.map_map]; rfl
    rw [this, hL0, List.map_map]; rfl
  have lacc : acc.toList.length < 64 := by rw [eb, List.length_map, ← List.length_map (f := fun e : Addr × (Nat × Nat) => e.2), hL1]; exact h64
  have I1 : Inv X pins σ H { s with heap := h', toks := tk } := I.kept kp
  refine wpAny_bind (wpAny_newList ?_ (by rw [sizeLine_eq]; omega))
  have hoL : (h'.push (seqObj "list" acc.toList.toArray 0)).get? h'.objs.size = some (seqObj "list" acc.toList.toArray 0) := Heap.get?_push_size _ rfl
  show wpAny _ _ _ _ _ { s with heap := h'.push (seqObj "list" acc.toList.toArray 0), toks := tk }
  have I2 : Inv X pins σ H { s with heap := h'.push (seqObj "list" acc.toList.toArray 0), toks := tk } := I1.kept fun b o e => Heap.get?_push_of_some _ e
  have tup : ∀ e ∈ L0, TS.TupInts (h'.push (seqObj "list" acc.toList.toArray 0)) (.ref e.1) [(e.2.1 : Int), (e.2.2 : Int)] := fun e he => tupI_raw I2 (SqT.of (show H e.1 = some (.tup _) from hL2 e he))
  have hlt2 : ∀ e ∈ L0, e.2.1 < 64 ∧ e.2.2 < 64 := fun e he => hlt _ (by rw [← hL1]; exact List.mem_map.mpr ⟨e, he, rfl⟩)
  have x : TS.TupsOk (h'.push (seqObj "list" acc.toList.toArray 0)) 2 64 acc.toList := fun v hv => by
    rw [eb] at hv
    obtain ⟨e, he, rfl⟩ := List.mem_map.mp hv
    refine ⟨_, tup e he, rfl, fun y hy => ?_⟩
    have := hlt2 e he
    rcases List.mem_cons.mp hy with rfl | hy
    · omega
    · rw [List.mem_singleton.mp hy]; omega
  refine wpAny_bind (wpAny_holding (TS.call_sort_tups (s := { s with heap := h'.push (seqObj "list" acc.toList.toArray 0), toks := tk }) hoL lacc (by decide) x fun out a1 a2 => ?_))
  obtain ⟨e', he'⟩ := PyProof.Rows.sortedHeap_at (vs := acc.toList) (out := out) hoL
  rw [eb] at a1
  obtain ⟨L', b1, b2⟩ := perm_lift (f := fun e : Addr × (Nat × Nat) => Value.ref e.1) a1 L0 rfl
  have hv : Vals ((L'.map (·.1)).map V.ref) out.toList := by
    rw [b2]
    have : L'.map (fun e => Value.ref e.1) = (L'.map (·.1)).map Value.ref := by rw [List.map_map]; rfl
    rw [this]
    exact vals_refs _
  have hlen : ((L'.map (·.1)).map V.ref).length ≤ sizeLine := by
    rw [List.length_map, List.length_map, b1.length_eq, ← List.length_map (f := fun e : Addr × (Nat × Nat) => e.2), hL1, sizeLine_eq]; omega
  have pw : (L'.map (·.2)).Pairwise (fun a b => a.1 * 64 + a.2 ≤ b.1 * 64 + b.2) := by
    rw [b2] at a2
    rw [List.pairwise_map] at a2 ⊢
    refine List.Pairwise.imp_of_mem (fun {e g} he hg huv => ?_) a2
    have i1 := (tup e (b1.mem_iff.mp he)).ints
    have i2 := (tup g (b1.mem_iff.mp hg)).ints
    rw [i1, i2, code_pair, code_pair] at huv
    omega
  have prs : Paired (PairAt H) (L'.map (·.1)) (L'.map (·.2)) := by
    have : ∀ L : List (Addr × (Nat × Nat)), (∀ e ∈ L, PairAt H e.1 e.2) → Paired (PairAt H) (L.map (·.1)) (L.map (·.2)) := by
      intro L
      induction L with
      | nil => intro _; exact .nil
      | cons e L ih => intro h; exact .cons (h e List.mem_cons_self) (ih fun y hy => h y (List.mem_cons_of_mem _ hy))
    exact this L' fun e he => hL2 e (b1.mem_iff.mp he)
  refine wpAny_pure ⟨_, rfl, .ref h'.objs.size, upd H h'.objs.size (.lst ((L'.map (·.1)).map V.ref)), I1.laid (t' := tk) (fun b u e => ?_) (Nat.le_refl _)
    (show ObjOk X.prog X.w _ _ _ (.lst ((L'.map (·.1)).map V.ref)) from ⟨hlen, out.toList, e', hv, by rw [Array.toArray_toList]; exact he'⟩), rfl, q _ _ _ (I1.hok.fresh (Nat.le_refl _)) (by rw [← hL1]; exact b1.map _) pw prs⟩
  have hb : b < h'.objs.size := Heap.lt_size e
  rw [PyProof.Rows.sortedHeap_old (Nat.ne_of_lt hb) (by rw [size_push']; exact Nat.lt_succ_of_lt hb)]
  exact Heap.get?_push_of_some _ e
end
end K10


set_option Elab.async false
set_option linter.all false
set_option maxRecDepth 100000
set_option maxHeartbeats 4000000
namespace K10
open PySem L2 K10M PyProof.Rows
abbrev keyP (p : Nat × Nat) : List Key := [kL p.1, kL p.2]
theorem keyP_inj {p q : Nat × Nat} (h : keyP p = keyP q) : p = q := by
  injection h with h1 h2
  injection h2 with h2 _
  have e1 := Sum.inl.inj h1
  have e2 := Sum.inl.inj h2
  exact Prod.ext (by omega) (by omega)
/-- the ties drawn so far, by their pairs -/
structure JI (kvs : List (List Key × V)) (ks : List (Nat × Nat)) (n : Nat) : Prop where
  keys : kvs.map (·.1) = ks.map keyP
  nd : ks.Nodup
  win : ∀ p ∈ ks, p.1 < p.2 ∧ p.2 < n
  val : ∀ p ∈ ks, ∃ c : Nat, c ≤ 999 ∧ valV kvs (keyP p) = some (nV c)
theorem JI.len {kvs : List (List Key × V)} {ks : List (Nat × Nat)} {n : Nat} (h : JI kvs ks n) : kvs.length = ks.length := by
  have := congrArg List.length h.keys
  rwa [List.length_map, List.length_map] at this
theorem JI.put {kvs : List (List Key × V)} {ks : List (Nat × Nat)} {n : Nat} (h : JI kvs ks n) {p : Nat × Nat} {c : Nat} (h1 : p.1 < p.2) (h2 : p.2 < n) (hc : c ≤ 999) : ∃ ks', JI (putK kvs (keyP p) (nV c)) ks' n ∧ ks'.length ≤ ks.length + 1 := by
  have anyk : (kvs.any fun kv => decide (kv.1 = keyP p)) = true ↔ p ∈ ks := by
    rw [List.any_eq_true]
    constructor
    · rintro ⟨kv, hm, e⟩
      have e := of_decide_eq_true e
      have : keyP p ∈ kvs.map (·.1) := List.mem_map.mpr ⟨kv, hm, e⟩
      rw [h.keys] at this
      obtain ⟨q, hq, e2⟩ := List.mem_map.mp this
      rw [← keyP_inj e2]; exact hq
    · intro hp
      have : keyP p ∈ kvs.map (·.1) := by rw [h.keys]; exact List.mem_map.mpr ⟨p, hp, rfl⟩
      obtain ⟨kv, hm, e⟩ := List.mem_map.mp this
      exact ⟨kv, hm, decide_eq_true e⟩
  by_cases hp : p ∈ ks
  · refine ⟨ks, ⟨?_, h.nd, h.win, fun q hq => ?_⟩, by omega⟩
    · have e : (putK kvs (keyP p) (nV c)).map (·.1) = kvs.map (·.1) := by
        unfold putK
        rw [if_pos (anyk.mpr hp), List.map_map]
        refine List.map_congr_left fun kv _ => ?_
        show (if kv.1 = keyP p then (kv.1, nV c) else kv).1 = kv.1
        split <;> rfl
      rw [e, h.keys]
    · rw [valV_put]
      by_cases z : keyP q = keyP p
      · rw [if_pos z]; exact ⟨c, hc, rfl⟩
      · rw [if_neg z]; exact h.val q hq
  · refine ⟨ks ++ [p], ⟨?_, ?_, fun q hq => ?_, fun q hq => ?_⟩, by simp⟩
    · unfold putK
      rw [if_neg (fun z => hp (anyk.mp z)), List.map_append, h.keys, List.map_append]; rfl
    · exact List.nodup_append.mpr ⟨h.nd, by simp, fun a ha b hb e => hp (by rw [List.mem_singleton.mp hb] at e; rw [← e]; exact ha)⟩
    · rcases List.mem_append.mp hq with hq | hq
      · exact h.win q hq
      · rw [List.mem_singleton.mp hq]; exact ⟨h1, h2⟩
    · rw [valV_put]
      by_cases z : keyP q = keyP p
      · rw [if_pos z]; exact ⟨c, hc, rfl⟩
      · rw [if_neg z]
        rcases List.mem_append.mp hq with hq | hq
        · exact h.val q hq
        · exact absurd (by rw [List.mem_singleton.mp hq]) z
/-- the dict of ties at d -/
structure JH (H : Hp) (d : Addr) (n c : Nat) : Prop where
  ex : ∃ (kvs : List (List Key × V)) (ks : List (Nat × Nat)), H d = some (.dT kvs) ∧ JI kvs ks n ∧ ks.length ≤ c
theorem JH.kr {H H' : Hp} {d r n c : Nat} (h : JH H d n c) (ne : d ≠ r) (k : KR r H H') : JH H' d n c := let ⟨kvs, ks, a, b, e⟩ := h.ex; ⟨kvs, ks, k _ _ a ne, b, e⟩
theorem JH.same {H H' : Hp} {d : Addr} {n c : Nat} (h : JH H d n c) (s : Same H H') : JH H' d n c := let ⟨kvs, ks, a, b, e⟩ := h.ex; ⟨kvs, ks, s _ _ a, b, e⟩
theorem JH.le {H : Hp} {d : Addr} {n c c' : Nat} (h : JH H d n c) (l : c ≤ c') : JH H d n c' := let ⟨kvs, ks, a, b, e⟩ := h.ex; ⟨kvs, ks, a, b, by omega⟩
section
variable {P : Program} {w : World} {K : PySem.W.Frag} {mg : Str → Option Value} {base : Heap}
abbrev nJw : List Str := ["_law_row", "_law_most", "_law_dense", "_law_many", "_law_ties", "_law_top", "_law_b", "_law_a"]
theorem scJw : FnScope nJw ["_law_row", "_law_most", "_law_dense"] (defScope sJWeb) := ⟨rfl, rfl, rfl, by decide +kernel, rfl, by decide +kernel, by decide +kernel⟩
theorem ok_jweb {f : Addr} {fd : FuncData} (F : Fun K "_law_joined_web" "_law_joined_web" sJWeb f fd) (T : Txt mg) (C1 : Callee P w K mg base 1 "_law_taken" ["_law_row", "_law_many"] (spTaken K)) (C2 : Callee P w K mg base 2 "_law_pick" ["_law_row", "_law_things"] (spPick K)) :
    FnOk P w K mg base CX0 3 f fd ["_law_row", "_law_most", "_law_dense"] (spWeb K) := by
  refine F.ok scJw (fun vs H Q E h => ?_) (fun cdv A outer s H vs Q E hr h => ?_)
  · obtain ⟨r, a, ns, m, d, rfl, _⟩ := h; rfl
  · obtain ⟨r, sa, ns, m, dn, rfl, hR, hm, hm8, q⟩ := h
    have hu := hu_of hr
    refine ⟨_, (pss_cons (ps_asg (pe_tup (pa_cons (pe_op op_add pe_int (pe_c C1 hr (by decide) (by rfl) (pa_cons (pv 0) (pa_cons (pv 1) pa_nil)))) (pa_cons pe_dnewT pa_nil))) (pg_tup rfl (pgs_cons (pg_name (i := 3) scJw.nd rfl (.inl rfl)) (pgs_cons (pg_name (i := 4) scJw.nd rfl (.inr rfl)) pgs_nil))))
      (pss_cons (ps_set (i := 5) scJw.nd rfl (.inl rfl) (pe_c C2 hr (by decide) (by rfl) (pa_cons (pv 0) (pa_cons (pe_lst (pa_cons pe_int (pa_cons pe_int (pa_cons pe_int pa_nil)))) pa_nil))))
      (pss_cons (ps_for PassesOwn.never rfl (pi_range2 (by rfl) T.range (pa_cons pe_int (pa_cons (pv 3) pa_nil))) (pg_name (i := 6) scJw.nd rfl (.inl rfl)) (pss_one (ps_dput hu (pv 4) (pe_tup (pa_cons (pe_c C1 hr (by decide) (by rfl) (pa_cons (pv 0) (pa_cons (pv 6) pa_nil))) (pa_cons (pv 6) pa_nil))) (pe_c C1 hr (by decide) (by rfl) (pa_cons (pv 0) (pa_cons (pv 5) pa_nil))) rfl)))
      (pss_cons (ps_for PassesOwn.never rfl (pi_range1 (by rfl) T.range (pa_cons (pv 3) pa_nil)) (pg_name (i := 7) scJw.nd rfl (.inl rfl)) (pss_one (ps_for PassesOwn.never rfl (pi_range2 (by rfl) T.range (pa_cons (pe_op op_add (pv 7) pe_int) (pa_cons (pv 3) pa_nil))) (pg_name (i := 6) scJw.nd rfl (.inl rfl)) (pss_one (ps_if (PW.pt (pw_and (pt_cmp (pc_dnotin hu (pe_tup (pa_cons (pv 7) (pa_cons (pv 6) pa_nil))) (pv 4))) (pw_and (pt_cmpR op_lt (pe_callB call_len_dT (by rfl) T.len b_len (pa_cons (pv 4) pa_nil)) pe_int (nomark _)) (pw_and1 (pt_cmpR op_lt (pe_c C1 hr (by decide) (by rfl) (pa_cons (pv 0) (pa_cons pe_int pa_nil))) (pv 2) (nomark _)))))) (pss_one (ps_dput hu (pv 4) (pe_tup (pa_cons (pv 7) (pa_cons (pv 6) pa_nil))) (pe_c C1 hr (by decide) (by rfl) (pa_cons (pv 0) (pa_cons (pv 5) pa_nil))) rfl)) pss_nil)))))
      (pss_one (ps_ret (pe_tup (pa_cons (pv 3) (pa_cons (pe_callTy call_tuple_of (by rfl) T.tuple b_tuple (pa_cons (pe_lc (own := [("_law_a", 7), ("_law_b", 6)]) rfl scJw.nd (pi_list (pe_callB (cr_sortDT rfl) (by rfl) T.sorted b_sorted (pa_cons (pv 4) pa_nil))) (blkOk_by (N := nJw) (sc := defScope sJWeb) (by decide +kernel)) (fun _ _ _ _ _ => (pg_tup' K (n := 2) rfl (pgs_cons (pg_name (i := 7) scJw.nd rfl (.inl rfl)) (pgs_cons (pg_name (i := 6) scJw.nd rfl (.inl rfl)) pgs_nil)))) (fun _ _ _ _ _ => pts_nil) (fun _ _ _ _ _ => (pe_tup (pa_cons (pv 7) (pa_cons (pv 6) (pa_cons (pe_dget hu (pv 4) (pe_tup (pa_cons (pv 7) (pa_cons (pv 6) pa_nil))) (fun _ _ => rfl)) pa_nil)))))) pa_nil)) pa_nil))))))))), ?_⟩
    refine ⟨_, rfl, _, rfl, r, sa, ns, m, rfl, hR, hm, by omega, fun n0 H1 hn0 k1 hR1 => ⟨_, _, rfl, rfl, fun D nD => ⟨szl (by simp), fun tp ntp => ⟨tp, _, rfl, SqT.of upd_same, rfl, _, _, rfl, _, _, rfl, rfl, ?_⟩⟩⟩⟩
    have sD := (same_upd (o := HO.dT []) nD).trans (same_upd (o := HO.tup [V.int (1 + (n0 : Int)), V.ref D]) ntp)
    have hR2 := hR1.same sD
    have k2 := k1.trans (KR.of sD)
    have nDr : D ≠ r := fun z => by
      obtain ⟨i, seed, rest, _, e⟩ := hR1.ex
      rw [z, e] at nD; cases nD
    have fD : H D = none ∨ D = r := by
      cases e : H D with
      | none => exact .inl rfl
      | some o => exact .inl (by
          have := k1 D o e nDr
          rw [nD] at this; cases this)
    have fD : H D = none := fD.resolve_right nDr
    have hD2 : JH (upd (upd H1 D (.dT [])) tp (.tup [V.int (1 + (n0 : Int)), V.ref D])) D (1 + n0) 0 := ⟨[], [], same_upd ntp _ _ upd_same, ⟨rfl, List.nodup_nil, (fun _ h => nomatch h), (fun _ h => nomatch h)⟩, Nat.le_refl _⟩
    generalize upd (upd H1 D (.dT [])) tp (.tup [V.int (1 + (n0 : Int)), V.ref D]) = H2 at hR2 k2 hD2 sD ⊢
    refine ⟨_, rfl, szl (by simp), fun l nl => ?_⟩
    have sl := same_upd (o := HO.lst [V.int 2, V.int 6, V.int 40]) nl
    refine ⟨r, sa, l, ns, [2, 6, 40], rfl, hR2.same sl, upd_same, by simp, by decide, fun tp H3 htp k3 hR3 => ?_⟩
    have htp1 : 0 < tp ∧ tp ≤ 40 := by
      rcases List.mem_cons.mp htp with rfl | htp
      · decide
      · rcases List.mem_cons.mp htp with rfl | htp
        · decide
        · rw [List.mem_singleton.mp htp]; decide
    have k23 := (k2.trans (KR.of sl)).trans k3
    have hD3 := (hD2.same sl).kr nDr k3
    -- one draw into the dict
    have putD : ∀ {H4 : Hp} {c a b v : Nat}, KR r H H4 → LRow K H4 r sa ns → JH H4 D (1 + n0) c → a < b → b < 1 + n0 → v ≤ 999 → ∀ kvs, H4 D = some (.dT kvs) → kvs.length ≤ c →
        KR r H (upd H4 D (.dT (putK kvs (keyP (a, b)) (nV v)))) ∧ LRow K (upd H4 D (.dT (putK kvs (keyP (a, b)) (nV v)))) r sa ns ∧ JH (upd H4 D (.dT (putK kvs (keyP (a, b)) (nV v)))) D (1 + n0) (kvs.length + 1) := by
      intro H4 c a b v k4 hR4 hD4 hab hbn hv kvs hk hc
      obtain ⟨kvs', ks, h1, h2, h3⟩ := hD4.ex
      rw [hk] at h1
      cases h1
      obtain ⟨ks', j1, j2⟩ := h2.put (p := (a, b)) (c := v) hab hbn hv
      exact ⟨fun b' o e ne => by rw [upd_ne (ne_of_none e fD)]; exact k4 b' o e ne, hR.put2 fD k4 hR4, ⟨_, ks', upd_same, j1, by rw [h2.len]; exact j2⟩⟩
    refine ⟨_, rfl, 1, ((1 + n0 : Nat) : Int), rfl, ⟨by omega, by omega, by omega, by omega⟩, for_range (fun i σ H' => ∃ v6 v7, σ = [some (.ref r), some (nV m), some (nV dn), some (nV (1 + n0)), some (.ref D), some (nV tp), v6, v7] ∧ KR r H H' ∧ LRow K H' r sa ns ∧ JH H' D (1 + n0) i) ⟨_, _, rfl, k23, hR3, hD3⟩ ?_ ?_⟩
    · rintro i σ H4 hi ⟨v6, v7, rfl, k4, hR4, hD4⟩
      have e1 : ((1 : Int) + (i : Int)) = ((i + 1 : Nat) : Int) := by omega
      rw [e1]
      have hin : i + 1 < 1 + n0 := by omega
      refine ⟨_, rfl, _, rfl, r, sa, ns, tp, rfl, hR4, htp1.1, by omega, fun c H5 hc k5 hR5 => ?_⟩
      have hD5 := hD4.kr nDr k5
      refine ⟨_, rfl, _, rfl, _, rfl, r, sa, ns, i + 1, rfl, hR5, by omega, by omega, fun a H6 ha k6 hR6 => ⟨_, rfl, szl (by simp), fun kp nkp => ?_⟩⟩
      have hD6 := hD5.kr nDr k6
      have s7 := same_upd (o := HO.tup [nV a, nV (i + 1)]) nkp
      have hD7 := hD6.same s7
      have hR7 := hR6.same s7
      have k7 := ((k4.trans k5).trans k6).trans (KR.of s7)
      have hkp : upd H6 kp (.tup [nV a, nV (i + 1)]) kp = some (.tup ((keyP (a, i + 1)).map kV)) := upd_same
      generalize upd H6 kp (.tup [nV a, nV (i + 1)]) = H7 at hD7 hR7 k7 hkp ⊢
      obtain ⟨kvs, ks, h1, h2, h3⟩ := hD7.ex
      have hl := h2.len
      refine ⟨D, _, rfl, DPut.t (k := keyP (a, i + 1)) h1 hkp (sz (by omega)), ?_⟩
      obtain ⟨p1, p2, p3⟩ := putD k7 hR7 hD7 ha hin (by omega : c ≤ 999) kvs h1 (by omega)
      exact ⟨_, _, rfl, p1, p2, p3.le (by omega)⟩
    · rintro σ H4 ⟨v6, v7, rfl, k4, hR4, hD4⟩
      have ec1 : (((1 + n0 : Nat) : Int) - 1).toNat = n0 := by omega
      rw [ec1] at hD4
      refine ⟨_, rfl, (1 + n0 : Nat), rfl, by omega, by omega, for_range (fun i σ H' => ∃ v6 v7, σ = [some (.ref r), some (nV m), some (nV dn), some (nV (1 + n0)), some (.ref D), some (nV tp), v6, v7] ∧ KR r H H' ∧ LRow K H' r sa ns ∧ JH H' D (1 + n0) 30) ⟨_, _, rfl, k4, hR4, hD4.le (by omega)⟩ ?_ ?_⟩
      · rintro i σ H5 hi ⟨v6, v7, rfl, k5, hR5, hD5⟩
        rw [Int.zero_add]
        have hin : i < 1 + n0 := by omega
        have ec : (((1 + n0 : Nat) : Int) - ((i : Int) + 1)).toNat = 1 + n0 - (i + 1) := by omega
        refine ⟨_, rfl, _, _, rfl, rfl, _, rfl, (i : Int) + 1, ((1 + n0 : Nat) : Int), rfl, ⟨by omega, by omega, by omega, by omega⟩, for_range (fun j σ H' => ∃ v6, σ = [some (.ref r), some (nV m), some (nV dn), some (nV (1 + n0)), some (.ref D), some (nV tp), v6, some (nV i)] ∧ KR r H H' ∧ LRow K H' r sa ns ∧ JH H' D (1 + n0) 30) ⟨_, rfl, k5, hR5, hD5⟩ ?_ ?_⟩
        · rintro j σ H6 hj ⟨v6, rfl, k6, hR6, hD6⟩
          have ej : ((i : Int) + 1 + (j : Int)) = ((i + 1 + j : Nat) : Int) := by omega
          rw [ej]
          rw [ec] at hj
          refine ⟨_, rfl, _, rfl, szl (by simp), fun kp nkp => ?_⟩
          have s7 := same_upd (o := HO.tup [nV i, nV (i + 1 + j)]) nkp
          have hD7 := hD6.same s7
          have hR7 := hR6.same s7
          have k7 := k6.trans (KR.of s7)
          have hkp : upd H6 kp (.tup [nV i, nV (i + 1 + j)]) kp = some (.tup ((keyP (i, i + 1 + j)).map kV)) := upd_same
          generalize upd H6 kp (.tup [nV i, nV (i + 1 + j)]) = H7 at hD7 hR7 k7 hkp ⊢
          obtain ⟨kvs, ks, h1, h2, h3⟩ := hD7.ex
          have hl := h2.len
          refine ⟨_, rfl, D, _, rfl, DGet.t (k := keyP (i, i + 1 + j)) h1 hkp, _, rfl, ?_⟩
          cases hv : (valV kvs (keyP (i, i + 1 + j))).isSome with
          | true => exact iteF (iteF ⟨_, rfl, k7, hR7, hD7⟩)
          | false =>
            refine iteT ⟨_, rfl, D, kvs, rfl, h1, _, _, rfl, rfl, _, rfl, ?_⟩
            by_cases h30 : ((kvs.length : Nat) : Int) < 30
            · rw [decide_eq_true h30]
              refine iteT ⟨_, rfl, r, sa, ns, 10, rfl, hR7, by omega, by omega, fun x1 H8 _ k8 hR8 => ?_⟩
              have hD8 := hD7.kr nDr k8
              have h18 := k8 _ _ h1 nDr
              refine ⟨_, rfl, _, _, rfl, rfl, _, rfl, ?_⟩
              by_cases hd : (x1 : Int) < (dn : Int)
              · rw [decide_eq_true hd]
                refine iteT ⟨_, rfl, _, rfl, r, sa, ns, tp, rfl, hR8, htp1.1, by omega, fun c H9 hc k9 hR9 => ?_⟩
                have hD9 := hD8.kr nDr k9
                have h19 := k9 _ _ h18 nDr
                refine ⟨_, rfl, _, rfl, _, rfl, szl (by simp), fun kp2 nkp2 => ?_⟩
                have s10 := same_upd (o := HO.tup [nV i, nV (i + 1 + j)]) nkp2
                have hk10 : upd H9 kp2 (.tup [nV i, nV (i + 1 + j)]) kp2 = some (.tup ((keyP (i, i + 1 + j)).map kV)) := upd_same
                refine ⟨D, _, rfl, DPut.t (k := keyP (i, i + 1 + j)) (s10 _ _ h19) hk10 (sz (by omega)), ?_⟩
                obtain ⟨p1, p2, p3⟩ := putD (((k7.trans k8).trans k9).trans (KR.of s10)) (hR9.same s10) (hD9.same s10) (by omega : i < i + 1 + j) (by omega) (by omega : c ≤ 999) kvs (s10 _ _ h19) (by omega)
                exact ⟨_, rfl, p1, p2, p3.le (by omega)⟩
              · rw [decide_eq_false hd]
                exact iteF ⟨_, rfl, k7.trans k8, hR8, hD8⟩
            · rw [decide_eq_false h30]
              exact iteF (iteF ⟨_, rfl, k7, hR7, hD7⟩)
        · rintro σ H6 ⟨v6, rfl, k6, hR6, hD6⟩
          exact ⟨_, _, rfl, k6, hR6, hD6⟩
      · rintro σ H5 ⟨v6, v7, rfl, k5, hR5, hD5⟩
        obtain ⟨kvs, ks, h1, h2, h3⟩ := hD5.ex
        refine ⟨_, rfl, _, rfl, D, kvs, ks, rfl, h1, h2.keys, by omega, fun p hp => by have := h2.win p hp; omega, fun sq ts ps nsq pperm psort hpair => ?_⟩
        have s6 := same_upd (o := HO.lst (ts.map V.ref)) nsq
        have hpair6 : Paired (PairAt (upd H5 sq (.lst (ts.map V.ref)))) ts ps := hpair.mono fun a b e => s6 _ _ e
        have h16 := s6 _ _ h1
        have hsq : upd H5 sq (.lst (ts.map V.ref)) sq = some (.lst (ts.map V.ref)) := upd_same
        have k6 := k5.trans (KR.of s6)
        have hR6 := hR5.same s6
        generalize upd H5 sq (.lst (ts.map V.ref)) = H6 at hpair6 h16 hsq k6 hR6 ⊢
        have lts : ts.length = ps.length := hpair.length
        have lps : ps.length = ks.length := pperm.length_eq
        refine ⟨sq, rfl, ⟨_, SqL.of hsq⟩, fun L nL => lc_list (K := K) (a := sq) (xs := ts.map V.ref) (fun i H' => Same H6 H' ∧ ∃ qs T, H' L = some (.lst (qs.map V.ref)) ∧ Paired (TieAt H') qs T ∧ T.map (fun t => (t.1, t.2.1)) = ps.take i ∧ ∀ t ∈ T, t.2.2 ≤ 999) ⟨same_put nL (Same.refl _), [], [], upd_same, .nil, rfl, (fun _ h => nomatch h)⟩ (fun i H' _ ⟨s7, _⟩ => SqL.of (s7 _ _ hsq)) ?_ ?_⟩
        · rintro i x H7 hx ⟨s7, qs, T7, h7, P7, e7, pr7⟩
          obtain ⟨t, ht, rfl⟩ : ∃ p, ts[i]? = some p ∧ x = .ref p := by
            rw [List.getElem?_map] at hx
            cases h : ts[i]? with
            | none => rw [h] at hx; cases hx
            | some p => rw [h] at hx; exact ⟨p, rfl, (Option.some.inj hx).symm⟩
          obtain ⟨p, hp, hA⟩ := pair_get hpair6 ht
          have hA : H6 t = some (.tup [nV p.1, nV p.2]) := hA
          have hpk : p ∈ ks := pperm.mem_iff.mp (List.mem_of_getElem? hp)
          obtain ⟨c, hc, hval⟩ := h2.val p hpk
          have lq : qs.length = (ps.take i).length := by rw [P7.length, ← e7, List.length_map]
          have ltk : (ps.take i).length ≤ ps.length := by rw [List.length_take]; omega
          refine ⟨t, _, rfl, SqT.of (s7 _ _ hA), rfl, _, _, rfl, _, _, rfl, rfl, rfl, _, rfl, _, rfl, _, rfl, _, rfl, _, rfl, szl (by simp), fun kp nkp => ?_⟩
          have s8 := same_upd (o := HO.tup [nV p.1, nV p.2]) nkp
          have hk8 : upd H7 kp (.tup [nV p.1, nV p.2]) kp = some (.tup ((keyP p).map kV)) := upd_same
          refine ⟨D, nV c, rfl, by have := DGet.t (k := keyP p) (s8 _ _ (s7 _ _ h16)) hk8; rw [hval] at this; exact this, szl (by simp), fun vp nvp => ⟨qs.map V.ref, ?_, ?_, ?_⟩⟩
          · exact (s8.trans (same_upd nvp)) _ _ h7
          · rw [List.length_map]; exact sz (by omega)
          · have s9 := same_upd (o := HO.tup [nV p.1, nV p.2, nV c]) nvp
            have s79 := s8.trans s9
            have nLv : vp ≠ L := fun z => by
              have := s8 _ _ h7
              rw [z, this] at nvp; cases nvp
            refine ⟨same_put nL (s7.trans s79), qs ++ [vp], T7 ++ [(p.1, p.2, c)], by rw [upd_same, List.map_append]; rfl, ?_, ?_, fun t ht => ?_⟩
            · refine Paired.snoc (P7.mono fun a b e => ?_) ?_
              · have e : H7 a = some (.tup [nV b.1, nV b.2.1, nV b.2.2]) := e
                show upd _ L _ a = _
                rw [upd_ne (ne_of e h7 (by intro z; cases z))]
                exact s79 _ _ e
              · show upd _ L _ vp = some (.tup [nV p.1, nV p.2, nV c])
                rw [upd_ne nLv, upd_same]
            · rw [List.map_append, e7, List.take_add_one, hp]; rfl
            · rcases List.mem_append.mp ht with ht | ht
              · exact pr7 t ht
              · rw [List.mem_singleton.mp ht]; exact hc
        · rintro H7 ⟨s7, qs, T7, h7, P7, e7, pr7⟩
          have e7 : T7.map (fun t => (t.1, t.2.1)) = ps := by
            rw [e7]
            exact List.take_of_length_le (by rw [List.length_map]; omega)
          refine ⟨L, _, rfl, .inl ⟨SqL.of h7, fun tpl ntpl => ⟨szl (by simp), fun wv nwv => ?_⟩⟩⟩
          have s8 := same_upd (o := HO.tup (qs.map V.ref)) ntpl
          have s9 := same_upd (o := HO.tup [nV (1 + n0), V.ref tpl]) nwv
          have s79 := s7.trans (s8.trans s9)
          have hwin : ∀ t ∈ T7, t.1 < t.2.1 ∧ t.2.1 < 1 + n0 := fun t ht => by
            have : (t.1, t.2.1) ∈ ps := by rw [← e7]; exact List.mem_map.mpr ⟨t, ht, rfl⟩
            exact h2.win _ (pperm.mem_iff.mp this)
          have hup : T7.Pairwise lexLt := by
            have nd : ps.Nodup := pperm.nodup_iff.mpr h2.nd
            have pw := List.Pairwise.and psort nd
            rw [← e7, List.pairwise_map] at pw
            refine List.Pairwise.imp_of_mem (fun {s t} hs ht h => ?_) pw
            obtain ⟨h1', h2'⟩ := h
            have w1 := hwin s hs
            have w2 := hwin t ht
            have h1' : s.1 * 64 + s.2.1 ≤ t.1 * 64 + t.2.1 := h1'
            show s.1 < t.1 ∨ (s.1 = t.1 ∧ s.2.1 < t.2.1)
            by_cases z : s.1 = t.1
            · right
              refine ⟨z, ?_⟩
              by_cases z2 : s.2.1 = t.2.1
              · exact absurd (by rw [z, z2]) h2'
              · omega
            · left; omega
          have lT : T7.length = ks.length := by rw [← lps, ← e7, List.length_map]
          exact q wv (1 + n0) T7 _ (k6.trans (KR.of s79)) (hR6.same s79) ⟨tpl, qs, upd_same, s9 _ _ upd_same, P7.mono fun p t e => (s8.trans s9) _ _ e⟩ ⟨by omega, by omega, by omega, hwin, pr7, hup⟩
end
end K10


set_option Elab.async false
set_option linter.all false
set_option maxRecDepth 100000
set_option maxHeartbeats 4000000
namespace K10
open PySem L2 K10M PyProof.Rows
/-- the scope of the outer comprehension of _law_parts -/
def ptSc : Scope := { kind := .function, names := [((".0" : Str), .local), (("_law_root" : Str), .cell), (("tuple" : Str), .globalImplicit), (("range" : Str), .globalImplicit), (("_law_label" : Str), .cell), (("_law_many" : Str), .cell)], isGenerator := false, isCoroutine := false }
def spParts : Sp := fun vs H Q _ => ∃ (l : Addr) (ts : List Addr) (k : Nat) (P : List (Nat × Nat)), vs = [nV k, .ref l] ∧ H l = some (.lst (ts.map V.ref)) ∧ Paired (PairAt H) ts P ∧ PIn P k ∧ k ≤ 6 ∧
  ∀ (r : Addr) (xs : List V) (H' : Hp), Same H H' → H' r = some (.lst xs) → xs.length = nparts k P → Q (.ref r) H'
theorem nparts_len {k : Nat} {P : List (Nat × Nat)} (hk : PIn P k) {ks : List Int} (nd : ks.Nodup) (h : ∀ x : Int, x ∈ ks ↔ x ∈ (labels k P).map Int.ofNat) : ks.length = nparts k P := by
  have e : nparts k P = (((List.range k).filter fun i => decide ((labels k P)[i]? = some i)).map Int.ofNat).length := by
    rw [List.length_map, ← List.countP_eq_length_filter]; rfl
  rw [e]
  refine List.Perm.length_eq ((List.perm_ext_iff_of_nodup nd ?_).mpr fun x => ?_)
  · refine List.pairwise_map.mpr (List.Pairwise.imp (fun {a b} h z => h (Int.ofNat.inj z)) (List.Pairwise.filter _ List.nodup_range))
  · rw [h x]
    have L := labels_ok hk
    constructor
    · intro hm
      obtain ⟨v, hv, rfl⟩ := List.mem_map.mp hm
      obtain ⟨i, hi⟩ := List.mem_iff_getElem?.mp hv
      have hik : i < k := by have := (List.getElem?_eq_some_iff.mp hi).1; rw [L.len] at this; exact this
      obtain ⟨m, hm⟩ := rep_of P i
      have := labels_rep hk hik hm
      rw [hi] at this
      obtain rfl : v = m := Option.some.inj this
      have hv : v < k := by have := L.le _ _ hi; omega
      exact List.mem_map.mpr ⟨v, List.mem_filter.mpr ⟨List.mem_range.mpr hv, decide_eq_true (labels_rep hk hv hm.self)⟩, rfl⟩
    · intro hm
      obtain ⟨v, hv, rfl⟩ := List.mem_map.mp hm
      exact List.mem_map.mpr ⟨v, List.mem_of_getElem? (of_decide_eq_true (List.mem_filter.mp hv).2), rfl⟩
theorem min_z (x y : Nat) : (if (y : Int) < (x : Int) then (y : Int) else (x : Int)) = ((min x y : Nat) : Int) := by
  by_cases h : (y : Int) < (x : Int)
  · rw [if_pos h]; omega
  · rw [if_neg h]; omega
section
variable {P : Program} {w : World} {K : PySem.W.Frag} {mg : Str → Option Value} {base : Heap}
abbrev nPt : List Str := ["_law_many", "_law_pairs", "_law_label", "_law_turn", "_law_a", "_law_b", "_law_least", "_law_place", "_law_root"]
theorem scPt : FnScope nPt ["_law_many", "_law_pairs"] (defScope sParts) := ⟨rfl, rfl, rfl, by decide +kernel, rfl, by decide +kernel, by decide +kernel⟩
theorem ok_parts {f : Addr} {fd : FuncData} (F : Fun K "_law_parts" "_law_parts" sParts f fd) (T : Txt mg) : FnOk P w K mg base CX0 1 f fd ["_law_many", "_law_pairs"] spParts := by
  refine F.ok scPt (fun vs H Q E h => ?_) (fun cdv A outer s H vs Q E hr h => ?_)
  · obtain ⟨l, ts, k, Pr, rfl, _⟩ := h; rfl
  · obtain ⟨l, ts, k, Pr, rfl, hl, hP, hin, hk6, q⟩ := h
    refine ⟨_, (pss_cons (ps_set (i := 2) scPt.nd rfl (.inr rfl) (pe_listRg rfl (by rfl) T.list (prg_1 (by rfl) T.range (pv 0))))
      (pss_cons (ps_for PassesOwn.never rfl (pi_range1 (by rfl) T.range (pa_cons (pv 0) pa_nil)) (pg_name (i := 3) scPt.nd rfl (.inl rfl)) (pss_one (ps_for PassesOwn.never rfl (pi_list (pv 1)) (pg_tup rfl (pgs_cons (pg_name (i := 4) scPt.nd rfl (.inl rfl)) (pgs_cons (pg_name (i := 5) scPt.nd rfl (.inl rfl)) pgs_nil))) (pss_cons (ps_set (i := 6) scPt.nd rfl (.inl rfl) (pe_callB (call_min2 rfl) (by rfl) T.min b_min (pa_cons (pe_ix ix_list (pv 2) (pv 4) (fun _ _ => rfl)) (pa_cons (pe_ix ix_list (pv 2) (pv 5) (fun _ _ => rfl)) pa_nil))))
      (pss_one (ps_asg (pe_tup (pa_cons (pv 6) (pa_cons (pv 6) pa_nil))) (pg_tup rfl (pgs_cons (pg_sub (pv 2) (pv 4) set_list) (pgs_cons (pg_sub (pv 2) (pv 5) set_list) pgs_nil)))))))))
      (pss_one (ps_ret (pe_lc (own := [("_law_root", 8)]) rfl scPt.nd (pi_list (pe_callB (cr_sortedSet rfl) (by rfl) T.sorted b_sorted (pa_cons (pe_callTy (cr_setI rfl) (by rfl) T.set b_set (pa_cons (pv 2) pa_nil)) pa_nil))) (blkOk_by (N := nPt) (sc := defScope sParts) (by decide +kernel)) (fun _ _ _ _ _ => (pg_name (i := 8) scPt.nd rfl (.inr rfl))) (fun _ _ _ _ _ => pts_nil) (fun _ _ _ _ _ => (pe_callTy (call_tuple_of' K) (by rfl) T.tuple b_tuple (pa_cons (pe_lc (own := [("_law_place", 7)]) rfl scPt.nd (pi_range1 (by rfl) T.range (pa_cons (pv 0) pa_nil)) (blkOk_by (N := nPt) (sc := ptSc) (by decide +kernel)) (fun _ _ _ _ _ => (pg_name (i := 7) scPt.nd rfl (.inl rfl))) (fun _ _ _ _ _ => (pts_one (pt_cmpR op_eq (pe_ix (ix_list' K) (pv 2) (pv 7) (fun _ _ => rfl)) (pv 8) (nomark _)))) (fun _ _ _ _ _ => (pv 7))) pa_nil)))))))), ?_⟩
    refine ⟨_, rfl, (k : Nat), rfl, RgOk.of_le (by omega) (by omega) (by omega) (by omega), fun L nL => ?_⟩
    have rg : rgV 0 ((k : Nat) : Int) = (List.range k).map nV := by
      unfold rgV
      have : (((k : Nat) : Int) - 0).toNat = k := by omega
      rw [this]
      refine List.map_congr_left fun i _ => ?_
      rw [Int.zero_add]
    have hL : upd H L (.lst (rgV 0 ((k : Nat) : Int))) L = some (.lst ((List.range k).map nV)) := by rw [upd_same, rg]
    have s1 := same_upd (o := HO.lst (rgV 0 ((k : Nat) : Int))) nL
    generalize upd H L (.lst (rgV 0 ((k : Nat) : Int))) = H1 at hL s1 ⊢
    have lts : ts.length = Pr.length := hP.length
    -- a round
    have lab_ok : ∀ t, LabOk Pr k (Nat.repeat (labRound Pr) t (List.range k)) := fun t => by
      induction t with
      | zero => exact lab0 Pr k
      | succ t ih => exact (labFold hin Pr _ (fun _ h => h) ih).1
    have putL : ∀ {H2 : Hp} {xs ys : List V}, Same H H2 → H2 L = some (.lst xs) → Same H (upd H2 L (.lst ys)) := fun s e b o h => by rw [upd_ne (ne_of_none h nL)]; exact s b o h
    refine ⟨_, rfl, (k : Nat), rfl, by omega, by omega, for_range (fun t σ H' => ∃ v3 v4 v5 v6 v7 v8, σ = [some (nV k), some (.ref l), some (.ref L), v3, v4, v5, v6, v7, v8] ∧ Same H H' ∧ H' L = some (.lst ((Nat.repeat (labRound Pr) t (List.range k)).map nV))) ⟨_, _, _, _, _, _, rfl, s1, hL⟩ ?_ ?_⟩
    · rintro t σ H2 ht ⟨v3, v4, v5, v6, v7, v8, rfl, s2, h2⟩
      refine ⟨_, rfl, l, rfl, ⟨_, SqL.of (s2 _ _ hl)⟩, for_list (K := K) (a := l) (xs := ts.map V.ref) (fun j σ H' => ∃ v3 v4 v5 v6 v7 v8, σ = [some (nV k), some (.ref l), some (.ref L), v3, v4, v5, v6, v7, v8] ∧ Same H H' ∧ H' L = some (.lst (((Pr.take j).foldl labPair (Nat.repeat (labRound Pr) t (List.range k))).map nV))) ⟨_, _, _, _, _, _, rfl, s2, h2⟩ (fun j σ H' _ ⟨_, _, _, _, _, _, _, s3, _⟩ => SqL.of (s3 _ _ hl)) ?_ ?_⟩
      · rintro j x σ H3 hx ⟨v3, v4, v5, v6, v7, v8, rfl, s3, h3⟩
        obtain ⟨pa, hpa, rfl⟩ : ∃ p, ts[j]? = some p ∧ x = .ref p := by
          rw [List.getElem?_map] at hx
          cases h : ts[j]? with
          | none => rw [h] at hx; cases hx
          | some p => rw [h] at hx; exact ⟨p, rfl, (Option.some.inj hx).symm⟩
        obtain ⟨p, hp, hA⟩ := pair_get hP hpa
        have hA : H pa = some (.tup [nV p.1, nV p.2]) := hA
        have hpm := List.mem_of_getElem? hp
        obtain ⟨w1, w2⟩ := hin p hpm
        have LO : LabOk Pr k ((Pr.take j).foldl labPair (Nat.repeat (labRound Pr) t (List.range k))) := (labFold hin (Pr.take j) _ (fun q hq => List.mem_of_mem_take hq) (lab_ok t)).1
        have eT : (Pr.take (j + 1)).foldl labPair (Nat.repeat (labRound Pr) t (List.range k)) = labPair ((Pr.take j).foldl labPair (Nat.repeat (labRound Pr) t (List.range k))) p := by
          rw [List.take_add_one, hp, List.foldl_append]; rfl
        generalize (Pr.take j).foldl labPair (Nat.repeat (labRound Pr) t (List.range k)) = lb at h3 LO eT ⊢
        have l1 : p.1 < lb.length := by rw [LO.len]; exact w1
        have l2 : p.2 < lb.length := by rw [LO.len]; exact w2
        have g1 := getD_some (d := 0) l1
        have g2 := getD_some (d := 0) l2
        refine ⟨pa, _, rfl, SqT.of (s3 _ _ hA), rfl, _, _, rfl, _, _, rfl, rfl, ?_⟩
        refine ⟨_, rfl, _, rfl, L, _, _, _, rfl, rfl, SqL.of h3, at_of (j := p.1) rfl (by rw [List.getElem?_map, g1]; rfl), _, rfl, _, rfl, L, _, _, _, rfl, rfl, SqL.of h3, at_of (j := p.2) rfl (by rw [List.getElem?_map, g2]; rfl), _, _, rfl, ?_⟩
        rw [min_z]
        refine ⟨_, rfl, _, rfl, szl (by simp), fun tp ntp => ⟨tp, _, rfl, SqT.of upd_same, rfl, _, _, rfl, ?_⟩⟩
        have s4 := same_upd (o := HO.tup [nV (min (lb.getD p.1 0) (lb.getD p.2 0)), nV (min (lb.getD p.1 0) (lb.getD p.2 0))]) ntp
        have h4 := s4 _ _ h3
        refine ⟨_, rfl, _, rfl, L, _, _, p.1, rfl, rfl, h4, ix_nat (by rw [List.length_map]; exact l1), ?_⟩
        refine ⟨_, _, rfl, _, rfl, _, rfl, L, _, _, p.2, rfl, rfl, upd_same, ix_nat (by rw [List.length_set, List.length_map]; exact l2), rfl, ?_⟩
        refine ⟨_, _, _, _, _, _, rfl, putL (putL (s3.trans s4) h4) upd_same, ?_⟩
        rw [upd_same, eT]
        unfold labPair
        rw [List.map_set, List.map_set]
      · rintro σ H3 ⟨v3, v4, v5, v6, v7, v8, rfl, s3, h3⟩
        refine ⟨_, _, _, _, _, _, rfl, s3, ?_⟩
        rw [List.length_map, lts, List.take_length] at h3
        exact h3
    · rintro σ H2 ⟨v3, v4, v5, v6, v7, v8, rfl, s2, h2⟩
      have h2 : H2 L = some (.lst ((labels k Pr).map nV)) := h2
      have LO := labels_ok hin
      refine ⟨_, rfl, L, (labels k Pr).map Int.ofNat, rfl, SqL.of (by rw [map_int]; exact h2), by rw [List.length_map, LO.len]; omega, fun sp c ks np nd hkl hki => ?_⟩
      have hc : c = nparts k Pr := by rw [← hkl]; exact nparts_len hin nd hki
      have hc64 : c ≤ 6 := by
        rw [← hkl]
        refine ints_few nd fun x hx => ?_
        obtain ⟨v, hv, rfl⟩ := List.mem_map.mp ((hki x).mp hx)
        obtain ⟨i, hi⟩ := List.mem_iff_getElem?.mp hv
        have h1 := LO.le _ _ hi
        have h2 := (List.getElem?_eq_some_iff.mp hi).1
        rw [LO.len] at h2
        constructor
        · exact Int.natCast_nonneg v
        · exact Int.ofNat_lt.mpr (by omega)
      refine ⟨sp, _, c, rfl, upd_same, by omega, fun ns sq _ _ hl2 nsq => ?_⟩
      have s3 := (same_upd np).trans (same_upd (o := HO.lst (ns.map V.int)) nsq)
      have h3 := s3 _ _ h2
      have hsq := upd_same (a := sq) (o := HO.lst (ns.map V.int)) (H := upd H2 sp (SetO w sp (fun j => decide (j ∈ (labels k Pr).map Int.ofNat)) c))
      have s23 := s2.trans s3
      refine ⟨sq, rfl, ⟨_, SqL.of hsq⟩, ?_⟩
      refine fun D nD => ?_
      have nDs : sq ≠ D := ne_of_none hsq nD
      have nDL : L ≠ D := ne_of_none h3 nD
      have nD0 : H D = none := s23.free nD
      refine lc_list (K := K) (a := sq) (xs := ns.map V.int) (fun i H' => (Same H H' ∧ H' sq = some (.lst (ns.map V.int)) ∧ H' L = some (.lst ((labels k Pr).map nV))) ∧ ∃ xs, H' D = some (.lst xs) ∧ xs.length = i) ⟨⟨same_put nD0 s23, by rw [upd_ne nDs]; exact hsq, by rw [upd_ne nDL]; exact h3⟩, [], upd_same, rfl⟩ (fun i H' _ ⟨⟨_, e, _⟩, _⟩ => SqL.of e) ?_ ?_
      · rintro i x H4 hx ⟨⟨s4, h4s, h4L⟩, xs, h4, l4⟩
        obtain ⟨rt, hrt, rfl⟩ : ∃ p, ns[i]? = some p ∧ x = .int p := by
          rw [List.getElem?_map] at hx
          cases h : ns[i]? with
          | none => rw [h] at hx; cases hx
          | some p => rw [h] at hx; exact ⟨p, rfl, (Option.some.inj hx).symm⟩
        have hil := (List.getElem?_eq_some_iff.mp hrt).1
        refine ⟨rfl, ?_⟩
        refine ⟨_, rfl, (k : Nat), rfl, by omega, by omega, fun D2 nD2 => lc_range (fun j H' => Same H4 H' ∧ ∃ ys, H' D2 = some (.lst ys) ∧ ys.length ≤ j) ⟨same_put nD2 (Same.refl _), [], upd_same, Nat.le_refl _⟩ ?_ ?_⟩
        · rintro j H5 hj ⟨s5, ys, h5, l5⟩
          have hjk : j < k := by simpa using hj
          obtain ⟨v, hv⟩ : ∃ v, (labels k Pr)[j]? = some v := ⟨(labels k Pr)[j]'(by rw [LO.len]; exact hjk), List.getElem?_eq_getElem _⟩
          refine ⟨rfl, _, rfl, _, rfl, L, _, _, _, rfl, rfl, SqL.of (s5 _ _ h4L), at_of (j := j) (by omega) (by rw [List.getElem?_map, hv]; rfl), _, rfl, rfl, _, rfl, ?_⟩
          by_cases hb : nV v = V.int rt
          · rw [decide_eq_true hb]
            refine iteT ⟨_, rfl, ys, h5, sz (by omega), same_put nD2 s5, _, upd_same, by rw [List.length_append]; simp; omega⟩
          · rw [decide_eq_false hb]
            exact iteF ⟨s5, ys, h5, by omega⟩
        · rintro H5 ⟨s5, ys, h5, l5⟩
          refine ⟨D2, _, rfl, .inl ⟨SqL.of h5, fun tp ntp => ⟨xs, ?_, sz (by omega), ?_⟩⟩⟩
          · exact (s5.trans (same_upd ntp)) _ _ h4
          · exact ⟨⟨same_put nD0 (s4.trans (s5.trans (same_upd ntp))), by rw [upd_ne nDs]; exact (s5.trans (same_upd ntp)) _ _ h4s, by rw [upd_ne nDL]; exact (s5.trans (same_upd ntp)) _ _ h4L⟩, _, upd_same, by rw [List.length_append]; simp; omega⟩
      · rintro H4 ⟨⟨s4, _, _⟩, xs, h4, l4⟩
        rw [List.length_map] at l4
        exact q D xs H4 s4 h4 (by rw [l4, hl2, hc])
end
end K10


set_option Elab.async false
set_option linter.all false
set_option maxRecDepth 100000
set_option maxHeartbeats 4000000
namespace K10
open PySem L2 K10M PyProof.Rows
theorem least_ex {P : Nat → Prop} : ∀ w, P w → ∃ m, P m ∧ ∀ v, P v → m ≤ v := by
  intro w
  induction w using Nat.strongRecOn with
  | _ w ih =>
    intro h
    by_cases k : ∃ v, v < w ∧ P v
    · obtain ⟨v, hv, pv⟩ := k
      exact ih v hv pv
    · exact ⟨w, h, fun v pv => Nat.le_of_not_lt fun z => k ⟨v, z, pv⟩⟩
theorem isDist_ex (T : List Tie) (n s : Nat) : ∃ row, IsDist T n s row := by
  classical
  have h : ∀ v, ∃ o : Option Nat, (∀ x, o = some x → Walk T s v x) ∧ ∀ w, Walk T s v w → ∃ x, o = some x ∧ x ≤ w := fun v => by
    by_cases k : ∃ w, Walk T s v w
    · obtain ⟨w, hw⟩ := k
      obtain ⟨m, h1, h2⟩ := least_ex w hw
      exact ⟨some m, fun x e => by cases e; exact h1, fun w hw => ⟨m, rfl, h2 w hw⟩⟩
    · exact ⟨none, (fun x e => by cases e), fun w hw => absurd ⟨w, hw⟩ k⟩
  refine ⟨(List.range n).map fun v => (h v).choose, by simp, fun v x e => ?_, fun v w hv hw => ?_⟩
  · rw [List.getElem?_map] at e
    cases q : (List.range n)[v]? with
    | none => rw [q] at e; cases e
    | some u =>
      rw [q] at e
      obtain ⟨l1, l2⟩ := List.getElem?_eq_some_iff.mp q
      rw [List.getElem_range] at l2
      subst l2
      exact (h v).choose_spec.1 x (Option.some.inj e)
  · obtain ⟨x, h1, h2⟩ := (h v).choose_spec.2 w hw
    refine ⟨x, ?_, h2⟩
    rw [List.getElem?_map, List.getElem?_range hv]
    exact congrArg some h1
def spFar : Sp := fun vs H Q _ => ∃ (w : Addr) (p n : Nat) (T : List Tie) (row : List (Option Nat)), vs = [.ref w, nV p] ∧ WebAt H w n T ∧ WebOk n T ∧ p < n ∧ IsDist T n p row ∧
  ∀ (a : Addr) (H' : Hp), Same H H' → H' a = some (.tup (row.map oV)) → Q (.ref a) H'
def spTold (K : PySem.W.Frag) : Sp := fun vs H Q _ => ∃ (r sa w : Addr) (ns : List Int) (n : Nat) (T : List Tie), vs = [.ref r, .ref w, nV 6] ∧ LRow K H r sa ns ∧ WebAt H w n T ∧ 1 ≤ n ∧ n ≤ 8 ∧
  ∀ (a : Addr) (told : List Nat) (H' : Hp), KR r H H' → LRow K H' r sa ns → ToldAt H' a told → ToldOk n told → Q (.ref a) H'
theorem pair_zip {H : Hp} : ∀ {ts : List Addr} {ps : List (Nat × Nat)}, Paired (PairAt H) ts ps → ∃ L0 : List (Addr × (Nat × Nat)), L0.map (·.1) = ts ∧ L0.map (·.2) = ps ∧ ∀ e ∈ L0, PairAt H e.1 e.2
  | _, _, .nil => ⟨[], rfl, rfl, fun _ h => nomatch h⟩
  | _, _, .cons (a := t) (b := p) e r => by
    obtain ⟨L0, h1, h2, h3⟩ := pair_zip r
    refine ⟨(t, p) :: L0, by rw [List.map_cons, h1], by rw [List.map_cons, h2], fun x hx => ?_⟩
    rcases List.mem_cons.mp hx with rfl | hx
    · exact e
    · exact h3 x hx
theorem cut_take (xs : List V) (k : Nat) : cutV xs none (some (k : Int)) = xs.take k := by
  unfold cutV
  rw [HT.sIx_none, HT.sIx_nat, List.drop_zero, Nat.sub_zero]
  by_cases h : k ≤ xs.length
  · rw [Nat.min_eq_left h]
  · rw [Nat.min_eq_right (by omega), List.take_length, List.take_of_length_le (by omega)]
theorem WebAt.kr {K : PySem.W.Frag} {H H' : Hp} {r sa w : Addr} {ns : List Int} {n : Nat} {T : List Tie} (h : WebAt H w n T) (hR : LRow K H r sa ns) (k : KR r H H') : WebAt H' w n T := by
  obtain ⟨i, seed, rest, _, e⟩ := hR.ex
  exact h.ext fun b xs q => k _ _ q (ne_of q e (by intro z; cases z))
theorem far_step {K : PySem.W.Frag} {v0 v1 v3 v4 v5 : Option V} {fa : Addr} {h t c : Nat} {far : List (Option Nat)} {H : Hp} {D : L2.Ends} (hf : H fa = some (.lst (far.map oV))) (hh : h < far.length) (ht : t < far.length)
    (k : ∀ H' : Hp, (H' = H ∨ ∃ o, H' = upd H fa o) → H' fa = some (.lst ((relax1 far h t c).map oV)) → D.nx [v0, v1, some (.ref fa), v3, v4, v5, some (nV c), some (nV h), some (nV t)] H') :
    tIfS (tAnd (tTest (tOp (fun x y H Q => y = V.non ∧ Q (V.bl !decide (x = V.non)) H) (tOp (rIxL K) (tVar 2) (tVar 7)) (tC V.non)))
        (tOr (tTest (tOp (fun x y H Q => y = V.non ∧ Q (V.bl (decide (x = V.non))) H) (tOp (rIxL K) (tVar 2) (tVar 8)) (tC V.non)))
          (tTest (tOp (rI0 fun i j => V.bl (decide (i < j))) (tOp (rI0 fun i j => V.int (i + j)) (tOp (rIxL K) (tVar 2) (tVar 7)) (tVar 6)) (tOp (rIxL K) (tVar 2) (tVar 8))))))
      (tAsg (tOp (rI0 fun i j => V.int (i + j)) (tOp (rIxL K) (tVar 2) (tVar 7)) (tVar 6)) (gSub (tVar 2) (tVar 8) rSetL)) tNext D
      [v0, v1, some (.ref fa), v3, v4, v5, some (nV c), some (nV h), some (nV t)] H := by
  obtain ⟨oh, eh⟩ : ∃ z, far[h]? = some z := ⟨far[h], List.getElem?_eq_getElem hh⟩
  obtain ⟨ot, et⟩ : ∃ z, far[t]? = some z := ⟨far[t], List.getElem?_eq_getElem ht⟩
  have skip : relax1 far h t c = far → D.nx [v0, v1, some (.ref fa), v3, v4, v5, some (nV c), some (nV h), some (nV t)] H := fun e => k H (.inl rfl) (by rw [e]; exact hf)
  have hit : ∀ x, far[h]? = some (some x) → relax1 far h t c = far.set t (some (x + c)) →
      tAsg (tOp (rI0 fun i j => V.int (i + j)) (tOp (rIxL K) (tVar 2) (tVar 7)) (tVar 6)) (gSub (tVar 2) (tVar 8) rSetL) D [v0, v1, some (.ref fa), v3, v4, v5, some (nV c), some (nV h), some (nV t)] H := fun x ex e => by
    refine ⟨_, rfl, _, rfl, fa, _, _, _, rfl, rfl, SqL.of hf, at_row ex, _, rfl, _, _, rfl, rfl, _, rfl, _, rfl, fa, _, _, t, rfl, rfl, hf, ix_nat (by rw [List.length_map]; exact ht), ?_⟩
    refine k _ (.inr ⟨_, rfl⟩) ?_
    rw [upd_same, e, List.map_set]; rfl
  refine ⟨_, rfl, _, rfl, fa, _, _, _, rfl, rfl, SqL.of hf, at_row eh, rfl, _, rfl, ?_⟩
  cases oh with
  | none => exact iteN rfl (iteF (skip (by unfold relax1; rw [eh])))
  | some x =>
    refine iteNF (fun z => by cases z) ⟨_, rfl, _, rfl, fa, _, _, _, rfl, rfl, SqL.of hf, at_row et, rfl, _, rfl, ?_⟩
    cases ot with
    | none => exact iteD (by rfl) (iteT (hit x eh (by unfold relax1; rw [eh, et])))
    | some y =>
      refine iteDF (fun z => by cases z) ⟨_, rfl, _, rfl, fa, _, _, _, rfl, rfl, SqL.of hf, at_row eh, _, rfl, _, _, rfl, rfl, _, rfl, _, rfl, fa, _, _, _, rfl, rfl, SqL.of hf, at_row et, _, _, rfl, rfl, _, rfl, ?_⟩
      by_cases hlt : x + c < y
      · rw [decide_eq_true (show ((x : Nat) : Int) + (c : Int) < (y : Int) by omega)]
        exact iteT (hit x eh (by unfold relax1; rw [eh, et]; exact if_pos hlt))
      · rw [decide_eq_false (show ¬ ((x : Nat) : Int) + (c : Int) < (y : Int) by omega)]
        exact iteF (skip (by unfold relax1; rw [eh, et]; exact if_neg hlt))
section
variable {P : Program} {w : World} {K : PySem.W.Frag} {mg : Str → Option Value} {base : Heap}
abbrev nTo : List Str := ["_law_row", "_law_web_here", "_law_most", "_law_many", "_law_order", "_law_place", "_law_rank"]
theorem scTo : FnScope nTo ["_law_row", "_law_web_here", "_law_most"] (defScope sTold) := ⟨rfl, rfl, rfl, by decide +kernel, rfl, by decide +kernel, by decide +kernel⟩
theorem ok_told {f : Addr} {fd : FuncData} (F : Fun K "_law_told" "_law_told" sTold f fd) (T : Txt mg) (C1 : Callee P w K mg base 1 "_law_taken" ["_law_row", "_law_many"] (spTaken K)) : FnOk P w K mg base CX0 2 f fd ["_law_row", "_law_web_here", "_law_most"] (spTold K) := by
  refine F.ok scTo (fun vs H Q E h => ?_) (fun cdv A outer s H vs Q E hr h => ?_)
  · obtain ⟨r, sa, wb, ns, n, Ti, rfl, _⟩ := h; rfl
  · obtain ⟨r, sa, wb, ns, n, Ti, rfl, hR, hW, hn1, hn8, q⟩ := h
    obtain ⟨pt, psw, hw, _, _⟩ := hW.ex
    obtain ⟨i0, seed0, rest0, _, er0⟩ := hR.ex
    have hwr : wb ≠ r := ne_of hw er0 (by intro z; cases z)
    refine ⟨_, (pss_cons (ps_set (i := 3) scTo.nd rfl (.inl rfl) (pe_op op_add pe_int (pe_c C1 hr (by decide) (by rfl) (pa_cons (pv 0) (pa_cons (pe_callB (call_min2 rfl) (by rfl) T.min b_min (pa_cons (pv 2) (pa_cons (pe_ix ix_tup (pv 1) pe_int (fun _ _ => rfl)) pa_nil))) pa_nil)))))
      (pss_cons (ps_set (i := 4) scTo.nd rfl (.inl rfl) (pe_callB (cr_sortT (d := 2) (B := 64) (by decide)) (by rfl) T.sorted b_sorted (pa_cons (pe_lc (own := [("_law_place", 5)]) rfl scTo.nd (pi_range1 (by rfl) T.range (pa_cons (pe_ix ix_tup (pv 1) pe_int (fun _ _ => rfl)) pa_nil)) (blkOk_by (N := nTo) (sc := defScope sTold) (by decide +kernel)) (fun _ _ _ _ _ => (pg_name (i := 5) scTo.nd rfl (.inl rfl))) (fun _ _ _ _ _ => pts_nil) (fun _ _ _ _ _ => (pe_tup (pa_cons (pe_c C1 hr (by decide) (by rfl) (pa_cons (pv 0) (pa_cons pe_int pa_nil))) (pa_cons (pv 5) pa_nil))))) pa_nil)))
      (pss_one (ps_ret (pe_callTy call_tuple_of (by rfl) T.tuple b_tuple (pa_cons (pe_callB cr_sorted (by rfl) T.sorted b_sorted (pa_cons (pe_lc (own := [("_law_rank", 6), ("_law_place", 5)]) rfl scTo.nd (pi_list (pe_slice sl_list (pv 4) po_none (po_some (pv 3)))) (blkOk_by (N := nTo) (sc := defScope sTold) (by decide +kernel)) (fun _ _ _ _ _ => (pg_tup' K (n := 2) rfl (pgs_cons (pg_name (i := 6) scTo.nd rfl (.inl rfl)) (pgs_cons (pg_name (i := 5) scTo.nd rfl (.inl rfl)) pgs_nil)))) (fun _ _ _ _ _ => pts_nil) (fun _ _ _ _ _ => (pv 5))) pa_nil)) pa_nil)))))), ?_⟩
    refine ⟨_, rfl, _, rfl, _, rfl, wb, _, _, _, rfl, rfl, SqT.of hw, atI_nat (j := 0) rfl, _, _, rfl, ?_⟩
    refine ⟨r, sa, ns, min 6 n, (by show [V.ref r, V.int (if ((n : Nat) : Int) < ((6 : Nat) : Int) then ((n : Nat) : Int) else ((6 : Nat) : Int))] = _; rw [min_z]), hR, by omega, by omega, fun x0 H1 hx0 k1 hR1 => ⟨_, _, rfl, rfl, ?_⟩⟩
    have hw1 := k1 _ _ hw hwr
    refine ⟨_, rfl, wb, _, _, _, rfl, rfl, SqT.of hw1, atI_nat (j := 0) rfl, n, rfl, by omega, by omega, fun D nD => ?_⟩
    obtain ⟨i1, seed1, rest1, _, er1⟩ := hR1.ex
    have nDr : D ≠ r := Ne.symm (ne_of_none er1 nD)
    have fD : H D = none := by
      cases e : H D with
      | none => rfl
      | some o => rw [k1 D o e nDr] at nD; cases nD
    refine lc_range (fun i H' => KR r H H' ∧ LRow K H' r sa ns ∧ ∃ ts ps, H' D = some (.lst (ts.map V.ref)) ∧ Paired (PairAt H') ts ps ∧ ps.map (·.2) = List.range i ∧ ∀ p ∈ ps, p.1 < 50) ⟨fun b o e ne => by rw [upd_ne (ne_of_none e fD)]; exact k1 b o e ne, hR.put2 fD k1 hR1, [], [], upd_same, .nil, rfl, (fun _ h => nomatch h)⟩ ?_ ?_
    · rintro i H2 hi ⟨k2, hR2, ts, ps, h2, P2, e2, b2⟩
      have hin : i < n := by simpa using hi
      rw [Int.zero_add]
      refine ⟨rfl, _, rfl, r, sa, ns, 50, rfl, hR2, by omega, by omega, fun x H3 hx k3 hR3 => ⟨_, rfl, szl (by simp), fun tp ntp => ⟨ts.map V.ref, ?_, ?_, ?_⟩⟩⟩
      · exact same_upd ntp _ _ (k3 _ _ h2 nDr)
      · have l1 := P2.length
        have l2 := congrArg List.length e2
        rw [List.length_map, List.length_range] at l2
        rw [List.length_map]
        exact sz (by omega)
      · have s4 := same_upd (o := HO.tup [nV x, nV i]) ntp
        have h4 := s4 _ _ (k3 _ _ h2 nDr)
        obtain ⟨i2, seed2, rest2, _, er2⟩ := hR2.ex
        have nDt : tp ≠ D := fun z => by rw [z, k3 _ _ h2 nDr] at ntp; cases ntp
        refine ⟨fun b o e ne => by rw [upd_ne (ne_of_none e fD)]; exact s4 _ _ ((k2.trans k3) b o e ne), hR.put2 fD ((k2.trans k3).trans (KR.of s4)) (hR3.same s4), ts ++ [tp], ps ++ [(x, i)], by rw [upd_same, List.map_append]; rfl, ?_, by rw [List.map_append, e2, List.range_succ]; rfl, fun p hp => ?_⟩
        · refine Paired.snoc (P2.mono fun a b e => ?_) ?_
          · have e : H2 a = some (.tup [nV b.1, nV b.2]) := e
            show upd _ D _ a = _
            rw [upd_ne (ne_of e h2 (by intro z; cases z))]
            exact s4 _ _ (k3 _ _ e (ne_of e er2 (by intro z; cases z)))
          · show upd _ D _ tp = some (.tup [nV x, nV i])
            rw [upd_ne nDt, upd_same]
        · rcases List.mem_append.mp hp with hp | hp
          · exact b2 p hp
          · rw [List.mem_singleton.mp hp]; exact hx
    · rintro H2 ⟨k2, hR2, ts, ps, h2, P2, e2, b2⟩
      have hn : ((n : Int)).toNat = n := by omega
      rw [hn] at e2
      obtain ⟨L0, z1, z2, z3⟩ := pair_zip P2
      have lL0 : L0.length = n := by
        have := congrArg List.length e2
        rw [← z2, List.length_map, List.length_map, List.length_range] at this
        exact this
      have lps : ps.length = n := by rw [← z2, List.length_map]; exact lL0
      have lts : ts.length = n := by rw [← z1, List.length_map]; exact lL0
      have bnd : ∀ e ∈ L0, e.2.1 < 50 ∧ e.2.2 < n := fun e he => by
        have h1 : e.2 ∈ ps := by rw [← z2]; exact List.mem_map.mpr ⟨e, he, rfl⟩
        refine ⟨b2 _ h1, ?_⟩
        have h3 : e.2.2 ∈ ps.map (·.2) := List.mem_map.mpr ⟨_, h1, rfl⟩
        rw [e2] at h3
        exact List.mem_range.mp h3
      have tsr : ts.map V.ref = L0.map (fun e => V.ref e.1) := by rw [← z1, List.map_map]; rfl
      refine ⟨D, ts.map V.ref, rfl, SqL.of h2, by rw [List.length_map]; omega, fun x hx => ?_, fun ys sp yperm _ nsp => ?_⟩
      · rw [tsr] at hx
        obtain ⟨e, he, rfl⟩ := List.mem_map.mp hx
        refine ⟨[(e.2.1 : Int), (e.2.2 : Int)], ⟨e.1, rfl, SqT.of (z3 e he)⟩, rfl, fun y hy => ?_⟩
        have := bnd e he
        rcases List.mem_cons.mp hy with rfl | hy
        · omega
        · rw [List.mem_singleton.mp hy]; omega
      rw [tsr] at yperm
      obtain ⟨L', y1, rfl⟩ := perm_lift (f := fun e : Addr × (Nat × Nat) => V.ref e.1) yperm L0 rfl
      have s3 := same_upd (o := HO.lst (L'.map fun e => V.ref e.1)) nsp
      have h3 : upd H2 sp (.lst (L'.map fun e => V.ref e.1)) sp = some (.lst (L'.map fun e => V.ref e.1)) := upd_same
      refine ⟨_, rfl, _, rfl, _, rfl, sp, _, rfl, SqL.of h3, fun sl nsl => ?_⟩
      have s4 := same_upd (o := HO.lst (cutV (L'.map fun e => V.ref e.1) none (some (1 + (x0 : Int))))) nsl
      have s24 := s3.trans s4
      have h4 : upd (upd H2 sp (.lst (L'.map fun e => V.ref e.1))) sl (.lst (cutV (L'.map fun e => V.ref e.1) none (some (1 + (x0 : Int))))) sl = some (.lst ((L'.take (1 + x0)).map fun e => V.ref e.1)) := by
        rw [upd_same, show (1 + (x0 : Int)) = ((1 + x0 : Nat) : Int) by omega, cut_take, List.map_take]
      refine ⟨sl, rfl, ⟨_, SqL.of h4⟩, ?_⟩
      have hR4 := hR2.same s24
      have k4 := k2.trans (KR.of s24)
      generalize upd (upd H2 sp (.lst (L'.map fun e => V.ref e.1))) sl (.lst (cutV (L'.map fun e => V.ref e.1) none (some (1 + (x0 : Int))))) = H4 at s4 s24 h4 hR4 k4 ⊢
      have lL' : L'.length = n := by rw [y1.length_eq]; exact lL0
      have lT : (L'.take (1 + x0)).length = 1 + x0 := by rw [List.length_take]; omega
      refine fun D2 nD2 => lc_list (K := K) (a := sl) (xs := (L'.take (1 + x0)).map fun e => V.ref e.1) (fun i H' => Same H4 H' ∧ H' D2 = some (.lst (((L'.take (1 + x0)).take i).map fun e => nV e.2.2))) ⟨same_put nD2 (Same.refl _), upd_same⟩ (fun i H' _ ⟨s5, _⟩ => SqL.of (s5 _ _ h4)) ?_ ?_
      · rintro i x H5 hx ⟨s5, h5⟩
        obtain ⟨e, he, rfl⟩ : ∃ e, (L'.take (1 + x0))[i]? = some e ∧ x = .ref e.1 := by
          rw [List.getElem?_map] at hx
          cases h : (L'.take (1 + x0))[i]? with
          | none => rw [h] at hx; cases hx
          | some p => rw [h] at hx; exact ⟨p, rfl, (Option.some.inj hx).symm⟩
        have hm : e ∈ L0 := y1.mem_iff.mp (List.mem_of_mem_take (List.mem_of_getElem? he))
        have hA : H2 e.1 = some (.tup [nV e.2.1, nV e.2.2]) := z3 e hm
        refine ⟨e.1, _, rfl, SqT.of (s5 _ _ (s24 _ _ hA)), rfl, _, _, rfl, _, _, rfl, rfl, rfl, _, rfl, _, h5, ?_, same_put nD2 s5, ?_⟩
        · rw [List.length_map, List.length_take]; exact sz (by omega)
        · rw [upd_same, List.take_add_one, he, List.map_append]; rfl
      · rintro H5 ⟨s5, h5⟩
        rw [List.length_map, List.take_length] at h5
        have es : ((L'.take (1 + x0)).map fun e => nV e.2.2) = (((L'.take (1 + x0)).map fun e => e.2.2).map Int.ofNat).map V.int := by rw [map_int, List.map_map]; rfl
        refine ⟨D2, ((L'.take (1 + x0)).map fun e => e.2.2).map Int.ofNat, rfl, SqL.of (by rw [← es]; exact h5), by rw [List.length_map, List.length_map]; omega, fun zs p2 zperm zsort np2 => ?_⟩
        obtain ⟨told, t1, rfl⟩ := perm_lift (f := Int.ofNat) zperm _ rfl
        refine ⟨p2, _, rfl, .inl ⟨SqL.of upd_same, fun tp ntp => ?_⟩⟩
        have s6 := (same_upd (o := HO.lst ((told.map Int.ofNat).map V.int)) np2).trans (same_upd (o := HO.tup ((told.map Int.ofNat).map V.int)) ntp)
        have s46 := s5.trans s6
        refine q tp told _ (k4.trans (KR.of s46)) (hR4.same s46) (by show upd _ tp _ tp = _; rw [upd_same, map_int]) ⟨fun z => ?_, ?_, ?_, fun p hp => ?_⟩
        · have := t1.length_eq
          rw [z, List.length_map, lT] at this
          simp at this; omega
        · rw [t1.length_eq, List.length_map, lT]; omega
        · have nd : told.Nodup := by
            refine t1.nodup_iff.mpr ?_
            have h1 : (L'.map fun e => e.2.2).Nodup := by
              have : (L'.map fun e => e.2.2).Perm (List.range n) := by
                rw [← e2, ← z2, List.map_map]
                exact y1.map _
              exact this.nodup_iff.mpr List.nodup_range
            rw [List.map_take]
            exact h1.sublist (List.take_sublist _ _)
          rw [List.pairwise_map] at zsort
          exact List.Pairwise.imp (fun {a b} h => by
            have h1 := Int.ofNat_le.mp h.1
            exact Nat.lt_of_le_of_ne h1 h.2) (List.Pairwise.and zsort nd)
        · obtain ⟨e, he, rfl⟩ := List.mem_map.mp (t1.mem_iff.mp hp)
          exact (bnd e (y1.mem_iff.mp (List.mem_of_mem_take he))).2
abbrev nFa : List Str := ["_law_web_here", "_law_place", "_law_found", "_law_turn", "_law_a", "_law_b", "_law_cost", "_law_here", "_law_there"]
theorem scFa : FnScope nFa ["_law_web_here", "_law_place"] (defScope sFar) := ⟨rfl, rfl, rfl, by decide +kernel, rfl, by decide +kernel, by decide +kernel⟩
theorem ok_far {f : Addr} {fd : FuncData} (F : Fun K "_law_far" "_law_far" sFar f fd) (T : Txt mg) : FnOk P w K mg base CX0 1 f fd ["_law_web_here", "_law_place"] spFar := by
  refine F.ok scFa (fun vs H Q E h => ?_) (fun cdv A outer s H vs Q E hr h => ?_)
  · obtain ⟨wb, p, n, Ti, row, rfl, _⟩ := h; rfl
  · obtain ⟨wb, p, n, Ti, row, rfl, hW, hO, hp, hD, q⟩ := h
    obtain ⟨pt, ps, hw, hpt, hps⟩ := hW.ex
    have hn8 := hO.n8
    refine ⟨_, (pss_cons (ps_set (i := 2) scFa.nd rfl (.inl rfl) (pe_op op_rep (pe_lst (pa_cons pe_non pa_nil)) (pe_ix ix_tup (pv 0) pe_int (fun _ _ => rfl))))
      (pss_cons (ps_asg pe_int (pg_sub (pv 2) (pv 1) set_list))
      (pss_cons (ps_for PassesOwn.never rfl (pi_range1 (by rfl) T.range (pa_cons (pe_ix ix_tup (pv 0) pe_int (fun _ _ => rfl)) pa_nil)) (pg_name (i := 3) scFa.nd rfl (.inl rfl)) (pss_one (ps_for PassesOwn.never rfl (pi_tup (pe_ix ix_tup (pv 0) pe_int (fun _ _ => rfl))) (pg_tup rfl (pgs_cons (pg_name (i := 4) scFa.nd rfl (.inl rfl)) (pgs_cons (pg_name (i := 5) scFa.nd rfl (.inl rfl)) (pgs_cons (pg_name (i := 6) scFa.nd rfl (.inl rfl)) pgs_nil)))) (pss_one (ps_for PassesOwn.never rfl (pi_list (pe_lst (pa_cons (pe_tup (pa_cons (pv 4) (pa_cons (pv 5) pa_nil))) (pa_cons (pe_tup (pa_cons (pv 5) (pa_cons (pv 4) pa_nil))) pa_nil)))) (pg_tup rfl (pgs_cons (pg_name (i := 7) scFa.nd rfl (.inl rfl)) (pgs_cons (pg_name (i := 8) scFa.nd rfl (.inl rfl)) pgs_nil))) (pss_one (ps_if (PW.pt (pw_and (pt_cmpR op_notN (pe_ix ix_list (pv 2) (pv 7) (fun _ _ => rfl)) pe_non (nomark _)) (pw_and1 (PW.pt (pw_or (pt_cmpR op_isN (pe_ix ix_list (pv 2) (pv 8) (fun _ _ => rfl)) pe_non (nomark _)) (pw_or1 (pt_cmpR op_lt (pe_op op_add (pe_ix ix_list (pv 2) (pv 7) (fun _ _ => rfl)) (pv 6)) (pe_ix ix_list (pv 2) (pv 8) (fun _ _ => rfl)) (nomark _)))))))) (pss_one (ps_asg (pe_op op_add (pe_ix ix_list (pv 2) (pv 7) (fun _ _ => rfl)) (pv 6)) (pg_sub (pv 2) (pv 8) set_list))) pss_nil)))))))
      (pss_one (ps_ret (pe_callTy call_tuple_of (by rfl) T.tuple b_tuple (pa_cons (pv 2) pa_nil))))))), ?_⟩
    refine ⟨szl (by simp), fun p1 np1 => ?_⟩
    have s1 := same_upd (o := HO.lst [V.non]) np1
    refine ⟨_, rfl, wb, _, _, _, rfl, rfl, SqT.of (s1 _ _ hw), atI_nat (j := 0) rfl, p1, n, [V.non], rfl, rfl, upd_same, by omega, by omega, szl (by simp; omega), fun fa nfa => ?_⟩
    have s2 := s1.trans (same_upd (o := HO.lst (List.replicate ((n : Nat) : Int).toNat [V.non]).flatten) nfa)
    have h2 : upd (upd H p1 (.lst [V.non])) fa (.lst (List.replicate ((n : Nat) : Int).toNat [V.non]).flatten) fa = some (.lst ((List.replicate n (none : Option Nat)).map oV)) := by
      rw [upd_same, Int.toNat_natCast, List.flatten_replicate_singleton, List.map_replicate]; rfl
    have f0 : H fa = none := s1.free nfa
    generalize upd (upd H p1 (.lst [V.non])) fa (.lst (List.replicate ((n : Nat) : Int).toNat [V.non]).flatten) = H2 at s2 h2 ⊢
    refine ⟨_, rfl, _, rfl, fa, _, _, p, rfl, rfl, h2, ix_nat (by simp; exact hp), ?_⟩
    have putF : ∀ {H3 : Hp} {o : HO}, Same H H3 → Same H (upd H3 fa o) := fun s b o e => by rw [upd_ne (ne_of_none e f0)]; exact s b o e
    have e1 : ((List.replicate n (none : Option Nat)).map oV).set p (V.int 0) = (((List.replicate n (none : Option Nat)).set p (some 0)).map oV) := by rw [List.map_set]; rfl
    rw [e1]
    have s3 : Same H (upd H2 fa (.lst (((List.replicate n (none : Option Nat)).set p (some 0)).map oV))) := putF s2
    have h3 : upd H2 fa (.lst (((List.replicate n (none : Option Nat)).set p (some 0)).map oV)) fa = some (.lst (((List.replicate n (none : Option Nat)).set p (some 0)).map oV)) := upd_same
    have sl : ((List.replicate n (none : Option Nat)).set p (some 0)).length = n := by simp
    have ss : ∀ (u x : Nat), ((List.replicate n (none : Option Nat)).set p (some 0))[u]? = some (some x) ↔ u = p ∧ x = 0 := fun u x => by
      constructor
      · intro h
        rcases get_set (by simp; exact hp) h with ⟨k1, k2⟩ | ⟨_, k⟩
        · exact ⟨k1, Option.some.inj k2⟩
        · rw [List.getElem?_replicate] at k
          split at k <;> cases k
      · rintro ⟨rfl, rfl⟩
        exact List.getElem?_set_self (by simp; exact hp)
    have fin := far_is hO.win hD sl ss
    generalize (List.replicate n (none : Option Nat)).set p (some 0) = start at s3 h3 sl ss fin ⊢
    generalize upd H2 fa (.lst (start.map oV)) = H3 at s3 h3 ⊢
    have len1 : ∀ (far : List (Option Nat)) h t c, (relax1 far h t c).length = far.length := fun far h t c => by
      rcases relax1_cases far h t c with e | ⟨x, _, e, _⟩
      · rw [e]
      · rw [e, List.length_set]
    have lenF : ∀ (l : List Tie) (far : List (Option Nat)), (l.foldl farTie far).length = far.length := fun l => by
      induction l with
      | nil => intro far; rfl
      | cons t l ih => intro far; rw [List.foldl_cons, ih]; unfold farTie; rw [len1, len1]
    have lenR : ∀ k, (Nat.repeat (farRound Ti) k start).length = n := fun k => by
      induction k with
      | zero => exact sl
      | succ k ih => show (farRound Ti _).length = n; unfold farRound; rw [lenF]; exact ih
    refine ⟨_, rfl, wb, _, _, _, rfl, rfl, SqT.of (s3 _ _ hw), atI_nat (j := 0) rfl, n, rfl, by omega, by omega, for_range (fun t σ H' => ∃ v3 v4 v5 v6 v7 v8, σ = [some (.ref wb), some (nV p), some (.ref fa), v3, v4, v5, v6, v7, v8] ∧ Same H H' ∧ H' fa = some (.lst ((Nat.repeat (farRound Ti) t start).map oV))) ⟨_, _, _, _, _, _, rfl, s3, h3⟩ ?_ ?_⟩
    · rintro t σ H4 ht ⟨v3, v4, v5, v6, v7, v8, rfl, s4, h4⟩
      refine ⟨_, rfl, wb, _, _, _, rfl, rfl, SqT.of (s4 _ _ hw), atI_nat (j := 1) rfl, pt, rfl, ⟨_, SqT.of (s4 _ _ hpt)⟩, for_tup (K := K) (a := pt) (xs := ps.map V.ref) (fun j σ H' => ∃ v3 v4 v5 v6 v7 v8, σ = [some (.ref wb), some (nV p), some (.ref fa), v3, v4, v5, v6, v7, v8] ∧ Same H H' ∧ H' fa = some (.lst (((Ti.take j).foldl farTie (Nat.repeat (farRound Ti) t start)).map oV))) ⟨_, _, _, _, _, _, rfl, s4, h4⟩ (fun j σ H' _ ⟨_, _, _, _, _, _, _, s5, _⟩ => SqT.of (s5 _ _ hpt)) ?_ ?_⟩
      · rintro j x σ H5 hx ⟨v3, v4, v5, v6, v7, v8, rfl, s5, h5⟩
        obtain ⟨pa, hpa, rfl⟩ : ∃ p, ps[j]? = some p ∧ x = .ref p := by
          rw [List.getElem?_map] at hx
          cases h : ps[j]? with
          | none => rw [h] at hx; cases hx
          | some p => rw [h] at hx; exact ⟨p, rfl, (Option.some.inj hx).symm⟩
        obtain ⟨⟨a, b, c⟩, htj, hA⟩ := pair_get hps hpa
        have hA : H pa = some (.tup [nV a, nV b, nV c]) := hA
        have hwn := hO.win _ (List.mem_of_getElem? htj)
        have w1 : a < b := hwn.1
        have w2 : b < n := hwn.2
        have eT : (Ti.take (j + 1)).foldl farTie (Nat.repeat (farRound Ti) t start) = farTie ((Ti.take j).foldl farTie (Nat.repeat (farRound Ti) t start)) (a, b, c) := by
          rw [List.take_add_one, htj, List.foldl_append]; rfl
        have lf : ((Ti.take j).foldl farTie (Nat.repeat (farRound Ti) t start)).length = n := by rw [lenF, lenR]
        generalize (Ti.take j).foldl farTie (Nat.repeat (farRound Ti) t start) = far at h5 eT lf ⊢
        refine ⟨pa, _, rfl, SqT.of (s5 _ _ hA), rfl, _, _, rfl, _, _, rfl, _, _, rfl, rfl, ?_⟩
        refine ⟨_, rfl, _, rfl, szl (by simp), fun q1 nq1 => ⟨_, rfl, _, rfl, szl (by simp), fun q2 nq2 => ⟨szl (by simp), fun ql nql => ?_⟩⟩⟩
        have r1 := same_upd (o := HO.tup [nV a, nV b]) nq1
        have r2 := same_upd (o := HO.tup [nV b, nV a]) nq2
        have r3 := same_upd (o := HO.lst [V.ref q1, V.ref q2]) nql
        have hq1 := r3 _ _ (r2 _ _ (upd_same (H := H5) (a := q1) (o := HO.tup [nV a, nV b])))
        have hq2 := r3 _ _ (upd_same (H := upd H5 q1 (.tup [nV a, nV b])) (a := q2) (o := HO.tup [nV b, nV a]))
        have hql := upd_same (H := upd (upd H5 q1 (.tup [nV a, nV b])) q2 (.tup [nV b, nV a])) (a := ql) (o := HO.lst [V.ref q1, V.ref q2])
        have s6 := s5.trans ((r1.trans r2).trans r3)
        have h6 := ((r1.trans r2).trans r3) _ _ h5
        have nqf : ql ≠ fa := fun z => by rw [z, (r1.trans r2) _ _ h5] at nql; cases nql
        generalize upd (upd (upd H5 q1 (.tup [nV a, nV b])) q2 (.tup [nV b, nV a])) ql (.lst [V.ref q1, V.ref q2]) = H6 at hq1 hq2 hql s6 h6 ⊢
        refine ⟨ql, rfl, ⟨_, SqL.of hql⟩, for_list (K := K) (a := ql) (xs := [V.ref q1, V.ref q2]) (fun i σ H' => ∃ v3 v7 v8, σ = [some (.ref wb), some (nV p), some (.ref fa), v3, some (nV a), some (nV b), some (nV c), v7, v8] ∧ Same H H' ∧ H' q1 = some (.tup [nV a, nV b]) ∧ H' q2 = some (.tup [nV b, nV a]) ∧ H' ql = some (.lst [V.ref q1, V.ref q2]) ∧
          H' fa = some (.lst ((match i with | 0 => far | 1 => relax1 far a b c | _ => farTie far (a, b, c)).map oV))) ⟨_, _, _, rfl, s6, hq1, hq2, hql, h6⟩ (fun i σ H' _ ⟨_, _, _, _, _, _, _, e, _⟩ => SqL.of e) ?_ ?_⟩
        · rintro i x σ H7 hx ⟨v3, v7, v8, rfl, s7, e1, e2, el, h7⟩
          have keep : ∀ {b' : Addr} {o : HO} {H' : Hp}, (H' = H7 ∨ ∃ o, H' = upd H7 fa o) → H7 b' = some o → b' ≠ fa → H' b' = some o := fun hH e ne => by
            rcases hH with rfl | ⟨o', rfl⟩
            · exact e
            · rw [upd_ne ne]; exact e
          have same7 : ∀ {H' : Hp}, (H' = H7 ∨ ∃ o, H' = upd H7 fa o) → Same H H' := fun hH => by
            rcases hH with rfl | ⟨o', rfl⟩
            · exact s7
            · exact putF s7
          have n1 : q1 ≠ fa := ne_of e1 h7 (by intro z; cases z)
          have n2 : q2 ≠ fa := ne_of e2 h7 (by intro z; cases z)
          have len2 : (relax1 far a b c).length = n := by rw [len1]; exact lf
          match i, hx, h7 with
          | 0, hx, h7 =>
            obtain rfl : V.ref q1 = x := Option.some.inj hx
            refine ⟨q1, _, rfl, SqT.of e1, rfl, _, _, rfl, _, _, rfl, rfl, ?_⟩
            refine far_step (K := K) (far := far) h7 (by omega) (by omega) fun H' hH hf => ?_
            exact ⟨_, _, _, rfl, same7 hH, keep hH e1 n1, keep hH e2 n2, keep hH el nqf, hf⟩
          | 1, hx, h7 =>
            obtain rfl : V.ref q2 = x := Option.some.inj hx
            refine ⟨q2, _, rfl, SqT.of e2, rfl, _, _, rfl, _, _, rfl, rfl, ?_⟩
            refine far_step (K := K) (far := relax1 far a b c) h7 (by omega) (by omega) fun H' hH hf => ?_
            exact ⟨_, _, _, rfl, same7 hH, keep hH e1 n1, keep hH e2 n2, keep hH el nqf, hf⟩
          | i + 2, hx, _ => simp at hx
        · rintro σ H7 ⟨v3, v7, v8, rfl, s7, e1, e2, el, h7⟩
          exact ⟨_, _, _, _, _, _, rfl, s7, by rw [eT]; exact h7⟩
      · rintro σ H5 ⟨v3, v4, v5, v6, v7, v8, rfl, s5, h5⟩
        refine ⟨_, _, _, _, _, _, rfl, s5, ?_⟩
        rw [List.length_map, hps.length, List.take_length] at h5
        exact h5
    · rintro σ H4 ⟨v3, v4, v5, v6, v7, v8, rfl, s4, h4⟩
      have hn : ((n : Int)).toNat = n := by omega
      rw [hn, fin] at h4
      refine ⟨_, rfl, fa, _, rfl, .inl ⟨SqL.of h4, fun tp ntp => ?_⟩⟩
      exact q tp _ (s4.trans (same_upd ntp)) upd_same
end
end K10


set_option Elab.async false
set_option linter.all false
set_option maxRecDepth 100000
set_option maxHeartbeats 4000000
/-! what the law's own text needs besides -/
namespace K10
open PySem L2 K10M PyProof.Rows
theorem ite_both {c : Bool} {A B C : Prop} (hA : C → A) (hB : C → B) (hC : C) : if c = true then A else B := by
  cases c with
  | true => exact iteT (hA hC)
  | false => exact iteF (hB hC)
theorem Tab.kr {P r : Addr} {H H' : Hp} {xs : List V} (t : Tab P H) (e : H r = some (.lst xs)) (k : KR r H H') : Tab P H' := by
  obtain ⟨ps, h1, h2, h3⟩ := t
  refine ⟨ps, k _ _ h1 (fun z => by rw [z, e] at h1; cases h1), h2, fun pos cv hc => ?_⟩
  obtain ⟨c, q1, q2⟩ := h3 pos cv hc
  exact ⟨c, q1, k _ _ q2 (fun z => by rw [z, e] at q2; unfold LamX.CodeO at q2; cases q2)⟩
/-- sorted(xs), xs triples of ints below some bound -/
theorem cr_sortTB {X : Cx} : CallR X (.builtin "sorted") (fun vs H Q => ∃ B : Int, rSortU X.K 3 B vs H Q) := by
  intro pins s σ H vs us Q I r h
  obtain ⟨B, h⟩ := h
  exact cr_sortT (by decide) pins s σ H vs us Q I r h
theorem code3 {B c a b c' a' b' : Int} (h : TS.code B [c, a, b] ≤ TS.code B [c', a', b']) (hB : 0 < B) (hc : 0 ≤ c) (ha : 0 ≤ a) (hb : 0 ≤ b) (ha' : a' < B) (hb' : b' < B) : c ≤ c' := by
  apply Classical.byContradiction
  intro z
  have z : c' + 1 ≤ c := by omega
  have e : ∀ x y w : Int, TS.code B [x, y, w] = x * (B * B) + (y * B + w) := fun x y w => by
    show x * B ^ 2 + (y * B ^ 1 + (w * B ^ 0 + 0)) = _
    rw [Int.pow_succ, Int.pow_succ, Int.pow_zero, Int.one_mul, Int.mul_one, Int.add_zero]
  rw [e, e] at h
  have h1 : (c' + 1) * (B * B) ≤ c * (B * B) := Int.mul_le_mul_of_nonneg_right z (Int.mul_nonneg (by omega) (by omega))
  rw [Int.add_mul, Int.one_mul] at h1
  have h2 : a' * B ≤ (B - 1) * B := Int.mul_le_mul_of_nonneg_right (by omega) (by omega)
  rw [Int.sub_mul, Int.one_mul] at h2
  have h3 : 0 ≤ a * B := Int.mul_nonneg ha (by omega)
  omega
theorem tie_zip {H : Hp} : ∀ {ts : List Addr} {T : List Tie}, Paired (TieAt H) ts T → ∃ L0 : List (Addr × Tie), L0.map (·.1) = ts ∧ L0.map (·.2) = T ∧ ∀ e ∈ L0, TieAt H e.1 e.2
  | _, _, .nil => ⟨[], rfl, rfl, fun _ h => nomatch h⟩
  | _, _, .cons (a := t) (b := p) e r => by
    obtain ⟨L0, h1, h2, h3⟩ := tie_zip r
    refine ⟨(t, p) :: L0, by rw [List.map_cons, h1], by rw [List.map_cons, h2], fun x hx => ?_⟩
    rcases List.mem_cons.mp hx with rfl | hx
    · exact e
    · exact h3 x hx
theorem tie_unzip {H : Hp} : ∀ (L : List (Addr × Tie)), (∀ e ∈ L, TieAt H e.1 e.2) → Paired (TieAt H) (L.map (·.1)) (L.map (·.2))
  | [], _ => .nil
  | e :: L, h => .cons (h e List.mem_cons_self) (tie_unzip L fun x hx => h x (List.mem_cons_of_mem _ hx))
/-- the sort of the law's ties, told of the list of triples -/
theorem sort3 {K : PySem.W.Frag} {H : Hp} {l : Addr} {ts : List Addr} {T : List Tie} {Q : VK} (hl : H l = some (.lst (ts.map V.ref))) (hp : Paired (TieAt H) ts T) (hlen : T.length < 64)
    (q : ∀ (p : Addr) (us : List Addr) (S : List Tie), H p = none → S.Perm T → S.Pairwise (fun x y => x.1 ≤ y.1) → Paired (TieAt H) us S → Q (.ref p) (upd H p (.lst (us.map V.ref)))) :
    ∃ B : Int, rSortU K 3 B [V.ref l] H Q := by
  obtain ⟨L0, z1, z2, z3⟩ := tie_zip hp
  have bound : ∃ B : Nat, ∀ t ∈ T, t.1 < B ∧ t.2.1 < B ∧ t.2.2 < B := by
    clear hp hlen z2 q
    induction T with
    | nil => exact ⟨0, fun _ h => nomatch h⟩
    | cons t T ih =>
      obtain ⟨B, hB⟩ := ih
      refine ⟨B + t.1 + t.2.1 + t.2.2 + 1, fun u hu => ?_⟩
      rcases List.mem_cons.mp hu with rfl | hu
      · omega
      · have := hB u hu; omega
  obtain ⟨B, hB⟩ := bound
  have bnd : ∀ e ∈ L0, e.2.1 < B ∧ e.2.2.1 < B ∧ e.2.2.2 < B := fun e he => hB _ (by rw [← z2]; exact List.mem_map.mpr ⟨e, he, rfl⟩)
  have lts : ts.length = T.length := hp.length
  have tsr : ts.map V.ref = L0.map (fun e => V.ref e.1) := by rw [← z1, List.map_map]; rfl
  have tupI : ∀ e ∈ L0, TupI K H (.ref e.1) [(e.2.1 : Int), (e.2.2.1 : Int), (e.2.2.2 : Int)] := fun e he => ⟨e.1, rfl, SqT.of (show H e.1 = some (.tup [nV e.2.1, nV e.2.2.1, nV e.2.2.2]) from z3 e he)⟩
  refine ⟨(B : Int), l, ts.map V.ref, rfl, SqL.of hl, by rw [List.length_map]; omega, fun x hx => ?_, fun ys p yperm ysort np => ?_⟩
  · rw [tsr] at hx
    obtain ⟨e, he, rfl⟩ := List.mem_map.mp hx
    refine ⟨_, tupI e he, rfl, fun y hy => ?_⟩
    have := bnd e he
    rcases List.mem_cons.mp hy with rfl | hy
    · omega
    · rcases List.mem_cons.mp hy with rfl | hy
      · omega
      · rw [List.mem_singleton.mp hy]; omega
  · rw [tsr] at yperm
    obtain ⟨L', y1, rfl⟩ := perm_lift (f := fun e : Addr × Tie => V.ref e.1) yperm L0 rfl
    have e1 : L'.map (fun e => V.ref e.1) = (L'.map (·.1)).map V.ref := by rw [List.map_map]; rfl
    rw [e1]
    refine q p (L'.map (·.1)) (L'.map (·.2)) np (by rw [← z2]; exact y1.map _) ?_ (tie_unzip L' fun e he => z3 e (y1.mem_iff.mp he))
    rw [List.pairwise_map] at ysort ⊢
    refine List.Pairwise.imp_of_mem (fun {e g} he hg h => ?_) ysort
    have he := y1.mem_iff.mp he
    have hg := y1.mem_iff.mp hg
    have h1 := h _ _ (tupI e he) (tupI g hg)
    have b1 := bnd e he
    have b2 := bnd g hg
    have := code3 h1 (by omega) (by omega) (by omega) (by omega) (by omega) (by omega)
    omega
/-- the verdict: both trees agree, and the web's price lies between -/
theorem verdict {T : List Tie} {n : Nat} {told : List Nat} {row : Nat → List (Option Nat)} {k due z : Nat} {S : List (Nat × Nat × Nat)} {held : List (Nat × Nat)} {F : List Tie} {o1 o2 : Option Nat} (B : Base T n told row) (hk : k = told.length) (h0 : 0 < k) (A : AllPairs told row k S)
    (Kr : Krus told row k due S held F) (hp : PrimEnd T told row o1) (hz : told[told.length - 1]? = some z) (hl : IsLeast T told (2 ^ told.length - 1) z o2) :
    o1 = (if held.length = k - 1 then some due else none) ∧ ((o1 = none ∧ o2 = none) ∨ ∃ t x, o1 = some t ∧ o2 = some x ∧ x ≤ t ∧ k * t ≤ 2 * (k - 1) * x) := by
  cases o1 with
  | some total =>
    obtain ⟨t0, hd, H, P⟩ := hp
    obtain ⟨e1, e2⟩ := both_some B hk h0 A Kr P
    obtain ⟨w, w1, w2⟩ := P.full B (z := z) (List.mem_of_getElem? hz)
    refine ⟨by rw [if_pos e1, e2], .inr ?_⟩
    cases o2 with
    | none => exact absurd w2 (hl w)
    | some x =>
      obtain ⟨l1, l2⟩ := hl
      refine ⟨total, x, rfl, rfl, Nat.le_trans (l2 w w2) w1, ?_⟩
      have := prim_bound B (by omega) P l1
      rw [← hk] at this
      exact this
  | none =>
    obtain ⟨t0, total, hd, left, H, P, hle, hno⟩ := hp
    have e := both_none B hk h0 Kr P hle hno
    refine ⟨by rw [if_neg e], .inl ⟨rfl, ?_⟩⟩
    cases o2 with
    | none => rfl
    | some x => exact absurd hl.1 ((no_web B P hle hno).2 z x)
end K10


set_option Elab.async false
set_option linter.all false
set_option maxRecDepth 100000
set_option maxHeartbeats 4000000
namespace K10
open PySem L2 K10M PyProof.Rows
def spLaw (K : PySem.W.Frag) (Pt : Addr) : Sp := fun vs H Q _ => ∃ (a : Addr) (ns : List Int), vs = [.ref a] ∧ SqL K H a (ns.map V.int) ∧ Tab Pt H ∧ ∀ H', Q (.bl true) H'
section
variable {P : Program} {w : World} {K : PySem.W.Frag} {mg : Str → Option Value} {base : Heap}
abbrev nLw : List Str := ["_law_script", "_law_row", "_law_web_here", "_law_told_here", "_law_rows", "_law_many", "_law_ties", "_law_a", "_law_b", "_law_held", "_law_due", "_law_cost", "_law_found", "_law_least", "_law_place"]
theorem scLw : FnScope nLw ["_law_script"] (defScope sLaw) := ⟨rfl, rfl, rfl, by decide +kernel, rfl, by decide +kernel, by decide +kernel⟩
theorem ok_law {f Pt : Addr} {fd : FuncData} (F : Fun K "law" "law" sLaw f fd) (T : Txt mg) (C1 : Callee P w K mg base 1 "_law_taken" ["_law_row", "_law_many"] (spTaken K)) (C2 : Callee P w K mg base 3 "_law_web" ["_law_row", "_law_most", "_law_dense"] (spWeb K))
    (C3 : Callee P w K mg base 3 "_law_joined_web" ["_law_row", "_law_most", "_law_dense"] (spWeb K)) (C4 : Callee P w K mg base 2 "_law_told" ["_law_row", "_law_web_here", "_law_most"] (spTold K)) (C5 : Callee P w K mg base 1 "_law_far" ["_law_web_here", "_law_place"] spFar)
    (C6 : Callee P w K mg base 1 "_law_parts" ["_law_many", "_law_pairs"] spParts) (C7 : Callee P w K mg base 5 "distance_price" ["web", "told"] (spDist Pt)) (C8 : Callee P w K mg base 51 "least_price" ["web", "told"] (spPrice Pt))
    (C9 : Callee P w K mg base 1 "_law_alike" ["_law_found", "_law_due"] spAlike) : FnOk P w K mg base CX0 52 f fd ["_law_script"] (spLaw K Pt) := by
  refine F.ok scLw (fun vs H Q E h => ?_) (fun cdv A outer s H vs Q E hr h => ?_)
  · obtain ⟨a, ns, rfl, _⟩ := h; rfl
  · obtain ⟨sa, ns, rfl, hs, hTab, q⟩ := h
    refine ⟨_, (pss_cons (ps_set (i := 1) scLw.nd rfl (.inl rfl) (pe_lst (pa_cons (pv 0) (pa_cons pe_int (pa_cons pe_int (pa_cons pe_int pa_nil))))))
      (pss_cons (ps_set (i := 2) scLw.nd rfl (.inr rfl) (pe_ifExp (pt_cmpR op_eq (pe_c C1 hr (by decide) (by rfl) (pa_cons (pv 1) (pa_cons pe_int pa_nil))) pe_int (nomark _)) (pe_c C2 hr (by decide) (by rfl) (pa_cons (pv 1) (pa_cons pe_int (pa_cons pe_int pa_nil)))) (pe_c C3 hr (by decide) (by rfl) (pa_cons (pv 1) (pa_cons pe_int (pa_cons pe_int pa_nil))))))
      (pss_cons (ps_set (i := 3) scLw.nd rfl (.inr rfl) (pe_c C4 hr (by decide) (by rfl) (pa_cons (pv 1) (pa_cons (pv 2) (pa_cons pe_int pa_nil)))))
      (pss_cons (ps_asg (pe_tup (pa_cons (pe_lc (own := [("_law_place", 14)]) rfl scLw.nd (pi_tup (pv 3)) (blkOk_by (N := nLw) (sc := defScope sLaw) (by decide +kernel)) (fun _ _ _ _ _ => (pg_name (i := 14) scLw.nd rfl (.inl rfl))) (fun _ _ _ _ _ => pts_nil) (fun _ _ _ _ _ => (pe_c C5 hr (by decide) (by rfl) (pa_cons (pv 2) (pa_cons (pv 14) pa_nil))))) (pa_cons (pe_callB call_len_seq (by rfl) T.len b_len (pa_cons (pv 3) pa_nil)) pa_nil))) (pg_tup rfl (pgs_cons (pg_name (i := 4) scLw.nd rfl (.inr rfl)) (pgs_cons (pg_name (i := 5) scLw.nd rfl (.inl rfl)) pgs_nil))))
      (pss_cons (ps_set (i := 6) scLw.nd rfl (.inl rfl) (pe_lst pa_nil))
      (pss_cons (ps_for PassesOwn.never rfl (pi_range1 (by rfl) T.range (pa_cons (pv 5) pa_nil)) (pg_name (i := 7) scLw.nd rfl (.inr rfl)) (pss_one (ps_set (i := 6) scLw.nd rfl (.inl rfl) (pe_op op_cat (pv 6) (pe_lc (own := [("_law_b", 8)]) rfl scLw.nd (pi_range2 (by rfl) T.range (pa_cons (pe_op op_add (pv 7) pe_int) (pa_cons (pv 5) pa_nil))) (blkOk_by (N := nLw) (sc := defScope sLaw) (by decide +kernel)) (fun _ _ _ _ _ => (pg_name (i := 8) scLw.nd rfl (.inl rfl))) (fun _ _ _ _ _ => (pts_one (pt_cmpR op_notN (pe_ix (ix_tup' K) (pe_ix (ix_list' K) (pv 4) (pv 7) (fun _ _ => rfl)) (pe_ix (ix_tup' K) (pv 3) (pv 8) (fun _ _ => rfl)) (fun _ _ => rfl)) pe_non (nomark _)))) (fun _ _ _ _ _ => (pe_tup (pa_cons (pe_ix (ix_tup' K) (pe_ix (ix_list' K) (pv 4) (pv 7) (fun _ _ => rfl)) (pe_ix (ix_tup' K) (pv 3) (pv 8) (fun _ _ => rfl)) (fun _ _ => rfl)) (pa_cons (pv 7) (pa_cons (pv 8) pa_nil))))))))))
      (pss_cons (ps_par (i := 9) (j := 10) rfl scLw.nd rfl rfl (by decide) rfl rfl (pa_cons (pe_lst pa_nil) (pa_cons pe_int pa_nil)) (by rfl))
      (pss_cons (ps_for PassesOwn.never rfl (pi_list (pe_callB cr_sortTB (by rfl) T.sorted b_sorted (pa_cons (pv 6) pa_nil))) (pg_tup rfl (pgs_cons (pg_name (i := 11) scLw.nd rfl (.inl rfl)) (pgs_cons (pg_name (i := 7) scLw.nd rfl (.inr rfl)) (pgs_cons (pg_name (i := 8) scLw.nd rfl (.inl rfl)) pgs_nil)))) (pss_one (ps_if (pt_cmpR op_lt (pe_callB call_len_seq (by rfl) T.len b_len (pa_cons (pe_c C6 hr (by decide) (by rfl) (pa_cons (pv 5) (pa_cons (pe_op op_cat (pv 9) (pe_lst (pa_cons (pe_tup (pa_cons (pv 7) (pa_cons (pv 8) pa_nil))) pa_nil))) pa_nil))) pa_nil)) (pe_callB call_len_seq (by rfl) T.len b_len (pa_cons (pe_c C6 hr (by decide) (by rfl) (pa_cons (pv 5) (pa_cons (pv 9) pa_nil))) pa_nil)) (nomark _)) (pss_cons (ps_expr (pe_bm PySem.F.plainAttrs_list PySem.F.slot_list_append PySem.F.type_list_append mt_append (pv 9) (pa_cons (pe_tup (pa_cons (pv 7) (pa_cons (pv 8) pa_nil))) pa_nil)))
      (pss_one (ps_set (i := 10) scLw.nd rfl (.inl rfl) (pe_op op_add (pv 10) (pv 11))))) pss_nil)))
      (pss_cons (ps_set (i := 10) scLw.nd rfl (.inl rfl) (pe_ifExp (pt_cmpR op_eq (pe_callB call_len_seq (by rfl) T.len b_len (pa_cons (pv 9) pa_nil)) (pe_op op_sub (pv 5) pe_int) (nomark _)) (pv 10) pe_non))
      (pss_cons (ps_par (i := 12) (j := 13) rfl scLw.nd rfl rfl (by decide) rfl rfl (pa_cons (pe_c C7 hr (by decide) (by rfl) (pa_cons (pv 2) (pa_cons (pv 3) pa_nil))) (pa_cons (pe_c C8 hr (by decide) (by rfl) (pa_cons (pv 2) (pa_cons (pv 3) pa_nil))) pa_nil)) (by rfl))
      (pss_cons (ps_if (PW.pt (pw_or (pt_not (pt_val (pe_c C9 hr (by decide) (by rfl) (pa_cons (pv 12) (pa_cons (pv 10) pa_nil))))) (pw_or1 (pt_cmpR op_ne (pe_cmpR op_isN (pv 12) pe_non (nomark _)) (pe_cmpR op_isN (pv 13) pe_non (nomark _)) (nomark _))))) (pss_one (ps_ret pe_bl)) pss_nil)
      (pss_one (ps_ret (pe_or (pe_cmpR op_isN (pv 12) pe_non (nomark _)) (pe_one (pe_and (pe_cmpR op_le (pv 13) (pv 12) (nomark _)) (pe_one (pe_cmpR op_le (pe_op op_mul (pv 5) (pv 12)) (pe_op op_mul (pe_op op_mul pe_int (pe_op op_sub (pv 5) pe_int)) (pv 13)) (nomark _))))))))))))))))))), ?_⟩
    refine ⟨_, rfl, szl (by simp), fun r nr => ?_⟩
    have er : upd H r (.lst [.ref sa, .int 0, .int 4310, .int 0]) r = some (.lst [.ref sa, .int 0, .int 4310, .int 0]) := upd_same
    have s1 := same_upd (o := HO.lst [V.ref sa, V.int 0, V.int 4310, V.int 0]) nr
    have hR1 : LRow K (upd H r (.lst [.ref sa, .int 0, .int 4310, .int 0])) r sa ns := ⟨⟨0, 4310, 0, by decide, er⟩, fun H' k => by
      rcases hs with (e | ⟨o, e⟩) | e
      · exact .inl (.inl (k _ _ (s1 _ _ e) (by intro _ z; cases z) (ne_of_none e nr)))
      · exact .inl (.inr ⟨o, k _ _ (s1 _ _ e) (by intro _ z; cases z) (ne_of_none e nr)⟩)
      · exact .inr e⟩
    have t1 := hTab.same s1
    generalize upd H r (.lst [.ref sa, .int 0, .int 4310, .int 0]) = H1 at er s1 hR1 t1 ⊢
    refine ⟨_, rfl, r, sa, ns, 4, rfl, hR1, by omega, by omega, fun x H2 _ k2 hR2 => ⟨rfl, _, rfl, ?_⟩⟩
    refine ite_both (fun rest => ⟨_, rfl, r, sa, ns, 8, 4, rfl, hR2, by omega, by omega, rest⟩) (fun rest => ⟨_, rfl, r, sa, ns, 8, 2, rfl, hR2, by omega, by omega, rest⟩) ?_
    intro wv n Ti H3 k3 hR3 hW3 hO
    have t2 := t1.kr er k2
    obtain ⟨i2, se2, re2, _, er2⟩ := hR2.ex
    have t3 := t2.kr er2 k3
    refine ⟨_, rfl, _, rfl, r, sa, wv, ns, n, Ti, rfl, hR3, hW3, hO.n1, hO.n8, fun ta told H4 k4 hR4 hA hL => ?_⟩
    obtain ⟨i3, se3, re3, _, er3⟩ := hR3.ex
    have t4 := t3.kr er3 k4
    have hW4 := hW3.kr hR3 k4
    clear k2 k3 k4 hR1 hR2 hR3 hR4 er er2 er3 t1 t2 t3 hW3 hs s1 hTab
    have hn8 := hO.n8
    have hl6 := hL.l6
    have hk1 : 0 < told.length := List.length_pos_iff.mpr hL.ne
    obtain ⟨row, hrow⟩ : ∃ row : Nat → List (Option Nat), ∀ p, IsDist Ti n p (row p) := ⟨fun p => (isDist_ex Ti n p).choose, fun p => (isDist_ex Ti n p).choose_spec⟩
    have nd : told.Nodup := List.Pairwise.imp (fun {a b} h => Nat.ne_of_lt h) hL.up
    have hB : Base Ti n told row := ⟨hO.win, nd, hL.lt, fun p _ => hrow p⟩
    obtain ⟨z, hz⟩ : ∃ z, told[told.length - 1]? = some z := ⟨told[told.length - 1]'(by omega), List.getElem?_eq_getElem _⟩
    have hkl : (told.map nV).length = told.length := List.length_map ..
    -- the rows
    refine ⟨_, rfl, ta, rfl, ⟨_, SqT.of hA⟩, fun D nD => lc_tup (K := K) (a := ta) (xs := told.map nV) (fun i H' => Same H4 H' ∧ ∃ rs : List Addr, H' D = some (.lst (rs.map V.ref)) ∧ Paired (fun a p => H' a = some (.tup ((row p).map oV))) rs (told.take i)) ⟨same_put nD (Same.refl _), [], upd_same, .nil⟩ (fun i H' _ ⟨s5, _⟩ => SqT.of (s5 _ _ hA)) ?_ ?_⟩
    · rintro i x H5 hx ⟨s5, rs, h5, P5⟩
      obtain ⟨p, hp, rfl⟩ : ∃ p, told[i]? = some p ∧ x = nV p := by
        rw [List.getElem?_map] at hx
        cases h : told[i]? with
        | none => rw [h] at hx; cases hx
        | some p => rw [h] at hx; exact ⟨p, rfl, (Option.some.inj hx).symm⟩
      have lr := P5.length
      have ltk : (told.take i).length ≤ told.length := by rw [List.length_take]; omega
      refine ⟨rfl, _, rfl, _, rfl, wv, p, n, Ti, row p, rfl, hW4.same s5, hO, hL.lt p (List.mem_of_getElem? hp), hrow p, fun a H6 s6 h6 => ⟨rs.map V.ref, s6 _ _ h5, by rw [List.length_map]; exact sz (by omega), same_put nD (s5.trans s6), rs ++ [a], by rw [upd_same, List.map_append]; rfl, ?_⟩⟩
      rw [List.take_add_one, hp]
      refine Paired.snoc (P5.mono fun a' p' e => ?_) ?_
      · rw [upd_ne (ne_of e h5 (by intro z; cases z))]; exact s6 _ _ e
      · rw [upd_ne (ne_of h6 (s6 _ _ h5) (by intro z; cases z))]; exact h6
    rintro H5 ⟨s5, rs, h5, P5⟩
    have P5 : Paired (fun a p => H5 a = some (.tup ((row p).map oV))) rs told := by rw [hkl, List.take_length] at P5; exact P5
    have hA5 := s5 _ _ hA
    refine ⟨_, rfl, ta, _, rfl, .inr (SqT.of hA5), szl (by simp), fun tp ntp => ⟨tp, _, rfl, SqT.of upd_same, rfl, _, _, rfl, _, _, rfl, rfl, ?_⟩⟩
    have s6 := same_upd (o := HO.tup [V.ref D, V.int (((told.map nV).length : Nat) : Int)]) ntp
    have hA6 := s6 _ _ hA5
    have h6 := s6 _ _ h5
    have P6 : Paired (fun a p => upd H5 tp (.tup [V.ref D, V.int (((told.map nV).length : Nat) : Int)]) a = some (.tup ((row p).map oV))) rs told := P5.mono fun a p e => s6 _ _ e
    have s46 := s5.trans s6
    generalize upd H5 tp (.tup [V.ref D, V.int (((told.map nV).length : Nat) : Int)]) = H6 at s6 hA6 h6 P6 s46 ⊢
    refine ⟨szl (by simp), fun l0 nl0 => ?_⟩
    have s7 := same_upd (o := HO.lst []) nl0
    have hl0 : upd H6 l0 (.lst []) l0 = some (.lst []) := upd_same
    have hA7 := s7 _ _ hA6
    have h7 := s7 _ _ h6
    have P7 : Paired (fun a p => upd H6 l0 (.lst []) a = some (.tup ((row p).map oV))) rs told := P6.mono fun a p e => s7 _ _ e
    have t7 := t4.same (s46.trans s7)
    have hW7 := hW4.same (s46.trans s7)
    generalize upd H6 l0 (.lst []) = H7 at s7 hl0 hA7 h7 P7 t7 hW7 ⊢
    clear s46 s6 s5 P5 P6 h5 h6 hA5 hA6 hA t4 hW4
    -- an entry of the rows
    have ent : ∀ {H' : Hp}, Same H7 H' → ∀ {a b : Nat}, a < told.length → b < told.length → ∃ ra o, rs[a]? = some ra ∧ H' ra = some (.tup ((row (told.getD a 0)).map oV)) ∧ (row (told.getD a 0))[told.getD b 0]? = some o ∧ Dst row (told.getD a 0) (told.getD b 0) = o := by
      intro H' s' a b ha hb
      have ga := getD_some (d := 0) ha
      have gb := getD_some (d := 0) hb
      obtain ⟨ra, r1, r2⟩ := pair_get2 P7 ga
      have lt := hL.lt _ (List.mem_of_getElem? gb)
      obtain ⟨o, ho⟩ : ∃ o, (row (told.getD a 0))[told.getD b 0]? = some o := ⟨(row (told.getD a 0))[told.getD b 0]'(by rw [(hrow _).len]; exact lt), List.getElem?_eq_getElem _⟩
      exact ⟨ra, o, r1, s' _ _ r2, ho, by unfold Dst; rw [ho]; rfl⟩
    have hmany : (((told.map nV).length : Nat) : Int).toNat = told.length := by rw [hkl]; omega
    refine ⟨_, rfl, _, rfl, by rw [hkl]; omega, by rw [hkl]; omega, for_range (fun i σ H' => ∃ tl ts T3 v7 v8 v9 v10 v11 v12 v13 v14, σ = [some (.ref sa), some (.ref r), some (.ref wv), some (.ref ta), some (.ref D), some (.int (((told.map nV).length : Nat) : Int)), some (.ref tl), v7, v8, v9, v10, v11, v12, v13, v14] ∧ Same H7 H' ∧
      H' tl = some (.lst (ts.map V.ref)) ∧ Paired (TieAt H') ts T3 ∧ T3.length ≤ 6 * i ∧ ∀ c x y, (c, x, y) ∈ T3 ↔ x < i ∧ x < y ∧ y < told.length ∧ Dst row (told.getD x 0) (told.getD y 0) = some c)
      ⟨l0, [], [], _, _, _, _, _, _, _, _, rfl, Same.refl _, hl0, .nil, Nat.le_refl _, fun c x y => ⟨(fun h => nomatch h), fun h => absurd h.1 (Nat.not_lt_zero _)⟩⟩ ?_ ?_⟩
    · rintro i σ H8 hi ⟨tl, ts, T3, v7, v8, v9, v10, v11, v12, v13, v14, rfl, s8, h8, P8, l8, m8⟩
      rw [Int.zero_add]
      have hik : i < told.length := by omega
      have ec : ((((told.map nV).length : Nat) : Int) - ((i : Int) + 1)).toNat = told.length - (i + 1) := by rw [hkl]; omega
      refine ⟨_, rfl, _, rfl, _, _, rfl, rfl, _, rfl, (i : Int) + 1, (((told.map nV).length : Nat) : Int), rfl, ⟨by omega, by omega, by omega, by rw [hkl]; omega⟩, fun D2 nD2 => lc_range (fun j H' => Same H8 H' ∧ ∃ ts2 T2, H' D2 = some (.lst (ts2.map V.ref)) ∧ Paired (TieAt H') ts2 T2 ∧ T2.length ≤ j ∧ ∀ c x y, (c, x, y) ∈ T2 ↔ x = i ∧ i < y ∧ y < i + 1 + j ∧ Dst row (told.getD x 0) (told.getD y 0) = some c)
        ⟨same_put nD2 (Same.refl _), [], [], upd_same, .nil, Nat.le_refl _, fun c x y => ⟨(fun h => nomatch h), fun h => by omega⟩⟩ ?_ ?_⟩
      · rintro j H9 hj ⟨s9, ts2, T2, h9, P9, l9, m9⟩
        rw [ec] at hj
        have ej : ((i : Int) + 1 + (j : Int)) = ((i + 1 + j : Nat) : Int) := by omega
        rw [ej]
        have hb : i + 1 + j < told.length := by omega
        obtain ⟨ra, o, r1, r2, ro, rd⟩ := ent (s8.trans s9) hik hb
        have gb := getD_some (d := 0) hb
        have h79 := (s8.trans s9) _ _ h7
        have hA9 := (s8.trans s9) _ _ hA7
        refine ⟨rfl, _, rfl, _, rfl, D, _, _, .ref ra, rfl, rfl, SqL.of h79, at_of (j := i) rfl (by rw [List.getElem?_map, r1]; rfl), _, rfl, _, rfl, ta, _, _, _, rfl, rfl, SqT.of hA9, at_of (j := i + 1 + j) rfl (by rw [List.getElem?_map, gb]; rfl), ra, _, _, _, rfl, rfl, SqT.of r2, at_row ro, rfl, _, rfl, ?_⟩
        cases o with
        | none =>
          refine iteN rfl ⟨s9, ts2, T2, h9, P9, by omega, fun c x y => ?_⟩
          rw [m9 c x y]
          constructor
          · rintro ⟨q1, q2, q3, q4⟩; exact ⟨q1, q2, by omega, q4⟩
          · rintro ⟨q1, q2, q3, q4⟩
            refine ⟨q1, q2, ?_, q4⟩
            by_cases zy : y = i + 1 + j
            · rw [q1, zy, rd] at q4; cases q4
            · omega
        | some c =>
          refine iteNF (fun z => by cases z) ⟨_, rfl, _, rfl, D, _, _, .ref ra, rfl, rfl, SqL.of h79, at_of (j := i) rfl (by rw [List.getElem?_map, r1]; rfl), _, rfl, _, rfl, ta, _, _, _, rfl, rfl, SqT.of hA9, at_of (j := i + 1 + j) rfl (by rw [List.getElem?_map, gb]; rfl), ra, _, _, _, rfl, rfl, SqT.of r2, at_row ro, _, rfl, _, rfl, szl (by simp), fun tp2 ntp2 => ⟨ts2.map V.ref, ?_, ?_, ?_⟩⟩
          · exact same_upd ntp2 _ _ h9
          · rw [List.length_map, P9.length]; exact sz (by omega)
          · have s10 := same_upd (o := HO.tup [oV (some c), nV i, nV (i + 1 + j)]) ntp2
            have nDt : tp2 ≠ D2 := fun z => by rw [z, h9] at ntp2; cases ntp2
            refine ⟨same_put nD2 (s9.trans s10), ts2 ++ [tp2], T2 ++ [(c, i, i + 1 + j)], by rw [upd_same, List.map_append]; rfl, ?_, by rw [List.length_append]; simp; omega, fun c' x y => ?_⟩
            · refine Paired.snoc (P9.mono fun a p e => ?_) ?_
              · have e : H9 a = some (.tup [nV p.1, nV p.2.1, nV p.2.2]) := e
                show upd _ D2 _ a = _
                rw [upd_ne (ne_of e h9 (by intro z; cases z))]; exact s10 _ _ e
              · show upd _ D2 _ tp2 = some (.tup [nV c, nV i, nV (i + 1 + j)])
                rw [upd_ne nDt, upd_same]; rfl
            · rw [List.mem_append, m9 c' x y, List.mem_singleton]
              constructor
              · rintro (⟨q1, q2, q3, q4⟩ | q)
                · exact ⟨q1, q2, by omega, q4⟩
                · injection q with q1 q
                  injection q with q2 q3
                  subst q1 q2 q3
                  exact ⟨rfl, by omega, by omega, rd⟩
              · rintro ⟨q1, q2, q3, q4⟩
                by_cases zy : y = i + 1 + j
                · right
                  rw [q1, zy, rd] at q4
                  cases q4
                  rw [q1, zy]
                · left; exact ⟨q1, q2, by omega, q4⟩
      · rintro H9 ⟨s9, ts2, T2, h9, P9, l9, m9⟩
        rw [ec] at l9 m9
        refine ⟨tl, D2, _, _, rfl, rfl, s9 _ _ h8, h9, ?_, fun l3 nl3 => ?_⟩
        · rw [List.length_map, List.length_map, P8.length, P9.length]; exact szl (by omega)
        · have s10 := same_upd (o := HO.lst (ts.map V.ref ++ ts2.map V.ref)) nl3
          refine ⟨l3, ts ++ ts2, T3 ++ T2, _, _, _, _, _, _, _, _, rfl, (s8.trans s9).trans s10, by rw [upd_same, List.map_append], ?_, by rw [List.length_append]; omega, fun c x y => ?_⟩
          · have g1 : Paired (TieAt (upd H9 l3 (.lst (ts.map V.ref ++ ts2.map V.ref)))) ts T3 := P8.mono fun a p e => (s9.trans s10) _ _ e
            have g2 : Paired (TieAt (upd H9 l3 (.lst (ts.map V.ref ++ ts2.map V.ref)))) ts2 T2 := P9.mono fun a p e => s10 _ _ e
            have app : ∀ {l1 : List Addr} {l2 : List Tie} {F : Addr → Tie → Prop}, Paired F l1 l2 → ∀ {m1 m2}, Paired F m1 m2 → Paired F (l1 ++ m1) (l2 ++ m2) := by
              intro l1 l2 F h
              induction h with
              | nil => intro _ _ g; exact g
              | cons e h ih => intro _ _ g; exact .cons e (ih g)
            exact app g1 g2
          · rw [List.mem_append, m8 c x y, m9 c x y]
            constructor
            · rintro (⟨q1, q2, q3, q4⟩ | ⟨q1, q2, q3, q4⟩)
              · exact ⟨by omega, q2, q3, q4⟩
              · exact ⟨by omega, by omega, by omega, q4⟩
            · rintro ⟨q1, q2, q3, q4⟩
              by_cases zx : x = i
              · right; exact ⟨zx, by omega, by omega, q4⟩
              · left; exact ⟨by omega, q2, q3, q4⟩
    rintro σ H8 ⟨tl, ts, T3, v7, v8, v9, v10, v11, v12, v13, v14, rfl, s8, h8, P8, l8, m8⟩
    rw [hmany] at l8 m8
    refine ⟨szl (by simp), fun hl nhl => ⟨_, _, rfl, ?_⟩⟩
    have s9 := same_upd (o := HO.lst []) nhl
    have hhl : upd H8 hl (.lst []) hl = some (.lst []) := upd_same
    have h9 := s9 _ _ h8
    have P9 : Paired (TieAt (upd H8 hl (.lst []))) ts T3 := P8.mono fun a p e => s9 _ _ e
    have s79 := s8.trans s9
    have nh7 : H7 hl = none := s8.free nhl
    generalize upd H8 hl (.lst []) = H9 at s9 hhl h9 P9 s79 ⊢
    refine ⟨_, rfl, sort3 h9 P9 (by omega) fun sp us S nsp sperm ssort sP => ?_⟩
    have s10 := same_upd (o := HO.lst (us.map V.ref)) nsp
    have hsp : upd H9 sp (.lst (us.map V.ref)) sp = some (.lst (us.map V.ref)) := upd_same
    have s710 := s79.trans s10
    have hhl10 := s10 _ _ hhl
    have P10 : Paired (TieAt (upd H9 sp (.lst (us.map V.ref)))) us S := sP.mono fun a p e => s10 _ _ e
    have nsph : sp ≠ hl := fun z => by rw [z, hhl] at nsp; cases nsp
    have A : AllPairs told row told.length S := ⟨fun c a b => by
      rw [sperm.mem_iff, m8 c a b]
      constructor
      · rintro ⟨_, q2, q3, q4⟩; exact ⟨q2, q3, q4⟩
      · rintro ⟨q2, q3, q4⟩; exact ⟨by omega, q2, q3, q4⟩, ssort⟩
    generalize upd H9 sp (.lst (us.map V.ref)) = H10 at s10 hsp s710 hhl10 P10 ⊢
    refine ⟨sp, rfl, ⟨_, SqL.of hsp⟩, ?_⟩
    have hA10 := s710 _ _ hA7
    have keepT : ∀ {H' : Hp}, KR hl H10 H' → ∀ {b : Addr} {xs : List V}, H10 b = some (.tup xs) → H' b = some (.tup xs) := fun k _ _ e => k _ _ e (ne_of e hhl10 (by intro z; cases z))
    have lS : S.length ≤ 36 := by rw [sperm.length_eq]; omega
    have lus : us.length = S.length := P10.length
    refine for_list (K := K) (a := sp) (xs := us.map V.ref) (fun j σ H' => ∃ held due F hts v7 v8 v11 v12 v13 v14, σ = [some (.ref sa), some (.ref r), some (.ref wv), some (.ref ta), some (.ref D), some (.int (((told.map nV).length : Nat) : Int)), some (.ref tl), v7, v8, some (.ref hl), some (nV due), v11, v12, v13, v14] ∧
      KR hl H10 H' ∧ H' hl = some (.lst (hts.map V.ref)) ∧ Paired (PairAt H') hts held ∧ Krus told row told.length due (S.take j) held F ∧ held.length ≤ j)
      ⟨[], 0, [], [], _, _, _, _, _, _, rfl, fun _ _ e _ => e, hhl10, .nil, krus_start told row told.length, Nat.le_refl _⟩ (fun j σ H' _ ⟨_, _, _, _, _, _, _, _, _, _, _, k, _⟩ => SqL.of (k _ _ hsp nsph)) ?_ ?_
    · rintro j x σ H11 hx ⟨held, due, F', hts, v7, v8, v11, v12, v13, v14, rfl, k11, h11, P11, K11, l11⟩
      obtain ⟨u, hu, rfl⟩ : ∃ p, us[j]? = some p ∧ x = .ref p := by
        rw [List.getElem?_map] at hx
        cases h : us[j]? with
        | none => rw [h] at hx; cases hx
        | some p => rw [h] at hx; exact ⟨p, rfl, (Option.some.inj hx).symm⟩
      obtain ⟨⟨c, a, b⟩, hSj, hA'⟩ := pair_get P10 hu
      have hA' : H10 u = some (.tup [nV c, nV a, nV b]) := hA'
      obtain ⟨wab, wb, _⟩ := (A.mem c a b).mp (List.mem_of_getElem? hSj)
      have hj := (List.getElem?_eq_some_iff.mp hSj).1
      have eS : S = S.take j ++ (c, a, b) :: S.drop (j + 1) := by
        have := List.take_append_drop j S
        rw [List.drop_eq_getElem_cons hj] at this
        have e : S[j] = (c, a, b) := (List.getElem?_eq_some_iff.mp hSj).2
        rw [e] at this
        exact this.symm
      have eT : S.take (j + 1) = S.take j ++ [(c, a, b)] := by rw [List.take_add_one, hSj]; rfl
      have lh := P11.length
      refine ⟨u, _, rfl, SqT.of (keepT k11 hA'), rfl, _, _, rfl, _, _, rfl, _, _, rfl, rfl, ?_⟩
      refine ⟨_, rfl, _, rfl, _, rfl, _, rfl, szl (by simp), fun tp ntp => ⟨szl (by simp), fun l1 nl1 => ⟨hl, l1, hts.map V.ref, [V.ref tp], rfl, rfl, ?_, upd_same, ?_, fun l2 nl2 => ?_⟩⟩⟩
      · exact ((same_upd ntp).trans (same_upd nl1)) _ _ h11
      · rw [List.length_map]; exact szl (by simp; omega)
      have r1 := same_upd (o := HO.tup [nV a, nV b]) ntp
      have r2 := same_upd (o := HO.lst [V.ref tp]) nl1
      have r3 := same_upd (o := HO.lst (hts.map V.ref ++ [V.ref tp])) nl2
      have r123 := (r1.trans r2).trans r3
      have htp := (r2.trans r3) _ _ (upd_same (H := H11) (a := tp) (o := HO.tup [nV a, nV b]))
      have hl2 := upd_same (H := upd (upd H11 tp (.tup [nV a, nV b])) l1 (.lst [V.ref tp])) (a := l2) (o := HO.lst (hts.map V.ref ++ [V.ref tp]))
      generalize upd (upd (upd H11 tp (.tup [nV a, nV b])) l1 (.lst [V.ref tp])) l2 (.lst (hts.map V.ref ++ [V.ref tp])) = H12 at r123 htp hl2 ⊢
      have pin1 : PIn (held ++ [(a, b)]) (told.map nV).length := fun p hp => by
        rw [hkl]
        rcases List.mem_append.mp hp with hp | hp
        · exact K11.inn p hp
        · rw [List.mem_singleton.mp hp]; exact ⟨by show a < _; omega, wb⟩
      have P12 : Paired (PairAt H12) hts held := P11.mono fun a p e => r123 _ _ e
      refine ⟨l2, hts ++ [tp], (told.map nV).length, held ++ [(a, b)], rfl, by rw [hl2, List.map_append]; rfl, Paired.snoc P12 htp, pin1, by rw [hkl]; exact hl6, fun p1 xs1 H13 s13 h13 n13 => ⟨p1, _, rfl, .inl (SqL.of h13), ?_⟩⟩
      have P13 : Paired (PairAt H13) hts held := P12.mono fun a p e => s13 _ _ e
      have h13l := s13 _ _ (r123 _ _ h11)
      refine ⟨_, rfl, _, rfl, hl, hts, (told.map nV).length, held, rfl, h13l, P13, (by rw [hkl]; exact K11.inn), by rw [hkl]; exact hl6, fun p2 xs2 H14 s14 h14 n14 => ⟨p2, _, rfl, .inl (SqL.of h14), _, _, rfl, rfl, _, rfl, ?_⟩⟩
      rw [n13, n14, hkl]
      have k14 : KR hl H10 H14 := k11.trans (KR.of ((r123.trans s13).trans s14))
      have P14 : Paired (PairAt H14) hts held := P13.mono fun a p e => s14 _ _ e
      have h14l := s14 _ _ h13l
      by_cases hless : nparts told.length (held ++ [(a, b)]) < nparts told.length held
      · rw [decide_eq_true (Int.ofNat_lt.mpr hless)]
        refine iteT ⟨_, rfl, .inl ⟨rfl, _, SqL.of h14l⟩, _, rfl, _, rfl, szl (by simp), fun tq ntq => ⟨hl, _, _, rfl, rfl, same_upd ntq _ _ h14l, by rw [List.length_map]; exact sz (by omega), ?_⟩⟩
        have s15 := same_upd (o := HO.tup [nV a, nV b]) ntq
        have nht : tq ≠ hl := fun z => by rw [z, h14l] at ntq; cases ntq
        refine ⟨_, rfl, _, rfl, _, _, rfl, rfl, held ++ [(a, b)], due + c, (told.getD a 0, told.getD b 0, c) :: F', hts ++ [tq], _, _, _, _, _, _, rfl, fun b' o e ne => by rw [upd_ne ne]; exact s15 _ _ (k14 b' o e ne), by rw [upd_same, List.map_append]; rfl, ?_, ?_, by rw [List.length_append]; simp; omega⟩
        · refine Paired.snoc (P14.mono fun a' p e => ?_) ?_
          · have e : H14 a' = some (.tup [nV p.1, nV p.2]) := e
            show upd _ hl _ a' = _
            rw [upd_ne (ne_of e h14l (by intro z; cases z))]; exact s15 _ _ e
          · show upd _ hl _ tq = some (.tup [nV a, nV b])
            rw [upd_ne nht, upd_same]
        · rw [eT]
          exact krus_take hB rfl (by rw [← eS]; exact A) K11 hless
      · rw [decide_eq_false (fun z => hless (Int.ofNat_lt.mp z))]
        refine iteF ⟨held, due, F', hts, _, _, _, _, _, _, rfl, k14, h14l, P14, ?_, by omega⟩
        rw [eT]
        exact krus_skip K11 (by omega) wb hless
    · rintro σ H11 ⟨held, due, F', hts, v7, v8, v11, v12, v13, v14, rfl, k11, h11, P11, K11, l11⟩
      rw [List.length_map, lus, List.take_length] at K11
      have hA11 := keepT k11 hA10
      have hW11 : WebAt H11 wv n Ti := (hW7.same s710).ext fun b xs e => keepT k11 e
      have t11 : Tab Pt H11 := (t7.same s710).kr hhl10 k11
      refine ⟨_, rfl, hl, _, rfl, .inl (SqL.of h11), _, rfl, _, _, rfl, rfl, rfl, _, rfl, ?_⟩
      have lh := P11.length
      have tail : ∀ {od : Option Nat} {v10 : V}, oV od = v10 → od = (if held.length = told.length - 1 then some due else none) → True := fun _ _ => trivial
      have dec : decide (V.int (((hts.map V.ref).length : Nat) : Int) = V.int ((((told.map nV).length : Nat) : Int) - 1)) = decide (held.length = told.length - 1) := by
        rw [List.length_map, hkl, lh]
        by_cases h : held.length = told.length - 1
        · rw [decide_eq_true h, decide_eq_true]
          congr 1
          omega
        · rw [decide_eq_false h, decide_eq_false]
          intro z
          injection z with z
          omega
      have goal2 : ∀ (c : Bool) {A1 B1 : Prop}, c = decide (held.length = told.length - 1) → (held.length = told.length - 1 → A1) → (held.length ≠ told.length - 1 → B1) → if c = true then A1 else B1 := fun c A1 B1 e h1 h2 => by
        subst e
        by_cases h : held.length = told.length - 1
        · rw [decide_eq_true h]; exact iteT (h1 h)
        · rw [decide_eq_false h]; exact iteF (h2 h)
      refine goal2 _ dec (fun hh => ⟨_, rfl, ?_⟩) (fun hh => ?_)
      all_goals
        refine ⟨_, rfl, _, rfl, wv, ta, n, Ti, told, row, rfl, hW11, hO, hA11, hL, hB, t11, fun o1 H12 g12 t12 hPE => ?_⟩
        have hA12 := Grow.at g12 hA11
        refine ⟨_, rfl, _, rfl, wv, ta, n, Ti, told, z, rfl, hW11.grow g12, hO, hA12, hL, hz, t12, fun o2 H13 g13 t13 hLe => ⟨_, _, rfl, ?_⟩⟩
        obtain ⟨v1, v2⟩ := verdict hB rfl hk1 A K11 hPE hz hLe
        first | rw [if_pos hh] at v1 | rw [if_neg hh] at v1
        refine ⟨_, rfl, _, rfl, o1, o1, (by rw [v1]; rfl), fun H14 s14 => ⟨_, rfl, ?_⟩⟩
        rw [decide_eq_true (rfl : o1 = o1)]
        clear v1
        refine iteF ?_
        rcases v2 with ⟨rfl, rfl⟩ | ⟨t, x, rfl, rfl, le1, le2⟩
        · refine ⟨_, rfl, rfl, _, rfl, rfl, rfl, _, rfl, iteN rfl ?_⟩
          refine ⟨_, rfl, rfl, _, rfl, iteD (by rfl) ?_⟩
          exact q _
        · refine ⟨_, rfl, rfl, _, rfl, rfl, rfl, _, rfl, iteN (by rfl) ?_⟩
          refine ⟨_, rfl, rfl, _, rfl, iteDF (fun z => by cases z) ?_⟩
          refine ⟨_, rfl, _, rfl, _, _, rfl, rfl, _, rfl, ?_⟩
          rw [decide_eq_true (Int.ofNat_le.mpr le1)]
          have h3 : ((told.length * t : Nat) : Int) ≤ ((2 * (told.length - 1) * x : Nat) : Int) := Int.ofNat_le.mpr le2
          rw [Int.natCast_mul, Int.natCast_mul, Int.natCast_mul, Int.natCast_sub hk1] at h3
          refine iteT ⟨_, rfl, _, rfl, _, _, rfl, rfl, .inl ⟨by rw [hkl]; omega, by rw [hkl]; omega⟩, _, rfl, _, _, rfl, rfl, _, _, rfl, rfl, .inl ⟨by decide, by decide⟩, _, rfl, _, _, rfl, rfl, .inl ⟨by rw [hkl]; omega, by rw [hkl]; omega⟩, _, _, rfl, rfl, ?_⟩
          have e := decide_eq_true (p := ((((told.map nV).length : Nat) : Int) * (t : Int) ≤ 2 * ((((told.map nV).length : Nat) : Int) - 1) * (x : Int))) (by rw [hkl]; exact h3)
          show Q (.bl (decide ((((told.map nV).length : Nat) : Int) * (t : Int) ≤ 2 * ((((told.map nV).length : Nat) : Int) - 1) * (x : Int)))) _
          rw [e]
          exact q _
end
end K10


set_option Elab.async false
set_option linter.all false
set_option maxRecDepth 100000
set_option maxHeartbeats 4000000
namespace K10
open PySem L2 K10M PyProof.Rows
theorem all_mk {l : PySem.W.OpenLaw} {w : World} {K : PySem.W.Frag} {h : Heap} {mg : Str → Option Value} {fa C c Pt : Addr} (X : K.In h) (G : h.Ns mainGlobals mg) (hfa : mg "law" = some (.ref fa)) (hPt : h.get? Pt = some { cls := .none, data := .fields #[] })
    {f0 f1 f2 f3 f4 f5 f6 f7 f8 f9 f10 f11 f12 f13 f14 f15 f16 f17 f18 f19 f20 f21 f22 f23 f24 : Addr} {od0 an0 od1 an1 od2 an2 od3 an3 od4 an4 od5 an5 od6 an6 od7 an7 od8 an8 od9 an9 od10 an10 od11 an11 od12 an12 od13 an13 od14 an14 od15 an15 od16 an16 od17 an17 od18 an18 od19 an19 od20 an20 od21 an21 od22 an22 od23 an23 od24 an24 : Option Addr} {sl0 sl1 sl2 sl3 sl4 sl5 sl6 sl7 sl8 sl9 sl10 sl11 sl12 sl13 sl14 sl15 sl16 sl17 sl18 sl19 sl20 sl21 sl22 sl23 sl24 : Array (Option Value)} {oc0 kV0 dc0 pm0 ct0 cd0 oc1 kV1 dc1 pm1 ct1 cd1 oc2 kV2 dc2 pm2 ct2 cd2 oc3 kV3 dc3 pm3 ct3 cd3 oc4 kV4 dc4 pm4 ct4 cd4 oc5 kV5 dc5 pm5 ct5 cd5 oc6 kV6 dc6 pm6 ct6 cd6 oc7 kV7 dc7 pm7 ct7 oc8 kV8 dc8 pm8 ct8 cd8 oc9 kV9 dc9 pm9 ct9 cd9 oc10 kV10 dc10 pm10 ct10 cd10 oc11 kV11 dc11 pm11 ct11 cd11 oc12 kV12 dc12 pm12 ct12 cd12 oc13 kV13 dc13 pm13 ct13 cd13 oc14 kV14 dc14 pm14 ct14 cd14 oc15 kV15 dc15 pm15 ct15 cd15 oc16 kV16 dc16 pm16 ct16 cd16 oc17 kV17 dc17 pm17 ct17 cd17 oc18 kV18 dc18 pm18 ct18 cd18 oc19 kV19 dc19 pm19 ct19 cd19 oc20 kV20 dc20 pm20 ct20 cd20 oc21 kV21 dc21 pm21 ct21 cd21 oc22 kV22 dc22 pm22 ct22 cd22 oc23 kV23 dc23 pm23 ct23 cd23 oc24 kV24 dc24 pm24 ct24 cd24 : Value} {t0 t1 t2 t3 : Tok}
    (aC : PySem.W.nsIn K mainGlobals "Table" = some (some (.ref C)))
    (a0 : PySem.W.nsIn K mainGlobals "is_int" = some (some (.ref f0)))
    (l0 : K.lookup f0 = some ⟨oc0, od0, .func (PySem.W.fnOf "is_int" "is_int" (defArgs sIsInt) (defBody sIsInt) (defScope sIsInt) .none kV0 dc0 pm0 an0 cd0 ct0), sl0⟩)
    (c0 : PySem.W.codeIn K cd0 "is_int" = true)
    (k0 : PySem.W.keepIn K (.ref f0) = true)
    (a1 : PySem.W.nsIn K mainGlobals "is_from" = some (some (.ref f1)))
    (l1 : K.lookup f1 = some ⟨oc1, od1, .func (PySem.W.fnOf "is_from" "is_from" (defArgs sIsFrom) (defBody sIsFrom) (defScope sIsFrom) .none kV1 dc1 pm1 an1 cd1 ct1), sl1⟩)
    (c1 : PySem.W.codeIn K cd1 "is_from" = true)
    (k1 : PySem.W.keepIn K (.ref f1) = true)
    (a2 : PySem.W.nsIn K mainGlobals "is_tie" = some (some (.ref f2)))
    (l2 : K.lookup f2 = some ⟨oc2, od2, .func (PySem.W.fnOf "is_tie" "is_tie" (defArgs sIsTie) (defBody sIsTie) (defScope sIsTie) .none kV2 dc2 pm2 an2 cd2 ct2), sl2⟩)
    (c2 : PySem.W.codeIn K cd2 "is_tie" = true)
    (k2 : PySem.W.keepIn K (.ref f2) = true)
    (a3 : PySem.W.nsIn K mainGlobals "need_web" = some (some (.ref f3)))
    (l3 : K.lookup f3 = some ⟨oc3, od3, .func (PySem.W.fnOf "need_web" "need_web" (defArgs sNeedWeb) (defBody sNeedWeb) (defScope sNeedWeb) .none kV3 dc3 pm3 an3 cd3 ct3), sl3⟩)
    (c3 : PySem.W.codeIn K cd3 "need_web" = true)
    (k3 : PySem.W.keepIn K (.ref f3) = true)
    (a4 : PySem.W.nsIn K mainGlobals "is_rising" = some (some (.ref f4)))
    (l4 : K.lookup f4 = some ⟨oc4, od4, .func (PySem.W.fnOf "is_rising" "is_rising" (defArgs sRising) (defBody sRising) (defScope sRising) .none kV4 dc4 pm4 an4 cd4 ct4), sl4⟩)
    (c4 : PySem.W.codeIn K cd4 "is_rising" = true)
    (k4 : PySem.W.keepIn K (.ref f4) = true)
    (a5 : PySem.W.nsIn K mainGlobals "need_told" = some (some (.ref f5)))
    (l5 : K.lookup f5 = some ⟨oc5, od5, .func (PySem.W.fnOf "need_told" "need_told" (defArgs sNeedTold) (defBody sNeedTold) (defScope sNeedTold) .none kV5 dc5 pm5 an5 cd5 ct5), sl5⟩)
    (c5 : PySem.W.codeIn K cd5 "need_told" = true)
    (k5 : PySem.W.keepIn K (.ref f5) = true)
    (a6 : PySem.W.nsIn K mainGlobals "neighbors_of" = some (some (.ref f6)))
    (l6 : K.lookup f6 = some ⟨oc6, od6, .func (PySem.W.fnOf "neighbors_of" "neighbors_of" (defArgs sNbrs) (defBody sNbrs) (defScope sNbrs) .none kV6 dc6 pm6 an6 cd6 ct6), sl6⟩)
    (c6 : PySem.W.codeIn K cd6 "neighbors_of" = true)
    (k6 : PySem.W.keepIn K (.ref f6) = true)
    (a7 : PySem.W.nsIn K mainGlobals "spread" = some (some (.ref f7)))
    (l7 : K.lookup f7 = some ⟨oc7, od7, .func (PySem.W.fnOf "spread" "spread" (defArgs sSpread) (defBody sSpread) (defScope sSpread) .none kV7 dc7 pm7 an7 (.ref c) ct7), sl7⟩)
    (c7 : PySem.W.codeIn K (.ref c) "spread" = true)
    (k7 : PySem.W.keepIn K (.ref f7) = true)
    (a8 : PySem.W.nsIn K mainGlobals "from_place" = some (some (.ref f8)))
    (l8 : K.lookup f8 = some ⟨oc8, od8, .func (PySem.W.fnOf "from_place" "from_place" (defArgs sFrom) (defBody sFrom) (defScope sFrom) .none kV8 dc8 pm8 an8 cd8 ct8), sl8⟩)
    (c8 : PySem.W.codeIn K cd8 "from_place" = true)
    (k8 : PySem.W.keepIn K (.ref f8) = true)
    (a9 : PySem.W.findIn K (.ref C) "close" = some (some (.ref f9)))
    (i9 : PySem.W.isFn K (.ref f9) = true)
    (l9 : K.lookup f9 = some ⟨oc9, od9, .func (PySem.W.fnOf "close" "Table.close" (defArgs sClose) (defBody sClose) (defScope sClose) .none kV9 dc9 pm9 an9 cd9 ct9), sl9⟩)
    (c9 : PySem.W.codeIn K cd9 "Table.close" = true)
    (k9 : PySem.W.keepIn K (.ref f9) = true)
    (a10 : PySem.W.findIn K (.ref C) "merged" = some (some (.ref f10)))
    (i10 : PySem.W.isFn K (.ref f10) = true)
    (l10 : K.lookup f10 = some ⟨oc10, od10, .func (PySem.W.fnOf "merged" "Table.merged" (defArgs sMerged) (defBody sMerged) (defScope sMerged) .none kV10 dc10 pm10 an10 cd10 ct10), sl10⟩)
    (c10 : PySem.W.codeIn K cd10 "Table.merged" = true)
    (k10 : PySem.W.keepIn K (.ref f10) = true)
    (a11 : PySem.W.findIn K (.ref C) "__init__" = some (some (.ref f11)))
    (i11 : PySem.W.isFn K (.ref f11) = true)
    (l11 : K.lookup f11 = some ⟨oc11, od11, .func (PySem.W.fnOf "__init__" "Table.__init__" (defArgs sInit) (defBody sInit) (defScope sInit) .none kV11 dc11 pm11 an11 cd11 ct11), sl11⟩)
    (c11 : PySem.W.codeIn K cd11 "Table.__init__" = true)
    (k11 : PySem.W.keepIn K (.ref f11) = true)
    (a12 : PySem.W.findIn K (.ref C) "ties" = some (some (.ref f12)))
    (i12 : PySem.W.isFn K (.ref f12) = true)
    (l12 : K.lookup f12 = some ⟨oc12, od12, .func (PySem.W.fnOf "ties" "Table.ties" (defArgs sTies) (defBody sTies) (defScope sTies) .none kV12 dc12 pm12 an12 cd12 ct12), sl12⟩)
    (c12 : PySem.W.codeIn K cd12 "Table.ties" = true)
    (k12 : PySem.W.keepIn K (.ref f12) = true)
    (a13 : PySem.W.nsIn K mainGlobals "least_join" = some (some (.ref f13)))
    (l13 : K.lookup f13 = some ⟨oc13, od13, .func (PySem.W.fnOf "least_join" "least_join" (defArgs sJoin) (defBody sJoin) (defScope sJoin) .none kV13 dc13 pm13 an13 cd13 ct13), sl13⟩)
    (c13 : PySem.W.codeIn K cd13 "least_join" = true)
    (k13 : PySem.W.keepIn K (.ref f13) = true)
    (a14 : PySem.W.nsIn K mainGlobals "least_price" = some (some (.ref f14)))
    (l14 : K.lookup f14 = some ⟨oc14, od14, .func (PySem.W.fnOf "least_price" "least_price" (defArgs sPrice) (defBody sPrice) (defScope sPrice) .none kV14 dc14 pm14 an14 cd14 ct14), sl14⟩)
    (c14 : PySem.W.codeIn K cd14 "least_price" = true)
    (k14 : PySem.W.keepIn K (.ref f14) = true)
    (a15 : PySem.W.nsIn K mainGlobals "distance_price" = some (some (.ref f15)))
    (l15 : K.lookup f15 = some ⟨oc15, od15, .func (PySem.W.fnOf "distance_price" "distance_price" (defArgs sDPrice) (defBody sDPrice) (defScope sDPrice) .none kV15 dc15 pm15 an15 cd15 ct15), sl15⟩)
    (c15 : PySem.W.codeIn K cd15 "distance_price" = true)
    (k15 : PySem.W.keepIn K (.ref f15) = true)
    (a16 : PySem.W.nsIn K mainGlobals "_law_taken" = some (some (.ref f16)))
    (l16 : K.lookup f16 = some ⟨oc16, od16, .func (PySem.W.fnOf "_law_taken" "_law_taken" (defArgs sTaken) (defBody sTaken) (defScope sTaken) .none kV16 dc16 pm16 an16 cd16 ct16), sl16⟩)
    (c16 : PySem.W.codeIn K cd16 "_law_taken" = true)
    (k16 : PySem.W.keepIn K (.ref f16) = true)
    (a17 : PySem.W.nsIn K mainGlobals "_law_pick" = some (some (.ref f17)))
    (l17 : K.lookup f17 = some ⟨oc17, od17, .func (PySem.W.fnOf "_law_pick" "_law_pick" (defArgs sPick) (defBody sPick) (defScope sPick) .none kV17 dc17 pm17 an17 cd17 ct17), sl17⟩)
    (c17 : PySem.W.codeIn K cd17 "_law_pick" = true)
    (k17 : PySem.W.keepIn K (.ref f17) = true)
    (a18 : PySem.W.nsIn K mainGlobals "_law_alike" = some (some (.ref f18)))
    (l18 : K.lookup f18 = some ⟨oc18, od18, .func (PySem.W.fnOf "_law_alike" "_law_alike" (defArgs sAlike) (defBody sAlike) (defScope sAlike) .none kV18 dc18 pm18 an18 cd18 ct18), sl18⟩)
    (c18 : PySem.W.codeIn K cd18 "_law_alike" = true)
    (k18 : PySem.W.keepIn K (.ref f18) = true)
    (a19 : PySem.W.nsIn K mainGlobals "_law_web" = some (some (.ref f19)))
    (l19 : K.lookup f19 = some ⟨oc19, od19, .func (PySem.W.fnOf "_law_web" "_law_web" (defArgs sWeb) (defBody sWeb) (defScope sWeb) .none kV19 dc19 pm19 an19 cd19 ct19), sl19⟩)
    (c19 : PySem.W.codeIn K cd19 "_law_web" = true)
    (k19 : PySem.W.keepIn K (.ref f19) = true)
    (a20 : PySem.W.nsIn K mainGlobals "_law_joined_web" = some (some (.ref f20)))
    (l20 : K.lookup f20 = some ⟨oc20, od20, .func (PySem.W.fnOf "_law_joined_web" "_law_joined_web" (defArgs sJWeb) (defBody sJWeb) (defScope sJWeb) .none kV20 dc20 pm20 an20 cd20 ct20), sl20⟩)
    (c20 : PySem.W.codeIn K cd20 "_law_joined_web" = true)
    (k20 : PySem.W.keepIn K (.ref f20) = true)
    (a21 : PySem.W.nsIn K mainGlobals "_law_told" = some (some (.ref f21)))
    (l21 : K.lookup f21 = some ⟨oc21, od21, .func (PySem.W.fnOf "_law_told" "_law_told" (defArgs sTold) (defBody sTold) (defScope sTold) .none kV21 dc21 pm21 an21 cd21 ct21), sl21⟩)
    (c21 : PySem.W.codeIn K cd21 "_law_told" = true)
    (k21 : PySem.W.keepIn K (.ref f21) = true)
    (a22 : PySem.W.nsIn K mainGlobals "_law_far" = some (some (.ref f22)))
    (l22 : K.lookup f22 = some ⟨oc22, od22, .func (PySem.W.fnOf "_law_far" "_law_far" (defArgs sFar) (defBody sFar) (defScope sFar) .none kV22 dc22 pm22 an22 cd22 ct22), sl22⟩)
    (c22 : PySem.W.codeIn K cd22 "_law_far" = true)
    (k22 : PySem.W.keepIn K (.ref f22) = true)
    (a23 : PySem.W.nsIn K mainGlobals "_law_parts" = some (some (.ref f23)))
    (l23 : K.lookup f23 = some ⟨oc23, od23, .func (PySem.W.fnOf "_law_parts" "_law_parts" (defArgs sParts) (defBody sParts) (defScope sParts) .none kV23 dc23 pm23 an23 cd23 ct23), sl23⟩)
    (c23 : PySem.W.codeIn K cd23 "_law_parts" = true)
    (k23 : PySem.W.keepIn K (.ref f23) = true)
    (a24 : PySem.W.nsIn K mainGlobals "law" = some (some (.ref f24)))
    (l24 : K.lookup f24 = some ⟨oc24, od24, .func (PySem.W.fnOf "law" "law" (defArgs sLaw) (defBody sLaw) (defScope sLaw) .none kV24 dc24 pm24 an24 cd24 ct24), sl24⟩)
    (c24 : PySem.W.codeIn K cd24 "law" = true)
    (k24 : PySem.W.keepIn K (.ref f24) = true)
    (pg : PySem.W.plainGet K C Str.empty = true)
    (hd : PySem.W.hasDictIn K C = true)
    (po : PySem.W.plainOver K C = true)
    (sa : PySem.W.findIn K (.ref C) "__setattr__" = some (some (.builtin "object.__setattr__")))
    (mk : PySem.W.makesIn K C = true)
    (kc : PySem.W.keepIn K (.ref C) = true)
    (n0 : PySem.W.findIn K (.ref C) "net" = some none)
    (n1 : PySem.W.findIn K (.ref C) "wanted" = some none)
    (n2 : PySem.W.findIn K (.ref C) "best" = some none)
    (n3 : PySem.W.findIn K (.ref C) "made" = some none)
    (z0 : PySem.W.nsIn K mainGlobals "isinstance" = some none)
    (z1 : PySem.W.nsIn K mainGlobals "int" = some none)
    (z2 : PySem.W.nsIn K mainGlobals "bool" = some none)
    (z3 : PySem.W.nsIn K mainGlobals "str" = some none)
    (z4 : PySem.W.nsIn K mainGlobals "tuple" = some none)
    (z5 : PySem.W.nsIn K mainGlobals "list" = some none)
    (z6 : PySem.W.nsIn K mainGlobals "set" = some none)
    (z7 : PySem.W.nsIn K mainGlobals "len" = some none)
    (z8 : PySem.W.nsIn K mainGlobals "all" = some none)
    (z9 : PySem.W.nsIn K mainGlobals "any" = some none)
    (z10 : PySem.W.nsIn K mainGlobals "enumerate" = some none)
    (z11 : PySem.W.nsIn K mainGlobals "range" = some none)
    (z12 : PySem.W.nsIn K mainGlobals "min" = some none)
    (z13 : PySem.W.nsIn K mainGlobals "sorted" = some none)
    (m0 : PySem.W.nsIn K mainGlobals "MOST_PLACES" = some (some (.int 12 t0)))
    (m1 : PySem.W.nsIn K mainGlobals "MOST_TIES" = some (some (.int 30 t1)))
    (m2 : PySem.W.nsIn K mainGlobals "MOST_PRICE" = some (some (.int 999 t2)))
    (m3 : PySem.W.nsIn K mainGlobals "MOST_TOLD" = some (some (.int 8 t3)))
    (np : K.lookup Pt = none)
    (ch : PySem.W.codeHdIn K c Pt = true)
    : LamX.LawAtS l w K CX0 52 63 "_law_script" mg fa h := by
  have e := hfa.symm.trans (PySem.W.mg_of X G a24)
  cases e
  have T : Txt mg := ⟨PySem.W.mg_none_of X G z0, PySem.W.mg_none_of X G z1, PySem.W.mg_none_of X G z2, PySem.W.mg_none_of X G z3, PySem.W.mg_none_of X G z4, PySem.W.mg_none_of X G z5, PySem.W.mg_none_of X G z6, PySem.W.mg_none_of X G z7, PySem.W.mg_none_of X G z8, PySem.W.mg_none_of X G z9, PySem.W.mg_none_of X G z10, PySem.W.mg_none_of X G z11, PySem.W.mg_none_of X G z12, PySem.W.mg_none_of X G z13, ⟨t0, PySem.W.mg_of X G m0⟩, ⟨t1, PySem.W.mg_of X G m1⟩, ⟨t2, PySem.W.mg_of X G m2⟩, ⟨t3, PySem.W.mg_of X G m3⟩⟩
  have cl : ClsT K C := ⟨⟨pg, hd, po, sa⟩, n0, n1, n2, n3⟩
  have F0 := fun_mk (st := sIsInt) l0 c0 k0
  have b0 := F0.binds (ps := ["value"]) fun _ _ _ _ _ _ us hl => match us, hl with | [_], _ => rfl
  have F1 := fun_mk (st := sIsFrom) l1 c1 k1
  have b1 := F1.binds (ps := ["value", "least", "most"]) fun _ _ _ _ _ _ us hl => match us, hl with | [_, _, _], _ => rfl
  have F2 := fun_mk (st := sIsTie) l2 c2 k2
  have b2 := F2.binds (ps := ["value", "many"]) fun _ _ _ _ _ _ us hl => match us, hl with | [_, _], _ => rfl
  have F3 := fun_mk (st := sNeedWeb) l3 c3 k3
  have b3 := F3.binds (ps := ["value"]) fun _ _ _ _ _ _ us hl => match us, hl with | [_], _ => rfl
  have F4 := fun_mk (st := sRising) l4 c4 k4
  have b4 := F4.binds (ps := ["value", "most"]) fun _ _ _ _ _ _ us hl => match us, hl with | [_, _], _ => rfl
  have F5 := fun_mk (st := sNeedTold) l5 c5 k5
  have b5 := F5.binds (ps := ["web", "value"]) fun _ _ _ _ _ _ us hl => match us, hl with | [_, _], _ => rfl
  have F6 := fun_mk (st := sNbrs) l6 c6 k6
  have b6 := F6.binds (ps := ["web"]) fun _ _ _ _ _ _ us hl => match us, hl with | [_], _ => rfl
  have F7 := fun_mk (st := sSpread) l7 c7 k7
  have b7 := F7.binds (ps := ["web", "start"]) fun _ _ _ _ _ _ us hl => match us, hl with | [_, _], _ => rfl
  have F8 := fun_mk (st := sFrom) l8 c8 k8
  have b8 := F8.binds (ps := ["web", "place"]) fun _ _ _ _ _ _ us hl => match us, hl with | [_, _], _ => rfl
  have F9 := fun_mk (st := sClose) l9 c9 k9
  have b9 := F9.binds (ps := ["self", "lot", "start"]) fun _ _ _ _ _ _ us hl => match us, hl with | [_, _, _], _ => rfl
  have F10 := fun_mk (st := sMerged) l10 c10 k10
  have b10 := F10.binds (ps := ["self", "lot"]) fun _ _ _ _ _ _ us hl => match us, hl with | [_, _], _ => rfl
  have F11 := fun_mk (st := sInit) l11 c11 k11
  have b11 := F11.binds (ps := ["self", "web", "told"]) fun _ _ _ _ _ _ us hl => match us, hl with | [_, _, _], _ => rfl
  have F12 := fun_mk (st := sTies) l12 c12 k12
  have b12 := F12.binds (ps := ["self", "lot", "place"]) fun _ _ _ _ _ _ us hl => match us, hl with | [_, _, _], _ => rfl
  have F13 := fun_mk (st := sJoin) l13 c13 k13
  have b13 := F13.binds (ps := ["web", "told"]) fun _ _ _ _ _ _ us hl => match us, hl with | [_, _], _ => rfl
  have F14 := fun_mk (st := sPrice) l14 c14 k14
  have b14 := F14.binds (ps := ["web", "told"]) fun _ _ _ _ _ _ us hl => match us, hl with | [_, _], _ => rfl
  have F15 := fun_mk (st := sDPrice) l15 c15 k15
  have b15 := F15.binds (ps := ["web", "told"]) fun _ _ _ _ _ _ us hl => match us, hl with | [_, _], _ => rfl
  have F16 := fun_mk (st := sTaken) l16 c16 k16
  have b16 := F16.binds (ps := ["_law_row", "_law_many"]) fun _ _ _ _ _ _ us hl => match us, hl with | [_, _], _ => rfl
  have F17 := fun_mk (st := sPick) l17 c17 k17
  have b17 := F17.binds (ps := ["_law_row", "_law_things"]) fun _ _ _ _ _ _ us hl => match us, hl with | [_, _], _ => rfl
  have F18 := fun_mk (st := sAlike) l18 c18 k18
  have b18 := F18.binds (ps := ["_law_found", "_law_due"]) fun _ _ _ _ _ _ us hl => match us, hl with | [_, _], _ => rfl
  have F19 := fun_mk (st := sWeb) l19 c19 k19
  have b19 := F19.binds (ps := ["_law_row", "_law_most", "_law_dense"]) fun _ _ _ _ _ _ us hl => match us, hl with | [_, _, _], _ => rfl
  have F20 := fun_mk (st := sJWeb) l20 c20 k20
  have b20 := F20.binds (ps := ["_law_row", "_law_most", "_law_dense"]) fun _ _ _ _ _ _ us hl => match us, hl with | [_, _, _], _ => rfl
  have F21 := fun_mk (st := sTold) l21 c21 k21
  have b21 := F21.binds (ps := ["_law_row", "_law_web_here", "_law_most"]) fun _ _ _ _ _ _ us hl => match us, hl with | [_, _, _], _ => rfl
  have F22 := fun_mk (st := sFar) l22 c22 k22
  have b22 := F22.binds (ps := ["_law_web_here", "_law_place"]) fun _ _ _ _ _ _ us hl => match us, hl with | [_, _], _ => rfl
  have F23 := fun_mk (st := sParts) l23 c23 k23
  have b23 := F23.binds (ps := ["_law_many", "_law_pairs"]) fun _ _ _ _ _ _ us hl => match us, hl with | [_, _], _ => rfl
  have F24 := fun_mk (st := sLaw) l24 c24 k24
  have b24 := F24.binds (ps := ["_law_script"]) fun _ _ _ _ _ _ us hl => match us, hl with | [_], _ => rfl
  refine ⟨PySem.W.fnOf "law" "law" (defArgs sLaw) (defBody sLaw) (defScope sLaw) .none kV24 dc24 pm24 an24 cd24 ct24, [(c, Pt)], spLaw K Pt, ?_, ?_, ?_, fun s v => .of_eq rfl, ?_, ?_⟩
  · intro p hp; cases List.mem_singleton.mp hp; exact hPt
  · intro p hp; cases List.mem_singleton.mp hp; exact np
  · intro p hp; cases List.mem_singleton.mp hp; exact PySem.W.codeHd_of_K X ch
  · intro H a ns _ _ hH hS
    exact ⟨a, ns, rfl, hS, LamX.TabS.nil (hH (c, Pt) (List.mem_singleton.mpr rfl)), fun _ => rfl⟩
  · intro base _ _ hTB
    have TB : LamX.TabB base mg c Pt := hTB (c, Pt) (List.mem_singleton.mpr rfl)
    have E0 := ok_isInt (P := l.prog) (w := w) (base := base) F0 T
    have E1 := ok_isFrom (P := l.prog) (w := w) (base := base) F1 T ⟨_, _, E0, PySem.W.mg_of X G a0, k0, b0⟩
    have E2 := ok_isTie (P := l.prog) (w := w) (base := base) F2 T ⟨_, _, E0, PySem.W.mg_of X G a0, k0, b0⟩
    have E3 := ok_needWeb (P := l.prog) (w := w) (base := base) F3 T ⟨_, _, E1, PySem.W.mg_of X G a1, k1, b1⟩ ⟨_, _, E2, PySem.W.mg_of X G a2, k2, b2⟩
    have E4 := ok_rising (P := l.prog) (w := w) (base := base) F4 T ⟨_, _, E1, PySem.W.mg_of X G a1, k1, b1⟩
    have E5 := ok_needTold (P := l.prog) (w := w) (base := base) F5 T ⟨_, _, E4, PySem.W.mg_of X G a4, k4, b4⟩
    have E6 := ok_nbrs (P := l.prog) (w := w) (base := base) F6 T
    have E7 := ok_spread (P := l.prog) (w := w) (base := base) ⟨⟨oc7, od7, kV7, dc7, pm7, an7, ct7, sl7, rfl, l7, c7⟩, k7⟩ TB T ⟨_, _, E6, PySem.W.mg_of X G a6, k6, b6⟩
    have E8 := ok_from (P := l.prog) (w := w) (base := base) F8 T ⟨_, _, E7, PySem.W.mg_of X G a7, k7, b7⟩
    have E9 := ok_close (P := l.prog) (w := w) (base := base) F9 T cl ⟨_, _, E7, PySem.W.mg_of X G a7, k7, b7⟩
    have E10 := ok_merged (P := l.prog) (w := w) (base := base) F10 T cl
    have E11 := ok_init (P := l.prog) (w := w) (base := base) F11 T cl ⟨_, _, E9, ⟨a9, i9, k9⟩, b9⟩ ⟨_, _, E10, ⟨a10, i10, k10⟩, b10⟩
    have E12 := ok_ties (P := l.prog) (w := w) (base := base) F12 T cl ⟨a12, i12, k12⟩ b12 48
    have E13 := ok_join (P := l.prog) (w := w) (base := base) F13 T cl ⟨_, _, E12, ⟨a12, i12, k12⟩, b12⟩ ⟨_, _, E11, ⟨mk, a11, i11, kc⟩, b11, PySem.W.mg_of X G aC⟩
    have E14 := ok_price (P := l.prog) (w := w) (base := base) F14 T ⟨_, _, E3, PySem.W.mg_of X G a3, k3, b3⟩ ⟨_, _, E5, PySem.W.mg_of X G a5, k5, b5⟩ ⟨_, _, E13, PySem.W.mg_of X G a13, k13, b13⟩
    have E15 := ok_dist (P := l.prog) (w := w) (base := base) F15 T ⟨_, _, E3, PySem.W.mg_of X G a3, k3, b3⟩ ⟨_, _, E5, PySem.W.mg_of X G a5, k5, b5⟩ ⟨_, _, E8, PySem.W.mg_of X G a8, k8, b8⟩
    have E16 := ok_taken (P := l.prog) (w := w) (base := base) F16 T
    have E17 := ok_pick (P := l.prog) (w := w) (base := base) F17 T ⟨_, _, E16, PySem.W.mg_of X G a16, k16, b16⟩
    have E18 := ok_alike (P := l.prog) (w := w) (base := base) F18 T
    have E19 := ok_web (P := l.prog) (w := w) (base := base) F19 T ⟨_, _, E16, PySem.W.mg_of X G a16, k16, b16⟩ ⟨_, _, E17, PySem.W.mg_of X G a17, k17, b17⟩
    have E20 := ok_jweb (P := l.prog) (w := w) (base := base) F20 T ⟨_, _, E16, PySem.W.mg_of X G a16, k16, b16⟩ ⟨_, _, E17, PySem.W.mg_of X G a17, k17, b17⟩
    have E21 := ok_told (P := l.prog) (w := w) (base := base) F21 T ⟨_, _, E16, PySem.W.mg_of X G a16, k16, b16⟩
    have E22 := ok_far (P := l.prog) (w := w) (base := base) F22 T
    have E23 := ok_parts (P := l.prog) (w := w) (base := base) F23 T
    exact ok_law F24 T ⟨_, _, E16, PySem.W.mg_of X G a16, k16, b16⟩ ⟨_, _, E19, PySem.W.mg_of X G a19, k19, b19⟩ ⟨_, _, E20, PySem.W.mg_of X G a20, k20, b20⟩ ⟨_, _, E21, PySem.W.mg_of X G a21, k21, b21⟩ ⟨_, _, E22, PySem.W.mg_of X G a22, k22, b22⟩ ⟨_, _, E23, PySem.W.mg_of X G a23, k23, b23⟩ ⟨_, _, E15, PySem.W.mg_of X G a15, k15, b15⟩ ⟨_, _, E14, PySem.W.mg_of X G a14, k14, b14⟩ ⟨_, _, E18, PySem.W.mg_of X G a18, k18, b18⟩
end K10
open PySem PySem.W PyProof.Rows
set_option maxRecDepth 100000 in
set_option maxHeartbeats 0 in
theorem PySem.Challenge.cw_joinworks_k10_whole_bounds_by_distances_holds : PySem.Challenge.rw_joinworks_k10_whole_bounds_by_distances.Holds := by
  w_on; o_law; k_head; (case hw => w_witness2)
  k_fill
  refine LamX.walk_ofTs (l := PySem.Challenge.rw_joinworks_k10_whole_bounds_by_distances) (n := 63) (k := 52) (x := "_law_script") (CX := fun _ => L2.CX0) rfl (by decide) rfl ⟨rfl, by decide +kernel, by decide +kernel⟩ (fun w h Y => PySem.W.km_in_of Y) ?F (fun _ _ _ _ _ z => z)
  case F =>
    intro w mg fa h Y KX G hmg
    refine' K10.all_mk KX G hmg (PySem.W.km_tabs_of Y _ List.mem_cons_self) ?aC ?a0 ?l0 ?c0 ?k0 ?a1 ?l1 ?c1 ?k1 ?a2 ?l2 ?c2 ?k2 ?a3 ?l3 ?c3 ?k3 ?a4 ?l4 ?c4 ?k4 ?a5 ?l5 ?c5 ?k5 ?a6 ?l6 ?c6 ?k6 ?a7 ?l7 ?c7 ?k7 ?a8 ?l8 ?c8 ?k8 ?a9 ?i9 ?l9 ?c9 ?k9 ?a10 ?i10 ?l10 ?c10 ?k10 ?a11 ?i11 ?l11 ?c11 ?k11 ?a12 ?i12 ?l12 ?c12 ?k12 ?a13 ?l13 ?c13 ?k13 ?a14 ?l14 ?c14 ?k14 ?a15 ?l15 ?c15 ?k15 ?a16 ?l16 ?c16 ?k16 ?a17 ?l17 ?c17 ?k17 ?a18 ?l18 ?c18 ?k18 ?a19 ?l19 ?c19 ?k19 ?a20 ?l20 ?c20 ?k20 ?a21 ?l21 ?c21 ?k21 ?a22 ?l22 ?c22 ?k22 ?a23 ?l23 ?c23 ?k23 ?a24 ?l24 ?c24 ?k24 ?pg ?hd ?po ?sa ?mk ?kc ?n0 ?n1 ?n2 ?n3 ?z0 ?z1 ?z2 ?z3 ?z4 ?z5 ?z6 ?z7 ?z8 ?z9 ?z10 ?z11 ?z12 ?z13 ?m0 ?m1 ?m2 ?m3 ?np ?ch
    (case aC => k_is)
    (case a0 => k_is)
    (case l0 => k_is)
    (case c0 => k_is)
    (case k0 => k_is)
    (case a1 => k_is)
    (case l1 => k_is)
    (case c1 => k_is)
    (case k1 => k_is)
    (case a2 => k_is)
    (case l2 => k_is)
    (case c2 => k_is)
    (case k2 => k_is)
    (case a3 => k_is)
    (case l3 => k_is)
    (case c3 => k_is)
    (case k3 => k_is)
    (case a4 => k_is)
    (case l4 => k_is)
    (case c4 => k_is)
    (case k4 => k_is)
    (case a5 => k_is)
    (case l5 => k_is)
    (case c5 => k_is)
    (case k5 => k_is)
    (case a6 => k_is)
    (case l6 => k_is)
    (case c6 => k_is)
    (case k6 => k_is)
    (case a7 => k_is)
    (case l7 => k_is)
    (case c7 => k_is)
    (case k7 => k_is)
    (case a8 => k_is)
    (case l8 => k_is)
    (case c8 => k_is)
    (case k8 => k_is)
    (case a9 => k_is)
    (case i9 => k_is)
    (case l9 => k_is)
    (case c9 => k_is)
    (case k9 => k_is)
    (case a10 => k_is)
    (case i10 => k_is)
    (case l10 => k_is)
    (case c10 => k_is)
    (case k10 => k_is)
    (case a11 => k_is)
    (case i11 => k_is)
    (case l11 => k_is)
    (case c11 => k_is)
    (case k11 => k_is)
    (case a12 => k_is)
    (case i12 => k_is)
    (case l12 => k_is)
    (case c12 => k_is)
    (case k12 => k_is)
    (case a13 => k_is)
    (case l13 => k_is)
    (case c13 => k_is)
    (case k13 => k_is)
    (case a14 => k_is)
    (case l14 => k_is)
    (case c14 => k_is)
    (case k14 => k_is)
    (case a15 => k_is)
    (case l15 => k_is)
    (case c15 => k_is)
    (case k15 => k_is)
    (case a16 => k_is)
    (case l16 => k_is)
    (case c16 => k_is)
    (case k16 => k_is)
    (case a17 => k_is)
    (case l17 => k_is)
    (case c17 => k_is)
    (case k17 => k_is)
    (case a18 => k_is)
    (case l18 => k_is)
    (case c18 => k_is)
    (case k18 => k_is)
    (case a19 => k_is)
    (case l19 => k_is)
    (case c19 => k_is)
    (case k19 => k_is)
    (case a20 => k_is)
    (case l20 => k_is)
    (case c20 => k_is)
    (case k20 => k_is)
    (case a21 => k_is)
    (case l21 => k_is)
    (case c21 => k_is)
    (case k21 => k_is)
    (case a22 => k_is)
    (case l22 => k_is)
    (case c22 => k_is)
    (case k22 => k_is)
    (case a23 => k_is)
    (case l23 => k_is)
    (case c23 => k_is)
    (case k23 => k_is)
    (case a24 => k_is)
    (case l24 => k_is)
    (case c24 => k_is)
    (case k24 => k_is)
    (case pg => k_is)
    (case hd => k_is)
    (case po => k_is)
    (case sa => k_is)
    (case mk => k_is)
    (case kc => k_is)
    (case n0 => k_is)
    (case n1 => k_is)
    (case n2 => k_is)
    (case n3 => k_is)
    (case z0 => k_is)
    (case z1 => k_is)
    (case z2 => k_is)
    (case z3 => k_is)
    (case z4 => k_is)
    (case z5 => k_is)
    (case z6 => k_is)
    (case z7 => k_is)
    (case z8 => k_is)
    (case z9 => k_is)
    (case z10 => k_is)
    (case z11 => k_is)
    (case z12 => k_is)
    (case z13 => k_is)
    (case m0 => k_is)
    (case m1 => k_is)
    (case m2 => k_is)
    (case m3 => k_is)
    (case np => kernel_rfl)
    (case ch => kernel_rfl)
#print axioms PySem.Challenge.cw_joinworks_k10_whole_bounds_by_distances_holds
