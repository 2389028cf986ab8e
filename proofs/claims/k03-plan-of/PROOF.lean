import PyProof.Rows.All
import Wide.All
import OpenK.AllK
import Wide.FinOn
import HandS.ForMost
import HandS.Style
import HandS.Walk
import HandS.IsInst
import KE.GoesMore
import HandS.Codes
import PySem.Challenge.RW_palbuilds_k03_whole_plans_read_back
set_option Elab.async false
set_option linter.all false
set_option maxRecDepth 100000
set_option maxHeartbeats 4000000
namespace Pal
/-! words as lists of codes; closing, building; the theorem of the lengths -/
abbrev W := List Nat
def pal (w : W) : Prop := w.reverse = w
instance (w : W) : Decidable (pal w) := inferInstanceAs (Decidable (w.reverse = w))
/-- the word with its first k letters behind it, turned -/
def ext (w : W) (k : Nat) : W := w ++ (w.take k).reverse
/-- the first k from i on, of n at most, that makes a mirror -/
def seek (w : W) : Nat → Nat → Nat
  | _, 0 => w.length
  | i, n + 1 => if pal (ext w i) then i else seek w (i + 1) n
def cloK (w : W) : Nat := seek w 0 (w.length + 1)
def clo (w : W) : W := ext w (cloK w)
def bld : W → W := List.foldl (fun b x => clo (b ++ [x])) []
theorem bld_nil : bld [] = [] := rfl
theorem bld_snoc (q : W) (x : Nat) : bld (q ++ [x]) = clo (bld q ++ [x]) := by
  unfold bld
  rw [List.foldl_append]
  rfl
theorem ext_len (w : W) {k : Nat} (h : k ≤ w.length) : (ext w k).length = w.length + k := by
  unfold ext
  rw [List.length_append, List.length_reverse, List.length_take, Nat.min_eq_left h]
theorem ext_all_pal (w : W) : pal (ext w w.length) := by
  unfold pal ext
  rw [List.take_length, List.reverse_append, List.reverse_reverse]
theorem seek_spec (w : W) : ∀ n i, i + n = w.length + 1 → pal (ext w (seek w i n)) ∧ seek w i n ≤ w.length ∧ (i ≤ w.length → i ≤ seek w i n) ∧ ∀ k, i ≤ k → k < seek w i n → ¬ pal (ext w k)
  | 0, i, h => by
    refine ⟨ext_all_pal w, Nat.le_refl _, fun z => z, fun k h1 h2 => ?_⟩
    have h2' : k < w.length := h2
    omega
  | n + 1, i, h => by
    have e : seek w i (n + 1) = if pal (ext w i) then i else seek w (i + 1) n := rfl
    rw [e]
    by_cases c : pal (ext w i)
    · rw [if_pos c]
      exact ⟨c, by omega, fun _ => Nat.le_refl _, fun k h1 h2 => absurd h2 (by omega)⟩
    · rw [if_neg c]
      obtain ⟨a1, a2, a3, a4⟩ := seek_spec w n (i + 1) (by omega)
      refine ⟨a1, a2, fun z => ?_, fun k h1 h2 => ?_⟩
      · by_cases hi : i = w.length
        · subst hi
          exact absurd (ext_all_pal w) c
        · have := a3 (by omega)
          omega
      · by_cases hk : k = i
        · rw [hk]; exact c
        · exact a4 k (by omega) h2
theorem cloK_spec (w : W) : pal (clo w) ∧ cloK w ≤ w.length ∧ ∀ k, k < cloK w → ¬ pal (ext w k) := by
  obtain ⟨a1, a2, _, a4⟩ := seek_spec w (w.length + 1) 0 (by omega)
  exact ⟨a1, a2, fun k h => a4 k (Nat.zero_le _) h⟩
theorem clo_pal (w : W) : pal (clo w) := (cloK_spec w).1
theorem clo_len (w : W) : (clo w).length = w.length + cloK w := ext_len w (cloK_spec w).2.1
theorem clo_pre (w : W) : w <+: clo w := ⟨_, rfl⟩
theorem clo_le2 (w : W) : (clo w).length ≤ 2 * w.length := by
  have := clo_len w
  have := (cloK_spec w).2.1
  omega
/-- a mirror with the beginning w, at most twice as long, is w with its first letters turned behind it -/
theorem ext_of {w u : W} (hu : pal u) (hp : w <+: u) (hl : u.length ≤ 2 * w.length) : u = ext w (u.length - w.length) := by
  obtain ⟨t, rfl⟩ := hp
  unfold ext
  rw [List.length_append, Nat.add_sub_cancel_left]
  rw [List.length_append] at hl
  have h1 : t.reverse ++ w.reverse = w ++ t := by
    have := hu
    unfold pal at this
    rw [List.reverse_append] at this
    exact this
  have h2 : t.reverse = w.take t.length := by
    have := congrArg (List.take t.length) h1
    rw [List.take_append_of_le_length (by rw [List.length_reverse]; omega), List.take_append_of_le_length (by omega)] at this
    rw [← this, List.take_of_length_le (by rw [List.length_reverse]; omega)]
  rw [← h2, List.reverse_reverse]
/-- the closing is the shortest one -/
theorem clo_le {w u : W} (hu : pal u) (hp : w <+: u) : (clo w).length ≤ u.length := by
  by_cases hl : u.length ≤ 2 * w.length
  · have e := ext_of hu hp hl
    have hk : ¬ u.length - w.length < cloK w := fun h => (cloK_spec w).2.2 _ h (e ▸ hu)
    have := clo_len w
    have := hp.length_le
    omega
  · have := clo_le2 w
    omega
theorem bld_pal (p : W) : pal (bld p) := by
  rcases List.eq_nil_or_concat p with rfl | ⟨q, x, rfl⟩
  · rfl
  · rw [List.concat_eq_append, bld_snoc]
    exact clo_pal _
theorem bld_step_pre (q : W) (x : Nat) : bld q ++ [x] <+: bld (q ++ [x]) := by
  rw [bld_snoc]
  exact clo_pre _
theorem bld_pre (q : W) : ∀ r : W, bld q <+: bld (q ++ r) := by
  intro r
  induction r generalizing q with
  | nil => rw [List.append_nil]; exact List.prefix_refl _
  | cons x r ih =>
    have h := ih (q ++ [x])
    rw [List.append_assoc] at h
    exact ((List.prefix_append (bld q) [x]).trans (bld_step_pre q x)).trans h
theorem bld_pre_next (q : W) (x : Nat) (r : W) : bld q ++ [x] <+: bld (q ++ x :: r) := by
  have h := bld_pre (q ++ [x]) r
  rw [List.append_assoc] at h
  exact (bld_step_pre q x).trans h
theorem bld_grow (q : W) (x : Nat) : (bld q).length < (bld (q ++ [x])).length := by
  have := (bld_step_pre q x).length_le
  rw [List.length_append] at this
  exact this
theorem bld_le (q r : W) : (bld q).length ≤ (bld (q ++ r)).length := (bld_pre q r).length_le
theorem bld_lt (q : W) (x : Nat) (r : W) : (bld q).length < (bld (q ++ x :: r)).length := by
  have := (bld_pre_next q x r).length_le
  rw [List.length_append] at this
  exact this
theorem snoc_ind {P : W → Prop} (h0 : P []) (hs : ∀ q x, P q → P (q ++ [x])) : ∀ p, P p := by
  intro p
  have h : ∀ n (p : W), p.length = n → P p := by
    intro n
    induction n with
    | zero => intro p hp; rw [List.length_eq_zero_iff.mp hp]; exact h0
    | succ n ih =>
      intro p hp
      rcases List.eq_nil_or_concat p with rfl | ⟨q, x, rfl⟩
      · cases hp
      · rw [List.concat_eq_append] at hp ⊢
        rw [List.length_append] at hp
        exact hs q x (ih q (Nat.succ.inj hp))
  exact h _ p rfl
/-- a mirror at the beginning of a closing of a mirror and a letter: the closing, or at the beginning of the mirror -/
theorem pal_pre_clo {P u : W} {x : Nat} (hu : pal u) (h : u <+: clo (P ++ [x])) : u <+: P ∨ u = clo (P ++ [x]) := by
  have hP : P ++ [x] <+: clo (P ++ [x]) := clo_pre _
  by_cases hl : u.length ≤ P.length
  · exact .inl (List.prefix_of_prefix_length_le h ((List.prefix_append P [x]).trans hP) hl)
  · have h1 : P ++ [x] <+: u := List.prefix_of_prefix_length_le hP h (by rw [List.length_append]; show P.length + 1 ≤ u.length; omega)
    exact .inr (h.eq_of_length_le (clo_le hu h1))
/-- the mirrors at the beginning of a build are builds of beginnings -/
theorem bld_pal_pre (p : W) : ∀ u : W, pal u → u <+: bld p → ∃ q r, p = q ++ r ∧ u = bld q := by
  induction p using snoc_ind with
  | h0 => intro u _ h; exact ⟨[], [], rfl, List.eq_nil_of_prefix_nil h⟩
  | hs q x ih =>
    intro u hu h
    rw [bld_snoc] at h
    rcases pal_pre_clo hu h with h | h
    · obtain ⟨a, b, e1, e2⟩ := ih u hu h
      exact ⟨a, b ++ [x], by rw [e1, List.append_assoc], e2⟩
    · exact ⟨q ++ [x], [], by rw [List.append_nil], by rw [bld_snoc]; exact h⟩
/-- upper bound: a mirror M, with x behind it, at the beginning of the mirror P -/
theorem clo_upper {P M : W} {x : Nat} (hP : pal P) (hM : pal M) (h : M ++ [x] <+: P) : (clo (P ++ [x])).length + M.length ≤ 2 * P.length := by
  obtain ⟨t, e⟩ := h
  -- P = t.reverse ++ x :: M
  have e2 : P = t.reverse ++ (x :: M) := by
    have h1 : P.reverse = P := hP
    rw [← h1, ← e, List.reverse_append, List.reverse_append, show M.reverse = M from hM]
    rfl
  have hl : P.length = t.length + 1 + M.length := by
    rw [e2, List.length_append, List.length_reverse, List.length_cons]
    omega
  have hU : pal (t.reverse ++ (x :: (M ++ (x :: t)))) := by
    unfold pal
    rw [List.reverse_append, List.reverse_reverse, List.reverse_cons, List.reverse_append, List.reverse_cons, show M.reverse = M from hM]
    simp only [List.append_assoc, List.cons_append, List.nil_append]
  have hp : P ++ [x] <+: t.reverse ++ (x :: (M ++ (x :: t))) := by
    refine ⟨t, ?_⟩
    rw [e2]
    simp only [List.append_assoc, List.cons_append, List.nil_append]
  have := clo_le hU hp
  rw [List.length_append, List.length_reverse, List.length_cons, List.length_append, List.length_cons] at this
  omega
theorem clo_upper_new {P : W} (x : Nat) (hP : pal P) : (clo (P ++ [x])).length ≤ 2 * P.length + 1 := by
  have hU : pal (P ++ x :: P) := by
    unfold pal
    rw [List.reverse_append, List.reverse_cons, show P.reverse = P from hP]
    simp only [List.append_assoc, List.cons_append, List.nil_append]
  have hp : P ++ [x] <+: P ++ x :: P := ⟨P, by simp only [List.append_assoc, List.cons_append, List.nil_append]⟩
  have := clo_le hU hp
  rw [List.length_append, List.length_cons] at this
  omega
/-- lower bound: a mirror with the beginning P ++ [x], at most twice as long as P, gives a mirror M with x behind it at the beginning of P -/
theorem pal_lower {P C : W} {x : Nat} (hP : pal P) (hC : pal C) (h : P ++ [x] <+: C) (hl : C.length ≤ 2 * P.length) :
    ∃ M, pal M ∧ M ++ [x] <+: P ∧ C.length + M.length = 2 * P.length := by
  obtain ⟨R, e⟩ := h
  have hlen : C.length = P.length + 1 + R.length := by
    rw [← e, List.length_append, List.length_append]
    rfl
  have h1 : R.reverse ++ (x :: P) = P ++ (x :: R) := by
    have := hC
    unfold pal at this
    rw [← e, List.reverse_append, List.reverse_append, show P.reverse = P from hP] at this
    simpa only [List.append_assoc, List.cons_append, List.nil_append, List.reverse_cons, List.reverse_nil] using this
  -- P = R.reverse ++ x :: M
  have h2 : R.reverse ++ [x] <+: P := by
    refine List.prefix_of_prefix_length_le (l₃ := P ++ (x :: R)) ⟨P, ?_⟩ (List.prefix_append _ _) ?_
    · rw [← h1, List.append_assoc]
      rfl
    · rw [List.length_append, List.length_reverse]
      show R.length + 1 ≤ P.length
      omega
  obtain ⟨M, eM⟩ := h2
  have eM' : P = R.reverse ++ (x :: M) := by rw [← eM, List.append_assoc]; rfl
  have h3 : x :: P = (x :: M) ++ (x :: R) := by
    have h4 := h1
    rw (occs := .pos [2]) [eM'] at h4
    rw [List.append_assoc] at h4
    exact List.append_cancel_left h4
  have h5 : P = M ++ (x :: R) := (List.cons.inj h3).2
  have hpm : pal M := by
    have h6 : P.reverse = P := hP
    rw (occs := .pos [1]) [eM'] at h6
    rw [h5, List.reverse_append, List.reverse_reverse, List.reverse_cons, List.append_assoc] at h6
    exact List.append_inj_left' h6 (by rw [List.length_append]; simp only [List.length_cons, List.length_nil]; omega)
  refine ⟨M, hpm, ⟨R, by rw [h5, List.append_assoc]; rfl⟩, ?_⟩
  have : P.length = M.length + (R.length + 1) := by rw [h5, List.length_append, List.length_cons]
  omega
/-- the lengths: a letter that stood -/
theorem len_old (a b : W) (x : Nat) (hx : x ∉ b) : (bld (a ++ x :: b ++ [x])).length + (bld a).length = 2 * (bld (a ++ x :: b)).length := by
  rw [bld_snoc]
  have hP := bld_pal (a ++ x :: b)
  have up := clo_upper hP (bld_pal a) (bld_pre_next a x b)
  obtain ⟨M, m1, m2, m3⟩ := pal_lower hP (clo_pal _) (clo_pre (bld (a ++ x :: b) ++ [x])) (by omega)
  obtain ⟨q, r, e1, e2⟩ := bld_pal_pre _ M m1 ((List.prefix_append M [x]).trans m2)
  have hMl := m2.length_le
  rw [List.length_append] at hMl
  have hMl' : M.length < (bld (a ++ x :: b)).length := hMl
  cases r with
  | nil =>
    rw [List.append_nil] at e1
    rw [e2, ← e1] at hMl'
    exact absurd hMl' (Nat.lt_irrefl _)
  | cons y r =>
    have hy : y = x := by
      have h1 : bld q ++ [y] <+: bld (a ++ x :: b) := by rw [e1]; exact bld_pre_next q y r
      have h2 : bld q ++ [x] <+: bld (a ++ x :: b) := by rw [← e2]; exact m2
      have h3 := (List.prefix_of_prefix_length_le h1 h2 (by rw [List.length_append, List.length_append]; exact Nat.le_refl _)).eq_of_length (by rw [List.length_append, List.length_append]; rfl)
      exact (List.cons.inj (List.append_cancel_left h3)).1
    subst hy
    -- the last y stands behind a: so q is at most as long as a
    have hql : q.length ≤ a.length := by
      refine Nat.le_of_not_lt fun hlt => hx ?_
      have g : (a ++ y :: b)[q.length]? = some y := by
        rw [e1, List.getElem?_append_right (Nat.le_refl _), Nat.sub_self]
        rfl
      rw [List.getElem?_append_right (by omega)] at g
      obtain ⟨k, hk⟩ : ∃ k, q.length - a.length = k + 1 := ⟨q.length - a.length - 1, by omega⟩
      rw [hk, List.getElem?_cons_succ] at g
      exact List.mem_of_getElem? g
    have hqa : q <+: a := by
      refine List.prefix_of_prefix_length_le (l₃ := a ++ y :: b) ?_ (List.prefix_append _ _) hql
      rw [e1]
      exact List.prefix_append _ _
    obtain ⟨s, es⟩ := hqa
    have := bld_le q s
    rw [es, ← e2] at this
    omega
/-- the lengths: a new letter -/
theorem len_new (p : W) (x : Nat) (hx : x ∉ p) : (bld (p ++ [x])).length = 2 * (bld p).length + 1 := by
  rw [bld_snoc]
  have hP := bld_pal p
  have up := clo_upper_new x hP
  refine Nat.le_antisymm up (Nat.le_of_not_lt fun hlt => hx ?_)
  obtain ⟨M, m1, m2, m3⟩ := pal_lower hP (clo_pal _) (clo_pre (bld p ++ [x])) (by omega)
  obtain ⟨q, r, e1, e2⟩ := bld_pal_pre _ M m1 ((List.prefix_append M [x]).trans m2)
  have hMl := m2.length_le
  rw [List.length_append] at hMl
  have hMl' : M.length < (bld p).length := hMl
  cases r with
  | nil =>
    rw [List.append_nil] at e1
    rw [e2, ← e1] at hMl'
    exact absurd hMl' (Nat.lt_irrefl _)
  | cons y r =>
    have hy : y = x := by
      have h1 : bld q ++ [y] <+: bld p := by rw [e1]; exact bld_pre_next q y r
      have h2 : bld q ++ [x] <+: bld p := by rw [← e2]; exact m2
      have h3 := (List.prefix_of_prefix_length_le h1 h2 (by rw [List.length_append, List.length_append]; exact Nat.le_refl _)).eq_of_length (by rw [List.length_append, List.length_append]; rfl)
      exact (List.cons.inj (List.append_cancel_left h3)).1
    subst hy
    rw [e1]
    exact List.mem_append_right _ (List.mem_cons_self ..)
theorem len_step_le (p : W) (x : Nat) : (bld (p ++ [x])).length ≤ 2 * (bld p).length + 1 := by
  rw [bld_snoc]
  exact clo_upper_new x (bld_pal p)
/-- a build of a letter more: its own letters, then the build ahead of it -/
theorem bld_cut (p : W) (x : Nat) : bld (p ++ [x]) = (bld p ++ [x]).take ((bld (p ++ [x])).length - (bld p).length) ++ bld p := by
  have hC := bld_pal (p ++ [x])
  have hp := bld_step_pre p x
  have hle := len_step_le p x
  have hlt := bld_grow p x
  have hs : ∃ s, bld (p ++ [x]) = s ++ bld p := by
    obtain ⟨t, e⟩ := (List.prefix_append (bld p) [x]).trans hp
    refine ⟨t.reverse, ?_⟩
    have h1 : (bld (p ++ [x])).reverse = bld (p ++ [x]) := hC
    rw [← h1, ← e, List.reverse_append, show (bld p).reverse = bld p from bld_pal p]
  obtain ⟨s, es⟩ := hs
  have hsl : s.length = (bld (p ++ [x])).length - (bld p).length := by
    rw [es, List.length_append]
    omega
  have h2 : s <+: bld p ++ [x] := by
    refine List.prefix_of_prefix_length_le (l₃ := bld (p ++ [x])) ⟨bld p, es.symm⟩ hp ?_
    rw [List.length_append]
    show s.length ≤ (bld p).length + 1
    omega
  have h3 := List.prefix_iff_eq_take.mp h2
  rw [hsl] at h3
  rw [← h3]
  exact es

/-! ### the letters behind the mirrors at the beginning -/
def pfN (w : W) : Nat → W
  | 0 => []
  | n + 1 => if pal (w.take n) then pfN w n ++ (w[n]?).toList else pfN w n
def pf (w : W) : W := pfN w w.length
theorem pfN_succ (w : W) (n : Nat) : pfN w (n + 1) = if pal (w.take n) then pfN w n ++ (w[n]?).toList else pfN w n := rfl
theorem pfN_len (w : W) : ∀ n, (pfN w n).length ≤ n
  | 0 => Nat.le_refl _
  | n + 1 => by
    have ih := pfN_len w n
    rw [pfN_succ]
    split
    · rw [List.length_append]
      have : (w[n]?).toList.length ≤ 1 := by cases w[n]? <;> simp
      omega
    · omega
theorem pfN_sub (w : W) : ∀ n x, x ∈ pfN w n → x ∈ w
  | 0, x, h => by cases h
  | n + 1, x, h => by
    rw [pfN_succ] at h
    split at h
    · rcases List.mem_append.mp h with h | h
      · exact pfN_sub w n x h
      · cases e : w[n]? with
        | none => rw [e] at h; cases h
        | some y =>
          rw [e] at h
          have : x = y := by simpa using h
          rw [this]
          exact List.mem_of_getElem? e
    · exact pfN_sub w n x h
/-- between n and m no mirror: nothing is noted -/
theorem pfN_gap (w : W) (n : Nat) : ∀ d, (∀ k, n ≤ k → k < n + d → ¬ pal (w.take k)) → pfN w (n + d) = pfN w n
  | 0, _ => rfl
  | d + 1, h => by
    show pfN w (n + d + 1) = _
    rw [pfN_succ, if_neg (h (n + d) (by omega) (by omega))]
    exact pfN_gap w n d fun k h1 h2 => h k h1 (by omega)
/-- what is noted up to m begins with what is noted up to n -/
theorem pfN_pre (w : W) (n : Nat) : ∀ d, pfN w n <+: pfN w (n + d)
  | 0 => List.prefix_refl _
  | d + 1 => by
    show _ <+: pfN w (n + d + 1)
    rw [pfN_succ]
    split
    · exact (pfN_pre w n d).trans (List.prefix_append _ _)
    · exact pfN_pre w n d
/-- the greatest mirror below n -/
theorem last_pal (w : W) : ∀ n, 0 < n → ∃ j, j < n ∧ pal (w.take j) ∧ ∀ k, j < k → k < n → ¬ pal (w.take k)
  | 0, h => absurd h (Nat.lt_irrefl _)
  | 1, _ => ⟨0, Nat.zero_lt_one, rfl, fun k h1 h2 => absurd h2 (by omega)⟩
  | n + 2, _ => by
    by_cases c : pal (w.take (n + 1))
    · exact ⟨n + 1, by omega, c, fun k h1 h2 => absurd h2 (by omega)⟩
    · obtain ⟨j, h1, h2, h3⟩ := last_pal w (n + 1) (Nat.succ_pos _)
      refine ⟨j, by omega, h2, fun k a b => ?_⟩
      by_cases e : k = n + 1
      · rw [e]; exact c
      · exact h3 k a (by omega)
/-- the last one of the noted letters below n that is x -/
theorem noted_last (w : W) (x : Nat) : ∀ n, x ∈ pfN w n → ∃ i b, i < n ∧ pal (w.take i) ∧ w[i]? = some x ∧ pfN w n = pfN w i ++ x :: b ∧ x ∉ b
  | 0, h => by cases h
  | n + 1, h => by
    rw [pfN_succ] at h ⊢
    by_cases c : pal (w.take n)
    · rw [if_pos c] at h ⊢
      cases e : w[n]? with
      | none =>
        rw [e] at h
        obtain ⟨i, b, h1, h2, h3, h4, h5⟩ := noted_last w x n (by simpa using h)
        exact ⟨i, b, by omega, h2, h3, by simpa using h4, h5⟩
      | some y =>
        rw [e] at h
        by_cases hy : x = y
        · subst hy
          exact ⟨n, [], by omega, c, e, rfl, by simp⟩
        · have h' : x ∈ pfN w n := by
            rcases List.mem_append.mp h with z | z
            · exact z
            · exact absurd (by simpa using z) hy
          obtain ⟨i, b, h1, h2, h3, h4, h5⟩ := noted_last w x n h'
          refine ⟨i, b ++ [y], by omega, h2, h3, ?_, ?_⟩
          · rw [h4, List.append_assoc]; rfl
          · intro z
            rcases List.mem_append.mp z with z | z
            · exact h5 z
            · exact hy (by simpa using z)
    · rw [if_neg c] at h ⊢
      obtain ⟨i, b, h1, h2, h3, h4, h5⟩ := noted_last w x n h
      exact ⟨i, b, by omega, h2, h3, h4, h5⟩
theorem pfN_at (w : W) {j : Nat} {x : Nat} (c : pal (w.take j)) (h : w[j]? = some x) : pfN w (j + 1) = pfN w j ++ [x] := by
  rw [pfN_succ, if_pos c, h]
  rfl
theorem noted_mem (w : W) {i n : Nat} {x : Nat} (h : i < n) (c : pal (w.take i)) (e : w[i]? = some x) : x ∈ pfN w n := by
  obtain ⟨d, rfl⟩ : ∃ d, n = i + 1 + d := ⟨n - (i + 1), by omega⟩
  refine (pfN_pre w (i + 1) d).subset ?_
  rw [pfN_at w c e]
  exact List.mem_append_right _ (List.mem_cons_self ..)
theorem take_snoc (w : W) {j x : Nat} (h : w[j]? = some x) : w.take (j + 1) = w.take j ++ [x] := by
  rw [List.take_add_one, h]
  rfl
/-- the build of the noted letters is never longer than the beginning; nor does it grow more -/
theorem noted_le (w : W) : ∀ N n, n ≤ N → n ≤ w.length → pal (w.take n) → ∀ m, m ≤ n → pal (w.take m) → (bld (pfN w n)).length + m ≤ n + (bld (pfN w m)).length := by
  intro N
  induction N with
  | zero =>
    intro n hn _ _ m hm _
    have e1 : n = 0 := by omega
    have e2 : m = 0 := by omega
    subst e1 e2
    exact Nat.le_of_eq (Nat.add_comm _ _)
  | succ N ih =>
    intro n hn hw hp m hm hpm
    by_cases hmn : m = n
    · subst hmn; omega
    obtain ⟨j, hj1, hj2, hj3⟩ := last_pal w n (by omega)
    have hmj : m ≤ j := Nat.le_of_not_lt fun z => hj3 m z (by omega) hpm
    have hjw : j < w.length := by omega
    obtain ⟨x, hx⟩ : ∃ x, w[j]? = some x := ⟨w[j], List.getElem?_eq_getElem hjw⟩
    have e1 : pfN w n = pfN w j ++ [x] := by
      obtain ⟨d, rfl⟩ : ∃ d, n = j + 1 + d := ⟨n - (j + 1), by omega⟩
      rw [pfN_gap w (j + 1) d fun k a b => hj3 k (by omega) b, pfN_at w hj2 hx]
    have hpre : w.take j ++ [x] <+: w.take n := by
      rw [← take_snoc w hx]
      exact List.take_prefix_take_left (by omega)
    have hlj : (w.take j).length = j := by rw [List.length_take]; omega
    have hln : (w.take n).length = n := by rw [List.length_take]; omega
    have ihm := ih j (by omega) (by omega) hj2 m hmj hpm
    have ih0 := ih j (by omega) (by omega) hj2 0 (Nat.zero_le _) rfl
    have b0 : (bld (pfN w 0)).length = 0 := rfl
    by_cases hmem : x ∈ pfN w j
    · obtain ⟨i, b, h1, h2, h3, h4, h5⟩ := noted_last w x j hmem
      have ihi := ih j (by omega) (by omega) hj2 i (by omega) h2
      have f := len_old (pfN w i) b x h5
      rw [← h4, ← e1] at f
      -- n ≥ 2j - i
      have low : 2 * j ≤ n + i := by
        refine Nat.le_of_not_lt fun hlt => ?_
        obtain ⟨M, m1, m2, m3⟩ := pal_lower hj2 hp hpre (by omega)
        have hMl := m2.length_le
        rw [List.length_append, hlj] at hMl
        have hMl' : M.length < j := hMl
        have hMw : M ++ [x] <+: w := m2.trans (List.take_prefix _ _)
        have eM : M = w.take M.length := List.prefix_iff_eq_take.mp ((List.prefix_append M [x]).trans hMw)
        have gx : w[M.length]? = some x := by
          obtain ⟨t, et⟩ := hMw
          rw [← et, List.append_assoc, List.getElem?_append_right (Nat.le_refl _), Nat.sub_self]
          rfl
        have hi : i < M.length := by omega
        -- x is noted at M.length, behind i
        have : x ∈ b := by
          have g2 : pfN w (i + 1) = pfN w i ++ [x] := pfN_at w h2 h3
          have g3 : x ∈ (pfN w j).drop (pfN w (i + 1)).length := by
            obtain ⟨d, hd⟩ : ∃ d, M.length = i + 1 + d := ⟨M.length - (i + 1), by omega⟩
            have g4 : pfN w (M.length + 1) = pfN w M.length ++ [x] := pfN_at w (eM ▸ m1) gx
            obtain ⟨s, es⟩ := pfN_pre w (i + 1) d
            rw [← hd] at es
            obtain ⟨d2, hd2⟩ : ∃ d2, j = M.length + 1 + d2 := ⟨j - (M.length + 1), by omega⟩
            obtain ⟨s2, es2⟩ := pfN_pre w (M.length + 1) d2
            rw [← hd2] at es2
            rw [← es2, g4, ← es, List.append_assoc, List.append_assoc, List.drop_left]
            exact List.mem_append_right _ (List.mem_append_left _ (List.mem_cons_self ..))
          rw [g2, h4, List.length_append] at g3
          have g5 : (pfN w i ++ x :: b).drop ((pfN w i).length + [x].length) = b := by
            rw [← List.drop_drop, List.drop_left]
            rfl
          rw [g5] at g3
          exact g3
        exact h5 this
      omega
    · have f := len_new (pfN w j) x hmem
      rw [← e1] at f
      have low : 2 * j + 1 ≤ n := by
        refine Nat.le_of_not_lt fun hlt => hmem ?_
        obtain ⟨M, m1, m2, m3⟩ := pal_lower hj2 hp hpre (by omega)
        have hMl := m2.length_le
        rw [List.length_append, hlj] at hMl
        have hMl' : M.length < j := hMl
        have hMw : M ++ [x] <+: w := m2.trans (List.take_prefix _ _)
        have eM : M = w.take M.length := List.prefix_iff_eq_take.mp ((List.prefix_append M [x]).trans hMw)
        have gx : w[M.length]? = some x := by
          obtain ⟨t, et⟩ := hMw
          rw [← et, List.append_assoc, List.getElem?_append_right (Nat.le_refl _), Nat.sub_self]
          rfl
        exact noted_mem w hMl' (eM ▸ m1) gx
      omega
theorem noted_bound (w : W) : (bld (pf w)).length ≤ 2 * w.length := by
  unfold pf
  by_cases h0 : w.length = 0
  · rw [h0]
    exact Nat.le_refl 0
  obtain ⟨j, hj1, hj2, hj3⟩ := last_pal w w.length (by omega)
  obtain ⟨x, hx⟩ : ∃ x, w[j]? = some x := ⟨w[j], List.getElem?_eq_getElem hj1⟩
  have e1 : pfN w w.length = pfN w j ++ [x] := by
    obtain ⟨d, hd⟩ : ∃ d, w.length = j + 1 + d := ⟨w.length - (j + 1), by omega⟩
    rw [hd, pfN_gap w (j + 1) d fun k a b => hj3 k (by omega) (by omega), pfN_at w hj2 hx]
  have h1 := noted_le w j j (Nat.le_refl _) (by omega) hj2 0 (Nat.zero_le _) rfl
  have b0 : (bld (pfN w 0)).length = 0 := rfl
  have h2 := len_step_le (pfN w j) x
  rw [e1]
  omega
end Pal

/-! Two rules of our own: a text read from its end, and a walk over the numbered signs of a text. -/
namespace L2
open PySem PySem.Spec PyProof.Rows

/-- the text of a list of codes -/
def tx (l : List Nat) : Str := ⟨l.toArray⟩
theorem tx_list (l : List Nat) : (tx l).cps.toList = l := rfl
theorem tx_len (l : List Nat) : (tx l).length = l.length := rfl
theorem tx_inj {a b : List Nat} (h : tx a = tx b) : a = b := congrArg (fun z : Str => z.cps.toList) h
theorem tx_app (a b : List Nat) : tx a ++ tx b = tx (a ++ b) := by
  show Str.mk (a.toArray ++ b.toArray) = Str.mk (a ++ b).toArray
  rw [List.append_toArray]

/-! ### a text from its end -/
theorem picked_back (l : List Nat) : ((Builtin.Str.strSliceIndices none none (-1) l.length).filterMap (l.toArray[·]?)) = l.reverse := by
  rw [picked_rev, filterMap_get]
  · rw [List.map_map]
    refine List.ext_getElem (by simp) fun i h1 h2 => ?_
    have hi : i < l.length := by simpa using h1
    simp [Array.getD, List.getElem_reverse, show l.length - 1 - i < l.length by omega]
  · intro i hi
    obtain ⟨k, hk, rfl⟩ := List.mem_map.mp hi
    have hk' : k < l.length := List.mem_range.mp hk
    show l.length - 1 - k < l.length
    omega
theorem made_back (l : List Nat) (t u : Tok) : sliceMade (tx l) t none none (some (-1, u)) = Made.str (tx l.reverse) := by
  unfold sliceMade slicePicked
  rw [show (((some ((-1 : Int), u)).map (·.1)).getD 1 == 1) = false from rfl, Bool.false_and, if_neg Bool.false_ne_true]
  exact congrArg (fun z : List Nat => Made.str ⟨z.toArray⟩) (picked_back l)
def tRevS (te : TE) : TE := fun σ H Q => te σ H fun x H1 => ∃ l : List Nat, x = .str (tx l) ∧ l.length ≤ sizeLine ∧ Q (.str (tx l.reverse)) H1
theorem pe_revS {X : Cx} {e : Expr} {te : TE} {k : Nat} {p1 p2 p3 pos : Pos} (he : PE X e te) : PE X (.Subscript e (.Slice none none (some (.UnaryOp .USub (.Constant (.int 1) k p1) p2)) p3) pos) (tRevS te) := by
  have back : PO X (some (.UnaryOp .USub (.Constant (.int 1) k p1) p2)) _ := po_some (pe_un un_neg pe_int)
  refine ⟨fun pins s σ H Q I h => Subscript_ (thn (he.run pins s σ H _ I h) fun v s1 hv => wpAny_Slice ?_)⟩
  obtain ⟨x, H1, I1, rx, l, rfl, hl, q⟩ := hv
  obtain ⟨t, rfl⟩ := rx
  rw [evalPart_none]
  refine wpAny_pure (wpAny_pure (thn (back.run pins s1 σ H1 (fun o H2 => o = some (-1) ∧ H2 = H1) I1 ⟨1, rfl, -1, rfl, rfl, rfl⟩) fun vs s2 hs => ?_))
  obtain ⟨o, H2, I2, hp, rfl, rfl⟩ := hs
  obtain ⟨y, rfl, ey⟩ := IsPart.raw hp
  obtain ⟨u, rfl⟩ : ∃ u, y = some (-1, u) := by
    rcases y with _ | ⟨n, u⟩
    · exact nomatch ey
    · exact ⟨u, congrArg (fun m : Int => some (m, u)) (Option.some.inj ey)⟩
  have hg := Heap.get?_push_size s2.heap (o := { cls := .type "slice", data := .fields #[.none, .none, partValue (some (-1, u))] }) rfl
  have I3 : Inv X pins σ H2 { s2 with heap := s2.heap.push { cls := .type "slice", data := .fields #[.none, .none, partValue (some (-1, u))] } } := I2.kept (t' := s2.toks) fun _ _ z => Heap.get?_push_of_some _ z
  refine tail_any (s := { s2 with heap := s2.heap.push { cls := .type "slice", data := .fields #[.none, .none, partValue (some (-1, u))] } }) (ops := [.ref s2.heap.objs.size, .str (tx l) t]) (typeIs_str _ _ _) F.slot_str_getitem.lookup ?_ (by with_unfolding_all rfl)
  refine wpAny_getItem_str_slice (l := none) (u := none) (st := some (-1, u)) ⟨_, hg, rfl, rfl⟩ rfl ?_
  rw [made_back]
  exact ⟨by rw [tx_len, List.length_reverse]; exact hl, .str (tx l.reverse), H2, I3.tok _, ⟨_, rfl⟩, q⟩

/-! ### the numbered signs of a text -/
def Ites (z : Str) : It where
  go i _ := i < z.cps.size
  yld i H v H' := ∃ T c, v = .ref T ∧ H T = none ∧ H' = upd H T (.tup [.int (i : Nat), .str ⟨#[c]⟩]) ∧ z.cps[i]? = some c
  stop i _ := z.cps.size = i
/-- the counter e over the signs' iterator it, ahead of the turn i -/
def EnAt (z : Str) (t : Tok) (e it : Addr) (i : Nat) (h : Heap) : Prop := (∃ old, IsEnum h e it (i : Int) old) ∧ h.IsStrIter it (strIterType z) z t i
theorem en_draws {P : Program} {w : World} {A : Around} (hA : A.handled = none) (z : Str) (t : Tok) (it : Addr) : Draws P w A.in1 it [it] z.cps.size (fun i v => ∃ c u, z.cps[i]? = some c ∧ v = .str ⟨#[c]⟩ u) (fun i h => h.IsStrIter it (strIterType z) z t i) :=
  Draws.text (A := A.in1) hA it z t
theorem turn_enumS {P : Program} {w : World} {K : PySem.W.Frag} {elts : List Expr} {kk : Nat} {tpos : Pos} (z : Str) (t : Tok) {e it : Addr} (hne : e ≠ it) : Turn P w K (.Tuple elts kk tpos) (Ites z) [e, it] e (EnAt z t e it) := by
  have hnm : e ∉ [it] := by simpa using hne
  refine ⟨List.mem_cons_self .., fun i h st b hb => ?_, fun i h h' st k => ?_, ?_, ?_, fun A i s Q E st h => ?_⟩
  · obtain ⟨⟨old, he⟩, o, ho, _, hd⟩ := st
    rcases List.mem_cons.mp hb with rfl | hb
    · exact ⟨_, he, fun v q => nomatch q⟩
    · rw [List.mem_singleton.mp hb]
      exact ⟨o, ho, fun v q => by rw [hd] at q; exact nomatch q⟩
  · obtain ⟨⟨old, he⟩, o, ho, r⟩ := st
    exact ⟨⟨old, k e (by simp) _ he⟩, o, k it (by simp) o ho, r⟩
  · intro X hP hw hK hc i pins s σ H E I hf st hg
    subst hP hw hK
    have W := WalksT.enumerateD (en_draws (P := X.prog) (w := X.w) (I.ok.hd hc) z t it) e hne hnm (List.mem_singleton.mpr rfl)
    refine W.item i s _ E hg st fun T vals h1 tk hv hT ht hm k1 => ⟨.ref T, rfl, W.go elts kk tpos i T _ _ E hm fun h2 st2 k2 => ?_⟩
    obtain ⟨tk', x, ⟨c, u, hc', rfl⟩, rfl⟩ := hv
    obtain ⟨ot, g1, g2, g3⟩ := ht
    have fresh : ∀ b ∈ [e, it], b ≠ T := fun b hb q => W.apart i T h1 hm (q ▸ hb)
    have new : ObjOk X.prog X.w (upd H T (.tup [.int (i : Nat), .str ⟨#[c]⟩])) h2 T (.tup [.int (i : Nat), .str ⟨#[c]⟩]) :=
      ⟨by show 2 ≤ sizeLine; decide, [.int i tk', .str ⟨#[c]⟩ u], .cons ⟨_, rfl⟩ (.cons ⟨_, rfl⟩ .nil), ot, k2 T ot (W.apart i T h1 hm) g1, g2, g3⟩
    exact ⟨.ref T, _, I.turnedNew (t' := tk) (fun b o hb q => k2 b o hb (k1 b o hb q)) hf hT new, rfl, ⟨T, c, rfl, I.hok.fresh hT, rfl, hc'⟩, st2, fun b hb => by rw [upd_ne (fresh b hb)]; exact (hf b hb).1⟩
  · intro X hP hw hK hc i pins s σ H E I hf st hg
    subst hP hw hK
    obtain ⟨⟨old, he⟩, hit⟩ := st
    have hn : z.cps.size = i := hg
    obtain ⟨f0, f1, _, f3, f4, f5⟩ := hf it (by simp)
    exact wpAny_pyNext_enum_endD (en_draws (I.ok.hd hc) z t it) he (hn ▸ hit) fun h' eb => ⟨rfl, I.turned (t' := s.toks) (fun b o hb q => eb b o hb q) f0 f1 f3 f4 f5⟩
  · obtain ⟨⟨old, he⟩, _⟩ := st
    exact wpAny_pyIter_enum he h
def iEnumS (ta : TA) : TI := fun σ H R => ta σ H fun vs H1 => ∃ z, vs = [.str z] ∧ R (Ites z) H1
theorem pi_enumS {X : Cx} {e : Expr} {ta : TA} {p pos tpos : Pos} {elts : List Expr} {kk : Nat} (hg : Gl X "enumerate") (hm : X.mg "enumerate" = none) (ha : PA X [e] ta) (hs : starEach [e] X.env = [(false, eval e X.env)] := by rfl) :
    PI X (.Tuple elts kk tpos) (.Call (.Name "enumerate" p) [e] [] pos) (iEnumS ta) := by
  refine ⟨fun pins s σ H R I h => Call_ (ld_blt I hg hm boot_enumerate (PyProof.Rows.callWith_type1 (thn (ha.run pos pins s σ H _ I h) fun us s1 hu => ?_) hs rfl))⟩
  obtain ⟨vs, H1, I1, rv, z, rfl, q⟩ := hu
  obtain ⟨u, rfl, t, rfl⟩ := vals1 rv
  refine call_enumerate_str fun h' he hit hsz hk => wpAny_pyIter_enum he ?_
  have ok : ∀ b ∈ [s1.heap.objs.size + 1, s1.heap.objs.size], FpOk X pins H1 b := fun b hb => by
    have hle : s1.heap.objs.size ≤ b := by
      rcases List.mem_cons.mp hb with rfl | hb
      · exact Nat.le_succ _
      · rw [List.mem_singleton.mp hb]
        exact Nat.le_refl _
    exact I1.fpOk hle (I1.hok.fresh hle)
  exact ⟨s1.heap.objs.size + 1, _, _, _, H1, rfl, I1.kept (t' := s1.toks) hk, turn_enumS z t (Nat.succ_ne_self _), ⟨⟨.none, he⟩, hit⟩, ok, q⟩
end L2

namespace Pb
open PySem PySem.Spec PyProof.Rows L2 Pal
/-! ### the text -/
def topS (i : Nat) : Stmt := PySem.Challenge.pw_palbuilds_k03_whole_plans_read_back.main.body.getD i (.Pass ⟨0, 0, 0, 0⟩)
abbrev sFw : Stmt := topS 6
abbrev sNw : Stmt := topS 7
abbrev sMir : Stmt := topS 8
abbrev sLen : Stmt := topS 10
abbrev sBo : Stmt := topS 11
abbrev sPf : Stmt := topS 12
abbrev sPo : Stmt := topS 13
abbrev sTk : Stmt := topS 15
abbrev sPk : Stmt := topS 16
abbrev sAl : Stmt := topS 17
abbrev sPl : Stmt := topS 18
abbrev sWo : Stmt := topS 19
abbrev sCl : Stmt := topS 20
abbrev sBu : Stmt := topS 21
abbrev sLaw : Stmt := topS 22
theorem scFw : FnScope ["value", "place", "sign"] ["value"] (defScope sFw) := ⟨rfl, rfl, rfl, by decide +kernel, rfl, by decide +kernel, by decide +kernel⟩
theorem scNw : FnScope ["value"] ["value"] (defScope sNw) := ⟨rfl, rfl, rfl, by decide +kernel, rfl, by decide +kernel, by decide +kernel⟩
theorem scMir : FnScope ["word"] ["word"] (defScope sMir) := ⟨rfl, rfl, rfl, by decide +kernel, rfl, by decide +kernel, by decide +kernel⟩
theorem scLen : FnScope ["plan", "found", "last", "place", "letter", "now"] ["plan"] (defScope sLen) := ⟨rfl, rfl, rfl, by decide +kernel, rfl, by decide +kernel, by decide +kernel⟩
theorem scBo : FnScope ["plan", "sizes", "word", "place", "letter", "grown"] ["plan"] (defScope sBo) := ⟨rfl, rfl, rfl, by decide +kernel, rfl, by decide +kernel, by decide +kernel⟩
theorem scPf : FnScope ["word", "found", "size"] ["word"] (defScope sPf) := ⟨rfl, rfl, rfl, by decide +kernel, rfl, by decide +kernel, by decide +kernel⟩
theorem scPo : FnScope ["word", "plan"] ["word"] (defScope sPo) := ⟨rfl, rfl, rfl, by decide +kernel, rfl, by decide +kernel, by decide +kernel⟩
theorem scTk : FnScope ["_law_row", "_law_many", "_law_found", "_law_cell"] ["_law_row", "_law_many"] (defScope sTk) := ⟨rfl, rfl, rfl, by decide +kernel, rfl, by decide +kernel, by decide +kernel⟩
theorem scPk : FnScope ["_law_row", "_law_things"] ["_law_row", "_law_things"] (defScope sPk) := ⟨rfl, rfl, rfl, by decide +kernel, rfl, by decide +kernel, by decide +kernel⟩
theorem scAl : FnScope ["_law_found", "_law_due"] ["_law_found", "_law_due"] (defScope sAl) := ⟨rfl, rfl, rfl, by decide +kernel, rfl, by decide +kernel, by decide +kernel⟩
theorem scPl : FnScope ["_law_row", "_law_most", "_law_many", "_law_found", "_law_last", "_law_turn"] ["_law_row", "_law_most", "_law_many"] (defScope sPl) := ⟨rfl, rfl, rfl, by decide +kernel, rfl, by decide +kernel, by decide +kernel⟩
theorem scWo : FnScope ["_law_row", "_law_most", "_law_many", "_law_turn"] ["_law_row", "_law_most", "_law_many"] (defScope sWo) := ⟨rfl, rfl, rfl, by decide +kernel, rfl, by decide +kernel, by decide +kernel⟩
theorem scCl : FnScope ["_law_word", "_law_rest", "_law_whole"] ["_law_word"] (defScope sCl) := ⟨rfl, rfl, rfl, by decide +kernel, rfl, by decide +kernel, by decide +kernel⟩
theorem scBu : FnScope ["_law_plan_here", "_law_found", "_law_letter"] ["_law_plan_here"] (defScope sBu) := ⟨rfl, rfl, rfl, by decide +kernel, rfl, by decide +kernel, by decide +kernel⟩
theorem scLaw : FnScope ["_law_script", "_law_row", "_law_way", "_law_word", "_law_half", "_law_at", "_law_plan_here", "_law_size"] ["_law_script"] (defScope sLaw) := ⟨rfl, rfl, rfl, by decide +kernel, rfl, by decide +kernel, by decide +kernel⟩
/-! ### what the top has left of names -/
structure Tp (mg : Str → Option Value) : Prop where
  gL : ∃ t, mg "LETTERS" = some (.str (Str.ofString "abcde") t)
  gM : ∃ t, mg "MOST_WORD" = some (.int 2000 t)
  enumerate : mg "enumerate" = none
  isinstance : mg "isinstance" = none
  str : mg "str" = none
  len : mg "len" = none
  range : mg "range" = none
  int : mg "int" = none
  tuple : mg "tuple" = none
  list : mg "list" = none
/-! ### heaps, loops -/
theorem same_upd {H : Hp} {p : Addr} {o : HO} (h : H p = none) : Same H (upd H p o) := fun b x e => by
  rw [upd_ne (ne_of_none e h)]
  exact e
/-- a new pair of the number and the sign -/
def YEn (l : List Nat) : Nat → Hp → V → Hp → Prop := fun i H v H' => ∃ T c, v = .ref T ∧ H T = none ∧ H' = upd H T (.tup [.int (i : Nat), .str (tx [c])]) ∧ l[i]? = some c
theorem walk_enumS (l : List Nat) : Walk (Ites (tx l)) l.length (fun _ => True) (YEn l) :=
  ⟨fun _ _ hi _ => hi, fun _ _ => rfl, fun i H v H' _ _ y => by
    obtain ⟨T, c, h1, h2, h3, h4⟩ := y
    exact ⟨T, c, h1, h2, h3, by rw [← h4]; exact (List.getElem?_toArray ..).symm⟩⟩
def YSg (l : List Nat) : Nat → Hp → V → Hp → Prop := fun i H v H' => H' = H ∧ ∃ c, l[i]? = some c ∧ v = .str (tx [c])
theorem walk_sign (l : List Nat) : Walk (Its (tx l)) l.length (fun _ => True) (YSg l) :=
  ⟨fun _ _ hi _ => hi, fun _ _ => Nat.le_refl _, fun i H v H' _ _ y => by
    obtain ⟨h1, c, h2, h3⟩ := y
    exact ⟨h1, c, by rw [← h2]; exact (List.getElem?_toArray ..).symm, h3⟩⟩
/-- all letters -/
def okW (w : List Nat) : Prop := ∀ c ∈ w, 97 ≤ c ∧ c < 102
theorem letters_list : (Str.ofString "abcde").cps.toList = [97, 98, 99, 100, 101] := by decide +kernel
theorem line_le {n : Nat} (h : n ≤ 1000000) : n ≤ sizeLine := Nat.le_trans h (by decide)
section
variable {P : Program} {w : World} {K : PySem.W.Frag} {mg : Str → Option Value} {base : Heap}
/-! ### first_wrong, of a word -/
def spFw : Sp := fun vs H Q _ => ∃ l, vs = [.str (tx l)] ∧ okW l ∧ ∀ H', Same H H' → Q .non H'
theorem ok_fw {f : Addr} {fd : FuncData} {k : Nat} (F : Fun K "first_wrong" "first_wrong" sFw f fd) (T : Tp mg) : FnOk P w K mg base CX0 (k + 1) f fd ["value"] spFw := by
  refine F.ok scFw (fun vs H Q E h => ?_) (fun cdv A outer s H vs Q E hr h => ?_)
  · obtain ⟨l, rfl, _⟩ := h
    rfl
  · obtain ⟨l, rfl, hl, q⟩ := h
    obtain ⟨tL, gL⟩ := T.gL
    refine ⟨_, pss_cons (ps_for PassesOwn.never rfl (pi_enumS (by rfl) T.enumerate (pa_cons (pv 0) pa_nil))
          (pg_tup rfl (pgs_cons (pg_name (i := 1) scFw.nd rfl (.inl rfl)) (pgs_cons (pg_name (i := 2) scFw.nd rfl (.inl rfl)) pgs_nil)))
        (pss_one (ps_if (pt_cmpR op_notIn_sign (pv 2) (pe_glob (v := .str (Str.ofString "abcde")) rfl gL ⟨_, rfl⟩) (by rfl)) (pss_one (ps_ret (pv 1))) pss_nil)))
      (pss_one (ps_ret pe_non)), ?_⟩
    refine ⟨.str (tx l), rfl, tx l, rfl, ?_⟩
    refine for_it (walk_enumS l) (fun i σ H' => ∃ y1 y2, σ = [some (.str (tx l)), y1, y2] ∧ Same H H') ⟨none, none, rfl, Same.refl H⟩ (fun _ _ _ _ _ => trivial) (fun i x σ H1 H' hi hP hY => ?_) (fun σ H' hP => ?_)
    · obtain ⟨y1, y2, rfl, sm⟩ := hP
      obtain ⟨T', c, rfl, nT, rfl, hc⟩ := hY
      refine ⟨T', [.int (i : Nat), .str (tx [c])], rfl, .inl (.inl upd_same), rfl, .int (i : Nat), [.str (tx [c])], rfl, .str (tx [c]), [], rfl, rfl, ?_⟩
      refine ⟨_, rfl, c, _, rfl, rfl, _, rfl, ?_⟩
      have hm : c ∈ (Str.ofString "abcde").cps.toList := by
        rw [letters_list]
        obtain ⟨a1, a2⟩ := hl c (List.mem_of_getElem? hc)
        have : c = 97 ∨ c = 98 ∨ c = 99 ∨ c = 100 ∨ c = 101 := by omega
        rcases this with e | e | e | e | e <;> subst e <;> decide
      refine iteNS hm ?_
      exact ⟨_, _, rfl, sm.trans (same_upd nT)⟩
    · obtain ⟨y1, y2, rfl, sm⟩ := hP
      exact q H' sm
/-! ### is_mirror_of -/
def spMir : Sp := fun vs H Q _ => ∃ l, vs = [.str (tx l)] ∧ l.length ≤ sizeLine ∧ Q (.bl (decide (pal l))) H
theorem mir_dec (l : List Nat) : decide (V.str (tx l) = V.str (tx l.reverse)) = decide (pal l) := by
  refine decide_eq_decide.mpr ⟨fun h => ?_, fun h => ?_⟩
  · have e := V.str.inj h
    exact (tx_inj e).symm
  · rw [show l.reverse = l from h]
theorem ok_mir {f : Addr} {fd : FuncData} {k : Nat} (F : Fun K "is_mirror_of" "is_mirror_of" sMir f fd) : FnOk P w K mg base CX0 (k + 1) f fd ["word"] spMir := by
  refine F.ok scMir (fun vs H Q E h => ?_) (fun cdv A outer s H vs Q E hr h => ?_)
  · obtain ⟨l, rfl, _⟩ := h
    rfl
  · obtain ⟨l, rfl, hl, q⟩ := h
    refine ⟨_, pss_one (ps_ret (pe_cmpR op_eq (pv 0) (pe_revS (pv 0)) (nomark _))), ?_⟩
    refine ⟨_, rfl, _, rfl, l, rfl, hl, rfl, ?_⟩
    rw [mir_dec]
    exact q
end
end Pb

namespace Pb
open PySem PySem.Spec PyProof.Rows L2 Pal
/-! ### where a letter stood last -/
def lastAt (p : List Nat) : Nat → Nat → Option Nat
  | 0, _ => none
  | i + 1, c => if p[i]? = some c then some i else lastAt p i c
theorem lastAt_some (p : List Nat) (c : Nat) : ∀ i j, lastAt p i c = some j → j < i ∧ p[j]? = some c ∧ ∀ k, j < k → k < i → p[k]? ≠ some c
  | 0, j, h => by cases h
  | i + 1, j, h => by
    unfold lastAt at h
    by_cases e : p[i]? = some c
    · rw [if_pos e] at h
      cases h
      exact ⟨Nat.lt_succ_self _, e, fun k h1 h2 => absurd h2 (by omega)⟩
    · rw [if_neg e] at h
      obtain ⟨a, b, d⟩ := lastAt_some p c i j h
      refine ⟨by omega, b, fun k h1 h2 => ?_⟩
      by_cases hk : k = i
      · rw [hk]; exact e
      · exact d k h1 (by omega)
theorem lastAt_none (p : List Nat) (c : Nat) : ∀ i, lastAt p i c = none → ∀ k, k < i → p[k]? ≠ some c
  | 0, _, k, hk => absurd hk (Nat.not_lt_zero _)
  | i + 1, h, k, hk => by
    unfold lastAt at h
    by_cases e : p[i]? = some c
    · rw [if_pos e] at h; cases h
    · rw [if_neg e] at h
      by_cases hk' : k = i
      · rw [hk']; exact e
      · exact lastAt_none p c i h k (by omega)
def bl (p : List Nat) (i : Nat) : Nat := (bld (p.take i)).length
theorem bl_old {p : List Nat} {i j c : Nat} (h : lastAt p i c = some j) (e : p[i]? = some c) : bl p (i + 1) + bl p j = 2 * bl p i := by
  obtain ⟨hj, ej, hb⟩ := lastAt_some p c i j h
  have hlen : i < p.length := (List.getElem?_eq_some_iff.mp e).1
  have e1 : p.take (i + 1) = p.take i ++ [c] := take_snoc p e
  have e2 : p.take i = p.take j ++ c :: (p.take i).drop (j + 1) := by
    have h1 : p.take j = (p.take i).take j := by rw [List.take_take, Nat.min_eq_left (by omega)]
    have h2 : (p.take i)[j]? = some c := by rw [List.getElem?_take, if_pos hj]; exact ej
    have h3 : (p.take i).take (j + 1) = p.take j ++ [c] := by rw [List.take_add_one, h2, ← h1]; rfl
    have h4 := List.take_append_drop (j + 1) (p.take i)
    rw [h3, List.append_assoc] at h4
    exact h4.symm
  have hn : c ∉ (p.take i).drop (j + 1) := by
    intro hm
    obtain ⟨k, hk⟩ := List.mem_iff_getElem?.mp hm
    rw [List.getElem?_drop] at hk
    have hlt : j + 1 + k < i := by
      obtain ⟨z, _⟩ := List.getElem?_eq_some_iff.mp hk
      rw [List.length_take] at z
      omega
    rw [List.getElem?_take, if_pos hlt] at hk
    exact hb (j + 1 + k) (by omega) hlt hk
  unfold bl
  rw [e1]
  have f := len_old (p.take j) ((p.take i).drop (j + 1)) c hn
  rw [← e2] at f
  exact f
theorem bl_new {p : List Nat} {i c : Nat} (h : lastAt p i c = none) (e : p[i]? = some c) : bl p (i + 1) = 2 * bl p i + 1 := by
  have e1 : p.take (i + 1) = p.take i ++ [c] := take_snoc p e
  have hn : c ∉ p.take i := by
    intro hm
    obtain ⟨k, hk⟩ := List.mem_iff_getElem?.mp hm
    have hlt : k < i := by
      obtain ⟨z, _⟩ := List.getElem?_eq_some_iff.mp hk
      rw [List.length_take] at z
      omega
    rw [List.getElem?_take, if_pos hlt] at hk
    exact lastAt_none p c i h k hlt hk
  unfold bl
  rw [e1]
  exact len_new (p.take i) c hn
def lens (p : List Nat) (i : Nat) : List V := (List.range (i + 1)).map fun j => V.int (bl p j : Nat)
theorem lens_len (p : List Nat) (i : Nat) : (lens p i).length = i + 1 := by
  unfold lens
  rw [List.length_map, List.length_range]
theorem lens_snoc (p : List Nat) (i : Nat) : lens p (i + 1) = lens p i ++ [V.int (bl p (i + 1) : Nat)] := by
  unfold lens
  rw [List.range_succ, List.map_append]
  rfl
theorem lens_last (p : List Nat) (i : Nat) : atI (lens p i) (-1) = some (V.int (bl p i : Nat)) := by
  cases i with
  | zero => exact atI_last [] _
  | succ i =>
    rw [lens_snoc]
    exact atI_last _ _
theorem lens_get {p : List Nat} {i j : Nat} (h : j ≤ i) : (lens p i)[j]? = some (V.int (bl p j : Nat)) := by
  unfold lens
  rw [List.getElem?_map, List.getElem?_range (by omega)]
  rfl
section
variable {P : Program} {w : World} {K : PySem.W.Frag} {mg : Str → Option Value} {base : Heap}
/-! ### need_word, of a word -/
def spNw : Sp := fun vs H Q _ => ∃ l, vs = [.str (tx l)] ∧ okW l ∧ l.length ≤ 2000 ∧ ∀ H', Same H H' → Q .non H'
theorem ok_nw {f fF : Addr} {fd fdF : FuncData} {k : Nat} (F : Fun K "need_word" "need_word" sNw f fd) (T : Tp mg) (G : FnOk P w K mg base CX0 k fF fdF ["value"] spFw) (gF : mg "first_wrong" = some (.ref fF)) (kF : PySem.W.keepIn K (.ref fF) = true) (bF : Binds K fdF ["value"] []) :
    FnOk P w K mg base CX0 (k + 1) f fd ["value"] spNw := by
  refine F.ok scNw (fun vs H Q E h => ?_) (fun cdv A outer s H vs Q E hr h => ?_)
  · obtain ⟨l, rfl, _⟩ := h
    rfl
  · obtain ⟨l, rfl, hl, hn, q⟩ := h
    obtain ⟨tM, gM⟩ := T.gM
    refine ⟨_, pss_cons (ps_if (PW.pt (pw_or (pt_not (pt_val (pe_callB call_isi (by rfl) T.isinstance PyProof.Rows.boot_isinstance (pa_cons (pv 0) (pa_cons (pe_bltn (v := .ty "str") (by rfl) T.str PyProof.Rows.boot_str rfl) pa_nil)))))
          (pw_or1 (pt_cmpR op_gt (pe_callB call_len_str (by rfl) T.len PySem.boot_len (pa_cons (pv 0) pa_nil)) (pe_glob (v := .int 2000) rfl gM ⟨_, rfl⟩) (nomark _)))))
        (pss_one ps_never) pss_nil)
      (pss_one (ps_if (pt_cmpR op_notN (pe_call G hr (by rfl) gF kF bF .nil pass0 (pa_cons (pv 0) pa_nil)) pe_non (nomark _)) (pss_one ps_never) pss_nil)), ?_⟩
    refine ⟨.str (tx l), rfl, .str (tx l), .ty "str", _, _, true, rfl, .ty "str", .base (.str _), kit_ty (by decide +kernel), true, rfl, ?_⟩
    refine iteF ?_
    refine ⟨.str (tx l), rfl, tx l, rfl, line_le (Nat.le_trans hn (by decide)), _, _, rfl, rfl, _, rfl, ?_⟩
    have c : decide ((2000 : Int) < ((tx l).length : Nat)) = false := decide_eq_false (by rw [tx_len]; omega)
    rw [c]
    refine iteF ?_
    refine ⟨.str (tx l), rfl, l, rfl, hl, fun H' sm => ?_⟩
    refine ⟨rfl, _, rfl, iteF ?_⟩
    exact q H' sm
/-! ### lengths_of -/
def spLen : Sp := fun vs H Q _ => ∃ p, vs = [.str (tx p)] ∧ p.length ≤ 2000 ∧ ∀ H' o, Same H H' → H o = none → H' o = some (.lst (lens p p.length)) → Q (.ref o) H'
theorem ok_len {f : Addr} {fd : FuncData} {k : Nat} (F : Fun K "lengths_of" "lengths_of" sLen f fd) (T : Tp mg) : FnOk P w K mg base CX0 (k + 1) f fd ["plan"] spLen := by
  refine F.ok scLen (fun vs H Q E h => ?_) (fun cdv A outer s H vs Q E hr h => ?_)
  · obtain ⟨l, rfl, _⟩ := h
    rfl
  · obtain ⟨p, rfl, hp, q⟩ := h
    have hu := hu_of hr
    refine ⟨_, pss_cons (ps_par (i := 1) (j := 2) (by rfl) scLen.nd rfl rfl (by decide) rfl rfl (pa_cons (pe_lst (pa_cons pe_int pa_nil)) (pa_cons pe_dnewK pa_nil)) (by rfl))
      (pss_cons (ps_for PassesOwn.never rfl (pi_enumS (by rfl) T.enumerate (pa_cons (pv 0) pa_nil))
          (pg_tup rfl (pgs_cons (pg_name (i := 3) scLen.nd rfl (.inl rfl)) (pgs_cons (pg_name (i := 4) scLen.nd rfl (.inl rfl)) pgs_nil)))
        (pss_cons (ps_set (i := 5) scLen.nd rfl (.inl rfl) (pe_ix ix_list (pv 1) (pe_un un_neg pe_int) (fun _ _ => rfl)))
        (pss_cons (ps_expr (pe_bm PySem.F.plainAttrs_list PySem.F.slot_list_append PySem.F.type_list_append mt_append (pv 1) (pa_cons
          (pe_ifExp (pt_cmp (pc_din hu (pv 4) (pv 2)) rfl)
            (pe_op op_sub (pe_op op_mul pe_int (pv 5)) (pe_ix ix_list (pv 1) (pe_dget hu (pv 2) (pv 4) (fun _ _ => rfl)) (fun _ _ => rfl)))
            (pe_op op_add (pe_op op_mul pe_int (pv 5)) pe_int)) pa_nil)))
        (pss_one (ps_dput hu (pv 2) (pv 4) (pv 3) rfl)))))
      (pss_one (ps_ret (pv 1)))), ?_⟩
    refine ⟨by show 1 ≤ sizeLine; decide, fun o no d nd => ⟨_, _, rfl, ?_⟩⟩
    have ndo : d ≠ o := fun e => by
      rw [e, upd_same] at nd
      cases nd
    have nd' : H d = none := by rw [upd_ne ndo] at nd; exact nd
    refine ⟨.str (tx p), rfl, tx p, rfl, ?_⟩
    refine for_it (walk_enumS p) (fun i σ H' => ∃ y3 y4 y5 kvs, σ = [some (.str (tx p)), some (.ref o), some (.ref d), y3, y4, y5] ∧ Same H H' ∧ H' o = some (.lst (lens p i)) ∧ H' d = some (.dK kvs) ∧ kvs.length ≤ i ∧
        ∀ c, valV kvs (.inr (tx [c])) = (lastAt p i c).map fun j => V.int (j : Nat)) ⟨none, none, none, [], rfl, (same_upd no).trans (same_upd nd), ?_, upd_same, Nat.le_refl _, fun c => rfl⟩ (fun _ _ _ _ _ => trivial) (fun i x σ H1 H' hi hP hY => ?_) (fun σ H' hP => ?_)
    · rw [upd_ne ndo.symm, upd_same]
      rfl
    · obtain ⟨y3, y4, y5, kvs, rfl, sm, eo, ed, hk, hv⟩ := hP
      obtain ⟨T', c, rfl, nT, rfl, hc⟩ := hY
      have smT := same_upd (o := .tup [.int (i : Nat), .str (tx [c])]) nT
      have eo' := smT _ _ eo
      have ed' := smT _ _ ed
      refine ⟨T', [.int (i : Nat), .str (tx [c])], rfl, .inl (.inl upd_same), rfl, .int (i : Nat), [.str (tx [c])], rfl, .str (tx [c]), [], rfl, rfl, ?_⟩
      -- now = found[-1]
      refine ⟨.ref o, rfl, 1, rfl, o, _, -1, _, rfl, rfl, .inl (.inl eo'), lens_last p i, ?_⟩
      have hH : ∀ v, (.lst (lens p i) : HO) ≠ .dK v := fun v z => by cases z
      have hod : o ≠ d := ndo.symm
      have hlen : i < p.length := hi
      have hsz : (lens p i).length < sizeLine := by
        rw [lens_len]
        exact Nat.lt_of_le_of_lt (show i + 1 ≤ 2000 by omega) (by decide)
      -- found.append(..)
      refine ⟨.ref o, rfl, .inl ⟨rfl, _, .inl (.inl eo')⟩, ?_⟩
      refine ⟨.str (tx [c]), rfl, .ref d, rfl, d, _, rfl, DGet.k (k := Sum.inr (tx [c])) ed', _, rfl, ?_⟩
      -- the rest of the turn
      have inv : ∃ y3 y4 y5 kvs', [some (V.str (tx p)), some (V.ref o), some (V.ref d), some (V.int (i : Nat)), some (V.str (tx [c])), some (V.int (bl p i : Nat))] = [some (V.str (tx p)), some (V.ref o), some (V.ref d), y3, y4, y5] ∧
          Same H (upd (upd (upd H1 T' (.tup [.int (i : Nat), .str (tx [c])])) o (.lst (lens p i ++ [V.int (bl p (i + 1) : Nat)]))) d (.dK (putK kvs (Sum.inr (tx [c])) (V.int (i : Nat))))) ∧
          (upd (upd (upd H1 T' (.tup [.int (i : Nat), .str (tx [c])])) o (.lst (lens p i ++ [V.int (bl p (i + 1) : Nat)]))) d (.dK (putK kvs (Sum.inr (tx [c])) (V.int (i : Nat))))) o = some (.lst (lens p (i + 1))) ∧
          (upd (upd (upd H1 T' (.tup [.int (i : Nat), .str (tx [c])])) o (.lst (lens p i ++ [V.int (bl p (i + 1) : Nat)]))) d (.dK (putK kvs (Sum.inr (tx [c])) (V.int (i : Nat))))) d = some (.dK kvs') ∧ kvs'.length ≤ i + 1 ∧
          ∀ c, valV kvs' (.inr (tx [c])) = (lastAt p (i + 1) c).map fun j => V.int (j : Nat) := by
        refine ⟨_, _, _, putK kvs (Sum.inr (tx [c])) (V.int (i : Nat)), rfl, fun b z e => ?_, ?_, upd_same, ?_, fun c' => ?_⟩
        · rw [upd_ne (ne_of_none e nd'), upd_ne (ne_of_none e no)]
          exact smT _ _ (sm _ _ e)
        · rw [upd_ne hod, upd_same, lens_snoc]
        · unfold putK
          split
          · rw [List.length_map]; omega
          · rw [List.length_append]
            show kvs.length + 1 ≤ i + 1
            omega
        · rw [valV_put]
          unfold lastAt
          by_cases e : p[i]? = some c'
          · have ec : c' = c := Option.some.inj (e.symm.trans hc)
            subst ec
            rw [if_pos rfl, if_pos e]
            rfl
          · have nc : ¬ (Sum.inr (tx [c']) : Key) = Sum.inr (tx [c]) := fun z => e (by
              have h1 := tx_inj (Sum.inr.inj z)
              rw [(List.cons.inj h1).1]
              exact hc)
            rw [if_neg nc, if_neg e]
            exact hv c'
      have hkl : kvs.length < sizeLine := Nat.lt_of_le_of_lt (show kvs.length ≤ 2000 by omega) (by decide)
      have ed2 : (upd (upd H1 T' (.tup [.int (i : Nat), .str (tx [c])])) o (.lst (lens p i ++ [V.int (bl p (i + 1) : Nat)]))) d = some (.dK kvs) := by
        rw [upd_ne ndo]
        exact ed'
      cases hla : lastAt p i c with
      | none =>
        have hvn : valV kvs (Sum.inr (tx [c])) = none := by rw [hv, hla]; rfl
        rw [hvn]
        refine iteF ?_
        refine ⟨_, rfl, 2, _, rfl, rfl, .inl ⟨by decide, by decide⟩, _, _, rfl, rfl, ?_⟩
        have ev : (2 : Int) * (bl p i : Nat) + 1 = (bl p (i + 1) : Nat) := by
          have := bl_new hla hc
          omega
        refine ⟨o, _, V.int (bl p (i + 1) : Nat), rfl, congrArg (fun z => [V.int z]) ev, eo', hsz, ?_⟩
        exact ⟨_, rfl, .ref d, rfl, _, rfl, d, _, rfl, DPut.k (k := Sum.inr (tx [c])) ed2 hkl, inv⟩
      | some j =>
        have hvs : valV kvs (Sum.inr (tx [c])) = some (V.int (j : Nat)) := by rw [hv, hla]; rfl
        rw [hvs]
        obtain ⟨hj, _, _⟩ := lastAt_some p c i j hla
        refine iteT ?_
        refine ⟨_, rfl, 2, _, rfl, rfl, .inl ⟨by decide, by decide⟩, .ref o, rfl, .ref d, rfl, .str (tx [c]), rfl, d, V.int (j : Nat), rfl, hvs ▸ DGet.k (k := Sum.inr (tx [c])) ed', o, _, (j : Nat), _, rfl, rfl, .inl (.inl eo'), atI_nat (lens_get (Nat.le_of_lt hj)), _, _, rfl, rfl, ?_⟩
        have ev : (2 : Int) * (bl p i : Nat) - (bl p j : Nat) = (bl p (i + 1) : Nat) := by
          have := bl_old hla hc
          omega
        refine ⟨o, _, V.int (bl p (i + 1) : Nat), rfl, congrArg (fun z => [V.int z]) ev, eo', hsz, ?_⟩
        exact ⟨_, rfl, .ref d, rfl, _, rfl, d, _, rfl, DPut.k (k := Sum.inr (tx [c])) ed2 hkl, inv⟩
    · obtain ⟨y3, y4, y5, kvs, rfl, sm, eo, ed, hk, hv⟩ := hP
      exact ⟨.ref o, rfl, q H' o sm no eo⟩
end
end Pb

namespace Pb
open PySem PySem.Spec PyProof.Rows L2 Pal
theorem str_empty : Str.ofString "" = tx [] := by decide +kernel
theorem cut_head (l : List Nat) (n : Nat) : cutS (tx l) none (some (n : Int)) = tx (l.take n) := by
  unfold cutS
  rw [HT.sIx_none, HT.sIx_nat]
  show Str.mk ((l.drop 0).take (min n l.length - 0)).toArray = Str.mk (l.take n).toArray
  rw [List.drop_zero, Nat.sub_zero, ← List.take_eq_take_min]
theorem cut_tail (l : List Nat) (n : Nat) : cutS (tx l) (some (n : Int)) none = tx (l.drop n) := by
  unfold cutS
  rw [HT.sIx_none, HT.sIx_nat]
  show Str.mk ((l.drop (min n l.length)).take (l.length - min n l.length)).toArray = Str.mk (l.drop n).toArray
  have e : l.drop (min n l.length) = l.drop n := by
    by_cases h : n ≤ l.length
    · rw [Nat.min_eq_left h]
    · rw [Nat.min_eq_right (by omega), List.drop_length, List.drop_eq_nil_of_le (by omega)]
  rw [e, List.take_of_length_le]
  rw [List.length_drop]
  omega
theorem bl_mono {p : List Nat} {i j : Nat} (h : i ≤ j) : bl p i ≤ bl p j := by
  unfold bl
  have e : p.take i = (p.take j).take i := by rw [List.take_take, Nat.min_eq_left h]
  rw [e]
  have := bld_le ((p.take j).take i) ((p.take j).drop i)
  rw [List.take_append_drop] at this
  exact this
theorem bl_top {p : List Nat} (i : Nat) : bl p i ≤ (bld p).length := by
  unfold bl
  have := bld_le (p.take i) (p.drop i)
  rw [List.take_append_drop] at this
  exact this
theorem bld_turn {p : List Nat} {i c : Nat} (h : p[i]? = some c) : (bld (p.take i) ++ [c]).take (bl p (i + 1) - bl p i) ++ bld (p.take i) = bld (p.take (i + 1)) := by
  unfold bl
  rw [take_snoc p h]
  exact (bld_cut (p.take i) c).symm
section
variable {P : Program} {w : World} {K : PySem.W.Frag} {mg : Str → Option Value} {base : Heap}
/-! ### build_of -/
def spBo : Sp := fun vs H Q _ => ∃ p, vs = [.str (tx p)] ∧ p.length ≤ 2000 ∧ (bld p).length ≤ 100000 ∧ ∀ H', Same H H' → Q (.str (tx (bld p))) H'
theorem ok_bo {f fL : Addr} {fd fdL : FuncData} {k : Nat} (F : Fun K "build_of" "build_of" sBo f fd) (T : Tp mg) (G : FnOk P w K mg base CX0 k fL fdL ["plan"] spLen) (gL : mg "lengths_of" = some (.ref fL)) (kL : PySem.W.keepIn K (.ref fL) = true) (bL : Binds K fdL ["plan"] []) :
    FnOk P w K mg base CX0 (k + 1) f fd ["plan"] spBo := by
  refine F.ok scBo (fun vs H Q E h => ?_) (fun cdv A outer s H vs Q E hr h => ?_)
  · obtain ⟨l, rfl, _⟩ := h
    rfl
  · obtain ⟨p, rfl, hp, hb, q⟩ := h
    refine ⟨_, pss_cons (ps_par (i := 1) (j := 2) (by rfl) scBo.nd rfl rfl (by decide) rfl rfl (pa_cons (pe_call G hr (by rfl) gL kL bL .nil pass0 (pa_cons (pv 0) pa_nil)) (pa_cons pe_str pa_nil)) (by rfl))
      (pss_cons (ps_for PassesOwn.never rfl (pi_enumS (by rfl) T.enumerate (pa_cons (pv 0) pa_nil))
          (pg_tup rfl (pgs_cons (pg_name (i := 3) scBo.nd rfl (.inl rfl)) (pgs_cons (pg_name (i := 4) scBo.nd rfl (.inl rfl)) pgs_nil)))
        (pss_cons (ps_set (i := 5) scBo.nd rfl (.inl rfl) (pe_op op_sub (pe_ix ix_list (pv 1) (pe_op op_add (pv 3) pe_int) (fun _ _ => rfl)) (pe_ix ix_list (pv 1) (pv 3) (fun _ _ => rfl))))
        (pss_one (ps_set (i := 2) scBo.nd rfl (.inl rfl) (pe_op op_add_str (pe_slice sl_str (pe_op op_add_str (pv 2) (pv 4)) po_none (po_some (pv 5))) (pv 2))))))
      (pss_one (ps_ret (pv 2)))), ?_⟩
    refine ⟨.str (tx p), rfl, p, rfl, hp, fun H1 o sm no eo => ⟨_, _, rfl, ?_⟩⟩
    refine ⟨.str (tx p), rfl, tx p, rfl, ?_⟩
    refine for_it (walk_enumS p) (fun i σ H' => ∃ y3 y4 y5, σ = [some (.str (tx p)), some (.ref o), some (.str (tx (bld (p.take i)))), y3, y4, y5] ∧ Same H1 H') ⟨none, none, none, ?_, Same.refl _⟩ (fun _ _ _ _ _ => trivial) (fun i x σ H2 H' hi hP hY => ?_) (fun σ H' hP => ?_)
    · show [some (V.str (tx p)), some (V.ref o), some (V.str (Str.ofString "")), none, none, none] = _
      rw [str_empty]
      rfl
    · obtain ⟨y3, y4, y5, rfl, sm2⟩ := hP
      obtain ⟨T', c, rfl, nT, rfl, hc⟩ := hY
      have smT := same_upd (o := .tup [.int (i : Nat), .str (tx [c])]) nT
      have eo' := smT _ _ (sm2 _ _ eo)
      have hlen : i < p.length := hi
      refine ⟨T', [.int (i : Nat), .str (tx [c])], rfl, .inl (.inl upd_same), rfl, .int (i : Nat), [.str (tx [c])], rfl, .str (tx [c]), [], rfl, rfl, ?_⟩
      refine ⟨.ref o, rfl, .int (i : Nat), rfl, (i : Nat), 1, rfl, rfl, o, _, ((i + 1 : Nat) : Int), _, rfl, rfl, .inl (.inl eo'), atI_nat (lens_get (show i + 1 ≤ p.length from hlen)),
        .ref o, rfl, .int (i : Nat), rfl, o, _, (i : Nat), _, rfl, rfl, .inl (.inl eo'), atI_nat (lens_get (show i ≤ p.length by omega)), _, _, rfl, rfl, ?_⟩
      have hm : bl p i ≤ bl p (i + 1) := bl_mono (Nat.le_succ i)
      have ht := bl_top (p := p) (i + 1)
      have hl : (bld (p.take i)).length = bl p i := rfl
      have es : ((bl p (i + 1) : Nat) : Int) - (bl p i : Nat) = ((bl p (i + 1) - bl p i : Nat) : Int) := by omega
      have h1 : (bld (p.take i) ++ [c]).length = bl p i + 1 := by rw [List.length_append]; rfl
      refine ⟨.str (tx (bld (p.take i))), rfl, .str (tx [c]), rfl, tx (bld (p.take i)), tx [c], rfl, rfl, ?_, _, rfl, _, rfl, tx (bld (p.take i) ++ [c]), congrArg V.str (tx_app _ _), ?_, .str (tx (bld (p.take i))), rfl, cutS (tx (bld (p.take i) ++ [c])) none (some (((bl p (i + 1) : Nat) : Int) - (bl p i : Nat))), tx (bld (p.take i)), rfl, rfl, ?_, ?_⟩
      · rw [tx_len, tx_len]
        exact line_le (by show (bld (p.take i)).length + 1 ≤ 1000000; omega)
      · rw [tx_len, h1]
        exact line_le (by omega)
      · rw [es, cut_head, tx_len, tx_len, List.length_take, h1]
        exact line_le (by omega)
      · rw [es, cut_head, tx_app, bld_turn hc]
        exact ⟨_, _, _, rfl, sm2.trans smT⟩
    · obtain ⟨y3, y4, y5, rfl, sm2⟩ := hP
      rw [List.take_length]
      exact ⟨.str (tx (bld p)), rfl, q H' (sm.trans sm2)⟩
/-! ### plan_from -/
def spPf : Sp := fun vs H Q _ => ∃ l, vs = [.str (tx l)] ∧ l.length ≤ 2000 ∧ Q (.str (tx (pf l))) H
theorem ok_pf {f fM : Addr} {fd fdM : FuncData} {k : Nat} (F : Fun K "plan_from" "plan_from" sPf f fd) (T : Tp mg) (G : FnOk P w K mg base CX0 k fM fdM ["word"] spMir) (gM : mg "is_mirror_of" = some (.ref fM)) (kM : PySem.W.keepIn K (.ref fM) = true) (bM : Binds K fdM ["word"] []) :
    FnOk P w K mg base CX0 (k + 1) f fd ["word"] spPf := by
  refine F.ok scPf (fun vs H Q E h => ?_) (fun cdv A outer s H vs Q E hr h => ?_)
  · obtain ⟨l, rfl, _⟩ := h
    rfl
  · obtain ⟨l, rfl, hl, q⟩ := h
    have hll : l.length ≤ sizeLine := line_le (by omega)
    refine ⟨_, pss_cons (ps_set (i := 1) scPf.nd rfl (.inl rfl) pe_str)
      (pss_cons (ps_for PassesOwn.never rfl (pi_range1 rfl T.range (pa_cons (pe_callB call_len_str (by rfl) T.len PySem.boot_len (pa_cons (pv 0) pa_nil)) pa_nil)) (pg_name (i := 2) scPf.nd rfl (.inl rfl))
        (pss_one (ps_if (pt_val (pe_call G hr (by rfl) gM kM bM .nil pass0 (pa_cons (pe_slice sl_str (pv 0) po_none (po_some (pv 2))) pa_nil)))
          (pss_one (ps_set (i := 1) scPf.nd rfl (.inl rfl) (pe_op op_add_str (pv 1) (pe_ix ix_str (pv 0) (pv 2) (fun _ _ => rfl))))) pss_nil)))
      (pss_one (ps_ret (pv 1)))), ?_⟩
    have hz : (tx l).length = l.length := tx_len l
    refine ⟨.str (tx l), rfl, tx l, rfl, hll, (l.length : Int), rfl, by omega, by omega, ?_⟩
    refine for_it (walk_range (lo := 0) (n := (l.length : Int).toNat)) (fun i σ H' => ∃ y2, σ = [some (.str (tx l)), some (.str (tx (pfN l i))), y2] ∧ H' = H) ⟨none, ?_, rfl⟩ (fun _ _ _ _ _ => trivial) (fun i x σ H1 H' hi hP hY => ?_) (fun σ H' hP => ?_)
    · show [some (V.str (tx l)), some (V.str (Str.ofString "")), none] = _
      rw [str_empty]
      rfl
    · obtain ⟨y2, rfl, rfl⟩ := hP
      obtain ⟨rfl, hx⟩ := hY
      have hi' : i < l.length := by omega
      have hx' : x = .int (i : Nat) := hx.trans (congrArg V.int (Int.zero_add _))
      subst hx'
      refine ⟨.str (tx l), rfl, .int (i : Nat), rfl, (i : Nat), rfl, tx l, rfl, hll, l.take i, (by rw [cut_head] <;> rfl), ?_, _, rfl, ite2 (fun c => ?_) (fun c => ?_)⟩
      · rw [List.length_take]
        exact Nat.le_trans (Nat.min_le_right _ _) hll
      · have c' : pal (l.take i) := of_decide_eq_true c
        have eg : l[i]? = some l[i] := List.getElem?_eq_getElem hi'
        have hn := pfN_len l i
        refine ⟨.str (tx (pfN l i)), rfl, .str (tx l), rfl, .int (i : Nat), rfl, tx l, (i : Nat), l[i], rfl, rfl, hll, atI_nat eg, tx (pfN l i), tx [l[i]], rfl, rfl, ?_, ?_⟩
        · rw [tx_len, tx_len]
          exact line_le (by show (pfN l i).length + 1 ≤ 1000000; omega)
        · have en : pfN l (i + 1) = pfN l i ++ [l[i]] := by rw [pfN_succ, if_pos c', eg]; rfl
          rw [tx_app, ← en]
          exact ⟨_, rfl, rfl⟩
      · have c' : ¬ pal (l.take i) := fun z => c (decide_eq_true z)
        have en : pfN l (i + 1) = pfN l i := by rw [pfN_succ, if_neg c']
        exact ⟨some (.int (i : Nat)), by rw [en]; rfl, rfl⟩
    · obtain ⟨y2, rfl, rfl⟩ := hP
      rw [Int.toNat_natCast]
      exact ⟨_, rfl, q⟩
/-! ### plan_of -/
def planV (l : List Nat) : V := if bld (pf l) = l then .str (tx (pf l)) else .non
def spPo : Sp := fun vs H Q _ => ∃ l, vs = [.str (tx l)] ∧ okW l ∧ l.length ≤ 2000 ∧ ∀ H', Same H H' → Q (planV l) H'
theorem ok_po {f fN fM fP fL fB : Addr} {fd fdN fdM fdP fdL fdB : FuncData} {k : Nat} (F : Fun K "plan_of" "plan_of" sPo f fd) (T : Tp mg)
    (GN : FnOk P w K mg base CX0 k fN fdN ["value"] spNw) (gN : mg "need_word" = some (.ref fN)) (kN : PySem.W.keepIn K (.ref fN) = true) (bN : Binds K fdN ["value"] [])
    (GM : FnOk P w K mg base CX0 k fM fdM ["word"] spMir) (gM : mg "is_mirror_of" = some (.ref fM)) (kM : PySem.W.keepIn K (.ref fM) = true) (bM : Binds K fdM ["word"] [])
    (GP : FnOk P w K mg base CX0 k fP fdP ["word"] spPf) (gP : mg "plan_from" = some (.ref fP)) (kP : PySem.W.keepIn K (.ref fP) = true) (bP : Binds K fdP ["word"] [])
    (GL : FnOk P w K mg base CX0 k fL fdL ["plan"] spLen) (gL : mg "lengths_of" = some (.ref fL)) (kL : PySem.W.keepIn K (.ref fL) = true) (bL : Binds K fdL ["plan"] [])
    (GB : FnOk P w K mg base CX0 k fB fdB ["plan"] spBo) (gB : mg "build_of" = some (.ref fB)) (kB : PySem.W.keepIn K (.ref fB) = true) (bB : Binds K fdB ["plan"] []) :
    FnOk P w K mg base CX0 (k + 1) f fd ["word"] spPo := by
  refine F.ok scPo (fun vs H Q E h => ?_) (fun cdv A outer s H vs Q E hr h => ?_)
  · obtain ⟨l, rfl, _⟩ := h
    rfl
  · obtain ⟨l, rfl, ho, hl, q⟩ := h
    have hll : l.length ≤ sizeLine := line_le (by omega)
    refine ⟨_, pss_cons (ps_expr (pe_call GN hr (by rfl) gN kN bN .nil pass0 (pa_cons (pv 0) pa_nil)))
      (pss_cons (ps_set (i := 1) scPo.nd rfl (.inl rfl) (pe_ifExp (pt_val (pe_call GM hr (by rfl) gM kM bM .nil pass0 (pa_cons (pv 0) pa_nil))) (pe_call GP hr (by rfl) gP kP bP .nil pass0 (pa_cons (pv 0) pa_nil)) pe_non))
      (pss_cons (ps_if (PW.pt (pw_or (pt_cmpR op_isN (pv 1) pe_non (nomark _))
            (pw_or1 (pt_cmpR op_ne (pe_ix ix_list (pe_call GL hr (by rfl) gL kL bL .nil pass0 (pa_cons (pv 1) pa_nil)) (pe_un un_neg pe_int) (fun _ _ => rfl)) (pe_callB call_len_str (by rfl) T.len PySem.boot_len (pa_cons (pv 0) pa_nil)) (nomark _)))))
          (pss_one (ps_ret pe_non)) pss_nil)
      (pss_one (ps_ret (pe_ifExp (pt_cmpR op_eq (pe_call GB hr (by rfl) gB kB bB .nil pass0 (pa_cons (pv 1) pa_nil)) (pv 0) (nomark _)) (pv 1) pe_non))))), ?_⟩
    -- need_word(word)
    refine ⟨.str (tx l), rfl, l, rfl, ho, hl, fun H1 sm1 => ?_⟩
    -- plan = ..
    refine ⟨.str (tx l), rfl, l, rfl, hll, _, rfl, ite2 (fun c => ?_) (fun c => ?_)⟩
    · refine ⟨.str (tx l), rfl, l, rfl, hl, ?_⟩
      -- the test
      refine ⟨.str (tx (pf l)), rfl, rfl, _, rfl, iteF ?_⟩
      have hpl : (pf l).length ≤ 2000 := Nat.le_trans (pfN_len l l.length) hl
      refine ⟨.str (tx (pf l)), rfl, pf l, rfl, hpl, fun H2 o sm2 no eo => ?_⟩
      refine ⟨1, rfl, o, _, -1, _, rfl, rfl, .inl (.inl eo), lens_last _ _, .str (tx l), rfl, tx l, rfl, hll, rfl, _, rfl, ?_⟩
      have eb : bl (pf l) (pf l).length = (bld (pf l)).length := by
        unfold bl
        rw [List.take_length]
      by_cases hlen : (bld (pf l)).length = l.length
      · have ed : (!decide (V.int ((bl (pf l) (pf l).length : Nat) : Int) = V.int ((tx l).length : Nat))) = false := by
          rw [eb, tx_len, hlen, decide_eq_true rfl]
          rfl
        rw [ed]
        refine iteF ?_
        refine ⟨.str (tx (pf l)), rfl, pf l, rfl, hpl, by omega, fun H3 sm3 => ?_⟩
        refine ⟨.str (tx l), rfl, rfl, _, rfl, ite2 (fun c2 => ?_) (fun c2 => ?_)⟩
        · have e2 : bld (pf l) = l := tx_inj (V.str.inj (of_decide_eq_true c2))
          have ev : planV l = .str (tx (pf l)) := by unfold planV; rw [if_pos e2]
          exact ⟨.str (tx (pf l)), rfl, ev ▸ q H3 (sm1.trans (sm2.trans sm3))⟩
        · have e2 : ¬ bld (pf l) = l := fun z => c2 (by rw [z, decide_eq_true rfl])
          have ev : planV l = .non := by unfold planV; rw [if_neg e2]
          exact ev ▸ q H3 (sm1.trans (sm2.trans sm3))
      · have e2 : ¬ bld (pf l) = l := fun z => hlen (congrArg List.length z)
        have ev : planV l = .non := by unfold planV; rw [if_neg e2]
        have ed : (!decide (V.int ((bl (pf l) (pf l).length : Nat) : Int) = V.int ((tx l).length : Nat))) = true := by
          rw [eb, tx_len, decide_eq_false (fun z => hlen (by have := V.int.inj z; omega))]
          rfl
        rw [ed]
        refine iteT ?_
        exact ev ▸ q H2 (sm1.trans sm2)
    · -- no mirror
      have c' : ¬ pal l := fun z => c (decide_eq_true z)
      have e2 : ¬ bld (pf l) = l := fun z => c' (z ▸ bld_pal (pf l))
      have ev : planV l = .non := by unfold planV; rw [if_neg e2]
      refine ⟨.non, rfl, rfl, _, rfl, iteT ?_⟩
      exact ev ▸ q H1 sm1
end
end Pb

namespace Pb
open PySem PySem.Spec PyProof.Rows L2 Pal
/-- the row of draws: the script, the place, the mixed number, the rest of a great cell -/
def RowAt (K : PySem.W.Frag) (H : Hp) (row sc : Addr) (ns : List Int) : Prop :=
  SqL K H sc (ns.map V.int) ∧ ns.length ≤ 63 ∧ ∃ i r c : Int, H row = some (.lst [.ref sc, .int i, .int r, .int c]) ∧ 0 ≤ i
/-- all but the row is as it was -/
def But (row : Addr) (H H' : Hp) : Prop := ∀ b o, b ≠ row → H b = some o → H' b = some o
theorem But.refl (row : Addr) (H : Hp) : But row H H := fun _ _ _ h => h
theorem But.trans {row : Addr} {H H1 H2 : Hp} (a : But row H H1) (b : But row H1 H2) : But row H H2 := fun c o n h => b c o n (a c o n h)
theorem But.upd (row : Addr) (H : Hp) (o : HO) : But row H (upd H row o) := fun b _ n h => by rw [upd_ne n]; exact h
theorem But.same {row : Addr} {H H' : Hp} (s : Same H H') : But row H H' := fun b o _ h => s b o h
theorem seq_upd {K : PySem.W.Frag} {H : Hp} {row sc : Addr} {xs ns : List V} {o : HO} {v : V} (hr : H row = some (.lst (v :: ns))) (hv : ∀ y ∈ xs, y ≠ v) (h : SqL K H sc xs) : SqL K (upd H row o) sc xs := by
  rcases h with (h | ⟨ob, h⟩) | h
  · have ne : sc ≠ row := ne_of h hr (fun z => by
      have e := HO.lst.inj z
      exact hv v (e ▸ List.mem_cons_self ..) rfl)
    exact .inl (.inl (by rw [upd_ne ne]; exact h))
  · have ne : sc ≠ row := ne_of h hr (fun z => by cases z)
    exact .inl (.inr ⟨ob, by rw [upd_ne ne]; exact h⟩)
  · exact .inr h
theorem int_ne_ref (ns : List Int) (a : Addr) : ∀ y ∈ ns.map V.int, y ≠ V.ref a := by
  intro y hy e
  obtain ⟨z, _, ez⟩ := List.mem_map.mp hy
  rw [← ez] at e
  cases e
theorem RowAt.upd {K : PySem.W.Frag} {H : Hp} {row sc : Addr} {ns : List Int} (h : RowAt K H row sc ns) {i r c : Int} (hi : 0 ≤ i) : RowAt K (upd H row (.lst [.ref sc, .int i, .int r, .int c])) row sc ns := by
  obtain ⟨h1, h2, i0, r0, c0, h3, h4⟩ := h
  exact ⟨seq_upd h3 (int_ne_ref ns sc) h1, h2, i, r, c, upd_same, hi⟩
theorem RowAt.same {K : PySem.W.Frag} {H H' : Hp} {row sc : Addr} {ns : List Int} (h : RowAt K H row sc ns) (s : Same H H') : RowAt K H' row sc ns := by
  obtain ⟨h1, h2, i0, r0, c0, h3, h4⟩ := h
  exact ⟨s.seq h1, h2, i0, r0, c0, s _ _ h3, h4⟩
theorem fmod_nn (a : Int) {m : Int} (h : 0 < m) : 0 ≤ a.fmod m := Int.fmod_nonneg_of_pos a h
theorem fmod_lt (a : Int) {m : Int} (h : 0 < m) : a.fmod m < m := Int.fmod_lt_of_pos a h
section
variable {P : Program} {w : World} {K : PySem.W.Frag} {mg : Str → Option Value} {base : Heap}
/-! ### _law_taken -/
def spTk (K : PySem.W.Frag) : Sp := fun vs H Q _ => ∃ (row sc : Addr) (ns : List Int) (m : Int), vs = [.ref row, .int m] ∧ RowAt K H row sc ns ∧ 0 < m ∧ m < 1073741824 ∧
  ∀ (t : Int) H', 0 ≤ t → t < m → RowAt K H' row sc ns → But row H H' → Q (.int t) H'
theorem ok_tk {f : Addr} {fd : FuncData} {k : Nat} (F : Fun K "_law_taken" "_law_taken" sTk f fd) (T : Tp mg) : FnOk P w K mg base CX0 (k + 1) f fd ["_law_row", "_law_many"] (spTk K) := by
  refine F.ok scTk (fun vs H Q E h => ?_) (fun cdv A outer s H vs Q E hr h => ?_)
  · obtain ⟨row, sc, ns, m, rfl, _⟩ := h
    rfl
  · obtain ⟨row, sc, ns, m, rfl, R, hm0, hm1, q⟩ := h
    refine ⟨_, pss_cons (ps_if (pt_cmpR op_gt (pe_ix ix_list (pv 0) pe_int (fun _ _ => rfl)) pe_int (nomark _))
          (pss_cons (ps_set (i := 2) scTk.nd rfl (.inl rfl) (pe_op op_modN (pe_callTy call_int1 (by rfl) T.int PyProof.Rows.boot_int (pa_cons (pe_ix ix_list (pv 0) pe_int (fun _ _ => rfl)) pa_nil)) (pv 1)))
          (pss_cons (ps_asg (pe_op op_fdivN (pe_ix ix_list (pv 0) pe_int (fun _ _ => rfl)) (pv 1)) (pg_sub (pv 0) pe_int set_list))
          (pss_one (ps_ret (pv 2))))) pss_nil)
      (pss_cons (ps_asg (pe_op op_add (pe_ix ix_list (pv 0) pe_int (fun _ _ => rfl)) pe_int) (pg_sub (pv 0) pe_int set_list))
      (pss_cons (ps_if (pt_cmpR op_gt (pe_ix ix_list (pv 0) pe_int (fun _ _ => rfl)) (pe_callB call_len_seq (by rfl) T.len PySem.boot_len (pa_cons (pe_ix ix_list (pv 0) pe_int (fun _ _ => rfl)) pa_nil)) (nomark _))
          (pss_cons (ps_asg (pe_op op_modN (pe_callTy call_int1 (by rfl) T.int PyProof.Rows.boot_int (pa_cons (pe_op op_add (pe_op op_mul (pe_ix ix_list (pv 0) pe_int (fun _ _ => rfl)) pe_int) pe_int) pa_nil)) pe_int) (pg_sub (pv 0) pe_int set_list))
          (pss_one (ps_ret (pe_op op_modN (pe_callTy call_int1 (by rfl) T.int PyProof.Rows.boot_int (pa_cons (pe_op op_fdivN (pe_ix ix_list (pv 0) pe_int (fun _ _ => rfl)) pe_int) pa_nil)) (pv 1))))) pss_nil)
      (pss_cons (ps_set (i := 3) scTk.nd rfl (.inl rfl) (pe_ix ix_list (pe_ix ix_list (pv 0) pe_int (fun _ _ => rfl)) (pe_op op_sub (pe_ix ix_list (pv 0) pe_int (fun _ _ => rfl)) pe_int) (fun _ _ => rfl)))
      (pss_cons (ps_asg (pe_op op_modN (pe_callTy call_int1 (by rfl) T.int PyProof.Rows.boot_int (pa_cons (pe_op op_add (pe_op op_add (pe_op op_mul (pe_ix ix_list (pv 0) pe_int (fun _ _ => rfl)) pe_int) (pv 3)) pe_int) pa_nil)) pe_int) (pg_sub (pv 0) pe_int set_list))
      (pss_cons (ps_if (pt_cmpR op_ge (pv 3) (pe_op op_pow pe_int pe_int) (nomark _))
          (pss_one (ps_asg (pe_op op_fdivN (pv 3) (pv 1)) (pg_sub (pv 0) pe_int set_list))) pss_nil)
      (pss_one (ps_ret (pe_op op_modN (pe_callTy call_int1 (by rfl) T.int PyProof.Rows.boot_int (pa_cons (pv 3) pa_nil)) (pv 1))))))))), ?_⟩
    have hmn : m ≠ 0 := by omega
    have hmd : m.natAbs < 1073741824 := by omega
    have R0 := R
    obtain ⟨hs, hn, i, r, c, hrow, hi⟩ := R
    have hR : SqL K H row [.ref sc, .int i, .int r, .int c] := .inl (.inl hrow)
    -- if row[3] > 0
    refine ⟨.ref row, rfl, row, _, 3, _, rfl, rfl, hR, rfl, _, _, rfl, rfl, _, rfl, ite2 (fun cc => ?_) (fun cc => ?_)⟩
    · refine ⟨.ref row, rfl, row, _, 3, _, rfl, rfl, hR, rfl, .inl ⟨_, rfl, .int m, rfl, _, _, rfl, rfl, hmn, ?_⟩⟩
      refine ⟨.ref row, rfl, row, _, 3, _, rfl, rfl, hR, rfl, .int m, rfl, _, _, rfl, rfl, ⟨hmn, hmd⟩, .ref row, rfl, row, _, _, 3, rfl, rfl, hrow, rfl, ?_⟩
      exact ⟨_, rfl, q _ _ (fmod_nn c hm0) (fmod_lt c hm0) (R0.upd hi) (But.upd row H _)⟩
    · -- row[1] = row[1] + 1
      refine ⟨.ref row, rfl, row, _, 1, _, rfl, rfl, hR, rfl, _, _, rfl, rfl, .ref row, rfl, row, _, _, 1, rfl, rfl, hrow, rfl, ?_⟩
      have R1 : RowAt K (upd H row (.lst [.ref sc, .int (i + 1), .int r, .int c])) row sc ns := R0.upd (by omega)
      have hs1 := R1.1
      have hR1 : SqL K (upd H row (.lst [.ref sc, .int (i + 1), .int r, .int c])) row [.ref sc, .int (i + 1), .int r, .int c] := .inl (.inl upd_same)
      -- if row[1] > len(row[0])
      refine ⟨.ref row, rfl, row, _, 1, _, rfl, rfl, hR1, rfl, .ref row, rfl, row, _, 0, _, rfl, rfl, hR1, rfl, sc, _, rfl, .inl hs1, _, _, rfl, rfl, _, rfl, ite2 (fun c2 => ?_) (fun c2 => ?_)⟩
      · refine ⟨.ref row, rfl, row, _, 2, _, rfl, rfl, hR1, rfl, _, 48271, rfl, rfl, .inr ⟨by decide, by decide⟩, _, _, rfl, rfl, .inl ⟨_, rfl, _, 2147483647, rfl, rfl, (show (2147483647 : Int) ≠ 0 by decide), .ref row, rfl, row, _, _, 2, rfl, rfl, upd_same, rfl, ?_⟩⟩
        refine ⟨.ref row, rfl, row, _, 2, _, rfl, rfl, .inl (.inl upd_same), rfl, _, 7, rfl, rfl, ⟨by decide, by decide⟩, .inl ⟨_, rfl, .int m, rfl, _, _, rfl, rfl, hmn, ?_⟩⟩
        exact q _ _ (fmod_nn _ hm0) (fmod_lt _ hm0) (R1.upd (by omega)) ((But.upd row H _).trans (But.upd row _ _))
      · -- the cell
        have c3 : ¬ (((ns.map V.int).length : Nat) : Int) < i + 1 := fun z => c2 (decide_eq_true z)
        rw [List.length_map] at c3
        obtain ⟨n, rfl⟩ : ∃ n : Nat, i = (n : Int) := ⟨i.toNat, by omega⟩
        have hnl : n < ns.length := by omega
        have hcell : (ns.map V.int)[n]? = some (.int ns[n]) := by
          rw [List.getElem?_map, List.getElem?_eq_getElem hnl]
          rfl
        have e1 : ((n : Int) + 1) - 1 = (n : Int) := by omega
        refine ⟨.ref row, rfl, row, _, 0, _, rfl, rfl, hR1, rfl, .ref row, rfl, row, _, 1, _, rfl, rfl, hR1, rfl, _, 1, rfl, rfl, sc, _, _, _, rfl, rfl, hs1, e1 ▸ atI_nat hcell, ?_⟩
        -- row[2] = ..
        refine ⟨.ref row, rfl, row, _, 2, _, rfl, rfl, hR1, rfl, _, 48271, rfl, rfl, .inr ⟨by decide, by decide⟩, .int ns[n], rfl, _, _, rfl, rfl, _, _, rfl, rfl, .inl ⟨_, rfl, _, 2147483647, rfl, rfl, (show (2147483647 : Int) ≠ 0 by decide), .ref row, rfl, row, _, _, 2, rfl, rfl, upd_same, rfl, ?_⟩⟩
        -- if cell >= 10 ** 18
        refine ⟨.int ns[n], rfl, 10, 18, rfl, rfl, ⟨by decide, by decide, by decide⟩, _, _, rfl, rfl, _, rfl, ite2 (fun c4 => ?_) (fun c4 => ?_)⟩
        · refine ⟨.int ns[n], rfl, .int m, rfl, _, _, rfl, rfl, ⟨hmn, hmd⟩, .ref row, rfl, row, _, _, 3, rfl, rfl, upd_same, rfl, ?_⟩
          refine ⟨.int ns[n], rfl, .inl ⟨_, rfl, .int m, rfl, _, _, rfl, rfl, hmn, ?_⟩⟩
          exact q _ _ (fmod_nn _ hm0) (fmod_lt _ hm0) ((R1.upd (by omega)).upd (by omega)) (((But.upd row H _).trans (But.upd row _ _)).trans (But.upd row _ _))
        · refine ⟨.int ns[n], rfl, .inl ⟨_, rfl, .int m, rfl, _, _, rfl, rfl, hmn, ?_⟩⟩
          exact q _ _ (fmod_nn _ hm0) (fmod_lt _ hm0) (R1.upd (by omega)) ((But.upd row H _).trans (But.upd row _ _))
/-! ### _law_pick -/
def spPk (K : PySem.W.Frag) : Sp := fun vs H Q _ => ∃ (row sc : Addr) (ns : List Int) (l : List Nat), vs = [.ref row, .str (tx l)] ∧ RowAt K H row sc ns ∧ 0 < l.length ∧ l.length ≤ 1000 ∧
  ∀ (c : Nat) H', c ∈ l → RowAt K H' row sc ns → But row H H' → Q (.str (tx [c])) H'
theorem ok_pk {f fT : Addr} {fd fdT : FuncData} {k : Nat} (F : Fun K "_law_pick" "_law_pick" sPk f fd) (T : Tp mg) (G : FnOk P w K mg base CX0 k fT fdT ["_law_row", "_law_many"] (spTk K)) (gT : mg "_law_taken" = some (.ref fT)) (kT : PySem.W.keepIn K (.ref fT) = true) (bT : Binds K fdT ["_law_row", "_law_many"] []) :
    FnOk P w K mg base CX0 (k + 1) f fd ["_law_row", "_law_things"] (spPk K) := by
  refine F.ok scPk (fun vs H Q E h => ?_) (fun cdv A outer s H vs Q E hr h => ?_)
  · obtain ⟨row, sc, ns, m, rfl, _⟩ := h
    rfl
  · obtain ⟨row, sc, ns, l, rfl, R, h0, h1, q⟩ := h
    have hll : l.length ≤ sizeLine := line_le (by omega)
    refine ⟨_, pss_one (ps_ret (pe_ix ix_str (pv 1) (pe_call G hr (by rfl) gT kT bT .nil pass0 (pa_cons (pv 0) (pa_cons (pe_callB call_len_str (by rfl) T.len PySem.boot_len (pa_cons (pv 1) pa_nil)) pa_nil))) (fun _ _ => rfl))), ?_⟩
    refine ⟨.str (tx l), rfl, .ref row, rfl, .str (tx l), rfl, tx l, rfl, hll, row, sc, ns, (l.length : Int), rfl, R, by omega, by omega, fun t H' t0 t1 R' B => ?_⟩
    obtain ⟨n, rfl⟩ : ∃ n : Nat, t = (n : Int) := ⟨t.toNat, by omega⟩
    have hn : n < l.length := by omega
    have eg : l[n]? = some l[n] := List.getElem?_eq_getElem hn
    exact ⟨tx l, (n : Int), l[n], rfl, rfl, hll, atI_nat eg, q _ H' (List.getElem_mem hn) R' B⟩
end
end Pb

namespace Pb
open PySem PySem.Spec PyProof.Rows L2 Pal
theorem str_a : Str.ofString "a" = tx [97] := by decide +kernel
theorem abcde_at {j : Nat} (h : j < 5) : (Str.ofString "abcde").cps.toList[j]? = some (97 + j) := by
  rw [letters_list]
  have : j = 0 ∨ j = 1 ∨ j = 2 ∨ j = 3 ∨ j = 4 := by omega
  rcases this with e | e | e | e | e <;> subst e <;> rfl
theorem abcde_len : (Str.ofString "abcde").length = 5 := by decide +kernel
theorem RowAt.off {K : PySem.W.Frag} {H H1 : Hp} {row sc D : Addr} {ns : List Int} {o : HO} (h : RowAt K H row sc ns) (h1 : RowAt K H1 row sc ns) (hD : H1 D = none) : RowAt K (L2.upd H D o) row sc ns := by
  obtain ⟨a1, a2, i0, r0, c0, a3, a4⟩ := h
  obtain ⟨b1, b2, i1, r1, c1, b3, b4⟩ := h1
  have ne : row ≠ D := ne_of_none b3 hD
  refine ⟨?_, a2, i0, r0, c0, by rw [upd_ne ne]; exact a3, a4⟩
  rcases b1 with (b1 | ⟨ob, b1⟩) | b1
  · have n2 : sc ≠ D := ne_of_none b1 hD
    rcases a1 with (a1 | ⟨ob, a1⟩) | a1
    · exact .inl (.inl (by rw [upd_ne n2]; exact a1))
    · exact .inl (.inr ⟨ob, by rw [upd_ne n2]; exact a1⟩)
    · exact .inr a1
  · have n2 : sc ≠ D := ne_of_none b1 hD
    rcases a1 with (a1 | ⟨ob, a1⟩) | a1
    · exact .inl (.inl (by rw [upd_ne n2]; exact a1))
    · exact .inl (.inr ⟨ob, by rw [upd_ne n2]; exact a1⟩)
    · exact .inr a1
  · exact .inr b1
theorem okW_nil : okW [] := fun _ h => nomatch h
theorem okW_one {c : Nat} (h1 : 97 ≤ c) (h2 : c < 102) : okW [c] := fun z hz => by
  have e : z = c := List.mem_singleton.mp hz
  subst e
  exact ⟨h1, h2⟩
theorem okW_snoc {l : List Nat} {c : Nat} (h : okW l) (hc : okW [c]) : okW (l ++ [c]) := fun z hz => (List.mem_append.mp hz).elim (fun a => h z a) (fun a => hc z a)
section
variable {P : Program} {w : World} {K : PySem.W.Frag} {mg : Str → Option Value} {base : Heap}
/-! ### _law_plan -/
def spPl (K : PySem.W.Frag) : Sp := fun vs H Q _ => ∃ (row sc : Addr) (ns : List Int) (most many : Nat), vs = [.ref row, .int most, .int many] ∧ RowAt K H row sc ns ∧ most ≤ 100 ∧ 0 < many ∧ many ≤ 5 ∧
  ∀ (l : List Nat) H', okW l → l.length ≤ most → RowAt K H' row sc ns → But row H H' → Q (.str (tx l)) H'
theorem ok_pl {f fT : Addr} {fd fdT : FuncData} {k : Nat} (F : Fun K "_law_plan" "_law_plan" sPl f fd) (T : Tp mg) (G : FnOk P w K mg base CX0 k fT fdT ["_law_row", "_law_many"] (spTk K)) (gT : mg "_law_taken" = some (.ref fT)) (kT : PySem.W.keepIn K (.ref fT) = true) (bT : Binds K fdT ["_law_row", "_law_many"] []) :
    FnOk P w K mg base CX0 (k + 1) f fd ["_law_row", "_law_most", "_law_many"] (spPl K) := by
  refine F.ok scPl (fun vs H Q E h => ?_) (fun cdv A outer s H vs Q E hr h => ?_)
  · obtain ⟨row, sc, ns, m, m2, rfl, _⟩ := h
    rfl
  · obtain ⟨row, sc, ns, most, many, rfl, R, h1, h2, h3, q⟩ := h
    refine ⟨_, pss_cons (ps_asg (pe_tup (pa_cons pe_str (pa_cons pe_str pa_nil))) (pg_tup rfl (pgs_cons (pg_name (i := 3) scPl.nd rfl (.inl rfl)) (pgs_cons (pg_name (i := 4) scPl.nd rfl (.inl rfl)) pgs_nil))))
      (pss_cons (ps_for PassesOwn.never rfl (pi_range1 rfl T.range (pa_cons (pe_call G hr (by rfl) gT kT bT .nil pass0 (pa_cons (pv 0) (pa_cons (pe_op op_add (pv 1) pe_int) pa_nil))) pa_nil)) (pg_name (i := 5) scPl.nd rfl (.inl rfl))
        (pss_cons (ps_if (pt_cmpR op_gt (pe_call G hr (by rfl) gT kT bT .nil pass0 (pa_cons (pv 0) (pa_cons pe_int pa_nil))) pe_int (nomark _))
            (pss_one (ps_set (i := 4) scPl.nd rfl (.inl rfl) (pe_ix ix_str pe_str (pe_call G hr (by rfl) gT kT bT .nil pass0 (pa_cons (pv 0) (pa_cons (pv 2) pa_nil))) (fun _ _ => rfl)))) pss_nil)
        (pss_one (ps_set (i := 3) scPl.nd rfl (.inl rfl) (pe_op op_add_str (pv 3) (pv 4))))))
      (pss_one (ps_ret (pv 3)))), ?_⟩
    refine ⟨by show 2 ≤ sizeLine; decide, fun p0 np0 => ⟨p0, _, rfl, .inl (.inl upd_same), rfl, _, _, rfl, _, _, rfl, rfl, ?_⟩⟩
    have s0 := same_upd (o := .tup [V.str (Str.ofString ""), V.str (Str.ofString "a")]) np0
    refine ⟨.ref row, rfl, .int most, rfl, _, 1, rfl, rfl, row, sc, ns, _, rfl, R.same s0, by omega, by omega, fun t H1 t0 t1 R1 B1' => ?_⟩
    have B1 : But row H H1 := (But.same s0).trans B1'
    refine ⟨t, rfl, by omega, by omega, ?_⟩
    refine for_it (walk_range (lo := 0) (n := t.toNat)) (fun i σ H' => ∃ (l : List Nat) (c : Nat) (y5 : Option V), σ = [some (.ref row), some (.int most), some (.int many), some (.str (tx l)), some (.str (tx [c])), y5] ∧ okW l ∧ okW [c] ∧ l.length = i ∧ RowAt K H' row sc ns ∧ But row H H')
      ⟨[], 97, none, ?_, okW_nil, okW_one (by decide) (by decide), rfl, R1, B1⟩ (fun _ _ _ _ _ => trivial) (fun i x σ H2 H' hi hP hY => ?_) (fun σ H' hP => ?_)
    · show [some (V.ref row), some (V.int most), some (V.int many), some (V.str (Str.ofString "")), some (V.str (Str.ofString "a")), none] = _
      rw [str_empty, str_a]
    · obtain ⟨l, c, y5, rfl, o1, o2, el, R2, B2⟩ := hP
      obtain ⟨rfl, rfl⟩ := hY
      have fin : ∀ (c' : Nat) (H3 : Hp), okW [c'] → RowAt K H3 row sc ns → But row H H3 → ∃ (l' : List Nat) (c'' : Nat) (y5 : Option V), [some (V.ref row), some (V.int most), some (V.int many), some (V.str (tx (l ++ [c']))), some (V.str (tx [c'])), some (V.int (0 + (i : Nat)))] = [some (.ref row), some (.int most), some (.int many), some (.str (tx l')), some (.str (tx [c''])), y5] ∧ okW l' ∧ okW [c''] ∧ l'.length = i + 1 ∧ RowAt K H3 row sc ns ∧ But row H H3 := fun c' H3 o3 R3 B3 =>
        ⟨l ++ [c'], c', _, rfl, okW_snoc o1 o3, o3, by rw [List.length_append, el]; rfl, R3, B3⟩
      have hsz : ∀ c' : Nat, (tx l).length + (tx [c']).length ≤ sizeLine := fun c' => by
        rw [tx_len, tx_len]
        exact line_le (by show l.length + 1 ≤ 1000000; omega)
      refine ⟨.ref row, rfl, row, sc, ns, 3, rfl, R2, by decide, by decide, fun t3 H3 u0 u1 R3 B3 => ?_⟩
      refine ⟨_, _, rfl, rfl, _, rfl, ite2 (fun cc => ?_) (fun cc => ?_)⟩
      · refine ⟨.ref row, rfl, .int many, rfl, row, sc, ns, _, rfl, R3, by omega, by omega, fun t4 H4 v0 v1 R4 B4 => ?_⟩
        obtain ⟨n, rfl⟩ : ∃ n : Nat, t4 = (n : Int) := ⟨t4.toNat, by omega⟩
        have hn : n < 5 := by omega
        refine ⟨Str.ofString "abcde", (n : Int), 97 + n, rfl, rfl, by rw [abcde_len]; decide, atI_nat (abcde_at hn), ?_⟩
        refine ⟨.str (tx l), rfl, .str (tx [97 + n]), rfl, tx l, tx [97 + n], rfl, rfl, hsz _, ?_⟩
        rw [tx_app]
        exact fin (97 + n) H4 (okW_one (by omega) (by omega)) R4 ((B2.trans B3).trans B4)
      · refine ⟨.str (tx l), rfl, .str (tx [c]), rfl, tx l, tx [c], rfl, rfl, hsz _, ?_⟩
        rw [tx_app]
        exact fin c H3 o2 R3 (B2.trans B3)
    · obtain ⟨l, c, y5, rfl, o1, o2, el, R2, B2⟩ := hP
      exact ⟨_, rfl, q l H' o1 (by omega) R2 B2⟩
/-! ### _law_word_of -/
def spWo (K : PySem.W.Frag) : Sp := fun vs H Q _ => ∃ (row sc : Addr) (ns : List Int) (most many : Nat), vs = [.ref row, .int most, .int many] ∧ RowAt K H row sc ns ∧ most ≤ 100 ∧ 0 < many ∧ many ≤ 5 ∧
  ∀ (l : List Nat) H', okW l → l.length ≤ most → RowAt K H' row sc ns → Q (.str (tx l)) H'
theorem join_signs (l : List Nat) : Txt.join (tx []) (l.map fun c => tx [c]) = tx l := by
  show Txt.join (tx []) (l.map fun c => tx [c]) = tx l
  unfold Txt.join
  rw [PySem.StrLaws.glued_eq_join]
  induction l with
  | nil => rfl
  | cons a r ih =>
    cases r with
    | nil => rfl
    | cons b r =>
      show tx [a] ++ tx [] ++ Str.join (tx []) ((b :: r).map fun c => tx [c]) = tx (a :: b :: r)
      rw [ih, tx_app, tx_app]
      rfl
theorem sum_ones (l : List Nat) : ((l.map fun c => tx [c]).map (·.length)).sum = l.length := by
  induction l with
  | nil => rfl
  | cons a r ih =>
    show (tx [a]).length + ((r.map fun c => tx [c]).map (·.length)).sum = r.length + 1
    rw [ih]
    show 1 + r.length = r.length + 1
    omega
theorem ok_wo {f fT : Addr} {fd fdT : FuncData} {k : Nat} (F : Fun K "_law_word_of" "_law_word_of" sWo f fd) (T : Tp mg) (G : FnOk P w K mg base CX0 k fT fdT ["_law_row", "_law_many"] (spTk K)) (gT : mg "_law_taken" = some (.ref fT)) (kT : PySem.W.keepIn K (.ref fT) = true) (bT : Binds K fdT ["_law_row", "_law_many"] []) :
    FnOk P w K mg base CX0 (k + 1) f fd ["_law_row", "_law_most", "_law_many"] (spWo K) := by
  refine F.ok scWo (fun vs H Q E h => ?_) (fun cdv A outer s H vs Q E hr h => ?_)
  · obtain ⟨row, sc, ns, m, m2, rfl, _⟩ := h
    rfl
  · obtain ⟨row, sc, ns, most, many, rfl, R, h1, h2, h3, q⟩ := h
    refine ⟨_, pss_one (ps_ret (pe_join pe_str (pe_lc (own := [("_law_turn", 3)]) (g := gName 3) (tt := tYes) rfl scWo.nd (pi_range1 rfl T.range (pa_cons (pe_call G hr (by rfl) gT kT bT .nil pass0 (pa_cons (pv 0) (pa_cons (pe_op op_add (pv 1) pe_int) pa_nil))) pa_nil))
        (blkOk_by (own := [("_law_turn", 3)]) (N := ["_law_row", "_law_most", "_law_many", "_law_turn"]) (sc := defScope sWo) (by decide +kernel)) (fun _ _ _ _ _ => pg_name (i := 3) scWo.nd rfl (Or.inl rfl)) (fun _ _ _ _ _ => pts_nil)
        (fun _ _ _ _ _ => pe_ix ix_str pe_str (pe_call G hr (by rfl) gT kT bT .nil pass0 (pa_cons (pv 0) (pa_cons (pv 2) pa_nil))) (fun _ _ => rfl))))), ?_⟩
    refine ⟨⟨_, rfl⟩, ?_⟩
    refine ⟨.ref row, rfl, .int most, rfl, _, 1, rfl, rfl, row, sc, ns, _, rfl, R, by omega, by omega, fun t H1 t0 t1 R1 B1 => ?_⟩
    refine ⟨t, rfl, by omega, by omega, fun D hD => ?_⟩
    have nD : D ≠ row := by
      obtain ⟨_, _, i0, r0, c0, hr0, _⟩ := R1
      exact (ne_of_none hr0 hD).symm
    refine lc_range (lo := 0) (n := t.toNat) (fun i H' => ∃ l : List Nat, okW l ∧ l.length = i ∧ RowAt K H' row sc ns ∧ H' D = some (.lst ((l.map fun c => tx [c]).map V.str)))
      ⟨[], okW_nil, rfl, R1.same (same_upd hD), upd_same⟩ (fun i H' hi hP => ?_) (fun H' hP => ?_)
    · obtain ⟨l, o1, el, R2, eD⟩ := hP
      refine ⟨rfl, ?_⟩
      refine ⟨.ref row, rfl, .int many, rfl, row, sc, ns, _, rfl, R2, by omega, by omega, fun t4 H4 v0 v1 R4 B4 => ?_⟩
      obtain ⟨n, rfl⟩ : ∃ n : Nat, t4 = (n : Int) := ⟨t4.toNat, by omega⟩
      have hn : n < 5 := by omega
      have eD4 := B4 D _ nD eD
      refine ⟨Str.ofString "abcde", (n : Int), 97 + n, rfl, rfl, by rw [abcde_len]; decide, atI_nat (abcde_at hn), _, eD4, ?_, l ++ [97 + n], okW_snoc o1 (okW_one (by omega) (by omega)), by rw [List.length_append, el]; rfl, ?_, ?_⟩
      · rw [List.length_map, List.length_map]
        exact small1000 (by omega)
      · exact R4.off R1 hD
      · rw [upd_same, List.map_append, List.map_append]
        rfl
    · obtain ⟨l, o1, el, R2, eD⟩ := hP
      refine ⟨Str.ofString "", D, l.map fun c => tx [c], rfl, rfl, .inl (.inl (.inl eD)), ?_, ?_⟩
      · rw [sum_ones, List.length_map, str_empty, tx_len]
        show l.length + l.length * 0 ≤ _
        omega
      · rw [str_empty, join_signs]
        exact q l H' o1 (by omega) R2
end
end Pb

namespace Pb
open PySem PySem.Spec PyProof.Rows L2 Pal
theorem clo_is {l : List Nat} {i : Nat} (h : pal (ext l i)) (hn : ∀ k, k < i → ¬ pal (ext l k)) : clo l = ext l i := by
  obtain ⟨a, b, c⟩ := cloK_spec l
  have e : cloK l = i := by
    refine Nat.le_antisymm (Nat.le_of_not_lt fun z => c i z h) (Nat.le_of_not_lt fun z => hn _ z a)
  unfold clo
  rw [e]
/-- None or a text -/
def flat2 (v : V) : Prop := v = .non ∨ ∃ x, v = .str x
section
variable {P : Program} {w : World} {K : PySem.W.Frag} {mg : Str → Option Value} {base : Heap}
/-! ### _law_close -/
def spCl : Sp := fun vs H Q _ => ∃ l, vs = [.str (tx l)] ∧ l.length ≤ 300000 ∧ Q (.str (tx (clo l))) H
theorem ok_cl {f : Addr} {fd : FuncData} {k : Nat} (F : Fun K "_law_close" "_law_close" sCl f fd) (T : Tp mg) : FnOk P w K mg base CX0 (k + 1) f fd ["_law_word"] spCl := by
  refine F.ok scCl (fun vs H Q E h => ?_) (fun cdv A outer s H vs Q E hr h => ?_)
  · obtain ⟨l, rfl, _⟩ := h
    rfl
  · obtain ⟨l, rfl, hl, q⟩ := h
    have hll : l.length ≤ sizeLine := line_le (by omega)
    refine ⟨_, pss_cons (ps_for PassesOwn.never rfl (pi_range1 rfl T.range (pa_cons (pe_op op_add (pe_callB call_len_str (by rfl) T.len PySem.boot_len (pa_cons (pv 0) pa_nil)) pe_int) pa_nil)) (pg_name (i := 1) scCl.nd rfl (.inl rfl))
        (pss_cons (ps_set (i := 2) scCl.nd rfl (.inl rfl) (pe_op op_add_str (pv 0) (pe_revS (pe_slice sl_str (pv 0) po_none (po_some (pv 1))))))
        (pss_one (ps_if (pt_cmpR op_eq (pv 2) (pe_revS (pv 2)) (nomark _)) (pss_one (ps_ret (pv 2))) pss_nil))))
      (pss_one (ps_ret (pv 0))), ?_⟩
    refine ⟨.str (tx l), rfl, tx l, rfl, hll, _, 1, rfl, rfl, ((l.length + 1 : Nat) : Int), rfl, by omega, by omega, ?_⟩
    refine for_it (walk_range (lo := 0) (n := ((l.length + 1 : Nat) : Int).toNat)) (fun i σ H' => ∃ y1 y2, σ = [some (.str (tx l)), y1, y2] ∧ H' = H ∧ ∀ k, k < i → ¬ pal (ext l k)) ⟨none, none, rfl, rfl, fun k h => absurd h (Nat.not_lt_zero _)⟩ (fun _ _ _ _ _ => trivial) (fun i x σ H1 H' hi hP hY => ?_) (fun σ H' hP => ?_)
    · obtain ⟨y1, y2, rfl, rfl, hn⟩ := hP
      obtain ⟨rfl, hx⟩ := hY
      have hi' : i ≤ l.length := by omega
      have hx' : x = .int (i : Nat) := hx.trans (congrArg V.int (Int.zero_add _))
      subst hx'
      have hlt : (l.take i).length ≤ l.length := by rw [List.length_take]; exact Nat.min_le_right _ _
      refine ⟨.str (tx l), rfl, .str (tx l), rfl, .int (i : Nat), rfl, (i : Nat), rfl, tx l, rfl, hll, l.take i, (by rw [cut_head] <;> rfl), Nat.le_trans hlt hll, tx l, tx (l.take i).reverse, rfl, rfl, ?_, ?_⟩
      · rw [tx_len, tx_len, List.length_reverse]
        exact line_le (by omega)
      rw [tx_app]
      have he : (ext l i).length ≤ sizeLine := by
        rw [ext_len l hi']
        exact line_le (by omega)
      refine ⟨.str (tx (ext l i)), rfl, .str (tx (ext l i)), rfl, ext l i, rfl, he, rfl, _, rfl, ?_⟩
      rw [mir_dec]
      refine ite2 (fun c => ?_) (fun c => ?_)
      · have c' : pal (ext l i) := of_decide_eq_true c
        refine ⟨.str (tx (ext l i)), rfl, ?_⟩
        have e := clo_is c' hn
        exact e ▸ q
      · have c' : ¬ pal (ext l i) := fun z => c (decide_eq_true z)
        refine ⟨_, _, rfl, rfl, fun k hk => ?_⟩
        by_cases e : k = i
        · rw [e]; exact c'
        · exact hn k (by omega)
    · obtain ⟨y1, y2, rfl, rfl, hn⟩ := hP
      exact absurd (ext_all_pal l) (hn l.length (by omega))
/-! ### _law_build -/
def spBu : Sp := fun vs H Q _ => ∃ p, vs = [.str (tx p)] ∧ (bld p).length ≤ 100000 ∧ Q (.str (tx (bld p))) H
theorem ok_bu {f fC : Addr} {fd fdC : FuncData} {k : Nat} (F : Fun K "_law_build" "_law_build" sBu f fd) (T : Tp mg) (G : FnOk P w K mg base CX0 k fC fdC ["_law_word"] spCl) (gC : mg "_law_close" = some (.ref fC)) (kC : PySem.W.keepIn K (.ref fC) = true) (bC : Binds K fdC ["_law_word"] []) :
    FnOk P w K mg base CX0 (k + 1) f fd ["_law_plan_here"] spBu := by
  refine F.ok scBu (fun vs H Q E h => ?_) (fun cdv A outer s H vs Q E hr h => ?_)
  · obtain ⟨l, rfl, _⟩ := h
    rfl
  · obtain ⟨p, rfl, hb, q⟩ := h
    refine ⟨_, pss_cons (ps_set (i := 1) scBu.nd rfl (.inl rfl) pe_str)
      (pss_cons (ps_for PassesOwn.never rfl (pi_str (pv 0)) (pg_name (i := 2) scBu.nd rfl (.inl rfl))
        (pss_one (ps_set (i := 1) scBu.nd rfl (.inl rfl) (pe_call G hr (by rfl) gC kC bC .nil pass0 (pa_cons (pe_op op_add_str (pv 1) (pv 2)) pa_nil)))))
      (pss_one (ps_ret (pv 1)))), ?_⟩
    refine ⟨.str (tx p), rfl, tx p, rfl, ?_⟩
    refine for_it (walk_sign p) (fun i σ H' => ∃ y2, σ = [some (.str (tx p)), some (.str (tx (bld (p.take i)))), y2] ∧ H' = H) ⟨none, ?_, rfl⟩ (fun _ _ _ _ _ => trivial) (fun i x σ H1 H' hi hP hY => ?_) (fun σ H' hP => ?_)
    · show [some (V.str (tx p)), some (V.str (Str.ofString "")), none] = _
      rw [str_empty]
      rfl
    · obtain ⟨y2, rfl, rfl⟩ := hP
      obtain ⟨rfl, c, hc, rfl⟩ := hY
      have ht := bl_top (p := p) i
      have hl : (bld (p.take i)).length = bl p i := rfl
      refine ⟨.str (tx (bld (p.take i))), rfl, .str (tx [c]), rfl, tx (bld (p.take i)), tx [c], rfl, rfl, ?_, bld (p.take i) ++ [c], (by rw [tx_app] <;> rfl), ?_, ?_⟩
      · rw [tx_len, tx_len]
        exact line_le (by show (bld (p.take i)).length + 1 ≤ 1000000; omega)
      · rw [List.length_append]
        show (bld (p.take i)).length + 1 ≤ 300000
        omega
      · have e : clo (bld (p.take i) ++ [c]) = bld (p.take (i + 1)) := by rw [take_snoc p hc, bld_snoc]
        rw [e]
        exact ⟨_, rfl, rfl⟩
    · obtain ⟨y2, rfl, rfl⟩ := hP
      rw [List.take_length]
      exact ⟨.str (tx (bld p)), rfl, q⟩
/-! ### _law_alike, of None and texts -/
def spAl : Sp := fun vs H Q _ => ∃ v d, vs = [v, d] ∧ flat2 v ∧ flat2 d ∧ ∀ H', Same H H' → Q (.bl (decide (v = d))) H'
def tyN : V → String
  | .str _ => "str"
  | _ => "NoneType"
def isS : V → Bool
  | .str _ => true
  | _ => false
theorem ty_flat {H : Hp} {v : V} (h : flat2 v) : TyX K H v (.type (tyN v)) := by
  rcases h with rfl | ⟨x, rfl⟩
  · exact .base .non
  · exact .base (.str _)
theorem isi_str {v : V} (h : flat2 v) : PySem.W.kitOne K (.type (tyN v)) (.type "str") = some (isS v) := by
  rcases h with rfl | ⟨x, rfl⟩
  · exact kit_ty (show kitB "NoneType" "str" = some false by decide +kernel)
  · exact kit_ty (show kitB "str" "str" = some true by decide +kernel)
theorem isi_seq {v : V} (h : flat2 v) : PySem.W.kitAny K (.type (tyN v)) [.type "tuple", .type "list"] = some false := by
  rcases h with rfl | ⟨x, rfl⟩
  · exact kitAny_cons (b := false) (kit_ty (show kitB "NoneType" "tuple" = some false by decide +kernel)) (fun _ => kitAny_cons (b := false) (kit_ty (show kitB "NoneType" "list" = some false by decide +kernel)) (fun _ => kitAny_nil) (fun z => nomatch z)) (fun z => nomatch z)
  · exact kitAny_cons (b := false) (kit_ty (show kitB "str" "tuple" = some false by decide +kernel)) (fun _ => kitAny_cons (b := false) (kit_ty (show kitB "str" "list" = some false by decide +kernel)) (fun _ => kitAny_nil) (fun z => nomatch z)) (fun z => nomatch z)
theorem scal_flat {v d : V} (h : flat2 v) (g : flat2 d) : scal v d = true := by
  rcases h with rfl | ⟨x, rfl⟩ <;> rcases g with rfl | ⟨y, rfl⟩ <;> rfl
theorem ok_al {f : Addr} {fd : FuncData} {k : Nat} (F : Fun K "_law_alike" "_law_alike" sAl f fd) (T : Tp mg) : FnOk P w K mg base CX0 (k + 1) f fd ["_law_found", "_law_due"] spAl := by
  refine F.ok scAl (fun vs H Q E h => ?_) (fun cdv A outer s H vs Q E hr h => ?_)
  · obtain ⟨v, d, rfl, _⟩ := h
    rfl
  · obtain ⟨v, d, rfl, fv, fd', q⟩ := h
    refine ⟨_, pss_cons (ps_if (pt_val (pe_callB call_isiT (by rfl) T.isinstance PyProof.Rows.boot_isinstance (pa_cons (pv 1) (pa_cons (pe_tup (pa_cons (pe_bltn (v := .ty "tuple") (by rfl) T.tuple (by decide +kernel) rfl) (pa_cons (pe_bltn (v := .ty "list") (by rfl) T.list (by decide +kernel) rfl) pa_nil))) pa_nil))))
          (pss_cons ps_never (pss_cons ps_never (pss_one ps_never))) pss_nil)
      (pss_cons (ps_if (PW.pt (pw_or (pt_cmpR op_isN (pv 1) pe_non (nomark _)) (pw_or1 (pt_val (pe_callB call_isi (by rfl) T.isinstance PyProof.Rows.boot_isinstance (pa_cons (pv 1) (pa_cons (pe_bltn (v := .ty "str") (by rfl) T.str PyProof.Rows.boot_str rfl) pa_nil)))))))
          (pss_one (ps_ret (pe_and (pe_cmpR op_eq (pv 0) (pv 1) (nomark _)) (pe_one (pe_cmpR op_eq (pe_callB call_isi (by rfl) T.isinstance PyProof.Rows.boot_isinstance (pa_cons (pv 0) (pa_cons (pe_bltn (v := .ty "str") (by rfl) T.str PyProof.Rows.boot_str rfl) pa_nil)))
            (pe_callB call_isi (by rfl) T.isinstance PyProof.Rows.boot_isinstance (pa_cons (pv 1) (pa_cons (pe_bltn (v := .ty "str") (by rfl) T.str PyProof.Rows.boot_str rfl) pa_nil))) (nomark _)))))) pss_nil)
      (pss_one ps_never)), ?_⟩
    refine ⟨d, rfl, by show 2 ≤ sizeLine; decide, fun p hp => ?_⟩
    have s1 := same_upd (o := .tup [V.ty "tuple", V.ty "list"]) hp
    refine ⟨d, p, _, _, _, false, rfl, upd_same, .cons (.ty _) (.cons (.ty _) .nil), ty_flat fd', isi_seq fd', _, rfl, ?_⟩
    refine iteF ?_
    rcases fd' with rfl | ⟨y, rfl⟩
    · have fd' : flat2 .non := .inl rfl
      refine ⟨.non, rfl, rfl, _, rfl, iteT ?_⟩
      refine iteT ?_
      refine ⟨v, rfl, .non, rfl, scal_flat fv fd', ?_⟩
      by_cases e : v = .non
      · have hq := q _ s1
        rw [decide_eq_true e] at hq
        rw [decide_eq_true e]
        refine ⟨true, rfl, iteT ?_⟩
        refine ⟨v, rfl, v, .ty "str", _, _, _, rfl, .ty _, ty_flat fv, isi_str fv, _, rfl, _, .ty "str", _, _, _, rfl, .ty _, ty_flat fd', isi_str fd', rfl, ?_⟩
        rw [e, decide_eq_true rfl]
        exact hq
      · have hq := q _ s1
        rw [decide_eq_false e] at hq
        rw [decide_eq_false e]
        exact ⟨false, rfl, iteF hq⟩
    · have fd' : flat2 (.str y) := .inr ⟨y, rfl⟩
      refine ⟨.str y, rfl, rfl, _, rfl, iteF ?_⟩
      refine ⟨.str y, rfl, .str y, .ty "str", _, _, _, rfl, .ty _, ty_flat fd', isi_str fd', true, rfl, ?_⟩
      refine iteT ?_
      refine ⟨v, rfl, .str y, rfl, scal_flat fv fd', ?_⟩
      by_cases e : v = .str y
      · have hq := q _ s1
        rw [decide_eq_true e] at hq
        rw [decide_eq_true e]
        refine ⟨true, rfl, iteT ?_⟩
        refine ⟨v, rfl, v, .ty "str", _, _, _, rfl, .ty _, ty_flat fv, isi_str fv, _, rfl, _, .ty "str", _, _, _, rfl, .ty _, ty_flat fd', isi_str fd', rfl, ?_⟩
        rw [e, decide_eq_true rfl]
        exact hq
      · have hq := q _ s1
        rw [decide_eq_false e] at hq
        rw [decide_eq_false e]
        exact ⟨false, rfl, iteF hq⟩
end
end Pb

namespace Pb
open PySem PySem.Spec PyProof.Rows L2 Pal
theorem str_abcd : Str.ofString "abcd" = tx [97, 98, 99, 100] := by decide +kernel
theorem bld_pow (p : List Nat) : (bld p).length + 1 ≤ 2 ^ p.length := by
  induction p using snoc_ind with
  | h0 => exact Nat.le_refl 1
  | hs q x ih =>
    have h := len_step_le q x
    rw [List.length_append]
    show _ ≤ 2 ^ (q.length + 1)
    rw [Nat.pow_succ]
    omega
theorem bld_six {p : List Nat} (h : p.length ≤ 6) : (bld p).length ≤ 63 := by
  have h1 := bld_pow p
  have h2 : 2 ^ p.length ≤ 2 ^ 6 := Nat.pow_le_pow_right (by decide) h
  have h3 : (2 : Nat) ^ 6 = 64 := rfl
  omega
theorem ext_sub {l : List Nat} {k x : Nat} (h : x ∈ ext l k) : x ∈ l := by
  unfold ext at h
  rcases List.mem_append.mp h with h | h
  · exact h
  · exact List.mem_of_mem_take (List.mem_reverse.mp h)
theorem bld_sub (p : List Nat) : ∀ x, x ∈ bld p → x ∈ p := by
  induction p using snoc_ind with
  | h0 => intro x h; exact h
  | hs q y ih =>
    intro x h
    rw [bld_snoc] at h
    have h1 := ext_sub h
    rcases List.mem_append.mp h1 with h1 | h1
    · exact List.mem_append_left _ (ih x h1)
    · exact List.mem_append_right _ h1
theorem okW_bld {p : List Nat} (h : okW p) : okW (bld p) := fun c hc => h c (bld_sub p c hc)
theorem okW_app {a b : List Nat} (h : okW a) (g : okW b) : okW (a ++ b) := fun z hz => (List.mem_append.mp hz).elim (fun x => h z x) (fun x => g z x)
theorem okW_take {a : List Nat} (h : okW a) (n : Nat) : okW (a.take n) := fun z hz => h z (List.mem_of_mem_take hz)
theorem okW_drop {a : List Nat} (h : okW a) (n : Nat) : okW (a.drop n) := fun z hz => h z (List.mem_of_mem_drop hz)
theorem okW_rev {a : List Nat} (h : okW a) : okW a.reverse := fun z hz => h z (List.mem_reverse.mp hz)
theorem planV_flat (l : List Nat) : flat2 (planV l) := by
  unfold planV
  by_cases e : bld (pf l) = l
  · rw [if_pos e]
    exact .inr ⟨_, rfl⟩
  · rw [if_neg e]
    exact .inl rfl
section
variable {P : Program} {w : World} {K : PySem.W.Frag} {mg : Str → Option Value} {base : Heap}
def spLaw (K : PySem.W.Frag) : Sp := fun vs H Q _ => ∃ (a : Addr) (ns : List Int), vs = [.ref a] ∧ SqL K H a (ns.map V.int) ∧ ns.length ≤ 63 ∧ ∀ H', Q (.bl true) H'
theorem ok_law {f fT fP fPl fWo fBu fAl fPo : Addr} {fd fdT fdP fdPl fdWo fdBu fdAl fdPo : FuncData} {k : Nat} (F : Fun K "law" "law" sLaw f fd) (T : Tp mg)
    (GT : FnOk P w K mg base CX0 k fT fdT ["_law_row", "_law_many"] (spTk K)) (gT : mg "_law_taken" = some (.ref fT)) (kT : PySem.W.keepIn K (.ref fT) = true) (bT : Binds K fdT ["_law_row", "_law_many"] [])
    (GP : FnOk P w K mg base CX0 k fP fdP ["_law_row", "_law_things"] (spPk K)) (gP : mg "_law_pick" = some (.ref fP)) (kP : PySem.W.keepIn K (.ref fP) = true) (bP : Binds K fdP ["_law_row", "_law_things"] [])
    (GPl : FnOk P w K mg base CX0 k fPl fdPl ["_law_row", "_law_most", "_law_many"] (spPl K)) (gPl : mg "_law_plan" = some (.ref fPl)) (kPl : PySem.W.keepIn K (.ref fPl) = true) (bPl : Binds K fdPl ["_law_row", "_law_most", "_law_many"] [])
    (GWo : FnOk P w K mg base CX0 k fWo fdWo ["_law_row", "_law_most", "_law_many"] (spWo K)) (gWo : mg "_law_word_of" = some (.ref fWo)) (kWo : PySem.W.keepIn K (.ref fWo) = true) (bWo : Binds K fdWo ["_law_row", "_law_most", "_law_many"] [])
    (GBu : FnOk P w K mg base CX0 k fBu fdBu ["_law_plan_here"] spBu) (gBu : mg "_law_build" = some (.ref fBu)) (kBu : PySem.W.keepIn K (.ref fBu) = true) (bBu : Binds K fdBu ["_law_plan_here"] [])
    (GAl : FnOk P w K mg base CX0 k fAl fdAl ["_law_found", "_law_due"] spAl) (gAl : mg "_law_alike" = some (.ref fAl)) (kAl : PySem.W.keepIn K (.ref fAl) = true) (bAl : Binds K fdAl ["_law_found", "_law_due"] [])
    (GPo : FnOk P w K mg base CX0 k fPo fdPo ["word"] spPo) (gPo : mg "plan_of" = some (.ref fPo)) (kPo : PySem.W.keepIn K (.ref fPo) = true) (bPo : Binds K fdPo ["word"] []) :
    FnOk P w K mg base CX0 (k + 1) f fd ["_law_script"] (spLaw K) := by
  refine F.ok scLaw (fun vs H Q E h => ?_) (fun cdv A outer s H vs Q E hr h => ?_)
  · obtain ⟨a, ns, rfl, _⟩ := h
    rfl
  · obtain ⟨a, ns, rfl, hS, hn, q⟩ := h
    refine ⟨_, pss_cons (ps_set (i := 1) scLaw.nd rfl (.inl rfl) (pe_lst (pa_cons (pv 0) (pa_cons pe_int (pa_cons pe_int (pa_cons pe_int pa_nil))))))
      (pss_cons (ps_set (i := 2) scLaw.nd rfl (.inl rfl) (pe_call GT hr (by rfl) gT kT bT .nil pass0 (pa_cons (pv 1) (pa_cons pe_int pa_nil))))
      (pss_cons (ps_set (i := 3) scLaw.nd rfl (.inl rfl) (pe_call GBu hr (by rfl) gBu kBu bBu .nil pass0 (pa_cons (pe_call GPl hr (by rfl) gPl kPl bPl .nil pass0 (pa_cons (pv 1) (pa_cons pe_int (pa_cons pe_int pa_nil)))) pa_nil)))
      (C8.pss_cut (ps_if (pt_cmpR op_eq (pv 2) pe_int (nomark _))
          (pss_cons (ps_set (i := 4) scLaw.nd rfl (.inl rfl) (pe_call GWo hr (by rfl) gWo kWo bWo .nil pass0 (pa_cons (pv 1) (pa_cons pe_int (pa_cons (pe_op op_add pe_int (pe_call GT hr (by rfl) gT kT bT .nil pass0 (pa_cons (pv 1) (pa_cons pe_int pa_nil)))) pa_nil)))))
          (pss_one (ps_set (i := 3) scLaw.nd rfl (.inl rfl) (pe_op op_add_str (pv 4) (pe_slice sl_str (pe_revS (pv 4)) (po_some (pe_call GT hr (by rfl) gT kT bT .nil pass0 (pa_cons (pv 1) (pa_cons pe_int pa_nil)))) po_none))))) pss_nil)
      (C8.pss_cut (ps_if (PW.pt (pw_and (pt_cmpR op_eq (pv 2) pe_int (nomark _)) (pw_and1 (pt_cmpR op_ne (pv 3) pe_str (nomark _)))))
          (pss_cons (ps_set (i := 5) scLaw.nd rfl (.inl rfl) (pe_call GT hr (by rfl) gT kT bT .nil pass0 (pa_cons (pv 1) (pa_cons (pe_callB call_len_str (by rfl) T.len PySem.boot_len (pa_cons (pv 3) pa_nil)) pa_nil))))
          (pss_one (ps_set (i := 3) scLaw.nd rfl (.inl rfl) (pe_op op_add_str (pe_op op_add_str (pe_slice sl_str (pv 3) po_none (po_some (pv 5))) (pe_call GP hr (by rfl) gP kP bP .nil pass0 (pa_cons (pv 1) (pa_cons pe_str pa_nil)))) (pe_slice sl_str (pv 3) (po_some (pe_op op_add (pv 5) pe_int)) po_none))))) pss_nil)
      (pss_cons (ps_set (i := 6) scLaw.nd rfl (.inl rfl) pe_str)
      (pss_cons (ps_for PassesOwn.never rfl (pi_range1 rfl T.range (pa_cons (pe_callB call_len_str (by rfl) T.len PySem.boot_len (pa_cons (pv 3) pa_nil)) pa_nil)) (pg_name (i := 7) scLaw.nd rfl (.inl rfl))
        (pss_one (ps_if (pt_cmpR op_eq (pe_slice sl_str (pv 3) po_none (po_some (pv 7))) (pe_revS (pe_slice sl_str (pv 3) po_none (po_some (pv 7)))) (nomark _))
          (pss_one (ps_set (i := 6) scLaw.nd rfl (.inl rfl) (pe_op op_add_str (pv 6) (pe_ix ix_str (pv 3) (pv 7) (fun _ _ => rfl))))) pss_nil)))
      (pss_one (ps_ret (pe_call GAl hr (by rfl) gAl kAl bAl .nil pass0 (pa_cons (pe_call GPo hr (by rfl) gPo kPo bPo .nil pass0 (pa_cons (pv 3) pa_nil))
        (pa_cons (pe_ifExp (pt_cmpR op_eq (pe_call GBu hr (by rfl) gBu kBu bBu .nil pass0 (pa_cons (pv 6) pa_nil)) (pv 3) (nomark _)) (pv 6) pe_non) pa_nil))))))))))), ?_⟩
    -- the row
    refine ⟨.ref a, rfl, by show 4 ≤ sizeLine; decide, fun row nrow => ?_⟩
    have R : RowAt K (upd H row (.lst [.ref a, .int 0, .int 4503, .int 0])) row a ns := ⟨(same_upd nrow).seq hS, hn, 0, 4503, 0, upd_same, by decide⟩
    -- the way
    refine ⟨.ref row, rfl, row, a, ns, 3, rfl, R, by decide, by decide, fun way H1 w0 w1 R1 B1 => ?_⟩
    -- the word
    refine ⟨.ref row, rfl, row, a, ns, 6, 3, rfl, R1, by decide, by decide, by decide, fun p H2 op hp R2 B2 => ?_⟩
    have hb := bld_six hp
    refine ⟨p, rfl, by omega, ?_⟩
    have ob := okW_bld op
    -- way 0
    refine ⟨fun σ H' => ∃ (l : List Nat) (y4 : Option V), σ = [some (.ref a), some (.ref row), some (.int way), some (.str (tx l)), y4, none, none, none] ∧ okW l ∧ l.length ≤ 63 ∧ RowAt K H' row a ns, ?_, fun σ H' hM => ?_⟩
    · refine ⟨_, rfl, rfl, _, rfl, ite2 (fun c => ?_) (fun c => ?_)⟩
      · refine ⟨.ref row, rfl, .ref row, rfl, row, a, ns, 2, rfl, R2, by decide, by decide, fun t H3 t0 t1 R3 B3 => ?_⟩
        obtain ⟨n, rfl⟩ : ∃ n : Nat, t = (n : Int) := ⟨t.toNat, by omega⟩
        refine ⟨2, (n : Int), rfl, rfl, row, a, ns, 6, 2 + n, rfl, R3, by decide, by omega, by omega, fun l H4 ol hl R4 => ?_⟩
        have hll : l.length ≤ sizeLine := line_le (by omega)
        refine ⟨.str (tx l), rfl, .str (tx l), rfl, l, rfl, hll, .ref row, rfl, row, a, ns, 2, rfl, R4, by decide, by decide, fun t H5 u0 u1 R5 B5 => ?_⟩
        obtain ⟨m, rfl⟩ : ∃ m : Nat, t = (m : Int) := ⟨t.toNat, by omega⟩
        have hd : (l.reverse.drop m).length ≤ l.length := by rw [List.length_drop, List.length_reverse]; omega
        refine ⟨(m : Int), rfl, tx l.reverse, rfl, by rw [tx_len, List.length_reverse]; exact hll, tx l, tx (l.reverse.drop m), rfl, (by rw [cut_tail]), ?_, ?_⟩
        · rw [tx_len, tx_len]
          exact line_le (by omega)
        · rw [tx_app]
          exact ⟨_, _, rfl, okW_app ol (okW_drop (okW_rev ol) m), by rw [List.length_append]; omega, R5⟩
      · exact ⟨bld p, _, rfl, ob, hb, R2⟩
    obtain ⟨l, y4, rfl, ol, hl, R3⟩ := hM
    -- way 1
    refine ⟨fun σ H' => ∃ (l : List Nat) (y4 y5 : Option V), σ = [some (.ref a), some (.ref row), some (.int way), some (.str (tx l)), y4, y5, none, none] ∧ okW l ∧ l.length ≤ 63, ?_, fun σ H' hM => ?_⟩
    · have hll : l.length ≤ sizeLine := line_le (by omega)
      refine ⟨_, rfl, rfl, _, rfl, ite2 (fun c => ?_) (fun c => ?_)⟩
      · refine ⟨.str (tx l), rfl, rfl, _, rfl, ite2 (fun c2 => ?_) (fun c2 => ?_)⟩
        · have hne : l ≠ [] := fun z => by
            rw [z, str_empty, decide_eq_true rfl] at c2
            exact Bool.noConfusion c2
          have h0 : 0 < l.length := List.length_pos_iff.mpr hne
          refine ⟨.ref row, rfl, .str (tx l), rfl, tx l, rfl, hll, row, a, ns, (l.length : Int), rfl, R3, by omega, by omega, fun t H5 u0 u1 R5 B5 => ?_⟩
          obtain ⟨m, rfl⟩ : ∃ m : Nat, t = (m : Int) := ⟨t.toNat, by omega⟩
          have hm : m < l.length := by omega
          have h1 : (l.take m).length = m := by rw [List.length_take]; omega
          have h2 : (l.drop (m + 1)).length = l.length - (m + 1) := List.length_drop
          refine ⟨.str (tx l), rfl, .int (m : Int), rfl, (m : Int), rfl, tx l, rfl, hll, .ref row, rfl, row, a, ns, [97, 98, 99, 100], (by rw [str_abcd] <;> rfl), R5, by decide, by decide, fun c' H6 hc' R6 B6 => ?_⟩
          have oc : okW [c'] := by
            have : c' = 97 ∨ c' = 98 ∨ c' = 99 ∨ c' = 100 := by simpa using hc'
            exact okW_one (by omega) (by omega)
          refine ⟨tx (l.take m), tx [c'], (by rw [cut_head]), rfl, ?_, .str (tx l), rfl, .int (m : Int), rfl, (m : Int), 1, rfl, rfl, ((m + 1 : Nat) : Int), rfl, tx l, rfl, hll, tx (l.take m ++ [c']), tx (l.drop (m + 1)), (by rw [tx_app]), (by rw [cut_tail]), ?_, ?_⟩
          · rw [tx_len, tx_len, h1]
            exact line_le (by show m + 1 ≤ 1000000; omega)
          · rw [tx_len, tx_len, List.length_append, h1, h2]
            exact line_le (by show m + 1 + (l.length - (m + 1)) ≤ 1000000; omega)
          · rw [tx_app]
            refine ⟨_, _, _, rfl, okW_app (okW_app (okW_take ol m) oc) (okW_drop ol (m + 1)), ?_⟩
            rw [List.length_append, List.length_append, h1, h2]
            show m + 1 + (l.length - (m + 1)) ≤ 63
            omega
        · exact ⟨l, _, _, rfl, ol, hl⟩
      · exact ⟨l, _, _, rfl, ol, hl⟩
    obtain ⟨l, y4, y5, rfl, ol, hl⟩ := hM
    have hll : l.length ≤ sizeLine := line_le (by omega)
    -- the letters behind mirrors
    refine ⟨.str (tx l), rfl, tx l, rfl, hll, (l.length : Int), rfl, by omega, by omega, ?_⟩
    refine for_it (walk_range (lo := 0) (n := (l.length : Int).toNat)) (fun i σ H2 => ∃ y7, σ = [some (.ref a), some (.ref row), some (.int way), some (.str (tx l)), y4, y5, some (.str (tx (pfN l i))), y7] ∧ H2 = H') ⟨none, ?_, rfl⟩ (fun _ _ _ _ _ => trivial) (fun i x σ H1 H2 hi hP hY => ?_) (fun σ H2 hP => ?_)
    · show [some (V.ref a), some (V.ref row), some (V.int way), some (V.str (tx l)), y4, y5, some (V.str (Str.ofString "")), none] = _
      rw [str_empty]
      rfl
    · obtain ⟨y7, rfl, rfl⟩ := hP
      obtain ⟨rfl, hx⟩ := hY
      have hi' : i < l.length := by omega
      have hx' : x = .int (i : Nat) := hx.trans (congrArg V.int (Int.zero_add _))
      subst hx'
      have hlt : (l.take i).length ≤ l.length := by rw [List.length_take]; exact Nat.min_le_right _ _
      refine ⟨.str (tx l), rfl, .int (i : Nat), rfl, (i : Nat), rfl, tx l, rfl, hll, .str (tx l), rfl, .int (i : Nat), rfl, (i : Nat), rfl, tx l, rfl, hll, l.take i, (by rw [cut_head]), Nat.le_trans hlt hll, rfl, _, rfl, ?_⟩
      rw [cut_head, mir_dec]
      refine ite2 (fun c => ?_) (fun c => ?_)
      · have c' : pal (l.take i) := of_decide_eq_true c
        have eg : l[i]? = some l[i] := List.getElem?_eq_getElem hi'
        have hn := pfN_len l i
        refine ⟨.str (tx (pfN l i)), rfl, .str (tx l), rfl, .int (i : Nat), rfl, tx l, (i : Nat), l[i], rfl, rfl, hll, atI_nat eg, tx (pfN l i), tx [l[i]], rfl, rfl, ?_, ?_⟩
        · rw [tx_len, tx_len]
          exact line_le (by show (pfN l i).length + 1 ≤ 1000000; omega)
        · have en : pfN l (i + 1) = pfN l i ++ [l[i]] := by rw [pfN_succ, if_pos c', eg]; rfl
          rw [tx_app, ← en]
          exact ⟨_, rfl, rfl⟩
      · have c' : ¬ pal (l.take i) := fun z => c (decide_eq_true z)
        have en : pfN l (i + 1) = pfN l i := by rw [pfN_succ, if_neg c']
        exact ⟨some (.int (i : Nat)), by rw [en]; rfl, rfl⟩
    · obtain ⟨y7, rfl, rfl⟩ := hP
      rw [Int.toNat_natCast]
      have nb := noted_bound l
      refine ⟨.str (tx l), rfl, l, rfl, ol, by omega, fun H3 sm3 => ?_⟩
      refine ⟨.str (tx (pf l)), rfl, pf l, rfl, by omega, .str (tx l), rfl, rfl, _, rfl, ite2 (fun c => ?_) (fun c => ?_)⟩
      · have e : bld (pf l) = l := tx_inj (V.str.inj (of_decide_eq_true c))
        have ev : planV l = .str (tx (pf l)) := by unfold planV; rw [if_pos e]
        refine ⟨.str (tx (pf l)), rfl, planV l, .str (tx (pf l)), rfl, planV_flat l, ev ▸ planV_flat l, fun H4 sm4 => ?_⟩
        rw [ev, decide_eq_true rfl]
        exact q _
      · have e : ¬ bld (pf l) = l := fun z => c (by rw [z, decide_eq_true rfl])
        have ev : planV l = .non := by unfold planV; rw [if_neg e]
        refine ⟨planV l, .non, rfl, planV_flat l, .inl rfl, fun H4 sm4 => ?_⟩
        rw [ev, decide_eq_true rfl]
        exact q _
end
end Pb

namespace Pb
open PySem PySem.Spec PyProof.Rows L2 Pal
/-! ### what the top has written; the law's own head -/
theorem all_mk {l : PySem.W.OpenLaw} {w : World} {K : PySem.W.Frag} {h : Heap} {mg : Str → Option Value} {fa : Addr} (X : K.In h) (G : h.Ns mainGlobals mg) (hfa : mg "law" = some (.ref fa))
    {fFw fNw fMir fLen fBo fPf fPo fTk fPk fAl fPl fWo fCl fBu fLaw : Addr} {odFw anFw odNw anNw odMir anMir odLen anLen odBo anBo odPf anPf odPo anPo odTk anTk odPk anPk odAl anAl odPl anPl odWo anWo odCl anCl odBu anBu odLaw anLaw : Option Addr} {slFw slNw slMir slLen slBo slPf slPo slTk slPk slAl slPl slWo slCl slBu slLaw : Array (Option Value)}
    {ocFw kVFw dcFw pmFw cdFw ctFw ocNw kVNw dcNw pmNw cdNw ctNw ocMir kVMir dcMir pmMir cdMir ctMir ocLen kVLen dcLen pmLen cdLen ctLen ocBo kVBo dcBo pmBo cdBo ctBo ocPf kVPf dcPf pmPf cdPf ctPf ocPo kVPo dcPo pmPo cdPo ctPo ocTk kVTk dcTk pmTk cdTk ctTk ocPk kVPk dcPk pmPk cdPk ctPk ocAl kVAl dcAl pmAl cdAl ctAl ocPl kVPl dcPl pmPl cdPl ctPl ocWo kVWo dcWo pmWo cdWo ctWo ocCl kVCl dcCl pmCl cdCl ctCl ocBu kVBu dcBu pmBu cdBu ctBu ocLaw kVLaw dcLaw pmLaw cdLaw ctLaw : Value} {tL tM : Tok}
    (aFw : PySem.W.nsIn K mainGlobals "first_wrong" = some (some (.ref fFw))) (lFw : K.lookup fFw = some ⟨ocFw, odFw, .func (PySem.W.fnOf "first_wrong" "first_wrong" (defArgs sFw) (defBody sFw) (defScope sFw) .none kVFw dcFw pmFw anFw cdFw ctFw), slFw⟩) (cFw : PySem.W.codeIn K cdFw "first_wrong" = true) (kFw : PySem.W.keepIn K (.ref fFw) = true)
    (aNw : PySem.W.nsIn K mainGlobals "need_word" = some (some (.ref fNw))) (lNw : K.lookup fNw = some ⟨ocNw, odNw, .func (PySem.W.fnOf "need_word" "need_word" (defArgs sNw) (defBody sNw) (defScope sNw) .none kVNw dcNw pmNw anNw cdNw ctNw), slNw⟩) (cNw : PySem.W.codeIn K cdNw "need_word" = true) (kNw : PySem.W.keepIn K (.ref fNw) = true)
    (aMir : PySem.W.nsIn K mainGlobals "is_mirror_of" = some (some (.ref fMir))) (lMir : K.lookup fMir = some ⟨ocMir, odMir, .func (PySem.W.fnOf "is_mirror_of" "is_mirror_of" (defArgs sMir) (defBody sMir) (defScope sMir) .none kVMir dcMir pmMir anMir cdMir ctMir), slMir⟩) (cMir : PySem.W.codeIn K cdMir "is_mirror_of" = true) (kMir : PySem.W.keepIn K (.ref fMir) = true)
    (aLen : PySem.W.nsIn K mainGlobals "lengths_of" = some (some (.ref fLen))) (lLen : K.lookup fLen = some ⟨ocLen, odLen, .func (PySem.W.fnOf "lengths_of" "lengths_of" (defArgs sLen) (defBody sLen) (defScope sLen) .none kVLen dcLen pmLen anLen cdLen ctLen), slLen⟩) (cLen : PySem.W.codeIn K cdLen "lengths_of" = true) (kLen : PySem.W.keepIn K (.ref fLen) = true)
    (aBo : PySem.W.nsIn K mainGlobals "build_of" = some (some (.ref fBo))) (lBo : K.lookup fBo = some ⟨ocBo, odBo, .func (PySem.W.fnOf "build_of" "build_of" (defArgs sBo) (defBody sBo) (defScope sBo) .none kVBo dcBo pmBo anBo cdBo ctBo), slBo⟩) (cBo : PySem.W.codeIn K cdBo "build_of" = true) (kBo : PySem.W.keepIn K (.ref fBo) = true)
    (aPf : PySem.W.nsIn K mainGlobals "plan_from" = some (some (.ref fPf))) (lPf : K.lookup fPf = some ⟨ocPf, odPf, .func (PySem.W.fnOf "plan_from" "plan_from" (defArgs sPf) (defBody sPf) (defScope sPf) .none kVPf dcPf pmPf anPf cdPf ctPf), slPf⟩) (cPf : PySem.W.codeIn K cdPf "plan_from" = true) (kPf : PySem.W.keepIn K (.ref fPf) = true)
    (aPo : PySem.W.nsIn K mainGlobals "plan_of" = some (some (.ref fPo))) (lPo : K.lookup fPo = some ⟨ocPo, odPo, .func (PySem.W.fnOf "plan_of" "plan_of" (defArgs sPo) (defBody sPo) (defScope sPo) .none kVPo dcPo pmPo anPo cdPo ctPo), slPo⟩) (cPo : PySem.W.codeIn K cdPo "plan_of" = true) (kPo : PySem.W.keepIn K (.ref fPo) = true)
    (aTk : PySem.W.nsIn K mainGlobals "_law_taken" = some (some (.ref fTk))) (lTk : K.lookup fTk = some ⟨ocTk, odTk, .func (PySem.W.fnOf "_law_taken" "_law_taken" (defArgs sTk) (defBody sTk) (defScope sTk) .none kVTk dcTk pmTk anTk cdTk ctTk), slTk⟩) (cTk : PySem.W.codeIn K cdTk "_law_taken" = true) (kTk : PySem.W.keepIn K (.ref fTk) = true)
    (aPk : PySem.W.nsIn K mainGlobals "_law_pick" = some (some (.ref fPk))) (lPk : K.lookup fPk = some ⟨ocPk, odPk, .func (PySem.W.fnOf "_law_pick" "_law_pick" (defArgs sPk) (defBody sPk) (defScope sPk) .none kVPk dcPk pmPk anPk cdPk ctPk), slPk⟩) (cPk : PySem.W.codeIn K cdPk "_law_pick" = true) (kPk : PySem.W.keepIn K (.ref fPk) = true)
    (aAl : PySem.W.nsIn K mainGlobals "_law_alike" = some (some (.ref fAl))) (lAl : K.lookup fAl = some ⟨ocAl, odAl, .func (PySem.W.fnOf "_law_alike" "_law_alike" (defArgs sAl) (defBody sAl) (defScope sAl) .none kVAl dcAl pmAl anAl cdAl ctAl), slAl⟩) (cAl : PySem.W.codeIn K cdAl "_law_alike" = true) (kAl : PySem.W.keepIn K (.ref fAl) = true)
    (aPl : PySem.W.nsIn K mainGlobals "_law_plan" = some (some (.ref fPl))) (lPl : K.lookup fPl = some ⟨ocPl, odPl, .func (PySem.W.fnOf "_law_plan" "_law_plan" (defArgs sPl) (defBody sPl) (defScope sPl) .none kVPl dcPl pmPl anPl cdPl ctPl), slPl⟩) (cPl : PySem.W.codeIn K cdPl "_law_plan" = true) (kPl : PySem.W.keepIn K (.ref fPl) = true)
    (aWo : PySem.W.nsIn K mainGlobals "_law_word_of" = some (some (.ref fWo))) (lWo : K.lookup fWo = some ⟨ocWo, odWo, .func (PySem.W.fnOf "_law_word_of" "_law_word_of" (defArgs sWo) (defBody sWo) (defScope sWo) .none kVWo dcWo pmWo anWo cdWo ctWo), slWo⟩) (cWo : PySem.W.codeIn K cdWo "_law_word_of" = true) (kWo : PySem.W.keepIn K (.ref fWo) = true)
    (aCl : PySem.W.nsIn K mainGlobals "_law_close" = some (some (.ref fCl))) (lCl : K.lookup fCl = some ⟨ocCl, odCl, .func (PySem.W.fnOf "_law_close" "_law_close" (defArgs sCl) (defBody sCl) (defScope sCl) .none kVCl dcCl pmCl anCl cdCl ctCl), slCl⟩) (cCl : PySem.W.codeIn K cdCl "_law_close" = true) (kCl : PySem.W.keepIn K (.ref fCl) = true)
    (aBu : PySem.W.nsIn K mainGlobals "_law_build" = some (some (.ref fBu))) (lBu : K.lookup fBu = some ⟨ocBu, odBu, .func (PySem.W.fnOf "_law_build" "_law_build" (defArgs sBu) (defBody sBu) (defScope sBu) .none kVBu dcBu pmBu anBu cdBu ctBu), slBu⟩) (cBu : PySem.W.codeIn K cdBu "_law_build" = true) (kBu : PySem.W.keepIn K (.ref fBu) = true)
    (aLaw : PySem.W.nsIn K mainGlobals "law" = some (some (.ref fLaw))) (lLaw : K.lookup fLaw = some ⟨ocLaw, odLaw, .func (PySem.W.fnOf "law" "law" (defArgs sLaw) (defBody sLaw) (defScope sLaw) .none kVLaw dcLaw pmLaw anLaw cdLaw ctLaw), slLaw⟩) (cLaw : PySem.W.codeIn K cdLaw "law" = true) (kLaw : PySem.W.keepIn K (.ref fLaw) = true)
    (zL : PySem.W.nsIn K mainGlobals "LETTERS" = some (some (.str (Str.ofString "abcde") tL))) (zM : PySem.W.nsIn K mainGlobals "MOST_WORD" = some (some (.int 2000 tM)))
    (z0 : PySem.W.nsIn K mainGlobals "enumerate" = some none) (z1 : PySem.W.nsIn K mainGlobals "isinstance" = some none) (z2 : PySem.W.nsIn K mainGlobals "str" = some none) (z3 : PySem.W.nsIn K mainGlobals "len" = some none) (z4 : PySem.W.nsIn K mainGlobals "range" = some none) (z5 : PySem.W.nsIn K mainGlobals "int" = some none) (z6 : PySem.W.nsIn K mainGlobals "tuple" = some none) (z7 : PySem.W.nsIn K mainGlobals "list" = some none) :
    ∃ fd : FuncData, (∀ (s : Shared) (v : Value), BindsTo s fd ⟨[v], []⟩ [("_law_script", v)]) ∧ ∀ base : Heap, K.In base → base.Ns mainGlobals mg → FnOk l.prog w K mg base CX0 4 fa fd ["_law_script"] (spLaw K) := by
  have e := hfa.symm.trans (PySem.W.mg_of X G aLaw)
  cases e
  have T : Tp mg := { gL := ⟨_, PySem.W.mg_of X G zL⟩, gM := ⟨_, PySem.W.mg_of X G zM⟩, enumerate := PySem.W.mg_none_of X G z0, isinstance := PySem.W.mg_none_of X G z1, str := PySem.W.mg_none_of X G z2, len := PySem.W.mg_none_of X G z3, range := PySem.W.mg_none_of X G z4, int := PySem.W.mg_none_of X G z5, tuple := PySem.W.mg_none_of X G z6, list := PySem.W.mg_none_of X G z7 }
  have FFw := fun_mk (st := sFw) lFw cFw kFw
  have bFw := FFw.binds (ps := ["value"]) fun _ _ _ _ _ _ us hl => match us, hl with | [_], _ => rfl
  have gFw := PySem.W.mg_of X G aFw
  have FNw := fun_mk (st := sNw) lNw cNw kNw
  have bNw := FNw.binds (ps := ["value"]) fun _ _ _ _ _ _ us hl => match us, hl with | [_], _ => rfl
  have gNw := PySem.W.mg_of X G aNw
  have FMir := fun_mk (st := sMir) lMir cMir kMir
  have bMir := FMir.binds (ps := ["word"]) fun _ _ _ _ _ _ us hl => match us, hl with | [_], _ => rfl
  have gMir := PySem.W.mg_of X G aMir
  have FLen := fun_mk (st := sLen) lLen cLen kLen
  have bLen := FLen.binds (ps := ["plan"]) fun _ _ _ _ _ _ us hl => match us, hl with | [_], _ => rfl
  have gLen := PySem.W.mg_of X G aLen
  have FBo := fun_mk (st := sBo) lBo cBo kBo
  have bBo := FBo.binds (ps := ["plan"]) fun _ _ _ _ _ _ us hl => match us, hl with | [_], _ => rfl
  have gBo := PySem.W.mg_of X G aBo
  have FPf := fun_mk (st := sPf) lPf cPf kPf
  have bPf := FPf.binds (ps := ["word"]) fun _ _ _ _ _ _ us hl => match us, hl with | [_], _ => rfl
  have gPf := PySem.W.mg_of X G aPf
  have FPo := fun_mk (st := sPo) lPo cPo kPo
  have bPo := FPo.binds (ps := ["word"]) fun _ _ _ _ _ _ us hl => match us, hl with | [_], _ => rfl
  have gPo := PySem.W.mg_of X G aPo
  have FTk := fun_mk (st := sTk) lTk cTk kTk
  have bTk := FTk.binds (ps := ["_law_row", "_law_many"]) fun _ _ _ _ _ _ us hl => match us, hl with | [_, _], _ => rfl
  have gTk := PySem.W.mg_of X G aTk
  have FPk := fun_mk (st := sPk) lPk cPk kPk
  have bPk := FPk.binds (ps := ["_law_row", "_law_things"]) fun _ _ _ _ _ _ us hl => match us, hl with | [_, _], _ => rfl
  have gPk := PySem.W.mg_of X G aPk
  have FAl := fun_mk (st := sAl) lAl cAl kAl
  have bAl := FAl.binds (ps := ["_law_found", "_law_due"]) fun _ _ _ _ _ _ us hl => match us, hl with | [_, _], _ => rfl
  have gAl := PySem.W.mg_of X G aAl
  have FPl := fun_mk (st := sPl) lPl cPl kPl
  have bPl := FPl.binds (ps := ["_law_row", "_law_most", "_law_many"]) fun _ _ _ _ _ _ us hl => match us, hl with | [_, _, _], _ => rfl
  have gPl := PySem.W.mg_of X G aPl
  have FWo := fun_mk (st := sWo) lWo cWo kWo
  have bWo := FWo.binds (ps := ["_law_row", "_law_most", "_law_many"]) fun _ _ _ _ _ _ us hl => match us, hl with | [_, _, _], _ => rfl
  have gWo := PySem.W.mg_of X G aWo
  have FCl := fun_mk (st := sCl) lCl cCl kCl
  have bCl := FCl.binds (ps := ["_law_word"]) fun _ _ _ _ _ _ us hl => match us, hl with | [_], _ => rfl
  have gCl := PySem.W.mg_of X G aCl
  have FBu := fun_mk (st := sBu) lBu cBu kBu
  have bBu := FBu.binds (ps := ["_law_plan_here"]) fun _ _ _ _ _ _ us hl => match us, hl with | [_], _ => rfl
  have gBu := PySem.W.mg_of X G aBu
  have FLaw := fun_mk (st := sLaw) lLaw cLaw kLaw
  refine ⟨PySem.W.fnOf "law" "law" (defArgs sLaw) (defBody sLaw) (defScope sLaw) .none kVLaw dcLaw pmLaw anLaw cdLaw ctLaw, fun s v => .of_eq rfl, fun base _ _ => ?_⟩
  have GFw : FnOk l.prog w K mg base CX0 1 fFw _ ["value"] spFw := ok_fw FFw T
  have GNw : FnOk l.prog w K mg base CX0 2 fNw _ ["value"] spNw := ok_nw FNw T GFw gFw kFw bFw
  have GMi1 : FnOk l.prog w K mg base CX0 1 fMir _ ["word"] spMir := ok_mir FMir
  have GMi2 : FnOk l.prog w K mg base CX0 2 fMir _ ["word"] spMir := ok_mir FMir
  have GLe1 : FnOk l.prog w K mg base CX0 1 fLen _ ["plan"] spLen := ok_len FLen T
  have GLe2 : FnOk l.prog w K mg base CX0 2 fLen _ ["plan"] spLen := ok_len FLen T
  have GBo : FnOk l.prog w K mg base CX0 2 fBo _ ["plan"] spBo := ok_bo FBo T GLe1 gLen kLen bLen
  have GPf : FnOk l.prog w K mg base CX0 2 fPf _ ["word"] spPf := ok_pf FPf T GMi1 gMir kMir bMir
  have GPo : FnOk l.prog w K mg base CX0 3 fPo _ ["word"] spPo := ok_po FPo T GNw gNw kNw bNw GMi2 gMir kMir bMir GPf gPf kPf bPf GLe2 gLen kLen bLen GBo gBo kBo bBo
  have GT2 : FnOk l.prog w K mg base CX0 2 fTk _ ["_law_row", "_law_many"] (spTk K) := ok_tk FTk T
  have GT3 : FnOk l.prog w K mg base CX0 3 fTk _ ["_law_row", "_law_many"] (spTk K) := ok_tk FTk T
  have GPk : FnOk l.prog w K mg base CX0 3 fPk _ ["_law_row", "_law_things"] (spPk K) := ok_pk FPk T GT2 gTk kTk bTk
  have GPl : FnOk l.prog w K mg base CX0 3 fPl _ ["_law_row", "_law_most", "_law_many"] (spPl K) := ok_pl FPl T GT2 gTk kTk bTk
  have GWo : FnOk l.prog w K mg base CX0 3 fWo _ ["_law_row", "_law_most", "_law_many"] (spWo K) := ok_wo FWo T GT2 gTk kTk bTk
  have GCl : FnOk l.prog w K mg base CX0 2 fCl _ ["_law_word"] spCl := ok_cl FCl T
  have GBu : FnOk l.prog w K mg base CX0 3 fBu _ ["_law_plan_here"] spBu := ok_bu FBu T GCl gCl kCl bCl
  have GAl : FnOk l.prog w K mg base CX0 3 fAl _ ["_law_found", "_law_due"] spAl := ok_al FAl T
  exact ok_law FLaw T GT3 gTk kTk bTk GPk gPk kPk bPk GPl gPl kPl bPl GWo gWo kWo bWo GBu gBu kBu bBu GAl gAl kAl bAl GPo gPo kPo bPo
end Pb
open PySem PySem.W PyProof.Rows
set_option maxHeartbeats 0 in
theorem PySem.Challenge.cw_palbuilds_k03_whole_plans_read_back_holds : PySem.Challenge.rw_palbuilds_k03_whole_plans_read_back.Holds := by
  w_on; o_law; k_head; (case hw => w_witness2)
  k_fill
  refine L2.walk_of (l := PySem.Challenge.rw_palbuilds_k03_whole_plans_read_back) (n := 63) (k := 4) (x := "_law_script") (CX := fun _ => L2.CX0) (sp := fun w => Pb.spLaw _) rfl (by decide) rfl ⟨rfl, by decide, by decide⟩ (fun w h Y => PySem.W.kIn_of Y) ?F (fun _ _ a ns hl _ hS => ⟨a, ns, rfl, hS, hl, fun _ => rfl⟩) (fun _ _ _ _ _ h => h)
  case F =>
    intro w mg fa h KX G hmg
    refine' Pb.all_mk KX G hmg ?aFw ?lFw ?cFw ?kFw ?aNw ?lNw ?cNw ?kNw ?aMir ?lMir ?cMir ?kMir ?aLen ?lLen ?cLen ?kLen ?aBo ?lBo ?cBo ?kBo ?aPf ?lPf ?cPf ?kPf ?aPo ?lPo ?cPo ?kPo ?aTk ?lTk ?cTk ?kTk ?aPk ?lPk ?cPk ?kPk ?aAl ?lAl ?cAl ?kAl ?aPl ?lPl ?cPl ?kPl ?aWo ?lWo ?cWo ?kWo ?aCl ?lCl ?cCl ?kCl ?aBu ?lBu ?cBu ?kBu ?aLaw ?lLaw ?cLaw ?kLaw ?zL ?zM ?z0 ?z1 ?z2 ?z3 ?z4 ?z5 ?z6 ?z7
    (case aFw => k_is)
    (case lFw => k_is)
    (case cFw => k_is)
    (case kFw => k_is)
    (case aNw => k_is)
    (case lNw => k_is)
    (case cNw => k_is)
    (case kNw => k_is)
    (case aMir => k_is)
    (case lMir => k_is)
    (case cMir => k_is)
    (case kMir => k_is)
    (case aLen => k_is)
    (case lLen => k_is)
    (case cLen => k_is)
    (case kLen => k_is)
    (case aBo => k_is)
    (case lBo => k_is)
    (case cBo => k_is)
    (case kBo => k_is)
    (case aPf => k_is)
    (case lPf => k_is)
    (case cPf => k_is)
    (case kPf => k_is)
    (case aPo => k_is)
    (case lPo => k_is)
    (case cPo => k_is)
    (case kPo => k_is)
    (case aTk => k_is)
    (case lTk => k_is)
    (case cTk => k_is)
    (case kTk => k_is)
    (case aPk => k_is)
    (case lPk => k_is)
    (case cPk => k_is)
    (case kPk => k_is)
    (case aAl => k_is)
    (case lAl => k_is)
    (case cAl => k_is)
    (case kAl => k_is)
    (case aPl => k_is)
    (case lPl => k_is)
    (case cPl => k_is)
    (case kPl => k_is)
    (case aWo => k_is)
    (case lWo => k_is)
    (case cWo => k_is)
    (case kWo => k_is)
    (case aCl => k_is)
    (case lCl => k_is)
    (case cCl => k_is)
    (case kCl => k_is)
    (case aBu => k_is)
    (case lBu => k_is)
    (case cBu => k_is)
    (case kBu => k_is)
    (case aLaw => k_is)
    (case lLaw => k_is)
    (case cLaw => k_is)
    (case kLaw => k_is)
    (case zL => k_is)
    (case zM => k_is)
    (case z0 => k_is)
    (case z1 => k_is)
    (case z2 => k_is)
    (case z3 => k_is)
    (case z4 => k_is)
    (case z5 => k_is)
    (case z6 => k_is)
    (case z7 => k_is)
