import PyProof.Rows.All
import Wide.All
import OpenK.AllK
import Wide.FinOn
import HandS.ForMost
import HandS.Evl
import HandS.Style
import HandS.TupAny
import HandS.TupMul
import PySem.Challenge.RW_allstitches_k11_whole_families
set_option Elab.async false
set_option linter.all false
set_option maxRecDepth 100000
set_option maxHeartbeats 16000000
/-! The plain law: families of words over lists, no program in sight. -/
namespace K11
variable {α : Type} [DecidableEq α]

/-- a word some times -/
def rep (n : Nat) (w : List α) : List α := (List.replicate n w).flatten
omit [DecidableEq α] in
theorem rep_zero (w : List α) : rep 0 w = [] := rfl
omit [DecidableEq α] in
theorem rep_succ (n : Nat) (w : List α) : rep (n + 1) w = w ++ rep n w := by
  unfold rep
  rw [List.replicate_succ, List.flatten_cons]
omit [DecidableEq α] in
theorem rep_one (w : List α) : rep 1 w = w := by rw [rep_succ, rep_zero, List.append_nil]
omit [DecidableEq α] in
theorem rep_add (m n : Nat) (w : List α) : rep (m + n) w = rep m w ++ rep n w := by
  induction m with
  | zero => rw [Nat.zero_add, rep_zero, List.nil_append]
  | succ m ih => rw [Nat.add_right_comm, rep_succ, rep_succ, ih, List.append_assoc]
omit [DecidableEq α] in
theorem rep_succ' (n : Nat) (w : List α) : rep (n + 1) w = rep n w ++ w := by rw [rep_add, rep_one]
omit [DecidableEq α] in
theorem rep_mul (m n : Nat) (w : List α) : rep m (rep n w) = rep (m * n) w := by
  induction m with
  | zero => rw [Nat.zero_mul, rep_zero, rep_zero]
  | succ m ih => rw [rep_succ, ih, Nat.succ_mul, Nat.add_comm, rep_add]
omit [DecidableEq α] in
theorem rep_len (n : Nat) (w : List α) : (rep n w).length = n * w.length := by
  induction n with
  | zero => rw [rep_zero, Nat.zero_mul]; rfl
  | succ n ih => rw [rep_succ, List.length_append, ih, Nat.succ_mul, Nat.add_comm]
omit [DecidableEq α] in
/-- x (d x)^n = (x d)^n x -/
theorem rep_shift (n : Nat) (x d : List α) : x ++ rep n (d ++ x) = rep n (x ++ d) ++ x := by
  induction n with
  | zero => rw [rep_zero, rep_zero, List.append_nil, List.nil_append]
  | succ n ih =>
    have e : x ++ rep (n + 1) (d ++ x) = (x ++ d) ++ (x ++ rep n (d ++ x)) := by
      rw [rep_succ]; simp only [List.append_assoc]
    rw [e, ih, rep_succ]; simp only [List.append_assoc]

/-- a length at which a word may be turned -/
def good (w : List α) (m : Nat) : Bool := decide (w.length % m = 0) && decide (w.drop m ++ w.take m = w)
theorem good_iff {w : List α} {m : Nat} : good w m = true ↔ w.length % m = 0 ∧ w.drop m ++ w.take m = w := by
  unfold good
  rw [Bool.and_eq_true, decide_eq_true_iff, decide_eq_true_iff]
omit [DecidableEq α] in
theorem rep_of_comm (u : List α) (hu : u ≠ []) : ∀ (k : Nat) (v : List α), v.length = k * u.length → v ++ u = u ++ v → v = rep k u
  | 0, v, hl, _ => by
    rw [Nat.zero_mul] at hl
    rw [rep_zero]
    exact List.eq_nil_of_length_eq_zero hl
  | k + 1, v, hl, hc => by
    have hlen : u.length ≤ v.length := by rw [hl, Nat.succ_mul]; omega
    have e1 : v.take u.length = u := by
      have := congrArg (List.take u.length) hc
      rw [List.take_append_of_le_length hlen, List.take_append_of_le_length (Nat.le_refl _), List.take_length] at this
      exact this
    have e2 : v = u ++ v.drop u.length := by
      conv => lhs; rw [← List.take_append_drop u.length v, e1]
    have e3 : (v.drop u.length).length = k * u.length := by
      rw [List.length_drop, hl, Nat.succ_mul]; omega
    have e4 : v.drop u.length ++ u = u ++ v.drop u.length := by
      have h := hc
      rw [e2, List.append_assoc] at h
      have := List.append_cancel_left h
      rw [this, ← e2]
    have ih := rep_of_comm u hu k (v.drop u.length) e3 e4
    rw [e2, ih, rep_succ]
theorem good_rep {w : List α} {m : Nat} (hm : 1 ≤ m) (hw : m ≤ w.length) (h : good w m = true) : w = rep (w.length / m) (w.take m) := by
  obtain ⟨h1, h2⟩ := good_iff.mp h
  have hl : (w.take m).length = m := by rw [List.length_take]; omega
  have hne : w.take m ≠ [] := fun e => by
    rw [e] at hl
    simp at hl
    omega
  refine rep_of_comm (w.take m) hne _ w ?_ ?_
  · rw [hl]
    exact (Nat.div_mul_cancel (Nat.dvd_of_mod_eq_zero h1)).symm
  · have e := List.take_append_drop m w
    -- w = take ++ drop, drop ++ take = w
    have a1 : w ++ w.take m = w.take m ++ (w.drop m ++ w.take m) := by
      rw [← List.append_assoc, e]
    rw [a1, h2]
theorem rep_good {w : List α} {m n : Nat} (hn : 1 ≤ n) (u : List α) (hu : u.length = m) (e : w = rep n u) : good w m = true := by
  obtain ⟨k, rfl⟩ : ∃ k, n = k + 1 := ⟨n - 1, by omega⟩
  refine good_iff.mpr ⟨?_, ?_⟩
  · rw [e, rep_len, hu]
    exact Nat.mul_mod_left _ _
  · have ed : w.drop m = rep k u := by
      rw [e, rep_succ, ← hu, List.drop_left]
    have et : w.take m = u := by
      rw [e, rep_succ, ← hu, List.take_left]
    rw [ed, et, ← rep_succ', ← e]
theorem good_full (w : List α) : good w w.length = true := good_iff.mpr ⟨Nat.mod_self _, by rw [List.drop_length, List.take_length, List.nil_append]⟩

/-- the least such length from m on, in f tries -/
def rootGo (w : List α) : Nat → Nat → Nat
  | _, 0 => w.length
  | m, f + 1 => if good w m then m else rootGo w (m + 1) f
def rootLen (w : List α) : Nat := rootGo w 1 w.length
def root (w : List α) : List α := w.take (rootLen w)
theorem rootGo_eq (w : List α) (r : Nat) (hr : good w r = true) : ∀ (f m : Nat), m ≤ r → r < m + f → (∀ k, m ≤ k → k < r → good w k = false) → rootGo w m f = r
  | 0, m, h1, h2, _ => by omega
  | f + 1, m, h1, h2, h3 => by
    unfold rootGo
    by_cases e : m = r
    · rw [e, if_pos hr]
    · rw [if_neg (by rw [h3 m (Nat.le_refl _) (by omega)]; decide)]
      exact rootGo_eq w r hr f (m + 1) (by omega) (by omega) fun k a b => h3 k (by omega) b
theorem rootLen_eq {w : List α} {r : Nat} (h1 : 1 ≤ r) (h2 : r ≤ w.length) (h3 : good w r = true) (h4 : ∀ k, 1 ≤ k → k < r → good w k = false) : rootLen w = r :=
  rootGo_eq w r h3 w.length 1 h1 (by omega) h4
theorem least_of (p : Nat → Bool) : ∀ n : Nat, p n = true → 1 ≤ n → ∃ r, 1 ≤ r ∧ r ≤ n ∧ p r = true ∧ ∀ k, 1 ≤ k → k < r → p k = false := by
  intro n
  induction n using Nat.strongRecOn with
  | _ n ih =>
    intro hp hn
    by_cases h : ∃ k, 1 ≤ k ∧ k < n ∧ p k = true
    · obtain ⟨k, a, b, c⟩ := h
      obtain ⟨r, r1, r2, r3, r4⟩ := ih k b c a
      exact ⟨r, r1, by omega, r3, r4⟩
    · refine ⟨n, hn, Nat.le_refl _, hp, fun k a b => ?_⟩
      cases e : p k with
      | false => rfl
      | true => exact absurd ⟨k, a, b, e⟩ h
structure IsRoot (w : List α) (r : Nat) : Prop where
  pos : 1 ≤ r
  le : r ≤ w.length
  good : good w r = true
  least : ∀ k, 1 ≤ k → k < r → K11.good w k = false
theorem isRoot_len {w : List α} (hw : w ≠ []) : IsRoot w (rootLen w) := by
  have hl : 1 ≤ w.length := by
    cases w with
    | nil => exact absurd rfl hw
    | cons a b => simp
  obtain ⟨r, a, b, c, d⟩ := least_of (good w) w.length (good_full w) hl
  rw [rootLen_eq a b c d]
  exact ⟨a, b, c, d⟩
theorem root_len {w : List α} (hw : w ≠ []) : (root w).length = rootLen w := by
  have h := isRoot_len hw
  unfold root
  rw [List.length_take]
  have := h.le
  omega
theorem root_ne {w : List α} (hw : w ≠ []) : root w ≠ [] := fun e => by
  have h := root_len hw
  rw [e] at h
  have := (isRoot_len hw).pos
  simp at h
  omega
theorem root_rep {w : List α} (hw : w ≠ []) : w = rep (w.length / (root w).length) (root w) := by
  rw [root_len hw]
  exact good_rep (isRoot_len hw).pos (isRoot_len hw).le (isRoot_len hw).good

/-- no word several times -/
def Prim (c : List α) : Prop := ∀ k u, c = rep k u → k = 1
theorem root_prim {w : List α} (hw : w ≠ []) : Prim (root w) := by
  intro k u e
  have hr := isRoot_len hw
  have hl := root_len hw
  have hk : k ≠ 0 := fun z => by
    rw [z, rep_zero] at e
    exact root_ne hw e
  have hu : u ≠ [] := fun z => by
    rw [z] at e
    have : (rep k ([] : List α)).length = 0 := by rw [rep_len]; rfl
    rw [← e] at this
    exact root_ne hw (List.eq_nil_of_length_eq_zero this)
  have hul : 1 ≤ u.length := by
    cases u with
    | nil => exact absurd rfl hu
    | cons a b => simp
  have er := root_rep hw
  have e2 : w = rep (w.length / (root w).length * k) u := by
    rw [← rep_mul, ← e]
    exact er
  have hq : w.length / (root w).length ≠ 0 := fun z => by
    rw [z, rep_zero] at er
    exact hw er
  have hg : good w u.length = true := rep_good (n := w.length / (root w).length * k) (Nat.mul_pos (Nat.pos_of_ne_zero hq) (Nat.pos_of_ne_zero hk)) u rfl e2
  have hle : ¬ u.length < rootLen w := fun z => by
    have := hr.least u.length hul z
    rw [hg] at this
    cases this
  have hlen : (root w).length = k * u.length := by rw [e, rep_len]
  have h3 : k * u.length ≤ u.length := by omega
  have h4 : k ≤ 1 := by
    cases k with
    | zero => omega
    | succ k =>
      cases k with
      | zero => omega
      | succ k =>
        rw [Nat.succ_mul, Nat.succ_mul] at h3
        have := Nat.zero_le (k * u.length)
        omega
  omega
omit [DecidableEq α] in
theorem prim_turn {x : α} {d : List α} (h : Prim (d ++ [x])) : Prim (x :: d) := by
  intro k u e
  have hk : k ≠ 0 := fun z => by
    rw [z, rep_zero] at e
    cases e
  cases u with
  | nil =>
    have : (rep k ([] : List α)).length = 0 := by rw [rep_len]; rfl
    rw [← e] at this
    simp at this
  | cons y u' =>
    obtain ⟨j, rfl⟩ : ∃ j, k = j + 1 := ⟨k - 1, by omega⟩
    have exy : x = y := by
      rw [rep_succ] at e
      injection e
    subst exy
    refine h (j + 1) (u' ++ [x]) ?_
    have s := rep_shift (j + 1) [x] u'
    have e' : [x] ++ d = rep (j + 1) ([x] ++ u') := e
    rw [← e'] at s
    have s2 : [x] ++ rep (j + 1) (u' ++ [x]) = [x] ++ (d ++ [x]) := by rw [s, List.append_assoc]
    exact (List.append_cancel_left s2).symm

/-- the last cell's word, and what stands ahead of it -/
def lastW (c : List α) : List α := c.drop (c.length - 1)
def turn (c : List α) : List α := lastW c ++ c.dropLast
omit [DecidableEq α] in
theorem lastW_snoc (d : List α) (x : α) : lastW (d ++ [x]) = [x] := by
  unfold lastW
  rw [List.length_append, List.length_singleton, Nat.add_sub_cancel, List.drop_left]
omit [DecidableEq α] in
theorem turn_snoc (d : List α) (x : α) : turn (d ++ [x]) = x :: d := by
  unfold turn
  rw [lastW_snoc, List.dropLast_concat]
  rfl
omit [DecidableEq α] in
theorem snoc_of {c : List α} (h : c ≠ []) : ∃ d x, c = d ++ [x] := ⟨c.dropLast, c.getLast h, (List.dropLast_concat_getLast h).symm⟩
omit [DecidableEq α] in
theorem turn_len (c : List α) : (turn c).length = c.length := by
  by_cases h : c = []
  · subst h; rfl
  · obtain ⟨d, x, rfl⟩ := snoc_of h
    rw [turn_snoc, List.length_append, List.length_singleton, List.length_cons]
omit [DecidableEq α] in
theorem turn_ne {c : List α} (h : c ≠ []) : turn c ≠ [] := fun e => by
  have := turn_len c
  rw [e] at this
  exact h (List.eq_nil_of_length_eq_zero this.symm)

/-- the first loop: cells go from left over to right while they are the core's last one -/
def goes (l c : List α) : Bool := decide (l ≠ []) && decide (l.getLast? = c.getLast?)
def strip : Nat → List α → List α → List α → List α × List α × List α
  | 0, l, c, r => (l, c, r)
  | f + 1, l, c, r => if goes l c then strip f l.dropLast (turn c) (lastW c ++ r) else (l, c, r)
theorem strip_more : ∀ (f g : Nat) (l c r : List α), l.length ≤ f → l.length ≤ g → strip f l c r = strip g l c r
  | 0, 0, l, c, r, _, _ => rfl
  | 0, g + 1, l, c, r, h, _ => by
    have e : l = [] := List.eq_nil_of_length_eq_zero (by omega)
    subst e
    unfold strip
    rw [if_neg (by unfold goes; simp)]
  | f + 1, 0, l, c, r, _, h => by
    have e : l = [] := List.eq_nil_of_length_eq_zero (by omega)
    subst e
    unfold strip
    rw [if_neg (by unfold goes; simp)]
  | f + 1, g + 1, l, c, r, h1, h2 => by
    unfold strip
    by_cases hg : goes l c = true
    · rw [if_pos hg, if_pos hg]
      have hl : l.dropLast.length = l.length - 1 := List.length_dropLast
      exact strip_more f g _ _ _ (by omega) (by omega)
    · rw [if_neg hg, if_neg hg]
def stripW (l c r : List α) : List α × List α × List α := strip l.length l c r
theorem stripW_no {l c r : List α} (h : goes l c = false) : stripW l c r = (l, c, r) := by
  unfold stripW
  cases e : l.length with
  | zero => rfl
  | succ n =>
    unfold strip
    rw [if_neg (by rw [h]; decide)]
theorem stripW_yes {l c r : List α} (h : goes l c = true) : stripW l c r = stripW l.dropLast (turn c) (lastW c ++ r) := by
  unfold stripW
  cases e : l.length with
  | zero =>
    have : l = [] := List.eq_nil_of_length_eq_zero e
    subst this
    unfold goes at h
    simp at h
  | succ n =>
    have hl : l.dropLast.length = n := by rw [List.length_dropLast, e]; rfl
    conv => lhs; unfold strip
    rw [if_pos h, hl]
/-- the second loop: right gives whole cores -/
def eat : Nat → List α → List α → List α × Nat
  | 0, _, r => (r, 0)
  | f + 1, c, r => if r.take c.length = c then ((eat f c (r.drop c.length)).1, (eat f c (r.drop c.length)).2 + 1) else (r, 0)
theorem take_ne {c r : List α} (hc : c ≠ []) (h : r.take c.length = c) : c.length ≤ r.length ∧ 1 ≤ c.length := by
  have h1 := congrArg List.length h
  rw [List.length_take] at h1
  have h2 : 1 ≤ c.length := by
    cases c with
    | nil => exact absurd rfl hc
    | cons a b => simp
  omega
theorem eat_more {c : List α} (hc : c ≠ []) : ∀ (f g : Nat) (r : List α), r.length ≤ f → r.length ≤ g → eat f c r = eat g c r
  | 0, 0, r, _, _ => rfl
  | 0, g + 1, r, h, _ => by
    unfold eat
    rw [if_neg fun z => by have := take_ne hc z; omega]
  | f + 1, 0, r, _, h => by
    unfold eat
    rw [if_neg fun z => by have := take_ne hc z; omega]
  | f + 1, g + 1, r, h1, h2 => by
    unfold eat
    by_cases hg : r.take c.length = c
    · have := take_ne hc hg
      rw [if_pos hg, if_pos hg, eat_more hc f g (r.drop c.length) (by rw [List.length_drop]; omega) (by rw [List.length_drop]; omega)]
    · rw [if_neg hg, if_neg hg]
def eatW (c r : List α) : List α × Nat := eat r.length c r
theorem eatW_no {c r : List α} (h : r.take c.length ≠ c) : eatW c r = (r, 0) := by
  unfold eatW
  cases e : r.length with
  | zero => rfl
  | succ n =>
    unfold eat
    rw [if_neg h]
theorem eatW_yes {c r : List α} (hc : c ≠ []) (h : r.take c.length = c) : eatW c r = ((eatW c (r.drop c.length)).1, (eatW c (r.drop c.length)).2 + 1) := by
  unfold eatW
  have := take_ne hc h
  cases e : r.length with
  | zero => omega
  | succ n =>
    conv => lhs; unfold eat
    rw [if_pos h, eat_more hc n (r.drop c.length).length (r.drop c.length) (by rw [List.length_drop]; omega) (Nat.le_refl _)]

/-- a family in its least form -/
structure Fam (α : Type) where
  left : List α
  core : List α
  right : List α
  rate : Nat
  more : Nat
def fam (l g r : List α) : Fam α :=
  ⟨(stripW l (root g) r).1, (stripW l (root g) r).2.1, (eatW (stripW l (root g) r).2.1 (stripW l (root g) r).2.2).1, g.length / (root g).length, (eatW (stripW l (root g) r).2.1 (stripW l (root g) r).2.2).2⟩
def Fam.rounds (F : Fam α) (n : Nat) : Nat := F.rate * n + F.more
def Fam.word (F : Fam α) (n : Nat) : List α := F.left ++ rep (F.rounds n) F.core ++ F.right

/-! what the loops keep -/
structure Stripped (c r l' c' r' : List α) : Prop where
  ne : c ≠ [] → c' ≠ []
  prim : c ≠ [] → Prim c → Prim c'
  end' : goes l' c' = false
theorem goes_yes {l c : List α} (hc : c ≠ []) (h : goes l c = true) : ∃ m d x, l = m ++ [x] ∧ c = d ++ [x] := by
  unfold goes at h
  rw [Bool.and_eq_true, decide_eq_true_iff, decide_eq_true_iff] at h
  obtain ⟨d, x, rfl⟩ := snoc_of hc
  obtain ⟨m, y, rfl⟩ := snoc_of h.1
  have e := h.2
  rw [List.getLast?_concat, List.getLast?_concat] at e
  injection e with e
  subst e
  exact ⟨m, d, y, rfl, rfl⟩
theorem goes_snoc (m d : List α) (x : α) : goes (m ++ [x]) (d ++ [x]) = true := by
  unfold goes
  rw [List.getLast?_concat, List.getLast?_concat]
  simp
theorem strip_step (m d r : List α) (x : α) : stripW (m ++ [x]) (d ++ [x]) r = stripW m (x :: d) (x :: r) := by
  rw [stripW_yes (goes_snoc m d x), turn_snoc, lastW_snoc, List.dropLast_concat]
  rfl
/-- induction down the first loop -/
theorem strip_ind (P : List α → List α → List α → Prop) (stop : ∀ l c r, c ≠ [] → goes l c = false → P l c r) (step : ∀ m d x r, P m (x :: d) (x :: r) → P (m ++ [x]) (d ++ [x]) r) :
    ∀ (n : Nat) (l c r : List α), l.length = n → c ≠ [] → P l c r := by
  intro n
  induction n with
  | zero =>
    intro l c r hl hc
    have e : l = [] := List.eq_nil_of_length_eq_zero hl
    subst e
    exact stop _ _ _ hc (by unfold goes; simp)
  | succ n ih =>
    intro l c r hl hc
    cases hg : goes l c with
    | false => exact stop _ _ _ hc hg
    | true =>
      obtain ⟨m, d, x, rfl, rfl⟩ := goes_yes hc hg
      refine step m d x r (ih _ _ _ ?_ (by simp))
      rw [List.length_append, List.length_singleton] at hl
      omega
theorem strip_end (l c r : List α) (hc : c ≠ []) : goes (stripW l c r).1 (stripW l c r).2.1 = false :=
  strip_ind (fun l c r => goes (stripW l c r).1 (stripW l c r).2.1 = false) (fun l c r _ h => by rw [stripW_no h]; exact h) (fun m d x r h => by rw [strip_step]; exact h) _ l c r rfl hc
theorem strip_ne (l c r : List α) (hc : c ≠ []) : (stripW l c r).2.1 ≠ [] :=
  strip_ind (fun l c r => (stripW l c r).2.1 ≠ []) (fun l c r hc h => by rw [stripW_no h]; exact hc) (fun m d x r h => by rw [strip_step]; exact h) _ l c r rfl hc
theorem strip_prim (l c r : List α) (hc : c ≠ []) : Prim c → Prim (stripW l c r).2.1 :=
  strip_ind (fun l c r => Prim c → Prim (stripW l c r).2.1) (fun l c r hc h p => by rw [stripW_no h]; exact p) (fun m d x r h p => by rw [strip_step]; exact h (prim_turn p)) _ l c r rfl hc
theorem strip_word (n : Nat) (l c r : List α) (hc : c ≠ []) : (stripW l c r).1 ++ rep n (stripW l c r).2.1 ++ (stripW l c r).2.2 = l ++ rep n c ++ r :=
  strip_ind (fun l c r => (stripW l c r).1 ++ rep n (stripW l c r).2.1 ++ (stripW l c r).2.2 = l ++ rep n c ++ r) (fun l c r _ h => by rw [stripW_no h]) (fun m d x r h => by
    rw [strip_step, h]
    have s := rep_shift n [x] d
    have e1 : m ++ rep n (x :: d) ++ x :: r = m ++ (rep n ([x] ++ d) ++ [x]) ++ r := by simp
    rw [e1, ← s]
    simp) _ l c r rfl hc
theorem strip_len (l c r : List α) (hc : c ≠ []) : (stripW l c r).1.length ≤ l.length ∧ (stripW l c r).2.1.length = c.length ∧ (stripW l c r).2.2.length ≤ l.length + r.length :=
  strip_ind (fun l c r => (stripW l c r).1.length ≤ l.length ∧ (stripW l c r).2.1.length = c.length ∧ (stripW l c r).2.2.length ≤ l.length + r.length) (fun l c r _ h => by
    rw [stripW_no h]
    exact ⟨Nat.le_refl _, rfl, Nat.le_add_left _ _⟩) (fun m d x r h => by
    rw [strip_step]
    simp only [List.length_cons, List.length_append, List.length_nil] at h ⊢
    omega) _ l c r rfl hc
theorem eat_ind {c : List α} (hc : c ≠ []) (P : List α → Prop) (stop : ∀ r, r.take c.length ≠ c → P r) (step : ∀ r, r.take c.length = c → P (r.drop c.length) → P r) : ∀ (n : Nat) (r : List α), r.length ≤ n → P r := by
  intro n
  induction n with
  | zero =>
    intro r h
    exact stop r fun z => by have := take_ne hc z; omega
  | succ n ih =>
    intro r h
    by_cases hg : r.take c.length = c
    · have := take_ne hc hg
      exact step r hg (ih _ (by rw [List.length_drop]; omega))
    · exact stop r hg
theorem eat_end {c : List α} (hc : c ≠ []) (r : List α) : (eatW c r).1.take c.length ≠ c :=
  eat_ind hc (fun r => (eatW c r).1.take c.length ≠ c) (fun r h => by rw [eatW_no h]; exact h) (fun r h q => by rw [eatW_yes hc h]; exact q) _ r (Nat.le_refl _)
theorem eat_word {c : List α} (hc : c ≠ []) (r : List α) : rep (eatW c r).2 c ++ (eatW c r).1 = r :=
  eat_ind hc (fun r => rep (eatW c r).2 c ++ (eatW c r).1 = r) (fun r h => by rw [eatW_no h]; rfl) (fun r h q => by
    rw [eatW_yes hc h]
    show rep ((eatW c (r.drop c.length)).2 + 1) c ++ (eatW c (r.drop c.length)).1 = r
    rw [rep_succ, List.append_assoc, q]
    conv => rhs; rw [← List.take_append_drop c.length r, h]) _ r (Nat.le_refl _)
theorem eat_len {c : List α} (hc : c ≠ []) (r : List α) : (eatW c r).1.length ≤ r.length ∧ (eatW c r).2 ≤ r.length := by
  have h := congrArg List.length (eat_word hc r)
  rw [List.length_append, rep_len] at h
  have h1 : 1 ≤ c.length := by
    cases c with
    | nil => exact absurd rfl hc
    | cons a b => simp
  have h2 : (eatW c r).2 * 1 ≤ (eatW c r).2 * c.length := Nat.mul_le_mul (Nat.le_refl _) h1
  omega

/-! the least form -/
theorem fam_core_ne (l g r : List α) (hg : g ≠ []) : (fam l g r).core ≠ [] := strip_ne _ _ _ (root_ne hg)
theorem fam_prim (l g r : List α) (hg : g ≠ []) : Prim (fam l g r).core := strip_prim _ _ _ (root_ne hg) (root_prim hg)
theorem fam_left (l g r : List α) (hg : g ≠ []) : goes (fam l g r).left (fam l g r).core = false := strip_end _ _ _ (root_ne hg)
theorem fam_right (l g r : List α) (hg : g ≠ []) : (fam l g r).right.take (fam l g r).core.length ≠ (fam l g r).core := eat_end (strip_ne _ _ _ (root_ne hg)) _
theorem fam_word (l g r : List α) (hg : g ≠ []) (n : Nat) : (fam l g r).word n = l ++ rep n g ++ r := by
  have hc := strip_ne l (root g) r (root_ne hg)
  have h1 := eat_word hc (stripW l (root g) r).2.2
  have h2 := strip_word ((fam l g r).rate * n) l (root g) r (root_ne hg)
  have h3 : rep ((fam l g r).rate * n) (root g) = rep n g := by
    rw [Nat.mul_comm, ← rep_mul]
    show rep n (rep (g.length / (root g).length) (root g)) = rep n g
    rw [← root_rep hg]
  unfold Fam.word Fam.rounds
  show (stripW l (root g) r).1 ++ rep ((fam l g r).rate * n + (eatW (stripW l (root g) r).2.1 (stripW l (root g) r).2.2).2) (stripW l (root g) r).2.1 ++ (eatW (stripW l (root g) r).2.1 (stripW l (root g) r).2.2).1 = l ++ rep n g ++ r
  rw [rep_add, ← h3, ← h2]
  conv => rhs; rw [← h1]
  simp only [List.append_assoc]
theorem fam_len (l g r : List α) (hg : g ≠ []) : (fam l g r).left.length ≤ l.length ∧ (fam l g r).core.length ≤ g.length ∧ 1 ≤ (fam l g r).core.length ∧ (fam l g r).right.length ≤ l.length + r.length ∧
    (fam l g r).rate ≤ g.length ∧ (fam l g r).more ≤ l.length + r.length := by
  have hc := strip_ne l (root g) r (root_ne hg)
  have h1 := strip_len l (root g) r (root_ne hg)
  have h2 := eat_len hc (stripW l (root g) r).2.2
  have h3 := root_len hg
  have h4 := isRoot_len hg
  have h5 := h4.le
  have h6 := h4.pos
  refine ⟨h1.1, ?_, ?_, ?_, ?_, ?_⟩
  · show (stripW l (root g) r).2.1.length ≤ g.length
    omega
  · show 1 ≤ (stripW l (root g) r).2.1.length
    omega
  · show (eatW (stripW l (root g) r).2.1 (stripW l (root g) r).2.2).1.length ≤ l.length + r.length
    omega
  · show g.length / (root g).length ≤ g.length
    exact Nat.div_le_self _ _
  · show (eatW (stripW l (root g) r).2.1 (stripW l (root g) r).2.2).2 ≤ l.length + r.length
    omega

/-! one cell over -/
theorem good_turn (d : List α) (x : α) (m : Nat) (hm : 1 ≤ m) (hl : m ≤ d.length + 1) : good (x :: d) m = good (d ++ [x]) m := by
  have l1 : (x :: d).length = d.length + 1 := rfl
  have l2 : (d ++ [x]).length = d.length + 1 := by simp
  have a : good (x :: d) m = true → good (d ++ [x]) m = true := fun h => by
    have e := good_rep hm (by rw [l1]; exact hl) h
    have hn : 1 ≤ (x :: d).length / m := Nat.div_pos (by rw [l1]; exact hl) (by omega)
    obtain ⟨k, hk⟩ : ∃ k, m = k + 1 := ⟨m - 1, by omega⟩
    have et : (x :: d).take m = [x] ++ d.take k := by rw [hk]; rfl
    rw [et] at e
    have s := rep_shift ((x :: d).length / m) [x] (d.take k)
    rw [← e] at s
    have s2 : [x] ++ rep ((x :: d).length / m) (d.take k ++ [x]) = [x] ++ (d ++ [x]) := by rw [s]; rfl
    have s3 := List.append_cancel_left s2
    refine rep_good hn (d.take k ++ [x]) ?_ s3.symm
    rw [List.length_append, List.length_take, List.length_singleton]
    omega
  have b : good (d ++ [x]) m = true → good (x :: d) m = true := fun h => by
    have e := good_rep hm (by rw [l2]; exact hl) h
    have hn : 1 ≤ (d ++ [x]).length / m := Nat.div_pos (by rw [l2]; exact hl) (by omega)
    have hu : ((d ++ [x]).take m).length = m := by rw [List.length_take, l2]; omega
    have hune : (d ++ [x]).take m ≠ [] := fun z => by
      rw [z] at hu
      simp at hu
      omega
    obtain ⟨u', y, hu'⟩ := snoc_of hune
    obtain ⟨j, hj⟩ : ∃ j, (d ++ [x]).length / m = j + 1 := ⟨(d ++ [x]).length / m - 1, by omega⟩
    rw [hu', hj] at e
    have exy : y = x := by
      have := congrArg List.getLast? e
      rw [rep_succ', ← List.append_assoc, List.getLast?_concat, List.getLast?_concat] at this
      injection this with this
      exact this.symm
    subst exy
    have s := rep_shift (j + 1) [y] u'
    rw [← e] at s
    have s2 : (y :: d) ++ [y] = rep (j + 1) ([y] ++ u') ++ [y] := by rw [← s]; rfl
    have s3 := List.append_cancel_right s2
    refine rep_good (by omega) ([y] ++ u') ?_ s3
    rw [hu', List.length_append, List.length_singleton] at hu
    rw [List.length_append, List.length_singleton]
    omega
  cases e1 : good (x :: d) m with
  | true => exact (a e1).symm
  | false =>
    cases e2 : good (d ++ [x]) m with
    | false => rfl
    | true =>
      rw [b e2] at e1
      cases e1
theorem rootLen_turn (d : List α) (x : α) : rootLen (x :: d) = rootLen (d ++ [x]) := by
  have h := isRoot_len (w := d ++ [x]) (by simp)
  have hl : (d ++ [x]).length = d.length + 1 := by simp
  have h2 := h.le
  rw [hl] at h2
  refine rootLen_eq h.pos h2 ?_ fun k a b => ?_
  · rw [good_turn d x _ h.pos h2]
    exact h.good
  · rw [good_turn d x k a (by omega)]
    exact h.least k a b
theorem root_turn (d : List α) (x : α) : ∃ e, root (d ++ [x]) = e ++ [x] ∧ root (x :: d) = x :: e := by
  have h := isRoot_len (w := d ++ [x]) (by simp)
  have hl : (d ++ [x]).length = d.length + 1 := by simp
  have hle := h.le
  have hpos := h.pos
  have er := root_rep (w := d ++ [x]) (by simp)
  have hne := root_ne (w := d ++ [x]) (by simp)
  obtain ⟨e, y, he⟩ := snoc_of hne
  have hlen := root_len (w := d ++ [x]) (by simp)
  have hn : 1 ≤ (d ++ [x]).length / (root (d ++ [x])).length := Nat.div_pos (by rw [hlen]; exact hle) (by omega)
  obtain ⟨j, hj⟩ : ∃ j, (d ++ [x]).length / (root (d ++ [x])).length = j + 1 := ⟨(d ++ [x]).length / (root (d ++ [x])).length - 1, by omega⟩
  rw [hj, he] at er
  have exy : y = x := by
    have := congrArg List.getLast? er
    rw [rep_succ', ← List.append_assoc, List.getLast?_concat, List.getLast?_concat] at this
    injection this with this
    exact this.symm
  subst exy
  refine ⟨e, he, ?_⟩
  have s := rep_shift (j + 1) [y] e
  rw [← er] at s
  have s2 : (y :: d) ++ [y] = rep (j + 1) ([y] ++ e) ++ [y] := by rw [← s]; rfl
  have s3 : y :: d = rep (j + 1) ([y] ++ e) := List.append_cancel_right s2
  have hel : ([y] ++ e).length = rootLen (y :: d) := by
    rw [rootLen_turn, ← hlen, he]
    simp [Nat.add_comm]
  unfold root
  rw [← hel]
  conv => lhs; rw [s3, rep_succ]
  rw [List.take_left]
  rfl
/-- a cell goes over: the same family -/
theorem fam_turn (m d r : List α) (x : α) : fam (m ++ [x]) (d ++ [x]) r = fam m (x :: d) (x :: r) := by
  obtain ⟨e, h1, h2⟩ := root_turn d x
  have hs : stripW (m ++ [x]) (e ++ [x]) r = stripW m (x :: e) (x :: r) := strip_step m e r x
  have l1 : (d ++ [x]).length = (x :: d).length := by simp
  have l2 : (e ++ [x]).length = (x :: e).length := by simp
  unfold fam
  rw [h1, h2, hs, l1, l2]

/-- words of one length: the same at the front -/
theorem front {l l' s s' : List α} (h : l.length = l'.length) (e : l ++ s = l' ++ s') : l = l' := (List.append_inj e h).1
/-- if the words of 0 to 12 turns are the same, the families are -/
def Near (l g r l2 g2 r2 : List α) : Prop := (∀ n, n < 13 → l2 ++ rep n g2 ++ r2 = l ++ rep n g ++ r) → fam l2 g2 r2 = fam l g r
theorem near_eq {l g r l2 g2 r2 : List α} (h : fam l2 g2 r2 = fam l g r) : Near l g r l2 g2 r2 := fun _ => h
theorem near_len0 {l g r l2 g2 r2 : List α} (h : l2.length + r2.length ≠ l.length + r.length) : Near l g r l2 g2 r2 := fun e => by
  have e0 := congrArg List.length (e 0 (by omega))
  simp only [List.length_append, rep_len, Nat.zero_mul] at e0
  omega
theorem near_len1 {l g r g2 : List α} (h : g2.length ≠ g.length) : Near l g r l g2 r := fun e => by
  have e1 := congrArg List.length (e 1 (by omega))
  simp only [List.length_append, rep_len, Nat.one_mul] at e1
  omega
theorem near_left {l g r l2 : List α} : Near l g r l2 g r := fun e => by
  have e0 := e 0 (by omega)
  rw [rep_zero, List.append_nil, List.append_nil] at e0
  rw [List.append_cancel_right e0]
/-- not to be written as a shorter word some times, by its lengths -/
theorem not_power {w : List α} (hp : Prim w) {m : Nat} (h1 : 1 ≤ m) (h2 : m < w.length) (h3 : w.length % m = 0) (h4 : rep (w.length / m) (w.take m) = w) : False := by
  have e := hp _ _ h4.symm
  have h5 := Nat.div_add_mod w.length m
  rw [e, h3] at h5
  omega
/-- the first of the chosen numbers -/
theorem first_of (f : Nat → Bool) : ∀ (n : Nat), ((List.range n).filter f = [] → ∀ k, k < n → f k = false) ∧ ∀ u t, (List.range n).filter f = u :: t → u < n ∧ f u = true ∧ ∀ k, k < u → f k = false
  | 0 => ⟨fun _ k hk => by omega, fun u t e => by simp at e⟩
  | n + 1 => by
    have ih := first_of f n
    have es : (List.range (n + 1)).filter f = (List.range n).filter f ++ if f n = true then [n] else [] := by
      rw [List.range_succ, List.filter_append, List.filter_cons, List.filter_nil]
    rw [es]
    refine ⟨fun e k hk => ?_, fun u t e => ?_⟩
    · have e' := List.append_eq_nil_iff.mp e
      by_cases h : k = n
      · rw [h]
        cases q : f n with
        | false => rfl
        | true =>
          rw [q] at e'
          simp at e'
      · exact ih.1 e'.1 k (by omega)
    · cases q : (List.range n).filter f with
      | cons a b =>
        rw [q, List.cons_append] at e
        injection e with e1 e2
        have := ih.2 a b q
        rw [← e1]
        exact ⟨by omega, this.2⟩
      | nil =>
        rw [q, List.nil_append] at e
        cases qn : f n with
        | false =>
          rw [qn] at e
          simp at e
        | true =>
          rw [qn, if_pos rfl] at e
          injection e with e1 e2
          rw [← e1]
          exact ⟨by omega, qn, ih.1 q⟩
end K11

/-! What an expression gives, told by what is true of its value (PP), over the layer's readings. -/
namespace KW
open PySem L2 Evl

/-- what is told of a value at a heap, and stays told -/
structure PP where
  p : V → Hp → Prop
  mono : ∀ (z : V) (H1 H2 : Hp), Ex H1 H2 → p z H1 → p z H2
def AllP : List PP → List V → Hp → Prop
  | [], [], _ => True
  | P :: Ps, v :: vs, H => P.p v H ∧ AllP Ps vs H
  | _, _, _ => False
theorem AllP.len : ∀ {Ps : List PP} {vs : List V} {H : Hp}, AllP Ps vs H → vs.length = Ps.length
  | [], [], _, _ => rfl
  | _ :: _, _ :: _, _, h => by
    rw [List.length_cons, List.length_cons, AllP.len h.2]
  | [], _ :: _, _, h => h.elim
  | _ :: _, [], _, h => h.elim
theorem AllP.mono : ∀ {Ps : List PP} {vs : List V} {H1 H2 : Hp}, Ex H1 H2 → AllP Ps vs H1 → AllP Ps vs H2
  | [], [], _, _, _, _ => True.intro
  | P :: _, v :: _, H1, H2, e, h => ⟨P.mono v H1 H2 e h.1, AllP.mono e h.2⟩
  | [], _ :: _, _, _, _, h => h.elim
  | _ :: _, [], _, _, _, h => h.elim
theorem AllP.app : ∀ {Ps Rs : List PP} {vs us : List V} {H : Hp}, AllP Ps vs H → AllP Rs us H → AllP (Ps ++ Rs) (vs ++ us) H
  | [], _, [], _, _, _, k => k
  | _ :: _, _, _ :: _, _, _, h, k => ⟨h.1, AllP.app h.2 k⟩
  | [], _, _ :: _, _, _, h, _ => h.elim
  | _ :: _, _, [], _, _, h, _ => h.elim
theorem AllP.take : ∀ (n : Nat) {Ps : List PP} {vs : List V} {H : Hp}, AllP Ps vs H → AllP (Ps.take n) (vs.take n) H
  | 0, _, _, _, _ => True.intro
  | _ + 1, [], [], _, _ => True.intro
  | n + 1, _ :: _, _ :: _, _, h => ⟨h.1, AllP.take n h.2⟩
  | _ + 1, [], _ :: _, _, h => h.elim
  | _ + 1, _ :: _, [], _, h => h.elim
theorem AllP.drop : ∀ (n : Nat) {Ps : List PP} {vs : List V} {H : Hp}, AllP Ps vs H → AllP (Ps.drop n) (vs.drop n) H
  | 0, _, _, _, h => h
  | _ + 1, [], [], _, _ => True.intro
  | n + 1, _ :: _, _ :: _, _, h => AllP.drop n h.2
  | _ + 1, [], _ :: _, _, h => h.elim
  | _ + 1, _ :: _, [], _, h => h.elim
theorem AllP.rep : ∀ (n : Nat) {Ps : List PP} {vs : List V} {H : Hp}, AllP Ps vs H → AllP (List.replicate n Ps).flatten (List.replicate n vs).flatten H
  | 0, _, _, _, _ => True.intro
  | n + 1, _, _, _, h => by
    rw [List.replicate_succ, List.replicate_succ, List.flatten_cons, List.flatten_cons]
    exact AllP.app h (AllP.rep n h)
theorem AllP.get : ∀ {Ps : List PP} {vs : List V} {H : Hp} {i : Nat} {P : PP}, AllP Ps vs H → Ps[i]? = some P → ∃ v, vs[i]? = some v ∧ P.p v H
  | [], [], _, _, _, _, e => by simp at e
  | P :: _, v :: _, _, 0, _, h, e => by
    simp at e
    subst e
    exact ⟨v, by simp, h.1⟩
  | _ :: _, _ :: _, _, i + 1, _, h, e => by
    obtain ⟨v, a, b⟩ := AllP.get (i := i) h.2 (by simpa using e)
    exact ⟨v, by simpa using a, b⟩
  | [], _ :: _, _, _, _, h, _ => h.elim
  | _ :: _, [], _, _, _, h, _ => h.elim
theorem AllP.snoc : ∀ {Ps : List PP} {P : PP} {vs : List V} {H : Hp}, AllP (Ps ++ [P]) vs H → ∃ us v, vs = us ++ [v] ∧ AllP Ps us H ∧ P.p v H
  | [], _, [v], _, h => ⟨[], v, rfl, True.intro, h.1⟩
  | [], _, _ :: _ :: _, _, h => h.2.elim
  | [], _, [], _, h => h.elim
  | _ :: _, _, [], _, h => h.elim
  | R :: Rs, P, v :: vs, H, h => by
    obtain ⟨us, u, e, a, b⟩ := AllP.snoc (Ps := Rs) (P := P) (vs := vs) (H := H) h.2
    exact ⟨v :: us, u, by rw [e]; rfl, ⟨h.1, a⟩, b⟩
theorem AllP.one {P : PP} {vs : List V} {H : Hp} (h : AllP [P] vs H) : ∃ v, vs = [v] ∧ P.p v H := by
  match vs, h with
  | [v], h => exact ⟨v, rfl, h.1⟩
theorem AllP.two {P R : PP} {vs : List V} {H : Hp} (h : AllP [P, R] vs H) : ∃ v u, vs = [v, u] ∧ P.p v H ∧ R.p u H := by
  match vs, h with
  | [v, u], h => exact ⟨v, u, rfl, h.1, h.2.1⟩
theorem AllP.three {P R S : PP} {vs : List V} {H : Hp} (h : AllP [P, R, S] vs H) : ∃ v u w, vs = [v, u, w] ∧ P.p v H ∧ R.p u H ∧ S.p w H := by
  match vs, h with
  | [v, u, w], h => exact ⟨v, u, w, rfl, h.1, h.2.1, h.2.2.1⟩

/-- this very value; a tuple of such; a cell; a word -/
def pV (v : V) : PP := ⟨fun z _ => z = v, fun _ _ _ _ h => h⟩
def pTup (K : PySem.W.Frag) (Ps : List PP) : PP := ⟨fun z H => ∃ a xs, z = .ref a ∧ SqT K H a xs ∧ AllP Ps xs H, fun _ _ _ e ⟨a, xs, h1, h2, h3⟩ => ⟨a, xs, h1, ex_t e h2, h3.mono e⟩⟩
def kindS : Bool → Str
  | true => "k"
  | false => "p"
def pC (K : PySem.W.Frag) (b : Bool) : PP := pTup K [pV (.str (kindS b)), pV (.str "a")]
abbrev pW (K : PySem.W.Frag) (w : List Bool) : PP := pTup K (w.map (pC K))

def EvP (te : TE) (σ : L2.St) (H : Hp) (P : PP) : Prop := ∀ H1, Ex H H1 → ∀ Q : VK, (∀ z H2, Ex H1 H2 → P.p z H2 → Q z H2) → te σ H1 Q
def EvPA (ta : TA) (σ : L2.St) (H : Hp) (Ps : List PP) : Prop := ∀ H1, Ex H H1 → ∀ Q : List V → Hp → Prop, (∀ vs H2, Ex H1 H2 → AllP Ps vs H2 → Q vs H2) → ta σ H1 Q

section
variable {K : PySem.W.Frag} {σ : L2.St} {H H' : Hp} {ta tb te : TE} {t u : TT} {x y z v : V} {P R S : PP} {Ps Rs : List PP}
theorem EvP.up (e : Ex H H') (h : EvP te σ H P) : EvP te σ H' P := fun H1 a Q q => h H1 (e.trans a) Q q
theorem EvPA.up {tA : TA} (e : Ex H H') (h : EvPA tA σ H Ps) : EvPA tA σ H' Ps := fun H1 a Q q => h H1 (e.trans a) Q q
theorem EvP.ev (h : EvP te σ H (pV v)) : Ev te σ H v := fun H1 e Q q => h H1 e Q fun z H2 e2 (hz : z = v) => by
  subst hz
  exact q H2 e2
theorem ep_of (h : Ev te σ H v) : EvP te σ H (pV v) := fun H1 e Q q => h H1 e Q fun H2 e2 => q v H2 e2 rfl
theorem EvP.as (h : EvP te σ H P) (k : ∀ z H1, Ex H H1 → P.p z H1 → R.p z H1) : EvP te σ H R := fun H1 e Q q => h H1 e Q fun z H2 e2 p => q z H2 e2 (k z H2 (e.trans e2) p)
theorem EvP.is (h : EvP te σ H P) (e : P = R) : EvP te σ H R := by
  rw [← e]
  exact h
theorem ep_var {i : Nat} (hp : P.p v H) (h : σ[i]? = some (some v)) : EvP (tVar i) σ H P := fun H1 e _ q => ⟨v, h, q v H1 (Ex.refl H1) (P.mono v H H1 e hp)⟩
theorem ep_vv {i : Nat} (h : σ[i]? = some (some v)) : EvP (tVar i) σ H (pV v) := ep_var (v := v) rfl h
theorem ep_c : EvP (tC v) σ H (pV v) := fun H1 _ _ q => q v H1 (Ex.refl H1) rfl
theorem ea_n : EvPA tNil σ H [] := fun H1 _ _ q => q [] H1 (Ex.refl H1) True.intro
theorem ea_c {tr : TA} (h : EvP te σ H P) (hr : EvPA tr σ H Ps) : EvPA (tCons te tr) σ H (P :: Ps) := fun H1 e _ q =>
  h H1 e _ fun z H2 e2 p => hr H2 (e.trans e2) _ fun vs H3 e3 ps => q _ H3 (e2.trans e3) ⟨P.mono z H2 H3 e3 p, ps⟩
/-- a two-place operation by what is told of both values -/
theorem ep_op {r : R2} (ha : EvP ta σ H P) (hb : EvP tb σ H R) (hr : ∀ x y H1, Ex H H1 → P.p x H1 → R.p y H1 → ∀ Q : VK, (∀ z H2, Ex H1 H2 → S.p z H2 → Q z H2) → r x y H1 Q) : EvP (tOp r ta tb) σ H S := fun H1 e Q q =>
  ha H1 e _ fun x H2 e2 px => hb H2 (e.trans e2) _ fun y H3 e3 py => hr x y H3 ((e.trans e2).trans e3) (P.mono x H2 H3 e3 px) py Q fun z H4 e4 pz => q z H4 ((e2.trans e3).trans e4) pz
theorem ep_I0 {g : Int → Int → V} {i j : Int} (ha : EvP ta σ H (pV (.int i))) (hb : EvP tb σ H (pV (.int j))) : EvP (tOp (rI0 g) ta tb) σ H (pV (g i j)) :=
  ep_op ha hb fun x y H1 _ hx hy Q q => ⟨i, j, hx, hy, q _ H1 (Ex.refl H1) rfl⟩
theorem ep_I {C : Int → Int → Prop} {g : Int → Int → V} {i j : Int} (ha : EvP ta σ H (pV (.int i))) (hb : EvP tb σ H (pV (.int j))) (hc : C i j) : EvP (tOp (rI C g) ta tb) σ H (pV (g i j)) :=
  ep_op ha hb fun x y H1 _ hx hy Q q => ⟨i, j, hx, hy, hc, q _ H1 (Ex.refl H1) rfl⟩
theorem ep_neg {i : Int} (ha : EvP ta σ H (pV (.int i))) : EvP (tUn (rU fun i => .int (-i)) ta) σ H (pV (.int (-i))) := fun H1 e Q q =>
  ha H1 e _ fun x H2 e2 px => ⟨i, px, q _ H2 e2 rfl⟩
theorem ep_eqS (ha : EvP ta σ H (pV x)) (hb : EvP tb σ H (pV y)) (h : scal x y = true) : EvP (tOp rEq ta tb) σ H (pV (.bl (decide (x = y)))) :=
  ep_op ha hb fun x' y' H1 _ hx hy Q q => by
    obtain rfl : x' = x := hx
    obtain rfl : y' = y := hy
    exact ⟨h, q _ H1 (Ex.refl H1) rfl⟩
theorem ep_neS (ha : EvP ta σ H (pV x)) (hb : EvP tb σ H (pV y)) (h : scal x y = true) : EvP (tOp rNe ta tb) σ H (pV (.bl (!decide (x = y)))) :=
  ep_op ha hb fun x' y' H1 _ hx hy Q q => by
    obtain rfl : x' = x := hx
    obtain rfl : y' = y := hy
    exact ⟨h, q _ H1 (Ex.refl H1) rfl⟩
theorem et_t {b : Bool} (h : EvP te σ H (pV (.bl b))) : EvT (tTest te) σ H b := et_test h.ev
theorem et_b {b : Bool} (h : EvP te σ H (pV (.bl b))) : EvT (tB te) σ H b := et_B h.ev
theorem ep_if {b : Bool} (h : EvT t σ H b) (h1 : b = true → EvP ta σ H P) (h2 : b = false → EvP tb σ H P) : EvP (tIf t ta tb) σ H P := fun H1 e Q q => h H1 e _ fun H2 e2 => by
  cases b with
  | true =>
    show ta σ H2 Q
    exact h1 rfl H2 (e.trans e2) Q fun z H3 e3 => q z H3 (e2.trans e3)
  | false =>
    show tb σ H2 Q
    exact h2 rfl H2 (e.trans e2) Q fun z H3 e3 => q z H3 (e2.trans e3)
theorem ep_andV {a b : Bool} (h1 : EvP ta σ H (pV (.bl a))) (h2 : a = true → EvP tb σ H (pV (.bl b))) : EvP (tAndV ta tb) σ H (pV (.bl (a && b))) := ep_of (ev_andV h1.ev fun e => (h2 e).ev)

/-! ### tuples -/
theorem ep_tup {tA : TA} (h : EvPA tA σ H Ps) (hl : Ps.length ≤ 100000) : EvP (tTup tA) σ H (pTup K Ps) := fun H1 e Q q =>
  h H1 e _ fun vs H2 e2 ps => ⟨by rw [ps.len]; exact sz_of hl, fun p hp => q _ _ (e2.trans (Ex.new hp)) ⟨p, vs, rfl, st_of upd_same, ps.mono (Ex.new hp)⟩⟩
theorem ep_cat (ha : EvP ta σ H (pTup K Ps)) (hb : EvP tb σ H (pTup K Rs)) (hz : Ps.length + Rs.length ≤ 100000) : EvP (tOp (rCatA K) ta tb) σ H (pTup K (Ps ++ Rs)) :=
  ep_op ha hb fun x y H1 _ hx hy Q q => by
    obtain ⟨a, xs, rfl, sx, ax⟩ := hx
    obtain ⟨b, ys, rfl, sy, ay⟩ := hy
    refine ⟨a, b, xs, ys, rfl, rfl, sx, sy, by rw [ax.len, ay.len]; exact sz_of hz, fun e => ?_, fun _ e => ?_, fun _ _ p hp => ?_⟩
    · refine q _ H1 (Ex.refl H1) ⟨b, ys, rfl, sy, ?_⟩
      have h := ax.app ay
      rw [e] at h
      exact h
    · refine q _ H1 (Ex.refl H1) ⟨a, xs, rfl, sx, ?_⟩
      have h := ax.app ay
      rw [e, List.append_nil] at h
      exact h
    · exact q _ _ (Ex.new hp) ⟨p, _, rfl, st_of upd_same, (ax.app ay).mono (Ex.new hp)⟩
/-- the part of a list between two bounds -/
def cutP {α : Type} (xs : List α) (lo hi : Option Int) : List α := (xs.drop (HT.sIx xs.length 0 lo)).take (HT.sIx xs.length xs.length hi - HT.sIx xs.length 0 lo)
theorem cut_all {vs : List V} {lo hi : Option Int} (h : AllP Ps vs H) : AllP (cutP Ps lo hi) (cutV vs lo hi) H := by
  unfold cutP cutV
  rw [h.len]
  exact (h.drop _).take _
theorem cut_whole {vs : List V} {lo hi : Option Int} (h : HT.sIx vs.length 0 lo = 0 ∧ HT.sIx vs.length vs.length hi = vs.length) : cutV vs lo hi = vs := by
  unfold cutV
  rw [h.1, h.2, List.drop_zero, Nat.sub_zero, List.take_length]
theorem cut_map {α β : Type} (f : α → β) (xs : List α) (lo hi : Option Int) : cutP (xs.map f) lo hi = (cutP xs lo hi).map f := by
  unfold cutP
  rw [List.length_map, List.map_take, List.map_drop]
theorem ep_sl {tl th : TO} {lo hi : Option Int} (h : EvP te σ H (pTup K Ps)) (h1 : EvO tl σ H lo) (h2 : EvO th σ H hi) : EvP (tSl (rSlA K) te tl th) σ H (pTup K (cutP Ps lo hi)) := fun H1 e Q q =>
  h H1 e _ fun x H2 e2 px => h1 H2 (e.trans e2) _ fun H3 e3 => h2 H3 ((e.trans e2).trans e3) _ fun H4 e4 => by
    obtain ⟨a, xs, rfl, sx, ax⟩ := (pTup K Ps).mono x H2 H4 (e3.trans e4) px
    refine ⟨a, xs, rfl, sx, fun w => ?_, fun _ p hp => ?_⟩
    · refine q _ H4 ((e2.trans e3).trans e4) ⟨a, xs, rfl, sx, ?_⟩
      have c := cut_all (lo := lo) (hi := hi) ax
      rw [cut_whole w] at c
      exact c
    · exact q _ _ (((e2.trans e3).trans e4).trans (Ex.new hp)) ⟨p, _, rfl, st_of upd_same, (cut_all ax).mono (Ex.new hp)⟩
theorem eo_s {i : Int} (h : EvP te σ H (pV (.int i))) : EvO (tPart te) σ H (some i) := eo_some h.ev
theorem ep_len (ha : EvP ta σ H (pTup K Ps)) : EvP (tCB (rLenS K) (tCons ta tNil)) σ H (pV (.int (Ps.length : Int))) := fun H1 e Q q =>
  ha H1 e _ fun x H2 e2 px => by
    obtain ⟨a, xs, rfl, sx, ax⟩ := px
    exact ⟨a, xs, rfl, .inr sx, q _ H2 e2 (by rw [ax.len]; rfl)⟩
theorem ep_ix {j : Nat} (ha : EvP ta σ H (pTup K Ps)) (hb : EvP tb σ H (pV (.int (j : Int)))) (hj : Ps[j]? = some P) : EvP (tOp (rIxT K) ta tb) σ H P :=
  ep_op ha hb fun x y H1 _ hx hy Q q => by
    obtain ⟨a, xs, rfl, sx, ax⟩ := hx
    obtain ⟨v, e, pv⟩ := ax.get hj
    exact ⟨a, xs, (j : Int), v, rfl, hy, sx, atI_nat e, q _ H1 (Ex.refl H1) pv⟩
theorem ep_ixlast (ha : EvP ta σ H (pTup K (Ps ++ [P]))) (hb : EvP tb σ H (pV (.int (-1)))) : EvP (tOp (rIxT K) ta tb) σ H P :=
  ep_op ha hb fun x y H1 _ hx hy Q q => by
    obtain ⟨a, xs, rfl, sx, ax⟩ := hx
    obtain ⟨us, v, rfl, _, pv⟩ := ax.snoc
    exact ⟨a, _, -1, v, rfl, hy, sx, atI_last us v, q _ H1 (Ex.refl H1) pv⟩

/-! ### a tuple some times, none among them -/
end
end KW
namespace L2
open PySem PySem.Spec PyProof.Rows
theorem tuple_mulS1 (l : Addr) (items : Array Value) (n : Nat) (dd : Option Addr) (sl : Array (Option Value)) (u : Tok) :
    Meets (Builtin.«tuple.__mul__» ⟨[.ref l, .int 1 u], []⟩) (fun _ R s => s.heap.get? l = some { cls := .type "tuple", dict := dd, data := .seq items n, slots := sl } ∧
      R (.ok (.ret (Value.ref l))) { s with heap := s.heap, toks := s.toks }) :=
  .of_wp fun prog w A R s h => by
    obtain ⟨hp, g, d, tk, os⟩ := s
    obtain ⟨hl, h⟩ := h
    have f1 := AutoSeq1.idx_int
    have c1 : (items.isEmpty || (1 : Int) == 1) = true := by simp
    wp_walk using wpAny_loadPart' hl
    exact ⟨_, rfl, h⟩
theorem tuple_mulS0 (l : Addr) (items : Array Value) (n : Nat) (dd : Option Addr) (sl : Array (Option Value)) (u : Tok) (he : items.isEmpty = false) :
    Meets (Builtin.«tuple.__mul__» ⟨[.ref l, .int 0 u], []⟩) (fun _ R s => s.heap.get? l = some { cls := .type "tuple", dict := dd, data := .seq items n, slots := sl } ∧
      R (.ok (.ret (Value.ref s.heap.objs.size))) { s with heap := s.heap.push { cls := Value.type "tuple", data := Data.seq #[] }, toks := s.toks }) :=
  .of_wp fun prog w A R s h => by
    obtain ⟨hp, g, d, tk, os⟩ := s
    obtain ⟨hl, h⟩ := h
    have f1 := AutoSeq1.idx_int
    wp_walk using wpAny_loadPart' hl
    exact ⟨_, rfl, h⟩
end L2
namespace L2
open PySem PySem.Spec PyProof.Rows
section
variable {X : Cx}
def rRepA (K : PySem.W.Frag) : R2 := fun x y H Q => ∃ l k xs, x = .ref l ∧ y = .int k ∧ SqT K H l xs ∧ xs ≠ [] ∧ 0 ≤ k ∧ k ≤ 1000 ∧ xs.length ≤ 1000 ∧
  (k = 0 → ∀ p, H p = none → Q (.ref p) (upd H p (.tup []))) ∧ (k = 1 → Q (.ref l) H) ∧ (2 ≤ k → ∀ p, H p = none → Q (.ref p) (upd H p (.tup (List.replicate k.toNat xs).flatten)))
theorem op_repA : OpR X (binaryOp .Mult) (rRepA X.K) := by
  intro pins s σ H x y v u Q I rx ry h
  obtain ⟨l, k, xs, rfl, rfl, hT, hne, h0, h1, hz, q0, q1, q2⟩ := h
  by_cases k2 : 2 ≤ k
  · exact op_repT pins s σ H _ _ v u Q I rx ry ⟨l, k, xs, rfl, rfl, hT, hne, k2, h1, hz, q2 k2⟩
  · cases rx
    obtain ⟨t, rfl⟩ := ry
    obtain ⟨its, r, ⟨⟨cls, dd, data, sl⟩, ho, hc, n, hd⟩, hs⟩ := I.tuple hT
    simp only at hc hd
    subst hc hd
    have hle : its.length = xs.length := r.length.symm
    have hn : its ≠ [] := fun e => hne (by
      rw [e] at hle
      exact List.eq_nil_of_length_eq_zero hle.symm)
    have hi : its.toArray.isEmpty = false := by
      cases its with
      | nil => exact absurd rfl hn
      | cons a b => rfl
    by_cases k0 : k = 0
    · subst k0
      refine wpAny_binaryOp_repeat_ref (T := "tuple") (U := "int") (by decide) ⟨_, ho, rfl⟩ (fun s' => typeIs_int s' 0 t) noFill_tuple_mul F.fills_int_mul F.slot_int_rmul repeat_tuple F.slot_int_index.lookup
        (call_meets F.slot_int_rmul (typeIs_int s 0 t) F.entry_int_rmul (F.args_int_rmul_2 _ _) (int_rmul_tuple 0 t l its.toArray n dd sl)
          ⟨ho, rfl, ⟨_, ho, rfl⟩, call_meets F.slot_tuple_mul ⟨_, ho, rfl⟩ F.entry_tuple_mul (F.args_tuple_mul_2 _ _) (tuple_mulS0 l its.toArray n dd sl t hi) ⟨ho, ?_⟩⟩)
      refine ⟨.ref s.heap.objs.size, _, I.laid (t' := s.toks) (o := .tup []) (fun b ob q => Heap.get?_push_of_some _ q) (Nat.le_refl _) ?_, rfl, q0 rfl _ (I.hok.fresh (Nat.le_refl _))⟩
      exact ⟨Nat.zero_le _, [], .nil, IsTup.new _ _⟩
    · have k1 : k = 1 := by omega
      subst k1
      refine wpAny_binaryOp_repeat_ref (T := "tuple") (U := "int") (by decide) ⟨_, ho, rfl⟩ (fun s' => typeIs_int s' 1 t) noFill_tuple_mul F.fills_int_mul F.slot_int_rmul repeat_tuple F.slot_int_index.lookup
        (call_meets F.slot_int_rmul (typeIs_int s 1 t) F.entry_int_rmul (F.args_int_rmul_2 _ _) (int_rmul_tuple 1 t l its.toArray n dd sl)
          ⟨ho, rfl, ⟨_, ho, rfl⟩, call_meets F.slot_tuple_mul ⟨_, ho, rfl⟩ F.entry_tuple_mul (F.args_tuple_mul_2 _ _) (tuple_mulS1 l its.toArray n dd sl t) ⟨ho, ?_⟩⟩)
      exact ⟨.ref l, H, I, rfl, q1 rfl⟩
/-- xs[i] of a list, by values, for xs[i] op= e -/
def gGetL (K : PySem.W.Frag) : V → V → Hp → VK → Prop := fun x y H Q => ∃ p xs i v, x = .ref p ∧ y = .int i ∧ SqL K H p xs ∧ 0 ≤ i ∧ xs[i.toNat]? = some v ∧ Q v H
theorem get_list : PGet X (gGetL X.K) := by
  intro pins s σ H o i ov iv Q I ro ri h
  obtain ⟨p, xs, k, v, rfl, rfl, hq, h0, hx, q⟩ := h
  cases ro
  obtain ⟨t, rfl⟩ := ri
  obtain ⟨its, r, pl, hz⟩ := I.list hq
  obtain ⟨w, ew, rw'⟩ := r.get hx
  have hl := r.length
  have hn := line63
  have hk : k.toNat < xs.length := (List.getElem?_eq_some_iff.mp hx).1
  exact wpAny_getItem_list pl.isList h0 (by omega) (by simpa using ew) ⟨v, H, I, rw', q⟩
end
end L2

namespace KW
open PySem L2 Evl
/-! ### data -/
section
variable {K : PySem.W.Frag} {H H' : Hp}
mutual
theorem dp_mono (e : Ex H H') : ∀ (d : PyData) (v : V), Dp K H v d → Dp K H' v d
  | .none, _, h => by
    cases h
    exact .non
  | .bool _, _, h => by
    cases h
    exact .bl _
  | .int _, _, h => by
    cases h
    exact .int _
  | .str _, _, h => by
    cases h
    exact .str _
  | .list ds, _, h => by
    cases h with
    | lst hs ha => exact .lst (ex_l e hs) (dps_mono e ds _ ha)
  | .tuple ds, _, h => by
    cases h with
    | tup hs ha => exact .tup (ex_t e hs) (dps_mono e ds _ ha)
  | .dict _, _, h => by cases h
theorem dps_mono (e : Ex H H') : ∀ (ds : List PyData) (vs : List V), DpAll K H vs ds → DpAll K H' vs ds
  | [], _, h => by
    cases h
    exact .nil
  | d :: ds, _, h => by
    cases h with
    | cons h1 h2 => exact .cons (dp_mono e d _ h1) (dps_mono e ds _ h2)
end
end
def pD (K : PySem.W.Frag) (d : PyData) : PP := ⟨fun z H => Dp K H z d, fun z _ _ e h => dp_mono e d z h⟩
theorem dps_of {K : PySem.W.Frag} {H : Hp} : ∀ {ds : List PyData} {vs : List V}, AllP (ds.map (pD K)) vs H → DpAll K H vs ds
  | [], [], _ => .nil
  | _ :: _, _ :: _, h => .cons h.1 (dps_of h.2)
  | [], _ :: _, h => h.elim
  | _ :: _, [], h => h.elim
theorem tup_dp {K : PySem.W.Frag} {H : Hp} {ds : List PyData} {z : V} (h : (pTup K (ds.map (pD K))).p z H) : Dp K H z (.tuple ds) := by
  obtain ⟨a, xs, rfl, s, al⟩ := h
  exact .tup s (dps_of al)
theorem all_imp {H : Hp} : ∀ {Ps Rs : List PP} {vs : List V}, AllP Ps vs H → Ps.length = Rs.length → (∀ (i : Nat) P R v, Ps[i]? = some P → Rs[i]? = some R → P.p v H → R.p v H) → AllP Rs vs H
  | [], [], _, h, _, _ => h
  | [], _ :: _, _, _, e, _ => by simp at e
  | _ :: _, [], _, _, e, _ => by simp at e
  | P :: Ps, R :: Rs, v :: vs, h, e, k => ⟨k 0 P R v rfl rfl h.1, all_imp h.2 (by simpa using e) fun i P' R' v' a b => k (i + 1) P' R' v' (by simpa using a) (by simpa using b)⟩
  | _ :: _, _ :: _, [], h, _, _ => h.elim
def cellD (b : Bool) : PyData := .tuple [.str (kindS b), .str "a"]
def wD (w : List Bool) : PyData := .tuple (w.map cellD)
section
variable {K : PySem.W.Frag} {σ : L2.St} {H : Hp} {ta tb te : TE} {z : V}
theorem v_dp_int {i : Int} (h : (pV (.int i)).p z H) : Dp K H z (.int i) := by
  obtain rfl : z = .int i := h
  exact .int i
theorem v_dp_non (h : (pV .non).p z H) : Dp K H z .none := by
  obtain rfl : z = .non := h
  exact .non
theorem v_dp_str {x : Str} (h : (pV (.str x)).p z H) : Dp K H z (.str x) := by
  obtain rfl : z = .str x := h
  exact .str x
theorem c_dp {b : Bool} (h : (pC K b).p z H) : Dp K H z (cellD b) := by
  obtain ⟨a, xs, rfl, s, al⟩ := h
  obtain ⟨v, u, rfl, h1, h2⟩ := al.two
  exact .tup s (.cons (v_dp_str h1) (.cons (v_dp_str h2) .nil))
theorem cs_dp : ∀ {w : List Bool} {vs : List V}, AllP (w.map (pC K)) vs H → DpAll K H vs (w.map cellD)
  | [], [], _ => .nil
  | _ :: _, _ :: _, h => .cons (c_dp h.1) (cs_dp h.2)
  | [], _ :: _, h => h.elim
  | _ :: _, [], h => h.elim
theorem w_dp {w : List Bool} (h : (pW K w).p z H) : Dp K H z (wD w) := by
  obtain ⟨a, xs, rfl, s, al⟩ := h
  exact .tup s (cs_dp al)
end
theorem eqv_cell (a b : Bool) : PyData.eqv (cellD a) (cellD b) = decide (a = b) := by
  cases a <;> cases b <;> (simp only [cellD, PyData.eqv, PyData.eqvAll]; decide +kernel)
theorem eqv_cells : ∀ (u v : List Bool), PyData.eqvAll (u.map cellD) (v.map cellD) = decide (u = v)
  | [], [] => by simp [PyData.eqvAll]
  | [], _ :: _ => by simp [PyData.eqvAll]
  | _ :: _, [] => by simp [PyData.eqvAll]
  | a :: u, b :: v => by
    rw [List.map_cons, List.map_cons, PyData.eqvAll, eqv_cell, eqv_cells u v]
    by_cases h1 : a = b <;> by_cases h2 : u = v <;> simp [h1, h2]
theorem eqv_w (u v : List Bool) : PyData.eqv (wD u) (wD v) = decide (u = v) := by
  unfold wD
  rw [PyData.eqv, eqv_cells]
theorem lay_cell (b : Bool) : (cellD b).canLay0 = true ∧ (cellD b).depth ≤ 1 := by
  cases b <;> refine ⟨?_, ?_⟩ <;> (first | (simp only [cellD, PyData.canLay0, PyData.canLayAll0]; decide +kernel) | (simp only [cellD, PyData.depth, PyData.depthAll]; decide))
theorem lay_cells : ∀ w : List Bool, PyData.canLayAll0 (w.map cellD) = true ∧ PyData.depthAll (w.map cellD) ≤ 1
  | [] => ⟨by simp [PyData.canLayAll0], by simp [PyData.depthAll]⟩
  | b :: w => by
    have h1 := lay_cell b
    have h2 := lay_cells w
    refine ⟨?_, ?_⟩
    · rw [List.map_cons, PyData.canLayAll0, h1.1, h2.1]; rfl
    · rw [List.map_cons, PyData.depthAll]
      exact Nat.max_le.mpr ⟨h1.2, h2.2⟩
theorem lay_w (w : List Bool) : (wD w).canLay0 = true ∧ (wD w).depth ≤ 2 := by
  have h := lay_cells w
  unfold wD
  refine ⟨?_, ?_⟩
  · rw [PyData.canLay0]
    exact h.1
  · rw [PyData.depth]
    omega
theorem shaped_of {d : PyData} (h1 : d.canLay0 = true) (h2 : d.depth ≤ 64) : SeqAt.shaped d = true := by
  unfold SeqAt.shaped
  rw [h1, decide_eq_true h2]; rfl
theorem shaped_w (w : List Bool) : SeqAt.shaped (wD w) = true := shaped_of (lay_w w).1 (Nat.le_trans (lay_w w).2 (by decide))
theorem shaped_c (b : Bool) : SeqAt.shaped (cellD b) = true := shaped_of (lay_cell b).1 (Nat.le_trans (lay_cell b).2 (by decide))
section
variable {K : PySem.W.Frag} {σ : L2.St} {H : Hp} {ta tb te : TE}
theorem ep_eqD {d e : PyData} (ha : EvP ta σ H (pD K d)) (hb : EvP tb σ H (pD K e)) (h1 : SeqAt.shaped d = true) (h2 : SeqAt.shaped e = true) : EvP (tOp (rEqD K) ta tb) σ H (pV (.bl (PyData.eqv d e))) :=
  ep_op ha hb fun _ _ H1 _ hx hy _ q => ⟨d, e, hx, hy, h1, h2, q _ H1 (Ex.refl H1) rfl⟩
theorem ep_neD {d e : PyData} (ha : EvP ta σ H (pD K d)) (hb : EvP tb σ H (pD K e)) (h1 : SeqAt.shaped d = true) (h2 : SeqAt.shaped e = true) : EvP (tOp (rNeD K) ta tb) σ H (pV (.bl (!PyData.eqv d e))) :=
  ep_op ha hb fun _ _ H1 _ hx hy _ q => ⟨d, e, hx, hy, h1, h2, q _ H1 (Ex.refl H1) rfl⟩
theorem EvP.wd {w : List Bool} (h : EvP te σ H (pW K w)) : EvP te σ H (pD K (wD w)) := h.as fun _ _ _ p => w_dp p
theorem EvP.cd {b : Bool} (h : EvP te σ H (pC K b)) : EvP te σ H (pD K (cellD b)) := h.as fun _ _ _ p => c_dp p
theorem ep_eqW {u v : List Bool} (ha : EvP ta σ H (pW K u)) (hb : EvP tb σ H (pW K v)) : EvP (tOp (rEqD K) ta tb) σ H (pV (.bl (decide (u = v)))) := by
  have h := ep_eqD ha.wd hb.wd (shaped_w u) (shaped_w v)
  rw [eqv_w] at h
  exact h
theorem ep_neW {u v : List Bool} (ha : EvP ta σ H (pW K u)) (hb : EvP tb σ H (pW K v)) : EvP (tOp (rNeD K) ta tb) σ H (pV (.bl (!decide (u = v)))) := by
  have h := ep_neD ha.wd hb.wd (shaped_w u) (shaped_w v)
  rw [eqv_w] at h
  exact h
theorem ep_eqC {a b : Bool} (ha : EvP ta σ H (pC K a)) (hb : EvP tb σ H (pC K b)) : EvP (tOp (rEqD K) ta tb) σ H (pV (.bl (decide (a = b)))) := by
  have h := ep_eqD ha.cd hb.cd (shaped_c a) (shaped_c b)
  rw [eqv_cell] at h
  exact h
/-- the empty tuple as a word -/
theorem ep_nilW : EvP (tTup tNil) σ H (pW K []) := ep_tup ea_n (Nat.zero_le _)

/-! ### words -/
theorem ep_catW {u v : List Bool} (ha : EvP ta σ H (pW K u)) (hb : EvP tb σ H (pW K v)) (hz : u.length + v.length ≤ 100000) : EvP (tOp (rCatA K) ta tb) σ H (pW K (u ++ v)) := by
  have h := ep_cat ha hb (by rw [List.length_map, List.length_map]; exact hz)
  rw [← List.map_append] at h
  exact h
theorem ep_lenW {w : List Bool} (ha : EvP ta σ H (pW K w)) : EvP (tCB (rLenS K) (tCons ta tNil)) σ H (pV (.int (w.length : Int))) := by
  have h := ep_len ha
  rw [List.length_map] at h
  exact h
theorem ep_slW {w v : List Bool} {tl th : TO} {lo hi : Option Int} (h : EvP te σ H (pW K w)) (h1 : EvO tl σ H lo) (h2 : EvO th σ H hi) (e : cutP w lo hi = v) : EvP (tSl (rSlA K) te tl th) σ H (pW K v) := by
  have g := ep_sl h h1 h2
  rw [cut_map, e] at g
  exact g
theorem cut_from (w : List Bool) (m : Nat) : cutP w (some (m : Int)) none = w.drop m := by
  unfold cutP
  rw [HT.sIx_nat, HT.sIx_none]
  by_cases h : m ≤ w.length
  · rw [Nat.min_eq_left h, List.take_of_length_le (by rw [List.length_drop]; exact Nat.le_refl _)]
  · have h' : w.length ≤ m := Nat.le_of_not_le h
    rw [Nat.min_eq_right h', List.drop_eq_nil_of_le (Nat.le_refl _), List.drop_eq_nil_of_le h', List.take_nil]
theorem cut_to (w : List Bool) (m : Nat) : cutP w none (some (m : Int)) = w.take m := by
  unfold cutP
  rw [HT.sIx_nat, HT.sIx_none, List.drop_zero, Nat.sub_zero]
  by_cases h : m ≤ w.length
  · rw [Nat.min_eq_left h]
  · have h' : w.length ≤ m := Nat.le_of_not_le h
    rw [Nat.min_eq_right h', List.take_length, List.take_of_length_le h']
theorem sIx_m1 (n d : Nat) : HT.sIx n d (some (-1)) = n - 1 := by
  show (if (-1 : Int) < 0 then ((-1 : Int) + (n : Int)).toNat else min (-1 : Int).toNat n) = n - 1
  rw [if_pos (by decide)]
  omega
theorem cut_butlast (w : List Bool) : cutP w none (some (-1)) = w.dropLast := by
  unfold cutP
  rw [sIx_m1, HT.sIx_none, List.drop_zero, Nat.sub_zero, List.dropLast_eq_take]
theorem cut_last (w : List Bool) : cutP w (some (-1)) none = K11.lastW w := by
  unfold cutP K11.lastW
  rw [sIx_m1, HT.sIx_none, List.take_of_length_le (by rw [List.length_drop]; exact Nat.le_refl _)]
theorem map_rep (n : Nat) (w : List Bool) : (List.replicate n (w.map (pC K))).flatten = (K11.rep n w).map (pC K) := by
  unfold K11.rep
  rw [List.map_flatten, List.map_replicate]
theorem ep_mulW {w : List Bool} {n : Nat} (ha : EvP ta σ H (pW K w)) (hb : EvP tb σ H (pV (.int (n : Int)))) (hw : w ≠ []) (hn : n ≤ 1000) (hz : w.length ≤ 1000) : EvP (tOp (rRepA K) ta tb) σ H (pW K (K11.rep n w)) :=
  ep_op ha hb fun x y H1 _ hx hy Q q => by
    obtain ⟨a, xs, rfl, sx, ax⟩ := hx
    have hl := ax.len
    rw [List.length_map] at hl
    have hr := ax.rep n
    rw [map_rep] at hr
    refine ⟨a, (n : Int), xs, rfl, hy, sx, fun e => hw ?_, by omega, by omega, by omega, fun e p hp => ?_, fun e => ?_, fun e p hp => ?_⟩
    · rw [e] at hl
      exact List.eq_nil_of_length_eq_zero hl.symm
    · have e0 : n = 0 := by omega
      subst e0
      exact q _ _ (Ex.new hp) ⟨p, _, rfl, st_of upd_same, True.intro⟩
    · have e1 : n = 1 := by omega
      subst e1
      refine q _ H1 (Ex.refl H1) ⟨a, xs, rfl, sx, ?_⟩
      rw [K11.rep_one]
      exact ax
    · refine q _ _ (Ex.new hp) ⟨p, _, rfl, st_of upd_same, ?_⟩
      rw [Int.toNat_natCast]
      exact hr.mono (Ex.new hp)
end
end KW

/-! Whole numbers, calls, objects; families as objects. -/
namespace KW
open PySem L2 Evl
section
variable {K : PySem.W.Frag} {σ : L2.St} {H H' : Hp} {ta tb te : TE} {t u : TT} {v : V} {P R S : PP} {Ps Rs : List PP} {D : Ends} {tu tz : TS}
/-! ### whole numbers that are not negative -/
abbrev pN (n : Nat) : PP := pV (.int (n : Int))
theorem ep_add {i j : Nat} (ha : EvP ta σ H (pN i)) (hb : EvP tb σ H (pN j)) : EvP (tOp (rI0 fun i j => .int (i + j)) ta tb) σ H (pN (i + j)) :=
  (ep_I0 (g := fun i j => .int (i + j)) ha hb).is (congrArg (fun n : Int => pV (V.int n)) (Int.natCast_add i j).symm)
theorem ep_mul {i j : Nat} (ha : EvP ta σ H (pN i)) (hb : EvP tb σ H (pN j)) (hi : i ≤ 1000000) : EvP (tOp (rI CMul fun i j => .int (i * j)) ta tb) σ H (pN (i * j)) :=
  (ep_I (g := fun i j => .int (i * j)) ha hb (.inl ⟨by omega, by omega⟩)).is (congrArg (fun n : Int => pV (V.int n)) (Int.natCast_mul i j).symm)
theorem fmod_nat (i j : Nat) : ((i : Nat) : Int).fmod ((j : Nat) : Int) = ((i % j : Nat) : Int) := by
  rw [Int.fmod_eq_emod_of_nonneg _ (Int.natCast_nonneg _)]
  exact (Int.natCast_emod i j).symm
theorem fdiv_nat (i j : Nat) : ((i : Nat) : Int).fdiv ((j : Nat) : Int) = ((i / j : Nat) : Int) := by
  rw [Int.fdiv_eq_ediv_of_nonneg _ (Int.natCast_nonneg _)]
  exact (Int.natCast_ediv i j).symm
theorem ep_mod {i j : Nat} (ha : EvP ta σ H (pN i)) (hb : EvP tb σ H (pN j)) (hj : j ≠ 0) : EvP (tOp (rI (fun _ j => j ≠ 0) fun i j => .int (i.fmod j)) ta tb) σ H (pN (i % j)) :=
  (ep_I (g := fun i j => .int (i.fmod j)) ha hb (by omega)).is (by rw [fmod_nat])
theorem ep_div {i j : Nat} (ha : EvP ta σ H (pN i)) (hb : EvP tb σ H (pN j)) (hj : j ≠ 0) (hz : j ≤ 1000000) : EvP (tOp (rI CDivN fun i j => .int (i.fdiv j)) ta tb) σ H (pN (i / j)) :=
  (ep_I (g := fun i j => .int (i.fdiv j)) ha hb ⟨by omega, by omega⟩).is (by rw [fdiv_nat])
theorem ep_eqN {i j : Nat} (ha : EvP ta σ H (pN i)) (hb : EvP tb σ H (pN j)) : EvP (tOp rEq ta tb) σ H (pV (.bl (decide (i = j)))) :=
  (ep_eqS ha hb rfl).is (by rw [show decide (V.int (i : Int) = V.int (j : Int)) = decide (i = j) from decide_eq_decide.mpr ⟨fun e => by injection e with e; omega, fun e => by rw [e]⟩])
theorem ep_neN {i j : Nat} (ha : EvP ta σ H (pN i)) (hb : EvP tb σ H (pN j)) : EvP (tOp rNe ta tb) σ H (pV (.bl (!decide (i = j)))) :=
  (ep_neS ha hb rfl).is (by rw [show decide (V.int (i : Int) = V.int (j : Int)) = decide (i = j) from decide_eq_decide.mpr ⟨fun e => by injection e with e; omega, fun e => by rw [e]⟩])
theorem ep_gtN {i j : Nat} (ha : EvP ta σ H (pN i)) (hb : EvP tb σ H (pN j)) : EvP (tOp (rI0 fun i j => .bl (decide (j < i))) ta tb) σ H (pV (.bl (decide (j < i)))) :=
  (ep_I0 (g := fun i j => .bl (decide (j < i))) ha hb).is (by rw [show decide ((j : Int) < (i : Int)) = decide (j < i) from decide_eq_decide.mpr ⟨fun e => by omega, fun e => by omega⟩])
theorem ea1 {n : V} {tA : TA} (h : EvPA tA σ H [pV n]) : EvA tA σ H [n] := fun H1 e Q q => h H1 e Q fun vs H2 e2 a => by
  obtain ⟨x, rfl, hx⟩ := a.one
  obtain rfl : x = n := hx
  exact q H2 e2
theorem ea2 {n m : V} {tA : TA} (h : EvPA tA σ H [pV n, pV m]) : EvA tA σ H [n, m] := fun H1 e Q q => h H1 e Q fun vs H2 e2 a => by
  obtain ⟨x, y, rfl, hx, hy⟩ := a.two
  obtain rfl : x = n := hx
  obtain rfl : y = m := hy
  exact q H2 e2

/-! ### statements -/
theorem sp_asg {i : Nat} (h : EvP te σ H P) (k : ∀ z H1, Ex H H1 → P.p z H1 → D.nx (σ.set i (some z)) H1) : tAsg te (gName i) D σ H := h H (Ex.refl H) _ fun z H1 e p => k z H1 e p
theorem qp_asg {i : Nat} (h : EvP te σ H P) (k : ∀ z H1, Ex H H1 → P.p z H1 → tz D (σ.set i (some z)) H1) : tSeq (tAsg te (gName i)) tz D σ H := sp_asg (D := { D with nx := tz D }) h k
theorem sp_ret (h : EvP te σ H P) (k : ∀ z H1, Ex H H1 → P.p z H1 → D.rt z H1) : tRet te D σ H := h H (Ex.refl H) _ fun z H1 e p => k z H1 e p
theorem qp_par {i j : Nat} {tA : TA} (h : EvPA tA σ H [P, R]) (k : ∀ z y H1, Ex H H1 → P.p z H1 → R.p y H1 → tz D ((σ.set i (some z)).set j (some y)) H1) : tSeq (tPar i j tA) tz D σ H :=
  h H (Ex.refl H) _ fun vs H1 e a => by
    obtain ⟨x, y, rfl, hx, hy⟩ := a.two
    exact ⟨x, y, rfl, k x y H1 e hx hy⟩
theorem sp_par {i j : Nat} {tA : TA} (h : EvPA tA σ H [P, R]) (k : ∀ z y H1, Ex H H1 → P.p z H1 → R.p y H1 → D.nx ((σ.set i (some z)).set j (some y)) H1) : tPar i j tA D σ H :=
  h H (Ex.refl H) _ fun vs H1 e a => by
    obtain ⟨x, y, rfl, hx, hy⟩ := a.two
    exact ⟨x, y, rfl, k x y H1 e hx hy⟩
theorem sp_par3 {i j l : Nat} {tA : TA} (h : EvPA tA σ H [P, R, S]) (k : ∀ z y w H1, Ex H H1 → P.p z H1 → R.p y H1 → S.p w H1 → D.nx (((σ.set i (some z)).set j (some y)).set l (some w)) H1) : tPar3 i j l tA D σ H :=
  h H (Ex.refl H) _ fun vs H1 e a => by
    obtain ⟨x, y, w, rfl, hx, hy, hw⟩ := a.three
    exact ⟨x, y, w, rfl, k x y w H1 e hx hy hw⟩
/-- for m in range(lo, n), range(n): the invariant by the item itself -/
theorem qp_rng2 {tA : TA} {j lo n : Nat} (h : EvPA tA σ H [pN lo, pN n]) (hlo : lo ≤ n) (hn : n ≤ 100000) (Pv : Nat → L2.St → Hp → Prop) (h0 : ∀ H1, Ex H H1 → Pv lo σ H1)
    (hs : ∀ (m : Nat) σ' H', lo ≤ m → m < n → Pv m σ' H' → tu { D with nx := Pv (m + 1), ct := Pv (m + 1), bk := tz D } (σ'.set j (some (.int (m : Int)))) H') (hd : ∀ σ' H', Pv n σ' H' → tz D σ' H') : tSeq (tFor (iRng2 tA) (gName j) tu) tz D σ H :=
  q_forR2 (ea2 h) ⟨by omega, by omega, by omega, by omega⟩ (fun i => Pv (lo + i)) h0 (fun i σ' H' hi p => by
    have e : (lo : Int) + (i : Int) = ((lo + i : Nat) : Int) := by omega
    rw [e]
    exact hs (lo + i) σ' H' (by omega) (by omega) p) (fun σ' H' p => hd σ' H' (by
    have e : lo + ((n : Int) - (lo : Int)).toNat = n := by omega
    rw [e] at p
    exact p))
theorem qp_rng1 {tA : TA} {j n : Nat} (h : EvPA tA σ H [pN n]) (hn : n ≤ 100000) (Pv : Nat → L2.St → Hp → Prop) (h0 : ∀ H1, Ex H H1 → Pv 0 σ H1)
    (hs : ∀ (m : Nat) σ' H', m < n → Pv m σ' H' → tu { D with nx := Pv (m + 1), ct := Pv (m + 1), bk := tz D } (σ'.set j (some (.int (m : Int)))) H') (hd : ∀ σ' H', Pv n σ' H' → tz D σ' H') : tSeq (tFor (iRng1 tA) (gName j) tu) tz D σ H :=
  q_forR1 (ea1 h) ⟨by omega, by omega⟩ Pv h0 (fun i σ' H' hi p => hs i σ' H' (by omega) p) (fun σ' H' p => hd σ' H' (by
    rw [Int.toNat_natCast] at p
    exact p))

/-! ### calls -/
/-- the promise of a def that only reads and makes: from such arguments such a value -/
def spP (Ps : List PP) (S : PP) (vs : List V) (H : Hp) (Q : VK) : Prop := AllP Ps vs H ∧ ∀ z H', Ex H H' → S.p z H' → Q z H'
theorem ep_call {sp : Sp} {E : XK} {tA : TA} (h : EvPA tA σ H Ps) (hs : ∀ vs H1 Q, Ex H H1 → spP Ps S vs H1 Q → sp vs H1 Q E) : EvP (tCall sp [] E tA) σ H S := fun H1 e Q q =>
  h H1 e _ fun vs H2 e2 a => by
    rw [List.append_nil]
    exact hs vs H2 Q (e.trans e2) ⟨a, fun z H3 e3 p => q z H3 (e2.trans e3) p⟩

/-! ### families -/
def fF (l c r : V) (n m : Int) : List (Str × V) := putF "more" (.int m) (putF "rate" (.int n) (putF "right" r (putF "core" c (putF "left" l []))))
def pF (K : PySem.W.Frag) (C : Addr) (F : K11.Fam Bool) : PP := ⟨fun z H => ∃ a dx l c r, z = .ref a ∧ H a = some (.ins C dx (fF l c r F.rate F.more)) ∧ (pW K F.left).p l H ∧ (pW K F.core).p c H ∧ (pW K F.right).p r H,
  fun _ H1 H2 e ⟨a, dx, l, c, r, h1, h2, h3, h4, h5⟩ => ⟨a, dx, l, c, r, h1, e _ _ h2, PP.mono _ _ H1 H2 e h3, PP.mono _ _ H1 H2 e h4, PP.mono _ _ H1 H2 e h5⟩⟩
theorem s_lc : ¬ (("left" : Str) = "core") := by decide +kernel
theorem s_lr : ¬ (("left" : Str) = "right") := by decide +kernel
theorem s_ln : ¬ (("left" : Str) = "rate") := by decide +kernel
theorem s_lm : ¬ (("left" : Str) = "more") := by decide +kernel
theorem s_cr : ¬ (("core" : Str) = "right") := by decide +kernel
theorem s_cn : ¬ (("core" : Str) = "rate") := by decide +kernel
theorem s_cm : ¬ (("core" : Str) = "more") := by decide +kernel
theorem s_rn : ¬ (("right" : Str) = "rate") := by decide +kernel
theorem s_rm : ¬ (("right" : Str) = "more") := by decide +kernel
theorem s_nm : ¬ (("rate" : Str) = "more") := by decide +kernel
theorem fF_left (l c r : V) (n m : Int) : (fF l c r n m).lookup ("left" : Str) = some l := by
  unfold fF
  rw [lookup_putF, if_neg s_lm, lookup_putF, if_neg s_ln, lookup_putF, if_neg s_lr, lookup_putF, if_neg s_lc, lookup_putF, if_pos rfl]
theorem fF_core (l c r : V) (n m : Int) : (fF l c r n m).lookup ("core" : Str) = some c := by
  unfold fF
  rw [lookup_putF, if_neg s_cm, lookup_putF, if_neg s_cn, lookup_putF, if_neg s_cr, lookup_putF, if_pos rfl]
theorem fF_right (l c r : V) (n m : Int) : (fF l c r n m).lookup ("right" : Str) = some r := by
  unfold fF
  rw [lookup_putF, if_neg s_rm, lookup_putF, if_neg s_rn, lookup_putF, if_pos rfl]
theorem fF_rate (l c r : V) (n m : Int) : (fF l c r n m).lookup ("rate" : Str) = some (.int n) := by
  unfold fF
  rw [lookup_putF, if_neg s_nm, lookup_putF, if_pos rfl]
theorem fF_more (l c r : V) (n m : Int) : (fF l c r n m).lookup ("more" : Str) = some (.int m) := by
  unfold fF
  rw [lookup_putF, if_pos rfl]
theorem fF_no (l c r : V) (n m : Int) {f : Str} (h1 : ¬ f = "left") (h2 : ¬ f = "core") (h3 : ¬ f = "right") (h4 : ¬ f = "rate") (h5 : ¬ f = "more") : (fF l c r n m).lookup f = none := by
  unfold fF
  rw [lookup_putF, if_neg h5, lookup_putF, if_neg h4, lookup_putF, if_neg h3, lookup_putF, if_neg h2, lookup_putF, if_neg h1]
  rfl
/-- the class's facts -/
structure FT (K : PySem.W.Frag) (C : Addr) : Prop where
  cl : Cls K C
  nL : NoAttr K C "left"
  nC : NoAttr K C "core"
  nR : NoAttr K C "right"
  nN : NoAttr K C "rate"
  nM : NoAttr K C "more"
variable {C : Addr} {F : K11.Fam Bool}
theorem ep_fld {f : Str} (h : EvP te σ H (pF K C F)) (T : Cls K C) (n : NoAttr K C f) (k : ∀ l c r H1, (pW K F.left).p l H1 → (pW K F.core).p c H1 → (pW K F.right).p r H1 → ∃ v, (fF l c r F.rate F.more).lookup f = some v ∧ P.p v H1) : EvP (tFld K te f) σ H P := fun H1 e Q q =>
  h H1 e _ fun z H2 e2 ⟨a, dx, l, c, r, h1, h2, h3, h4, h5⟩ => by
    obtain ⟨v, lk, pv⟩ := k l c r H2 h3 h4 h5
    exact ⟨a, C, dx, _, v, h1, h2, T, n, lk, q v H2 e2 pv⟩
theorem ep_left (T : FT K C) (h : EvP te σ H (pF K C F)) : EvP (tFld K te "left") σ H (pW K F.left) := ep_fld h T.cl T.nL fun l c r _ a _ _ => ⟨l, fF_left _ _ _ _ _, a⟩
theorem ep_core (T : FT K C) (h : EvP te σ H (pF K C F)) : EvP (tFld K te "core") σ H (pW K F.core) := ep_fld h T.cl T.nC fun l c r _ _ a _ => ⟨c, fF_core _ _ _ _ _, a⟩
theorem ep_right (T : FT K C) (h : EvP te σ H (pF K C F)) : EvP (tFld K te "right") σ H (pW K F.right) := ep_fld h T.cl T.nR fun l c r _ _ _ a => ⟨r, fF_right _ _ _ _ _, a⟩
theorem ep_rate (T : FT K C) (h : EvP te σ H (pF K C F)) : EvP (tFld K te "rate") σ H (pN F.rate) := ep_fld h T.cl T.nN fun l c r _ _ _ _ => ⟨_, fF_rate _ _ _ _ _, rfl⟩
theorem ep_more (T : FT K C) (h : EvP te σ H (pF K C F)) : EvP (tFld K te "more") σ H (pN F.more) := ep_fld h T.cl T.nM fun l c r _ _ _ _ => ⟨_, fF_more _ _ _ _ _, rfl⟩
/-- a method of a family that only reads and makes -/
theorem ep_meth {m : Str} {sp : Sp} {E : XK} {to : TE} {tA : TA} (h : EvP to σ H (pF K C F)) (hA : EvPA tA σ H Ps) (h1 : ¬ m = "left") (h2 : ¬ m = "core") (h3 : ¬ m = "right") (h4 : ¬ m = "rate") (h5 : ¬ m = "more")
    (hs : ∀ vs H1 Q, Ex H H1 → spP (pF K C F :: Ps) S vs H1 Q → sp vs H1 Q E) : EvP (tMeth C m sp [] E to tA) σ H S := fun H1 e Q q =>
  h H1 e _ fun x H2 e2 px => by
    obtain ⟨a, dx, l, c, r, rfl, i1, i2, i3, i4⟩ := id px
    refine ⟨a, dx, _, rfl, i1, fF_no _ _ _ _ _ h1 h2 h3 h4 h5, hA H2 (e.trans e2) _ fun vs H3 e3 av => ?_⟩
    rw [List.append_nil]
    exact hs _ H3 Q ((e.trans e2).trans e3) ⟨⟨PP.mono _ _ H2 H3 e3 px, av⟩, fun z H4 e4 p => q z H4 ((e2.trans e3).trans e4) p⟩
/-- what never changes is kept: tuples, locked things -/
structure Kt (H H' : Hp) : Prop where
  tup : ∀ b xs, H b = some (.tup xs) → H' b = some (.tup xs)
  frz : ∀ b o u, H b = some (.frz o u) → H' b = some (.frz o u)
theorem kt_rd {a : Addr} {xs : List V} (e : Kt H H') (h : Rd H a (.tup xs)) : Rd H' a (.tup xs) := by
  rcases h with h | ⟨o, h⟩
  · exact Or.inl (e.tup a xs h)
  · exact Or.inr ⟨o, e.frz a o _ h⟩
theorem kt_t {a : Addr} {xs : List V} (e : Kt H H') (h : SqT K H a xs) : SqT K H' a xs := by
  rcases h with h | h
  · exact Or.inl (kt_rd e h)
  · exact Or.inr h
theorem c_kt {b : Bool} {z : V} (e : Kt H H') (h : (pC K b).p z H) : (pC K b).p z H' := by
  obtain ⟨a, xs, rfl, s, al⟩ := h
  obtain ⟨v, u, rfl, h1, h2⟩ := al.two
  exact ⟨a, _, rfl, kt_t e s, h1, h2, True.intro⟩
theorem cs_kt (e : Kt H H') : ∀ {w : List Bool} {vs : List V}, AllP (w.map (pC K)) vs H → AllP (w.map (pC K)) vs H'
  | [], [], _ => True.intro
  | _ :: _, _ :: _, h => ⟨c_kt e h.1, cs_kt e h.2⟩
  | [], _ :: _, h => h.elim
  | _ :: _, [], h => h.elim
theorem w_kt {w : List Bool} {z : V} (e : Kt H H') (h : (pW K w).p z H) : (pW K w).p z H' := by
  obtain ⟨a, xs, rfl, s, al⟩ := h
  exact ⟨a, xs, rfl, kt_t e s, cs_kt e al⟩
theorem kt_ins {p C dx : Addr} {fs gs : List (Str × V)} (h : H p = some (.ins C dx fs)) : Kt H (upd H p (.ins C dx gs)) :=
  ⟨fun b xs e => by rw [upd_ne (ne_of e h (by intro z; cases z))]; exact e, fun b o u e => by rw [upd_ne (ne_of e h (by intro z; cases z))]; exact e⟩
/-- a word's last cell -/
theorem ep_lastC {m : List Bool} {x : Bool} (ha : EvP ta σ H (pW K (m ++ [x]))) (hb : EvP tb σ H (pV (.int (-1)))) : EvP (tOp (rIxT K) ta tb) σ H (pC K x) :=
  ep_ixlast (Ps := m.map (pC K)) (ha.is (congrArg (pTup K) (by rw [List.map_append]; rfl))) hb
theorem ep_m1 : EvP (tUn (rU fun i => .int (-i)) (tC (.int 1))) σ H (pV (.int (-1))) := ep_neg (i := 1) ep_c
/-- the sizes of a family -/
structure Sz (F : K11.Fam Bool) : Prop where
  ne : F.core ≠ []
  l : F.left.length ≤ 100
  c : F.core.length ≤ 40
  r : F.right.length ≤ 200
  n : F.rate ≤ 40
  m : F.more ≤ 200
theorem sz_fam {l g r : List Bool} (hg : g ≠ []) (h1 : l.length ≤ 100) (h2 : g.length ≤ 40) (h3 : r.length ≤ 100) : Sz (K11.fam l g r) := by
  obtain ⟨a, b, c, d, e, f⟩ := K11.fam_len l g r hg
  exact ⟨K11.fam_core_ne l g r hg, by omega, by omega, by omega, by omega, by omega⟩
theorem sz_rounds {F : K11.Fam Bool} (z : Sz F) {n : Nat} (h : n ≤ 20) : F.rounds n ≤ 1000 := by
  unfold K11.Fam.rounds
  have h1 : F.rate * n ≤ 40 * 20 := Nat.mul_le_mul z.n h
  have := z.m
  omega
theorem word_len (F : K11.Fam Bool) (n : Nat) : (F.word n).length = F.left.length + F.core.length * F.rounds n + F.right.length := by
  unfold K11.Fam.word
  rw [List.length_append, List.length_append, K11.rep_len, Nat.mul_comm]
theorem ep_sub {i j : Nat} (ha : EvP ta σ H (pN i)) (hb : EvP tb σ H (pN j)) (h : j ≤ i) : EvP (tOp (rI0 fun i j => .int (i - j)) ta tb) σ H (pN (i - j)) :=
  (ep_I0 (g := fun i j => .int (i - j)) ha hb).is (congrArg (fun n : Int => pV (V.int n)) (by omega))
theorem ep_ltN {i j : Nat} (ha : EvP ta σ H (pN i)) (hb : EvP tb σ H (pN j)) : EvP (tOp (rI0 fun i j => .bl (decide (i < j))) ta tb) σ H (pV (.bl (decide (i < j)))) :=
  (ep_I0 (g := fun i j => .bl (decide (i < j))) ha hb).is (by rw [show decide ((i : Int) < (j : Int)) = decide (i < j) from decide_eq_decide.mpr ⟨fun e => by omega, fun e => by omega⟩])
/-- two families are told alike -/
def sameB (F G : K11.Fam Bool) : Bool := (decide (F.left = G.left) && (decide (F.core = G.core) && (decide (F.right = G.right) && true))) && (decide (F.rate = G.rate) && (decide (F.more = G.more) && true))
theorem sameB_iff {F G : K11.Fam Bool} : sameB F G = true ↔ F = G := by
  unfold sameB
  cases F
  cases G
  simp only [Bool.and_eq_true, decide_eq_true_eq, Bool.and_true, K11.Fam.mk.injEq]
  constructor
  · rintro ⟨⟨a, b, c⟩, d, e⟩
    exact ⟨a, b, c, d, e⟩
  · rintro ⟨a, b, c, d, e⟩
    exact ⟨⟨a, b, c⟩, d, e⟩
theorem sameB_no {F G : K11.Fam Bool} (h : F ≠ G) : sameB F G = false := by
  cases e : sameB F G with
  | false => rfl
  | true => exact absurd (sameB_iff.mp e) h
theorem lay_int (i : Int) : (PyData.int i).canLay0 = true ∧ (PyData.int i).depth ≤ 2 := ⟨by simp [PyData.canLay0], by simp [PyData.depth]⟩
theorem shaped_tup {ds : List PyData} (h : ∀ d ∈ ds, d.canLay0 = true ∧ d.depth ≤ 2) : SeqAt.shaped (.tuple ds) = true := by
  have a : ∀ ds : List PyData, (∀ d ∈ ds, d.canLay0 = true ∧ d.depth ≤ 2) → PyData.canLayAll0 ds = true ∧ PyData.depthAll ds ≤ 2 := by
    intro ds
    induction ds with
    | nil => exact fun _ => ⟨by simp [PyData.canLayAll0], by simp [PyData.depthAll]⟩
    | cons d r ih =>
      intro h
      have h1 := h d List.mem_cons_self
      have h2 := ih fun x hx => h x (List.mem_cons_of_mem _ hx)
      refine ⟨?_, ?_⟩
      · rw [PyData.canLayAll0, h1.1, h2.1]; rfl
      · rw [PyData.depthAll]
        exact Nat.max_le.mpr ⟨h1.2, h2.2⟩
  have b := a ds h
  refine shaped_of ?_ ?_
  · rw [PyData.canLay0]
    exact b.1
  · rw [PyData.depth]
    omega
def toldD (F : K11.Fam Bool) : PyData := .tuple [wD F.left, wD F.core, wD F.right]
def numsD (n m : Nat) : PyData := .tuple [.int (n : Int), .int (m : Int)]
theorem shaped_told (F : K11.Fam Bool) : SeqAt.shaped (toldD F) = true := shaped_tup fun d hd => by
  simp only [List.mem_cons, List.not_mem_nil, or_false] at hd
  rcases hd with rfl | rfl | rfl <;> exact lay_w _
theorem shaped_nums (n m : Nat) : SeqAt.shaped (numsD n m) = true := shaped_tup fun d hd => by
  simp only [List.mem_cons, List.not_mem_nil, or_false] at hd
  rcases hd with rfl | rfl <;> exact lay_int _
theorem eqv_int (n m : Nat) : PyData.eqv (.int (n : Int)) (.int (m : Int)) = decide (n = m) := by
  rw [PyData.eqv, Bool.beq_eq_decide_eq]
  exact decide_eq_decide.mpr ⟨fun e => by omega, fun e => by omega⟩
theorem eqv_told (F G : K11.Fam Bool) : PyData.eqv (toldD F) (toldD G) = (decide (F.left = G.left) && (decide (F.core = G.core) && (decide (F.right = G.right) && true))) := by
  unfold toldD
  rw [PyData.eqv, PyData.eqvAll, PyData.eqvAll, PyData.eqvAll, PyData.eqvAll, eqv_w, eqv_w, eqv_w]
theorem eqv_nums (n m n' m' : Nat) : PyData.eqv (numsD n m) (numsD n' m') = (decide (n = n') && (decide (m = m') && true)) := by
  unfold numsD
  rw [PyData.eqv, PyData.eqvAll, PyData.eqvAll, PyData.eqvAll, eqv_int, eqv_int]
theorem told_dp {z : V} (h : (pTup K [pW K F.left, pW K F.core, pW K F.right]).p z H) : Dp K H z (toldD F) := by
  obtain ⟨a, xs, rfl, s, al⟩ := h
  obtain ⟨x, y, w, rfl, h1, h2, h3⟩ := al.three
  exact .tup s (.cons (w_dp h1) (.cons (w_dp h2) (.cons (w_dp h3) .nil)))
theorem nums_dp {n m : Nat} {z : V} (h : (pTup K [pN n, pN m]).p z H) : Dp K H z (numsD n m) := by
  obtain ⟨a, xs, rfl, s, al⟩ := h
  obtain ⟨x, y, rfl, h1, h2⟩ := al.two
  exact .tup s (.cons (v_dp_int h1) (.cons (v_dp_int h2) .nil))
/-- the word of so many cells, if there is one -/
def ofLen (F : K11.Fam Bool) (m : Nat) : Option (List Bool) :=
  if (m - F.left.length - F.right.length) % F.core.length = 0 then some (F.left ++ K11.rep ((m - F.left.length - F.right.length) / F.core.length) F.core ++ F.right) else none
def pO (K : PySem.W.Frag) : Option (List Bool) → PP
  | none => pV .non
  | some w => pW K w
def pI : Option Nat → PP
  | none => pV .non
  | some u => pN u
theorem core_pos (z : Sz F) : 1 ≤ F.core.length := by
  have h := z.ne
  cases e : F.core with
  | nil => exact absurd e h
  | cons a b => simp
end
end KW

/-! The walk: root_of, the class Family, family_of, same_family, first_unlike. -/
namespace KD
open PySem L2 Evl KW K11
/-! ### the text by places -/
def top (i : Nat) : Stmt := PySem.Challenge.pw_allstitches_k11_whole_families.main.body.getD i (.Pass ⟨0, 0, 0, 0⟩)
abbrev sRoot : Stmt := top 1
abbrev sInit : Stmt := inClass (top 2) 0
abbrev sTold : Stmt := inClass (top 2) 1
abbrev sRnds : Stmt := inClass (top 2) 2
abbrev sWord : Stmt := inClass (top 2) 3
abbrev sLeng : Stmt := inClass (top 2) 4
abbrev sOfLn : Stmt := inClass (top 2) 5
abbrev sFamO : Stmt := top 3
abbrev sSame : Stmt := top 4
abbrev sUnli : Stmt := top 5
theorem scRoot : FnScope ["word", "many"] ["word"] (defScope sRoot) := ⟨rfl, rfl, rfl, by decide +kernel, rfl, by decide +kernel, by decide +kernel⟩
theorem scInit : FnScope ["self", "left", "group", "right", "core", "rate", "more"] ["self", "left", "group", "right"] (defScope sInit) := ⟨rfl, rfl, rfl, by decide +kernel, rfl, by decide +kernel, by decide +kernel⟩
theorem scTold : FnScope ["self"] ["self"] (defScope sTold) := ⟨rfl, rfl, rfl, by decide +kernel, rfl, by decide +kernel, by decide +kernel⟩
theorem scRnds : FnScope ["self", "turns"] ["self", "turns"] (defScope sRnds) := ⟨rfl, rfl, rfl, by decide +kernel, rfl, by decide +kernel, by decide +kernel⟩
theorem scWord : FnScope ["self", "turns"] ["self", "turns"] (defScope sWord) := ⟨rfl, rfl, rfl, by decide +kernel, rfl, by decide +kernel, by decide +kernel⟩
theorem scLeng : FnScope ["self", "turns"] ["self", "turns"] (defScope sLeng) := ⟨rfl, rfl, rfl, by decide +kernel, rfl, by decide +kernel, by decide +kernel⟩
theorem scOfLn : FnScope ["self", "many", "rest"] ["self", "many"] (defScope sOfLn) := ⟨rfl, rfl, rfl, by decide +kernel, rfl, by decide +kernel, by decide +kernel⟩
theorem scFamO : FnScope ["row"] ["row"] (defScope sFamO) := ⟨rfl, rfl, rfl, by decide +kernel, rfl, by decide +kernel, by decide +kernel⟩
theorem scSame : FnScope ["one", "two"] ["one", "two"] (defScope sSame) := ⟨rfl, rfl, rfl, by decide +kernel, rfl, by decide +kernel, by decide +kernel⟩
theorem scUnli : FnScope ["one", "two", "turns"] ["one", "two"] (defScope sUnli) := ⟨rfl, rfl, rfl, by decide +kernel, rfl, by decide +kernel, by decide +kernel⟩

/-! ### promises -/
def spRoot (K : PySem.W.Frag) : Sp := fun vs H Q _ => ∃ w : List Bool, w ≠ [] ∧ w.length ≤ 100 ∧ spP [pW K w] (pW K (root w)) vs H Q

section
variable {P : Program} {w : World} {K : PySem.W.Frag} {mg : Str → Option Value} {base : Heap}
theorem ok_root {f : Addr} {fd : FuncData} (Fn : Fun K "root_of" "root_of" sRoot f fd) (mr : mg "range" = none) (ml : mg "len" = none) : FnOk P w K mg base CX0 1 f fd ["word"] (spRoot K) := by
  refine Fn.ok scRoot (fun vs H Q E h => ?_) (fun cdv A outer s H vs Q E hr h => ?_)
  · obtain ⟨w, _, _, a, _⟩ := h
    exact a.len
  · obtain ⟨w, hw, hl, a, q⟩ := h
    obtain ⟨v, rfl, hv⟩ := a.one
    refine ⟨_, pss_cons (ps_for PassesOwn.never rfl (pi_range2 (by rfl) mr (pa_cons pe_int (pa_cons (pe_op op_add (pe_callB call_len_seq (by rfl) ml PySem.boot_len (pa_cons (pv 0) pa_nil)) pe_int) pa_nil))) (pg_name (i := 1) scRoot.nd rfl (Or.inl rfl))
        (pss_one (ps_if (PW.pt (pw_and (pt_cmpR op_eq (pe_op op_modN (pe_callB call_len_seq (by rfl) ml PySem.boot_len (pa_cons (pv 0) pa_nil)) (pv 1)) pe_int (nomark _))
          (pw_and1 (pt_cmpR (op_eqD hr.units) (pe_op op_catA (pe_slice sl_tupA (pv 0) (po_some (pv 1)) po_none) (pe_slice sl_tupA (pv 0) po_none (po_some (pv 1)))) (pv 0) (nomark _)))))
          (pss_one (ps_ret (pe_slice sl_tupA (pv 0) po_none (po_some (pv 1))))) pss_nil)))
      (pss_one (ps_ret (pv 0))), ?_⟩
    have hw1 : 1 ≤ w.length := by
      cases w with
      | nil => exact absurd rfl hw
      | cons a b => simp
    have ir := isRoot_len hw
    refine qp_rng2 (lo := 1) (n := w.length + 1) (ea_c ep_c (ea_c (ep_add (ep_lenW (ep_var hv rfl)) ep_c) ea_n)) (by omega) (by omega)
      (fun m σ' H' => ∃ o, σ' = [some v, o] ∧ Ex H H' ∧ ∀ k, 1 ≤ k → k < m → good w k = false) (fun H1 e1 => ⟨none, rfl, e1, fun k _ _ => by omega⟩) (fun m σ' H' h1 h2 p => ?_) (fun σ' H' p => ?_)
    · obtain ⟨o, rfl, e1, no⟩ := p
      have hv1 : (pW K w).p v H' := PP.mono _ _ H H' e1 hv
      refine s_if (b := good w m) (et_and (et_t (ep_eqN (ep_mod (ep_lenW (ep_var hv1 rfl)) (ep_vv rfl) (by omega)) ep_c))
        (fun _ => et_t (ep_eqW (ep_catW (ep_slW (ep_var hv1 rfl) (eo_s (ep_vv rfl)) eo_none (cut_from w m)) (ep_slW (ep_var hv1 rfl) eo_none (eo_s (ep_vv rfl)) (cut_to w m)) (by rw [List.length_drop, List.length_take]; omega)) (ep_var hv1 rfl))))
        (fun hb H2 e2 => ?_) (fun hb H2 e2 => ?_)
      · have er : rootLen w = m := rootLen_eq h1 (by omega) hb no
        refine sp_ret (ep_slW (ep_var (PP.mono _ _ H' H2 e2 hv1) rfl) eo_none (eo_s (ep_vv rfl)) (cut_to w m)) fun z H3 e3 pz => q z H3 ((e1.trans e2).trans e3) ?_
        unfold root
        rw [er]
        exact pz
      · refine ⟨_, rfl, e1.trans e2, fun k a b => ?_⟩
        by_cases e : k = m
        · rw [e]
          exact hb
        · exact no k a (by omega)
    · obtain ⟨o, rfl, e1, no⟩ := p
      have := ir.good
      rw [no _ ir.pos (by have := ir.le; omega)] at this
      cases this

def spInit (K : PySem.W.Frag) (C : Addr) : Sp := fun vs H Q _ => ∃ (p dx : Addr) (l g r : List Bool) (vs' : List V), g ≠ [] ∧ l.length ≤ 100 ∧ g.length ≤ 100 ∧ r.length ≤ 100 ∧ vs = .ref p :: vs' ∧ AllP [pW K l, pW K g, pW K r] vs' H ∧ H p = some (.ins C dx []) ∧
  ∀ H' vl vc vr, (∀ b o, H b = some o → b ≠ p → H' b = some o) → H' p = some (.ins C dx (fF vl vc vr (fam l g r).rate (fam l g r).more)) → (pW K (fam l g r).left).p vl H' → (pW K (fam l g r).core).p vc H' → (pW K (fam l g r).right).p vr H' → Q .non H'

theorem ok_init {C f fR : Addr} {fd fdR : FuncData} (Fn : Fun K "__init__" "Family.__init__" sInit f fd) (T : FT K C) (FR : Fun K "root_of" "root_of" sRoot fR fdR) (GR : FnOk P w K mg base CX0 1 fR fdR ["word"] (spRoot K)) (bR : Binds K fdR ["word"] [])
    (gR : mg "root_of" = some (.ref fR)) (ml : mg "len" = none) : FnOk P w K mg base CX0 2 f fd ["self", "left", "group", "right"] (spInit K C) := by
  refine Fn.ok scInit (fun vs H Q E h => ?_) (fun cdv A outer s H vs Q E hr h => ?_)
  · obtain ⟨p, dx, l, g, r, vs', _, _, _, _, rfl, a, _⟩ := h
    rw [List.length_cons, a.len]
    rfl
  · obtain ⟨p, dx, l, g, r, vs', hg, ll, lg, lr, rfl, a, hp, q⟩ := h
    obtain ⟨vl, vg, vr, rfl, pl, pg, pr⟩ := a.three
    refine ⟨_, pss_cons (ps_set (i := 4) scInit.nd rfl (Or.inl rfl) (pe_call GR hr (by rfl) gR FR.kp bR .nil pass0 (pa_cons (pv 2) pa_nil)))
      (pss_cons (ps_par (i := 5) (j := 6) (by rfl) scInit.nd rfl rfl (by decide) rfl rfl (pa_cons (pe_op op_fdivN (pe_callB call_len_seq (by rfl) ml PySem.boot_len (pa_cons (pv 2) pa_nil)) (pe_callB call_len_seq (by rfl) ml PySem.boot_len (pa_cons (pv 4) pa_nil))) (pa_cons pe_int pa_nil)) (by rfl))
      (pss_cons (ps_while PassesOwn.never (PW.pt (pw_and (pt_cmpR (op_neD hr.units) (pv 1) (pe_tup pa_nil) (nomark _)) (pw_and1 (pt_cmpR (op_eqD hr.units) (pe_ix ix_tup (pv 1) (pe_un un_neg pe_int) (fun _ _ => rfl)) (pe_ix ix_tup (pv 4) (pe_un un_neg pe_int) (fun _ _ => rfl)) (nomark _)))))
        (pss_one (ps_par3 (i := 1) (j := 3) (l := 4) (by rfl) scInit.nd rfl rfl rfl (by decide) (by decide) (by decide) rfl rfl rfl
          (pa_cons (pe_slice sl_tupA (pv 1) po_none (po_some (pe_un un_neg pe_int))) (pa_cons (pe_op op_catA (pe_slice sl_tupA (pv 4) (po_some (pe_un un_neg pe_int)) po_none) (pv 3))
            (pa_cons (pe_op op_catA (pe_slice sl_tupA (pv 4) (po_some (pe_un un_neg pe_int)) po_none) (pe_slice sl_tupA (pv 4) po_none (po_some (pe_un un_neg pe_int)))) pa_nil))) (by rfl))))
      (pss_cons (ps_while PassesOwn.never (pt_cmpR (op_eqD hr.units) (pe_slice sl_tupA (pv 3) po_none (po_some (pe_callB call_len_seq (by rfl) ml PySem.boot_len (pa_cons (pv 4) pa_nil)))) (pv 4) (nomark _))
        (pss_one (ps_par (i := 3) (j := 6) (by rfl) scInit.nd rfl rfl (by decide) rfl rfl (pa_cons (pe_slice sl_tupA (pv 3) (po_some (pe_callB call_len_seq (by rfl) ml PySem.boot_len (pa_cons (pv 4) pa_nil))) po_none) (pa_cons (pe_op op_add (pv 6) pe_int) pa_nil)) (by rfl))))
      (pss_cons (ps_fld (pv 0) (pv 1) rfl) (pss_cons (ps_fld (pv 0) (pv 4) rfl) (pss_cons (ps_fld (pv 0) (pv 3) rfl) (pss_cons (ps_fld (pv 0) (pv 5) rfl) (pss_one (ps_fld (pv 0) (pv 6) rfl))))))))), ?_⟩
    have hc0 := root_ne hg
    have hcl : (root g).length ≤ 100 := by
      rw [root_len hg]
      exact Nat.le_trans (isRoot_len hg).le lg
    have hc1 : 1 ≤ (root g).length := by
      rw [root_len hg]
      exact (isRoot_len hg).pos
    -- core = root_of(group)
    refine qp_asg (ep_call (S := pW K (root g)) (ea_c (ep_var pg rfl) ea_n) fun vs H1 Q1 e1 sp => ⟨g, hg, lg, sp⟩) fun vc H1 e1 pc => ?_
    -- rate, more = len(group) // len(core), 0
    refine qp_par (ea_c (ep_div (ep_lenW (ep_var (PP.mono _ _ _ _ e1 pg) rfl)) (ep_lenW (ep_var pc rfl)) (by omega) (by omega)) (ea_c (ep_c (v := .int 0)) ea_n)) fun vn vm H2 e2 hn hm => ?_
    obtain rfl : vn = _ := hn
    obtain rfl : vm = _ := hm
    -- while left != () and left[-1] == core[-1]
    refine q_while (fun m σ' H' => ∃ (l' c' r' : List Bool) (ul uc ur : V), σ' = [some (.ref p), some ul, some vg, some ur, some uc, some (.int ((g.length / (root g).length : Nat) : Int)), some (.int 0)] ∧ Ex H H' ∧ m = l'.length ∧ c' ≠ [] ∧
        (pW K l').p ul H' ∧ (pW K c').p uc H' ∧ (pW K r').p ur H' ∧ stripW l' c' r' = stripW l (root g) r ∧ c'.length = (root g).length ∧ l'.length + r'.length ≤ 200) l.length
      ⟨l, root g, r, vl, vc, vr, rfl, e1.trans e2, rfl, hc0, PP.mono _ _ _ _ (e1.trans e2) pl, PP.mono _ _ _ _ e2 pc, PP.mono _ _ _ _ (e1.trans e2) pr, rfl, rfl, by omega⟩ (fun m σ' H3 hw => ?_)
    obtain ⟨l', c', r', ul, uc, ur, rfl, e3, rfl, hc', ql, qc, qr, es, hcl', hlr⟩ := hw
    refine ⟨goes l' c', ?_, fun hb H4 e4 => ?_, fun hb H4 e4 => ?_⟩
    · refine et_is (et_and (a := !decide (l' = [])) (b := decide (l'.getLast? = c'.getLast?)) (et_t (ep_neW (ep_var ql rfl) ep_nilW)) fun hne => ?_) ?_
      · have hl' : l' ≠ [] := fun z => by
          rw [z] at hne
          simp at hne
        obtain ⟨m', x, rfl⟩ := snoc_of hl'
        obtain ⟨d, y, rfl⟩ := snoc_of hc'
        refine et_is (et_t (ep_eqC (ep_lastC (ep_var ql rfl) ep_m1) (ep_lastC (ep_var qc rfl) ep_m1))) ?_
        rw [List.getLast?_concat, List.getLast?_concat]
        simp
      · unfold goes
        simp
    · obtain ⟨m', d, x, rfl, rfl⟩ := goes_yes hc' hb
      refine ⟨_, fun _ _ z => z, ?_⟩
      have ql4 := PP.mono _ _ _ _ e4 ql
      have qc4 := PP.mono _ _ _ _ e4 qc
      have qr4 := PP.mono _ _ _ _ e4 qr
      have hlen : (d ++ [x]).length = d.length + 1 := by simp
      have hlen2 : (m' ++ [x]).length = m'.length + 1 := by simp
      rw [hlen] at hcl'
      rw [hlen2] at hlr ⊢
      refine sp_par3 (ea_c (ep_slW (v := m') (ep_var ql4 rfl) eo_none (eo_s ep_m1) (by rw [cut_butlast, List.dropLast_concat]))
        (ea_c (ep_catW (ep_slW (v := [x]) (ep_var qc4 rfl) (eo_s ep_m1) eo_none (by rw [cut_last, lastW_snoc])) (ep_var qr4 rfl) (by simp; omega))
        (ea_c (ep_catW (ep_slW (v := [x]) (ep_var qc4 rfl) (eo_s ep_m1) eo_none (by rw [cut_last, lastW_snoc])) (ep_slW (v := d) (ep_var qc4 rfl) eo_none (eo_s ep_m1) (by rw [cut_butlast, List.dropLast_concat])) (by simp; omega)) ea_n))) fun wl wr wc H5 e5 kl kr kc => ?_
      refine ⟨m'.length, by omega, m', [x] ++ d, [x] ++ r', wl, wc, wr, rfl, (e3.trans e4).trans e5, rfl, by simp, kl, kc, kr, ?_, ?_, ?_⟩
      · rw [← es, strip_step]
        rfl
      · simp
        omega
      · simp
        omega
    · -- while right[:len(core)] == core
      have e34 := e3.trans e4
      have est : stripW l (root g) r = (l', c', r') := by rw [← es, stripW_no hb]
      refine q_while (fun m σ' H' => ∃ (s' : List Bool) (k : Nat) (us : V), σ' = [some (.ref p), some ul, some vg, some us, some uc, some (.int ((g.length / (root g).length : Nat) : Int)), some (.int (k : Int))] ∧ Ex H4 H' ∧ m = s'.length ∧
          (pW K s').p us H' ∧ (eatW c' s').1 = (eatW c' r').1 ∧ k + (eatW c' s').2 = (eatW c' r').2 ∧ s'.length ≤ 200) r'.length
        ⟨r', 0, ur, rfl, Ex.refl _, rfl, PP.mono _ _ _ _ e4 qr, rfl, by omega, by omega⟩ (fun m σ' H5 hw => ?_)
      obtain ⟨s', k, us, rfl, e5, rfl, qs, er, ek, hs'⟩ := hw
      have qc5 := PP.mono _ _ _ _ (e4.trans e5) qc
      refine ⟨decide (s'.take c'.length = c'), et_t (ep_eqW (ep_slW (ep_var qs rfl) eo_none (eo_s (ep_lenW (ep_var qc5 rfl))) (cut_to s' c'.length)) (ep_var qc5 rfl)), fun hb2 H6 e6 => ?_, fun hb2 H6 e6 => ?_⟩
      · have ht := of_decide_eq_true hb2
        have htl := take_ne hc' ht
        refine ⟨_, fun _ _ z => z, ?_⟩
        have qs6 := PP.mono _ _ _ _ e6 qs
        have qc6 := PP.mono _ _ _ _ e6 qc5
        rw [eatW_yes hc' ht] at er ek
        refine sp_par (ea_c (ep_slW (ep_var qs6 rfl) (eo_s (ep_lenW (ep_var qc6 rfl))) eo_none (cut_from s' c'.length)) (ea_c (ep_add (j := 1) (ep_vv rfl) ep_c) ea_n)) fun z y H7 e7 hz hy => ?_
        obtain rfl : y = _ := hy
        refine ⟨(s'.drop c'.length).length, by rw [List.length_drop]; omega, s'.drop c'.length, k + 1, z, rfl, (e5.trans e6).trans e7, rfl, hz, er, ?_, by rw [List.length_drop]; omega⟩
        show k + 1 + (eatW c' (s'.drop c'.length)).2 = (eatW c' r').2
        have : k + ((eatW c' (s'.drop c'.length)).2 + 1) = (eatW c' r').2 := ek
        omega
      · have ht := of_decide_eq_false hb2
        rw [eatW_no ht] at er ek
        have er : s' = (eatW c' r').1 := er
        have ek : k + 0 = (eatW c' r').2 := ek
        have eF1 : (fam l g r).left = l' := by show (stripW l (root g) r).1 = l'; rw [est]
        have eF2 : (fam l g r).core = c' := by show (stripW l (root g) r).2.1 = c'; rw [est]
        have eF3 : (fam l g r).right = s' := by show (eatW (stripW l (root g) r).2.1 (stripW l (root g) r).2.2).1 = s'; rw [est, er]
        have eF5 : (fam l g r).more = k := by show (eatW (stripW l (root g) r).2.1 (stripW l (root g) r).2.2).2 = k; rw [est, ← ek]; rfl
        have e36 := (e34.trans e5).trans e6
        have hp6 := e36 p _ hp
        have ql6 := PP.mono _ _ _ _ ((e4.trans e5).trans e6) ql
        have qc6 := PP.mono _ _ _ _ e6 qc5
        have qs6 := PP.mono _ _ _ _ e6 qs
        -- self.left = left .. self.more = more
        refine ⟨_, rfl, _, rfl, p, C, dx, _, rfl, hp6, T.cl, T.nL, (by decide), ?_⟩
        refine ⟨_, rfl, _, rfl, p, C, dx, _, rfl, upd_same, T.cl, T.nC, (by show (putF _ _ _).length < 1000; have := length_putF "left" ul []; simp at this; omega), ?_⟩
        rw [upd_upd]
        have l1 := length_putF "left" ul []
        have l2 := length_putF "core" uc (putF "left" ul [])
        have l3 := length_putF "right" us (putF "core" uc (putF "left" ul []))
        have l4 := length_putF "rate" (.int ((g.length / (root g).length : Nat) : Int)) (putF "right" us (putF "core" uc (putF "left" ul [])))
        rw [List.length_nil] at l1
        refine ⟨_, rfl, _, rfl, p, C, dx, _, rfl, upd_same, T.cl, T.nR, (by omega), ?_⟩
        rw [upd_upd]
        refine ⟨_, rfl, _, rfl, p, C, dx, _, rfl, upd_same, T.cl, T.nN, (by omega), ?_⟩
        rw [upd_upd]
        refine ⟨_, rfl, _, rfl, p, C, dx, _, rfl, upd_same, T.cl, T.nM, (by omega), ?_⟩
        rw [upd_upd]
        have kt := kt_ins (gs := fF ul uc us ((g.length / (root g).length : Nat) : Int) (k : Int)) hp6
        refine q _ ul uc us (fun b o hb hne => ?_) ?_ ?_ ?_ ?_
        · rw [upd_ne hne]
          exact e36 b o hb
        · rw [upd_same, eF5]
          rfl
        · rw [eF1]
          exact w_kt kt ql6
        · rw [eF2]
          exact w_kt kt qc6
        · rw [eF3]
          exact w_kt kt qs6

def spTold (K : PySem.W.Frag) (C : Addr) : Sp := fun vs H Q _ => ∃ F : Fam Bool, spP [pF K C F] (pTup K [pW K F.left, pW K F.core, pW K F.right]) vs H Q
theorem ok_told {C f : Addr} {fd : FuncData} (Fn : Fun K "told" "Family.told" sTold f fd) (T : FT K C) : FnOk P w K mg base CX0 1 f fd ["self"] (spTold K C) := by
  refine Fn.ok scTold (fun vs H Q E h => ?_) (fun cdv A outer s H vs Q E hr h => ?_)
  · obtain ⟨F, a, _⟩ := h
    exact a.len
  · obtain ⟨F, a, q⟩ := h
    obtain ⟨v, rfl, hv⟩ := a.one
    refine ⟨_, pss_one (ps_ret (pe_tup (pa_cons (pe_fld (pv 0) rfl) (pa_cons (pe_fld (pv 0) rfl) (pa_cons (pe_fld (pv 0) rfl) pa_nil))))), ?_⟩
    exact sp_ret (ep_tup (ea_c (ep_left T (ep_var hv rfl)) (ea_c (ep_core T (ep_var hv rfl)) (ea_c (ep_right T (ep_var hv rfl)) ea_n))) (by show 3 ≤ 100000; decide)) q
def spRnds (K : PySem.W.Frag) (C : Addr) : Sp := fun vs H Q _ => ∃ (F : Fam Bool) (n : Nat), Sz F ∧ spP [pF K C F, pN n] (pN (F.rounds n)) vs H Q
theorem ok_rnds {C f : Addr} {fd : FuncData} (Fn : Fun K "rounds" "Family.rounds" sRnds f fd) (T : FT K C) : FnOk P w K mg base CX0 1 f fd ["self", "turns"] (spRnds K C) := by
  refine Fn.ok scRnds (fun vs H Q E h => ?_) (fun cdv A outer s H vs Q E hr h => ?_)
  · obtain ⟨F, n, _, a, _⟩ := h
    exact a.len
  · obtain ⟨F, n, z, a, q⟩ := h
    obtain ⟨v, u, rfl, hv, hu⟩ := a.two
    have := z.n
    refine ⟨_, pss_one (ps_ret (pe_op op_add (pe_op op_mul (pe_fld (pv 0) rfl) (pv 1)) (pe_fld (pv 0) rfl))), ?_⟩
    exact sp_ret (ep_add (ep_mul (ep_rate T (ep_var hv rfl)) (ep_var hu rfl) (by omega)) (ep_more T (ep_var hv rfl))) q
def spWord (K : PySem.W.Frag) (C : Addr) : Sp := fun vs H Q _ => ∃ (F : Fam Bool) (n : Nat), Sz F ∧ n ≤ 20 ∧ spP [pF K C F, pN n] (pW K (F.word n)) vs H Q
theorem ok_word {C f fR : Addr} {fd fdR : FuncData} (Fn : Fun K "word" "Family.word" sWord f fd) (T : FT K C) (GR : FnOk P w K mg base CX0 1 fR fdR ["self", "turns"] (spRnds K C)) (bR : Binds K fdR ["self", "turns"] []) (mR : Meth K C "rounds" fR) :
    FnOk P w K mg base CX0 2 f fd ["self", "turns"] (spWord K C) := by
  refine Fn.ok scWord (fun vs H Q E h => ?_) (fun cdv A outer s H vs Q E hr h => ?_)
  · obtain ⟨F, n, _, _, a, _⟩ := h
    exact a.len
  · obtain ⟨F, n, z, hn, a, q⟩ := h
    obtain ⟨v, u, rfl, hv, hu⟩ := a.two
    have h1 := z.l
    have h2 := z.c
    have h3 := z.r
    have h4 := sz_rounds z hn
    have h5 : F.rounds n * F.core.length ≤ 1000 * 40 := Nat.mul_le_mul h4 h2
    have h6 := rep_len (F.rounds n) F.core
    refine ⟨_, pss_one (ps_ret (pe_op op_catA (pe_op op_catA (pe_fld (pv 0) rfl) (pe_op op_repA (pe_fld (pv 0) rfl) (pe_meth (pv 0) T.cl mR GR hr bR .nil pass0 (pa_cons (pv 1) pa_nil)))) (pe_fld (pv 0) rfl))), ?_⟩
    refine sp_ret (ep_catW (ep_catW (ep_left T (ep_var hv rfl)) (ep_mulW (ep_core T (ep_var hv rfl)) (ep_meth (S := pN (F.rounds n)) (ep_var hv rfl) (ea_c (ep_var hu rfl) ea_n) (by decide +kernel) (by decide +kernel) (by decide +kernel) (by decide +kernel) (by decide +kernel) fun vs H1 Q1 e1 sp => ⟨F, n, z, sp⟩) z.ne h4 (by omega)) ?_) (ep_right T (ep_var hv rfl)) ?_) q
    · rw [h6]
      omega
    · rw [List.length_append, h6]
      omega
def spLeng (K : PySem.W.Frag) (C : Addr) : Sp := fun vs H Q _ => ∃ (F : Fam Bool) (n : Nat), Sz F ∧ n ≤ 20 ∧ spP [pF K C F, pN n] (pN (F.word n).length) vs H Q
theorem ok_leng {C f fR : Addr} {fd fdR : FuncData} (Fn : Fun K "length" "Family.length" sLeng f fd) (T : FT K C) (ml : mg "len" = none) (GR : FnOk P w K mg base CX0 1 fR fdR ["self", "turns"] (spRnds K C)) (bR : Binds K fdR ["self", "turns"] []) (mR : Meth K C "rounds" fR) :
    FnOk P w K mg base CX0 2 f fd ["self", "turns"] (spLeng K C) := by
  refine Fn.ok scLeng (fun vs H Q E h => ?_) (fun cdv A outer s H vs Q E hr h => ?_)
  · obtain ⟨F, n, _, _, a, _⟩ := h
    exact a.len
  · obtain ⟨F, n, z, hn, a, q⟩ := h
    obtain ⟨v, u, rfl, hv, hu⟩ := a.two
    have h2 := z.c
    refine ⟨_, pss_one (ps_ret (pe_op op_add (pe_op op_add (pe_callB call_len_seq (by rfl) ml PySem.boot_len (pa_cons (pe_fld (pv 0) rfl) pa_nil)) (pe_op op_mul (pe_callB call_len_seq (by rfl) ml PySem.boot_len (pa_cons (pe_fld (pv 0) rfl) pa_nil)) (pe_meth (pv 0) T.cl mR GR hr bR .nil pass0 (pa_cons (pv 1) pa_nil))))
      (pe_callB call_len_seq (by rfl) ml PySem.boot_len (pa_cons (pe_fld (pv 0) rfl) pa_nil)))), ?_⟩
    rw [word_len] at q
    exact sp_ret (ep_add (ep_add (ep_lenW (ep_left T (ep_var hv rfl))) (ep_mul (ep_lenW (ep_core T (ep_var hv rfl))) (ep_meth (S := pN (F.rounds n)) (ep_var hv rfl) (ea_c (ep_var hu rfl) ea_n) (by decide +kernel) (by decide +kernel) (by decide +kernel) (by decide +kernel) (by decide +kernel) fun vs H1 Q1 e1 sp => ⟨F, n, z, sp⟩) (by omega)))
      (ep_lenW (ep_right T (ep_var hv rfl)))) q
def spOfLn (K : PySem.W.Frag) (C : Addr) : Sp := fun vs H Q _ => ∃ (F : Fam Bool) (m : Nat), Sz F ∧ m ≤ 1000 ∧ F.left.length + F.right.length ≤ m ∧ spP [pF K C F, pN m] (pO K (ofLen F m)) vs H Q
theorem ok_ofln {C f : Addr} {fd : FuncData} (Fn : Fun K "of_length" "Family.of_length" sOfLn f fd) (T : FT K C) (ml : mg "len" = none) : FnOk P w K mg base CX0 1 f fd ["self", "many"] (spOfLn K C) := by
  refine Fn.ok scOfLn (fun vs H Q E h => ?_) (fun cdv A outer s H vs Q E hr h => ?_)
  · obtain ⟨F, n, _, _, _, a, _⟩ := h
    exact a.len
  · obtain ⟨F, m, z, hm, hlr, a, q⟩ := h
    obtain ⟨v, u, rfl, hv, hu⟩ := a.two
    have h1 := z.l
    have h2 := z.c
    have h3 := z.r
    have hc := core_pos z
    refine ⟨_, pss_cons (ps_set (i := 2) scOfLn.nd rfl (Or.inl rfl) (pe_op op_sub (pe_op op_sub (pv 1) (pe_callB call_len_seq (by rfl) ml PySem.boot_len (pa_cons (pe_fld (pv 0) rfl) pa_nil))) (pe_callB call_len_seq (by rfl) ml PySem.boot_len (pa_cons (pe_fld (pv 0) rfl) pa_nil))))
      (pss_cons (ps_if (PW.pt (pw_or (pt_cmpR op_lt (pv 2) pe_int (nomark _)) (pw_or1 (pt_cmpR op_ne (pe_op op_modN (pv 2) (pe_callB call_len_seq (by rfl) ml PySem.boot_len (pa_cons (pe_fld (pv 0) rfl) pa_nil))) pe_int (nomark _))))) (pss_one (ps_ret pe_non)) pss_nil)
      (pss_one (ps_ret (pe_op op_catA (pe_op op_catA (pe_fld (pv 0) rfl) (pe_op op_repA (pe_fld (pv 0) rfl) (pe_op op_fdivN (pv 2) (pe_callB call_len_seq (by rfl) ml PySem.boot_len (pa_cons (pe_fld (pv 0) rfl) pa_nil))))) (pe_fld (pv 0) rfl))))), ?_⟩
    refine qp_asg (ep_sub (ep_sub (ep_var hu rfl) (ep_lenW (ep_left T (ep_var hv rfl))) (by omega)) (ep_lenW (ep_right T (ep_var hv rfl))) (by omega)) fun y H1 e1 hy => ?_
    obtain rfl : y = _ := hy
    have hv1 := PP.mono _ _ _ _ e1 hv
    generalize hk : m - F.left.length - F.right.length = k at *
    refine q_when (b := (decide (k < 0) || !decide (k % F.core.length = 0))) (et_or (et_t (ep_ltN (j := 0) (ep_vv rfl) ep_c)) (fun _ => et_t (ep_neN (j := 0) (ep_mod (ep_vv rfl) (ep_lenW (ep_core T (ep_var hv1 rfl))) (by omega)) ep_c))) (fun hb H2 e2 => ?_) (fun hb H2 e2 => ?_)
    · have hno : ¬ k % F.core.length = 0 := by simpa using hb
      have eo : ofLen F m = none := by
        unfold ofLen
        rw [hk, if_neg hno]
      rw [eo] at q
      exact sp_ret (ep_c (v := .non)) fun z H3 e3 pz => q z H3 ((e1.trans e2).trans e3) pz
    · have hyes : k % F.core.length = 0 := by simpa using hb
      have eo : ofLen F m = some (F.left ++ rep (k / F.core.length) F.core ++ F.right) := by
        unfold ofLen
        rw [hk, if_pos hyes]
      rw [eo] at q
      have hv2 := PP.mono _ _ _ _ e2 hv1
      have hd : k / F.core.length ≤ 1000 := Nat.le_trans (Nat.div_le_self _ _) (by omega)
      have h5 : k / F.core.length * F.core.length ≤ 1000 * 40 := Nat.mul_le_mul hd h2
      have h6 := rep_len (k / F.core.length) F.core
      refine sp_ret (ep_catW (ep_catW (ep_left T (ep_var hv2 rfl)) (ep_mulW (ep_core T (ep_var hv2 rfl)) (ep_div (ep_vv rfl) (ep_lenW (ep_core T (ep_var hv2 rfl))) (by omega) (by omega)) z.ne hd (by omega)) ?_) (ep_right T (ep_var hv2 rfl)) ?_) fun z H3 e3 pz => q z H3 ((e1.trans e2).trans e3) pz
      · rw [h6]
        omega
      · rw [List.length_append, h6]
        omega
/-- a new family -/
theorem ep_make {C : Addr} {σ : L2.St} {H : Hp} {l g r : List Bool} {tA : TA} {E : XK} (h : EvPA tA σ H [pW K l, pW K g, pW K r]) (hg : g ≠ []) (h1 : l.length ≤ 100) (h2 : g.length ≤ 100) (h3 : r.length ≤ 100) : EvP (tMake C (spInit K C) [] E tA) σ H (pF K C (fam l g r)) := fun H1 e Q q =>
  h H1 e _ fun vs H2 e2 a x dx nx ndx ne => by
    have s : Ex H2 (upd (upd H2 dx (.own x)) x (.ins C dx [])) := fun b o eb => by
      rw [upd_ne (ne_of_none eb nx), upd_ne (ne_of_none eb ndx)]
      exact eb
    rw [List.append_nil]
    exact ⟨x, dx, l, g, r, vs, hg, h1, h2, h3, rfl, a.mono s, upd_same, fun H' vl vc vr kp hx p1 p2 p3 => ⟨rfl, q _ H' (e2.trans (Same.made nx ndx kp)) ⟨x, dx, vl, vc, vr, rfl, hx, p1, p2, p3⟩⟩⟩
def spFamO (K : PySem.W.Frag) (C : Addr) : Sp := fun vs H Q _ => ∃ l g r : List Bool, g ≠ [] ∧ l.length ≤ 100 ∧ g.length ≤ 100 ∧ r.length ≤ 100 ∧ spP [pTup K [pW K l, pW K g, pW K r]] (pF K C (fam l g r)) vs H Q
theorem ok_famo {C f fI : Addr} {fd fdI : FuncData} (Fn : Fun K "family_of" "family_of" sFamO f fd) (M : Mk K C fI) (GI : FnOk P w K mg base CX0 2 fI fdI ["self", "left", "group", "right"] (spInit K C)) (bI : Binds K fdI ["self", "left", "group", "right"] []) (mC : mg "Family" = some (.ref C)) :
    FnOk P w K mg base CX0 4 f fd ["row"] (spFamO K C) := by
  refine Fn.ok scFamO (fun vs H Q E h => ?_) (fun cdv A outer s H vs Q E hr h => ?_)
  · obtain ⟨l, g, r, _, _, _, _, a, _⟩ := h
    exact a.len
  · obtain ⟨l, g, r, hg, h1, h2, h3, a, q⟩ := h
    obtain ⟨v, rfl, hv⟩ := a.one
    refine ⟨_, pss_one (ps_ret (pe_make M GI hr (by rfl) mC bI .nil pass0 (pa_cons (pe_ix ix_tup (pv 0) pe_int (fun _ _ => rfl)) (pa_cons (pe_ix ix_tup (pv 0) pe_int (fun _ _ => rfl)) (pa_cons (pe_ix ix_tup (pv 0) pe_int (fun _ _ => rfl)) pa_nil))))), ?_⟩
    exact sp_ret (ep_make (ea_c (ep_ix (j := 0) (ep_var hv rfl) ep_c rfl) (ea_c (ep_ix (j := 1) (ep_var hv rfl) ep_c rfl) (ea_c (ep_ix (j := 2) (ep_var hv rfl) ep_c rfl) ea_n))) hg h1 h2 h3) q
def spSame (K : PySem.W.Frag) (C : Addr) : Sp := fun vs H Q _ => ∃ F G : Fam Bool, spP [pF K C F, pF K C G] (pV (.bl (sameB F G))) vs H Q
theorem ok_same {C f fT : Addr} {fd fdT : FuncData} (Fn : Fun K "same_family" "same_family" sSame f fd) (T : FT K C) (GT : FnOk P w K mg base CX0 1 fT fdT ["self"] (spTold K C)) (bT : Binds K fdT ["self"] []) (mT : Meth K C "told" fT) : FnOk P w K mg base CX0 2 f fd ["one", "two"] (spSame K C) := by
  refine Fn.ok scSame (fun vs H Q E h => ?_) (fun cdv A outer s H vs Q E hr h => ?_)
  · obtain ⟨F, G, a, _⟩ := h
    exact a.len
  · obtain ⟨F, G, a, q⟩ := h
    obtain ⟨v, u, rfl, hv, hu⟩ := a.two
    refine ⟨_, pss_one (ps_ret (pe_and (pe_cmpR (op_eqD hr.units) (pe_meth0 (pv 0) T.cl mT GT hr bT .nil pass0) (pe_meth0 (pv 1) T.cl mT GT hr bT .nil pass0) (nomark _))
      (pe_one (pe_cmpR (op_eqD hr.units) (pe_tup (pa_cons (pe_fld (pv 0) rfl) (pa_cons (pe_fld (pv 0) rfl) pa_nil))) (pe_tup (pa_cons (pe_fld (pv 1) rfl) (pa_cons (pe_fld (pv 1) rfl) pa_nil))) (nomark _))))), ?_⟩
    refine sp_ret (ep_andV ((ep_eqD (d := toldD F) (e := toldD G) ((ep_meth (S := pTup K [pW K F.left, pW K F.core, pW K F.right]) (ep_var hv rfl) ea_n (by decide +kernel) (by decide +kernel) (by decide +kernel) (by decide +kernel) (by decide +kernel) fun vs H1 Q1 e1 sp => ⟨F, sp⟩).as fun _ _ _ p => told_dp p)
        ((ep_meth (S := pTup K [pW K G.left, pW K G.core, pW K G.right]) (ep_var hu rfl) ea_n (by decide +kernel) (by decide +kernel) (by decide +kernel) (by decide +kernel) (by decide +kernel) fun vs H1 Q1 e1 sp => ⟨G, sp⟩).as fun _ _ _ p => told_dp p) (shaped_told F) (shaped_told G)))
      (fun _ => ep_eqD (d := numsD F.rate F.more) (e := numsD G.rate G.more) ((ep_tup (ea_c (ep_rate T (ep_var hv rfl)) (ea_c (ep_more T (ep_var hv rfl)) ea_n)) (by show 2 ≤ 100000; decide)).as fun _ _ _ p => nums_dp p) ((ep_tup (ea_c (ep_rate T (ep_var hu rfl)) (ea_c (ep_more T (ep_var hu rfl)) ea_n)) (by show 2 ≤ 100000; decide)).as fun _ _ _ p => nums_dp p) (shaped_nums _ _) (shaped_nums _ _))) fun z H1 e1 pz => q z H1 e1 ?_
    rw [eqv_told, eqv_nums] at pz
    exact pz
/-- the least number of turns at which two families are unlike -/
def Unl (F G : Fam Bool) : Option Nat → Prop
  | none => F = G
  | some u => u ≤ 12 ∧ F.word u ≠ G.word u ∧ ∀ k, k < u → F.word k = G.word k
def spUnli (K : PySem.W.Frag) (C : Addr) : Sp := fun vs H Q _ => ∃ (F G : Fam Bool) (o : Option Nat), Sz F ∧ Sz G ∧ Unl F G o ∧ spP [pF K C F, pF K C G] (pI o) vs H Q
theorem ok_unli {C f fS fW : Addr} {fd fdS fdW : FuncData} (Fn : Fun K "first_unlike" "first_unlike" sUnli f fd) (T : FT K C) (FS : Fun K "same_family" "same_family" sSame fS fdS) (GS : FnOk P w K mg base CX0 2 fS fdS ["one", "two"] (spSame K C)) (bS : Binds K fdS ["one", "two"] []) (mS : mg "same_family" = some (.ref fS))
    (GW : FnOk P w K mg base CX0 2 fW fdW ["self", "turns"] (spWord K C)) (bW : Binds K fdW ["self", "turns"] []) (mW : Meth K C "word" fW) : FnOk P w K mg base CX0 3 f fd ["one", "two"] (spUnli K C) := by
  refine Fn.ok scUnli (fun vs H Q E h => ?_) (fun cdv A outer s H vs Q E hr h => ?_)
  · obtain ⟨F, G, o, _, _, _, a, _⟩ := h
    exact a.len
  · obtain ⟨F, G, o, zF, zG, ho, a, q⟩ := h
    obtain ⟨v, u, rfl, hv, hu⟩ := a.two
    refine ⟨_, pss_cons (ps_if (pt_val (pe_call GS hr (by rfl) mS FS.kp bS .nil pass0 (pa_cons (pv 0) (pa_cons (pv 1) pa_nil)))) (pss_one (ps_ret pe_non)) pss_nil)
      (pss_cons (ps_set (i := 2) scUnli.nd rfl (Or.inl rfl) pe_int)
      (pss_cons (ps_while PassesOwn.never (pt_cmpR (op_eqD hr.units) (pe_meth (pv 0) T.cl mW GW hr bW .nil pass0 (pa_cons (pv 2) pa_nil)) (pe_meth (pv 1) T.cl mW GW hr bW .nil pass0 (pa_cons (pv 2) pa_nil)) (nomark _))
        (pss_one (ps_aug (i := 2) scUnli.nd rfl (Or.inl rfl) pe_int ip_add)))
      (pss_one (ps_ret (pv 2))))), ?_⟩
    refine q_when (b := sameB F G) (et_b (ep_call (S := pV (.bl (sameB F G))) (ea_c (ep_var hv rfl) (ea_c (ep_var hu rfl) ea_n)) fun vs H1 Q1 e1 sp => ⟨F, G, sp⟩)) (fun hb H1 e1 => ?_) (fun hb H1 e1 => ?_)
    · have e := sameB_iff.mp hb
      cases o with
      | none => exact sp_ret (ep_c (v := .non)) fun z H3 e3 pz => q z H3 (e1.trans e3) pz
      | some k =>
        obtain ⟨_, ne, _⟩ := ho
        rw [e] at ne
        exact absurd rfl ne
    · cases o with
      | none =>
        obtain rfl : F = G := ho
        rw [sameB_iff.mpr rfl] at hb
        cases hb
      | some k =>
        obtain ⟨hk, ne, al⟩ := ho
        refine qp_asg (ep_c (v := .int 0)) fun z H2 e2 hz => ?_
        obtain rfl : z = _ := hz
        refine q_while (fun m σ' H' => ∃ t : Nat, σ' = [some v, some u, some (.int (t : Int))] ∧ t ≤ k ∧ m = k - t ∧ Ex H H') k ⟨0, rfl, Nat.zero_le _, rfl, e1.trans e2⟩ (fun m σ' H3 hw => ?_)
        obtain ⟨t, rfl, ht, rfl, e3⟩ := hw
        have hv3 := PP.mono _ _ _ _ e3 hv
        have hu3 := PP.mono _ _ _ _ e3 hu
        refine ⟨decide (F.word t = G.word t), et_t (ep_eqW (ep_meth (S := pW K (F.word t)) (ep_var hv3 rfl) (ea_c (P := pN t) (ep_vv rfl) ea_n) (by decide +kernel) (by decide +kernel) (by decide +kernel) (by decide +kernel) (by decide +kernel) fun vs H1 Q1 e1 sp => ⟨F, t, zF, by omega, sp⟩)
          (ep_meth (S := pW K (G.word t)) (ep_var hu3 rfl) (ea_c (P := pN t) (ep_vv rfl) ea_n) (by decide +kernel) (by decide +kernel) (by decide +kernel) (by decide +kernel) (by decide +kernel) fun vs H1 Q1 e1 sp => ⟨G, t, zG, by omega, sp⟩)), fun hb2 H4 e4 => ?_, fun hb2 H4 e4 => ?_⟩
        · have ew := of_decide_eq_true hb2
          have hlt : t < k := by
            by_cases e : t = k
            · rw [e] at ew
              exact absurd ew ne
            · omega
          refine ⟨_, fun _ _ z => z, ?_⟩
          refine s_aug (a := (t : Int)) (b := 1) rfl ep_c.ev fun H5 e5 => ?_
          exact ⟨k - (t + 1), by omega, t + 1, rfl, hlt, rfl, (e3.trans e4).trans e5⟩
        · have ew := of_decide_eq_false hb2
          have heq : t = k := by
            by_cases e : t < k
            · exact absurd (al t e) ew
            · omega
          rw [heq]
          exact sp_ret (P := pN k) (ep_vv rfl) fun z H5 e5 pz => q z H5 ((e3.trans e4).trans e5) pz
end
end KD

/-! The walk: the law's helpers. -/
namespace KD
open PySem L2 Evl KW K11
abbrev sNumb : Stmt := top 7
abbrev sTake : Stmt := top 8
abbrev sPick : Stmt := top 9
abbrev sSmal : Stmt := top 10
abbrev sIsPo : Stmt := top 11
abbrev sOthe : Stmt := top 12
theorem scNumb : FnScope ["_law_script", "_law_index", "_law_cell", "_law_blend"] ["_law_script", "_law_index"] (defScope sNumb) := ⟨rfl, rfl, rfl, by decide +kernel, rfl, by decide +kernel, by decide +kernel⟩
theorem scTake : FnScope ["_law_draw", "_law_many"] ["_law_draw", "_law_many"] (defScope sTake) := ⟨rfl, rfl, rfl, by decide +kernel, rfl, by decide +kernel, by decide +kernel⟩
theorem scPick : FnScope ["_law_draw", "_law_items"] ["_law_draw", "_law_items"] (defScope sPick) := ⟨rfl, rfl, rfl, by decide +kernel, rfl, by decide +kernel, by decide +kernel⟩
theorem scSmal : FnScope ["_law_draw", "_law_many", "_law_at"] ["_law_draw", "_law_many"] (defScope sSmal) := ⟨rfl, rfl, rfl, by decide +kernel, rfl, by decide +kernel, by decide +kernel⟩
theorem scIsPo : FnScope ["_law_word", "_law_many"] ["_law_word"] (defScope sIsPo) := ⟨rfl, rfl, rfl, by decide +kernel, rfl, by decide +kernel, by decide +kernel⟩
theorem scOthe : FnScope ["_law_draw", "_law_left", "_law_group", "_law_right", "_law_kind"] ["_law_draw", "_law_left", "_law_group", "_law_right"] (defScope sOthe) := ⟨rfl, rfl, rfl, by decide +kernel, rfl, by decide +kernel, by decide +kernel⟩

/-! ### some whole number; one below a bound -/
def pAny : PP := ⟨fun z _ => ∃ i : Int, z = .int i, fun _ _ _ _ h => h⟩
def pLess (m : Nat) : PP := ⟨fun z _ => ∃ r : Nat, r < m ∧ z = .int (r : Int), fun _ _ _ _ h => h⟩
def rInt1 : List V → Hp → VK → Prop := fun xs H Q => (∃ i, xs = [.int i] ∧ Q (.int i) H) ∨ ∃ k, xs = [.bl k] ∧ Q (.int (if k then 1 else 0)) H
def rAbs1 : List V → Hp → VK → Prop := fun xs H Q => ∃ i, xs = [.int i] ∧ Q (.int (if i < 0 then -i else i)) H
section
variable {K : PySem.W.Frag} {σ : L2.St} {H H' : Hp} {ta tb te : TE} {P : PP}
theorem ep_int1 {i : Int} (h : EvP te σ H (pV (.int i))) : EvP (tCB rInt1 (tCons te tNil)) σ H (pV (.int i)) := fun H1 e Q q =>
  h H1 e _ fun z H2 e2 hz => by
    obtain rfl : z = .int i := hz
    exact .inl ⟨i, rfl, q _ H2 e2 rfl⟩
theorem ep_intA (h : EvP te σ H pAny) : EvP (tCB rInt1 (tCons te tNil)) σ H pAny := fun H1 e Q q =>
  h H1 e _ fun z H2 e2 hz => by
    obtain ⟨i, rfl⟩ := hz
    exact .inl ⟨i, rfl, q _ H2 e2 ⟨i, rfl⟩⟩
theorem ep_abs1 {i : Int} (h : EvP te σ H (pV (.int i))) : EvP (tCB rAbs1 (tCons te tNil)) σ H (pV (.int (if i < 0 then -i else i))) := fun H1 e Q q =>
  h H1 e _ fun z H2 e2 hz => by
    obtain rfl : z = .int i := hz
    exact ⟨i, rfl, q _ H2 e2 rfl⟩
theorem ep_modA {m : Nat} (ha : EvP ta σ H pAny) (hb : EvP tb σ H (pN m)) (hm : 1 ≤ m) : EvP (tOp (rI (fun _ j => j ≠ 0) fun i j => .int (i.fmod j)) ta tb) σ H (pLess m) :=
  ep_op ha hb fun x y H1 _ hx hy Q q => by
    obtain ⟨i, rfl⟩ := hx
    refine ⟨i, (m : Int), rfl, hy, by omega, q _ H1 (Ex.refl H1) ⟨(i.fmod m).toNat, ?_, ?_⟩⟩
    · rw [Int.fmod_eq_emod_of_nonneg _ (Int.natCast_nonneg _)]
      have h1 := Int.emod_lt_of_pos i (show (0 : Int) < (m : Int) by omega)
      have h2 := Int.emod_nonneg i (show (m : Int) ≠ 0 by omega)
      omega
    · have h2 := Int.emod_nonneg i (show (m : Int) ≠ 0 by omega)
      have h3 : i.fmod (m : Int) = i % (m : Int) := Int.fmod_eq_emod_of_nonneg _ (Int.natCast_nonneg _)
      show V.int (i.fmod (m : Int)) = _
      rw [h3, Int.toNat_of_nonneg h2]
theorem ep_ixL {p : Addr} {xs : List V} {j : Nat} {v : V} (h : SqL K H p xs) (ha : EvP ta σ H (pV (.ref p))) (hb : EvP tb σ H (pN j)) (hj : xs[j]? = some v) : EvP (tOp (rIxL K) ta tb) σ H (pV v) :=
  ep_op ha hb fun x y H1 e hx hy Q q => ⟨p, xs, (j : Int), v, hx, hy, ex_l e h, atI_nat hj, q _ H1 (Ex.refl H1) rfl⟩
theorem ep_lenL {p : Addr} {xs : List V} (h : SqL K H p xs) (ha : EvP ta σ H (pV (.ref p))) : EvP (tCB (rLenS K) (tCons ta tNil)) σ H (pN xs.length) := ep_of (ev_len ha.ev h)
end
/-! ### a list of whole numbers as data -/
def intsD (ns : List Int) : PyData := .list (ns.map PyData.int)
theorem ints_all {K : PySem.W.Frag} {H : Hp} : ∀ ns : List Int, DpAll K H (ns.map V.int) (ns.map PyData.int)
  | [] => .nil
  | n :: ns => .cons (.int n) (ints_all ns)
theorem ints_lay : ∀ ns : List Int, PyData.canLayAll0 (ns.map PyData.int) = true ∧ PyData.depthAll (ns.map PyData.int) = 0
  | [] => ⟨by simp [PyData.canLayAll0], by simp [PyData.depthAll]⟩
  | n :: ns => by
    have h := ints_lay ns
    refine ⟨?_, ?_⟩
    · rw [List.map_cons, PyData.canLayAll0, h.1]
      simp [PyData.canLay0]
    · rw [List.map_cons, PyData.depthAll, h.2]
      simp [PyData.depth]
theorem shaped_ints (ns : List Int) : SeqAt.shaped (intsD ns) = true := by
  have h := ints_lay ns
  refine shaped_of ?_ ?_
  · unfold intsD
    rw [PyData.canLay0]
    exact h.1
  · unfold intsD
    rw [PyData.depth, h.2]
    decide
theorem eqv_ints_nil (ns : List Int) : PyData.eqv (intsD ns) (intsD []) = decide (ns = []) := by
  unfold intsD
  cases ns with
  | nil => simp [PyData.eqv, PyData.eqvAll]
  | cons n ns => simp [PyData.eqv, PyData.eqvAll]
section
variable {K : PySem.W.Frag} {σ : L2.St} {H H' : Hp} {ta tb te : TE}
theorem ep_ints {p : Addr} {ns : List Int} (h : SqL K H p (ns.map V.int)) (ha : EvP ta σ H (pV (.ref p))) : EvP ta σ H (pD K (intsD ns)) := ha.as fun z H1 e hz => by
  obtain rfl : z = .ref p := hz
  exact .lst (ex_l e h) (ints_all ns)
theorem ep_nilL : EvP (tLst tNil) σ H (pD K (intsD [])) := fun H1 e Q q => ⟨Nat.zero_le _, fun p hp => q _ _ (Ex.new hp) (.lst (sq_of upd_same) .nil)⟩
theorem ep_isNil {ns : List Int} (ha : EvP ta σ H (pD K (intsD ns))) : EvP (tOp (rEqD K) ta (tLst tNil)) σ H (pV (.bl (decide (ns = [])))) := by
  have h := ep_eqD ha ep_nilL (shaped_ints ns) (shaped_ints [])
  rw [eqv_ints_nil] at h
  exact h
theorem ep_notNil {ns : List Int} (ha : EvP ta σ H (pD K (intsD ns))) : EvP (tOp (rNeD K) ta (tLst tNil)) σ H (pV (.bl (!decide (ns = [])))) := by
  have h := ep_neD ha ep_nilL (shaped_ints ns) (shaped_ints [])
  rw [eqv_ints_nil] at h
  exact h
end

section
variable {P : Program} {w : World} {K : PySem.W.Frag} {mg : Str → Option Value} {base : Heap}
def spNumb (K : PySem.W.Frag) : Sp := fun vs H Q _ => ∃ (a : Addr) (ns : List Int) (n : Nat), vs = [.ref a, .int (n : Int)] ∧ SqL K H a (ns.map V.int) ∧ ∀ z H', Ex H H' → pAny.p z H' → Q z H'
theorem ok_numb {f : Addr} {fd : FuncData} (Fn : Fun K "_law_number" "_law_number" sNumb f fd) (mi : mg "int" = none) (ml : mg "len" = none) (ma : mg "abs" = none) : FnOk P w K mg base CX0 1 f fd ["_law_script", "_law_index"] (spNumb K) := by
  refine Fn.ok scNumb (fun vs H Q E h => ?_) (fun cdv A outer s H vs Q E hr h => ?_)
  · obtain ⟨a, ns, n, rfl, _⟩ := h
    rfl
  · obtain ⟨a, ns, n, rfl, hS, q⟩ := h
    refine ⟨_, pss_cons (ps_if (pt_cmpR (op_eqD hr.units) (pv 0) (pe_lst pa_nil) (nomark _)) (pss_one (ps_ret (pe_callTy call_int1 (by rfl) mi (by decide +kernel) (pa_cons (pe_op op_modN (pe_op op_add (pe_op op_mul (pv 1) pe_int) pe_int) pe_int) pa_nil)))) pss_nil)
      (pss_cons (ps_set (i := 2) scNumb.nd rfl (Or.inl rfl) (pe_ix ix_list (pv 0) (pe_op op_modN (pv 1) (pe_callB call_len_seq (by rfl) ml PySem.boot_len (pa_cons (pv 0) pa_nil))) (fun _ _ => rfl)))
      (pss_cut (ps_if (pt_cmpR op_ge (pe_callB call_abs (by rfl) ma (by decide +kernel) (pa_cons (pv 2) pa_nil)) (pe_op op_pow pe_int pe_int) (nomark _)) (pss_one (ps_set (i := 2) scNumb.nd rfl (Or.inl rfl) (pe_op op_modN (pv 2) (pe_op op_pow pe_int pe_int)))) pss_nil)
      (pss_cons (ps_set (i := 3) scNumb.nd rfl (Or.inl rfl) (pe_op op_modN (pe_op op_add (pe_op op_mul (pe_op op_add (pv 2) (pe_op op_mul pe_int (pv 1))) pe_int) (pe_op op_mul pe_int (pe_callB call_len_seq (by rfl) ml PySem.boot_len (pa_cons (pv 0) pa_nil)))) pe_int))
      (pss_one (ps_ret (pe_callTy call_int1 (by rfl) mi (by decide +kernel) (pa_cons (pe_op op_modN (pe_op op_add (pe_op op_mul (pe_op op_modN (pe_op op_mul (pv 3) pe_int) pe_int) pe_int) (pv 1)) pe_int) pa_nil))))))), ?_⟩
    refine q_when (b := decide (ns = [])) (et_t (ep_isNil (ep_ints hS (ep_vv rfl)))) (fun hb H1 e1 => ?_) (fun hb H1 e1 => ?_)
    · exact sp_ret (ep_int1 (ep_I (ep_I0 (ep_I (ep_vv rfl) ep_c (.inr ⟨by decide, by decide⟩)) ep_c) ep_c (by decide))) fun z H3 e3 pz => q z H3 (e1.trans e3) ⟨_, pz⟩
    · have hne := of_decide_eq_false hb
      have hS1 := ex_l e1 hS
      have hl : 1 ≤ (ns.map V.int).length := by
        cases ns with
        | nil => exact absurd rfl hne
        | cons a b => simp
      have hi : n % (ns.map V.int).length < ns.length := by
        have := Nat.mod_lt n (show 0 < (ns.map V.int).length by omega)
        rw [List.length_map] at this ⊢
        exact this
      refine qp_asg (P := pV (.int ns[n % (ns.map V.int).length])) (ep_ixL hS1 (ep_vv rfl) (ep_mod (ep_vv rfl) (ep_lenL hS1 (ep_vv rfl)) (by omega)) (by rw [List.getElem?_map, List.getElem?_eq_getElem hi]; rfl)) fun z H2 e2 hz => ?_
      obtain rfl : z = _ := hz
      have hS2 := ex_l e2 hS1
      refine q_cut (M := fun σ' H' => ∃ c : Int, σ' = [some (.ref a), some (.int (n : Int)), some (.int c), none] ∧ Ex H2 H') ?_ ?_
      · refine s_when (b := decide (((10 : Int) ^ (60 : Int).toNat) ≤ (if ns[n % (ns.map V.int).length] < 0 then -ns[n % (ns.map V.int).length] else ns[n % (ns.map V.int).length]))) (et_t (ep_I0 (g := fun i j => .bl (decide (j ≤ i))) (ep_abs1 (ep_vv rfl)) (ep_I (ep_c (v := .int 10)) (ep_c (v := .int 60)) ⟨by decide, by decide, by decide⟩))) (fun hb H3 e3 => ?_) (fun hb H3 e3 => ?_)
        · exact sp_asg (ep_I (ep_vv rfl) (ep_I (ep_c (v := .int 10)) (ep_c (v := .int 18)) ⟨by decide, by decide, by decide⟩) (by decide)) fun z H4 e4 hz => by
            obtain rfl : z = _ := hz
            exact ⟨_, rfl, e3.trans e4⟩
        · exact ⟨_, rfl, e3⟩
      · rintro σ' H3 ⟨c, rfl, e3⟩
        have hS3 := ex_l e3 hS2
        refine qp_asg (ep_I (ep_I0 (ep_I (ep_I0 (ep_vv rfl) (ep_I (ep_c (v := .int 977)) (ep_vv rfl) (.inl ⟨by decide, by decide⟩))) ep_c (.inr ⟨by decide, by decide⟩)) (ep_I (ep_c (v := .int 31)) (ep_lenL hS3 (ep_vv rfl)) (.inl ⟨by decide, by decide⟩))) ep_c (by decide)) fun z H4 e4 hz => ?_
        obtain rfl : z = _ := hz
        exact sp_ret (ep_int1 (ep_I (ep_I0 (ep_I (ep_I (ep_I (ep_vv rfl) ep_c (.inr ⟨by decide, by decide⟩)) ep_c (by decide)) ep_c (.inr ⟨by decide, by decide⟩)) (ep_vv rfl)) ep_c (by decide))) fun z H5 e5 pz => q z H5 ((((e1.trans e2).trans e3).trans e4).trans e5) ⟨_, pz⟩

/-! ### the drawing list -/
/-- a list that never changes: locked, or written -/
def SqF (K : PySem.W.Frag) (H : Hp) (a : Addr) (xs : List V) : Prop := (∃ o, H a = some (.frz o (.lst xs))) ∨
  ∃ (o : Obj) (its : Array Value) (n : Nat), K.lookup a = some o ∧ o.cls = .type "list" ∧ o.dict = none ∧ o.data = .seq its n ∧ its.size ≤ sizeLine ∧ Vals xs its.toList
theorem SqF.l {H : Hp} {a : Addr} {xs : List V} (h : SqF K H a xs) : SqL K H a xs := by
  rcases h with ⟨o, h⟩ | h
  · exact .inl (.inr ⟨o, h⟩)
  · exact .inr h
theorem SqF.kt {H H' : Hp} {a : Addr} {xs : List V} (e : Kt H H') (h : SqF K H a xs) : SqF K H' a xs := by
  rcases h with ⟨o, h⟩ | h
  · exact .inl ⟨o, e.frz _ _ _ h⟩
  · exact .inr h
theorem kt_ex {H H' : Hp} (e : Ex H H') : Kt H H' := ⟨fun b xs h => e b _ h, fun b o u h => e b _ h⟩
/-- a list at d is written -/
theorem kt_lst {H : Hp} {d : Addr} {xs ys : List V} (h : H d = some (.lst xs)) : Kt H (upd H d (.lst ys)) :=
  ⟨fun b xs e => by rw [upd_ne (ne_of e h (by intro z; cases z))]; exact e, fun b o u e => by rw [upd_ne (ne_of e h (by intro z; cases z))]; exact e⟩
/-- draw: [script, how many were drawn] -/
def DrawOk (K : PySem.W.Frag) (H : Hp) (d : Addr) : Prop := ∃ (a : Addr) (n : Nat) (ns : List Int), H d = some (.lst [.ref a, .int (n : Int)]) ∧ SqF K H a (ns.map V.int)
/-- all but d is kept -/
def Kd (d : Addr) (H H' : Hp) : Prop := ∀ b o, b ≠ d → H b = some o → H' b = some o
theorem kd_ex {d : Addr} {H H' : Hp} (e : Ex H H') : Kd d H H' := fun b o _ h => e b o h
theorem Kd.trans {d : Addr} {H H1 H2 : Hp} (a : Kd d H H1) (b : Kd d H1 H2) : Kd d H H2 := fun c o n h => b c o n (a c o n h)
theorem draw_ex {d : Addr} {H H' : Hp} (e : Ex H H') (h : DrawOk K H d) : DrawOk K H' d := by
  obtain ⟨a, n, ns, h1, h2⟩ := h
  exact ⟨a, n, ns, e _ _ h1, h2.kt (kt_ex e)⟩
theorem kd_kt {d : Addr} {H H' : Hp} (h : DrawOk K H d) (k : Kd d H H') : Kt H H' := by
  obtain ⟨a, n, ns, h1, _⟩ := h
  exact ⟨fun b xs e => k b _ (ne_of e h1 (by intro z; cases z)) e, fun b o u e => k b _ (ne_of e h1 (by intro z; cases z)) e⟩
theorem qp_augL {D : Ends} {tz : TS} {σ : L2.St} {H : Hp} {d : Addr} {x : V} {n : Int} (h0 : σ[0]? = some (some (.ref d))) (hd : H d = some (.lst [x, .int n])) (k : tz D σ (upd H d (.lst [x, .int (n + 1)]))) :
    tSeq (tAugS (tVar 0) (tC (.int 1)) (tC (.int 1)) (gGetL K) (ipI fun i j => i + j) rSetL) tz D σ H :=
  ⟨.ref d, h0, d, _, 1, .int n, rfl, rfl, SqL.of hd, by decide, rfl, n, 1, rfl, rfl, d, _, 1, 1, rfl, rfl, hd, rfl, k⟩
def spTake (K : PySem.W.Frag) : Sp := fun vs H Q _ => ∃ (d : Addr) (m : Nat), 1 ≤ m ∧ vs = [.ref d, .int (m : Int)] ∧ DrawOk K H d ∧ ∀ (r : Nat) H', r < m → Kd d H H' → DrawOk K H' d → Q (.int (r : Int)) H'
theorem ok_take {f fN : Addr} {fd fdN : FuncData} (Fn : Fun K "_law_take" "_law_take" sTake f fd) (mi : mg "int" = none) (FN : Fun K "_law_number" "_law_number" sNumb fN fdN) (GN : FnOk P w K mg base CX0 1 fN fdN ["_law_script", "_law_index"] (spNumb K)) (bN : Binds K fdN ["_law_script", "_law_index"] [])
    (mN : mg "_law_number" = some (.ref fN)) : FnOk P w K mg base CX0 2 f fd ["_law_draw", "_law_many"] (spTake K) := by
  refine Fn.ok scTake (fun vs H Q E h => ?_) (fun cdv A outer s H vs Q E hr h => ?_)
  · obtain ⟨d, m, _, rfl, _⟩ := h
    rfl
  · obtain ⟨d, m, hm, rfl, ⟨a, n, ns, hd, hS⟩, q⟩ := h
    refine ⟨_, pss_cons (ps_augS (pv 0) pe_int get_list pe_int ip_add set_list)
      (pss_one (ps_ret (pe_op op_modN (pe_callTy call_int1 (by rfl) mi (by decide +kernel) (pa_cons (pe_call GN hr (by rfl) mN FN.kp bN .nil pass0 (pa_cons (pe_ix ix_list (pv 0) pe_int (fun _ _ => rfl)) (pa_cons (pe_callTy call_int1 (by rfl) mi (by decide +kernel) (pa_cons (pe_ix ix_list (pv 0) pe_int (fun _ _ => rfl)) pa_nil)) pa_nil))) pa_nil)) (pv 1)))), ?_⟩
    refine qp_augL rfl hd ?_
    have k1 : Kd d H (upd H d (.lst [.ref a, .int ((n : Int) + 1)])) := fun b o hb e => by
      rw [upd_ne hb]
      exact e
    have hd1 : (upd H d (.lst [.ref a, .int ((n : Int) + 1)])) d = some (.lst [.ref a, .int ((n + 1 : Nat) : Int)]) := upd_same.trans (by rw [Int.natCast_add]; rfl)
    have hS1 := hS.kt (kt_lst (ys := [.ref a, .int ((n : Int) + 1)]) hd)
    generalize upd H d (.lst [.ref a, .int ((n : Int) + 1)]) = H1 at *
    have hq : SqL K H1 d [.ref a, .int ((n + 1 : Nat) : Int)] := SqL.of hd1
    refine sp_ret (P := pLess m) (ep_modA (ep_intA (ep_call (S := pAny) (ea_c (P := pV (.ref a)) (ep_ixL (j := 0) hq (ep_vv rfl) ep_c rfl) (ea_c (P := pN (n + 1)) (ep_int1 (ep_ixL (j := 1) hq (ep_vv rfl) ep_c rfl)) ea_n)) fun vs H2 Q2 e2 sp => ?_)) (ep_vv rfl) hm) fun z H2 e2 pz => ?_
    · obtain ⟨al, sq⟩ := sp
      obtain ⟨x, y, rfl, hx, hy⟩ := al.two
      obtain rfl : x = _ := hx
      obtain rfl : y = _ := hy
      exact ⟨a, ns, n + 1, rfl, ex_l e2 hS1.l, sq⟩
    · obtain ⟨r, hr', rfl⟩ := pz
      exact q r H2 hr' (k1.trans (kd_ex e2)) (draw_ex e2 ⟨a, n + 1, ns, hd1, hS1⟩)

abbrev kpk : List V := [.str "k", .str "p", .str "k"]
theorem kpk_at : ∀ r : Nat, r < 3 → ∃ b : Bool, kpk[r]? = some (.str (kindS b))
  | 0, _ => ⟨true, rfl⟩
  | 1, _ => ⟨false, rfl⟩
  | 2, _ => ⟨true, rfl⟩
  | r + 3, h => by omega
def spPick (K : PySem.W.Frag) : Sp := fun vs H Q _ => ∃ (d l : Addr), vs = [.ref d, .ref l] ∧ DrawOk K H d ∧ H l = some (.lst kpk) ∧ ∀ (b : Bool) H', Kd d H H' → DrawOk K H' d → Q (.str (kindS b)) H'
theorem ok_pick {f fT : Addr} {fd fdT : FuncData} (Fn : Fun K "_law_pick" "_law_pick" sPick f fd) (ml : mg "len" = none) (FT' : Fun K "_law_take" "_law_take" sTake fT fdT) (GT : FnOk P w K mg base CX0 2 fT fdT ["_law_draw", "_law_many"] (spTake K)) (bT : Binds K fdT ["_law_draw", "_law_many"] [])
    (mT : mg "_law_take" = some (.ref fT)) : FnOk P w K mg base CX0 3 f fd ["_law_draw", "_law_items"] (spPick K) := by
  refine Fn.ok scPick (fun vs H Q E h => ?_) (fun cdv A outer s H vs Q E hr h => ?_)
  · obtain ⟨d, l, rfl, _⟩ := h
    rfl
  · obtain ⟨d, l, rfl, hD, hl, q⟩ := h
    refine ⟨_, pss_one (ps_ret (pe_ix ix_list (pv 1) (pe_call GT hr (by rfl) mT FT'.kp bT .nil pass0 (pa_cons (pv 0) (pa_cons (pe_callB call_len_seq (by rfl) ml PySem.boot_len (pa_cons (pv 1) pa_nil)) pa_nil))) (fun _ _ => rfl))), ?_⟩
    refine ⟨.ref l, rfl, .ref d, rfl, .ref l, rfl, l, _, rfl, .inl (SqL.of hl), ?_⟩
    refine ⟨d, 3, by decide, rfl, hD, fun r H' h3 k hD' => ?_⟩
    obtain ⟨b, eb⟩ := kpk_at r h3
    have hne : l ≠ d := by
      obtain ⟨a, n, ns, h1, _⟩ := hD
      exact ne_of hl h1 (by intro z; injection z with z; injection z with z; cases z)
    exact ⟨l, _, (r : Int), _, rfl, rfl, SqL.of (k l _ hne hl), atI_nat eb, q b H' k hD'⟩
def spSmal (K : PySem.W.Frag) : Sp := fun vs H Q _ => ∃ (d : Addr) (m : Nat), vs = [.ref d, .int (m : Int)] ∧ m ≤ 10 ∧ DrawOk K H d ∧ ∀ z H' (w : List Bool), w.length ≤ m → Kd d H H' → DrawOk K H' d → (pW K w).p z H' → Q z H'
theorem ok_smal {f fT fP : Addr} {fd fdT fdP : FuncData} (Fn : Fun K "_law_small_word" "_law_small_word" sSmal f fd) (mt : mg "tuple" = none) (mr : mg "range" = none) (FT' : Fun K "_law_take" "_law_take" sTake fT fdT) (GT : FnOk P w K mg base CX0 2 fT fdT ["_law_draw", "_law_many"] (spTake K))
    (bT : Binds K fdT ["_law_draw", "_law_many"] []) (mT : mg "_law_take" = some (.ref fT)) (FP : Fun K "_law_pick" "_law_pick" sPick fP fdP) (GP : FnOk P w K mg base CX0 3 fP fdP ["_law_draw", "_law_items"] (spPick K)) (bP : Binds K fdP ["_law_draw", "_law_items"] []) (mP : mg "_law_pick" = some (.ref fP)) :
    FnOk P w K mg base CX0 4 f fd ["_law_draw", "_law_many"] (spSmal K) := by
  refine Fn.ok scSmal (fun vs H Q E h => ?_) (fun cdv A outer s H vs Q E hr h => ?_)
  · obtain ⟨d, m, rfl, _⟩ := h
    rfl
  · obtain ⟨d, m, rfl, hm, hD, q⟩ := h
    have hr2 : Room 2 _ := hr.mono (by decide)
    refine ⟨_, pss_one (ps_ret (pe_callTy call_tuple_of (by rfl) mt (by decide +kernel) (pa_cons (pe_lc (own := [("_law_at", 2)]) (g := gName 2) (tt := tYes) (by rfl) scSmal.nd (pi_range1 (by rfl) mr (pa_cons (pe_call GT hr2 (by rfl) mT FT'.kp bT .nil pass0 (pa_cons (pv 0) (pa_cons (pe_op op_add (pv 1) pe_int) pa_nil))) pa_nil))
      (blkOk_by (own := [("_law_at", 2)]) (N := ["_law_draw", "_law_many", "_law_at"]) (sc := defScope sSmal) (by decide +kernel)) (fun _ _ _ _ _ => pg_name (i := 2) scSmal.nd rfl (Or.inl rfl)) (fun _ _ _ _ _ => pts_nil)
      (fun _ _ _ _ _ => pe_tup (pa_cons (pe_call GP hr (by rfl) mP FP.kp bP .nil pass0 (pa_cons (pv 0) (pa_cons (pe_lst (pa_cons pe_str (pa_cons pe_str (pa_cons pe_str pa_nil)))) pa_nil))) (pa_cons pe_str pa_nil)))) pa_nil))), ?_⟩
    -- range(take(draw, many + 1))
    refine ⟨.ref d, rfl, _, rfl, _, _, rfl, rfl, d, m + 1, by omega, by rw [Int.natCast_add]; rfl, hD, fun r H1 hr1 k1 hD1 => ?_⟩
    refine ⟨(r : Int), rfl, by omega, by omega, fun D hDn => ?_⟩
    have hDd : D ≠ d := by
      obtain ⟨a, n, ns, h1, _⟩ := hD1
      exact (ne_of_none h1 hDn).symm
    refine lc_range (lo := 0) (n := ((r : Int)).toNat) (fun i H' => ∃ (bs : List Bool) (xs : List V), H' D = some (.lst xs) ∧ AllP (bs.map (pC K)) xs H' ∧ bs.length = i ∧ Kd d H H' ∧ DrawOk K H' d) ?_ ?_ ?_
    · refine ⟨[], [], upd_same, True.intro, rfl, k1.trans (kd_ex (Ex.new hDn)), draw_ex (Ex.new hDn) hD1⟩
    · rintro i H2 hi ⟨bs, xs, h2, al, hl, k2, hD2⟩
      refine ⟨rfl, ?_⟩
      -- (pick(draw, ["k", "p", "k"]), "a")
      refine ⟨.ref d, rfl, by show 3 ≤ sizeLine; decide, fun l hl0 => ?_⟩
      have k3 : Kd d H2 (upd H2 l (.lst kpk)) := kd_ex (Ex.new hl0)
      refine ⟨d, l, rfl, draw_ex (Ex.new hl0) hD2, upd_same, fun b H4 k4 hD4 => ?_⟩
      refine ⟨by show 2 ≤ sizeLine; decide, fun t ht => ?_⟩
      have k24 := k3.trans k4
      have h4 : H4 D = some (.lst xs) := k24 D _ hDd h2
      have e5 : Ex H4 (upd H4 t (.tup [.str (kindS b), .str "a"])) := Ex.new ht
      have hlen := al.len
      rw [List.length_map] at hlen
      have hir : i < r := by omega
      have al4 := (cs_kt (kd_kt hD2 k24) al).mono e5
      refine ⟨xs, e5 _ _ h4, by rw [hlen, hl]; exact sz_lt (by omega), bs ++ [b], xs ++ [.ref t], upd_same, ?_, by rw [List.length_append, hl]; rfl, ?_, ?_⟩
      · have hc : (pC K b).p (.ref t) (upd H4 t (.tup [.str (kindS b), .str "a"])) := ⟨t, _, rfl, st_of upd_same, rfl, rfl, True.intro⟩
        have hall : AllP ((bs ++ [b]).map (pC K)) (xs ++ [.ref t]) (upd H4 t (.tup [.str (kindS b), .str "a"])) := by
          rw [List.map_append]
          exact al4.app ⟨hc, True.intro⟩
        have kt : Kt (upd H4 t (.tup [.str (kindS b), .str "a"])) (upd (upd H4 t (.tup [.str (kindS b), .str "a"])) D (.lst (xs ++ [.ref t]))) :=
          ⟨fun c ys e => by rw [upd_ne (ne_of e (e5 _ _ h4) (by intro z; cases z))]; exact e, fun c o u e => by rw [upd_ne (ne_of e (e5 _ _ h4) (by intro z; cases z))]; exact e⟩
        exact cs_kt kt hall
      · intro c o hc e
        have hcD : c ≠ D := by
          intro z
          subst z
          have := k1 c o hDd e
          rw [hDn] at this
          cases this
        rw [upd_ne hcD]
        exact e5 _ _ (k24 c o hc (k2 c o hc e))
      · obtain ⟨a, n, ns, d1, d2⟩ := draw_ex e5 hD4
        exact ⟨a, n, ns, by rw [upd_ne hDd.symm]; exact d1, d2.kt (kt_lst (e5 _ _ h4))⟩
    · rintro H2 ⟨bs, xs, h2, al, hl, k2, hD2⟩
      refine ⟨D, xs, rfl, .inl ⟨SqL.of h2, fun t ht => ?_⟩⟩
      exact q _ _ bs (by omega) (k2.trans (kd_ex (Ex.new ht))) (draw_ex (Ex.new ht) hD2) ⟨t, xs, rfl, st_of upd_same, al.mono (Ex.new ht)⟩

def spIsPo (K : PySem.W.Frag) : Sp := fun vs H Q _ => ∃ w : List Bool, w ≠ [] ∧ w.length ≤ 100 ∧ Prim w ∧ spP [pW K w] (pV (.bl false)) vs H Q
theorem ok_ispo {f : Addr} {fd : FuncData} (Fn : Fun K "_law_is_power" "_law_is_power" sIsPo f fd) (mr : mg "range" = none) (ml : mg "len" = none) : FnOk P w K mg base CX0 1 f fd ["_law_word"] (spIsPo K) := by
  refine Fn.ok scIsPo (fun vs H Q E h => ?_) (fun cdv A outer s H vs Q E hr h => ?_)
  · obtain ⟨w, _, _, _, a, _⟩ := h
    exact a.len
  · obtain ⟨w, hw, hl, hp, a, q⟩ := h
    obtain ⟨v, rfl, hv⟩ := a.one
    refine ⟨_, pss_cons (ps_for PassesOwn.never rfl (pi_range2 (by rfl) mr (pa_cons pe_int (pa_cons (pe_callB call_len_seq (by rfl) ml PySem.boot_len (pa_cons (pv 0) pa_nil)) pa_nil))) (pg_name (i := 1) scIsPo.nd rfl (Or.inl rfl))
        (pss_one (ps_if (PW.pt (pw_and (pt_cmpR op_eq (pe_op op_modN (pe_callB call_len_seq (by rfl) ml PySem.boot_len (pa_cons (pv 0) pa_nil)) (pv 1)) pe_int (nomark _))
          (pw_and1 (pt_cmpR (op_eqD hr.units) (pe_op op_repA (pe_slice sl_tupA (pv 0) po_none (po_some (pv 1))) (pe_op op_fdivN (pe_callB call_len_seq (by rfl) ml PySem.boot_len (pa_cons (pv 0) pa_nil)) (pv 1))) (pv 0) (nomark _)))))
          (pss_one (ps_ret pe_bl)) pss_nil)))
      (pss_one (ps_ret pe_bl)), ?_⟩
    have hw1 : 1 ≤ w.length := by
      cases w with
      | nil => exact absurd rfl hw
      | cons a b => simp
    refine qp_rng2 (lo := 1) (n := w.length) (ea_c ep_c (ea_c (ep_lenW (ep_var hv rfl)) ea_n)) hw1 (by omega)
      (fun m σ' H' => ∃ o, σ' = [some v, o] ∧ Ex H H') (fun H1 e1 => ⟨none, rfl, e1⟩) (fun m σ' H' h1 h2 p => ?_) (fun σ' H' p => ?_)
    · obtain ⟨o, rfl, e1⟩ := p
      have hv1 := PP.mono _ _ _ _ e1 hv
      have htl : (w.take m).length = m := by rw [List.length_take]; omega
      have htn : w.take m ≠ [] := fun z => by
        rw [z] at htl
        simp at htl
        omega
      have hd : w.length / m ≤ 1000 := Nat.le_trans (Nat.div_le_self _ _) (by omega)
      refine s_when (b := decide (w.length % m = 0) && decide (rep (w.length / m) (w.take m) = w)) (et_and (et_t (ep_eqN (ep_mod (ep_lenW (ep_var hv1 rfl)) (ep_vv rfl) (by omega)) ep_c))
        (fun _ => et_t (ep_eqW (ep_mulW (ep_slW (ep_var hv1 rfl) eo_none (eo_s (ep_vv rfl)) (cut_to w m)) (ep_div (ep_lenW (ep_var hv1 rfl)) (ep_vv rfl) (by omega) (by omega)) htn hd (by omega)) (ep_var hv1 rfl))))
        (fun hb H2 e2 => ?_) (fun hb H2 e2 => ⟨_, rfl, e1.trans e2⟩)
      rw [Bool.and_eq_true, decide_eq_true_iff, decide_eq_true_iff] at hb
      exact (not_power hp h1 h2 hb.1 hb.2).elim
    · obtain ⟨o, rfl, e1⟩ := p
      exact sp_ret (ep_c (v := .bl false)) fun z H3 e3 pz => q z H3 (e1.trans e3) pz

/-! ### drawing in a statement -/
theorem qp_take {D : Ends} {tz : TS} {σ : L2.St} {H : Hp} {E : XK} {d : Addr} {i j m : Nat} (hm : 1 ≤ m) (hd : DrawOk K H d) (h0 : σ[j]? = some (some (.ref d))) (k : ∀ (r : Nat) H', r < m → Kd d H H' → DrawOk K H' d → tz D (σ.set i (some (.int (r : Int)))) H') :
    tSeq (tAsg (tCall (spTake K) [] E (tCons (tVar j) (tCons (tC (.int (m : Int))) tNil))) (gName i)) tz D σ H := ⟨.ref d, h0, d, m, hm, rfl, hd, k⟩
def spOthe (K : PySem.W.Frag) : Sp := fun vs H Q _ => ∃ (d : Addr) (l g r : List Bool) (vs' : List V), g ≠ [] ∧ l.length ≤ 5 ∧ g.length ≤ 8 ∧ r.length ≤ 5 ∧ vs = .ref d :: vs' ∧ AllP [pW K l, pW K g, pW K r] vs' H ∧ DrawOk K H d ∧
  ∀ z H' (l2 g2 r2 : List Bool), Near l g r l2 g2 r2 → g2 ≠ [] → l2.length ≤ 13 → g2.length ≤ 16 → r2.length ≤ 13 → Kd d H H' → DrawOk K H' d → (pTup K [pW K l2, pW K g2, pW K r2]).p z H' → Q z H'
theorem ok_othe {f fT : Addr} {fd fdT : FuncData} (Fn : Fun K "_law_other" "_law_other" sOthe f fd) (FT' : Fun K "_law_take" "_law_take" sTake fT fdT) (GT : FnOk P w K mg base CX0 2 fT fdT ["_law_draw", "_law_many"] (spTake K)) (bT : Binds K fdT ["_law_draw", "_law_many"] []) (mT : mg "_law_take" = some (.ref fT)) :
    FnOk P w K mg base CX0 3 f fd ["_law_draw", "_law_left", "_law_group", "_law_right"] (spOthe K) := by
  refine Fn.ok scOthe (fun vs H Q E h => ?_) (fun cdv A outer s H vs Q E hr h => ?_)
  · obtain ⟨d, l, g, r, vs', _, _, _, _, rfl, a, _⟩ := h
    rw [List.length_cons, a.len]
    rfl
  · obtain ⟨d, l, g, r, vs', hg, ll, lg, lr, rfl, a, hD, q⟩ := h
    obtain ⟨vl, vg, vr, rfl, pl0, pg0, pr0⟩ := a.three
    refine ⟨_, pss_cons (ps_set (i := 4) scOthe.nd rfl (Or.inl rfl) (pe_call GT hr (by rfl) mT FT'.kp bT .nil pass0 (pa_cons (pv 0) (pa_cons pe_int pa_nil))))
      (pss_cons (ps_if (pt_cmpR op_eq (pv 4) pe_int (nomark _)) (pss_one (ps_ret (pe_tup (pa_cons (pe_op op_catA (pv 1) (pe_slice sl_tupA (pv 2) po_none (po_some pe_int))) (pa_cons (pe_op op_catA (pe_slice sl_tupA (pv 2) (po_some pe_int) po_none) (pe_slice sl_tupA (pv 2) po_none (po_some pe_int)))
          (pa_cons (pe_ifExp (pt_cmpR (op_eqD hr.units) (pe_slice sl_tupA (pv 3) po_none (po_some pe_int)) (pe_slice sl_tupA (pv 2) po_none (po_some pe_int)) (nomark _)) (pe_slice sl_tupA (pv 3) (po_some pe_int) po_none) (pv 3)) pa_nil)))))) pss_nil)
      (pss_cons (ps_if (PW.pt (pw_and (pt_cmpR op_eq (pv 4) pe_int (nomark _)) (pw_and (pt_cmpR (op_neD hr.units) (pv 1) (pe_tup pa_nil) (nomark _)) (pw_and1 (pt_cmpR (op_eqD hr.units) (pe_ix ix_tup (pv 1) (pe_un un_neg pe_int) (fun _ _ => rfl)) (pe_ix ix_tup (pv 2) (pe_un un_neg pe_int) (fun _ _ => rfl)) (nomark _))))))
        (pss_one (ps_ret (pe_tup (pa_cons (pe_slice sl_tupA (pv 1) po_none (po_some (pe_un un_neg pe_int))) (pa_cons (pe_op op_catA (pe_slice sl_tupA (pv 2) (po_some (pe_un un_neg pe_int)) po_none) (pe_slice sl_tupA (pv 2) po_none (po_some (pe_un un_neg pe_int))))
          (pa_cons (pe_op op_catA (pe_slice sl_tupA (pv 2) (po_some (pe_un un_neg pe_int)) po_none) (pv 3)) pa_nil)))))) pss_nil)
      (pss_cons (ps_if (pt_cmpR op_eq (pv 4) pe_int (nomark _)) (pss_one (ps_ret (pe_tup (pa_cons (pe_op op_catA (pv 1) (pv 2)) (pa_cons (pv 2) (pa_cons (pv 3) pa_nil)))))) pss_nil)
      (pss_cons (ps_if (pt_cmpR op_eq (pv 4) pe_int (nomark _)) (pss_one (ps_ret (pe_tup (pa_cons (pv 1) (pa_cons (pv 2) (pa_cons (pe_op op_catA (pv 2) (pv 3)) pa_nil)))))) pss_nil)
      (pss_one (ps_ret (pe_tup (pa_cons (pv 1) (pa_cons (pe_op op_catA (pv 2) (pv 2)) (pa_cons (pv 3) pa_nil)))))))))), ?_⟩
    refine qp_take (m := 5) (by decide) hD rfl fun k H1 hk k1 hD1 => ?_
    have kt := kd_kt hD k1
    have pl := w_kt kt pl0
    have pg := w_kt kt pg0
    have pr := w_kt kt pr0
    have hg1 : 1 ≤ g.length := by
      cases g with
      | nil => exact absurd rfl hg
      | cons a b => simp
    have fin : ∀ {l2 g2 r2 : List Bool} {H2 : Hp}, Ex H1 H2 → Near l g r l2 g2 r2 → g2 ≠ [] → l2.length ≤ 13 → g2.length ≤ 16 → r2.length ≤ 13 → ∀ z H3, Ex H2 H3 → (pTup K [pW K l2, pW K g2, pW K r2]).p z H3 → Q z H3 := fun e2 hn h1 h2 h3 h4 z H3 e3 pz =>
      q z H3 _ _ _ hn h1 h2 h3 h4 (k1.trans (kd_ex (e2.trans e3))) (draw_ex (e2.trans e3) hD1) pz
    refine q_when (b := decide (k = 0)) (et_t (ep_eqN (ep_vv rfl) ep_c)) (fun hb H2 e2 => ?_) (fun hb H2 e2 => ?_)
    · have ql := PP.mono _ _ _ _ e2 pl
      have qg := PP.mono _ _ _ _ e2 pg
      have qr := PP.mono _ _ _ _ e2 pr
      obtain ⟨x, g', rfl⟩ : ∃ x g', g = x :: g' := by
        cases g with
        | nil => exact absurd rfl hg
        | cons y b => exact ⟨y, b, rfl⟩
      have lg' : g'.length + 1 ≤ 8 := lg
      have l3 : (if r.take 1 = [x] then r.drop 1 else r).length ≤ 13 := by
        by_cases h : r.take 1 = [x]
        · rw [if_pos h, List.length_drop]
          omega
        · rw [if_neg h]
          omega
      refine sp_ret (ep_tup (Ps := [pW K (l ++ [x]), pW K (g' ++ [x]), pW K (if r.take 1 = [x] then r.drop 1 else r)]) (ea_c (ep_catW (ep_var ql rfl) (ep_slW (v := [x]) (ep_var qg rfl) eo_none (eo_s (i := ((1 : Nat) : Int)) ep_c) (cut_to _ 1)) (by simp only [List.length_cons, List.length_nil]; omega))
        (ea_c (ep_catW (ep_slW (v := g') (ep_var qg rfl) (eo_s (i := ((1 : Nat) : Int)) ep_c) eo_none (cut_from _ 1)) (ep_slW (v := [x]) (ep_var qg rfl) eo_none (eo_s (i := ((1 : Nat) : Int)) ep_c) (cut_to _ 1)) (by simp only [List.length_cons, List.length_nil]; omega))
        (ea_c (ep_if (b := decide (r.take 1 = [x])) (et_t (ep_eqW (ep_slW (ep_var qr rfl) eo_none (eo_s (i := ((1 : Nat) : Int)) ep_c) (cut_to _ 1)) (ep_slW (v := [x]) (ep_var qg rfl) eo_none (eo_s (i := ((1 : Nat) : Int)) ep_c) (cut_to _ 1))))
          (fun h => (ep_slW (ep_var qr rfl) (eo_s (i := ((1 : Nat) : Int)) ep_c) eo_none (cut_from _ 1)).is (by rw [if_pos (of_decide_eq_true h)])) (fun h => EvP.is (ep_var qr rfl) (by rw [if_neg (of_decide_eq_false h)]))) ea_n))) (by show 3 ≤ 100000; decide)) (fin e2 ?_ (by simp) (by simp only [List.length_append, List.length_cons, List.length_nil]; omega) (by simp only [List.length_append, List.length_cons, List.length_nil]; omega) l3)
      by_cases h : r.take 1 = [x]
      · rw [if_pos h]
        obtain ⟨r', rfl⟩ : ∃ r', r = x :: r' := by
          cases r with
          | nil => simp at h
          | cons y b =>
            simp at h
            exact ⟨b, by rw [h]⟩
        exact near_eq (fam_turn l g' r' x)
      · rw [if_neg h]
        refine near_len0 ?_
        simp only [List.length_append, List.length_cons, List.length_nil]
        omega
    · have h0 := of_decide_eq_false hb
      have ql := PP.mono _ _ _ _ e2 pl
      have qg := PP.mono _ _ _ _ e2 pg
      have qr := PP.mono _ _ _ _ e2 pr
      refine q_when (b := decide (k = 1) && goes l g) ?_ (fun hb3 H3 e3 => ?_) (fun hb3 H3 e3 => ?_)
      · refine et_and (et_t (ep_eqN (j := 1) (ep_vv rfl) ep_c)) fun _ => ?_
        refine et_is (et_and (a := !decide (l = [])) (b := decide (l.getLast? = g.getLast?)) (et_t (ep_neW (ep_var ql rfl) ep_nilW)) fun hne => ?_) ?_
        · have hl' : l ≠ [] := fun z => by
            rw [z] at hne
            simp at hne
          obtain ⟨m', x, rfl⟩ := snoc_of hl'
          obtain ⟨d', y, rfl⟩ := snoc_of hg
          refine et_is (et_t (ep_eqC (ep_lastC (ep_var ql rfl) ep_m1) (ep_lastC (ep_var qg rfl) ep_m1))) ?_
          rw [List.getLast?_concat, List.getLast?_concat]
          simp
        · unfold goes
          simp
      · rw [Bool.and_eq_true] at hb3
        obtain ⟨m', d', x, rfl, rfl⟩ := goes_yes hg hb3.2
        have ql3 := PP.mono _ _ _ _ e3 ql
        have qg3 := PP.mono _ _ _ _ e3 qg
        have qr3 := PP.mono _ _ _ _ e3 qr
        refine sp_ret (ep_tup (Ps := [pW K m', pW K ([x] ++ d'), pW K ([x] ++ r)]) (ea_c (ep_slW (v := m') (ep_var ql3 rfl) eo_none (eo_s ep_m1) (by rw [cut_butlast, List.dropLast_concat]))
          (ea_c (ep_catW (ep_slW (v := [x]) (ep_var qg3 rfl) (eo_s ep_m1) eo_none (by rw [cut_last, lastW_snoc])) (ep_slW (v := d') (ep_var qg3 rfl) eo_none (eo_s ep_m1) (by rw [cut_butlast, List.dropLast_concat])) (by simp at lg ⊢; omega))
          (ea_c (ep_catW (ep_slW (v := [x]) (ep_var qg3 rfl) (eo_s ep_m1) eo_none (by rw [cut_last, lastW_snoc])) (ep_var qr3 rfl) (by simp; omega)) ea_n))) (by show 3 ≤ 100000; decide)) (fin (e2.trans e3) (near_eq (fam_turn m' d' r x).symm) (by simp) (by simp at ll ⊢; omega) (by simp at lg ⊢; omega) (by simp; omega))
      · have ql3 := PP.mono _ _ _ _ e3 ql
        have qg3 := PP.mono _ _ _ _ e3 qg
        have qr3 := PP.mono _ _ _ _ e3 qr
        refine q_when (b := decide (k = 2)) (et_t (ep_eqN (j := 2) (ep_vv rfl) ep_c)) (fun hb4 H4 e4 => ?_) (fun hb4 H4 e4 => ?_)
        · refine sp_ret (ep_tup (Ps := [pW K (l ++ g), pW K g, pW K r]) (ea_c (ep_catW (ep_var (PP.mono _ _ _ _ e4 ql3) rfl) (ep_var (PP.mono _ _ _ _ e4 qg3) rfl) (by omega)) (ea_c (ep_var (PP.mono _ _ _ _ e4 qg3) rfl) (ea_c (ep_var (PP.mono _ _ _ _ e4 qr3) rfl) ea_n))) (by show 3 ≤ 100000; decide))
            (fin ((e2.trans e3).trans e4) (near_len0 (by simp; omega)) hg (by simp; omega) (by omega) (by omega))
        · have ql4 := PP.mono _ _ _ _ e4 ql3
          have qg4 := PP.mono _ _ _ _ e4 qg3
          have qr4 := PP.mono _ _ _ _ e4 qr3
          refine q_when (b := decide (k = 3)) (et_t (ep_eqN (j := 3) (ep_vv rfl) ep_c)) (fun hb5 H5 e5 => ?_) (fun hb5 H5 e5 => ?_)
          · refine sp_ret (ep_tup (Ps := [pW K l, pW K g, pW K (g ++ r)]) (ea_c (ep_var (PP.mono _ _ _ _ e5 ql4) rfl) (ea_c (ep_var (PP.mono _ _ _ _ e5 qg4) rfl) (ea_c (ep_catW (ep_var (PP.mono _ _ _ _ e5 qg4) rfl) (ep_var (PP.mono _ _ _ _ e5 qr4) rfl) (by omega)) ea_n))) (by show 3 ≤ 100000; decide))
              (fin (((e2.trans e3).trans e4).trans e5) (near_len0 (by simp; omega)) hg (by omega) (by omega) (by simp; omega))
          · refine sp_ret (ep_tup (Ps := [pW K l, pW K (g ++ g), pW K r]) (ea_c (ep_var (PP.mono _ _ _ _ e5 ql4) rfl) (ea_c (ep_catW (ep_var (PP.mono _ _ _ _ e5 qg4) rfl) (ep_var (PP.mono _ _ _ _ e5 qg4) rfl) (by omega)) (ea_c (ep_var (PP.mono _ _ _ _ e5 qr4) rfl) ea_n))) (by show 3 ≤ 100000; decide))
              (fin (((e2.trans e3).trans e4).trans e5) (near_len1 (by simp; omega)) (by simp [hg]) (by omega) (by simp; omega) (by omega))
end
end KD

/-! The walk: law. -/
namespace KD
open PySem L2 Evl KW K11
abbrev sLaw : Stmt := top 13
abbrev lawN : List Str := ["_law_script", "_law_draw", "_law_turn", "_law_left", "_law_right", "_law_group", "_law_one", "_law_many", "_law_word", "_law_told", "_law_two", "_law_unlike", "_law_row"]
theorem scLaw : FnScope lawN ["_law_script"] (defScope sLaw) := ⟨rfl, rfl, rfl, by decide +kernel, rfl, by decide +kernel, by decide +kernel⟩

section
variable {K : PySem.W.Frag} {σ : L2.St} {H H' : Hp} {ta tb te : TE} {P : PP} {v : V} {C : Addr} {F G : Fam Bool}
theorem ep_cw (h : P.p v H) : EvP (tC v) σ H P := fun H1 e _ q => q v H1 (Ex.refl H1) (P.mono v H H1 e h)
theorem f_kd {d : Addr} {z : V} (hd : DrawOk K H d) (k : Kd d H H') (h : (pF K C F).p z H) : (pF K C F).p z H' := by
  have kt := kd_kt hd k
  obtain ⟨a, dx, l, c, r, h1, h2, h3, h4, h5⟩ := h
  obtain ⟨b, n, ns, i1, _⟩ := hd
  exact ⟨a, dx, l, c, r, h1, k _ _ (ne_of h2 i1 (by intro z; cases z)) h2, w_kt kt h3, w_kt kt h4, w_kt kt h5⟩
def rNotN1 : R2 := fun x y H Q => y = .non ∧ Q (.bl (!decide (x = .non))) H
theorem ep_notN {o : Option (List Bool)} (ha : EvP ta σ H (pO K o)) : EvP (tOp rNotN1 ta (tC .non)) σ H (pV (.bl o.isSome)) :=
  ep_op ha (ep_c (v := .non)) fun x y H1 _ hx hy Q q => by
    refine ⟨hy, ?_⟩
    cases o with
    | none =>
      obtain rfl : x = .non := hx
      exact q _ H1 (Ex.refl H1) rfl
    | some w =>
      obtain ⟨a, xs, rfl, _⟩ := hx
      exact q _ H1 (Ex.refl H1) rfl
theorem ep_neI {o : Option Nat} (ha : EvP ta σ H (pI o)) (hb : EvP tb σ H (pI o)) : EvP (tOp rNe ta tb) σ H (pV (.bl false)) := by
  cases o with
  | none => exact (ep_neS (x := .non) (y := .non) ha hb rfl).is (by rw [decide_eq_true rfl]; rfl)
  | some u => exact (ep_neN ha hb).is (by rw [decide_eq_true rfl]; rfl)
def fiveD (F : Fam Bool) : PyData := .tuple [wD F.left, wD F.core, wD F.right, .int (F.rate : Int), .int (F.more : Int)]
theorem all_five {P1 P2 P3 P4 P5 : PP} {vs : List V} {H : Hp} (h : AllP [P1, P2, P3, P4, P5] vs H) : ∃ v1 v2 v3 v4 v5, vs = [v1, v2, v3, v4, v5] ∧ P1.p v1 H ∧ P2.p v2 H ∧ P3.p v3 H ∧ P4.p v4 H ∧ P5.p v5 H := by
  match vs, h with
  | [v1, v2, v3, v4, v5], h => exact ⟨v1, v2, v3, v4, v5, rfl, h.1, h.2.1, h.2.2.1, h.2.2.2.1, h.2.2.2.2.1⟩
theorem five_dp {z : V} (h : (pTup K [pW K F.left, pW K F.core, pW K F.right, pN F.rate, pN F.more]).p z H) : Dp K H z (fiveD F) := by
  obtain ⟨a, xs, rfl, s, al⟩ := h
  obtain ⟨x1, x2, x3, x4, x5, rfl, h1, h2, h3, h4, h5⟩ := all_five al
  exact .tup s (.cons (w_dp h1) (.cons (w_dp h2) (.cons (w_dp h3) (.cons (v_dp_int h4) (.cons (v_dp_int h5) .nil)))))
theorem shaped_five (F : Fam Bool) : SeqAt.shaped (fiveD F) = true := shaped_tup fun d hd => by
  simp only [List.mem_cons, List.not_mem_nil, or_false] at hd
  rcases hd with rfl | rfl | rfl | rfl | rfl <;> first | exact lay_w _ | exact lay_int _
theorem eqv_five (F : Fam Bool) : PyData.eqv (fiveD F) (fiveD F) = true := by
  unfold fiveD
  rw [PyData.eqv, PyData.eqvAll, PyData.eqvAll, PyData.eqvAll, PyData.eqvAll, PyData.eqvAll, PyData.eqvAll, eqv_w, eqv_w, eqv_w, eqv_int, eqv_int]
  simp
end
/-! ### rules within a comprehension's block, the written part told by name -/
section
variable {X : Cx} {K : PySem.W.Frag}
theorem op_repK (h : X.K = K := by rfl) : OpR X (binaryOp .Mult) (rRepA K) := by
  subst h
  exact op_repA
theorem op_catK (h : X.K = K := by rfl) : OpR X (binaryOp .Add) (rCatA K) := by
  subst h
  exact op_catA
theorem ix_tupK (h : X.K = K := by rfl) : IxR X (rIxT K) := by
  subst h
  exact ix_tup
theorem op_neDK (hu : X.A.units + 64 < cLine) (h : X.K = K := by rfl) : OpR X (compareOp .NotEq) (rNeD K) := by
  subst h
  exact op_neD hu
end
/-! ### what the law asks, of the least form -/
theorem ofLen_word {F : Fam Bool} (z : Sz F) (n : Nat) : ofLen F (F.word n).length = some (F.word n) := by
  have hc := core_pos z
  unfold ofLen
  have e : (F.word n).length - F.left.length - F.right.length = F.core.length * F.rounds n := by
    rw [word_len]
    omega
  rw [e, if_pos (Nat.mul_mod_right _ _), Nat.mul_div_cancel_left _ (by omega)]
  rfl
theorem ofLen_no {F : Fam Bool} (z : Sz F) (h : 1 < F.core.length) : ofLen F (F.left.length + F.right.length + F.core.length + 1) = none := by
  unfold ofLen
  have e : F.left.length + F.right.length + F.core.length + 1 - F.left.length - F.right.length = F.core.length + 1 := by omega
  rw [e, Nat.add_mod_left, Nat.mod_eq_of_lt h, if_neg (by decide)]
theorem last_ne {l c : List Bool} (hc : c ≠ []) (h : goes l c = false) : lastW l ≠ lastW c := by
  obtain ⟨d, y, rfl⟩ := snoc_of hc
  rw [lastW_snoc]
  by_cases hl : l = []
  · subst hl
    simp [lastW]
  · obtain ⟨m, x, rfl⟩ := snoc_of hl
    rw [lastW_snoc]
    intro e
    injection e with e
    subst e
    rw [goes_snoc] at h
    cases h
/-- the numbers of turns for which two families' words are unlike -/
def unl (l g r l2 g2 r2 : List Bool) (i : Nat) : Bool := !decide (l2 ++ rep i g2 ++ r2 = l ++ rep i g ++ r)
theorem unl_same {l g r l2 g2 r2 : List Bool} (hg : g ≠ []) (hg2 : g2 ≠ []) (hn : Near l g r l2 g2 r2) :
    sameB (fam l g r) (fam l2 g2 r2) = decide ((List.range 13).filter (unl l g r l2 g2 r2) = []) ∧ Unl (fam l g r) (fam l2 g2 r2) ((List.range 13).filter (unl l g r l2 g2 r2)).head? := by
  have fo := first_of (unl l g r l2 g2 r2) 13
  have tr : ∀ i, unl l g r l2 g2 r2 i = false ↔ (fam l g r).word i = (fam l2 g2 r2).word i := fun i => by
    unfold unl
    rw [fam_word l g r hg, fam_word l2 g2 r2 hg2]
    simp only [Bool.not_eq_false', decide_eq_true_eq]
    exact ⟨fun e => e.symm, fun e => e.symm⟩
  cases q : (List.range 13).filter (unl l g r l2 g2 r2) with
  | nil =>
    have al := fo.1 q
    have e : fam l2 g2 r2 = fam l g r := hn fun n h => by
      have := (tr n).mp (al n h)
      rw [fam_word l g r hg, fam_word l2 g2 r2 hg2] at this
      exact this.symm
    rw [e]
    exact ⟨by rw [sameB_iff.mpr rfl, decide_eq_true rfl], rfl⟩
  | cons u t =>
    obtain ⟨h1, h2, h3⟩ := fo.2 u t q
    have ne : (fam l g r).word u ≠ (fam l2 g2 r2).word u := fun e => by
      rw [(tr u).mpr e] at h2
      cases h2
    have nf : fam l g r ≠ fam l2 g2 r2 := fun e => ne (by rw [e])
    refine ⟨?_, by omega, ne, fun k hk => (tr k).mp (h3 k hk)⟩
    rw [sameB_no nf, decide_eq_false (by simp)]
theorem word_le {l g r : List Bool} {n : Nat} (h1 : l.length ≤ 13) (h2 : g.length ≤ 16) (h3 : r.length ≤ 13) (h4 : n ≤ 12) : (rep n g).length ≤ 192 := by
  rw [rep_len]
  exact Nat.mul_le_mul h4 h2

def spLaw (K : PySem.W.Frag) : Sp := fun vs H Q _ => ∃ (a : Addr) (ns : List Int), vs = [.ref a] ∧ SqF K H a (ns.map V.int) ∧ ∀ H', Q (.bl true) H'
/-- what stands of the text -/
structure Txt (K : PySem.W.Frag) (mg : Str → Option Value) (C : Addr) : Prop where
  T : FT K C
  mr : mg "range" = none
  ml : mg "len" = none
  mC : mg "Family" = some (.ref C)
section
variable {P : Program} {w : World} {K : PySem.W.Frag} {mg : Str → Option Value} {base : Heap}
set_option maxHeartbeats 4000000 in
theorem ok_law {f C fI fW fLe fO fSm fT fIP fOt fSa fUn fFO : Addr} {fd fdI fdW fdLe fdO fdSm fdT fdIP fdOt fdSa fdUn fdFO : FuncData} (Fn : Fun K "law" "law" sLaw f fd) (X : Txt K mg C)
    (M : Mk K C fI) (GI : FnOk P w K mg base CX0 2 fI fdI ["self", "left", "group", "right"] (spInit K C)) (bI : Binds K fdI ["self", "left", "group", "right"] [])
    (GW : FnOk P w K mg base CX0 2 fW fdW ["self", "turns"] (spWord K C)) (bW : Binds K fdW ["self", "turns"] []) (mW : Meth K C "word" fW)
    (GLe : FnOk P w K mg base CX0 2 fLe fdLe ["self", "turns"] (spLeng K C)) (bLe : Binds K fdLe ["self", "turns"] []) (mLe : Meth K C "length" fLe)
    (GO : FnOk P w K mg base CX0 1 fO fdO ["self", "many"] (spOfLn K C)) (bO : Binds K fdO ["self", "many"] []) (mO : Meth K C "of_length" fO)
    (kSm : PySem.W.keepIn K (.ref fSm) = true) (GSm : FnOk P w K mg base CX0 4 fSm fdSm ["_law_draw", "_law_many"] (spSmal K)) (bSm : Binds K fdSm ["_law_draw", "_law_many"] []) (gSm : mg "_law_small_word" = some (.ref fSm))
    (kT : PySem.W.keepIn K (.ref fT) = true) (GT : FnOk P w K mg base CX0 2 fT fdT ["_law_draw", "_law_many"] (spTake K)) (bT : Binds K fdT ["_law_draw", "_law_many"] []) (gT : mg "_law_take" = some (.ref fT))
    (kIP : PySem.W.keepIn K (.ref fIP) = true) (GIP : FnOk P w K mg base CX0 1 fIP fdIP ["_law_word"] (spIsPo K)) (bIP : Binds K fdIP ["_law_word"] []) (gIP : mg "_law_is_power" = some (.ref fIP))
    (kOt : PySem.W.keepIn K (.ref fOt) = true) (GOt : FnOk P w K mg base CX0 3 fOt fdOt ["_law_draw", "_law_left", "_law_group", "_law_right"] (spOthe K)) (bOt : Binds K fdOt ["_law_draw", "_law_left", "_law_group", "_law_right"] []) (gOt : mg "_law_other" = some (.ref fOt))
    (kSa : PySem.W.keepIn K (.ref fSa) = true) (GSa : FnOk P w K mg base CX0 2 fSa fdSa ["one", "two"] (spSame K C)) (bSa : Binds K fdSa ["one", "two"] []) (gSa : mg "same_family" = some (.ref fSa))
    (kUn : PySem.W.keepIn K (.ref fUn) = true) (GUn : FnOk P w K mg base CX0 3 fUn fdUn ["one", "two"] (spUnli K C)) (bUn : Binds K fdUn ["one", "two"] []) (gUn : mg "first_unlike" = some (.ref fUn))
    (kFO : PySem.W.keepIn K (.ref fFO) = true) (GFO : FnOk P w K mg base CX0 4 fFO fdFO ["row"] (spFamO K C)) (bFO : Binds K fdFO ["row"] []) (gFO : mg "family_of" = some (.ref fFO)) :
    FnOk P w K mg base CX0 5 f fd ["_law_script"] (spLaw K) := by
  have T := X.T
  have ml := X.ml
  have mr := X.mr
  refine Fn.ok scLaw (fun vs H Q E h => ?_) (fun cdv A outer s H vs Q E hr h => ?_)
  · obtain ⟨a, ns, rfl, _⟩ := h
    rfl
  · obtain ⟨a, ns, rfl, hS, q⟩ := h
    have hr1 : Room 1 _ := hr.mono (by decide)
    have hr2 : Room 2 _ := hr.mono (by decide)
    have hr3 : Room 3 _ := hr.mono (by decide)
    refine ⟨_, pss_cons (ps_set (i := 1) scLaw.nd rfl (Or.inl rfl) (pe_lst (pa_cons (pv 0) (pa_cons pe_int pa_nil))))
      (pss_cons (ps_for PassesOwn.never rfl (pi_range1 (by rfl) mr (pa_cons pe_int pa_nil)) (pg_name (i := 2) scLaw.nd rfl (Or.inl rfl))
        -- left, right = ..
        (pss_cons (ps_asg (pe_tup (pa_cons (pe_call GSm hr (by rfl) gSm kSm bSm .nil pass0 (pa_cons (pv 1) (pa_cons pe_int pa_nil))) (pa_cons (pe_call GSm hr (by rfl) gSm kSm bSm .nil pass0 (pa_cons (pv 1) (pa_cons pe_int pa_nil))) pa_nil)))
            (pg_tup (by rfl) (pgs_cons (pg_name (i := 3) scLaw.nd rfl (Or.inr rfl)) (pgs_cons (pg_name (i := 4) scLaw.nd rfl (Or.inr rfl)) pgs_nil))))
        -- group = ..
        (pss_cons (ps_set (i := 5) scLaw.nd rfl (Or.inr rfl) (pe_op op_catA (pe_call GSm hr (by rfl) gSm kSm bSm .nil pass0 (pa_cons (pv 1) (pa_cons pe_int pa_nil))) (pe_tup (pa_cons (pe_tup (pa_cons pe_str (pa_cons pe_str pa_nil))) pa_nil))))
        (pss_cut (ps_if (pt_cmpR op_eq (pe_call GT hr2 (by rfl) gT kT bT .nil pass0 (pa_cons (pv 1) (pa_cons pe_int pa_nil))) pe_int (nomark _)) (pss_one (ps_set (i := 5) scLaw.nd rfl (Or.inr rfl) (pe_op op_catA (pv 5) (pv 5)))) pss_nil)
        -- one = Family(..)
        (pss_cons (ps_set (i := 6) scLaw.nd rfl (Or.inl rfl) (pe_make M GI hr3 (by rfl) X.mC bI .nil pass0 (pa_cons (pv 3) (pa_cons (pv 5) (pa_cons (pv 4) pa_nil)))))
        (pss_cons (ps_for PassesOwn.never rfl (pi_range1 (by rfl) mr (pa_cons pe_int pa_nil)) (pg_name (i := 7) scLaw.nd rfl (Or.inl rfl))
          (pss_cons (ps_set (i := 8) scLaw.nd rfl (Or.inl rfl) (pe_op op_catA (pe_op op_catA (pv 3) (pe_op op_repA (pv 5) (pv 7))) (pv 4)))
          (pss_cons (ps_if (PW.pt (pw_or (pt_cmpR (op_neD hr.units) (pe_meth (pv 6) T.cl mW GW hr2 bW .nil pass0 (pa_cons (pv 7) pa_nil)) (pv 8) (nomark _))
              (pw_or1 (pt_cmpR (op_neD hr.units) (pe_op op_catA (pe_op op_catA (pe_fld (pv 6) rfl) (pe_op op_repA (pe_fld (pv 6) rfl) (pe_op op_add (pe_op op_mul (pe_fld (pv 6) rfl) (pv 7)) (pe_fld (pv 6) rfl)))) (pe_fld (pv 6) rfl)) (pv 8) (nomark _))))) (pss_one (ps_ret pe_bl)) pss_nil)
          (pss_one (ps_if (PW.pt (pw_or (pt_cmpR op_ne (pe_meth (pv 6) T.cl mLe GLe hr2 bLe .nil pass0 (pa_cons (pv 7) pa_nil)) (pe_callB call_len_seq (by rfl) ml PySem.boot_len (pa_cons (pv 8) pa_nil)) (nomark _))
              (pw_or1 (pt_cmpR (op_neD hr.units) (pe_meth (pv 6) T.cl mO GO hr1 bO .nil pass0 (pa_cons (pe_callB call_len_seq (by rfl) ml PySem.boot_len (pa_cons (pv 8) pa_nil)) pa_nil)) (pv 8) (nomark _))))) (pss_one (ps_ret pe_bl)) pss_nil)))))
        -- core no power, left and right short
        (pss_cons (ps_if (PW.pt (pw_or (pt_val (pe_call GIP hr1 (by rfl) gIP kIP bIP .nil pass0 (pa_cons (pe_fld (pv 6) rfl) pa_nil)))
            (pw_or (pt_cmpR (op_eqD hr.units) (pe_slice sl_tupA (pe_fld (pv 6) rfl) (po_some (pe_un un_neg pe_int)) po_none) (pe_slice sl_tupA (pe_fld (pv 6) rfl) (po_some (pe_un un_neg pe_int)) po_none) (nomark _))
            (pw_or1 (pt_cmpR (op_eqD hr.units) (pe_slice sl_tupA (pe_fld (pv 6) rfl) po_none (po_some (pe_callB call_len_seq (by rfl) ml PySem.boot_len (pa_cons (pe_fld (pv 6) rfl) pa_nil)))) (pe_fld (pv 6) rfl) (nomark _)))))) (pss_one (ps_ret pe_bl)) pss_nil)
        (pss_cons (ps_if (PW.pt (pw_and (pt_cmpR op_notN (pe_meth (pv 6) T.cl mO GO hr1 bO .nil pass0 (pa_cons (pe_op op_add (pe_op op_add (pe_op op_add (pe_callB call_len_seq (by rfl) ml PySem.boot_len (pa_cons (pe_fld (pv 6) rfl) pa_nil)) (pe_callB call_len_seq (by rfl) ml PySem.boot_len (pa_cons (pe_fld (pv 6) rfl) pa_nil)))
              (pe_callB call_len_seq (by rfl) ml PySem.boot_len (pa_cons (pe_fld (pv 6) rfl) pa_nil))) pe_int) pa_nil)) pe_non (nomark _)) (pw_and1 (pt_cmpR op_gt (pe_callB call_len_seq (by rfl) ml PySem.boot_len (pa_cons (pe_fld (pv 6) rfl) pa_nil)) pe_int (nomark _))))) (pss_one (ps_ret pe_bl)) pss_nil)
        -- told = ..
        (pss_cut (ps_set (i := 9) scLaw.nd rfl (Or.inr rfl) (pe_ifExp (pt_cmpR op_gt (pe_call GT hr2 (by rfl) gT kT bT .nil pass0 (pa_cons (pv 1) (pa_cons pe_int pa_nil))) pe_int (nomark _))
            (pe_call GOt hr3 (by rfl) gOt kOt bOt .nil pass0 (pa_cons (pv 1) (pa_cons (pv 3) (pa_cons (pv 5) (pa_cons (pv 4) pa_nil))))) (pe_tup (pa_cons (pe_call GSm hr (by rfl) gSm kSm bSm .nil pass0 (pa_cons (pv 1) (pa_cons pe_int pa_nil))) (pa_cons (pv 5) (pa_cons (pv 4) pa_nil))))))
        (pss_cons (ps_set (i := 10) scLaw.nd rfl (Or.inl rfl) (pe_make M GI hr3 (by rfl) X.mC bI .nil pass0 (pa_cons (pe_ix ix_tup (pv 9) pe_int (fun _ _ => rfl)) (pa_cons (pe_ix ix_tup (pv 9) pe_int (fun _ _ => rfl)) (pa_cons (pe_ix ix_tup (pv 9) pe_int (fun _ _ => rfl)) pa_nil)))))
        (pss_cons (ps_setLc (i := 11) (own := [("_law_many", 7)]) (g := gName 7) (by rfl) scLaw.nd rfl rfl (sw_true rfl rfl rfl (by decide +kernel)) (pi_range1 (by rfl) mr (pa_cons pe_int pa_nil)) (blkOk_by (own := [("_law_many", 7)]) (N := lawN) (sc := defScope sLaw) (by decide +kernel))
            (fun _ _ _ _ _ => pg_name (i := 7) scLaw.nd rfl (Or.inl rfl))
            (fun _ _ _ _ _ => pts_one (pt_cmpR (op_neDK (K := K) hr.units) (pe_op (op_catK (K := K)) (pe_op (op_catK (K := K)) (pe_ix (ix_tupK (K := K)) (pv 9) pe_int (fun _ _ => rfl)) (pe_op (op_repK (K := K)) (pe_ix (ix_tupK (K := K)) (pv 9) pe_int (fun _ _ => rfl)) (pv 7))) (pe_ix (ix_tupK (K := K)) (pv 9) pe_int (fun _ _ => rfl)))
              (pe_op (op_catK (K := K)) (pe_op (op_catK (K := K)) (pv 3) (pe_op (op_repK (K := K)) (pv 5) (pv 7))) (pv 4)) (nomark _)))
            (fun _ _ _ _ _ => pv 7))
        (pss_cons (ps_if (PW.pt (pw_or (pt_cmpR op_ne (pe_call GSa hr2 (by rfl) gSa kSa bSa .nil pass0 (pa_cons (pv 6) (pa_cons (pv 10) pa_nil))) (pe_cmpR (op_eqD hr.units) (pv 11) (pe_lst pa_nil) (nomark _)) (nomark _))
            (pw_or1 (pt_cmpR op_ne (pe_call GUn hr3 (by rfl) gUn kUn bUn .nil pass0 (pa_cons (pv 6) (pa_cons (pv 10) pa_nil))) (pe_ifExp (pt_cmpR (op_neD hr.units) (pv 11) (pe_lst pa_nil) (nomark _)) (pe_ix ix_list (pv 11) pe_int (fun _ _ => rfl)) pe_non) (nomark _))))) (pss_one (ps_ret pe_bl)) pss_nil)
        (pss_cons (ps_set (i := 12) scLaw.nd rfl (Or.inl rfl) (pe_call GFO hr (by rfl) gFO kFO bFO .nil pass0 (pa_cons (pe_tup (pa_cons (pv 3) (pa_cons (pv 5) (pa_cons (pv 4) pa_nil)))) pa_nil)))
        (pss_one (ps_if (pt_cmpR (op_neD hr.units) (pe_tup (pa_cons (pe_fld (pv 12) rfl) (pa_cons (pe_fld (pv 12) rfl) (pa_cons (pe_fld (pv 12) rfl) (pa_cons (pe_fld (pv 12) rfl) (pa_cons (pe_fld (pv 12) rfl) pa_nil))))))
            (pe_tup (pa_cons (pe_fld (pv 6) rfl) (pa_cons (pe_fld (pv 6) rfl) (pa_cons (pe_fld (pv 6) rfl) (pa_cons (pe_fld (pv 6) rfl) (pa_cons (pe_fld (pv 6) rfl) pa_nil)))))) (nomark _)) (pss_one (ps_ret pe_bl)) pss_nil)))))))))))))))
      (pss_one (ps_ret pe_bl))), ?_⟩
    -- draw = [script, 0]
    refine ⟨.ref a, rfl, by show 2 ≤ sizeLine; decide, fun d hd => ?_⟩
    have hD0 : DrawOk K (upd H d (.lst [.ref a, .int 0])) d := ⟨a, 0, ns, upd_same, hS.kt (kt_ex (Ex.new hd))⟩
    refine qp_rng1 (n := 4) (ea_c ep_c ea_n) (by decide) (fun _ σ' H' => ∃ o2 o3 o4 o5 o6 o7 o8 o9 o10 o11 o12, σ' = [some (.ref a), some (.ref d), o2, o3, o4, o5, o6, o7, o8, o9, o10, o11, o12] ∧ DrawOk K H' d)
      (fun H1 e1 => ⟨_, _, _, _, _, _, _, _, _, _, _, rfl, draw_ex e1 hD0⟩) (fun m σ' H' hm p => ?_) (fun σ' H' p => ?_)
    · obtain ⟨o2, o3, o4, o5, o6, o7, o8, o9, o10, o11, o12, rfl, hD⟩ := p
      -- left, right
      refine ⟨.ref d, rfl, d, 5, rfl, by decide, hD, fun vl H1 l ll k1 hD1 pl1 => ?_⟩
      refine ⟨.ref d, rfl, d, 5, rfl, by decide, hD1, fun vr H2 r lr k2 hD2 pr2 => ?_⟩
      have pl2 := w_kt (kd_kt hD1 k2) pl1
      refine ⟨by show 2 ≤ sizeLine; decide, fun p hp => ?_⟩
      refine ⟨p, [vl, vr], rfl, st_of upd_same, rfl, vl, [vr], rfl, vr, [], rfl, rfl, ?_⟩
      have e3 : Ex H2 (upd H2 p (.tup [vl, vr])) := Ex.new hp
      have hD3 := draw_ex e3 hD2
      have pl3 := PP.mono _ _ _ _ e3 pl2
      have pr3 := PP.mono _ _ _ _ e3 pr2
      generalize upd H2 p (.tup [vl, vr]) = H3 at *
      -- group
      refine ⟨.ref d, rfl, d, 3, rfl, by decide, hD3, fun vg0 H4 g0 lg0 k4 hD4 pg0 => ?_⟩
      have pl4 := w_kt (kd_kt hD3 k4) pl3
      have pr4 := w_kt (kd_kt hD3 k4) pr3
      refine (ep_catW (ta := tC vg0) (u := g0) (v := [false]) (ep_cw pg0) (ep_tup (Ps := [pC K false]) (ea_c (ep_tup (Ps := [pV (.str "p"), pV (.str "a")]) (ea_c ep_c (ea_c ep_c ea_n)) (by show 2 ≤ 100000; decide)) ea_n) (by show 1 ≤ 100000; decide)) (by simp; omega)) H4 (Ex.refl H4) _ fun vg1 H5 e5 pg1 => ?_
      have hD5 := draw_ex e5 hD4
      have pl5 := PP.mono _ _ _ _ e5 pl4
      have pr5 := PP.mono _ _ _ _ e5 pr4
      refine q_cut (M := fun σ' H' => ∃ (g : List Bool) (vg : V), σ' = [some (.ref a), some (.ref d), some (.int (m : Int)), some vl, some vr, some vg, o6, o7, o8, o9, o10, o11, o12] ∧ g ≠ [] ∧ g.length ≤ 8 ∧ (pW K l).p vl H' ∧ (pW K g).p vg H' ∧ (pW K r).p vr H' ∧ DrawOk K H' d) ?_ ?_
      · refine ⟨.ref d, rfl, d, 3, by decide, rfl, hD5, fun k H6 hk k6 hD6 => ?_⟩
        have kt := kd_kt hD5 k6
        have pl6 := w_kt kt pl5
        have pr6 := w_kt kt pr5
        have pg6 := w_kt kt pg1
        refine ⟨rfl, _, rfl, ite2 (fun _ => ?_) (fun _ => ?_)⟩
        · refine sp_asg (ep_catW (ep_var pg6 rfl) (ep_var pg6 rfl) (by simp; omega)) fun z H7 e7 pz => ?_
          exact ⟨_, z, rfl, by simp, by simp; omega, PP.mono _ _ _ _ e7 pl6, pz, PP.mono _ _ _ _ e7 pr6, draw_ex e7 hD6⟩
        · exact ⟨_, vg1, rfl, by simp, by simp; omega, pl6, pg6, pr6, hD6⟩
      · rintro σ' H7 ⟨g, vg, rfl, hg, lg, pl7, pg7, pr7, hD7⟩
        -- one = Family(left, group, right)
        refine qp_asg (ep_make (ea_c (ep_var pl7 rfl) (ea_c (ep_var pg7 rfl) (ea_c (ep_var pr7 rfl) ea_n))) hg (by omega) (by omega) (by omega)) fun v1 H8 e8 p1 => ?_
        have pl8 := PP.mono _ _ _ _ e8 pl7
        have pg8 := PP.mono _ _ _ _ e8 pg7
        have pr8 := PP.mono _ _ _ _ e8 pr7
        have hD8 := draw_ex e8 hD7
        have zF : Sz (fam l g r) := sz_fam hg (by omega) (by omega) (by omega)
        have wF := fam_word l g r hg
        have pF' := fam_prim l g r hg
        have lF := fam_left l g r hg
        have rF := fam_right l g r hg
        obtain ⟨F, hF⟩ : ∃ F, F = fam l g r := ⟨_, rfl⟩
        rw [← hF] at p1 zF wF pF' lF rF
        have hcl := zF.c
        have hll := zF.l
        have hrl := zF.r
        refine qp_rng1 (n := 6) (ea_c ep_c ea_n) (by decide) (fun _ σ' H' => ∃ o7 o8, σ' = [some (.ref a), some (.ref d), some (.int (m : Int)), some vl, some vr, some vg, some v1, o7, o8, o9, o10, o11, o12] ∧ Ex H8 H')
          (fun H9 e9 => ⟨_, _, rfl, e9⟩) (fun n σ' H9 hn p => ?_) (fun σ' H9 p => ?_)
        · obtain ⟨u7, u8, rfl, e9⟩ := p
          have hw := word_le (l := l) (g := g) (r := r) (n := n) (by omega) (by omega) (by omega) (by omega)
          have p1' := PP.mono _ _ _ _ e9 p1
          refine qp_asg (ep_catW (ep_catW (ep_var (PP.mono _ _ _ _ e9 pl8) rfl) (ep_mulW (ep_var (PP.mono _ _ _ _ e9 pg8) rfl) (ep_vv rfl) hg (by omega) (by omega)) (by omega)) (ep_var (PP.mono _ _ _ _ e9 pr8) rfl) (by simp; omega)) fun vw H10 e10 pw0 => ?_
          have pw : (pW K (F.word n)).p vw H10 := by
            rw [wF n]
            exact pw0
          have lw : (F.word n).length ≤ 1000 := by
            rw [wF n]
            simp
            omega
          have p10 := PP.mono _ _ _ _ e10 p1'
          have wl := word_len F n
          have hrn := sz_rounds zF (n := n) (by omega)
          have hrl2 : F.rounds n * F.core.length ≤ 1000 * 40 := Nat.mul_le_mul hrn hcl
          have hrl3 := rep_len (F.rounds n) F.core
          refine q_when (b := false) (et_is (et_or (a := !decide (F.word n = F.word n)) (b := !decide (F.word n = F.word n)) (et_t (ep_neW (ep_meth (S := pW K (F.word n)) (ep_var p10 rfl) (ea_c (ep_vv rfl) ea_n) (by decide +kernel) (by decide +kernel) (by decide +kernel) (by decide +kernel) (by decide +kernel) fun vs H1 Q1 e1 sp => ⟨F, n, zF, by omega, sp⟩) (ep_var pw rfl)))
            (fun _ => et_t (ep_neW (ep_catW (ep_catW (ep_left T (ep_var p10 rfl)) (ep_mulW (ep_core T (ep_var p10 rfl)) (ep_add (ep_mul (ep_rate T (ep_var p10 rfl)) (ep_vv rfl) (by have := zF.n; omega)) (ep_more T (ep_var p10 rfl))) zF.ne hrn (by omega)) (by
                show F.left.length + (rep (F.rounds n) F.core).length ≤ 100000
                omega)) (ep_right T (ep_var p10 rfl)) (by
                show (F.left ++ rep (F.rounds n) F.core).length + F.right.length ≤ 100000
                rw [List.length_append]
                omega)) (ep_var pw rfl)))) (by rw [decide_eq_true rfl]; rfl)) (fun hb => by cases hb) (fun _ H11 e11 => ?_)
          have p11 := PP.mono _ _ _ _ e11 p10
          have pw11 := PP.mono _ _ _ _ e11 pw
          refine s_when (b := false) (et_is (et_or (a := !decide ((F.word n).length = (F.word n).length)) (b := !decide (F.word n = F.word n)) (et_t (ep_neN (ep_meth (S := pN (F.word n).length) (ep_var p11 rfl) (ea_c (ep_vv rfl) ea_n) (by decide +kernel) (by decide +kernel) (by decide +kernel) (by decide +kernel) (by decide +kernel) fun vs H1 Q1 e1 sp => ⟨F, n, zF, by omega, sp⟩) (ep_lenW (ep_var pw11 rfl))))
            (fun _ => et_t (ep_neW ((ep_meth (S := pO K (ofLen F (F.word n).length)) (ep_var p11 rfl) (ea_c (ep_lenW (ep_var pw11 rfl)) ea_n) (by decide +kernel) (by decide +kernel) (by decide +kernel) (by decide +kernel) (by decide +kernel) fun vs H1 Q1 e1 sp => ⟨F, (F.word n).length, zF, lw, by omega, sp⟩).is (by rw [ofLen_word zF]; rfl)) (ep_var pw11 rfl)))) (by rw [decide_eq_true rfl, decide_eq_true rfl]; rfl)) (fun hb => by cases hb) (fun _ H12 e12 => ?_)
          exact ⟨_, _, rfl, ((e9.trans e10).trans e11).trans e12⟩
        · obtain ⟨u7, u8, rfl, e9⟩ := p
          have p19 := PP.mono _ _ _ _ e9 p1
          -- the least form
          refine q_when (b := false) (et_is (et_or (a := false) (b := decide (lastW F.left = lastW F.core) || decide (F.right.take F.core.length = F.core)) (et_b (ep_call (S := pV (.bl false)) (ea_c (ep_core T (ep_var p19 rfl)) ea_n) fun vs H1 Q1 e1 sp => ⟨F.core, zF.ne, by omega, pF', sp⟩))
            (fun _ => et_or (et_t (ep_eqW (ep_slW (ep_left T (ep_var p19 rfl)) (eo_s ep_m1) eo_none (cut_last _)) (ep_slW (ep_core T (ep_var p19 rfl)) (eo_s ep_m1) eo_none (cut_last _))))
              (fun _ => et_t (ep_eqW (ep_slW (ep_right T (ep_var p19 rfl)) eo_none (eo_s (ep_lenW (ep_core T (ep_var p19 rfl)))) (cut_to _ _)) (ep_core T (ep_var p19 rfl))))))
            (by rw [decide_eq_false (last_ne zF.ne lF), decide_eq_false rF]; rfl)) (fun hb => by cases hb) (fun _ H10 e10 => ?_)
          have p110 := PP.mono _ _ _ _ e10 p19
          refine q_when (b := false) (et_is (et_and (a := (ofLen F (F.left.length + F.right.length + F.core.length + 1)).isSome) (b := decide (1 < F.core.length)) (et_t (ep_notN (ep_meth (S := pO K (ofLen F (F.left.length + F.right.length + F.core.length + 1))) (ep_var p110 rfl)
              (ea_c (ep_add (j := 1) (ep_add (ep_add (ep_lenW (ep_left T (ep_var p110 rfl))) (ep_lenW (ep_right T (ep_var p110 rfl)))) (ep_lenW (ep_core T (ep_var p110 rfl)))) ep_c) ea_n) (by decide +kernel) (by decide +kernel) (by decide +kernel) (by decide +kernel) (by decide +kernel) fun vs H1 Q1 e1 sp => ⟨F, _, zF, by omega, by omega, sp⟩)))
            (fun _ => et_t (ep_gtN (j := 1) (ep_lenW (ep_core T (ep_var p110 rfl))) ep_c)))
            (by
              by_cases h : 1 < F.core.length
              · rw [ofLen_no zF h]
                rfl
              · rw [decide_eq_false h, Bool.and_false])) (fun hb => by cases hb) (fun _ H11 e11 => ?_)
          have e811 := (e9.trans e10).trans e11
          have p111 := PP.mono _ _ _ _ e11 p110
          have pl11 := PP.mono _ _ _ _ e811 pl8
          have pg11 := PP.mono _ _ _ _ e811 pg8
          have pr11 := PP.mono _ _ _ _ e811 pr8
          have hD11 := draw_ex e811 hD8
          -- told
          refine q_cut (M := fun σ' H' => ∃ (l2 g2 r2 : List Bool) (vt : V), σ' = [some (.ref a), some (.ref d), some (.int (m : Int)), some vl, some vr, some vg, some v1, u7, u8, some vt, o10, o11, o12] ∧ Near l g r l2 g2 r2 ∧ g2 ≠ [] ∧ l2.length ≤ 13 ∧ g2.length ≤ 16 ∧ r2.length ≤ 13 ∧
              (pW K l).p vl H' ∧ (pW K g).p vg H' ∧ (pW K r).p vr H' ∧ (pF K C F).p v1 H' ∧ (pTup K [pW K l2, pW K g2, pW K r2]).p vt H' ∧ DrawOk K H' d) ?_ ?_
          · refine ⟨.ref d, rfl, d, 3, by decide, rfl, hD11, fun k H12 hk k12 hD12 => ?_⟩
            have kt := kd_kt hD11 k12
            have pl12 := w_kt kt pl11
            have pg12 := w_kt kt pg11
            have pr12 := w_kt kt pr11
            have p112 := f_kd hD11 k12 p111
            refine ⟨(k : Int), 0, rfl, rfl, _, rfl, ite2 (fun _ => ?_) (fun _ => ?_)⟩
            · refine ⟨.ref d, rfl, vl, rfl, vg, rfl, vr, rfl, d, l, g, r, [vl, vg, vr], hg, ll, lg, lr, rfl, ⟨pl12, pg12, pr12, True.intro⟩, hD12, fun vt H13 l2 g2 r2 near hg2 b1 b2 b3 k13 hD13 pt => ?_⟩
              have kt3 := kd_kt hD12 k13
              exact ⟨l2, g2, r2, vt, rfl, near, hg2, b1, b2, b3, w_kt kt3 pl12, w_kt kt3 pg12, w_kt kt3 pr12, f_kd hD12 k13 p112, pt, hD13⟩
            · refine ⟨.ref d, rfl, d, 3, rfl, by decide, hD12, fun vl2 H13 l2 ll2 k13 hD13 pl2 => ⟨vg, rfl, vr, rfl, by show 3 ≤ sizeLine; decide, fun p hp => ?_⟩⟩
              have kt3 := kd_kt hD12 k13
              have e14 : Ex H13 (upd H13 p (.tup [vl2, vg, vr])) := Ex.new hp
              have pg13 := w_kt kt3 pg12
              have pr13 := w_kt kt3 pr12
              exact ⟨l2, g, r, .ref p, rfl, near_left, hg, by omega, by omega, by omega, PP.mono _ _ _ _ e14 (w_kt kt3 pl12), PP.mono _ _ _ _ e14 pg13, PP.mono _ _ _ _ e14 pr13, PP.mono _ _ _ _ e14 (f_kd hD12 k13 p112),
                ⟨p, _, rfl, st_of upd_same, PP.mono _ _ _ _ e14 pl2, PP.mono _ _ _ _ e14 pg13, PP.mono _ _ _ _ e14 pr13, True.intro⟩, draw_ex e14 hD13⟩
          · rintro σ' H12 ⟨l2, g2, r2, vt, rfl, near, hg2, b1, b2, b3, pl12, pg12, pr12, p112, pt12, hD12⟩
            -- two = Family(told[0], told[1], told[2])
            refine qp_asg (ep_make (ea_c (ep_ix (j := 0) (ep_var pt12 rfl) ep_c rfl) (ea_c (ep_ix (j := 1) (ep_var pt12 rfl) ep_c rfl) (ea_c (ep_ix (j := 2) (ep_var pt12 rfl) ep_c rfl) ea_n))) hg2 (by omega) (by omega) (by omega)) fun v2 H13 e13 p2 => ?_
            have pl13 := PP.mono _ _ _ _ e13 pl12
            have pg13 := PP.mono _ _ _ _ e13 pg12
            have pr13 := PP.mono _ _ _ _ e13 pr12
            have p113 := PP.mono _ _ _ _ e13 p112
            have pt13 := PP.mono _ _ _ _ e13 pt12
            have zG : Sz (fam l2 g2 r2) := sz_fam hg2 (by omega) (by omega) (by omega)
            obtain ⟨us1, us2⟩ := unl_same hg hg2 near
            rw [← hF] at us1 us2
            obtain ⟨G, hG⟩ : ∃ G, G = fam l2 g2 r2 := ⟨_, rfl⟩
            rw [← hG] at p2 zG us1 us2
            -- unlike = [..]
            refine q_asgL (el_lcR1 (unl l g r l2 g2 r2) (fun i => .int (i : Int)) (ea1 (n := .int 13) (ea_c ep_c ea_n)) ⟨by decide, by decide⟩ (fun x => rfl) (fun i H1 e1 hi => ?_) (fun i H1 e1 hi hf => ev_var rfl)) fun pu H14 hn e14 hu => ?_
            · have hw := word_le (l := l) (g := g) (r := r) (n := i) (by omega) (by omega) (by omega) (by omega)
              have hw2 := word_le (l := l2) (g := g2) (r := r2) (n := i) (by omega) (by omega) (by omega) (by omega)
              have qt := PP.mono _ _ _ _ e1 pt13
              exact et_t (ep_neW (ep_catW (ep_catW (ep_ix (j := 0) (ep_var qt rfl) ep_c rfl) (ep_mulW (ep_ix (j := 1) (ep_var qt rfl) ep_c rfl) (ep_vv rfl) hg2 (by omega) (by omega)) (by omega)) (ep_ix (j := 2) (ep_var qt rfl) ep_c rfl) (by simp; omega))
                (ep_catW (ep_catW (ep_var (PP.mono _ _ _ _ e1 pl13) rfl) (ep_mulW (ep_var (PP.mono _ _ _ _ e1 pg13) rfl) (ep_vv rfl) hg (by omega) (by omega)) (by omega)) (ep_var (PP.mono _ _ _ _ e1 pr13) rfl) (by simp; omega)))
            · have hu' : SqL K H14 pu ((((List.range 13).filter (unl l g r l2 g2 r2)).map fun i : Nat => (i : Int)).map V.int) := by
                rw [List.map_map]
                exact sq_of hu
              generalize (List.range 13).filter (unl l g r l2 g2 r2) = us at us1 us2 hu'
              have en : decide ((us.map fun i : Nat => (i : Int)) = []) = decide (us = []) := by
                cases us <;> simp
              have p114 := PP.mono _ _ _ _ e14 p113
              have p214 := PP.mono _ _ _ _ e14 p2
              refine q_when (b := false) (et_is (et_or (a := !decide (V.bl (sameB F G) = V.bl (decide ((us.map fun i : Nat => (i : Int)) = [])))) (b := false) (et_t (ep_neS (ep_call (S := pV (.bl (sameB F G))) (ea_c (ep_var p114 rfl) (ea_c (ep_var p214 rfl) ea_n)) fun vs H1 Q1 e1 sp => ⟨F, G, sp⟩) (ep_isNil (ep_ints hu' (ep_vv rfl))) rfl))
                (fun _ => et_t (ep_neI (o := us.head?) (ep_call (S := pI us.head?) (ea_c (ep_var p114 rfl) (ea_c (ep_var p214 rfl) ea_n)) fun vs H1 Q1 e1 sp => ⟨F, G, _, zF, zG, us2, sp⟩)
                  (ep_if (et_t (ep_notNil (ep_ints hu' (ep_vv rfl)))) (fun hb => ?_) (fun hb => ?_))))) ?_) (fun hb => by cases hb) (fun _ H15 e15 => ?_)
              · rw [en] at hb
                cases us with
                | nil => simp at hb
                | cons u t => exact ep_ixL (j := 0) hu' (ep_vv rfl) ep_c rfl
              · rw [en] at hb
                cases us with
                | nil => exact ep_c (v := .non)
                | cons u t => simp at hb
              · rw [en, us1, decide_eq_true rfl]
                rfl
              · have e1215 := (e13.trans e14).trans e15
                -- row = family_of((left, group, right))
                have p115 := PP.mono _ _ _ _ e15 p114
                refine qp_asg (ep_call (S := pF K C (fam l g r)) (ea_c (ep_tup (Ps := [pW K l, pW K g, pW K r]) (ea_c (ep_var (PP.mono _ _ _ _ e1215 pl12) rfl) (ea_c (ep_var (PP.mono _ _ _ _ e1215 pg12) rfl) (ea_c (ep_var (PP.mono _ _ _ _ e1215 pr12) rfl) ea_n))) (by show 3 ≤ 100000; decide)) ea_n) fun vs H1 Q1 e1 sp => ⟨l, g, r, hg, by omega, by omega, by omega, sp⟩) fun v3 H16 e16 p3 => ?_
                rw [← hF] at p3
                have p116 := PP.mono _ _ _ _ e16 p115
                refine s_when (b := false) (et_is (et_t (ep_neD (d := fiveD F) (e := fiveD F) ((ep_tup (ea_c (ep_left T (ep_var p3 rfl)) (ea_c (ep_core T (ep_var p3 rfl)) (ea_c (ep_right T (ep_var p3 rfl)) (ea_c (ep_rate T (ep_var p3 rfl)) (ea_c (ep_more T (ep_var p3 rfl)) ea_n))))) (by show 5 ≤ 100000; decide)).as fun _ _ _ p => five_dp p)
                  ((ep_tup (ea_c (ep_left T (ep_var p116 rfl)) (ea_c (ep_core T (ep_var p116 rfl)) (ea_c (ep_right T (ep_var p116 rfl)) (ea_c (ep_rate T (ep_var p116 rfl)) (ea_c (ep_more T (ep_var p116 rfl)) ea_n))))) (by show 5 ≤ 100000; decide)).as fun _ _ _ p => five_dp p) (shaped_five F) (shaped_five F)))
                  (by rw [eqv_five]; rfl)) (fun hb => by cases hb) (fun _ H17 e17 => ?_)
                exact ⟨_, _, _, _, _, _, _, _, _, _, _, rfl, draw_ex ((e1215.trans e16).trans e17) hD12⟩
    · exact sp_ret (ep_c (v := .bl true)) fun z H3 e3 pz => by
        obtain rfl : z = _ := pz
        exact q H3
end
end KD

/-! What the top has written, the head, the theorem (printed by mkend.py). -/
namespace KD
open PySem L2 Evl KW K11
theorem sqf_of {K : PySem.W.Frag} {H : Hp} {a : Addr} {xs : List V} (hO : Only H) (h : SqL K H a xs) : SqF K H a xs := by
  rcases h with (h | ⟨o, h⟩) | h
  · rcases hO a with z | ⟨o, ys, z⟩
    · rw [z] at h
      cases h
    · rw [z] at h
      cases h
  · exact .inl ⟨o, h⟩
  · exact .inr h
set_option maxHeartbeats 8000000 in
theorem all_mk {l : PySem.W.OpenLaw} {w : World} {K : PySem.W.Frag} {h : Heap} {mg : Str → Option Value} {fa C f1 f2 f3 f4 f5 f6 f7 f8 f9 f10 f11 f12 f13 f14 f15 f16 f17 : Addr} (X : K.In h) (G : h.Ns mainGlobals mg) (hfa : mg "law" = some (.ref fa))
    {od1 an1 od2 an2 od3 an3 od4 an4 od5 an5 od6 an6 od7 an7 od8 an8 od9 an9 od10 an10 od11 an11 od12 an12 od13 an13 od14 an14 od15 an15 od16 an16 od17 an17 : Option Addr} {sl1 sl2 sl3 sl4 sl5 sl6 sl7 sl8 sl9 sl10 sl11 sl12 sl13 sl14 sl15 sl16 sl17 : Array (Option Value)} {oc1 kV1 dc1 pm1 cd1 ct1 oc2 kV2 dc2 pm2 cd2 ct2 oc3 kV3 dc3 pm3 cd3 ct3 oc4 kV4 dc4 pm4 cd4 ct4 oc5 kV5 dc5 pm5 cd5 ct5 oc6 kV6 dc6 pm6 cd6 ct6 oc7 kV7 dc7 pm7 cd7 ct7 oc8 kV8 dc8 pm8 cd8 ct8 oc9 kV9 dc9 pm9 cd9 ct9 oc10 kV10 dc10 pm10 cd10 ct10 oc11 kV11 dc11 pm11 cd11 ct11 oc12 kV12 dc12 pm12 cd12 ct12 oc13 kV13 dc13 pm13 cd13 ct13 oc14 kV14 dc14 pm14 cd14 ct14 oc15 kV15 dc15 pm15 cd15 ct15 oc16 kV16 dc16 pm16 cd16 ct16 oc17 kV17 dc17 pm17 cd17 ct17 : Value}
    (aC : PySem.W.nsIn K mainGlobals "Family" = some (some (.ref C)))
    (a1 : PySem.W.findIn K (.ref C) "__init__" = some (some (.ref f1))) (i1 : PySem.W.isFn K (.ref f1) = true) (l1 : K.lookup f1 = some ⟨oc1, od1, .func (PySem.W.fnOf "__init__" "Family.__init__" (defArgs sInit) (defBody sInit) (defScope sInit) .none kV1 dc1 pm1 an1 cd1 ct1), sl1⟩) (c1 : PySem.W.codeIn K cd1 "Family.__init__" = true) (k1 : PySem.W.keepIn K (.ref f1) = true)
    (a2 : PySem.W.findIn K (.ref C) "told" = some (some (.ref f2))) (i2 : PySem.W.isFn K (.ref f2) = true) (l2 : K.lookup f2 = some ⟨oc2, od2, .func (PySem.W.fnOf "told" "Family.told" (defArgs sTold) (defBody sTold) (defScope sTold) .none kV2 dc2 pm2 an2 cd2 ct2), sl2⟩) (c2 : PySem.W.codeIn K cd2 "Family.told" = true) (k2 : PySem.W.keepIn K (.ref f2) = true)
    (a3 : PySem.W.findIn K (.ref C) "rounds" = some (some (.ref f3))) (i3 : PySem.W.isFn K (.ref f3) = true) (l3 : K.lookup f3 = some ⟨oc3, od3, .func (PySem.W.fnOf "rounds" "Family.rounds" (defArgs sRnds) (defBody sRnds) (defScope sRnds) .none kV3 dc3 pm3 an3 cd3 ct3), sl3⟩) (c3 : PySem.W.codeIn K cd3 "Family.rounds" = true) (k3 : PySem.W.keepIn K (.ref f3) = true)
    (a4 : PySem.W.findIn K (.ref C) "word" = some (some (.ref f4))) (i4 : PySem.W.isFn K (.ref f4) = true) (l4 : K.lookup f4 = some ⟨oc4, od4, .func (PySem.W.fnOf "word" "Family.word" (defArgs sWord) (defBody sWord) (defScope sWord) .none kV4 dc4 pm4 an4 cd4 ct4), sl4⟩) (c4 : PySem.W.codeIn K cd4 "Family.word" = true) (k4 : PySem.W.keepIn K (.ref f4) = true)
    (a5 : PySem.W.findIn K (.ref C) "length" = some (some (.ref f5))) (i5 : PySem.W.isFn K (.ref f5) = true) (l5 : K.lookup f5 = some ⟨oc5, od5, .func (PySem.W.fnOf "length" "Family.length" (defArgs sLeng) (defBody sLeng) (defScope sLeng) .none kV5 dc5 pm5 an5 cd5 ct5), sl5⟩) (c5 : PySem.W.codeIn K cd5 "Family.length" = true) (k5 : PySem.W.keepIn K (.ref f5) = true)
    (a6 : PySem.W.findIn K (.ref C) "of_length" = some (some (.ref f6))) (i6 : PySem.W.isFn K (.ref f6) = true) (l6 : K.lookup f6 = some ⟨oc6, od6, .func (PySem.W.fnOf "of_length" "Family.of_length" (defArgs sOfLn) (defBody sOfLn) (defScope sOfLn) .none kV6 dc6 pm6 an6 cd6 ct6), sl6⟩) (c6 : PySem.W.codeIn K cd6 "Family.of_length" = true) (k6 : PySem.W.keepIn K (.ref f6) = true)
    (a7 : PySem.W.nsIn K mainGlobals "root_of" = some (some (.ref f7))) (l7 : K.lookup f7 = some ⟨oc7, od7, .func (PySem.W.fnOf "root_of" "root_of" (defArgs sRoot) (defBody sRoot) (defScope sRoot) .none kV7 dc7 pm7 an7 cd7 ct7), sl7⟩) (c7 : PySem.W.codeIn K cd7 "root_of" = true) (k7 : PySem.W.keepIn K (.ref f7) = true)
    (a8 : PySem.W.nsIn K mainGlobals "family_of" = some (some (.ref f8))) (l8 : K.lookup f8 = some ⟨oc8, od8, .func (PySem.W.fnOf "family_of" "family_of" (defArgs sFamO) (defBody sFamO) (defScope sFamO) .none kV8 dc8 pm8 an8 cd8 ct8), sl8⟩) (c8 : PySem.W.codeIn K cd8 "family_of" = true) (k8 : PySem.W.keepIn K (.ref f8) = true)
    (a9 : PySem.W.nsIn K mainGlobals "same_family" = some (some (.ref f9))) (l9 : K.lookup f9 = some ⟨oc9, od9, .func (PySem.W.fnOf "same_family" "same_family" (defArgs sSame) (defBody sSame) (defScope sSame) .none kV9 dc9 pm9 an9 cd9 ct9), sl9⟩) (c9 : PySem.W.codeIn K cd9 "same_family" = true) (k9 : PySem.W.keepIn K (.ref f9) = true)
    (a10 : PySem.W.nsIn K mainGlobals "first_unlike" = some (some (.ref f10))) (l10 : K.lookup f10 = some ⟨oc10, od10, .func (PySem.W.fnOf "first_unlike" "first_unlike" (defArgs sUnli) (defBody sUnli) (defScope sUnli) .none kV10 dc10 pm10 an10 cd10 ct10), sl10⟩) (c10 : PySem.W.codeIn K cd10 "first_unlike" = true) (k10 : PySem.W.keepIn K (.ref f10) = true)
    (a11 : PySem.W.nsIn K mainGlobals "_law_number" = some (some (.ref f11))) (l11 : K.lookup f11 = some ⟨oc11, od11, .func (PySem.W.fnOf "_law_number" "_law_number" (defArgs sNumb) (defBody sNumb) (defScope sNumb) .none kV11 dc11 pm11 an11 cd11 ct11), sl11⟩) (c11 : PySem.W.codeIn K cd11 "_law_number" = true) (k11 : PySem.W.keepIn K (.ref f11) = true)
    (a12 : PySem.W.nsIn K mainGlobals "_law_take" = some (some (.ref f12))) (l12 : K.lookup f12 = some ⟨oc12, od12, .func (PySem.W.fnOf "_law_take" "_law_take" (defArgs sTake) (defBody sTake) (defScope sTake) .none kV12 dc12 pm12 an12 cd12 ct12), sl12⟩) (c12 : PySem.W.codeIn K cd12 "_law_take" = true) (k12 : PySem.W.keepIn K (.ref f12) = true)
    (a13 : PySem.W.nsIn K mainGlobals "_law_pick" = some (some (.ref f13))) (l13 : K.lookup f13 = some ⟨oc13, od13, .func (PySem.W.fnOf "_law_pick" "_law_pick" (defArgs sPick) (defBody sPick) (defScope sPick) .none kV13 dc13 pm13 an13 cd13 ct13), sl13⟩) (c13 : PySem.W.codeIn K cd13 "_law_pick" = true) (k13 : PySem.W.keepIn K (.ref f13) = true)
    (a14 : PySem.W.nsIn K mainGlobals "_law_small_word" = some (some (.ref f14))) (l14 : K.lookup f14 = some ⟨oc14, od14, .func (PySem.W.fnOf "_law_small_word" "_law_small_word" (defArgs sSmal) (defBody sSmal) (defScope sSmal) .none kV14 dc14 pm14 an14 cd14 ct14), sl14⟩) (c14 : PySem.W.codeIn K cd14 "_law_small_word" = true) (k14 : PySem.W.keepIn K (.ref f14) = true)
    (a15 : PySem.W.nsIn K mainGlobals "_law_is_power" = some (some (.ref f15))) (l15 : K.lookup f15 = some ⟨oc15, od15, .func (PySem.W.fnOf "_law_is_power" "_law_is_power" (defArgs sIsPo) (defBody sIsPo) (defScope sIsPo) .none kV15 dc15 pm15 an15 cd15 ct15), sl15⟩) (c15 : PySem.W.codeIn K cd15 "_law_is_power" = true) (k15 : PySem.W.keepIn K (.ref f15) = true)
    (a16 : PySem.W.nsIn K mainGlobals "_law_other" = some (some (.ref f16))) (l16 : K.lookup f16 = some ⟨oc16, od16, .func (PySem.W.fnOf "_law_other" "_law_other" (defArgs sOthe) (defBody sOthe) (defScope sOthe) .none kV16 dc16 pm16 an16 cd16 ct16), sl16⟩) (c16 : PySem.W.codeIn K cd16 "_law_other" = true) (k16 : PySem.W.keepIn K (.ref f16) = true)
    (a17 : PySem.W.nsIn K mainGlobals "law" = some (some (.ref f17))) (l17 : K.lookup f17 = some ⟨oc17, od17, .func (PySem.W.fnOf "law" "law" (defArgs sLaw) (defBody sLaw) (defScope sLaw) .none kV17 dc17 pm17 an17 cd17 ct17), sl17⟩) (c17 : PySem.W.codeIn K cd17 "law" = true) (k17 : PySem.W.keepIn K (.ref f17) = true)
    (pg : PySem.W.plainGet K C Str.empty = true) (hd : PySem.W.hasDictIn K C = true) (po : PySem.W.plainOver K C = true) (sa : PySem.W.findIn K (.ref C) "__setattr__" = some (some (.builtin "object.__setattr__"))) (mk : PySem.W.makesIn K C = true) (kc : PySem.W.keepIn K (.ref C) = true)
    (nL : PySem.W.findIn K (.ref C) "left" = some none) (nC : PySem.W.findIn K (.ref C) "core" = some none) (nR : PySem.W.findIn K (.ref C) "right" = some none) (nN : PySem.W.findIn K (.ref C) "rate" = some none) (nM : PySem.W.findIn K (.ref C) "more" = some none)
    (zlen : PySem.W.nsIn K mainGlobals "len" = some none) (zrange : PySem.W.nsIn K mainGlobals "range" = some none) (zint : PySem.W.nsIn K mainGlobals "int" = some none) (zabs : PySem.W.nsIn K mainGlobals "abs" = some none) (ztuple : PySem.W.nsIn K mainGlobals "tuple" = some none)
    : ∃ fd : FuncData, (∀ (s : Shared) (v : Value), BindsTo s fd ⟨[v], []⟩ [("_law_script", v)]) ∧ ∀ base : Heap, K.In base → base.Ns mainGlobals mg → FnOk l.prog w K mg base CX0 5 fa fd ["_law_script"] (spLaw K) := by
  have e := hfa.symm.trans (PySem.W.mg_of X G a17)
  cases e
  have T : FT K C := ⟨⟨pg, hd, po, sa⟩, nL, nC, nR, nN, nM⟩
  have F1 := fun_mk (st := sInit) l1 c1 k1
  have F2 := fun_mk (st := sTold) l2 c2 k2
  have F3 := fun_mk (st := sRnds) l3 c3 k3
  have F4 := fun_mk (st := sWord) l4 c4 k4
  have F5 := fun_mk (st := sLeng) l5 c5 k5
  have F6 := fun_mk (st := sOfLn) l6 c6 k6
  have F7 := fun_mk (st := sRoot) l7 c7 k7
  have F8 := fun_mk (st := sFamO) l8 c8 k8
  have F9 := fun_mk (st := sSame) l9 c9 k9
  have F10 := fun_mk (st := sUnli) l10 c10 k10
  have F11 := fun_mk (st := sNumb) l11 c11 k11
  have F12 := fun_mk (st := sTake) l12 c12 k12
  have F13 := fun_mk (st := sPick) l13 c13 k13
  have F14 := fun_mk (st := sSmal) l14 c14 k14
  have F15 := fun_mk (st := sIsPo) l15 c15 k15
  have F16 := fun_mk (st := sOthe) l16 c16 k16
  have F17 := fun_mk (st := sLaw) l17 c17 k17
  have b1 := F1.binds (ps := ["self", "left", "group", "right"]) fun _ _ _ _ _ _ us hl => match us, hl with | [_, _, _, _], _ => rfl
  have b2 := F2.binds (ps := ["self"]) fun _ _ _ _ _ _ us hl => match us, hl with | [_], _ => rfl
  have b3 := F3.binds (ps := ["self", "turns"]) fun _ _ _ _ _ _ us hl => match us, hl with | [_, _], _ => rfl
  have b4 := F4.binds (ps := ["self", "turns"]) fun _ _ _ _ _ _ us hl => match us, hl with | [_, _], _ => rfl
  have b5 := F5.binds (ps := ["self", "turns"]) fun _ _ _ _ _ _ us hl => match us, hl with | [_, _], _ => rfl
  have b6 := F6.binds (ps := ["self", "many"]) fun _ _ _ _ _ _ us hl => match us, hl with | [_, _], _ => rfl
  have b7 := F7.binds (ps := ["word"]) fun _ _ _ _ _ _ us hl => match us, hl with | [_], _ => rfl
  have b8 := F8.binds (ps := ["row"]) fun _ _ _ _ _ _ us hl => match us, hl with | [_], _ => rfl
  have b9 := F9.binds (ps := ["one", "two"]) fun _ _ _ _ _ _ us hl => match us, hl with | [_, _], _ => rfl
  have b10 := F10.binds (ps := ["one", "two"]) fun _ _ _ _ _ _ us hl => match us, hl with | [_, _], _ => rfl
  have b11 := F11.binds (ps := ["_law_script", "_law_index"]) fun _ _ _ _ _ _ us hl => match us, hl with | [_, _], _ => rfl
  have b12 := F12.binds (ps := ["_law_draw", "_law_many"]) fun _ _ _ _ _ _ us hl => match us, hl with | [_, _], _ => rfl
  have b13 := F13.binds (ps := ["_law_draw", "_law_items"]) fun _ _ _ _ _ _ us hl => match us, hl with | [_, _], _ => rfl
  have b14 := F14.binds (ps := ["_law_draw", "_law_many"]) fun _ _ _ _ _ _ us hl => match us, hl with | [_, _], _ => rfl
  have b15 := F15.binds (ps := ["_law_word"]) fun _ _ _ _ _ _ us hl => match us, hl with | [_], _ => rfl
  have b16 := F16.binds (ps := ["_law_draw", "_law_left", "_law_group", "_law_right"]) fun _ _ _ _ _ _ us hl => match us, hl with | [_, _, _, _], _ => rfl
  have mlen := PySem.W.mg_none_of X G zlen
  have mrange := PySem.W.mg_none_of X G zrange
  have mint := PySem.W.mg_none_of X G zint
  have mabs := PySem.W.mg_none_of X G zabs
  have mtuple := PySem.W.mg_none_of X G ztuple
  have g7 := PySem.W.mg_of X G a7
  have g8 := PySem.W.mg_of X G a8
  have g9 := PySem.W.mg_of X G a9
  have g10 := PySem.W.mg_of X G a10
  have g11 := PySem.W.mg_of X G a11
  have g12 := PySem.W.mg_of X G a12
  have g13 := PySem.W.mg_of X G a13
  have g14 := PySem.W.mg_of X G a14
  have g15 := PySem.W.mg_of X G a15
  have g16 := PySem.W.mg_of X G a16
  have g17 := PySem.W.mg_of X G a17
  have gC := PySem.W.mg_of X G aC
  refine ⟨PySem.W.fnOf "law" "law" (defArgs sLaw) (defBody sLaw) (defScope sLaw) .none kV17 dc17 pm17 an17 cd17 ct17, fun s v => .of_eq rfl, fun base _ _ => ?_⟩
  have GRoot : FnOk l.prog w K mg base CX0 1 f7 _ ["word"] (spRoot K) := ok_root F7 mrange mlen
  have GInit : FnOk l.prog w K mg base CX0 2 f1 _ ["self", "left", "group", "right"] (spInit K C) := ok_init F1 T F7 GRoot b7 g7 mlen
  have GTold : FnOk l.prog w K mg base CX0 1 f2 _ ["self"] (spTold K C) := ok_told F2 T
  have GRnds : FnOk l.prog w K mg base CX0 1 f3 _ ["self", "turns"] (spRnds K C) := ok_rnds F3 T
  have GWord : FnOk l.prog w K mg base CX0 2 f4 _ ["self", "turns"] (spWord K C) := ok_word F4 T GRnds b3 ⟨a3, i3, k3⟩
  have GLeng : FnOk l.prog w K mg base CX0 2 f5 _ ["self", "turns"] (spLeng K C) := ok_leng F5 T mlen GRnds b3 ⟨a3, i3, k3⟩
  have GOfLn : FnOk l.prog w K mg base CX0 1 f6 _ ["self", "many"] (spOfLn K C) := ok_ofln F6 T mlen
  have M : Mk K C f1 := ⟨mk, a1, i1, kc⟩
  have GFamO : FnOk l.prog w K mg base CX0 4 f8 _ ["row"] (spFamO K C) := ok_famo F8 M GInit b1 gC
  have GSame : FnOk l.prog w K mg base CX0 2 f9 _ ["one", "two"] (spSame K C) := ok_same F9 T GTold b2 ⟨a2, i2, k2⟩
  have GUnli : FnOk l.prog w K mg base CX0 3 f10 _ ["one", "two"] (spUnli K C) := ok_unli F10 T F9 GSame b9 g9 GWord b4 ⟨a4, i4, k4⟩
  have GNumb : FnOk l.prog w K mg base CX0 1 f11 _ ["_law_script", "_law_index"] (spNumb K) := ok_numb F11 mint mlen mabs
  have GTake : FnOk l.prog w K mg base CX0 2 f12 _ ["_law_draw", "_law_many"] (spTake K) := ok_take F12 mint F11 GNumb b11 g11
  have GPick : FnOk l.prog w K mg base CX0 3 f13 _ ["_law_draw", "_law_items"] (spPick K) := ok_pick F13 mlen F12 GTake b12 g12
  have GSmal : FnOk l.prog w K mg base CX0 4 f14 _ ["_law_draw", "_law_many"] (spSmal K) := ok_smal F14 mtuple mrange F12 GTake b12 g12 F13 GPick b13 g13
  have GIsPo : FnOk l.prog w K mg base CX0 1 f15 _ ["_law_word"] (spIsPo K) := ok_ispo F15 mrange mlen
  have GOthe : FnOk l.prog w K mg base CX0 3 f16 _ ["_law_draw", "_law_left", "_law_group", "_law_right"] (spOthe K) := ok_othe F16 F12 GTake b12 g12
  exact ok_law F17 ⟨T, mrange, mlen, gC⟩ M GInit b1 GWord b4 ⟨a4, i4, k4⟩ GLeng b5 ⟨a5, i5, k5⟩ GOfLn b6 ⟨a6, i6, k6⟩ F14.kp GSmal b14 g14 F12.kp GTake b12 g12 F15.kp GIsPo b15 g15 F16.kp GOthe b16 g16 F9.kp GSame b9 g9 F10.kp GUnli b10 g10 F8.kp GFamO b8 g8
theorem walk {l : PySem.W.OpenLaw} {q : Program} {loose : List Str} {XP : (Str → Option Value) → Heap → Prop} {YP : World → Heap → Prop} {d : DefRec} {K : Params → PySem.W.Frag} (hn : l.most = some 63) (hdf : d.params.defaults = [])
    (hY : ∀ (w : World) (h : Heap), YP w h → (K w.params).In h)
    (F : ∀ (w : World) (mg : Str → Option Value) (fa : Addr) (h : Heap), (K w.params).In h → h.Ns mainGlobals mg → mg d.name = some (.ref fa) →
      ∃ fd : FuncData, (∀ (s : Shared) (u : Value), BindsTo s fd ⟨[u], []⟩ [("_law_script", u)]) ∧ ∀ base : Heap, (K w.params).In base → base.Ns mainGlobals mg → FnOk l.prog w (K w.params) mg base CX0 5 fa fd ["_law_script"] (spLaw (K w.params))) :
    PySem.W.WalkO q loose XP YP l.row.toRowW d [] (fun f vs => PySem.call f vs) :=
  L2.walk_of (n := 63) (k := 5) (x := "_law_script") (CX := fun _ => CX0) (sp := fun w => spLaw (K w.params)) hn (by decide) hdf ⟨rfl, by decide, by decide⟩ hY F (fun _ _ a ns _ hO hS => ⟨a, ns, rfl, sqf_of hO hS, fun _ => rfl⟩) fun _ _ _ _ _ z => z
end KD
open PySem PySem.W PyProof.Rows
set_option maxRecDepth 100000 in
set_option maxHeartbeats 0 in
theorem PySem.Challenge.cw_allstitches_k11_whole_families_holds : PySem.Challenge.rw_allstitches_k11_whole_families.Holds := by
  w_on; o_law; k_head; (case hw => w_witness2)
  k_fill
  refine KD.walk (l := PySem.Challenge.rw_allstitches_k11_whole_families) rfl rfl (fun w h Y => PySem.W.kIn_of Y) ?F
  case F =>
    intro w mg fa h KX G hmg
    refine' KD.all_mk KX G hmg ?aC ?a1 ?i1 ?l1 ?c1 ?k1 ?a2 ?i2 ?l2 ?c2 ?k2 ?a3 ?i3 ?l3 ?c3 ?k3 ?a4 ?i4 ?l4 ?c4 ?k4 ?a5 ?i5 ?l5 ?c5 ?k5 ?a6 ?i6 ?l6 ?c6 ?k6 ?a7 ?l7 ?c7 ?k7 ?a8 ?l8 ?c8 ?k8 ?a9 ?l9 ?c9 ?k9 ?a10 ?l10 ?c10 ?k10 ?a11 ?l11 ?c11 ?k11 ?a12 ?l12 ?c12 ?k12 ?a13 ?l13 ?c13 ?k13 ?a14 ?l14 ?c14 ?k14 ?a15 ?l15 ?c15 ?k15 ?a16 ?l16 ?c16 ?k16 ?a17 ?l17 ?c17 ?k17 ?pg ?hd ?po ?sa ?mk ?kc ?nL ?nC ?nR ?nN ?nM ?zlen ?zrange ?zint ?zabs ?ztuple
    (case aC => k_is)
    (case a1 => k_is)
    (case i1 => k_is)
    (case l1 => k_is)
    (case c1 => k_is)
    (case k1 => k_is)
    (case a2 => k_is)
    (case i2 => k_is)
    (case l2 => k_is)
    (case c2 => k_is)
    (case k2 => k_is)
    (case a3 => k_is)
    (case i3 => k_is)
    (case l3 => k_is)
    (case c3 => k_is)
    (case k3 => k_is)
    (case a4 => k_is)
    (case i4 => k_is)
    (case l4 => k_is)
    (case c4 => k_is)
    (case k4 => k_is)
    (case a5 => k_is)
    (case i5 => k_is)
    (case l5 => k_is)
    (case c5 => k_is)
    (case k5 => k_is)
    (case a6 => k_is)
    (case i6 => k_is)
    (case l6 => k_is)
    (case c6 => k_is)
    (case k6 => k_is)
    (case a7 => k_is)
    (case l7 => k_is)
    (case c7 => k_is)
    (case k7 => k_is)
    (case a8 => k_is)
    (case l8 => k_is)
    (case c8 => k_is)
    (case k8 => k_is)
    (case a9 => k_is)
    (case l9 => k_is)
    (case c9 => k_is)
    (case k9 => k_is)
    (case a10 => k_is)
    (case l10 => k_is)
    (case c10 => k_is)
    (case k10 => k_is)
    (case a11 => k_is)
    (case l11 => k_is)
    (case c11 => k_is)
    (case k11 => k_is)
    (case a12 => k_is)
    (case l12 => k_is)
    (case c12 => k_is)
    (case k12 => k_is)
    (case a13 => k_is)
    (case l13 => k_is)
    (case c13 => k_is)
    (case k13 => k_is)
    (case a14 => k_is)
    (case l14 => k_is)
    (case c14 => k_is)
    (case k14 => k_is)
    (case a15 => k_is)
    (case l15 => k_is)
    (case c15 => k_is)
    (case k15 => k_is)
    (case a16 => k_is)
    (case l16 => k_is)
    (case c16 => k_is)
    (case k16 => k_is)
    (case a17 => k_is)
    (case l17 => k_is)
    (case c17 => k_is)
    (case k17 => k_is)
    (case pg => k_is)
    (case hd => k_is)
    (case po => k_is)
    (case sa => k_is)
    (case mk => k_is)
    (case kc => k_is)
    (case nL => k_is)
    (case nC => k_is)
    (case nR => k_is)
    (case nN => k_is)
    (case nM => k_is)
    (case zlen => k_is)
    (case zrange => k_is)
    (case zint => k_is)
    (case zabs => k_is)
    (case ztuple => k_is)
