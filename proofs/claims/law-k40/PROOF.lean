import PyProof.Rows.All
import Wide.All
import OpenK.AllK
import Wide.FinOn
import HandS.ForMost
import HandS.Codes
import HandS.Style
import HandS.Conv
import HandS.IsInst
import HandS.Walk
import HandS.Star
import PySem.Challenge.RW_twicewritten_k40_whole_short_copies
import KE.KDictZip
import HandS.Lambda
import KE.SortUse
import KE.KSortKey
import PyProof.StrLawsRepr
import HandS.Exc
import HandS.ExcInit
import HandS.TryMany
import KE.KSuper
import KE.KExcSuper
import KE.KExcInit
import HandS.ExcIs
import HandS.ExcField
import HandS.Ends
import HandS.EndBits
import HandS.EndTab
set_option linter.all false
/-! Copies of one letter or two: plain mathematics over lists of codes. -/
namespace TW
abbrev T := List Nat

/-- one copy of one letter or two: e becomes w -/
def Cp (e w : T) : Prop := ∃ l x r, (x.length = 1 ∨ x.length = 2) ∧ e = l ++ x ++ r ∧ w = l ++ x ++ x ++ r

/-- n copies lead from e to w -/
inductive St : Nat → T → T → Prop
  | refl (w : T) : St 0 w w
  | tail {n : Nat} {e w w' : T} : St n e w → Cp w w' → St (n + 1) e w'

def R (e w : T) : Prop := ∃ n, St n e w

theorem Cp.ctx {e w : T} (h : Cp e w) (p q : T) : Cp (p ++ e ++ q) (p ++ w ++ q) := by
  obtain ⟨l, x, r, hx, rfl, rfl⟩ := h
  exact ⟨p ++ l, x, r ++ q, hx, by simp, by simp⟩

theorem Cp.len {e w : T} (h : Cp e w) : e.length < w.length := by
  obtain ⟨l, x, r, hx, rfl, rfl⟩ := h
  simp; omega

theorem Cp.len2 {e w : T} (h : Cp e w) : w.length ≤ e.length + 2 := by
  obtain ⟨l, x, r, hx, rfl, rfl⟩ := h
  simp; omega

theorem St.ctx {n : Nat} {e w : T} (h : St n e w) (p q : T) : St n (p ++ e ++ q) (p ++ w ++ q) := by
  induction h with
  | refl => exact .refl _
  | tail _ hc ih => exact .tail ih (hc.ctx p q)

theorem St.trans {n m : Nat} {e f w : T} (h : St n e f) (h2 : St m f w) : St (n + m) e w := by
  induction h2 with
  | refl => exact h
  | @tail k _ _ _ _ hc ih => exact St.tail (n := n + k) (ih h) hc

theorem St.one {e w : T} (h : Cp e w) : St 1 e w := .tail (.refl _) h

theorem St.len {n : Nat} {e w : T} (h : St n e w) : e.length + n ≤ w.length := by
  induction h with
  | refl => simp
  | tail _ hc ih => have := hc.len; omega

theorem St.pre {n : Nat} {e w : T} (h : St n e w) (p : T) : St n (p ++ e) (p ++ w) := by
  have := h.ctx p []
  simpa using this
theorem St.post {n : Nat} {e w : T} (h : St n e w) (q : T) : St n (e ++ q) (w ++ q) := by
  have := h.ctx [] q
  simpa using this

/-- from the front -/
theorem St.head {n : Nat} {e f w : T} (h : Cp e f) (h2 : St n f w) : St (n + 1) e w := by
  have := (St.one h).trans h2
  rwa [Nat.add_comm] at this

theorem St.uncons {n : Nat} {e w : T} (h : St (n + 1) e w) : ∃ f, Cp e f ∧ St n f w := by
  generalize hk : n + 1 = k at h
  induction h generalizing n with
  | refl => omega
  | @tail m e w w' h hc ih =>
    cases n with
    | zero =>
      have : m = 0 := by omega
      subst this
      cases h
      exact ⟨_, hc, .refl _⟩
    | succ n =>
      obtain ⟨f, h1, h2⟩ := ih (n := n) (by omega)
      have : m = n + 1 := by omega
      exact ⟨f, h1, .tail h2 hc⟩

theorem St.unsnoc {n : Nat} {e w : T} (h : St (n + 1) e w) : ∃ f, St n e f ∧ Cp f w := by
  cases h with
  | tail h hc => exact ⟨_, h, hc⟩

theorem St.zero {e w : T} (h : St 0 e w) : e = w := by
  generalize hk : 0 = k at h
  cases h with
  | refl => rfl
  | tail => omega

theorem R.refl (w : T) : R w w := ⟨0, .refl _⟩
theorem R.tail {e w w' : T} (h : R e w) (c : Cp w w') : R e w' := h.elim fun n h => ⟨n + 1, .tail h c⟩
theorem R.trans {e f w : T} (h : R e f) (h2 : R f w) : R e w := by
  obtain ⟨n, h⟩ := h; obtain ⟨m, h2⟩ := h2
  exact ⟨n + m, h.trans h2⟩
theorem R.pre {e w : T} (h : R e w) (p : T) : R (p ++ e) (p ++ w) := h.elim fun n h => ⟨n, h.pre p⟩

/-- the fewest copies -/
def D (e w : T) (n : Nat) : Prop := St n e w ∧ ∀ m, St m e w → n ≤ m

theorem D.of_R {e w : T} (h : R e w) : ∃ n, D e w n := by
  classical
  obtain ⟨n, h⟩ := h
  induction n using Nat.strongRecOn with
  | ind n ih =>
    by_cases c : ∃ m, m < n ∧ St m e w
    · obtain ⟨m, hm, hs⟩ := c
      exact ih m hm hs
    · exact ⟨n, h, fun m hm => Nat.le_of_not_lt fun hlt => c ⟨m, hlt, hm⟩⟩
theorem D.unique {e w : T} {n m : Nat} (h : D e w n) (h2 : D e w m) : n = m :=
  Nat.le_antisymm (h.2 _ h2.1) (h2.2 _ h.1)

/-! ### undoing: the list of what is left when one copy is taken out -/
def twinAt (w : T) (L p : Nat) : Bool := decide ((w.drop (p + L)).take L = (w.drop p).take L)
def twinsL (w : T) (L : Nat) : List Nat := (List.range (w.length + 1 - 2 * L)).filter (twinAt w L)
def undL (w : T) (L : Nat) : List T := (twinsL w L).map fun p => w.take p ++ w.drop (p + L)
def und (w : T) : List T := undL w 1 ++ undL w 2

theorem mem_undL {w e : T} {L : Nat} (hL : 0 < L) : e ∈ undL w L ↔ ∃ l x r, x.length = L ∧ e = l ++ x ++ r ∧ w = l ++ x ++ x ++ r := by
  unfold undL twinsL twinAt
  simp only [List.mem_map, List.mem_filter, List.mem_range, decide_eq_true_eq]
  constructor
  · rintro ⟨p, ⟨hp, ht⟩, rfl⟩
    refine ⟨w.take p, (w.drop p).take L, w.drop (p + L + L), by simp; omega, ?_, ?_⟩
    · rw [List.append_assoc]
      congr 1
      conv => lhs; rw [← List.take_append_drop L (w.drop (p + L)), ht, List.drop_drop]
    · conv => lhs; rw [← List.take_append_drop p w, ← List.take_append_drop L (w.drop p), List.drop_drop, ← List.take_append_drop L (w.drop (p + L)), ht, List.drop_drop]
      simp [List.append_assoc]
  · rintro ⟨l, x, r, hx, rfl, rfl⟩
    refine ⟨l.length, ⟨by simp; omega, ?_⟩, ?_⟩
    · subst hx
      simp [List.append_assoc]
    · subst hx
      simp [List.append_assoc]

theorem mem_und {w e : T} : e ∈ und w ↔ Cp e w := by
  unfold und Cp
  rw [List.mem_append, mem_undL (by decide), mem_undL (by decide)]
  constructor
  · rintro (⟨l, x, r, h, a, b⟩ | ⟨l, x, r, h, a, b⟩)
    · exact ⟨l, x, r, .inl h, a, b⟩
    · exact ⟨l, x, r, .inr h, a, b⟩
  · rintro ⟨l, x, r, h | h, a, b⟩
    · exact .inl ⟨l, x, r, h, a, b⟩
    · exact .inr ⟨l, x, r, h, a, b⟩

/-! ### the short root, by a stack (turned about) -/
def rst : T → Nat → T
  | [], c => [c]
  | [x], c => if x = c then [x] else [c, x]
  | [x, y], c => if x = c then [x, y] else [c, x, y]
  | x :: y :: z :: r, c => if x = c then x :: y :: z :: r else if c = y ∧ x = z then y :: z :: r else c :: x :: y :: z :: r

def rt (w : T) : T := w.foldl rst []

/-- no letter, and no two, stand twice side by side (either way about) -/
def Red : T → Prop
  | [] => True
  | [_] => True
  | x :: y :: r => x ≠ y ∧ Red (y :: r) ∧ (match r with | z :: u :: _ => ¬ (x = z ∧ y = u) | _ => True)

theorem Red.tail {x : Nat} {r : T} (h : Red (x :: r)) : Red r := by
  cases r with
  | nil => trivial
  | cons y r => exact h.2.1

theorem red_rst {s : T} (h : Red s) (c : Nat) : Red (rst s c) := by
  match s, h with
  | [], _ => trivial
  | [x], h =>
    by_cases e : x = c
    · simp only [rst, if_pos e]; trivial
    · simp only [rst, if_neg e]; exact ⟨fun q => e q.symm, trivial, trivial⟩
  | [x, y], h =>
    by_cases e : x = c
    · simp only [rst, if_pos e]; exact h
    · simp only [rst, if_neg e]; exact ⟨fun q => e q.symm, h, trivial⟩
  | x :: y :: z :: r, h =>
    by_cases e : x = c
    · simp only [rst, if_pos e]; exact h
    · by_cases m : c = y ∧ x = z
      · simp only [rst, if_neg e, if_pos m]; exact h.2.1
      · simp only [rst, if_neg e, if_neg m]; exact ⟨fun q => e q.symm, h, m⟩

theorem rst_ne (s : T) (c : Nat) : ∃ r, rst s c = c :: r := by
  match s with
  | [] => exact ⟨_, rfl⟩
  | [x] =>
    by_cases e : x = c
    · simp only [rst, if_pos e]; exact ⟨_, by rw [e]⟩
    · simp only [rst, if_neg e]; exact ⟨_, rfl⟩
  | [x, y] =>
    by_cases e : x = c
    · simp only [rst, if_pos e]; exact ⟨_, by rw [e]⟩
    · simp only [rst, if_neg e]; exact ⟨_, rfl⟩
  | x :: y :: z :: r =>
    by_cases e : x = c
    · simp only [rst, if_pos e]; exact ⟨_, by rw [e]⟩
    · by_cases m : c = y ∧ x = z
      · simp only [rst, if_neg e, if_pos m]; exact ⟨_, by rw [m.1]⟩
      · simp only [rst, if_neg e, if_neg m]; exact ⟨_, rfl⟩

theorem rst_same (c : Nat) (r : T) : rst (c :: r) c = c :: r := by
  match r with
  | [] => simp [rst]
  | [y] => simp [rst]
  | y :: z :: r => simp [rst]

/-- behind two unlike letters both stand on the top -/
theorem rst_two {s : T} (a b : Nat) (h : a ≠ b) : ∃ r, rst (rst s a) b = b :: a :: r := by
  obtain ⟨r, e⟩ := rst_ne s a
  rw [e]
  match r with
  | [] => simp only [rst, if_neg h]; exact ⟨_, rfl⟩
  | [y] => simp only [rst, if_neg h]; exact ⟨_, rfl⟩
  | y :: z :: r =>
    by_cases m : b = y ∧ a = z
    · simp only [rst, if_neg h, if_pos m]; exact ⟨r, by rw [m.1, m.2]⟩
    · simp only [rst, if_neg h, if_neg m]; exact ⟨_, rfl⟩

theorem rst_twice {s : T} (hs : Red s) (a b : Nat) : rst (rst (rst (rst s a) b) a) b = rst (rst s a) b := by
  by_cases h : a = b
  · subst h
    obtain ⟨r, e⟩ := rst_ne s a
    rw [e, rst_same, rst_same, rst_same]
  · obtain ⟨r, e⟩ := rst_two (s := s) a b h
    have hr : Red (b :: a :: r) := e ▸ red_rst (red_rst hs a) b
    rw [e]
    have h' : ¬ b = a := Ne.symm h
    match r, hr with
    | [], _ => simp [rst, h, h']
    | [y], _ =>
      by_cases hy : b = y
      · subst hy; simp [rst, h, h']
      · simp [rst, h, h', hy]
    | y :: z :: r, hr =>
      have hr2 := hr.2.2
      by_cases hy : b = y
      · subst hy
        have hz : ¬ a = z := fun q => hr2 ⟨rfl, q⟩
        match r with
        | [] => simp [rst, h, h', hz]
        | u :: r => simp [rst, h, h', hz]
      · simp [rst, h, h', hy]

theorem red_foldl : ∀ (w s : T), Red s → Red (w.foldl rst s)
  | [], _, h => h
  | c :: w, s, h => red_foldl w _ (red_rst h c)

theorem rt_cp {e w : T} (h : Cp e w) : rt e = rt w := by
  obtain ⟨l, x, r, hx, rfl, rfl⟩ := h
  unfold rt
  simp only [List.foldl_append]
  have hs : Red (l.foldl rst []) := red_foldl l [] trivial
  generalize l.foldl rst [] = s at hs
  congr 1
  match x, hx with
  | [a], _ =>
    obtain ⟨q, e⟩ := rst_ne s a
    simp only [List.foldl_cons, List.foldl_nil, e, rst_same]
  | [a, b], _ =>
    simp only [List.foldl_cons, List.foldl_nil]
    exact (rst_twice hs a b).symm

theorem rt_st {n : Nat} {e w : T} (h : St n e w) : rt e = rt w := by
  induction h with
  | refl => rfl
  | tail _ c ih => exact ih.trans (rt_cp c)

/-- where nothing can be taken out the root is the text -/
theorem rt_stuck {w : T} (h : und w = []) : rt w = w.reverse := by
  have no : ∀ e, ¬ Cp e w := fun e c => by
    have := mem_und.mpr c
    rw [h] at this
    exact nomatch this
  have key : ∀ r l : T, w = l ++ r → r.foldl rst l.reverse = w.reverse := by
    intro r
    induction r with
    | nil => intro l e; subst e; simp
    | cons c r ih =>
      intro l e
      rw [List.foldl_cons]
      have st : rst l.reverse c = (l ++ [c]).reverse := by
        rw [List.reverse_append]
        show _ = c :: l.reverse
        match hl : l.reverse with
        | [] => rfl
        | [x] =>
          have hl' : l = [x] := by rw [← List.reverse_reverse l, hl]; rfl
          have hn : x ≠ c := fun q => no ([x] ++ r) ⟨[], [x], r, .inl rfl, rfl, by rw [e, hl', q]; simp⟩
          simp [rst, hn]
        | [x, y] =>
          have hl' : l = [y, x] := by rw [← List.reverse_reverse l, hl]; rfl
          have hn : x ≠ c := fun q => no ([y, x] ++ r) ⟨[y], [x], r, .inl rfl, by simp, by rw [e, hl', q]; simp⟩
          simp [rst, hn]
        | x :: y :: z :: u =>
          have hl' : l = u.reverse ++ [z, y, x] := by rw [← List.reverse_reverse l, hl]; simp
          have hn : x ≠ c := fun q => no (l ++ r) ⟨u.reverse ++ [z, y], [x], r, .inl rfl, by rw [hl']; simp, by rw [e, hl', q]; simp⟩
          have hm : ¬ (c = y ∧ x = z) := fun q => no (u.reverse ++ [z, y] ++ r) ⟨u.reverse, [z, y], r, .inr rfl, rfl, by rw [e, hl', q.1, q.2]; simp⟩
          simp [rst, hn]
          intro a b; exact absurd ⟨a, b⟩ hm
      rw [st]
      exact ih (l ++ [c]) (by rw [e]; simp)
  exact key w [] rfl

def root (w : T) : T := (rt w).reverse

theorem root_of_bottom {b w : T} (h : R b w) (hb : und b = []) : root w = b := by
  obtain ⟨n, h⟩ := h
  unfold root
  rw [← rt_st h, rt_stuck hb, List.reverse_reverse]

end TW
set_option linter.all false
/-! Doors: which texts come of a text. -/
namespace TW

/-- read on from the first letter of the rest s of the elder -/
def acc : T → T → Prop
  | [], _ => False
  | _ :: es, [] => es = []
  | x :: es, c :: r => ((c = x ∨ es.head? = some c) ∧ acc (x :: es) r) ∨ (es.head? = some c ∧ acc es r)
termination_by _ r => r.length

theorem acc_nil (x : Nat) (es : T) : acc (x :: es) [] ↔ es = [] := by rw [acc]
theorem acc_cons (x : Nat) (es : T) (c : Nat) (r : T) : acc (x :: es) (c :: r) ↔ ((c = x ∨ es.head? = some c) ∧ acc (x :: es) r) ∨ (es.head? = some c ∧ acc es r) := by
  rw [acc]

theorem acc_letter {x : Nat} {es : T} {c : Nat} {r : T} (h : acc (x :: es) (c :: r)) : c = x ∨ es.head? = some c := by
  rw [acc_cons] at h
  rcases h with h | h
  · exact h.1
  · exact .inr h.1
theorem acc_stay {x : Nat} {es : T} {c : Nat} {r : T} (hc : c = x ∨ es.head? = some c) (h : acc (x :: es) r) : acc (x :: es) (c :: r) := by
  rw [acc_cons]; exact .inl ⟨hc, h⟩
theorem acc_step {x : Nat} {es : T} {c : Nat} {r : T} (hc : es.head? = some c) (h : acc es r) : acc (x :: es) (c :: r) := by
  rw [acc_cons]; exact .inr ⟨hc, h⟩

theorem acc_self : ∀ (x : Nat) (es : T), acc (x :: es) es
  | x, [] => by rw [acc_nil]
  | x, y :: es => acc_step rfl (acc_self y es)

/-- a letter read may be read once more -/
theorem acc_dup1 {x : Nat} {es : T} {c : Nat} {r : T} (h : acc (x :: es) (c :: r)) : acc (x :: es) (c :: c :: r) := acc_stay (acc_letter h) h

/-- two letters read may be read once more -/
theorem acc_dup2 {x : Nat} {es : T} {c d : Nat} {r : T} (h : acc (x :: es) (c :: d :: r)) : acc (x :: es) (c :: d :: c :: d :: r) := by
  have hc := acc_letter h
  have h0 := h
  rw [acc_cons] at h
  rcases h with ⟨_, h⟩ | ⟨h1, h2⟩
  · exact acc_stay hc (acc_stay (acc_letter h) h0)
  · match es, h1, h2 with
    | y :: es, h1, h2 =>
      have e : y = c := by simpa using h1
      subst e
      have h3 := h2
      rw [acc_cons] at h2
      rcases h2 with ⟨hd, h2⟩ | ⟨hd, h2⟩
      · exact acc_step rfl (acc_stay hd (acc_stay (.inl rfl) h3))
      · exact acc_step rfl (acc_stay (.inr hd) (acc_stay (.inl rfl) h3))

theorem acc_cp (x : T) (r : T) (hx : x.length = 1 ∨ x.length = 2) : ∀ (l s : T), acc s (l ++ x ++ r) → acc s (l ++ x ++ x ++ r)
  | [], [], h => by rw [acc] at h; exact h.elim
  | [], s0 :: s, h => by
    match x, hx with
    | [a], _ => exact acc_dup1 h
    | [a, b], _ => exact acc_dup2 h
  | c :: l, [], h => by rw [acc] at h; exact h.elim
  | c :: l, y :: s, h => by
    simp only [List.cons_append] at h ⊢
    rw [acc_cons] at h ⊢
    rcases h with h | h
    · exact .inl ⟨h.1, acc_cp x r hx l _ h.2⟩
    · exact .inr ⟨h.1, acc_cp x r hx l _ h.2⟩

/-- the texts that come of e, by doors -/
def Acc (e w : T) : Prop := (e = [] ∧ w = []) ∨ ∃ c es r, e = c :: es ∧ w = c :: r ∧ acc e r

theorem Acc.refl (e : T) : Acc e e := by
  cases e with
  | nil => exact .inl ⟨rfl, rfl⟩
  | cons c es => exact .inr ⟨c, es, es, rfl, rfl, acc_self c es⟩

theorem Acc.cp {e w w' : T} (h : Acc e w) (c : Cp w w') : Acc e w' := by
  obtain ⟨l, x, r, hx, rfl, rfl⟩ := c
  rcases h with ⟨_, h⟩ | ⟨c, es, q, rfl, h, ha⟩
  · simp at h
    obtain ⟨_, rfl, _⟩ := h
    simp at hx
  · refine .inr ⟨c, es, ?_⟩
    cases l with
    | cons c' l =>
      simp at h
      obtain ⟨rfl, rfl⟩ := h
      refine ⟨_, rfl, rfl, ?_⟩
      have := acc_cp x r hx l (c' :: es) (by simpa using ha)
      simpa using this
    | nil =>
      match x, hx with
      | [a], _ =>
        simp at h
        obtain ⟨rfl, rfl⟩ := h
        exact ⟨_, rfl, rfl, acc_stay (.inl rfl) ha⟩
      | [a, b], _ =>
        simp at h
        obtain ⟨rfl, rfl⟩ := h
        exact ⟨_, rfl, rfl, acc_stay (acc_letter ha) (acc_stay (.inl rfl) ha)⟩

theorem Acc.of_R {e w : T} (h : R e w) : Acc e w := by
  obtain ⟨n, h⟩ := h
  induction h with
  | refl => exact .refl _
  | tail _ c ih => exact ih.cp c

theorem R.of_acc : ∀ (n : Nat) (x : Nat) (es r : T), r.length ≤ n → acc (x :: es) r → R (x :: es) (x :: r)
  | n, x, es, [], _, h => by
    rw [acc_nil] at h
    subst h
    exact R.refl _
  | 0, _, _, _ :: _, hl, _ => by simp at hl
  | n + 1, x, es, c :: r, hl, h => by
    simp at hl
    have h0 := h
    rw [acc_cons] at h
    rcases h with ⟨hc, h⟩ | ⟨hc, h⟩
    · rcases hc with rfl | hc
      · exact (R.of_acc n c es r hl h).tail ⟨[], [c], r, .inl rfl, rfl, rfl⟩
      · match es, hc with
        | y :: es, hc =>
          have e : y = c := by simpa using hc
          subst e
          match r, h, hl with
          | [], h, _ => rw [acc_nil] at h; exact nomatch h
          | d :: r, h, hl =>
            have hd := acc_letter h
            by_cases e : d = y
            · subst e
              exact (R.of_acc n x (d :: es) (d :: r) hl h).tail ⟨[x], [d], r, .inl rfl, rfl, rfl⟩
            · have ex : d = x := by
                rcases hd with q | q
                · exact q
                · exact absurd (by simpa using q.symm) e
              subst ex
              -- d y d r
              rw [acc_cons] at h
              rcases h with ⟨_, h⟩ | ⟨q, _⟩
              · match r, h, hl with
                | [], h, _ => rw [acc_nil] at h; exact nomatch h
                | f :: r, h, hl =>
                  have hf := acc_letter h
                  by_cases e2 : f = d
                  · subst e2
                    exact (R.of_acc n f (y :: es) (y :: f :: r) (by simp at hl ⊢; omega) (acc_stay (.inr rfl) h)).tail ⟨[f, y], [f], r, .inl rfl, rfl, rfl⟩
                  · have e3 : f = y := by
                      rcases hf with q | q
                      · exact absurd q e2
                      · simpa using q.symm
                    subst e3
                    exact (R.of_acc n d (f :: es) (f :: r) (by simp at hl ⊢; omega) h).tail ⟨[], [d, f], r, .inr rfl, rfl, rfl⟩
              · exact absurd (by simpa using q.symm) e
    · match es, hc, h with
      | y :: es, hc, h =>
        have e : y = c := by simpa using hc
        subst e
        exact (R.of_acc n y es r hl h).pre [x]

theorem R_iff {e w : T} : R e w ↔ Acc e w := by
  constructor
  · exact Acc.of_R
  · rintro (⟨rfl, rfl⟩ | ⟨c, es, r, rfl, rfl, h⟩)
    · exact R.refl _
    · exact R.of_acc _ c es r (Nat.le_refl _) h

/-! ### the lots of doors -/
/-- the doors that are open behind one letter more -/
def nextD (e : T) (a : List Nat) (c : Nat) : List Nat :=
  (List.range e.length).filter fun d => (a.contains d && ((e.drop d).take 2).contains c) || (decide (0 < d) && a.contains (d - 1) && decide (e[d]? = some c))

def firstD (e : T) (c : Nat) : List Nat := if e.head? = some c then [0] else []

def lotsR (e : T) : List Nat → T → List Nat
  | a, [] => a
  | a, c :: r => lotsR e (nextD e a c) r

/-- whether e grows into w, by the last lot -/
def growsB (e w : T) : Bool := match e, w with
  | [], [] => true
  | _ :: _, c :: r => (lotsR e (firstD e c) r).contains (e.length - 1)
  | _, _ => false

theorem drop_cons {e : T} {d : Nat} (h : d < e.length) : e.drop d = e[d] :: e.drop (d + 1) := by simp

theorem take2_mem {e : T} {d c : Nat} (h : d < e.length) : c ∈ (e.drop d).take 2 ↔ (c = e[d] ∨ (e.drop (d + 1)).head? = some c) := by
  rw [drop_cons h]
  rw [List.take_succ_cons, List.mem_cons]
  cases hq : e.drop (d + 1) with
  | nil => simp
  | cons y q => simp [eq_comm]

theorem mem_nextD {e : T} {a : List Nat} {c d : Nat} : d ∈ nextD e a c ↔ d < e.length ∧ ((d ∈ a ∧ c ∈ (e.drop d).take 2) ∨ (0 < d ∧ d - 1 ∈ a ∧ e[d]? = some c)) := by
  unfold nextD
  simp [and_assoc]

theorem lots_acc (e : T) : ∀ (r : T) (a : List Nat), e.length - 1 ∈ lotsR e a r → (∀ d ∈ a, d < e.length) → ∃ d ∈ a, acc (e.drop d) r
  | [], a, h, ha => by
    have h0 : e.length - 1 < e.length := ha _ h
    refine ⟨_, h, ?_⟩
    rw [drop_cons h0, acc_nil]
    simp; omega
  | c :: r, a, h, ha => by
    obtain ⟨d, hd, h2⟩ := lots_acc e r (nextD e a c) h (fun d hd => (mem_nextD.mp hd).1)
    obtain ⟨hl, hd⟩ := mem_nextD.mp hd
    rcases hd with ⟨h1, h3⟩ | ⟨h0, h1, h3⟩
    · refine ⟨d, h1, ?_⟩
      rw [take2_mem hl] at h3
      rw [drop_cons hl] at h2 ⊢
      exact acc_stay h3 h2
    · refine ⟨d - 1, h1, ?_⟩
      have hl' : d - 1 < e.length := by omega
      rw [drop_cons hl', show d - 1 + 1 = d by omega]
      refine acc_step ?_ h2
      rw [drop_cons hl]
      rw [List.getElem?_eq_getElem hl] at h3
      exact h3

theorem acc_lots (e : T) : ∀ (r : T) (a : List Nat) (d : Nat), d ∈ a → d < e.length → acc (e.drop d) r → e.length - 1 ∈ lotsR e a r
  | [], a, d, hd, hl, h => by
    rw [drop_cons hl, acc_nil] at h
    have : d = e.length - 1 := by
      have := congrArg List.length h
      simp at this; omega
    rw [← this]; exact hd
  | c :: r, a, d, hd, hl, h => by
    rw [drop_cons hl, acc_cons] at h
    rcases h with ⟨hc, h⟩ | ⟨hc, h⟩
    · refine acc_lots e r (nextD e a c) d (mem_nextD.mpr ⟨hl, .inl ⟨hd, (take2_mem hl).mpr hc⟩⟩) hl ?_
      rw [drop_cons hl]; exact h
    · have hl2 : d + 1 < e.length := by
        cases hq : e.drop (d + 1) with
        | nil => rw [hq] at hc; simp at hc
        | cons y q =>
          have := congrArg List.length hq
          simp at this; omega
      refine acc_lots e r (nextD e a c) (d + 1) (mem_nextD.mpr ⟨hl2, .inr ⟨by omega, by simpa using hd, ?_⟩⟩) hl2 h
      rw [drop_cons hl2] at hc
      rw [List.getElem?_eq_getElem hl2]
      exact hc

theorem growsB_iff {e w : T} : growsB e w = true ↔ R e w := by
  rw [R_iff]
  unfold growsB Acc
  match e, w with
  | [], [] => simp
  | [], c :: r => simp
  | x :: es, [] => simp
  | x :: es, c :: r =>
    simp only [List.contains_iff_mem]
    constructor
    · intro h
      obtain ⟨d, hd, h2⟩ := lots_acc (x :: es) r _ h (fun d hd => by
        unfold firstD at hd
        split at hd
        · simp at hd; subst hd; simp
        · exact nomatch hd)
      unfold firstD at hd
      split at hd
      · rename_i q
        simp at hd; subst hd
        have : x = c := by simpa using q
        subst this
        exact .inr ⟨x, es, r, rfl, rfl, h2⟩
      · exact nomatch hd
    · rintro (⟨h, _⟩ | ⟨c', es', r', h1, h2, h3⟩)
      · exact nomatch h
      · cases h1
        cases h2
        refine acc_lots (x :: es) r _ 0 ?_ (by simp) h3
        simp [firstD]

end TW
set_option linter.all false
/-! Stretches; the fewest copies. -/
namespace TW
abbrev S := Nat × Nat

def ex : List S → T
  | [] => []
  | (a, n) :: W => List.replicate n a ++ ex W

theorem ex_append : ∀ A B : List S, ex (A ++ B) = ex A ++ ex B
  | [], B => rfl
  | (a, n) :: A, B => by simp [ex, ex_append A B]

/-- every stretch has a letter, and neighbours have unlike letters -/
def Pr : List S → Prop
  | [] => True
  | [(_, n)] => 1 ≤ n
  | (a, n) :: (b, m) :: W => 1 ≤ n ∧ a ≠ b ∧ Pr ((b, m) :: W)

theorem Pr.tail {p : S} {W : List S} (h : Pr (p :: W)) : Pr W := by
  match p, W, h with
  | _, [], _ => trivial
  | (a, n), (b, m) :: W, h => exact h.2.2
theorem Pr.pos {a n : Nat} {W : List S} (h : Pr ((a, n) :: W)) : 1 ≤ n := by
  match W, h with
  | [], h => exact h
  | (b, m) :: W, h => exact h.1
theorem Pr.ne {a n b m : Nat} {W : List S} (h : Pr ((a, n) :: (b, m) :: W)) : a ≠ b := h.2.1
theorem Pr.cons {a n : Nat} {W : List S} (hn : 1 ≤ n) (h : Pr W) (hd : ∀ b m W', W = (b, m) :: W' → a ≠ b) : Pr ((a, n) :: W) := by
  match W, h with
  | [], _ => exact hn
  | (b, m) :: W, h => exact ⟨hn, hd _ _ _ rfl, h⟩
/-- the numbers may be others -/
theorem Pr.head {a n n' : Nat} {W : List S} (h : Pr ((a, n) :: W)) (hn : 1 ≤ n') : Pr ((a, n') :: W) := by
  match W, h with
  | [], _ => exact hn
  | (b, m) :: W, h => exact ⟨hn, h.2⟩

theorem ex_ne {p : S} {W : List S} (h : Pr (p :: W)) : ∃ r, ex (p :: W) = p.1 :: r := by
  obtain ⟨a, n⟩ := p
  obtain ⟨k, rfl⟩ : ∃ k, n = k + 1 := ⟨n - 1, by have := h.pos; omega⟩
  exact ⟨List.replicate k a ++ ex W, by simp [ex, List.replicate_succ]⟩

theorem rep_inj {a : Nat} : ∀ {n m : Nat} {u v : T}, List.replicate n a ++ u = List.replicate m a ++ v → u.head? ≠ some a → v.head? ≠ some a → n = m ∧ u = v
  | 0, 0, u, v, h, _, _ => ⟨rfl, by simpa using h⟩
  | 0, m + 1, u, v, h, hu, _ => by
    simp [List.replicate_succ] at h
    rw [h] at hu; simp at hu
  | n + 1, 0, u, v, h, _, hv => by
    simp [List.replicate_succ] at h
    rw [← h] at hv; simp at hv
  | n + 1, m + 1, u, v, h, hu, hv => by
    simp [List.replicate_succ] at h
    obtain ⟨e, e2⟩ := rep_inj h hu hv
    exact ⟨by rw [e], e2⟩

theorem ex_head {a n : Nat} {W : List S} (h : Pr ((a, n) :: W)) : (ex W).head? ≠ some a := by
  match W, h with
  | [], _ => simp [ex]
  | (b, m) :: W, h =>
    obtain ⟨r, e⟩ := ex_ne h.2.2
    rw [e]
    intro q
    exact h.2.1 (by simpa using q.symm)

/-- just one row of stretches makes a text -/
theorem ex_inj : ∀ {W V : List S}, Pr W → Pr V → ex W = ex V → W = V
  | [], [], _, _, _ => rfl
  | [], p :: V, _, h, e => by
    obtain ⟨r, q⟩ := ex_ne h
    rw [q] at e
    exact nomatch e
  | p :: W, [], h, _, e => by
    obtain ⟨r, q⟩ := ex_ne h
    rw [q] at e
    exact nomatch e
  | (a, n) :: W, (b, m) :: V, h1, h2, e => by
    obtain ⟨r, q⟩ := ex_ne h1
    obtain ⟨s, q2⟩ := ex_ne h2
    have eab : a = b := by
      rw [q, q2] at e
      exact (List.cons.inj e).1
    subst eab
    obtain ⟨e1, e2⟩ := rep_inj (show List.replicate n a ++ ex W = List.replicate m a ++ ex V from e) (ex_head h1) (ex_head h2)
    rw [e1, ex_inj h1.tail h2.tail e2]

/-- the stretches, read from the left (turned about while read) -/
def stp : List S → Nat → List S
  | [], c => [(c, 1)]
  | (a, n) :: W, c => if a = c then (a, n + 1) :: W else (c, 1) :: (a, n) :: W
def st (w : T) : List S := (w.foldl stp []).reverse

def exR : List S → T
  | [] => []
  | (a, n) :: W => exR W ++ List.replicate n a
theorem ex_reverse : ∀ W : List S, ex W.reverse = exR W
  | [] => rfl
  | (a, n) :: W => by simp [exR, ex_append, ex_reverse W, ex]

theorem pr_snoc : ∀ {W : List S} {a n b m : Nat}, Pr (W ++ [(a, n)]) → a ≠ b → 1 ≤ m → Pr (W ++ [(a, n)] ++ [(b, m)])
  | [], a, n, b, m, h, hn, hm => ⟨h, hn, hm⟩
  | [(c, k)], a, n, b, m, h, hn, hm => ⟨h.1, h.2.1, h.2.2, hn, hm⟩
  | (c, k) :: (d, l) :: W, a, n, b, m, h, hn, hm => ⟨h.1, h.2.1, pr_snoc (W := (d, l) :: W) h.2.2 hn hm⟩
theorem pr_last : ∀ {W : List S} {a n m : Nat}, Pr (W ++ [(a, n)]) → 1 ≤ m → Pr (W ++ [(a, m)])
  | [], _, _, _, _, hm => hm
  | [(c, k)], _, _, _, h, hm => ⟨h.1, h.2.1, hm⟩
  | (c, k) :: (d, l) :: W, a, n, m, h, hm => ⟨h.1, h.2.1, pr_last (W := (d, l) :: W) h.2.2 hm⟩

theorem stp_ok {V : List S} {c : Nat} (h : Pr V.reverse) : Pr (stp V c).reverse ∧ exR (stp V c) = exR V ++ [c] := by
  match V, h with
  | [], _ => exact ⟨Nat.le_refl 1, rfl⟩
  | (a, n) :: W, h =>
    rw [List.reverse_cons] at h
    by_cases e : a = c
    · subst e
      simp only [stp, if_pos]
      refine ⟨?_, ?_⟩
      · rw [List.reverse_cons]; exact pr_last h (by omega)
      · simp [exR, List.replicate_succ']
    · simp only [stp, if_neg e]
      refine ⟨?_, ?_⟩
      · rw [List.reverse_cons, List.reverse_cons]; exact pr_snoc h e (Nat.le_refl 1)
      · simp [exR]

theorem stf_ok : ∀ (w : T) (V : List S), Pr V.reverse → Pr (w.foldl stp V).reverse ∧ exR (w.foldl stp V) = exR V ++ w
  | [], V, h => ⟨h, by simp⟩
  | c :: w, V, h => by
    obtain ⟨h1, h2⟩ := stp_ok (c := c) h
    obtain ⟨h3, h4⟩ := stf_ok w _ h1
    exact ⟨h3, by rw [List.foldl_cons, h4, h2]; simp⟩

theorem st_pr (w : T) : Pr (st w) := (stf_ok w [] trivial).1
theorem ex_st (w : T) : ex (st w) = w := by
  unfold st
  rw [ex_reverse, (stf_ok w [] trivial).2]
  rfl
theorem st_ex {W : List S} (h : Pr W) : st (ex W) = W := ex_inj (st_pr _) h (ex_st _)

/-! ### what a copy does to the stretches -/
inductive Eff : List S → List S → Prop
  | one (A : List S) (a n : Nat) (B : List S) : Eff (A ++ (a, n) :: B) (A ++ (a, n + 1) :: B)
  | two (A : List S) (a n : Nat) (B : List S) : 2 ≤ n → Eff (A ++ (a, n) :: B) (A ++ (a, n + 2) :: B)
  | pair (A : List S) (a n b m : Nat) (B : List S) : Eff (A ++ (a, n) :: (b, m) :: B) (A ++ (a, n) :: (b, 1) :: (a, 1) :: (b, m) :: B)

theorem ex_split : ∀ {W : List S} {l : T} {c : Nat} {r : T}, ex W = l ++ c :: r → ∃ A n1 n2 B, W = A ++ (c, n1 + 1 + n2) :: B ∧ l = ex A ++ List.replicate n1 c ∧ r = List.replicate n2 c ++ ex B
  | [], l, c, r, h => by simp [ex] at h
  | (a, 0) :: W, l, c, r, h => by
    obtain ⟨A, n1, n2, B, h1, h2, h3⟩ := ex_split (W := W) (l := l) (c := c) (r := r) (by simpa [ex] using h)
    exact ⟨(a, 0) :: A, n1, n2, B, by rw [h1]; rfl, by simpa [ex] using h2, h3⟩
  | (a, n + 1) :: W, [], c, r, h => by
    simp [ex, List.replicate_succ] at h
    obtain ⟨rfl, rfl⟩ := h
    exact ⟨[], 0, n, W, by simp; omega, rfl, rfl⟩
  | (a, n + 1) :: W, d :: l, c, r, h => by
    simp [ex, List.replicate_succ] at h
    obtain ⟨rfl, h⟩ := h
    obtain ⟨A, n1, n2, B, h1, h2, h3⟩ := ex_split (W := (a, n) :: W) (l := l) (c := c) (r := r) (by simpa [ex] using h)
    cases A with
    | nil =>
      simp at h1
      obtain ⟨⟨rfl, h4⟩, rfl⟩ := h1
      exact ⟨[], n1 + 1, n2, W, by simp; omega, by rw [h2]; simp [ex, List.replicate_succ], h3⟩
    | cons p A =>
      simp at h1
      obtain ⟨rfl, h4⟩ := h1
      exact ⟨(a, n + 1) :: A, n1, n2, B, by rw [h4]; rfl, by rw [h2]; simp [ex, List.replicate_succ], h3⟩

theorem pr_mid : ∀ {A : List S} {a n n' : Nat} {B : List S}, Pr (A ++ (a, n) :: B) → 1 ≤ n' → Pr (A ++ (a, n') :: B)
  | [], _, _, _, _, h, hn => h.head hn
  | [(c, k)], _, _, _, _, h, hn => ⟨h.1, h.2.1, h.2.2.head hn⟩
  | (c, k) :: (d, l) :: A, _, _, _, _, h, hn => ⟨h.1, h.2.1, pr_mid (A := (d, l) :: A) h.2.2 hn⟩
theorem pr_ins : ∀ {A : List S} {a n b m : Nat} {B : List S}, Pr (A ++ (a, n) :: (b, m) :: B) → Pr (A ++ (a, n) :: (b, 1) :: (a, 1) :: (b, m) :: B)
  | [], _, _, _, _, _, h => ⟨h.1, h.2.1, Nat.le_refl 1, h.2.1.symm, Nat.le_refl 1, h.2⟩
  | [(c, k)], _, _, _, _, _, h => ⟨h.1, h.2.1, pr_ins (A := []) h.2.2⟩
  | (c, k) :: (d, l) :: A, _, _, _, _, _, h => ⟨h.1, h.2.1, pr_ins (A := (d, l) :: A) h.2.2⟩
theorem Pr.right : ∀ {A B : List S}, Pr (A ++ B) → Pr B
  | [], _, h => h
  | _ :: A, _, h => Pr.right (A := A) h.tail

theorem rep_shift (a : Nat) : ∀ (n : Nat) (r : T), List.replicate n a ++ a :: r = a :: (List.replicate n a ++ r)
  | 0, r => rfl
  | n + 1, r => by simp [List.replicate_succ, rep_shift a n r]

theorem rep_split (n m a : Nat) : List.replicate (n + m) a = List.replicate n a ++ List.replicate m a := by simp [List.replicate_append_replicate]
theorem rep1 (a : Nat) : List.replicate 1 a = [a] := rfl

/-- a copy of the text a row of stretches makes -/
theorem eff_of_cp {W : List S} {w' : T} (h : Pr W) (c : Cp (ex W) w') : ∃ W', Pr W' ∧ ex W' = w' ∧ Eff W W' := by
  obtain ⟨l, x, r, hx, hw, rfl⟩ := c
  match x, hx with
  | [c], _ =>
    obtain ⟨A, n1, n2, B, h1, h2, h3⟩ := ex_split (show ex W = l ++ c :: r by rw [hw]; simp)
    subst h1
    refine ⟨A ++ (c, n1 + 1 + n2 + 1) :: B, pr_mid h (by omega), ?_, .one _ _ _ _⟩
    rw [h2, h3, ex_append]
    show ex A ++ (List.replicate (n1 + 1 + n2 + 1) c ++ ex B) = _
    rw [show n1 + 1 + n2 + 1 = n1 + (1 + (1 + n2)) by omega, rep_split, rep_split, rep_split, rep1]
    simp
  | [c, d], _ =>
    obtain ⟨A, n1, n2, B, h1, h2, h3⟩ := ex_split (show ex W = l ++ c :: (d :: r) by rw [hw]; simp)
    subst h1
    cases n2 with
    | succ n2 =>
      simp [List.replicate_succ] at h3
      obtain ⟨rfl, rfl⟩ := h3
      refine ⟨A ++ (d, n1 + 1 + (n2 + 1) + 2) :: B, pr_mid h (by omega), ?_, .two _ _ _ _ (by omega)⟩
      rw [h2, ex_append]
      show ex A ++ (List.replicate (n1 + 1 + (n2 + 1) + 2) d ++ ex B) = _
      rw [show n1 + 1 + (n2 + 1) + 2 = n1 + (1 + (1 + (1 + (1 + n2)))) by omega, rep_split, rep_split, rep_split, rep_split, rep_split, rep1]
      simp
    | zero =>
      simp at h3
      match B, h, h3 with
      | [], _, h3 => simp [ex] at h3
      | (b, 0) :: B, h, h3 =>
        have := h.right.tail.pos
        omega
      | (b, m + 1) :: B, h, h3 =>
        simp [ex, List.replicate_succ] at h3
        obtain ⟨rfl, rfl⟩ := h3
        refine ⟨A ++ (c, n1 + 1) :: (d, 1) :: (c, 1) :: (d, m + 1) :: B, pr_ins h, ?_, .pair _ _ _ _ _ _⟩
        rw [h2, ex_append]
        simp [ex, List.replicate_succ, rep_shift]

/-! ### costs -/
def gr (m n : Nat) : Nat := if m = 1 ∧ 1 < n then 1 + (n - 1) / 2 else (n - m + 1) / 2

theorem gr_self (m : Nat) : gr m m = 0 := by
  unfold gr
  split
  · omega
  · simp
theorem gr_one {m n : Nat} (h : m ≤ n) : gr m (n + 1) ≤ gr m n + 1 := by
  unfold gr
  split <;> split <;> omega
theorem gr_two {m n : Nat} (h : m ≤ n) (h2 : 2 ≤ n) : gr m (n + 2) ≤ gr m n + 1 := by
  unfold gr
  split <;> split <;> omega

/-- the rest of the elder's stretches, from the one that is read on, becomes the rest of the later one's: at c copies; true: behind an uneven number of further stretches -/
inductive Rn : Bool → List S → List S → Nat → Prop
  | done (a : S) : Rn false [a] [] 0
  | mat {a : S} {b m n c : Nat} {E W : List S} : m ≤ n → Rn false ((b, m) :: E) W c → Rn false (a :: (b, m) :: E) ((b, n) :: W) (gr m n + c)
  | out {a : S} {b m n c : Nat} {E W : List S} : Rn true (a :: (b, m) :: E) W c → Rn false (a :: (b, m) :: E) ((b, n) :: W) (1 + gr 1 n + c)
  | back {a l b m n c : Nat} {E W : List S} : Rn false ((a, l) :: (b, m) :: E) W c → Rn true ((a, l) :: (b, m) :: E) ((a, n) :: W) (gr 1 n + c)

/-- the letter behind which one stands -/
def cur : Bool → List S → Nat
  | false, (a, _) :: _ => a
  | true, _ :: (b, _) :: _ => b
  | _, _ => 0

theorem Rn.one {s : Bool} {E V : List S} {c : Nat} (h : Rn s E V c) : ∀ (A : List S) (a n : Nat) (B : List S), V = A ++ (a, n) :: B → (∀ p ∈ V, 1 ≤ p.2) → ∃ c', c' ≤ c + 1 ∧ Rn s E (A ++ (a, n + 1) :: B) c' := by
  induction h with
  | done => intro A a n B h; simp at h
  | @mat p b m n c E W hm hr ih =>
    intro A a k B e hp
    cases A with
    | nil =>
      simp at e
      obtain ⟨⟨rfl, rfl⟩, rfl⟩ := e
      have := gr_one hm
      exact ⟨_, by omega, .mat (Nat.le_succ_of_le hm) hr⟩
    | cons q A =>
      simp at e
      obtain ⟨rfl, rfl⟩ := e
      obtain ⟨c', h1, h2⟩ := ih A a k B rfl (fun p hq => hp p (List.mem_cons_of_mem _ hq))
      exact ⟨_, by omega, .mat hm h2⟩
  | @out p b m n c E W hr ih =>
    intro A a k B e hp
    cases A with
    | nil =>
      simp at e
      obtain ⟨⟨rfl, rfl⟩, rfl⟩ := e
      have := gr_one (m := 1) (n := n) (hp _ List.mem_cons_self)
      exact ⟨_, by omega, .out hr⟩
    | cons q A =>
      simp at e
      obtain ⟨rfl, rfl⟩ := e
      obtain ⟨c', h1, h2⟩ := ih A a k B rfl (fun p hq => hp p (List.mem_cons_of_mem _ hq))
      exact ⟨_, by omega, .out h2⟩
  | @back l0 l b m n c E W hr ih =>
    intro A a k B e hp
    cases A with
    | nil =>
      simp at e
      obtain ⟨⟨rfl, rfl⟩, rfl⟩ := e
      have := gr_one (m := 1) (n := n) (hp _ List.mem_cons_self)
      exact ⟨_, by omega, .back hr⟩
    | cons q A =>
      simp at e
      obtain ⟨rfl, rfl⟩ := e
      obtain ⟨c', h1, h2⟩ := ih A a k B rfl (fun p hq => hp p (List.mem_cons_of_mem _ hq))
      exact ⟨_, by omega, .back h2⟩

theorem Rn.two {s : Bool} {E V : List S} {c : Nat} (h : Rn s E V c) : ∀ (A : List S) (a n : Nat) (B : List S), V = A ++ (a, n) :: B → 2 ≤ n → ∃ c', c' ≤ c + 1 ∧ Rn s E (A ++ (a, n + 2) :: B) c' := by
  induction h with
  | done => intro A a n B h; simp at h
  | @mat p b m n c E W hm hr ih =>
    intro A a k B e hp
    cases A with
    | nil =>
      simp at e
      obtain ⟨⟨rfl, rfl⟩, rfl⟩ := e
      have := gr_two hm hp
      exact ⟨_, by omega, .mat (by omega) hr⟩
    | cons q A =>
      simp at e
      obtain ⟨rfl, rfl⟩ := e
      obtain ⟨c', h1, h2⟩ := ih A a k B rfl hp
      exact ⟨_, by omega, .mat hm h2⟩
  | @out p b m n c E W hr ih =>
    intro A a k B e hp
    cases A with
    | nil =>
      simp at e
      obtain ⟨⟨rfl, rfl⟩, rfl⟩ := e
      have := gr_two (m := 1) (n := n) (by omega) hp
      exact ⟨_, by omega, .out hr⟩
    | cons q A =>
      simp at e
      obtain ⟨rfl, rfl⟩ := e
      obtain ⟨c', h1, h2⟩ := ih A a k B rfl hp
      exact ⟨_, by omega, .out h2⟩
  | @back l0 l b m n c E W hr ih =>
    intro A a k B e hp
    cases A with
    | nil =>
      simp at e
      obtain ⟨⟨rfl, rfl⟩, rfl⟩ := e
      have := gr_two (m := 1) (n := n) (by omega) hp
      exact ⟨_, by omega, .back hr⟩
    | cons q A =>
      simp at e
      obtain ⟨rfl, rfl⟩ := e
      obtain ⟨c', h1, h2⟩ := ih A a k B rfl hp
      exact ⟨_, by omega, .back h2⟩

/-- two further stretches ahead -/
theorem Rn.ins {s : Bool} {E W : List S} {a b m c : Nat} (h : Rn s E ((b, m) :: W) c) (ha : cur s E = a) : Rn s E ((b, 1) :: (a, 1) :: (b, m) :: W) (c + 1) := by
  have key : ∀ k, k + 1 = 1 + gr 1 1 + (gr 1 1 + k) := fun k => by rw [gr_self]; omega
  have key2 : ∀ k, k + 1 = gr 1 1 + (1 + gr 1 1 + k) := fun k => by rw [gr_self]; omega
  cases s with
  | false =>
    match E, h, ha with
    | [p], h, _ => exact nomatch h
    | (a', l) :: (b', m') :: E, h, ha =>
      have e : a' = a := ha
      subst e
      have eb : b = b' := by cases h <;> rfl
      subst eb
      rw [key c]
      exact .out (.back h)
  | true =>
    match E, h, ha with
    | (a', l) :: (b', m') :: E, h, ha =>
      have e : b' = a := ha
      subst e
      have eb : b = a' := by cases h; rfl
      subst eb
      rw [key2 c]
      exact .back (.out h)

theorem Rn.pair {s : Bool} {E V : List S} {c : Nat} (h : Rn s E V c) : ∀ (A : List S) (a n b m : Nat) (B : List S), V = A ++ (a, n) :: (b, m) :: B → Rn s E (A ++ (a, n) :: (b, 1) :: (a, 1) :: (b, m) :: B) (c + 1) := by
  induction h with
  | done => intro A a n b m B h; simp at h
  | @mat p b m n c E W hm hr ih =>
    intro A a k d l B e
    cases A with
    | nil =>
      simp at e
      obtain ⟨⟨rfl, rfl⟩, rfl⟩ := e
      exact .mat hm (hr.ins rfl)
    | cons q A =>
      simp at e
      obtain ⟨rfl, rfl⟩ := e
      exact .mat hm (ih A a k d l B rfl)
  | @out p b m n c E W hr ih =>
    intro A a k d l B e
    cases A with
    | nil =>
      simp at e
      obtain ⟨⟨rfl, rfl⟩, rfl⟩ := e
      exact .out (hr.ins rfl)
    | cons q A =>
      simp at e
      obtain ⟨rfl, rfl⟩ := e
      exact .out (ih A a k d l B rfl)
  | @back l0 l1 b m n c E W hr ih =>
    intro A a k d l B e
    cases A with
    | nil =>
      simp at e
      obtain ⟨⟨rfl, rfl⟩, rfl⟩ := e
      exact .back (hr.ins rfl)
    | cons q A =>
      simp at e
      obtain ⟨rfl, rfl⟩ := e
      exact .back (ih A a k d l B rfl)

/-- the whole -/
inductive M : List S → List S → Nat → Prop
  | mk {a m n c : Nat} {E W : List S} : m ≤ n → Rn false ((a, m) :: E) W c → M ((a, m) :: E) ((a, n) :: W) (gr m n + c)

theorem Pr.all : ∀ {W : List S}, Pr W → ∀ p ∈ W, 1 ≤ p.2
  | (a, n) :: W, h, p, hp => by
    rcases List.mem_cons.mp hp with rfl | hp
    · exact h.pos
    · exact Pr.all h.tail p hp

theorem M.eff {E W W' : List S} {c : Nat} (h : M E W c) (hW : Pr W) (e : Eff W W') : ∃ c', c' ≤ c + 1 ∧ M E W' c' := by
  cases h with
  | @mk a m n c E W hm hr =>
    generalize hV : (a, n) :: W = V at e
    cases e with
    | one A b k B =>
      cases A with
      | nil =>
        simp at hV
        obtain ⟨⟨rfl, rfl⟩, rfl⟩ := hV
        have := gr_one hm
        exact ⟨_, by omega, .mk (Nat.le_succ_of_le hm) hr⟩
      | cons q A =>
        simp at hV
        obtain ⟨rfl, rfl⟩ := hV
        obtain ⟨c', h1, h2⟩ := hr.one A b k B rfl (Pr.all hW.tail)
        exact ⟨_, by omega, .mk hm h2⟩
    | two A b k B hk =>
      cases A with
      | nil =>
        simp at hV
        obtain ⟨⟨rfl, rfl⟩, rfl⟩ := hV
        have := gr_two hm hk
        exact ⟨_, by omega, .mk (by omega) hr⟩
      | cons q A =>
        simp at hV
        obtain ⟨rfl, rfl⟩ := hV
        obtain ⟨c', h1, h2⟩ := hr.two A b k B rfl hk
        exact ⟨_, by omega, .mk hm h2⟩
    | pair A b k d l B =>
      cases A with
      | nil =>
        simp at hV
        obtain ⟨⟨rfl, rfl⟩, rfl⟩ := hV
        exact ⟨_, Nat.le_refl _, .mk hm (hr.ins rfl)⟩
      | cons q A =>
        simp at hV
        obtain ⟨rfl, rfl⟩ := hV
        exact ⟨_, Nat.le_refl _, .mk hm (hr.pair A b k d l B rfl)⟩

theorem Rn.self : ∀ (p : S) (E : List S), Rn false (p :: E) E 0
  | p, [] => .done p
  | p, (b, m) :: E => by
    have h := Rn.mat (a := p) (Nat.le_refl m) (Rn.self (b, m) E)
    rw [gr_self] at h
    exact h
theorem M.self {p : S} {E : List S} : M (p :: E) (p :: E) 0 := by
  obtain ⟨a, m⟩ := p
  have h := M.mk (Nat.le_refl m) (Rn.self (a, m) E)
  rw [gr_self] at h
  exact h

/-- every row of copies costs as much at least -/
theorem M.of_St {n : Nat} {e w : T} (h : St n e w) (he : e ≠ []) : ∃ c, c ≤ n ∧ M (st e) (st w) c := by
  induction h with
  | refl e =>
    cases hs : st e with
    | nil =>
      have := ex_st e
      rw [hs] at this
      exact absurd this.symm he
    | cons p E => exact ⟨0, Nat.le_refl _, .self⟩
  | @tail n e w w' h c ih =>
    obtain ⟨k, hk, hm⟩ := ih he
    obtain ⟨W', p1, p2, p3⟩ := eff_of_cp (W := st w) (st_pr w) (w' := w') (by rw [ex_st]; exact c)
    obtain ⟨k', h1, h2⟩ := hm.eff (st_pr w) p3
    refine ⟨k', by omega, ?_⟩
    rw [← p2, st_ex p1]
    exact h2

end TW
set_option linter.all false
/-! The fewest copies, reckoned stretch by stretch. -/
namespace TW

/-! ### small dicts by numbers -/
section
variable {β : Type}
def look (l : List (Nat × β)) (k : Nat) : Option β := (l.find? fun e => decide (e.1 = k)).map (·.2)
def put (l : List (Nat × β)) (k : Nat) (v : β) : List (Nat × β) :=
  if (l.any fun e => decide (e.1 = k)) = true then l.map (fun e => if e.1 = k then (e.1, v) else e) else l ++ [(k, v)]
def Keys (l : List (Nat × β)) : Prop := (l.map (·.1)).Nodup

theorem look_mem {l : List (Nat × β)} {k : Nat} {v : β} (h : look l k = some v) : (k, v) ∈ l := by
  unfold look at h
  cases e : l.find? fun e => decide (e.1 = k) with
  | none => rw [e] at h; simp at h
  | some p =>
    rw [e] at h
    simp at h
    have h1 := List.find?_some e
    have h2 := List.mem_of_find?_eq_some e
    simp at h1
    rw [← h, ← h1]
    exact h2
theorem look_none {l : List (Nat × β)} {k : Nat} (h : look l k = none) : ∀ v, (k, v) ∉ l := by
  intro v hv
  unfold look at h
  simp at h
  exact h _ _ hv rfl
theorem look_of {l : List (Nat × β)} {k : Nat} {v : β} (hk : Keys l) (h : (k, v) ∈ l) : look l k = some v := by
  induction l with
  | nil => exact nomatch h
  | cons p l ih =>
    unfold Keys at hk
    rw [List.map_cons, List.nodup_cons] at hk
    unfold look
    rcases List.mem_cons.mp h with rfl | h
    · simp
    · have : p.1 ≠ k := fun e => hk.1 (List.mem_map.mpr ⟨_, h, e.symm⟩)
      rw [List.find?_cons_of_neg (by simpa using this)]
      exact ih hk.2 h
theorem look_any (l : List (Nat × β)) (k : Nat) : (l.any fun e => decide (e.1 = k)) = (look l k).isSome := by
  unfold look
  rw [Option.isSome_map]
  induction l with
  | nil => rfl
  | cons p l ih =>
    by_cases e : p.1 = k
    · simp [e]
    · rw [List.any_cons, List.find?_cons_of_neg (by simpa using e), ← ih]
      simp [e]
theorem put_keys {l : List (Nat × β)} {k : Nat} {v : β} (h : Keys l) : Keys (put l k v) := by
  unfold put
  by_cases a : (l.any fun e => decide (e.1 = k)) = true
  · rw [if_pos a]
    unfold Keys at h ⊢
    rw [List.map_map]
    rw [show ((fun x : Nat × β => x.1) ∘ fun e => if e.1 = k then (e.1, v) else e) = (fun x => x.1) from funext fun e => by
      simp only [Function.comp]; split <;> rfl]
    exact h
  · rw [if_neg a]
    unfold Keys at h ⊢
    rw [List.map_append, List.nodup_append]
    refine ⟨h, by simp, ?_⟩
    intro x hx y hy e
    simp at hy
    subst hy
    subst e
    obtain ⟨p, hp, hq⟩ := List.mem_map.mp hx
    exact a (List.any_eq_true.mpr ⟨p, hp, by simpa using hq⟩)
theorem mem_put {l : List (Nat × β)} {k : Nat} {v : β} {e : Nat × β} (h : e ∈ put l k v) : (e ∈ l ∧ e.1 ≠ k) ∨ e = (k, v) := by
  unfold put at h
  by_cases a : (l.any fun e => decide (e.1 = k)) = true
  · rw [if_pos a] at h
    obtain ⟨p, hp, hq⟩ := List.mem_map.mp h
    by_cases c : p.1 = k
    · rw [if_pos c] at hq
      exact .inr (by rw [← hq, c])
    · rw [if_neg c] at hq
      subst hq
      exact .inl ⟨hp, c⟩
  · rw [if_neg a] at h
    rcases List.mem_append.mp h with h | h
    · refine .inl ⟨h, fun c => a (List.any_eq_true.mpr ⟨e, h, by simpa using c⟩)⟩
    · exact .inr (by simpa using h)
theorem put_has (l : List (Nat × β)) (k : Nat) (v : β) : (k, v) ∈ put l k v := by
  unfold put
  by_cases a : (l.any fun e => decide (e.1 = k)) = true
  · rw [if_pos a]
    obtain ⟨p, hp, hq⟩ := List.any_eq_true.mp a
    have hq : p.1 = k := by simpa using hq
    exact List.mem_map.mpr ⟨p, hp, by rw [if_pos hq, hq]⟩
  · rw [if_neg a]
    simp
theorem put_old {l : List (Nat × β)} {k : Nat} {v : β} {e : Nat × β} (h : e ∈ l) (hk : e.1 ≠ k) : e ∈ put l k v := by
  unfold put
  by_cases a : (l.any fun e => decide (e.1 = k)) = true
  · rw [if_pos a]
    exact List.mem_map.mpr ⟨e, h, by rw [if_neg hk]⟩
  · rw [if_neg a]
    exact List.mem_append_left _ h
end

abbrev Ent := Nat × Nat × List Nat

/-! ### the program's reckoning -/
/-- the places that the next stretch of the elder can become, and what they cost more; k: how many further stretches were passed -/
def cfr (a b m : Nat) : Nat → Nat → Nat → List S → List (Nat × Nat)
  | _, _, _, [] => []
  | k, cost, at_, (s, n) :: W =>
    if s ≠ a ∧ s ≠ b then []
    else if s = b ∧ m ≤ n then (at_, cost + k / 2 + gr m n) :: cfr a b m (k + 1) (cost + gr 1 n) (at_ + 1) W
    else cfr a b m (k + 1) (cost + gr 1 n) (at_ + 1) W

def costsFrom (a b m : Nat) (W : List S) (begin : Nat) : List (Nat × Nat) := cfr a b m 0 0 (begin + 1) (W.drop (begin + 1))

def relax (lb : List Ent) (e : Ent) : List Ent :=
  match look lb e.1 with
  | none => put lb e.1 e.2
  | some v => if e.2.1 < v.1 then put lb e.1 e.2 else lb

def turn1 (a b m : Nat) (W : List S) (lb : List Ent) (e : Ent) : List Ent :=
  (costsFrom a b m W e.1).foldl (fun lb q => relax lb (q.1, e.2.1 + q.2, e.2.2 ++ [q.1])) lb
def stage (a b m : Nat) (W : List S) (best : List Ent) : List Ent := best.foldl (turn1 a b m W) []
def stages (W : List S) : S → List S → List Ent → List Ent
  | _, [], best => best
  | p, q :: E, best => stages W q E (stage p.1 q.1 q.2 W best)
def bestOf (own W : List S) : List Ent :=
  match own, W with
  | (a, m) :: E, (_, n) :: _ => stages W (a, m) E [(0, gr m n, [0])]
  | _, _ => []

/-! ### relaxing -/
theorem relax_keys {lb : List Ent} {e : Ent} (h : Keys lb) : Keys (relax lb e) := by
  unfold relax
  split
  · exact put_keys h
  · split
    · exact put_keys h
    · exact h
theorem relax_from {lb : List Ent} {e x : Ent} (h : x ∈ relax lb e) : x ∈ lb ∨ x = e := by
  unfold relax at h
  split at h
  · rcases mem_put h with h | h
    · exact .inl h.1
    · exact .inr h
  · split at h
    · rcases mem_put h with h | h
      · exact .inl h.1
      · exact .inr h
    · exact .inl h
theorem relax_has (lb : List Ent) (e : Ent) : ∃ c sp, (e.1, c, sp) ∈ relax lb e ∧ c ≤ e.2.1 := by
  unfold relax
  split
  · exact ⟨_, _, put_has _ _ _, Nat.le_refl _⟩
  · rename_i v hv
    split
    · exact ⟨_, _, put_has _ _ _, Nat.le_refl _⟩
    · exact ⟨v.1, v.2, look_mem hv, by omega⟩
theorem relax_old {lb : List Ent} {e : Ent} (hk : Keys lb) {x : Ent} (h : x ∈ lb) : ∃ c sp, (x.1, c, sp) ∈ relax lb e ∧ c ≤ x.2.1 := by
  unfold relax
  split
  · rename_i hn
    by_cases c : x.1 = e.1
    · exact absurd (c ▸ (show (x.1, x.2) ∈ lb from h)) (look_none hn _)
    · exact ⟨_, _, put_old h c, Nat.le_refl _⟩
  · rename_i v hv
    split
    · by_cases c : x.1 = e.1
      · have := look_of hk (show (e.1, x.2) ∈ lb from c ▸ h)
        rw [hv] at this
        have e2 : v = x.2 := Option.some.inj this
        rw [c]
        have e3 : v.1 = x.2.1 := congrArg (fun z => z.1) e2
        exact ⟨e.2.1, e.2.2, put_has _ _ _, by omega⟩
      · exact ⟨_, _, put_old h c, Nat.le_refl _⟩
    · exact ⟨_, _, h, Nat.le_refl _⟩

theorem fold_keys {α : Type} (f : α → Ent) : ∀ (qs : List α) (lb : List Ent), Keys lb → Keys (qs.foldl (fun lb q => relax lb (f q)) lb)
  | [], _, h => h
  | q :: qs, lb, h => fold_keys f qs _ (relax_keys h)
theorem fold_from {α : Type} (f : α → Ent) : ∀ (qs : List α) (lb : List Ent) {x : Ent}, x ∈ qs.foldl (fun lb q => relax lb (f q)) lb → x ∈ lb ∨ ∃ q ∈ qs, x = f q
  | [], _, _, h => .inl h
  | q :: qs, lb, x, h => by
    rcases fold_from f qs _ h with h | ⟨p, hp, e⟩
    · rcases relax_from h with h | h
      · exact .inl h
      · exact .inr ⟨q, List.mem_cons_self, h⟩
    · exact .inr ⟨p, List.mem_cons_of_mem _ hp, e⟩
theorem fold_old {α : Type} (f : α → Ent) : ∀ (qs : List α) (lb : List Ent) {x : Ent}, Keys lb → x ∈ lb → ∃ c sp, (x.1, c, sp) ∈ qs.foldl (fun lb q => relax lb (f q)) lb ∧ c ≤ x.2.1
  | [], _, x, _, h => ⟨_, _, h, Nat.le_refl _⟩
  | q :: qs, lb, x, hk, h => by
    obtain ⟨c, sp, h1, h2⟩ := relax_old (e := f q) hk h
    obtain ⟨c2, sp2, h3, h4⟩ := fold_old f qs _ (relax_keys hk) h1
    exact ⟨c2, sp2, h3, Nat.le_trans h4 h2⟩
theorem fold_has {α : Type} (f : α → Ent) : ∀ (qs : List α) (lb : List Ent) {q : α}, Keys lb → q ∈ qs → ∃ c sp, ((f q).1, c, sp) ∈ qs.foldl (fun lb q => relax lb (f q)) lb ∧ c ≤ (f q).2.1
  | p :: qs, lb, q, hk, h => by
    rcases List.mem_cons.mp h with rfl | h
    · obtain ⟨c, sp, h1, h2⟩ := relax_has lb (f q)
      obtain ⟨c2, sp2, h3, h4⟩ := fold_old f qs _ (relax_keys hk) h1
      exact ⟨c2, sp2, h3, Nat.le_trans h4 h2⟩
    · exact fold_has f qs _ (relax_keys hk) h

theorem turn1_keys {a b m : Nat} {W : List S} {lb : List Ent} {e : Ent} (h : Keys lb) : Keys (turn1 a b m W lb e) := fold_keys _ _ _ h
theorem stage_keys' {a b m : Nat} {W : List S} : ∀ (best lb : List Ent), Keys lb → Keys (best.foldl (turn1 a b m W) lb)
  | [], _, h => h
  | e :: best, lb, h => stage_keys' best _ (turn1_keys h)
theorem stage_keys {a b m : Nat} {W : List S} {best : List Ent} : Keys (stage a b m W best) := stage_keys' best [] List.nodup_nil

theorem stage_from' {a b m : Nat} {W : List S} : ∀ (best lb : List Ent) {x : Ent}, x ∈ best.foldl (turn1 a b m W) lb → x ∈ lb ∨ ∃ e ∈ best, ∃ q ∈ costsFrom a b m W e.1, x = (q.1, e.2.1 + q.2, e.2.2 ++ [q.1])
  | [], _, _, h => .inl h
  | e :: best, lb, x, h => by
    rcases stage_from' best _ h with h | ⟨e', he, q, hq, hx⟩
    · rcases fold_from _ _ _ h with h | ⟨q, hq, hx⟩
      · exact .inl h
      · exact .inr ⟨e, List.mem_cons_self, q, hq, hx⟩
    · exact .inr ⟨e', List.mem_cons_of_mem _ he, q, hq, hx⟩
theorem stage_from {a b m : Nat} {W : List S} {best : List Ent} {x : Ent} (h : x ∈ stage a b m W best) : ∃ e ∈ best, ∃ q ∈ costsFrom a b m W e.1, x = (q.1, e.2.1 + q.2, e.2.2 ++ [q.1]) := by
  rcases stage_from' best [] h with h | h
  · exact nomatch h
  · exact h

theorem stage_old' {a b m : Nat} {W : List S} : ∀ (best lb : List Ent) {x : Ent}, Keys lb → x ∈ lb → ∃ c sp, (x.1, c, sp) ∈ best.foldl (turn1 a b m W) lb ∧ c ≤ x.2.1
  | [], _, _, _, h => ⟨_, _, h, Nat.le_refl _⟩
  | e :: best, lb, x, hk, h => by
    obtain ⟨c, sp, h1, h2⟩ := fold_old (fun q => (q.1, e.2.1 + q.2, e.2.2 ++ [q.1])) (costsFrom a b m W e.1) lb hk h
    obtain ⟨c2, sp2, h3, h4⟩ := stage_old' best _ (turn1_keys hk) h1
    exact ⟨c2, sp2, h3, Nat.le_trans h4 h2⟩
theorem stage_has' {a b m : Nat} {W : List S} : ∀ (best lb : List Ent) {e : Ent} {q : Nat × Nat}, Keys lb → e ∈ best → q ∈ costsFrom a b m W e.1 → ∃ c sp, (q.1, c, sp) ∈ best.foldl (turn1 a b m W) lb ∧ c ≤ e.2.1 + q.2
  | p :: best, lb, e, q, hk, h, hq => by
    rcases List.mem_cons.mp h with rfl | h
    · obtain ⟨c, sp, h1, h2⟩ := fold_has (fun q => (q.1, e.2.1 + q.2, e.2.2 ++ [q.1])) (costsFrom a b m W e.1) lb hk hq
      obtain ⟨c2, sp2, h3, h4⟩ := stage_old' best _ (turn1_keys hk) h1
      exact ⟨c2, sp2, h3, Nat.le_trans h4 h2⟩
    · exact stage_has' best _ (turn1_keys hk) h hq
theorem stage_has {a b m : Nat} {W : List S} {best : List Ent} {e : Ent} {q : Nat × Nat} (h : e ∈ best) (hq : q ∈ costsFrom a b m W e.1) : ∃ c sp, (q.1, c, sp) ∈ stage a b m W best ∧ c ≤ e.2.1 + q.2 :=
  stage_has' best [] List.nodup_nil h hq

/-! ### costsFrom against the runs -/
theorem cf_has {s : Bool} {E' W : List S} {c : Nat} (h : Rn s E' W c) : ∀ {p : S} {b m : Nat} {E : List S} (k cost at_ : Nat), E' = p :: (b, m) :: E → (s = false ∧ k % 2 = 0 ∨ s = true ∧ k % 2 = 1) →
    ∃ j x c', (at_ + j, x) ∈ cfr p.1 b m k cost at_ W ∧ Rn false ((b, m) :: E) (W.drop (j + 1)) c' ∧ x + c' = cost + (k + 1) / 2 + c := by
  induction h with
  | done => intro p b m E k cost at_ e; simp at e
  | @mat p' b' m' n c E0 W hm hr ih =>
    intro p b m E k cost at_ e hs
    simp at e
    obtain ⟨rfl, ⟨rfl, rfl⟩, rfl⟩ := e
    have hk : k % 2 = 0 := by rcases hs with h | h; exact h.2; exact nomatch h.1
    refine ⟨0, cost + k / 2 + gr m' n, c, ?_, hr, by omega⟩
    unfold cfr
    rw [if_neg (by simp), if_pos ⟨rfl, hm⟩]
    exact List.mem_cons_self
  | @out p' b' m' n c E0 W hr ih =>
    intro p b m E k cost at_ e hs
    have hk : k % 2 = 0 := by rcases hs with h | h; exact h.2; exact nomatch h.1
    obtain ⟨j, x, c', h1, h2, h3⟩ := ih (k + 1) (cost + gr 1 n) (at_ + 1) e (.inr ⟨rfl, by omega⟩)
    simp at e
    obtain ⟨rfl, ⟨rfl, rfl⟩, rfl⟩ := e
    refine ⟨j + 1, x, c', ?_, h2, by omega⟩
    unfold cfr
    rw [if_neg (by simp)]
    rw [show at_ + (j + 1) = at_ + 1 + j by omega]
    split
    · exact List.mem_cons_of_mem _ h1
    · exact h1
  | @back a' l' b' m' n c E0 W hr ih =>
    intro p b m E k cost at_ e hs
    have hk : k % 2 = 1 := by rcases hs with h | h; exact nomatch h.1; exact h.2
    obtain ⟨j, x, c', h1, h2, h3⟩ := ih (k + 1) (cost + gr 1 n) (at_ + 1) e (.inl ⟨rfl, by omega⟩)
    simp at e
    obtain ⟨rfl, ⟨rfl, rfl⟩, rfl⟩ := e
    refine ⟨j + 1, x, c', ?_, h2, by omega⟩
    unfold cfr
    rw [if_neg (by simp)]
    rw [show at_ + (j + 1) = at_ + 1 + j by omega]
    split
    · exact List.mem_cons_of_mem _ h1
    · exact h1

/-- so many stretches of one letter each, x, y, x, .. -/
def altL (x y : Nat) : Nat → List S
  | 0 => []
  | n + 1 => (x, 1) :: altL y x n
theorem altL_len : ∀ (n x y : Nat), (altL x y n).length = n
  | 0, _, _ => rfl
  | n + 1, x, y => by simp [altL, altL_len n]

/-- letter by letter the same, none longer -/
def Pw : List S → List S → Prop
  | [], [] => True
  | (a, m) :: A, (b, n) :: B => a = b ∧ m ≤ n ∧ Pw A B
  | _, _ => False
def grs : List S → List S → Nat
  | (_, m) :: A, (_, n) :: B => gr m n + grs A B
  | _, _ => 0
theorem Pw.append : ∀ {A B C D : List S}, Pw A B → Pw C D → Pw (A ++ C) (B ++ D)
  | [], [], _, _, _, h => h
  | (a, m) :: A, (b, n) :: B, _, _, h, h2 => ⟨h.1, h.2.1, Pw.append h.2.2 h2⟩
theorem Pw.len : ∀ {A B : List S}, Pw A B → A.length = B.length
  | [], [], _ => rfl
  | (a, m) :: A, (b, n) :: B, h => by simp [Pw.len h.2.2]
theorem grs_append : ∀ {A B C D : List S}, Pw A B → grs (A ++ C) (B ++ D) = grs A B + grs C D
  | [], [], _, _, _ => by simp [grs]
  | (a, m) :: A, (b, n) :: B, C, D, h => by
    simp only [List.cons_append, grs, grs_append h.2.2]; omega

theorem cf_from {a b m : Nat} (hab : a ≠ b) : ∀ (W : List S) (k cost at_ : Nat) (p q l : Nat) {j x : Nat}, (p = a ∧ q = b ∧ k % 2 = 0) ∨ (p = b ∧ q = a ∧ k % 2 = 1) → Pr ((p, l) :: W) → (j, x) ∈ cfr a b m k cost at_ W →
    ∃ (i n : Nat) (W1 : List S), (k + i) % 2 = 0 ∧ W = W.take i ++ (b, n) :: W1 ∧ i < W.length ∧ j = at_ + i ∧ m ≤ n ∧ Pw (altL q p i) (W.take i) ∧ x = cost + (k + i) / 2 + grs (altL q p i) (W.take i) + gr m n
  | [], k, cost, at_, p, q, l, j, x, hp, hW, h => by simp [cfr] at h
  | (s, n) :: W, k, cost, at_, p, q, l, j, x, hp, hW, h => by
    have hsp : p ≠ s := hW.ne
    unfold cfr at h
    by_cases c1 : s ≠ a ∧ s ≠ b
    · rw [if_pos c1] at h; exact nomatch h
    · rw [if_neg c1] at h
      have hs : s = q := by
        rcases hp with ⟨rfl, rfl, _⟩ | ⟨rfl, rfl, _⟩
        · by_cases e : s = q
          · exact e
          · exact absurd ⟨fun z => hsp z.symm, e⟩ c1
        · by_cases e : s = q
          · exact e
          · exact absurd ⟨e, fun z => hsp z.symm⟩ c1
      subst hs
      have hn : 1 ≤ n := hW.tail.pos
      have go : (j, x) ∈ cfr a b m (k + 1) (cost + gr 1 n) (at_ + 1) W → ∃ (i n' : Nat) (W1 : List S), (k + i) % 2 = 0 ∧ (s, n) :: W = ((s, n) :: W).take i ++ (b, n') :: W1 ∧ i < ((s, n) :: W).length ∧ j = at_ + i ∧ m ≤ n' ∧ Pw (altL s p i) (((s, n) :: W).take i) ∧ x = cost + (k + i) / 2 + grs (altL s p i) (((s, n) :: W).take i) + gr m n' := by
        intro h
        obtain ⟨i, n', W1, h1, h2, h3, h4, h5, h6, h7⟩ := cf_from hab W (k + 1) (cost + gr 1 n) (at_ + 1) s p n (by
          rcases hp with ⟨e1, e2, e3⟩ | ⟨e1, e2, e3⟩
          · exact .inr ⟨e2, e1, by omega⟩
          · exact .inl ⟨e2, e1, by omega⟩) hW.tail h
        refine ⟨i + 1, n', W1, by rw [← h1]; congr 1; omega, ?_, by simp; omega, by omega, h5, ?_, ?_⟩
        · rw [List.take_succ_cons, List.cons_append, ← h2]
        · rw [List.take_succ_cons]
          exact ⟨rfl, hn, h6⟩
        · rw [List.take_succ_cons]
          simp only [altL, grs]
          rw [h7, show k + 1 + i = k + (i + 1) by omega]
          omega
      by_cases c2 : s = b ∧ m ≤ n
      · rw [if_pos c2] at h
        rcases List.mem_cons.mp h with h | h
        · have hk : k % 2 = 0 := by
            rcases hp with ⟨_, _, e⟩ | ⟨e1, e2, _⟩
            · exact e
            · exact absurd (e2.symm.trans c2.1) hab
          cases h
          refine ⟨0, n, W, hk, ?_, by simp, rfl, c2.2, trivial, by simp [altL, grs]⟩
          rw [c2.1]; rfl
        · exact go h
      · rw [if_neg c2] at h
        exact go h

/-! ### what the spots stand for -/
/-- P: the elder's stretches so far; sp: what they become; S1: they with the further stretches, one letter each, between them; G: pairs put in -/
inductive Mix : List S → List Nat → List S → Nat → Prop
  | base (p : S) : Mix [p] [0] [p] 0
  | step {P : List S} {p : S} {sp : List Nat} {at_ : Nat} {S1 : List S} {G : Nat} (b m g : Nat) : Mix (P ++ [p]) (sp ++ [at_]) (S1 ++ [p]) G → S1.length = at_ →
    Mix (P ++ [p] ++ [(b, m)]) (sp ++ [at_] ++ [at_ + 2 * g + 1]) (S1 ++ [p] ++ altL b p.1 (2 * g) ++ [(b, m)]) (G + g)

theorem take_snoc_drop {W : List S} {i : Nat} {p : S} {V : List S} (h : W.drop i = p :: V) : W.take (i + 1) = W.take i ++ [p] := by
  have hl : i < W.length := by
    have := congrArg List.length h
    simp at this; omega
  rw [List.take_add_one]
  have : W[i]? = some p := by
    rw [← List.head?_drop, h]; rfl
  rw [this]; rfl

/-- one entry of the dict: after the stretches P of the elder -/
def Good (W P : List S) (p : S) (e : Ent) : Prop :=
  ∃ P0 sp S1 G, P = P0 ++ [p] ∧ e.2.2 = sp ++ [e.1] ∧ Mix P e.2.2 (S1 ++ [p]) G ∧ S1.length = e.1 ∧ e.1 < W.length ∧ Pw (S1 ++ [p]) (W.take (e.1 + 1)) ∧ e.2.1 = G + grs (S1 ++ [p]) (W.take (e.1 + 1))

theorem pr_drop {W : List S} (h : Pr W) : ∀ i, Pr (W.drop i) := by
  intro i
  rw [← List.take_append_drop i W] at h
  exact h.right

theorem good_step {W P : List S} {p : S} {b m : Nat} {e : Ent} (hW : Pr W) (hab : p.1 ≠ b) (h : Good W P p e) {q : Nat × Nat} (hq : q ∈ costsFrom p.1 b m W e.1) :
    Good W (P ++ [(b, m)]) (b, m) (q.1, e.2.1 + q.2, e.2.2 ++ [q.1]) := by
  obtain ⟨P0, sp, S1, G, rfl, hsp, hM, hS, hlt, hP, hc⟩ := h
  obtain ⟨at_, c, sp'⟩ := e
  simp only at hsp hS hlt hP hc hM hq ⊢
  subst hsp
  obtain ⟨j, x⟩ := q
  unfold costsFrom at hq
  -- the letter at at_ is p's
  have hlet : ∃ l, Pr ((p.1, l) :: W.drop (at_ + 1)) := by
    have hd : W.drop at_ = W[at_] :: W.drop (at_ + 1) := by simp
    have htk : W.take (at_ + 1) = W.take at_ ++ [W[at_]] := take_snoc_drop hd
    rw [htk] at hP
    have hle : S1.length = (W.take at_).length := by rw [List.length_take]; omega
    have : ∀ {A B : List S} {x y : S}, A.length = B.length → Pw (A ++ [x]) (B ++ [y]) → x.1 = y.1 := by
      intro A
      induction A with
      | nil =>
        intro B x y hl hp
        cases B with
        | nil => exact hp.1
        | cons _ _ => simp at hl
      | cons u A ih =>
        intro B x y hl hp
        cases B with
        | nil => simp at hl
        | cons v B => exact ih (by simpa using hl) hp.2.2
    have e := this hle hP
    have hp2 := pr_drop hW at_
    rw [hd] at hp2
    refine ⟨W[at_].2, ?_⟩
    rw [e]
    exact hp2
  obtain ⟨l, hl⟩ := hlet
  obtain ⟨i, n, W1, h1, h2, h3, h4, h5, h6, h7⟩ := cf_from hab (W.drop (at_ + 1)) 0 0 (at_ + 1) p.1 b l (.inl ⟨rfl, rfl, rfl⟩) hl hq
  obtain ⟨g, rfl⟩ : ∃ g, i = 2 * g := ⟨i / 2, by omega⟩
  have hj : j = at_ + 2 * g + 1 := by omega
  subst hj
  have hlen : at_ + 1 + 2 * g < W.length := by simp at h3; omega
  have htake : W.take (at_ + 2 * g + 1 + 1) = W.take (at_ + 1) ++ (W.drop (at_ + 1)).take (2 * g) ++ [(b, n)] := by
    have e1 : W.drop (at_ + 1 + 2 * g) = (b, n) :: W1 := by
      rw [← List.drop_drop]
      conv => lhs; rw [h2]
      rw [List.drop_append_of_le_length (by rw [List.length_take]; simp at h3 ⊢; omega)]
      rw [List.drop_of_length_le (by rw [List.length_take]; omega)]
      rfl
    rw [show at_ + 2 * g + 1 + 1 = (at_ + 1 + 2 * g) + 1 by omega, take_snoc_drop e1, List.take_add]
  refine ⟨P0 ++ [p], sp ++ [at_], S1 ++ [p] ++ altL b p.1 (2 * g), G + g, rfl, rfl, .step b m g hM hS, ?_, by show at_ + 2 * g + 1 < W.length; omega, ?_, ?_⟩
  · simp [altL_len]; omega
  · show Pw _ (W.take (at_ + 2 * g + 1 + 1))
    rw [htake]
    exact (hP.append h6).append ⟨rfl, h5, trivial⟩
  · show c + x = _ + grs _ (W.take (at_ + 2 * g + 1 + 1))
    rw [htake, grs_append (hP.append h6), grs_append hP, h7, hc]
    show _ = G + g + (_ + (gr m n + 0))
    omega

/-! ### the dict behind each stage -/
structure BestInv (own W P : List S) (p : S) (E : List S) (best : List Ent) : Prop where
  keys : Keys best
  good : ∀ e ∈ best, Good W P p e
  has : ∀ C, M own W C → ∃ e ∈ best, ∃ c', Rn false (p :: E) (W.drop (e.1 + 1)) c' ∧ e.2.1 + c' ≤ C

theorem best_step {own W P : List S} {p : S} {b m : Nat} {E : List S} {best : List Ent} (hW : Pr W) (hab : p.1 ≠ b) (h : BestInv own W P p ((b, m) :: E) best) :
    BestInv own W (P ++ [(b, m)]) (b, m) E (stage p.1 b m W best) := by
  refine ⟨stage_keys, fun e he => ?_, fun C hC => ?_⟩
  · obtain ⟨e0, he0, q, hq, rfl⟩ := stage_from he
    exact good_step hW hab (h.good _ he0) hq
  · obtain ⟨e, he, c', hr, hc⟩ := h.has C hC
    obtain ⟨j, x, c2, h1, h2, h3⟩ := cf_has hr (p := p) (b := b) (m := m) (E := E) 0 0 (e.1 + 1) rfl (.inl ⟨rfl, rfl⟩)
    obtain ⟨c3, sp, h4, h5⟩ := stage_has (best := best) (e := e) (q := (e.1 + 1 + j, x)) he h1
    refine ⟨_, h4, c2, ?_, ?_⟩
    · rw [List.drop_drop] at h2
      exact h2
    · show c3 + c2 ≤ C
      simp only at h5
      omega

theorem stages_inv {own W : List S} (hW : Pr W) : ∀ (E P : List S) (p : S) (best : List Ent), Pr (p :: E) → BestInv own W P p E best → ∃ p', BestInv own W (P ++ E) p' [] (stages W p E best)
  | [], P, p, best, _, h => ⟨p, by rw [List.append_nil]; exact h⟩
  | (b, m) :: E, P, p, best, hp, h => by
    have hab : p.1 ≠ b := by
      obtain ⟨a, n⟩ := p
      exact hp.ne
    obtain ⟨p', h'⟩ := stages_inv hW E (P ++ [(b, m)]) (b, m) (stage p.1 b m W best) hp.tail (best_step hW hab h)
    exact ⟨p', by
      rw [show P ++ (b, m) :: E = P ++ [(b, m)] ++ E by simp]
      exact h'⟩

theorem best_inv {a m n : Nat} {E W' : List S} (hW : Pr ((a, n) :: W')) (hE : Pr ((a, m) :: E)) (hm : m ≤ n) : ∃ p', BestInv ((a, m) :: E) ((a, n) :: W') ((a, m) :: E) p' [] (bestOf ((a, m) :: E) ((a, n) :: W')) := by
  refine stages_inv hW E [(a, m)] (a, m) _ hE ⟨?_, ?_, ?_⟩
  · exact List.nodup_cons.mpr ⟨List.not_mem_nil, List.nodup_nil⟩
  · intro e he
    simp at he
    subst he
    exact ⟨[], [], [], 0, rfl, rfl, .base _, rfl, by simp, ⟨rfl, hm, trivial⟩, by simp [grs]⟩
  · intro C hC
    cases hC with
    | mk hm' hr => exact ⟨_, List.mem_cons_self, _, hr, Nat.le_refl _⟩

/-- the entry at the last stretch -/
structure Last (own W : List S) (c : Nat) (sp : List Nat) : Prop where
  look : look (bestOf own W) (W.length - 1) = some (c, sp)
  mix : ∃ S1 G, Mix own sp S1 G ∧ Pw S1 W ∧ c = G + grs S1 W
  least : ∀ C, M own W C → c ≤ C

theorem last_of {own W : List S} (hO : Pr own) (hW : Pr W) {C : Nat} (h : M own W C) : ∃ c sp, Last own W c sp := by
  cases h with
  | @mk a m n c0 E W' hm hr =>
    obtain ⟨p', I⟩ := best_inv hW hO hm
    have fin : ∀ {V : List S} {c' : Nat}, Rn false [p'] V c' → V = [] ∧ c' = 0 := fun h => by cases h; exact ⟨rfl, rfl⟩
    have atlast : ∀ e ∈ bestOf ((a, m) :: E) ((a, n) :: W'), ∀ c', Rn false [p'] (((a, n) :: W').drop (e.1 + 1)) c' → e.1 = ((a, n) :: W').length - 1 := fun e he c' hr => by
      have h1 := (fin hr).1
      have h2 := congrArg List.length h1
      simp at h2
      obtain ⟨_, _, _, _, _, _, _, _, h5, _⟩ := I.good e he
      simp at h5 ⊢
      omega
    obtain ⟨e, he, c', hr', hc⟩ := I.has _ (.mk hm hr)
    have e1 := atlast e he c' hr'
    refine ⟨e.2.1, e.2.2, ?_, ?_, ?_⟩
    · rw [← e1]
      exact look_of I.keys he
    · obtain ⟨P0, sp, S1, G, hP, hsp, hM, hS, hlt, hPw, hcc⟩ := I.good e he
      rw [e1, List.take_of_length_le (by simp)] at hPw hcc
      exact ⟨_, _, hM, hPw, hcc⟩
    · intro C hC
      obtain ⟨e', he', c2, hr2, hc2⟩ := I.has C hC
      have e2 := atlast e' he' c2 hr2
      have k1 := look_of I.keys (show (e.1, e.2) ∈ _ from he)
      have k2 := look_of I.keys (show (e'.1, e'.2) ∈ _ from he')
      rw [e2, ← e1, k1] at k2
      have e3 : e.2 = e'.2 := Option.some.inj k2
      rw [e3]
      omega

/-! ### the copies that the spots stand for -/
theorem alt_append (b a : Nat) : ∀ g, altL b a (2 * (g + 1)) = (b, 1) :: (a, 1) :: altL b a (2 * g)
  | g => by
    rw [show 2 * (g + 1) = 2 * g + 1 + 1 by omega]
    rfl

/-- a pair put in behind the last letter of l: l ends with a, r begins with b -/
theorem cp_pair (l r : T) (a b : Nat) : Cp (l ++ [a] ++ b :: r) (l ++ [a] ++ b :: a :: b :: r) := ⟨l, [a, b], r, .inr rfl, by simp, by simp⟩

theorem ex_snoc (A : List S) (a n : Nat) (h : 1 ≤ n) : ex (A ++ [(a, n)]) = ex A ++ List.replicate (n - 1) a ++ [a] := by
  rw [ex_append]
  obtain ⟨k, rfl⟩ : ∃ k, n = k + 1 := ⟨n - 1, by omega⟩
  simp [ex, List.replicate_succ']

theorem ex_cons_pos (b m : Nat) (B : List S) (h : 1 ≤ m) : ex ((b, m) :: B) = b :: (List.replicate (m - 1) b ++ ex B) := by
  obtain ⟨k, rfl⟩ : ∃ k, m = k + 1 := ⟨m - 1, by omega⟩
  simp [ex, List.replicate_succ]

/-- one pair more -/
theorem cp_ins (A : List S) (a n b m : Nat) (B : List S) (hn : 1 ≤ n) (hm : 1 ≤ m) : Cp (ex (A ++ [(a, n)] ++ (b, m) :: B)) (ex (A ++ [(a, n)] ++ (b, 1) :: (a, 1) :: (b, m) :: B)) := by
  rw [ex_append (A ++ [(a, n)]), ex_append (A ++ [(a, n)]), ex_snoc A a n hn]
  have e : ex ((b, 1) :: (a, 1) :: (b, m) :: B) = b :: a :: ex ((b, m) :: B) := rfl
  rw [e, ex_cons_pos b m B hm]
  exact cp_pair _ _ a b

theorem st_ins (A : List S) (a n b m : Nat) (B : List S) (hn : 1 ≤ n) (hm : 1 ≤ m) : ∀ g, St g (ex (A ++ [(a, n)] ++ (b, m) :: B)) (ex (A ++ [(a, n)] ++ altL b a (2 * g) ++ (b, m) :: B))
  | 0 => by simp only [Nat.mul_zero, altL, List.append_nil]; exact .refl _
  | g + 1 => by
    rw [alt_append]
    refine .tail (st_ins A a n b m B hn hm g) ?_
    cases g with
    | zero =>
      have := cp_ins A a n b m B hn hm
      simpa [altL] using this
    | succ g =>
      rw [alt_append]
      have := cp_ins A a n b 1 ((a, 1) :: altL b a (2 * g) ++ (b, m) :: B) hn (Nat.le_refl 1)
      simpa using this

theorem Mix.st {P : List S} {sp : List Nat} {S1 : List S} {G : Nat} (h : Mix P sp S1 G) : (∀ p ∈ P, 1 ≤ p.2) → St G (ex P) (ex S1) := by
  induction h with
  | base p => intro _; exact .refl _
  | @step P p sp at_ S1 G b m g hM hS ih =>
    intro hp
    have h1 := ih (fun q hq => hp q (List.mem_append_left _ hq))
    have h2 := h1.post (ex [(b, m)])
    rw [← ex_append, ← ex_append] at h2
    refine h2.trans ?_
    obtain ⟨a, n⟩ := p
    have := st_ins S1 a n b m [] (hp (a, n) (by simp)) (hp (b, m) (by simp)) g
    simpa using this

/-- one stretch grown -/
theorem st_rep (a : Nat) : ∀ (k m : Nat), 1 ≤ m → St (gr m (m + k)) (List.replicate m a) (List.replicate (m + k) a) := by
  intro k
  induction k using Nat.strongRecOn with
  | ind k ih =>
    intro m hm
    match k with
    | 0 => rw [Nat.add_zero, gr_self]; exact .refl _
    | 1 =>
      have e : gr m (m + 1) = 1 := by unfold gr; split <;> omega
      rw [e]
      refine .one ⟨List.replicate (m - 1) a, [a], [], .inl rfl, ?_, ?_⟩
      · obtain ⟨j, rfl⟩ : ∃ j, m = j + 1 := ⟨m - 1, by omega⟩
        simp [List.replicate_succ']
      · obtain ⟨j, rfl⟩ : ∃ j, m = j + 1 := ⟨m - 1, by omega⟩
        simp [List.replicate_succ']
    | k + 2 =>
      by_cases h1 : m = 1
      · subst h1
        have e : gr 1 (1 + (k + 2)) = gr 2 (2 + (k + 1)) + 1 := by unfold gr; split <;> split <;> omega
        have h2 := ih (k + 1) (by omega) 2 (by omega)
        rw [e, show 1 + (k + 2) = 2 + (k + 1) by omega]
        exact .head ⟨[], [a], [], .inl rfl, rfl, rfl⟩ h2
      · have e : gr m (m + (k + 2)) = gr (m + 2) (m + 2 + k) + 1 := by unfold gr; split <;> split <;> omega
        have h2 := ih k (by omega) (m + 2) (by omega)
        rw [e, show m + (k + 2) = m + 2 + k by omega]
        refine .head ⟨List.replicate (m - 2) a, [a, a], [], .inr rfl, ?_, ?_⟩ h2
        · obtain ⟨j, rfl⟩ : ∃ j, m = j + 2 := ⟨m - 2, by omega⟩
          simp [List.replicate_succ']
        · obtain ⟨j, rfl⟩ : ∃ j, m = j + 2 := ⟨m - 2, by omega⟩
          simp [List.replicate_succ']

theorem st_pw : ∀ {A B : List S}, Pw A B → (∀ p ∈ A, 1 ≤ p.2) → St (grs A B) (ex A) (ex B)
  | [], [], _, _ => .refl _
  | (a, m) :: A, (b, n) :: B, h, hp => by
    obtain ⟨rfl, hm, h⟩ := h
    have h1 := st_rep a (n - m) m (hp (a, m) (by simp))
    rw [show m + (n - m) = n by omega] at h1
    have h2 := st_pw h (fun q hq => hp q (List.mem_cons_of_mem _ hq))
    exact (h1.post (ex A)).trans (h2.pre (List.replicate n a))

theorem altL_pos : ∀ (n x y : Nat), ∀ p ∈ altL x y n, 1 ≤ p.2
  | 0, _, _, p, h => nomatch h
  | n + 1, x, y, p, h => by
    rcases List.mem_cons.mp h with rfl | h
    · exact Nat.le_refl 1
    · exact altL_pos n y x p h
theorem Mix.pos {P : List S} {sp : List Nat} {S1 : List S} {G : Nat} (h : Mix P sp S1 G) : (∀ p ∈ P, 1 ≤ p.2) → ∀ p ∈ S1, 1 ≤ p.2 := by
  induction h with
  | base p => intro h; exact h
  | @step P p sp at_ S1 G b m g hM hS ih =>
    intro hp q hq
    rw [List.mem_append, List.mem_append] at hq
    rcases hq with (hq | hq) | hq
    · exact ih (fun q hq => hp q (List.mem_append_left _ hq)) q hq
    · exact altL_pos _ _ _ q hq
    · simp at hq; subst hq; exact hp _ (by simp)

theorem Last.D {e w : T} {c : Nat} {sp : List Nat} (h : Last (st e) (st w) c sp) (he : e ≠ []) : D e w c := by
  obtain ⟨S1, G, hM, hP, hc⟩ := h.mix
  have p0 := Pr.all (st_pr e)
  have h1 := hM.st p0
  have h2 := st_pw hP (hM.pos p0)
  rw [ex_st] at h1
  rw [ex_st] at h2
  refine ⟨hc ▸ h1.trans h2, fun m hm => ?_⟩
  obtain ⟨C, h3, h4⟩ := M.of_St hm he
  exact Nat.le_trans (h.least C h4) h3

theorem last_R {e w : T} (h : R e w) (he : e ≠ []) : ∃ c sp, Last (st e) (st w) c sp ∧ D e w c := by
  obtain ⟨n, h⟩ := h
  obtain ⟨C, _, hM⟩ := M.of_St h he
  obtain ⟨c, sp, hl⟩ := last_of (st_pr e) (st_pr w) hM
  exact ⟨c, sp, hl, hl.D he⟩

/-- the number -/
def fewest (e w : T) : Nat := match e with
  | [] => 0
  | _ => match look (bestOf (st e) (st w)) ((st w).length - 1) with
    | some v => v.1
    | none => 0
theorem fewest_D {e w : T} (h : R e w) : D e w (fewest e w) := by
  cases e with
  | nil =>
    have : w = [] := by
      rcases Acc.of_R h with h | ⟨_, _, _, h, _⟩
      · exact h.2
      · exact nomatch h
    subst this
    exact ⟨.refl _, fun _ _ => Nat.zero_le _⟩
  | cons x es =>
    obtain ⟨c, sp, h1, h2⟩ := last_R h (by simp)
    have : fewest (x :: es) w = c := by
      unfold fewest
      rw [h1.look]
    rw [this]
    exact h2

end TW
set_option linter.all false
/-! The root's step as the program takes it: on a text, by slices. -/
namespace TW
def rtc1 (f : T) (c : Nat) : Prop := (f.drop (f.length - 2)).take (f.length - 1 - (f.length - 2)) = [c]
def rtc2 (f : T) : Prop := (f.drop (f.length - 4)).take (f.length - 2 - (f.length - 4)) = f.drop (f.length - 2)

theorem rst_text (r : T) (c : Nat) :
    (rtc1 (r.reverse ++ [c]) c → (rst r c).reverse = (r.reverse ++ [c]).take ((r.reverse ++ [c]).length - 1)) ∧
    (¬ rtc1 (r.reverse ++ [c]) c → 3 < (r.reverse ++ [c]).length → rtc2 (r.reverse ++ [c]) → (rst r c).reverse = (r.reverse ++ [c]).take ((r.reverse ++ [c]).length - 2)) ∧
    (¬ rtc1 (r.reverse ++ [c]) c → ¬ (3 < (r.reverse ++ [c]).length ∧ rtc2 (r.reverse ++ [c])) → (rst r c).reverse = r.reverse ++ [c]) := by
  match r with
  | [] => simp [rtc1, rtc2, rst]
  | [x] =>
    by_cases h : x = c
    · simp [rtc1, rtc2, rst, h]
    · simp [rtc1, rtc2, rst, h]
  | [x, y] =>
    by_cases h : x = c
    · simp [rtc1, rtc2, rst, h]
    · simp [rtc1, rtc2, rst, h]
  | x :: y :: z :: r =>
    have e1 : ((x :: y :: z :: r).reverse ++ [c]) = r.reverse ++ [z, y, x, c] := by simp
    have l1 : (r.reverse ++ [z, y, x, c]).length = r.length + 4 := by simp
    have d2 : (r.reverse ++ [z, y, x, c]).drop (r.length + 4 - 2) = [x, c] := by
      rw [List.drop_append, List.drop_of_length_le (by simp)]
      simp [show r.length + 4 - 2 - r.length = 2 by omega]
    have d4 : (r.reverse ++ [z, y, x, c]).drop (r.length + 4 - 4) = [z, y, x, c] := by
      rw [List.drop_append, List.drop_of_length_le (by simp)]
      simp
    have t1 : (r.reverse ++ [z, y, x, c]).take (r.length + 4 - 1) = r.reverse ++ [z, y, x] := by
      rw [List.take_append, List.take_of_length_le (by simp)]
      simp [show r.length + 4 - 1 - r.length = 3 by omega]
    have t2 : (r.reverse ++ [z, y, x, c]).take (r.length + 4 - 2) = r.reverse ++ [z, y] := by
      rw [List.take_append, List.take_of_length_le (by simp)]
      simp [show r.length + 4 - 2 - r.length = 2 by omega]
    rw [e1]
    unfold rtc1 rtc2
    rw [l1, d2, d4, t1, t2, show r.length + 4 - 1 - (r.length + 4 - 2) = 1 by omega, show r.length + 4 - 2 - (r.length + 4 - 4) = 2 by omega]
    have hx : ([x, c].take 1 = [c]) ↔ x = c := by simp
    have hz : ([z, y, x, c].take 2 = [x, c]) ↔ (c = y ∧ x = z) := by
      simp
      constructor
      · rintro ⟨a, b⟩; exact ⟨b.symm, a.symm⟩
      · rintro ⟨a, b⟩; exact ⟨b.symm, a.symm⟩
    rw [hx, hz]
    by_cases h : x = c
    · subst h
      simp [rst]
    · by_cases m : c = y ∧ x = z
      · simp [rst, h, m]
      · simp only [rst, if_neg h, if_neg m]
        refine ⟨fun q => absurd q h, fun _ _ q => absurd q m, fun _ _ => by simp⟩

theorem root_snoc (l : T) (c : Nat) : rt (l ++ [c]) = rst (rt l) c := by
  unfold rt; rw [List.foldl_append]; rfl
theorem rst_len (r : T) (c : Nat) : (rst r c).length ≤ r.length + 1 := by
  match r with
  | [] => simp [rst]
  | [x] => simp only [rst]; split <;> simp
  | [x, y] => simp only [rst]; split <;> simp
  | x :: y :: z :: r =>
    simp only [rst]
    split
    · simp
    · split <;> simp
theorem rt_len : ∀ (l s : T), (l.foldl rst s).length ≤ s.length + l.length
  | [], s => by simp
  | c :: l, s => by
    have h1 := rst_len s c
    have h2 := rt_len l (rst s c)
    rw [List.foldl_cons]
    simp
    omega
end TW
set_option Elab.async false
set_option linter.all false
namespace TW
/-! ### the two rounds by which the program makes the copies -/
theorem sum_len : ∀ W : List S, (W.map (·.2)).sum = (ex W).length
  | [] => rfl
  | (a, n) :: W => by simp [ex, sum_len W]
/-- the first round, by the number of the stretch -/
structure Seq (own : List S) (sp : List Nat) (S1 : List S) (G : Nat) (F : Nat → List S) (Gf : Nat → Nat) : Prop where
  len : sp.length = own.length
  ne : own ≠ []
  h0 : ∃ p, own[0]? = some p ∧ F 0 = [p] ∧ Gf 0 = 0 ∧ sp[0]? = some 0
  hs : ∀ i, i + 1 < own.length → ∃ U a n b m g, F i = U ++ [(a, n)] ∧ own[i]? = some (a, n) ∧ sp[i]? = some U.length ∧ own[i + 1]? = some (b, m) ∧ sp[i + 1]? = some (U.length + 2 * g + 1) ∧ F (i + 1) = F i ++ altL b a (2 * g) ++ [(b, m)] ∧ Gf (i + 1) = Gf i + g
  last : F (own.length - 1) = S1 ∧ Gf (own.length - 1) = G
theorem Mix.seq {own : List S} {sp : List Nat} {S1 : List S} {G : Nat} (h : Mix own sp S1 G) : ∃ F Gf, Seq own sp S1 G F Gf := by
  induction h with
  | base p => exact ⟨fun _ => [p], fun _ => 0, rfl, by simp, ⟨p, rfl, rfl, rfl, rfl⟩, fun i hi => by simp at hi, rfl, rfl⟩
  | @step P p sp at_ S1 G b m g hM hS ih =>
    obtain ⟨F, Gf, Q⟩ := ih
    have hl := Q.len
    simp at hl
    refine ⟨fun i => if i ≤ P.length then F i else S1 ++ [p] ++ altL b p.1 (2 * g) ++ [(b, m)], fun i => if i ≤ P.length then Gf i else G + g, ?_, by simp, ?_, ?_, ?_⟩
    · simp [hl]
    · obtain ⟨p0, a1, a2, a3, a4⟩ := Q.h0
      refine ⟨p0, ?_, by simpa using a2, by simpa using a3, ?_⟩
      · rw [List.getElem?_append_left (by simp)]; exact a1
      · rw [List.getElem?_append_left (by simp)]; exact a4
    · intro i hi
      have hlast := Q.last
      simp at hlast
      have hi : i < P.length + 1 := by simpa using hi
      by_cases h : i + 1 ≤ P.length
      · obtain ⟨U, a, n, b', m', g', a1, a1', a2, a3, a4, a5, a6⟩ := Q.hs i (by simp; omega)
        refine ⟨U, a, n, b', m', g', ?_, ?_, ?_, ?_, ?_, ?_, ?_⟩
        · rw [if_pos (by omega)]; exact a1
        · rw [List.getElem?_append_left (by simp; omega)]; exact a1'
        · rw [List.getElem?_append_left (by simp; omega)]; exact a2
        · rw [List.getElem?_append_left (by simp; omega)]; exact a3
        · rw [List.getElem?_append_left (by simp; omega)]; exact a4
        · rw [if_pos h, if_pos (by omega)]; exact a5
        · rw [if_pos h, if_pos (by omega)]; exact a6
      · have hi : i = P.length := by omega
        subst hi
        refine ⟨S1, p.1, p.2, b, m, g, ?_, ?_, ?_, ?_, ?_, ?_, ?_⟩
        · rw [if_pos (Nat.le_refl _), hlast.1]
        · rw [List.getElem?_append_left (by simp)]; simp
        · rw [List.getElem?_append_left (by simp; omega), hS]
          simp [← hl]
        · rw [List.getElem?_append_right (by simp)]; simp
        · rw [List.getElem?_append_right (by simp; omega)]
          simp [hl, hS]
        · rw [if_neg (by omega), if_pos (Nat.le_refl _), hlast.1]
        · rw [if_neg (by omega), if_pos (Nat.le_refl _), hlast.2]
    · refine ⟨?_, ?_⟩
      · show (if _ then _ else _) = _
        rw [if_neg (by simp)]
      · show (if _ then _ else _) = _
        rw [if_neg (by simp)]
theorem ins_text (A : List S) (a n b m : Nat) (B : List S) (hn : 1 ≤ n) (hm : 1 ≤ m) :
    (ex (A ++ [(a, n)] ++ (b, m) :: B)).take ((ex (A ++ [(a, n)])).length - 1 + 2) ++ (ex (A ++ [(a, n)] ++ (b, m) :: B)).drop ((ex (A ++ [(a, n)])).length - 1) = ex (A ++ [(a, n)] ++ (b, 1) :: (a, 1) :: (b, m) :: B) := by
  rw [ex_append (A ++ [(a, n)]), ex_append (A ++ [(a, n)]), ex_snoc A a n hn]
  have e : ex ((b, 1) :: (a, 1) :: (b, m) :: B) = b :: a :: ex ((b, m) :: B) := rfl
  rw [e, ex_cons_pos b m B hm]
  generalize ex A ++ List.replicate (n - 1) a = u
  simp [List.take_append, List.drop_append, List.take_of_length_le, List.drop_of_length_le]
theorem pr_letters : ∀ {W V : List S}, Pr W → V.map (·.1) = W.map (·.1) → (∀ p ∈ V, 1 ≤ p.2) → Pr V
  | [], [], _, _, _ => trivial
  | [], v :: V, _, h, _ => by simp at h
  | w :: W, [], _, h, _ => by simp at h
  | [w], [v], _, _, h => h v (List.mem_cons_self ..)
  | [w], v :: v2 :: V, _, h, _ => by simp at h
  | w :: w2 :: W, [v], _, h, _ => by simp at h
  | (a, n) :: (b, m) :: W, (c, k) :: (d, l) :: V, hw, h, hp => by
    simp only [List.map_cons, List.cons.injEq] at h
    obtain ⟨rfl, rfl, h⟩ := h
    exact ⟨hp _ (List.mem_cons_self ..), hw.2.1, pr_letters hw.2.2 (by simp [h]) fun p hp' => hp p (List.mem_cons_of_mem _ hp')⟩
theorem Pw.letters : ∀ {A B : List S}, Pw A B → A.map (·.1) = B.map (·.1)
  | [], [], _ => rfl
  | (a, m) :: A, (b, n) :: B, h => by simp [h.1, Pw.letters h.2.2]
theorem Pw.at_ : ∀ {A B : List S} {i : Nat} {a m : Nat}, Pw A B → A[i]? = some (a, m) → ∃ n, B[i]? = some (a, n) ∧ m ≤ n
  | (a, m) :: A, (b, n) :: B, 0, a', m', h, e => by
    have e : (a, m) = (a', m') := by simpa using e
    cases e
    exact ⟨n, by rw [h.1]; rfl, h.2.1⟩
  | (a, m) :: A, (b, n) :: B, i + 1, a', m', h, e => by
    obtain ⟨k, h1, h2⟩ := Pw.at_ h.2.2 (by simpa using e)
    exact ⟨k, by simpa using h1, h2⟩
  | [], [], i, a', m', h, e => by simp at e
theorem grs_take : ∀ {A B : List S} {i : Nat} {a m n : Nat}, Pw A B → A[i]? = some (a, m) → B[i]? = some (a, n) → grs (A.take (i + 1)) (B.take (i + 1)) = grs (A.take i) (B.take i) + gr m n
  | (a, m) :: A, (b, n) :: B, 0, a', m', n', h, e, e2 => by
    have e : (a, m) = (a', m') := by simpa using e
    have e2 : (b, n) = (a', n') := by simpa using e2
    cases e
    cases e2
    simp [grs]
  | (a, m) :: A, (b, n) :: B, i + 1, a', m', n', h, e, e2 => by
    have := grs_take h.2.2 (show A[i]? = some (a', m') by simpa using e) (show B[i]? = some (a', n') by simpa using e2)
    simp only [List.take_succ_cons, grs]
    rw [this]
    omega
  | [], [], i, a', m', n', h, e, _ => by simp at e
theorem rep_text (u r : T) (a o long : Nat) (h : long ≤ o) : (u ++ List.replicate o a ++ r).take (u.length + long) ++ (u ++ List.replicate o a ++ r).drop u.length = u ++ List.replicate (o + long) a ++ r := by
  rw [List.append_assoc u, List.take_length_add_append, List.drop_left, List.take_append_of_le_length (by simpa using h), List.take_replicate, Nat.min_eq_left h]
  rw [Nat.add_comm o long, ← List.replicate_append_replicate]
  simp only [List.append_assoc]
theorem gr_step {o n : Nat} (h0 : 1 ≤ o) (h : o < n) : gr o n = 1 + gr (o + if 1 < o ∧ 1 < n - o then 2 else 1) n := by
  unfold gr
  by_cases h1 : o = 1
  · subst h1
    rw [if_pos ⟨rfl, by omega⟩, if_neg (fun z : 1 < 1 ∧ 1 < n - 1 => by omega), if_neg (by omega)]
    omega
  · rw [if_neg (fun z => h1 z.1)]
    by_cases h2 : 1 < n - o
    · rw [if_pos (⟨by omega, h2⟩ : 1 < o ∧ 1 < n - o), if_neg (by omega)]
      omega
    · rw [if_neg (fun z : 1 < o ∧ 1 < n - o => h2 z.2), if_neg (by omega)]
      omega
end TW
namespace TW
theorem alt_head (b a m : Nat) (R : List S) : ∀ g, ∃ m' X, altL b a (2 * g) ++ (b, m) :: R = (b, m') :: X ∧ (1 ≤ m → 1 ≤ m')
  | 0 => ⟨m, R, rfl, fun h => h⟩
  | g + 1 => ⟨1, (a, 1) :: (altL b a (2 * g) ++ (b, m) :: R), by rw [alt_append]; rfl, fun _ => Nat.le_refl _⟩
theorem pr_alt (U : List S) (a n b m : Nat) (R : List S) (h : Pr (U ++ [(a, n)] ++ (b, m) :: R)) : ∀ g, Pr (U ++ [(a, n)] ++ altL b a (2 * g) ++ (b, m) :: R)
  | 0 => by simpa [altL] using h
  | g + 1 => by
    have ih := pr_alt U a n b m R h g
    rw [List.append_assoc] at ih ⊢
    rw [alt_append]
    obtain ⟨m', X, e, _⟩ := alt_head b a m R g
    have e2 : (b, 1) :: (a, 1) :: altL b a (2 * g) ++ (b, m) :: R = (b, 1) :: (a, 1) :: (b, m') :: X := by rw [← e]; rfl
    rw [e2]
    rw [e] at ih
    have := pr_ins (A := U) (a := a) (n := n) (b := b) (m := m') (B := X) (by simpa using ih)
    simpa using this
theorem alt_letters {b a : Nat} : ∀ (n : Nat) (x y : Nat), (x = a ∧ y = b ∨ x = b ∧ y = a) → ∀ s ∈ altL x y n, s.1 = a ∨ s.1 = b
  | 0, _, _, _, s, h => nomatch h
  | n + 1, x, y, hxy, s, h => by
    rcases List.mem_cons.mp h with rfl | h
    · rcases hxy with ⟨rfl, rfl⟩ | ⟨rfl, rfl⟩
      · exact .inl rfl
      · exact .inr rfl
    · exact alt_letters n y x (hxy.elim (fun z => .inr ⟨z.2, z.1⟩) (fun z => .inl ⟨z.2, z.1⟩)) s h
section
variable {own : List S} {sp : List Nat} {S1 : List S} {G : Nat} {F : Nat → List S} {Gf : Nat → Nat}
theorem Seq.good {B : Nat} (Q : Seq own sp S1 G F Gf) (hp : Pr own) (hB : ∀ s ∈ own, s.1 < B) : ∀ i, i < own.length → Pr (F i ++ own.drop (i + 1)) ∧ ∀ s ∈ F i, s.1 < B ∧ 1 ≤ s.2
  | 0, h => by
    obtain ⟨p, a1, a2, a3, a4⟩ := Q.h0
    rw [a2]
    have : own = p :: own.drop 1 := by
      cases own with
      | nil => simp at h
      | cons q o => simp at a1; rw [a1]; rfl
    refine ⟨by rw [this] at hp; exact hp, fun s hs => ?_⟩
    rw [List.mem_singleton] at hs
    subst hs
    have hm : s ∈ own := List.mem_of_getElem? a1
    exact ⟨hB _ hm, hp.all _ hm⟩
  | i + 1, h => by
    obtain ⟨ih1, ih2⟩ := Q.good hp hB i (by omega)
    obtain ⟨U, a, n, b, m, g, a1, a1', a2, a3, a4, a5, a6⟩ := Q.hs i h
    have hd : own.drop (i + 1) = (b, m) :: own.drop (i + 1 + 1) := by
      rw [List.drop_eq_getElem_cons h]
      rw [List.getElem?_eq_getElem h] at a3
      rw [Option.some.inj a3]
    rw [a1, hd] at ih1
    have hb : (b, m) ∈ own := List.mem_of_getElem? a3
    refine ⟨?_, fun s hs => ?_⟩
    · rw [a5, a1, List.append_assoc _ [(b, m)]]
      exact pr_alt U a n b m _ ih1 g
    · rw [a5] at hs
      rcases List.mem_append.mp hs with hs | hs
      · rcases List.mem_append.mp hs with hs | hs
        · exact ih2 s hs
        · refine ⟨?_, altL_pos _ _ _ s hs⟩
          rcases alt_letters (b := b) (a := a) _ _ _ (.inr ⟨rfl, rfl⟩) s hs with e | e
          · rw [e]; exact (ih2 (a, n) (by rw [a1]; simp)).1
          · rw [e]; exact hB _ hb
      · rw [List.mem_singleton] at hs
        subst hs
        exact ⟨hB _ hb, hp.all _ hb⟩
theorem Seq.grow (Q : Seq own sp S1 G F Gf) {i : Nat} (h : i + 1 < own.length) : (ex (F i ++ own.drop (i + 1))).length ≤ (ex (F (i + 1) ++ own.drop (i + 1 + 1))).length := by
  obtain ⟨U, a, n, b, m, g, a1, a1', a2, a3, a4, a5, a6⟩ := Q.hs i h
  have hd : own.drop (i + 1) = (b, m) :: own.drop (i + 1 + 1) := by
    rw [List.drop_eq_getElem_cons h]
    rw [List.getElem?_eq_getElem h] at a3
    rw [Option.some.inj a3]
  rw [a5, hd]
  simp only [ex_append, List.length_append, ex, List.length_replicate]
  omega
theorem Seq.len_le (Q : Seq own sp S1 G F Gf) : ∀ (k i : Nat), i + k + 1 = own.length → (ex (F i ++ own.drop (i + 1))).length ≤ (ex S1).length
  | 0, i, h => by
    have : i = own.length - 1 := by omega
    rw [List.drop_of_length_le (by omega), List.append_nil, this, Q.last.1]
    exact Nat.le_refl _
  | k + 1, i, h => Nat.le_trans (Q.grow (by omega)) (Q.len_le k (i + 1) (by omega))
end
theorem lo_ex {B : Nat} : ∀ {V : List S}, (∀ s ∈ V, s.1 < B) → ∀ c ∈ ex V, c < B
  | [], _, c, h => nomatch h
  | (a, n) :: V, hV, c, h => by
    rcases List.mem_append.mp (show c ∈ List.replicate n a ++ ex V from h) with h | h
    · rw [List.eq_of_mem_replicate h]; exact hV _ (List.mem_cons_self ..)
    · exact lo_ex (fun s hs => hV s (List.mem_cons_of_mem _ hs)) c h
theorem pw_ex_len : ∀ {A B : List S}, Pw A B → (ex A).length ≤ (ex B).length
  | [], [], _ => Nat.le_refl _
  | (a, m) :: A, (b, n) :: B, h => by
    have := pw_ex_len h.2.2
    have := h.2.1
    simp only [ex, List.length_append, List.length_replicate]
    omega
/-- the second round's text -/
theorem mixed_pr {S1 W : List S} (hW : Pr W) (h : Pw S1 W) (hp : ∀ p ∈ S1, 1 ≤ p.2) (i : Nat) : Pr (W.take i ++ S1.drop i) := by
  refine pr_letters hW ?_ fun p hm => ?_
  · rw [List.map_append, List.map_take, List.map_drop, h.letters, List.take_append_drop]
  · rcases List.mem_append.mp hm with hm | hm
    · exact hW.all p (List.mem_of_mem_take hm)
    · exact hp p (List.mem_of_mem_drop hm)
theorem mixed_len {S1 W : List S} (h : Pw S1 W) (i : Nat) : (ex (W.take i ++ S1.drop i)).length ≤ (ex W).length := by
  have h2 : Pw (S1.drop i) (W.drop i) := by
    have : ∀ (i : Nat) (A B : List S), Pw A B → Pw (A.drop i) (B.drop i) := by
      intro i
      induction i with
      | zero => intro A B h; exact h
      | succ i ih =>
        intro A B h
        match A, B, h with
        | [], [], _ => trivial
        | (a, m) :: A, (b, n) :: B, h => exact ih A B h.2.2
    exact this i _ _ h
  have := pw_ex_len h2
  have e : ex W = ex (W.take i) ++ ex (W.drop i) := by rw [← ex_append, List.take_append_drop]
  rw [e, ex_append, List.length_append, List.length_append]
  omega
end TW
set_option Elab.async false
set_option linter.all false
namespace TW
/-! ### the search for all elders -/
def dstep (kw : List T × List T) (e : T) : List T × List T := if e ∈ kw.1 then kw else (kw.1 ++ [e], kw.2 ++ [e])
structure DMid (text : T) (w : Option T) (done : List T) (known waiting : List T) : Prop where
  nd : known.Nodup
  has : text ∈ known
  rch : ∀ x ∈ known, R x text
  sub : ∀ x ∈ waiting, x ∈ known
  len : waiting.length + (if w.isSome then 1 else 0) ≤ known.length
  clo : ∀ x ∈ known, x ∉ waiting → some x ≠ w → ∀ y, Cp y x → y ∈ known
  don : ∀ y ∈ done, y ∈ known
  win : ∀ x, w = some x → x ∈ known
theorem DMid.start (text : T) : DMid text none [] [text] [text] :=
  ⟨by simp, by simp, fun x h => by rw [List.mem_singleton.mp h]; exact .refl _, fun x h => h, by simp, fun x h h2 => absurd h h2, (fun y h => nomatch h), fun x h => nomatch h⟩
theorem DMid.pop {text x : T} {known waiting : List T} (h : DMid text none [] known (waiting ++ [x])) : DMid text (some x) [] known waiting := by
  refine ⟨h.nd, h.has, h.rch, fun y hy => h.sub y (List.mem_append_left _ hy), ?_, fun y hy h1 h2 => h.clo y hy (fun z => ?_) (fun z => nomatch z), (fun y h => nomatch h), fun y e => ?_⟩
  · have := h.len; simp at this ⊢; omega
  · rcases List.mem_append.mp z with z | z
    · exact h1 z
    · exact h2 (by rw [List.mem_singleton.mp z])
  · cases e
    exact h.sub x (List.mem_append_right _ (List.mem_singleton.mpr rfl))
theorem DMid.step {text w : T} {done known waiting : List T} {e : T} (h : DMid text (some w) done known waiting) (he : Cp e w) : DMid text (some w) (done ++ [e]) (dstep (known, waiting) e).1 (dstep (known, waiting) e).2 := by
  unfold dstep
  by_cases hk : e ∈ known
  · rw [if_pos hk]
    exact ⟨h.nd, h.has, h.rch, h.sub, h.len, h.clo, fun y hy => (List.mem_append.mp hy).elim (h.don y) fun z => by rw [List.mem_singleton.mp z]; exact hk, h.win⟩
  · rw [if_neg hk]
    refine ⟨?_, List.mem_append_left _ h.has, fun x hx => ?_, fun x hx => ?_, ?_, fun x hx h1 h2 y hy => ?_, fun y hy => ?_, fun x e => List.mem_append_left _ (h.win x e)⟩
    · rw [List.nodup_append]
      refine ⟨h.nd, by simp, fun a ha b hb => ?_⟩
      rw [List.mem_singleton.mp hb]
      exact fun z => hk (z ▸ ha)
    · rcases List.mem_append.mp hx with hx | hx
      · exact h.rch x hx
      · rw [List.mem_singleton.mp hx]
        exact (R.tail (.refl _) he).trans (h.rch w (h.win w rfl))
    · rcases List.mem_append.mp hx with hx | hx
      · exact List.mem_append_left _ (h.sub x hx)
      · exact List.mem_append_right _ hx
    · have := h.len; simp at this ⊢; omega
    · rcases List.mem_append.mp hx with hx | hx
      · exact List.mem_append_left _ (h.clo x hx (fun z => h1 (List.mem_append_left _ z)) h2 y hy)
      · exact absurd (List.mem_append_right _ hx) h1
    · rcases List.mem_append.mp hy with hy | hy
      · exact List.mem_append_left _ (h.don y hy)
      · exact List.mem_append_right _ hy
theorem DMid.turn {text w : T} {known waiting : List T} (h : DMid text (some w) (und w) known waiting) : DMid text none [] known waiting := by
  refine ⟨h.nd, h.has, h.rch, h.sub, Nat.le_trans (by simp) h.len, fun x hx h1 _ y hy => ?_, (fun y h => nomatch h), fun x e => nomatch e⟩
  by_cases hw : x = w
  · subst hw
    exact h.don y (mem_und.mpr hy)
  · exact h.clo x hx h1 (fun z => hw (Option.some.inj z)) y hy
theorem DMid.all {text : T} {known : List T} (h : DMid text none [] known []) (x : T) : x ∈ known ↔ R x text := by
  refine ⟨h.rch x, fun hr => ?_⟩
  have go : ∀ (n : Nat) (x y : T), St n x y → y ∈ known → x ∈ known := by
    intro n
    induction n with
    | zero => intro x y s hy; rw [s.zero]; exact hy
    | succ n ih =>
      intro x y s hy
      obtain ⟨f, h1, h2⟩ := s.unsnoc
      exact ih x f h1 (h.clo y hy (by simp) (by simp) f h2)
  obtain ⟨n, s⟩ := hr
  exact go n x text s h.has
end TW
set_option Elab.async false
set_option linter.all false
namespace TW
/-! ### the law's search by levels -/
theorem D.down {x l : T} {m : Nat} (h : D x l (m + 1)) : ∃ f, Cp x f ∧ D f l m := by
  obtain ⟨f, h1, h2⟩ := h.1.uncons
  refine ⟨f, h1, h2, fun k hk => ?_⟩
  have := h.2 (k + 1) (.head h1 hk)
  omega
theorem D.up {x f l : T} {m : Nat} (h : D f l m) (c : Cp x f) (hn : ∀ n, n ≤ m → ¬ D x l n) : D x l (m + 1) := by
  refine ⟨.head c h.1, fun k hk => ?_⟩
  by_cases hkm : m + 1 ≤ k
  · exact hkm
  · exfalso
    obtain ⟨n, hd⟩ := D.of_R ⟨k, hk⟩
    exact hn n (by have := hd.2 k hk; omega) hd
theorem D.level {l : T} {m : Nat} : ∀ (k : Nat) (x : T), D x l (m + k) → ∃ y, D y l m
  | 0, x, h => ⟨x, h⟩
  | k + 1, x, h => by
    obtain ⟨f, _, h2⟩ := D.down (m := m + k) h
    exact D.level k f h2
structure BMid (l : T) (m : Nat) (done : List T) (found : List (T × Nat)) (fresh : List T) : Prop where
  nd : (found.map (·.1)).Nodup
  snd : ∀ x n, (x, n) ∈ found → D x l n ∧ n ≤ m + 1
  old : ∀ x n, n ≤ m → D x l n → (x, n) ∈ found
  frs : ∀ x, x ∈ fresh ↔ (x, m + 1) ∈ found
  len : fresh.length ≤ found.length
  don : ∀ e ∈ done, e ∈ found.map (·.1)
/-- at the head of a round -/
structure BHead (l : T) (m : Nat) (found : List (T × Nat)) (last : List T) : Prop where
  nd : (found.map (·.1)).Nodup
  iff : ∀ x n, (x, n) ∈ found ↔ (D x l n ∧ n ≤ m)
  last : ∀ x, x ∈ last ↔ D x l m
theorem D.zero {l : T} : D l l 0 := ⟨.refl _, fun _ _ => Nat.zero_le _⟩
theorem D.zero_eq {x l : T} (h : D x l 0) : x = l := h.1.zero
theorem BHead.start (l : T) : BHead l 0 [(l, 0)] [l] := by
  refine ⟨by simp, fun x n => ?_, fun x => ?_⟩
  · simp only [List.mem_singleton, Prod.mk.injEq]
    constructor
    · rintro ⟨rfl, rfl⟩
      exact ⟨.zero, Nat.le_refl _⟩
    · rintro ⟨h1, h2⟩
      obtain rfl : n = 0 := by omega
      exact ⟨h1.zero_eq, rfl⟩
  · rw [List.mem_singleton]
    exact ⟨fun h => by rw [h]; exact .zero, fun h => h.zero_eq⟩
theorem BHead.mid {l : T} {m : Nat} {found : List (T × Nat)} {last : List T} (h : BHead l m found last) : BMid l m [] found [] := by
  refine ⟨h.nd, fun x n hx => ?_, fun x n hn hd => (h.iff x n).mpr ⟨hd, hn⟩, fun x => ?_, Nat.zero_le _, fun e he => nomatch he⟩
  · have := (h.iff x n).mp hx
    exact ⟨this.1, by omega⟩
  · constructor
    · intro hx; exact nomatch hx
    · intro hx
      have := ((h.iff x (m + 1)).mp hx).2
      omega
theorem mem_keys {e : T} {found : List (T × Nat)} : e ∈ found.map (·.1) ↔ ∃ n, (e, n) ∈ found := by
  rw [List.mem_map]
  constructor
  · rintro ⟨⟨a, n⟩, h, rfl⟩
    exact ⟨n, h⟩
  · rintro ⟨n, h⟩
    exact ⟨_, h, rfl⟩
theorem BMid.skip {l : T} {m : Nat} {done : List T} {found : List (T × Nat)} {fresh : List T} {e : T} (h : BMid l m done found fresh) (he : e ∈ found.map (·.1)) : BMid l m (done ++ [e]) found fresh :=
  ⟨h.nd, h.snd, h.old, h.frs, h.len, fun x hx => (List.mem_append.mp hx).elim (h.don x) fun z => by rw [List.mem_singleton.mp z]; exact he⟩
theorem BMid.add {l : T} {m : Nat} {done : List T} {found : List (T × Nat)} {fresh : List T} {e f : T} (h : BMid l m done found fresh) (hf : D f l m) (c : Cp e f) (he : e ∉ found.map (·.1)) : BMid l m (done ++ [e]) (found ++ [(e, m + 1)]) (fresh ++ [e]) := by
  have hD : D e l (m + 1) := D.up hf c fun n hn hd => he (mem_keys.mpr ⟨n, h.old e n hn hd⟩)
  refine ⟨?_, fun x n hx => ?_, fun x n hn hd => List.mem_append_left _ (h.old x n hn hd), fun x => ?_, ?_, fun x hx => ?_⟩
  · rw [List.map_append, List.nodup_append]
    refine ⟨h.nd, by simp, fun a ha b hb => ?_⟩
    have : b = e := by simpa using hb
    rw [this]
    exact fun z => he (z ▸ ha)
  · rcases List.mem_append.mp hx with hx | hx
    · exact h.snd x n hx
    · have : x = e ∧ n = m + 1 := by simpa using hx
      rw [this.1, this.2]
      exact ⟨hD, Nat.le_refl _⟩
  · rw [List.mem_append, List.mem_append, h.frs x]
    simp
  · simp; exact h.len
  · rw [List.map_append]
    rcases List.mem_append.mp hx with hx | hx
    · exact List.mem_append_left _ (h.don x hx)
    · exact List.mem_append_right _ (by simpa using hx)
theorem BMid.head {l : T} {m : Nat} {done last : List T} {found : List (T × Nat)} {fresh : List T} (h : BMid l m done found fresh) (hl : ∀ x, x ∈ last ↔ D x l m) (hd : ∀ f ∈ last, ∀ e, Cp e f → e ∈ done) : BHead l (m + 1) found fresh := by
  have hall : ∀ x, D x l (m + 1) → (x, m + 1) ∈ found := fun x hx => by
    obtain ⟨f, c, hf⟩ := hx.down
    obtain ⟨n, hn⟩ := mem_keys.mp (h.don x (hd f ((hl f).mpr hf) x c))
    have := (h.snd x n hn).1.unique hx
    rwa [this] at hn
  refine ⟨h.nd, fun x n => ⟨fun hx => h.snd x n hx, fun ⟨hx, hn⟩ => ?_⟩, fun x => ?_⟩
  · by_cases hm : n ≤ m
    · exact h.old x n hm hx
    · obtain rfl : n = m + 1 := by omega
      exact hall x hx
  · rw [h.frs x]
    exact ⟨fun hx => (h.snd x _ hx).1, hall x⟩
theorem BHead.done {l : T} {m : Nat} {found : List (T × Nat)} (h : BHead l m found []) (x : T) (n : Nat) : (x, n) ∈ found ↔ D x l n := by
  rw [h.iff]
  refine ⟨fun z => z.1, fun hd => ⟨hd, ?_⟩⟩
  by_cases hm : n ≤ m
  · exact hm
  · exfalso
    obtain ⟨y, hy⟩ := D.level (m := m) (n - m) x (by rw [show m + (n - m) = n by omega]; exact hd)
    exact nomatch (h.last y).mpr hy
theorem BHead.bound {l : T} {m : Nat} {found : List (T × Nat)} {last : List T} (h : BHead l m found last) (hne : last ≠ []) : m ≤ l.length := by
  cases last with
  | nil => exact absurd rfl hne
  | cons x r =>
    have := ((h.last x).mp (List.mem_cons_self ..)).1.len
    omega
end TW
set_option Elab.async false
set_option linter.all false
set_option maxRecDepth 100000
set_option maxHeartbeats 4000000
namespace TW
open PySem PySem.Spec PyProof.Rows L2
/-! ### the text by places -/
def topS (i : Nat) : Stmt := PySem.Challenge.pw_twicewritten_k40_whole_short_copies.main.body.getD i (.Pass ⟨0, 0, 0, 0⟩)
/-- a text of letters -/
abbrev tx (l : List Nat) : Str := ⟨l.toArray⟩
theorem tx_inj {a b : List Nat} (h : tx a = tx b) : a = b := SX.S_inj h
theorem tx_len (a : List Nat) : (tx a).length = a.length := SX.S_len a
theorem tx_cat (a b : List Nat) : tx a ++ tx b = tx (a ++ b) := SX.S_cat a b
theorem tx_of (x : Str) : tx x.cps.toList = x := SX.S_tl x
theorem dec_tx (a b : List Nat) : decide (V.str (tx a) = V.str (tx b)) = decide (a = b) := by
  by_cases h : a = b
  · subst h; simp
  · rw [decide_eq_false h, decide_eq_false (fun e => h (tx_inj (V.str.inj e)))]
theorem qint {Q : VK} {H : Hp} {a b : Int} (e : a = b) (q : Q (.int a) H) : Q (.int b) H := e ▸ q
theorem qstr {Q : VK} {H : Hp} {a b : Str} (e : a = b) (q : Q (.str a) H) : Q (.str b) H := e ▸ q
theorem qbl {Q : VK} {H : Hp} {a b : Bool} (e : a = b) (q : Q (.bl a) H) : Q (.bl b) H := e ▸ q
theorem same_upd {H : Hp} {p : Addr} {o : HO} (h : H p = none) : Same H (upd H p o) := fun b x e => by
  rw [upd_ne (ne_of_none e h)]
  exact e
theorem sz60 {n : Nat} (h : n ≤ 1000) : n ≤ sizeLine := Nat.le_of_lt (small1000 h)
theorem iteD {c A B : Prop} [Decidable c] (hc : c) (h : A) : if decide c = true then A else B := by
  rw [if_pos (decide_eq_true hc)]; exact h
theorem iteDN {c A B : Prop} [Decidable c] (hc : ¬ c) (h : B) : if decide c = true then A else B := by
  rw [if_neg (fun e => hc (of_decide_eq_true e))]; exact h
theorem iteNN {c A B : Prop} [Decidable c] (hc : ¬ c) (h : A) : if (!decide c) = true then A else B := by
  rw [decide_eq_false hc]; exact iteT h
theorem iteB {b : Bool} {A B : Prop} (hb : b = true) (h : A) : if b = true then A else B := by rw [hb]; exact iteT h
theorem iteBN {b : Bool} {A B : Prop} (hb : b = false) (h : B) : if b = true then A else B := by rw [hb]; exact iteF h
/-- the six letters, the program's constants, the built-ins -/
def abcdef : List Nat := [97, 98, 99, 100, 101, 102]
structure Glb (K : PySem.W.Frag) (mg : Str → Option Value) : Prop where
  LETTERS : ∃ t, mg "LETTERS" = some (.str (tx abcdef) t)
  MOST_LONG : ∃ t, mg "MOST_LONG" = some (.int 60 t)
  MOST_LISTED : ∃ t, mg "MOST_LISTED" = some (.int 2000 t)
  len : mg "len" = none
  range : mg "range" = none
  enumerate : mg "enumerate" = none
  zip : mg "zip" = none
  sum : mg "sum" = none
  all : mg "all" = none
  sorted : mg "sorted" = none
  tuple : mg "tuple" = none
  list : mg "list" = none
  int : mg "int" = none
  str : mg "str" = none
  min : mg "min" = none
  repr : mg "repr" = none
  isinstance : mg "isinstance" = none
/-- a def of the program -/
def DefAt (K : PySem.W.Frag) (mg : Str → Option Value) (x : Str) (st : Stmt) : Prop := ∃ f fd, C8.Def K mg x st f fd ∧ fd.defaults = .none
section
variable {P : Program} {w : World} {K : PySem.W.Frag} {mg : Str → Option Value} {base : Heap}
/-- the promise of a def, by its body -/
theorem cal_of {x : Str} {st : Stmt} {N ps : List Str} {k : Nat} {sp : Sp} (D : DefAt K mg x st) (S : FnScope N ps (C8.fnScope st))
    (hb : ∀ (kV doc pm : Value) (an : Option Addr) (cdv ct : Value) (us : List Value), us.length = ps.length → bindArgs (PySem.W.fnOf x x (C8.fnArgs st) (C8.fnBody st) (C8.fnScope st) .none kV doc pm an cdv ct) ⟨us, []⟩ = pure (ps.zip us))
    (len : ∀ vs H Q E, sp vs H Q E → vs.length = ps.length)
    (hbody : ∀ (f : Addr) (cdv : Value) (A : Around) (outer : List Env) (s : Shared) (H : Hp) (vs : List V) (Q : VK) (E : XK), Room k (A.deeper (envOfC x (C8.fnScope st) s.heap.objs.size f cdv)) → sp vs H Q E →
      ∃ t, PSs (cxOf C8.CX0 P w K mg base N x (C8.fnScope st) f cdv A outer s H E).nox (C8.fnBody st) t ∧ t { nx := fun _ H' => Q .non H', rt := Q } (start N vs) H) : C8.Cal P w K mg base (k + 1) x sp [] := by
  obtain ⟨f, fd, F, df⟩ := D
  exact C8.cal0 F (F.fn.binds df hb) .nil S len (hbody f)
end
abbrev s_growing : Stmt := topS 17
def N_growing : List Str := ["less", "more"]
theorem sc_growing : FnScope N_growing ["less", "more"] (C8.fnScope s_growing) := C8.fnScope_by (by decide +kernel)
def sp_growing : Sp := fun vs H Q _ => ∃ m n : Nat, vs = [.int m, .int n] ∧ m ≤ n ∧ Q (.int (gr m n : Nat)) H
section
variable {P : Program} {w : World} {K : PySem.W.Frag} {mg : Str → Option Value} {base : Heap}
theorem c_growing (D : DefAt K mg "growing" s_growing) : C8.Cal P w K mg base 1 "growing" sp_growing [] := by
  refine cal_of D sc_growing (fun _ _ _ _ _ _ us hl => match us, hl with | [_, _], _ => rfl) (fun vs H Q E h => ?_) (fun f cdv A outer s H vs Q E hr h => ?_)
  · obtain ⟨m, n, rfl, _⟩ := h; rfl
  · obtain ⟨m, n, rfl, hmn, q⟩ := h
    refine ⟨_, (pss_cons (ps_if (PW.pt (pw_and (pt_cmpR op_eq (pv 0) pe_int (nomark _)) (pw_and1 (pt_cmpR op_gt (pv 1) pe_int (nomark _))))) (pss_one (ps_ret (pe_op op_add pe_int (pe_op op_fdiv (pe_op op_sub (pv 1) pe_int) pe_int)))) pss_nil)
  (pss_one (ps_ret (pe_op op_fdiv (pe_op op_add (pe_op op_sub (pv 1) (pv 0)) pe_int) pe_int)))), ?_⟩
    refine ⟨_, rfl, rfl, _, rfl, ?_⟩
    have second : gr m n = (n - m + 1) / 2 → tRet (tOp (rI CDiv fun i j => .int (i / j)) (tOp (rI0 fun i j => .int (i + j)) (tOp (rI0 fun i j => .int (i - j)) (tVar 1) (tVar 0)) (tC (.int 1))) (tC (.int 2))) { nx := fun _ H' => Q .non H', rt := Q } (start N_growing [.int m, .int n]) H := fun e => by
      refine ⟨_, rfl, _, rfl, _, _, rfl, rfl, _, _, rfl, rfl, _, _, rfl, rfl, ⟨by decide, by decide⟩, ?_⟩
      rw [e] at q
      exact qint (by omega) q
    by_cases h1 : m = 1
    · subst h1
      refine iteT ⟨_, rfl, _, _, rfl, rfl, _, rfl, ?_⟩
      refine ite2 (fun e => ?_) (fun e => ?_)
      · have e : 1 < n := by have := of_decide_eq_true e; omega
        refine ⟨_, rfl, _, _, rfl, rfl, _, _, rfl, rfl, ⟨by decide, by decide⟩, _, _, rfl, rfl, ?_⟩
        have e2 : gr 1 n = 1 + (n - 1) / 2 := if_pos ⟨rfl, e⟩
        rw [e2] at q
        exact qint (by omega) q
      · exact second (if_neg (fun z => e (decide_eq_true (by omega))))
    · rw [decide_eq_false (fun z => h1 (by have := V.int.inj z; omega))]
      refine iteF (iteF ?_)
      exact second (if_neg (fun z => h1 z.1))
end
end TW
set_option Elab.async false
set_option linter.all false
set_option maxRecDepth 100000
set_option maxHeartbeats 4000000
namespace TW
open PySem PySem.Spec PyProof.Rows L2
/-- a text of the program: at most 60 letters from a to f -/
def Ok (l : List Nat) : Prop := l.length ≤ 60 ∧ ∀ c ∈ l, c ∈ abcdef
abbrev s_is_text : Stmt := topS 12
def N_is_text : List Str := ["value", "sign"]
theorem sc_is_text : FnScope N_is_text ["value"] (C8.fnScope s_is_text) := C8.fnScope_by (by decide +kernel)
def sp_is_text : Sp := fun vs H Q _ => ∃ l, vs = [.str (tx l)] ∧ Ok l ∧ ∀ H', Same H H' → Q (.bl true) H'
section
variable {P : Program} {w : World} {K : PySem.W.Frag} {mg : Str → Option Value} {base : Heap}
theorem kit_str : PySem.W.kitOne K (.type "str") (.type "str") = some true := kit_ty (by decide +kernel)
theorem c_is_text (G : Glb K mg) (D : DefAt K mg "is_text" s_is_text) : C8.Cal P w K mg base 1 "is_text" sp_is_text [] := by
  refine cal_of D sc_is_text (fun _ _ _ _ _ _ us hl => match us, hl with | [_], _ => rfl) (fun vs H Q E h => ?_) (fun f cdv A outer s H vs Q E hr h => ?_)
  · obtain ⟨l, rfl, _⟩ := h; rfl
  · obtain ⟨l, rfl, ⟨hl, ha⟩, q⟩ := h
    obtain ⟨tL, gL⟩ := G.LETTERS
    obtain ⟨tM, gM⟩ := G.MOST_LONG
    refine ⟨_, (pss_one (ps_ret (pe_and (pe_callB call_isi rfl G.isinstance (by decide +kernel) (pa_cons (pv 0) (pa_cons (pe_bltn (v := .ty "str") rfl G.str (by decide +kernel) rfl) pa_nil))) (pe_and (pe_cmpR op_le (pe_callB call_len_str rfl G.len PySem.boot_len (pa_cons (pv 0) pa_nil)) (pe_glob (v := .int 60) rfl gM ⟨_, rfl⟩) (nomark _)) (pe_one (pe_callB (cr_all rfl) rfl G.all (by decide +kernel) (pa_cons (pe_lc (own := [("sign", 1)]) (g := (gName 1)) (tt := tYes) rfl sc_is_text.nd (pi_str (pv 0)) (blkOk_by (own := [("sign", 1)]) (N := N_is_text) (sc := C8.fnScope s_is_text) (by decide +kernel)) (fun _ _ _ _ _ => pg_name (i := 1) sc_is_text.nd rfl (Or.inl rfl)) (fun _ _ _ _ _ => pts_nil) (fun _ _ _ _ _ => (pe_cmpR op_in_sign (pv 1) (pe_glob (v := .str (tx abcdef)) rfl gL ⟨_, rfl⟩) rfl))) pa_nil))))))), ?_⟩
    refine ⟨_, rfl, _, _, _, _, true, rfl, .ty "str", .base (.str _), kit_str, true, rfl, iteT ?_⟩
    refine ⟨_, rfl, _, rfl, by rw [tx_len]; exact sz60 (by omega), _, _, rfl, rfl, ?_⟩
    refine ⟨_, rfl, iteD (show ((tx l).length : Int) ≤ 60 by rw [tx_len]; omega) ?_⟩
    refine ⟨_, rfl, tx l, rfl, fun D nD => lc_it (walk_str (z := tx l)) (fun i H' => Same H H' ∧ H' D = some (.lst ((List.replicate i true).map V.bl))) ⟨same_upd nD, upd_same⟩ (fun _ _ _ _ => trivial) ?_ ?_⟩
    · rintro i x H1 H2 hi ⟨s1, e1⟩ ⟨rfl, c, hc, rfl⟩
      refine ⟨rfl, .str ⟨#[c]⟩, rfl, c, tx abcdef, rfl, rfl, _, e1, ?_, ?_⟩
      · rw [List.length_map, List.length_replicate]
        have : i < (tx l).cps.size := hi
        exact small1000 (by simp at this; omega)
      · refine ⟨fun b o e => ?_, ?_⟩
        · rw [upd_ne (ne_of_none e nD)]
          exact s1 b o e
        · rw [upd_same]
          have hc' : c ∈ l := by
            have := List.mem_of_getElem? (show l[i]? = some c by simpa using hc)
            exact this
          rw [decide_eq_true (show c ∈ (tx abcdef).cps.toList from ha c hc'), List.replicate_succ', List.map_append]
          rfl
    · rintro H1 ⟨s1, e1⟩
      refine ⟨D, _, rfl, .inl (.inl e1), ?_⟩
      refine qbl ?_ (q H1 s1)
      simp
end

abbrev s_need_text : Stmt := topS 13
def N_need_text : List Str := ["text"]
theorem sc_need_text : FnScope N_need_text ["text"] (C8.fnScope s_need_text) := C8.fnScope_by (by decide +kernel)
def sp_need_text : Sp := fun vs H Q _ => ∃ l, vs = [.str (tx l)] ∧ Ok l ∧ ∀ H', Same H H' → Q (.str (tx l)) H'
section
variable {P : Program} {w : World} {K : PySem.W.Frag} {mg : Str → Option Value} {base : Heap}
theorem c_need_text (c_is_text : C8.Cal P w K mg base 1 "is_text" sp_is_text []) (D : DefAt K mg "need_text" s_need_text) : C8.Cal P w K mg base 2 "need_text" sp_need_text [] := by
  refine cal_of D sc_need_text (fun _ _ _ _ _ _ us hl => match us, hl with | [_], _ => rfl) (fun vs H Q E h => ?_) (fun f cdv A outer s H vs Q E hr h => ?_)
  · obtain ⟨l, rfl, _⟩ := h; rfl
  · obtain ⟨l, rfl, ok, q⟩ := h
    refine ⟨_, (pss_cons (ps_if (pt_not (pt_val (C8.pe_c c_is_text hr (by decide) rfl (pa_cons (pv 0) pa_nil)))) (pss_one ps_never) pss_nil)
  (pss_one (ps_ret (pv 0)))), ?_⟩
    exact ⟨_, rfl, l, rfl, ok, fun H' s1 => ⟨true, rfl, iteF ⟨_, rfl, q H' s1⟩⟩⟩
end

/-! ### slices -/
theorem cut_to (l : List Nat) (n : Nat) : cutS (tx l) none (some (n : Int)) = tx (l.take n) := by
  rw [C8.cutS_slice, SX.slice_to (by omega), Int.toNat_natCast]
theorem cut_from (l : List Nat) (n : Nat) : cutS (tx l) (some (n : Int)) none = tx (l.drop n) := by
  rw [C8.cutS_slice, SX.slice_from (by omega), Int.toNat_natCast]
theorem cut_mid (l : List Nat) (a b : Nat) : cutS (tx l) (some (a : Int)) (some (b : Int)) = tx ((l.drop a).take (b - a)) := by
  unfold cutS
  rw [HT.sIx_nat, HT.sIx_nat, tx_len]
  show (⟨((l.drop (min a l.length)).take (min b l.length - min a l.length)).toArray⟩ : Str) = ⟨((l.drop a).take (b - a)).toArray⟩
  congr 2
  by_cases h : a ≤ l.length
  · rw [Nat.min_eq_left h]
    by_cases h2 : b ≤ l.length
    · rw [Nat.min_eq_left h2]
    · rw [Nat.min_eq_right (Nat.le_of_not_le h2), List.take_of_length_le (by simp), List.take_of_length_le (by simp; omega)]
  · rw [show min a l.length = l.length from Nat.min_eq_right (Nat.le_of_not_le h), List.drop_of_length_le (Nat.le_refl _), List.drop_of_length_le (Nat.le_of_not_le h)]
    simp
/-- a slice whose bounds are told from the end -/
theorem sIx_neg (n d k : Nat) : HT.sIx n d (some (-((k + 1 : Nat) : Int))) = n - (k + 1) := by
  show (if -((k + 1 : Nat) : Int) < 0 then (-((k + 1 : Nat) : Int) + (n : Int)).toNat else _) = _
  rw [if_pos (by omega)]
  omega
theorem cut_neg (l : List Nat) (a b : Nat) : cutS (tx l) (some (-((a + 1 : Nat) : Int))) (some (-((b + 1 : Nat) : Int))) = tx ((l.drop (l.length - (a + 1))).take (l.length - (b + 1) - (l.length - (a + 1)))) := by
  unfold cutS
  rw [sIx_neg, sIx_neg, tx_len]
theorem cut_negto (l : List Nat) (b : Nat) : cutS (tx l) none (some (-((b + 1 : Nat) : Int))) = tx (l.take (l.length - (b + 1))) := by
  unfold cutS
  rw [sIx_neg, tx_len]
  rfl
theorem cut_negfrom (l : List Nat) (a : Nat) : cutS (tx l) (some (-((a + 1 : Nat) : Int))) none = tx (l.drop (l.length - (a + 1))) := by
  unfold cutS
  rw [sIx_neg, tx_len]
  show (⟨((l.drop (l.length - (a + 1))).take (l.length - (l.length - (a + 1)))).toArray⟩ : Str) = _
  rw [List.take_of_length_le (by simp)]

abbrev s_copied_of : Stmt := topS 14
def N_copied_of : List Str := ["text", "size", "place"]
theorem sc_copied_of : FnScope N_copied_of ["text", "size", "place"] (C8.fnScope s_copied_of) := C8.fnScope_by (by decide +kernel)
def sp_copied_of : Sp := fun vs H Q _ => ∃ (l : List Nat) (z p : Nat), vs = [.str (tx l), .int z, .int p] ∧ l.length ≤ 10000 ∧ Q (.str (tx (l.take (p + z) ++ l.drop p))) H
section
variable {P : Program} {w : World} {K : PySem.W.Frag} {mg : Str → Option Value} {base : Heap}
theorem big2 {n : Nat} (h : n ≤ 1000000) : n ≤ sizeLine := by rw [sizeLine_eq]; omega
theorem c_copied_of (D : DefAt K mg "copied_of" s_copied_of) : C8.Cal P w K mg base 1 "copied_of" sp_copied_of [] := by
  refine cal_of D sc_copied_of (fun _ _ _ _ _ _ us hl => match us, hl with | [_, _, _], _ => rfl) (fun vs H Q E h => ?_) (fun f cdv A outer s H vs Q E hr h => ?_)
  · obtain ⟨l, z, p, rfl, _⟩ := h; rfl
  · obtain ⟨l, z, p, rfl, hl, q⟩ := h
    refine ⟨_, (pss_one (ps_ret (pe_op op_add_str (pe_slice sl_str (pv 0) po_none (po_some (pe_op op_add (pv 2) (pv 1)))) (pe_slice sl_str (pv 0) (po_some (pv 2)) po_none)))), ?_⟩
    have hz : (tx l).length ≤ sizeLine := by rw [tx_len]; exact big2 (by omega)
    refine ⟨_, rfl, _, rfl, _, rfl, _, _, rfl, rfl, _, rfl, _, rfl, hz, _, rfl, _, rfl, _, rfl, _, rfl, hz, _, _, rfl, rfl, ?_, ?_⟩
    · rw [show ((p : Int) + (z : Int)) = ((p + z : Nat) : Int) by omega, cut_to, cut_from, tx_len, tx_len]
      refine big2 ?_
      simp
      omega
    · refine qstr ?_ q
      rw [show ((p : Int) + (z : Int)) = ((p + z : Nat) : Int) by omega, cut_to, cut_from, tx_cat]
end
end TW
set_option Elab.async false
set_option linter.all false
set_option maxRecDepth 100000
set_option maxHeartbeats 4000000
namespace TW
open PySem PySem.Spec PyProof.Rows L2
abbrev s_short_root_of : Stmt := topS 22
def N_short_root_of : List Str := ["text", "found", "sign"]
theorem sc_short_root_of : FnScope N_short_root_of ["text"] (C8.fnScope s_short_root_of) := C8.fnScope_by (by decide +kernel)
def sp_short_root_of : Sp := fun vs H Q _ => ∃ l, vs = [.str (tx l)] ∧ l.length ≤ 1000 ∧ Q (.str (tx (root l))) H
section
variable {P : Program} {w : World} {K : PySem.W.Frag} {mg : Str → Option Value} {base : Heap}
theorem c_short_root_of (G : Glb K mg) (D : DefAt K mg "short_root_of" s_short_root_of) : C8.Cal P w K mg base 1 "short_root_of" sp_short_root_of [] := by
  refine cal_of D sc_short_root_of (fun _ _ _ _ _ _ us hl => match us, hl with | [_], _ => rfl) (fun vs H Q E h => ?_) (fun f cdv A outer s H vs Q E hr h => ?_)
  · obtain ⟨l, rfl, _⟩ := h; rfl
  · obtain ⟨l, rfl, hl, q⟩ := h
    refine ⟨_, (pss_cons (ps_set (i := 1) sc_short_root_of.nd rfl (Or.inl rfl) pe_str)
  (pss_cons (ps_for PassesOwn.never rfl (pi_str (pv 0)) (pg_name (i := 2) sc_short_root_of.nd rfl (Or.inl rfl))
  (pss_cons (ps_set (i := 1) sc_short_root_of.nd rfl (Or.inl rfl) (pe_op op_add_str (pv 1) (pv 2)))
  (pss_one (ps_if (pt_cmpR op_eq (pe_slice sl_str (pv 1) (po_some (pe_un un_neg pe_int)) (po_some (pe_un un_neg pe_int))) (pv 2) (nomark _)) (pss_one (ps_set (i := 1) sc_short_root_of.nd rfl (Or.inl rfl) (pe_slice sl_str (pv 1) po_none (po_some (pe_un un_neg pe_int))))) (pss_one (ps_if (PW.pt (pw_and (pt_cmpR op_gt (pe_callB call_len_str rfl G.len PySem.boot_len (pa_cons (pv 1) pa_nil)) pe_int (nomark _)) (pw_and1 (pt_cmpR op_eq (pe_slice sl_str (pv 1) (po_some (pe_un un_neg pe_int)) (po_some (pe_un un_neg pe_int))) (pe_slice sl_str (pv 1) (po_some (pe_un un_neg pe_int)) po_none) (nomark _))))) (pss_one (ps_set (i := 1) sc_short_root_of.nd rfl (Or.inl rfl) (pe_slice sl_str (pv 1) po_none (po_some (pe_un un_neg pe_int))))) pss_nil))))))
  (pss_one (ps_ret (pv 1))))), ?_⟩
    refine ⟨_, rfl, tx l, rfl, for_it (walk_str (z := tx l)) (fun i σ H' => ∃ y2, σ = [some (.str (tx l)), some (.str (tx (rt (l.take i)).reverse)), y2] ∧ H' = H) ⟨none, rfl, rfl⟩ (fun _ _ _ _ _ => trivial) ?_ ?_⟩
    · rintro i x σ H1 H2 hi ⟨y2, rfl, rfl⟩ ⟨rfl, c, hc, rfl⟩
      have hi' : i < l.length := by simpa using hi
      have hc' : l[i]? = some c := by simpa using hc
      have hlen : (rt (l.take i)).reverse.length ≤ 1000 := by
        have := rt_len (l.take i) []
        simp at this ⊢
        unfold rt
        omega
      have hnx : rt (l.take (i + 1)) = rst (rt (l.take i)) c := by
        rw [List.take_add_one, hc']
        exact root_snoc _ _
      obtain ⟨k1, k2, k3⟩ := rst_text (rt (l.take i)) c
      -- found = found + sign
      refine ⟨_, rfl, _, rfl, _, _, rfl, rfl, ?_, ?_⟩
      · rw [tx_len, show (⟨#[c]⟩ : Str) = tx [c] from rfl, tx_len]
        refine big2 ?_
        simp only [List.length_cons, List.length_nil]
        omega
      rw [show tx (rt (l.take i)).reverse ++ (⟨#[c]⟩ : Str) = tx ((rt (l.take i)).reverse ++ [c]) from tx_cat _ [c]]
      generalize hf : (rt (l.take i)).reverse ++ [c] = fd at k1 k2 k3
      have hz : (tx fd).length ≤ sizeLine := by
        rw [tx_len, ← hf]
        refine big2 ?_
        rw [List.length_append]
        simp only [List.length_cons, List.length_nil]
        omega
      -- found[-2:-1] == sign
      refine ⟨_, rfl, _, rfl, _, rfl, _, rfl, _, rfl, _, rfl, hz, _, rfl, rfl, _, rfl, ?_⟩
      rw [show (some (-2) : Option Int) = some (-((1 + 1 : Nat) : Int)) from rfl, show (some (-1) : Option Int) = some (-((0 + 1 : Nat) : Int)) from rfl, cut_neg, show (⟨#[c]⟩ : Str) = tx [c] from rfl]
      refine ite2 (fun e => ?_) (fun e => ?_)
      · have e : rtc1 fd c := tx_inj (V.str.inj (of_decide_eq_true e))
        refine ⟨_, rfl, _, rfl, _, rfl, _, rfl, hz, ?_⟩
        refine ⟨some (.str (tx [c])), ?_, rfl⟩
        rw [hnx, k1 e, show (some (-1) : Option Int) = some (-((0 + 1 : Nat) : Int)) from rfl, cut_negto]
        rfl
      · have e : ¬ rtc1 fd c := fun z => e (decide_eq_true (congrArg (fun z => V.str (tx z)) z))
        refine ⟨_, rfl, _, rfl, hz, _, _, rfl, rfl, _, rfl, ?_⟩
        rw [tx_len]
        by_cases h3 : 3 < fd.length
        · refine iteD (by omega) ?_
          refine ⟨_, rfl, _, rfl, _, rfl, _, rfl, _, rfl, _, rfl, hz, _, rfl, _, rfl, _, rfl, _, rfl, hz, rfl, _, rfl, ?_⟩
          rw [show (some (-2) : Option Int) = some (-((1 + 1 : Nat) : Int)) from rfl, show (some (-4) : Option Int) = some (-((3 + 1 : Nat) : Int)) from rfl, cut_neg, cut_negfrom]
          refine ite2 (fun e2 => ?_) (fun e2 => ?_)
          · have e2 : rtc2 fd := tx_inj (V.str.inj (of_decide_eq_true e2))
            refine ⟨_, rfl, _, rfl, _, rfl, _, rfl, hz, ?_⟩
            refine ⟨some (.str (tx [c])), ?_, rfl⟩
            rw [hnx, k2 e h3 e2, show (some (-2) : Option Int) = some (-((1 + 1 : Nat) : Int)) from rfl, cut_negto]
            rfl
          · have e2 : ¬ rtc2 fd := fun z => e2 (decide_eq_true (congrArg (fun z => V.str (tx z)) z))
            refine ⟨some (.str (tx [c])), ?_, rfl⟩
            rw [hnx, k3 e (fun z => e2 z.2)]
            rfl
        · refine iteDN (by omega) ?_
          refine iteF ?_
          refine ⟨some (.str (tx [c])), ?_, rfl⟩
          rw [hnx, k3 e (fun z => h3 z.1)]
          rfl
    · rintro σ H1 ⟨y2, rfl, rfl⟩
      refine ⟨_, rfl, ?_⟩
      refine qstr ?_ q
      unfold root
      rw [List.take_of_length_le (by simp)]
end

abbrev s_short_root : Stmt := topS 23
def N_short_root : List Str := ["text"]
theorem sc_short_root : FnScope N_short_root ["text"] (C8.fnScope s_short_root) := C8.fnScope_by (by decide +kernel)
def sp_short_root : Sp := fun vs H Q _ => ∃ l, vs = [.str (tx l)] ∧ Ok l ∧ ∀ H', Same H H' → Q (.str (tx (root l))) H'
abbrev s_are_short_kin : Stmt := topS 24
def N_are_short_kin : List Str := ["one", "other"]
theorem sc_are_short_kin : FnScope N_are_short_kin ["one", "other"] (C8.fnScope s_are_short_kin) := C8.fnScope_by (by decide +kernel)
def sp_are_short_kin : Sp := fun vs H Q _ => ∃ l m, vs = [.str (tx l), .str (tx m)] ∧ Ok l ∧ Ok m ∧ ∀ H', Same H H' → Q (.bl (decide (root m = root l))) H'
abbrev s_need_both : Stmt := topS 28
def N_need_both : List Str := ["later", "elder"]
theorem sc_need_both : FnScope N_need_both ["later", "elder"] (C8.fnScope s_need_both) := C8.fnScope_by (by decide +kernel)
def sp_need_both : Sp := fun vs H Q _ => ∃ l m, vs = [.str (tx l), .str (tx m)] ∧ Ok l ∧ Ok m ∧ ∀ H', Same H H' → Q .non H'
section
variable {P : Program} {w : World} {K : PySem.W.Frag} {mg : Str → Option Value} {base : Heap}
theorem c_short_root (c_short_root_of : C8.Cal P w K mg base 1 "short_root_of" sp_short_root_of []) (c_need_text : C8.Cal P w K mg base 2 "need_text" sp_need_text []) (D : DefAt K mg "short_root" s_short_root) : C8.Cal P w K mg base 3 "short_root" sp_short_root [] := by
  refine cal_of D sc_short_root (fun _ _ _ _ _ _ us hl => match us, hl with | [_], _ => rfl) (fun vs H Q E h => ?_) (fun f cdv A outer s H vs Q E hr h => ?_)
  · obtain ⟨l, rfl, _⟩ := h; rfl
  · obtain ⟨l, rfl, ok, q⟩ := h
    refine ⟨_, (pss_one (ps_ret (C8.pe_c c_short_root_of hr (by decide) rfl (pa_cons (C8.pe_c c_need_text hr (by decide) rfl (pa_cons (pv 0) pa_nil)) pa_nil)))), ?_⟩
    exact ⟨_, rfl, l, rfl, ok, fun H' s1 => ⟨l, rfl, Nat.le_trans ok.1 (by decide), q H' s1⟩⟩
theorem c_are_short_kin (c_short_root_of : C8.Cal P w K mg base 1 "short_root_of" sp_short_root_of []) (c_need_text : C8.Cal P w K mg base 2 "need_text" sp_need_text []) (D : DefAt K mg "are_short_kin" s_are_short_kin) : C8.Cal P w K mg base 3 "are_short_kin" sp_are_short_kin [] := by
  refine cal_of D sc_are_short_kin (fun _ _ _ _ _ _ us hl => match us, hl with | [_, _], _ => rfl) (fun vs H Q E h => ?_) (fun f cdv A outer s H vs Q E hr h => ?_)
  · obtain ⟨l, m, rfl, _⟩ := h; rfl
  · obtain ⟨l, m, rfl, o1, o2, q⟩ := h
    refine ⟨_, (pss_cons (ps_expr (C8.pe_c c_need_text hr (by decide) rfl (pa_cons (pv 0) pa_nil)))
  (pss_one (ps_ret (pe_cmpR op_eq (C8.pe_c c_short_root_of hr (by decide) rfl (pa_cons (C8.pe_c c_need_text hr (by decide) rfl (pa_cons (pv 1) pa_nil)) pa_nil)) (C8.pe_c c_short_root_of hr (by decide) rfl (pa_cons (pv 0) pa_nil)) (nomark _))))), ?_⟩
    refine ⟨_, rfl, l, rfl, o1, fun H1 s1 => ?_⟩
    refine ⟨_, rfl, m, rfl, o2, fun H2 s2 => ⟨m, rfl, Nat.le_trans o2.1 (by decide), ?_⟩⟩
    refine ⟨_, rfl, l, rfl, Nat.le_trans o1.1 (by decide), rfl, ?_⟩
    exact qbl (dec_tx _ _).symm (q H2 (s1.trans s2))
theorem c_need_both (c_need_text : C8.Cal P w K mg base 2 "need_text" sp_need_text []) (D : DefAt K mg "need_both" s_need_both) : C8.Cal P w K mg base 3 "need_both" sp_need_both [] := by
  refine cal_of D sc_need_both (fun _ _ _ _ _ _ us hl => match us, hl with | [_, _], _ => rfl) (fun vs H Q E h => ?_) (fun f cdv A outer s H vs Q E hr h => ?_)
  · obtain ⟨l, m, rfl, _⟩ := h; rfl
  · obtain ⟨l, m, rfl, o1, o2, q⟩ := h
    refine ⟨_, (pss_cons (ps_expr (C8.pe_c c_need_text hr (by decide) rfl (pa_cons (pv 0) pa_nil)))
  (pss_one (ps_expr (C8.pe_c c_need_text hr (by decide) rfl (pa_cons (pv 1) pa_nil))))), ?_⟩
    exact ⟨_, rfl, l, rfl, o1, fun H1 s1 => ⟨_, rfl, m, rfl, o2, fun H2 s2 => q H2 (s1.trans s2)⟩⟩
end
end TW
set_option Elab.async false
set_option linter.all false
set_option maxRecDepth 100000
set_option maxHeartbeats 4000000
namespace TW
open PySem PySem.Spec PyProof.Rows L2
/-! ### enumerate of a text -/
theorem draws_str {P : Program} {w : World} {A : Around} (hh : A.handled = none) (it : Addr) (x : Str) (t : Tok) :
    Draws P w A it [it] x.cps.size (fun i v => ∃ c u, x.cps[i]? = some c ∧ v = .str ⟨#[c]⟩ u) (fun i h => h.IsStrIter it (strIterType x) x t i) := by
  unfold strIterType
  cases h : x.cps.all (· < 128)
  · exact Draws.strWide hh it x t
  · exact Draws.strAscii hh it x t
/-- the signs of a text with their numbers, each in a new pair -/
def ItEs (x : Str) : It :=
  ⟨fun i _ => i < x.cps.size, fun i H v H' => ∃ T c, v = .ref T ∧ H T = none ∧ H' = upd H T (.tup [.int (i : Nat), .str ⟨#[c]⟩]) ∧ x.cps[i]? = some c, fun i _ => x.cps.size ≤ i⟩
theorem turn_enumS {P : Program} {w : World} {K : PySem.W.Frag} {es : List Expr} {k : Nat} {tp : Pos} (x : Str) (t : Tok) (e it : Addr) (hne : e ≠ it) :
    Turn P w K (.Tuple es k tp) (ItEs x) [e, it] e (fun i h => (∃ old, IsEnum h e it ((i : Nat) : Int) old) ∧ h.IsStrIter it (strIterType x) x t i ∧ i ≤ x.cps.size) where
  mem := List.mem_cons_self ..
  obj := by
    rintro i h ⟨⟨old, he⟩, ⟨o, ho, hc, hd⟩, _⟩ b hb
    rcases List.mem_cons.mp hb with z | z
    · subst z; exact ⟨_, he, fun v q => nomatch q⟩
    · rw [List.mem_singleton.mp z]; exact ⟨o, ho, fun v q => by rw [hd] at q; cases q⟩
  keep := by
    rintro i h h' ⟨⟨old, he⟩, ⟨o, ho, r⟩, hi⟩ k
    exact ⟨⟨old, k e (by simp) _ he⟩, ⟨o, k it (by simp) _ ho, r⟩, hi⟩
  item := by
    intro X hP hw hK hc i pins s σ H E I hf st hg
    subst hP; subst hw; subst hK
    obtain ⟨⟨old, he⟩, hit, hi⟩ := st
    have hel : e < s.heap.objs.size := Heap.lt_size he
    have hil : it < s.heap.objs.size := by obtain ⟨_, q, _⟩ := hit; exact Heap.lt_size q
    have DR := draws_str (P := X.prog) (w := X.w) (A := X.A.in1) (I.ok.hd hc) it x t
    refine wpAny_pyNext_enum_itemD DR he hit hg hne (by simpa using hne) fun u h' tk hP ho hit' hT hsz hk => ?_
    obtain ⟨c, uu, hx, rfl⟩ := hP
    refine ⟨_, rfl, wpAny_letOwnedTupleGo_enum (s := { s with heap := h', toks := tk + 1 }) ho fun h'' he' sb => ?_⟩
    have hT2 : h''.get? s.heap.objs.size = some { cls := .type "tuple", data := .seq #[.int i tk, .str ⟨#[c]⟩ uu] } := (sb.2 _ (Nat.ne_of_gt hel)).trans hT
    have nw : ObjOk X.prog X.w (upd H s.heap.objs.size (.tup [.int (i : Nat), .str ⟨#[c]⟩])) h'' s.heap.objs.size (.tup [.int (i : Nat), .str ⟨#[c]⟩]) :=
      ⟨small1000 (by simp), [.int i tk, .str ⟨#[c]⟩ uu], .cons ⟨_, rfl⟩ (.cons ⟨_, rfl⟩ .nil), ⟨_, hT2, rfl, _, rfl⟩⟩
    have I1 : Inv X pins σ (upd H s.heap.objs.size (.tup [.int (i : Nat), .str ⟨#[c]⟩])) { s with heap := h'', toks := tk + 1 } :=
      I.turnedNew (ch := [e, it]) (fun b ob hb q => (sb.2 b (fun z => hb (by simp [z]))).trans (hk b ob (fun z => hb (by simp [z])) (fun z => hb (by simp [z])) q)) hf (Nat.le_refl _) nw
    refine ⟨.ref s.heap.objs.size, _, I1, rfl, ⟨_, c, rfl, I.hok.fresh (Nat.le_refl _), rfl, hx⟩, ⟨⟨_, by rw [show ((i + 1 : Nat) : Int) = (i : Int) + 1 by omega]; exact he'⟩, ?_, hg⟩, fun b hb => ?_⟩
    · obtain ⟨o, q, r⟩ := hit'
      exact ⟨o, (sb.2 it (Ne.symm hne)).trans q, r⟩
    · have hb' : b < s.heap.objs.size := by
        rcases List.mem_cons.mp hb with z | z
        · subst z; exact hel
        · rw [List.mem_singleton.mp z]; exact hil
      rw [upd_ne (Nat.ne_of_lt hb')]
      exact (hf b hb).1
  done := by
    intro X hP hw hK hc i pins s σ H E I hf st hg
    subst hP; subst hw; subst hK
    obtain ⟨⟨old, he⟩, hit, hi⟩ := st
    have hi : i = x.cps.size := Nat.le_antisymm hi hg
    subst hi
    obtain ⟨f0, f1, f2, f3, f4, f5⟩ := hf it (by simp)
    have DR := draws_str (P := X.prog) (w := X.w) (A := X.A.in1) (I.ok.hd hc) it x t
    exact wpAny_pyNext_enum_endD DR he hit fun h' eb => ⟨rfl, I.turned (t' := s.toks) (fun b o hb q => eb b o hb q) f0 f1 f3 f4 f5⟩
  self := fun A i s Q E st h => by
    obtain ⟨⟨_, he⟩, _⟩ := st
    exact wpAny_pyIter_enum he h
def iEnumS (ta : TA) : TI := fun σ H R => ta σ H fun vs H1 => ∃ x, vs = [.str x] ∧ R (ItEs x) H1
theorem pi_enumS {X : Cx} {e : Expr} {ta : TA} {p pos tpos : Pos} {es : List Expr} {k : Nat} (hg : Gl X "enumerate") (hm : X.mg "enumerate" = none) (ha : PA X [e] ta) (hs : starEach [e] X.env = [(false, eval e X.env)] := by rfl) :
    PI X (.Tuple es k tpos) (.Call (.Name "enumerate" p) [e] [] pos) (iEnumS ta) := by
  constructor
  intro pins s σ H R I h
  refine Call_ (ld_blt I hg hm boot_enumerate (PyProof.Rows.callWith_type1 (thn (ha.run pos pins s σ H _ I h) ?_) hs rfl))
  rintro us s1 ⟨vs, H1, I1, r1, x, rfl, q⟩
  obtain ⟨t, rfl⟩ : ∃ t, us = [.str x t] := by
    cases r1 with
    | cons r rr => cases rr; obtain ⟨t, rfl⟩ := r; exact ⟨t, rfl⟩
  refine call_enumerate_str fun h' he hit hsz hk => wpAny_pyIter_enum he ?_
  have I2 : Inv X pins σ H1 { s1 with heap := h' } := I1.kept (t' := s1.toks) hk
  refine ⟨s1.heap.objs.size + 1, [s1.heap.objs.size + 1, s1.heap.objs.size], _, _, H1, rfl, I2, turn_enumS x t (s1.heap.objs.size + 1) s1.heap.objs.size (Nat.succ_ne_self _), ⟨⟨.none, he⟩, hit, Nat.zero_le _⟩, fun b hb => ?_, q⟩
  have hle : s1.heap.objs.size ≤ b := by
    rcases List.mem_cons.mp hb with z | z
    · rw [z]; exact Nat.le_add_right _ _
    · rw [List.mem_singleton.mp z]; exact Nat.le_refl _
  exact I1.fpOk hle (I1.hok.fresh hle)
end TW
set_option Elab.async false
set_option linter.all false
set_option maxRecDepth 100000
set_option maxHeartbeats 4000000
namespace TW
open PySem PySem.Spec PyProof.Rows L2
abbrev nls (l : List Nat) : List V := l.map fun (n : Nat) => V.int n
theorem inV_nls (n : Nat) (l : List Nat) : inV (.int n) (nls l) = decide (n ∈ l) := by
  unfold inV nls
  rw [List.any_map]
  rw [Bool.eq_iff_iff, List.any_eq_true]
  simp only [Function.comp, decide_eq_true_eq]
  constructor
  · rintro ⟨x, hx, e⟩
    have : (x : Int) = n := by simpa [eqV] using e
    have : x = n := by omega
    exact this ▸ hx
  · intro h
    exact ⟨n, h, by simp [eqV]⟩
theorem inV_negone (l : List Nat) : inV (.int (-1)) (nls l) = false := by
  unfold inV nls
  rw [List.any_map, List.any_eq_false]
  intro x hx
  simp [eqV]
theorem flat_nls (l : List Nat) : (nls l).all flatV = true := by
  unfold nls
  rw [List.all_map, List.all_eq_true]
  intro x _
  rfl
abbrev s_next_doors : Stmt := topS 25
def N_next_doors : List Str := ["elder", "ahead", "sign", "found", "door", "stays"]
theorem sc_next_doors : FnScope N_next_doors ["elder", "ahead", "sign"] (C8.fnScope s_next_doors) := C8.fnScope_by (by decide +kernel)
def sp_next_doors : Sp := fun vs H Q _ => ∃ (e : List Nat) (p : Addr) (a : List Nat) (c : Nat), vs = [.str (tx e), .ref p, .str (tx [c])] ∧ H p = some (.lst (nls a)) ∧ e.length ≤ 1000 ∧ ∀ D H', H D = none → Same H H' → H' D = some (.lst (nls (nextD e a c))) → Q (.ref D) H'
def door (e : List Nat) (a : List Nat) (c d : Nat) : Bool := (a.contains d && ((e.drop d).take 2).contains c) || (decide (0 < d) && a.contains (d - 1) && decide (e[d]? = some c))
theorem gN {i : Nat} {v : V} {σ : L2.St} {H : Hp} {Q : L2.St → Hp → Prop} (h : Q (σ.set i (some v)) H) : gName i v σ H Q := h
theorem seqSet {te : TE} {i : Nat} {rest : TS} {D : Ends} {σ : L2.St} {H : Hp} (h : te σ H fun x H1 => rest D (σ.set i (some x)) H1) : tSeq (tAsg te (gName i)) rest D σ H := h
theorem ifS {c : TT} {t u : TS} {D : Ends} {σ : L2.St} {H : Hp} (h : c σ H fun b H1 => if b = true then t D σ H1 else u D σ H1) : tIfS c t u D σ H := h
theorem qb {Q : Bool → Hp → Prop} {H : Hp} {a b : Bool} (e : a = b) (q : Q a H) : Q b H := e ▸ q
theorem same_set {H H' : Hp} {p : Addr} {o : HO} (s : Same H H') (hF : H p = none) : Same H (upd H' p o) := fun b x e => by
  rw [upd_ne (ne_of_none e hF)]
  exact s b x e
theorem andV_read {ta tb : TE} {σ : L2.St} {H : Hp} {Q : VK} (a b : Bool) (ha : ∀ Q' : VK, Q' (.bl a) H → ta σ H Q') (hb : ∀ Q' : VK, Q' (.bl b) H → tb σ H Q') (q : Q (.bl (a && b)) H) : tAndV ta tb σ H Q := by
  refine ha _ ⟨a, rfl, ?_⟩
  cases a
  · exact iteF q
  · exact iteT (hb _ q)
theorem andT_read {t u : TT} {σ : L2.St} {H : Hp} {Q : Bool → Hp → Prop} (a b : Bool) (ha : ∀ Q' : Bool → Hp → Prop, Q' a H → t σ H Q') (hb : ∀ Q' : Bool → Hp → Prop, a = true → Q' b H → u σ H Q') (q : Q (a && b) H) : tAnd t u σ H Q := by
  refine ha _ ?_
  cases a
  · exact iteF q
  · exact iteT (hb _ rfl q)
theorem orT_read {t u : TT} {σ : L2.St} {H : Hp} {Q : Bool → Hp → Prop} (a b : Bool) (ha : ∀ Q' : Bool → Hp → Prop, Q' a H → t σ H Q') (hb : ∀ Q' : Bool → Hp → Prop, a = false → Q' b H → u σ H Q') (q : Q (a || b) H) : tOr t u σ H Q := by
  refine ha _ ?_
  cases a
  · exact iteF (hb _ rfl q)
  · exact iteT q
/-- the doors up to n -/
def nxt (e : List Nat) (a : List Nat) (c : Nat) (n : Nat) : List Nat := (List.range n).filter (door e a c)
section
variable {P : Program} {w : World} {K : PySem.W.Frag} {mg : Str → Option Value} {base : Heap}
theorem c_next_doors (G : Glb K mg) (D : DefAt K mg "next_doors" s_next_doors) : C8.Cal P w K mg base 1 "next_doors" sp_next_doors [] := by
  refine cal_of D sc_next_doors (fun _ _ _ _ _ _ us hl => match us, hl with | [_, _, _], _ => rfl) (fun vs H Q E h => ?_) (fun f cdv A outer s H vs Q E hr h => ?_)
  · obtain ⟨l, p, a, c, rfl, _⟩ := h; rfl
  · obtain ⟨l, p, a, c, rfl, hp, hl, q⟩ := h
    refine ⟨_, (pss_cons (ps_set (i := 3) sc_next_doors.nd rfl (Or.inl rfl) (pe_lst pa_nil))
  (pss_cons (ps_for PassesOwn.never rfl (pi_range1 rfl G.range (pa_cons (pe_callB call_len_str rfl G.len PySem.boot_len (pa_cons (pv 0) pa_nil)) pa_nil)) (pg_name (i := 4) sc_next_doors.nd rfl (Or.inl rfl))
  (pss_cons (ps_set (i := 5) sc_next_doors.nd rfl (Or.inl rfl) (pe_and (pe_cmpR op_in_seq (pv 4) (pv 1) (by rfl)) (pe_one (pe_cmpR op_in_sign (pv 2) (pe_slice sl_str (pv 0) (po_some (pv 4)) (po_some (pe_op op_add (pv 4) pe_int))) rfl))))
  (pss_one (ps_if (PW.pt (pw_or (pt_val (pv 5)) (pw_or1 (PW.pt (pw_and (pt_cmpR op_in_seq (pe_op op_sub (pv 4) pe_int) (pv 1) (by rfl)) (pw_and1 (pt_cmpR op_eq (pv 2) (pe_ix ix_str (pv 0) (pv 4) (fun _ _ => rfl)) (nomark _)))))))) (pss_one (ps_expr (pe_bm PySem.F.plainAttrs_list PySem.F.slot_list_append PySem.F.type_list_append mt_append (pv 3) (pa_cons (pv 4) pa_nil)))) pss_nil))))
  (pss_one (ps_ret (pv 3))))), ?_⟩
    have hz : (tx l).length ≤ sizeLine := by rw [tx_len]; exact sz60 hl
    refine ⟨Nat.zero_le _, fun F hF => ?_⟩
    refine ⟨_, rfl, _, rfl, hz, _, rfl, by rw [tx_len]; omega, by rw [tx_len]; omega, ?_⟩
    rw [tx_len, Int.toNat_natCast]
    refine for_it walk_range (fun i σ H' => ∃ y4 y5, σ = [some (.str (tx l)), some (.ref p), some (.str (tx [c])), some (.ref F), y4, y5] ∧ Same H H' ∧ H' F = some (.lst (nls (nxt l a c i)))) ⟨none, none, rfl, same_upd hF, upd_same⟩ (fun _ _ _ _ _ => trivial) ?_ ?_
    · rintro i x σ H1 H2 hi ⟨y4, y5, rfl, s1, e1⟩ ⟨rfl, rfl⟩
      have e0 : (0 : Int) + (i : Int) = (i : Int) := by omega
      have rp : Rd H2 p (.lst (nls a)) := .inl (s1 p _ hp)
      refine gN (seqSet ?_)
      refine andV_read (σ := [some (.str (tx l)), some (.ref p), some (.str (tx [c])), some (.ref F), some (.int (0 + (i : Int))), y5]) (H := H2) (a.contains i) (((l.drop i).take 2).contains c) (fun Q' z => ⟨_, rfl, _, rfl, p, nls a, rfl, .inl (.inl rp), rfl, flat_nls a, ?_⟩) (fun Q' z => ⟨_, rfl, _, rfl, _, rfl, _, rfl, _, rfl, _, _, rfl, rfl, _, rfl, _, rfl, hz, c, _, rfl, rfl, ?_⟩) ?_
      · refine qbl ?_ z
        rw [if_neg Bool.false_ne_true, e0, inV_nls, List.contains_eq_mem]
      · refine qbl ?_ z
        rw [e0, show ((i : Int) + 2) = ((i + 2 : Nat) : Int) by omega, cut_mid, List.contains_eq_mem, show i + 2 - i = 2 by omega]
      · show tIfS (tOr _ _) _ _ _ [some (.str (tx l)), some (.ref p), some (.str (tx [c])), some (.ref F), some (.int (0 + (i : Int))), some (.bl (a.contains i && ((l.drop i).take 2).contains c))] H2
        refine ifS ?_
        refine orT_read (σ := [some (.str (tx l)), some (.ref p), some (.str (tx [c])), some (.ref F), some (.int (0 + (i : Int))), some (.bl (a.contains i && ((l.drop i).take 2).contains c))]) (H := H2) (a.contains i && ((l.drop i).take 2).contains c) (decide (0 < i) && a.contains (i - 1) && decide (l[i]? = some c)) (fun Q' z => ⟨_, rfl, _, rfl, z⟩) (fun Q' _ z => ?_) ?_
        · refine andT_read (decide (0 < i) && a.contains (i - 1)) (decide (l[i]? = some c)) (fun Q' z => ⟨_, rfl, _, _, rfl, rfl, _, rfl, p, nls a, rfl, .inl (.inl rp), rfl, flat_nls a, _, rfl, ?_⟩) (fun Q' _ z => ⟨_, rfl, _, rfl, _, rfl, tx l, (i : Int), l[i], rfl, ?_, hz, ?_, rfl, _, rfl, ?_⟩) z
          · rw [if_neg Bool.false_ne_true, e0]
            cases i with
            | zero =>
              refine qb ?_ z
              show _ = inV (.int (((0 : Nat) : Int) - 1)) (nls a)
              rw [show (((0 : Nat) : Int) - 1) = -1 by omega, inV_negone]
              rfl
            | succ i =>
              refine qb ?_ z
              show _ = inV (.int (((i + 1 : Nat) : Int) - 1)) (nls a)
              rw [show (((i + 1 : Nat) : Int) - 1) = (i : Int) by omega, inV_nls, ← List.contains_eq_mem]
              simp
          · rw [e0]
          · exact atI_nat (by simp [hi])
          · refine qb ?_ z
            rw [show (⟨#[l[i]]⟩ : Str) = tx [l[i]] from rfl, dec_tx]
            simp only [List.getElem?_eq_getElem hi, Option.some.injEq, List.cons.injEq, and_true]
            exact decide_eq_decide.mpr ⟨fun z => z.symm, fun z => z.symm⟩
        · have hn : nxt l a c (i + 1) = nxt l a c i ++ (if door l a c i then [i] else []) := by
            unfold nxt
            rw [List.range_succ, List.filter_append]
            simp
            split <;> simp_all
          refine ite2 (fun e => ?_) (fun e => ?_)
          · have e : door l a c i = true := e
            refine ⟨_, rfl, .inl ⟨rfl, _, .inl (.inl e1)⟩, _, rfl, F, _, _, rfl, rfl, e1, ?_, ?_⟩
            · rw [List.length_map]
              refine small1000 ?_
              have := List.length_filter_le (door l a c) (List.range i)
              rw [List.length_range] at this
              unfold nxt
              omega
            · refine ⟨_, _, rfl, same_set s1 (hF := hF), ?_⟩
              rw [upd_same, hn, if_pos e, e0]
              simp
          · refine ⟨_, _, rfl, s1, ?_⟩
            rw [hn, if_neg (show ¬ door l a c i = true from e), List.append_nil]
            exact e1
    · rintro σ H1 ⟨y4, y5, rfl, s1, e1⟩
      refine ⟨_, rfl, q F H1 hF s1 ?_⟩
      exact e1
end
theorem lotsR_snoc (e : List Nat) : ∀ (r a : List Nat) (c : Nat), lotsR e a (r ++ [c]) = nextD e (lotsR e a r) c
  | [], a, c => rfl
  | d :: r, a, c => lotsR_snoc e r (nextD e a d) c
abbrev s_doors_along : Stmt := topS 26
def N_doors_along : List Str := ["later", "elder", "found", "number", "sign"]
theorem sc_doors_along : FnScope N_doors_along ["later", "elder"] (C8.fnScope s_doors_along) := C8.fnScope_by (by decide +kernel)
def sp_doors_along : Sp := fun vs H Q _ => ∃ (c : Nat) (r e : List Nat), vs = [.str (tx (c :: r)), .str (tx e)] ∧ e.length ≤ 1000 ∧ r.length < 1000 ∧
  ∀ D H', Same H H' → (∃ xs p, H' D = some (.lst (xs ++ [.ref p])) ∧ xs.length ≤ 1000 ∧ H' p = some (.lst (nls (lotsR e (firstD e c) r)))) → Q (.ref D) H'
section
variable {P : Program} {w : World} {K : PySem.W.Frag} {mg : Str → Option Value} {base : Heap}
theorem walk_enumS {x : Str} : Walk (ItEs x) x.cps.size (fun _ => True) (YPair (fun i => some (.int (i : Nat))) (fun i => x.cps[i]?.map fun c => .str ⟨#[c]⟩)) :=
  ⟨fun i H h _ => h, fun H _ => Nat.le_refl _, fun i H v H' h _ ⟨T, c, e1, e2, e3, e4⟩ => ⟨T, _, _, e1, e2, e3, rfl, by show Option.map _ x.cps[i]? = _; rw [e4]; rfl⟩⟩
theorem c_doors_along (G : Glb K mg) (c_next_doors : C8.Cal P w K mg base 1 "next_doors" sp_next_doors []) (D : DefAt K mg "doors_along" s_doors_along) : C8.Cal P w K mg base 2 "doors_along" sp_doors_along [] := by
  refine cal_of D sc_doors_along (fun _ _ _ _ _ _ us hl => match us, hl with | [_, _], _ => rfl) (fun vs H Q E h => ?_) (fun f cdv A outer s H vs Q E hr h => ?_)
  · obtain ⟨c, r, e, rfl, _⟩ := h; rfl
  · obtain ⟨c0, r, e, rfl, hle, hlr, q⟩ := h
    refine ⟨_, (pss_cons (ps_set (i := 2) sc_doors_along.nd rfl (Or.inl rfl) (pe_lst pa_nil))
  (pss_cons (ps_for PassesOwn.never rfl (pi_enumS rfl G.enumerate (pa_cons (pv 0) pa_nil)) (pg_tup rfl (pgs_cons (pg_name (i := 3) sc_doors_along.nd rfl (Or.inl rfl)) (pgs_cons (pg_name (i := 4) sc_doors_along.nd rfl (Or.inl rfl)) pgs_nil)))
  (pss_one (ps_if (pt_cmpR op_eq (pv 3) pe_int (nomark _)) (pss_one (ps_expr (pe_bm PySem.F.plainAttrs_list PySem.F.slot_list_append PySem.F.type_list_append mt_append (pv 2) (pa_cons (pe_ifExp (pt_cmpR op_eq (pe_slice sl_str (pv 1) po_none (po_some pe_int)) (pv 4) (nomark _)) (pe_lst (pa_cons pe_int pa_nil)) (pe_lst pa_nil)) pa_nil)))) (pss_one (ps_expr (pe_bm PySem.F.plainAttrs_list PySem.F.slot_list_append PySem.F.type_list_append mt_append (pv 2) (pa_cons (C8.pe_c c_next_doors hr (by decide) rfl (pa_cons (pv 1) (pa_cons (pe_ix ix_list (pv 2) (pe_un un_neg pe_int) (fun _ _ => rfl)) (pa_cons (pv 4) pa_nil)))) pa_nil)))))))
  (pss_one (ps_ret (pv 2))))), ?_⟩
    have hz : (tx e).length ≤ sizeLine := by rw [tx_len]; exact sz60 hle
    refine ⟨Nat.zero_le _, fun F hF => ?_⟩
    refine ⟨_, rfl, _, rfl, ?_⟩
    refine for_it walk_enumS (fun i σ H' => ∃ y3 y4, σ = [some (.str (tx (c0 :: r))), some (.str (tx e)), some (.ref F), y3, y4] ∧ Same H H' ∧ ((i = 0 ∧ H' F = some (.lst [])) ∨ ∃ k xs p, i = k + 1 ∧ xs.length = k ∧ H' F = some (.lst (xs ++ [.ref p])) ∧ H' p = some (.lst (nls (lotsR e (firstD e c0) (r.take k)))))) ⟨none, none, rfl, same_upd hF, .inl ⟨rfl, upd_same⟩⟩ (fun _ _ _ _ _ => trivial) ?_ ?_
    · rintro i x σ H1 H2 hi ⟨y3, y4, rfl, s1, inv⟩ ⟨T, x1, x2, rfl, nT, rfl, ex1, ex2⟩
      have hi : i < r.length + 1 := by simpa using hi
      obtain rfl : V.int (i : Nat) = x1 := Option.some.inj ex1
      obtain ⟨c, hc, rfl⟩ : ∃ c, (c0 :: r)[i]? = some c ∧ V.str (tx [c]) = x2 := by
        have : (c0 :: r)[i]?.map (fun c => V.str (tx [c])) = some x2 := by simpa using ex2
        simpa using this
      refine ⟨T, _, rfl, .inl (.inl upd_same), rfl, ?_⟩
      have nTF : F ≠ T := by
        rcases inv with ⟨_, z⟩ | ⟨_, _, _, _, _, z, _⟩
        · exact ne_of_none z nT
        · exact ne_of_none z nT
      have s2 : Same H (upd H1 T (.tup [.int (i : Nat), .str (tx [c])])) := s1.trans (same_upd nT)
      refine ⟨_, _, rfl, _, _, rfl, rfl, ?_⟩
      refine ⟨_, rfl, rfl, _, rfl, ?_⟩
      rcases inv with ⟨rfl, e0⟩ | ⟨k, xs, p, rfl, el, e1, e2⟩
      · refine iteD rfl ?_
        obtain rfl : c0 = c := by simpa using hc
        have e0' : upd H1 T (.tup [.int (0 : Nat), .str (tx [c0])]) F = some (.lst []) := by rw [upd_ne nTF]; exact e0
        generalize upd H1 T (.tup [.int (0 : Nat), .str (tx [c0])]) = H2 at e0' s2
        refine ⟨_, rfl, .inl ⟨rfl, _, .inl (.inl e0')⟩, ?_⟩
        refine ⟨_, rfl, _, rfl, _, rfl, hz, _, rfl, rfl, _, rfl, ?_⟩
        rw [show (some 1 : Option Int) = some ((1 : Nat) : Int) from rfl, cut_to, dec_tx]
        have hd : (e.take 1 = [c0]) ↔ e.head? = some c0 := by cases e <;> simp
        have fin : ∀ (p : Addr) (l : List Nat), H2 p = none → l = firstD e c0 → Same H (upd (upd H2 p (.lst (nls l))) F (.lst ([] ++ [.ref p]))) ∧ ((0 + 1 = 0 ∧ upd (upd H2 p (.lst (nls l))) F (.lst ([] ++ [.ref p])) F = some (.lst [])) ∨ ∃ k xs p_1, 0 + 1 = k + 1 ∧ xs.length = k ∧ upd (upd H2 p (.lst (nls l))) F (.lst ([] ++ [.ref p])) F = some (.lst (xs ++ [.ref p_1])) ∧ upd (upd H2 p (.lst (nls l))) F (.lst ([] ++ [.ref p])) p_1 = some (.lst (nls (lotsR e (firstD e c0) (r.take k))))) := by
          rintro p l np rfl
          refine ⟨same_set (s2.trans (same_upd np)) hF, .inr ⟨0, [], p, rfl, rfl, upd_same, ?_⟩⟩
          rw [upd_ne (fun z => by rw [z, e0'] at np; cases np), upd_same]
          rfl
        by_cases he : e.head? = some c0
        · refine iteD (hd.mpr he) ⟨by decide, fun p np => ?_⟩
          refine ⟨F, _, _, rfl, rfl, by rw [upd_ne (ne_of_none e0' np)]; exact e0', by decide, ?_⟩
          refine ⟨_, _, rfl, fin p [0] np ?_⟩
          unfold firstD; rw [if_pos he]
        · refine iteDN (fun z => he (hd.mp z)) ⟨by decide, fun p np => ?_⟩
          refine ⟨F, _, _, rfl, rfl, by rw [upd_ne (ne_of_none e0' np)]; exact e0', by decide, ?_⟩
          refine ⟨_, _, rfl, fin p [] np ?_⟩
          unfold firstD; rw [if_neg he]
      · refine iteDN (by simp; omega) ?_
        have e1' : upd H1 T (.tup [.int (k + 1 : Nat), .str (tx [c])]) F = some (.lst (xs ++ [.ref p])) := by rw [upd_ne nTF]; exact e1
        have e2' : upd H1 T (.tup [.int (k + 1 : Nat), .str (tx [c])]) p = some (.lst (nls (lotsR e (firstD e c0) (r.take k)))) := by rw [upd_ne (ne_of_none e2 nT)]; exact e2
        generalize upd H1 T (.tup [.int (k + 1 : Nat), .str (tx [c])]) = H2 at e1' e2' s2
        refine ⟨_, rfl, .inl ⟨rfl, _, .inl (.inl e1')⟩, ?_⟩
        refine ⟨_, rfl, _, rfl, _, rfl, F, xs ++ [.ref p], -1, .ref p, rfl, rfl, .inl (.inl e1'), atI_last _ _, _, rfl, ?_⟩
        refine ⟨e, p, lotsR e (firstD e c0) (r.take k), c, rfl, e2', hle, fun D H3 nD s3 eD => ?_⟩
        have lx : xs.length + 1 ≤ 1000 := by omega
        refine ⟨F, _, _, rfl, rfl, s3 _ _ e1', ?_, ?_⟩
        · rw [List.length_append]; exact small1000 lx
        · refine ⟨_, _, rfl, same_set (s2.trans s3) hF, .inr ⟨k + 1, xs ++ [.ref p], D, rfl, by rw [List.length_append, el]; rfl, upd_same, ?_⟩⟩
          have nDF : D ≠ F := fun z => by rw [z, e1'] at nD; cases nD
          rw [upd_ne nDF, eD]
          have hc' : r[k]? = some c := by simpa using hc
          rw [List.take_add_one, hc']
          exact congrArg (fun z => some (HO.lst (nls z))) (lotsR_snoc _ _ _ _).symm
    · rintro σ H1 ⟨y3, y4, rfl, s1, inv⟩
      rcases inv with ⟨z, _⟩ | ⟨k, xs, p, ek, el, e1, e2⟩
      · simp at z
      · refine ⟨_, rfl, q F H1 s1 ⟨xs, p, e1, ?_, ?_⟩⟩
        · simp at ek; omega
        · have : k = r.length := by simp at ek; omega
          rw [this, List.take_length] at e2
          exact e2
end
end TW
set_option Elab.async false
set_option linter.all false
set_option maxRecDepth 100000
set_option maxHeartbeats 4000000
namespace TW
open PySem PySem.Spec PyProof.Rows L2
abbrev s_does_grow : Stmt := topS 27
def N_does_grow : List Str := ["later", "elder"]
theorem sc_does_grow : FnScope N_does_grow ["later", "elder"] (C8.fnScope s_does_grow) := C8.fnScope_by (by decide +kernel)
def sp_does_grow : Sp := fun vs H Q _ => ∃ w e : List Nat, vs = [.str (tx w), .str (tx e)] ∧ w.length ≤ 1000 ∧ e.length ≤ 1000 ∧ ∀ H', Same H H' → Q (.bl (growsB e w)) H'
abbrev s_comes_short : Stmt := topS 29
def N_comes_short : List Str := ["later", "elder"]
theorem sc_comes_short : FnScope N_comes_short ["later", "elder"] (C8.fnScope s_comes_short) := C8.fnScope_by (by decide +kernel)
def sp_comes_short : Sp := fun vs H Q _ => ∃ w e : List Nat, vs = [.str (tx w), .str (tx e)] ∧ Ok w ∧ Ok e ∧ ∀ H', Same H H' → Q (.bl (growsB e w)) H'
section
variable {P : Program} {w : World} {K : PySem.W.Frag} {mg : Str → Option Value} {base : Heap}
theorem c_does_grow (G : Glb K mg) (c_doors_along : C8.Cal P w K mg base 2 "doors_along" sp_doors_along []) (D : DefAt K mg "does_grow" s_does_grow) : C8.Cal P w K mg base 3 "does_grow" sp_does_grow [] := by
  refine cal_of D sc_does_grow (fun _ _ _ _ _ _ us hl => match us, hl with | [_, _], _ => rfl) (fun vs H Q E h => ?_) (fun f cdv A outer s H vs Q E hr h => ?_)
  · obtain ⟨c, r, rfl, _⟩ := h; rfl
  · obtain ⟨l, e, rfl, hl, he, q⟩ := h
    refine ⟨_, (pss_cons (ps_if (PW.pt (pw_or (pt_cmpR op_eq (pv 0) pe_str (nomark _)) (pw_or1 (pt_cmpR op_eq (pv 1) pe_str (nomark _))))) (pss_one (ps_ret (pe_cmpR op_eq (pv 0) (pv 1) (nomark _)))) pss_nil)
  (pss_one (ps_ret (pe_cmpR op_in_seq (pe_op op_sub (pe_callB call_len_str rfl G.len PySem.boot_len (pa_cons (pv 1) pa_nil)) pe_int) (pe_ix ix_list (C8.pe_c c_doors_along hr (by decide) rfl (pa_cons (pv 0) (pa_cons (pv 1) pa_nil))) (pe_un un_neg pe_int) (fun _ _ => rfl)) (by rfl))))), ?_⟩
    have same : tRet (tOp rEq (tVar 0) (tVar 1)) { nx := fun _ H' => Q .non H', rt := Q } (start N_does_grow [.str (tx l), .str (tx e)]) H ↔ Q (.bl (decide (l = e))) H := by
      constructor
      · rintro ⟨_, a1, _, a2, _, z⟩
        cases a1; cases a2
        exact qbl (dec_tx _ _) z
      · intro z
        exact ⟨_, rfl, _, rfl, rfl, qbl (dec_tx _ _).symm z⟩
    refine ⟨_, rfl, rfl, _, rfl, ?_⟩
    by_cases h1 : l = []
    · subst h1
      refine iteT (iteT (same.mpr ?_))
      refine qbl ?_ (q H (Same.refl H))
      cases e <;> rfl
    · refine iteDN (fun z => h1 (tx_inj (b := []) (V.str.inj z))) ?_
      refine ⟨_, rfl, rfl, _, rfl, ?_⟩
      by_cases h2 : e = []
      · subst h2
        refine iteT (same.mpr ?_)
        refine qbl ?_ (q H (Same.refl H))
        cases l with
        | nil => exact absurd rfl h1
        | cons c r => rfl
      · refine iteDN (fun z => h2 (tx_inj (b := []) (V.str.inj z))) ?_
        obtain ⟨c, r, rfl⟩ : ∃ c r, l = c :: r := by cases l with | nil => exact absurd rfl h1 | cons c r => exact ⟨c, r, rfl⟩
        obtain ⟨d, t, rfl⟩ : ∃ c r, e = c :: r := by cases e with | nil => exact absurd rfl h2 | cons c r => exact ⟨c, r, rfl⟩
        refine ⟨_, rfl, _, rfl, by rw [tx_len]; exact sz60 he, _, _, rfl, rfl, ?_⟩
        refine ⟨_, rfl, _, rfl, c, r, _, rfl, he, hl, fun D H1 s1 h1 => ?_⟩
        obtain ⟨xs, p, e1, hx, e2⟩ := h1
        refine ⟨_, rfl, D, _, -1, .ref p, rfl, rfl, .inl (.inl e1), atI_last _ _, ?_⟩
        refine ⟨p, _, rfl, .inl (.inl (.inl e2)), rfl, flat_nls _, ?_⟩
        refine qbl ?_ (q H1 s1)
        rw [if_neg Bool.false_ne_true, tx_len]
        show _ = inV (.int (((d :: t).length : Int) - 1)) _
        rw [show (((d :: t).length : Int) - 1) = (((d :: t).length - 1 : Nat) : Int) by simp, inV_nls, ← List.contains_eq_mem]
        rfl
theorem c_comes_short (c_need_both : C8.Cal P w K mg base 3 "need_both" sp_need_both []) (c_does_grow : C8.Cal P w K mg base 3 "does_grow" sp_does_grow []) (D : DefAt K mg "comes_short" s_comes_short) : C8.Cal P w K mg base 4 "comes_short" sp_comes_short [] := by
  refine cal_of D sc_comes_short (fun _ _ _ _ _ _ us hl => match us, hl with | [_, _], _ => rfl) (fun vs H Q E h => ?_) (fun f cdv A outer s H vs Q E hr h => ?_)
  · obtain ⟨c, r, rfl, _⟩ := h; rfl
  · obtain ⟨l, e, rfl, o1, o2, q⟩ := h
    refine ⟨_, (pss_cons (ps_expr (C8.pe_c c_need_both hr (by decide) rfl (pa_cons (pv 0) (pa_cons (pv 1) pa_nil))))
  (pss_one (ps_ret (C8.pe_c c_does_grow hr (by decide) rfl (pa_cons (pv 0) (pa_cons (pv 1) pa_nil)))))), ?_⟩
    exact ⟨_, rfl, _, rfl, l, e, rfl, o1, o2, fun H1 s1 => ⟨_, rfl, _, rfl, l, e, rfl, Nat.le_trans o1.1 (by decide), Nat.le_trans o2.1 (by decide), fun H2 s2 => q H2 (s1.trans s2)⟩⟩
end
end TW
set_option Elab.async false
set_option linter.all false
set_option maxRecDepth 100000
set_option maxHeartbeats 4000000
namespace TW
open PySem PySem.Spec PyProof.Rows L2
abbrev tls (l : List (List Nat)) : List V := l.map fun x => V.str (tx x)
abbrev s_undone_once : Stmt := topS 33
def N_undone_once : List Str := ["text", "found", "long", "place"]
theorem sc_undone_once : FnScope N_undone_once ["text"] (C8.fnScope s_undone_once) := C8.fnScope_by (by decide +kernel)
def sp_undone_once : Sp := fun vs H Q _ => ∃ l : List Nat, vs = [.str (tx l)] ∧ l.length ≤ 1000 ∧ ∀ D H', H D = none → Same H H' → H' D = some (.lst (tls (und l))) → Q (.ref D) H'
/-- the texts of which one letter or two have been taken, by the place so far -/
def undP (w : List Nat) (L i : Nat) : List (List Nat) := ((List.range i).filter (twinAt w L)).map fun p => w.take p ++ w.drop (p + L)
theorem undP_succ (w : List Nat) (L i : Nat) : undP w L (i + 1) = undP w L i ++ (if twinAt w L i then [w.take i ++ w.drop (i + L)] else []) := by
  unfold undP
  rw [List.range_succ, List.filter_append, List.map_append]
  congr 1
  by_cases h : twinAt w L i = true
  · simp [h]
  · simp [h]
theorem undP_len (w : List Nat) (L i : Nat) : (undP w L i).length ≤ i := by
  unfold undP
  rw [List.length_map]
  have := List.length_filter_le (twinAt w L) (List.range i)
  rwa [List.length_range] at this
theorem cutS_mid2 (l : List Nat) (i L : Nat) : cutS (tx l) (some (i : Int)) (some ((i : Int) + (L : Int))) = tx ((l.drop i).take L) := by
  rw [show ((i : Int) + (L : Int)) = ((i + L : Nat) : Int) by omega, cut_mid, show i + L - i = L by omega]
theorem cutS_mid3 (l : List Nat) (i L : Nat) : cutS (tx l) (some ((i : Int) + (L : Int))) (some ((i : Int) + 2 * (L : Int))) = tx ((l.drop (i + L)).take L) := by
  rw [show ((i : Int) + (L : Int)) = ((i + L : Nat) : Int) by omega, show ((i : Int) + 2 * (L : Int)) = ((i + 2 * L : Nat) : Int) by omega, cut_mid, show i + 2 * L - (i + L) = L by omega]
section
variable {P : Program} {w : World} {K : PySem.W.Frag} {mg : Str → Option Value} {base : Heap}
theorem c_undone_once (G : Glb K mg) (D : DefAt K mg "undone_once" s_undone_once) : C8.Cal P w K mg base 1 "undone_once" sp_undone_once [] := by
  refine cal_of D sc_undone_once (fun _ _ _ _ _ _ us hl => match us, hl with | [_], _ => rfl) (fun vs H Q E h => ?_) (fun f cdv A outer s H vs Q E hr h => ?_)
  · obtain ⟨l, rfl, _⟩ := h; rfl
  · obtain ⟨l, rfl, hl, q⟩ := h
    refine ⟨_, (pss_cons (ps_set (i := 1) sc_undone_once.nd rfl (Or.inl rfl) (pe_lst pa_nil))
  (pss_cons (ps_for PassesOwn.never rfl (pi_tup (pe_tup (pa_cons pe_int (pa_cons pe_int pa_nil)))) (pg_name (i := 2) sc_undone_once.nd rfl (Or.inl rfl))
  (pss_one (ps_for PassesOwn.never rfl (pi_range1 rfl G.range (pa_cons (pe_op op_add (pe_op op_sub (pe_callB call_len_str rfl G.len PySem.boot_len (pa_cons (pv 0) pa_nil)) (pe_op op_mul pe_int (pv 2))) pe_int) pa_nil)) (pg_name (i := 3) sc_undone_once.nd rfl (Or.inl rfl))
  (pss_one (ps_if (pt_cmpR op_eq (pe_slice sl_str (pv 0) (po_some (pv 3)) (po_some (pe_op op_add (pv 3) (pv 2)))) (pe_slice sl_str (pv 0) (po_some (pe_op op_add (pv 3) (pv 2))) (po_some (pe_op op_add (pv 3) (pe_op op_mul pe_int (pv 2))))) (nomark _)) (pss_one (ps_expr (pe_bm PySem.F.plainAttrs_list PySem.F.slot_list_append PySem.F.type_list_append mt_append (pv 1) (pa_cons (pe_op op_add_str (pe_slice sl_str (pv 0) po_none (po_some (pv 3))) (pe_slice sl_str (pv 0) (po_some (pe_op op_add (pv 3) (pv 2))) po_none)) pa_nil)))) pss_nil)))))
  (pss_one (ps_ret (pv 1))))), ?_⟩
    have hz : (tx l).length ≤ sizeLine := by rw [tx_len]; exact sz60 hl
    refine ⟨Nat.zero_le _, fun F hF => ?_⟩
    refine ⟨by decide, fun T hT => ?_⟩
    refine ⟨T, rfl, ⟨_, .inl (.inl upd_same)⟩, ?_⟩
    have nFT : F ≠ T := ne_of_none (upd_same (H := H) (a := F)) hT
    have hTH : H T = none := by rw [← upd_ne (H := H) (o := .lst []) (Ne.symm nFT)]; exact hT
    refine for_it (walk_tup (xs := [.int 1, .int 2])) (fun i σ H' => ∃ y2 y3, σ = [some (.str (tx l)), some (.ref F), y2, y3] ∧ Same H H' ∧ H' T = some (.tup [.int 1, .int 2]) ∧ H' F = some (.lst (tls (if i = 0 then [] else if i = 1 then undL l 1 else und l)))) ⟨none, none, rfl, fun b o e => by rw [upd_ne (ne_of_none e hTH), upd_ne (ne_of_none e hF)]; exact e, upd_same, by rw [upd_ne nFT]; exact upd_same⟩ (fun i σ H' hi ⟨_, _, _, _, e, _⟩ => .inl (.inl e)) ?_ ?_
    · rintro i x σ H1 H2 hi ⟨y2, y3, rfl, s1, e1, e2⟩ ⟨rfl, hx⟩
      obtain ⟨L, rfl, hL, hpre, hnx⟩ : ∃ L : Nat, x = .int L ∧ 1 ≤ L ∧ L ≤ 2 ∧ (if i + 1 = 0 then ([] : List (List Nat)) else if i + 1 = 1 then undL l 1 else und l) = (if i = 0 then [] else if i = 1 then undL l 1 else und l) ++ undL l L := by
        have hi : i < 2 := hi
        match i, hi with
        | 0, _ => exact ⟨1, (Option.some.inj hx).symm, by decide, by decide, rfl⟩
        | 1, _ => exact ⟨2, (Option.some.inj hx).symm, by decide, by decide, rfl⟩
      rw [hnx]
      have hBl : (if i = 0 then [] else if i = 1 then undL l 1 else und l).length ≤ 4000 := by
        have h1 : (undL l 1).length ≤ 2000 := Nat.le_trans (undP_len l 1 _) (by omega)
        have h2 : (undL l 2).length ≤ 2000 := Nat.le_trans (undP_len l 2 _) (by omega)
        split
        · exact Nat.zero_le _
        · split
          · omega
          · unfold und; rw [List.length_append]; omega
      generalize (if i = 0 then [] else if i = 1 then undL l 1 else und l) = B at e2 hBl
      refine gN ?_
      refine ⟨_, rfl, _, rfl, hz, _, rfl, _, _, rfl, rfl, .inl ⟨by decide, by decide⟩, _, _, rfl, rfl, _, _, rfl, rfl, _, rfl, ?_⟩
      refine ⟨by rw [tx_len]; omega, by rw [tx_len]; omega, ?_⟩
      have hn : (((tx l).length : Int) - 2 * (L : Int) + 1).toNat = l.length + 1 - 2 * L := by rw [tx_len]; omega
      rw [hn]
      refine for_it walk_range (fun j σ H' => ∃ y3, σ = [some (.str (tx l)), some (.ref F), some (.int L), y3] ∧ Same H H' ∧ H' T = some (.tup [.int 1, .int 2]) ∧ H' F = some (.lst (tls (B ++ undP l L j)))) ⟨y3, rfl, s1, e1, by rw [e2]; simp [undP]⟩ (fun _ _ _ _ _ => trivial) ?_ ?_
      · rintro j x σ H3 H4 hj ⟨y3, rfl, s3, e3, e4⟩ ⟨rfl, rfl⟩
        refine gN (ifS ?_)
        refine ⟨_, rfl, _, rfl, _, rfl, _, rfl, _, rfl, _, _, rfl, rfl, _, rfl, _, rfl, hz, ?_⟩
        refine ⟨_, rfl, _, rfl, _, rfl, _, _, rfl, rfl, _, rfl, _, rfl, _, rfl, _, _, rfl, rfl, .inl ⟨by decide, by decide⟩, _, _, rfl, rfl, _, rfl, _, rfl, hz, rfl, _, rfl, ?_⟩
        have e0 : (0 : Int) + (j : Int) = (j : Int) := by omega
        show if decide (V.str (cutS (tx l) (some (0 + (j : Int))) (some (0 + (j : Int) + (L : Int)))) = V.str (cutS (tx l) (some (0 + (j : Int) + (L : Int))) (some (0 + (j : Int) + 2 * (L : Int))))) = true then _ else _
        rw [e0, cutS_mid2, cutS_mid3, dec_tx]
        have ht : twinAt l L j = decide ((l.drop j).take L = (l.drop (j + L)).take L) := by
          unfold twinAt
          exact decide_eq_decide.mpr ⟨fun z => z.symm, fun z => z.symm⟩
        have hlen : (B ++ undP l L j).length ≤ 6000 := by
          have := undP_len l L j
          rw [List.length_append]
          omega
        rw [← ht]
        refine ite2 (fun e => ?_) (fun e => ?_)
        · refine ⟨_, rfl, .inl ⟨rfl, _, .inl (.inl e4)⟩, _, rfl, _, rfl, _, rfl, _, rfl, hz, _, rfl, _, rfl, _, rfl, _, _, rfl, rfl, _, rfl, _, rfl, hz, _, _, rfl, rfl, ?_, F, _, _, rfl, rfl, e4, ?_, ?_⟩
          · rw [e0, show ((j : Int) + (L : Int)) = ((j + L : Nat) : Int) by omega, cut_to, cut_from, tx_len, tx_len]
            refine big2 ?_
            simp
            omega
          · rw [List.length_map]
            exact Nat.lt_of_le_of_lt hlen (by rw [sizeLine_eq]; omega)
          · refine ⟨_, rfl, same_set s3 hF, by rw [upd_ne (Ne.symm nFT)]; exact e3, ?_⟩
            rw [upd_same, e0, show ((j : Int) + (L : Int)) = ((j + L : Nat) : Int) by omega, cut_to, cut_from, tx_cat, undP_succ, if_pos e]
            simp
        · refine ⟨_, rfl, s3, e3, ?_⟩
          rw [undP_succ, if_neg e, List.append_nil]
          exact e4
      · rintro σ H3 ⟨y3, rfl, s3, e3, e4⟩
        exact ⟨_, _, rfl, s3, e3, e4⟩
    · rintro σ H1 ⟨y2, y3, rfl, s1, e1, e2⟩
      exact ⟨_, rfl, q F H1 hF s1 e2⟩
end
end TW
set_option Elab.async false
set_option linter.all false
set_option maxRecDepth 100000
set_option maxHeartbeats 4000000
namespace TW
open PySem PySem.Spec PyProof.Rows L2
section
variable {α : Type} {f : α → List V}
/-- the values are tuples, each of f -/
structure RefsAt {α : Type} (f : α → List V) (H : Hp) (xs : List V) (W : List α) : Prop where
  len : xs.length = W.length
  at_ : ∀ (i : Nat) (s : α), W[i]? = some s → ∃ p, xs[i]? = some (.ref p) ∧ H p = some (.tup (f s))
theorem RefsAt.mono {H H' : Hp} {xs : List V} {W : List α} (h : RefsAt f H xs W) (s : Same H H') : RefsAt f H' xs W :=
  ⟨h.len, fun i t e => let ⟨p, e1, e2⟩ := h.at_ i t e; ⟨p, e1, s _ _ e2⟩⟩
theorem RefsAt.nil {H : Hp} : RefsAt f H [] [] := ⟨rfl, fun i s e => by simp at e⟩
theorem RefsAt.snoc {H : Hp} {xs : List V} {W : List α} (h : RefsAt f H xs W) {p : Addr} {s : α} (e : H p = some (.tup (f s))) : RefsAt f H (xs ++ [.ref p]) (W ++ [s]) := by
  refine ⟨by simp [h.len], fun i t ht => ?_⟩
  by_cases hi : i < W.length
  · rw [List.getElem?_append_left hi] at ht
    obtain ⟨q, e1, e2⟩ := h.at_ i t ht
    exact ⟨q, by rw [List.getElem?_append_left (by rw [h.len]; exact hi)]; exact e1, e2⟩
  · have hi : i = W.length := by
      have := (List.getElem?_eq_some_iff.mp ht).1
      simp at this
      omega
    subst hi
    simp at ht
    subst ht
    exact ⟨p, by rw [← h.len]; simp, e⟩
theorem RefsAt.last {H : Hp} {xs : List V} {W : List α} {s : α} (h : RefsAt f H xs (W ++ [s])) : ∃ ys p, xs = ys ++ [.ref p] ∧ RefsAt f H ys W ∧ H p = some (.tup (f s)) := by
  obtain ⟨p, e1, e2⟩ := h.at_ W.length s (by simp)
  have hl := h.len
  rw [List.length_append, List.length_singleton] at hl
  have hx : xs = xs.take W.length ++ [.ref p] := by
    have := List.take_append_drop W.length xs
    have hd : xs.drop W.length = [.ref p] := by
      have h1 : W.length < xs.length := by omega
      rw [List.drop_eq_getElem_cons h1, List.drop_of_length_le (by omega)]
      rw [List.getElem?_eq_getElem h1] at e1
      rw [Option.some.inj e1]
    rw [hd] at this
    exact this.symm
  refine ⟨xs.take W.length, p, hx, ⟨by rw [List.length_take]; omega, fun i t ht => ?_⟩, e2⟩
  have hi := (List.getElem?_eq_some_iff.mp ht).1
  obtain ⟨q, f1, f2⟩ := h.at_ i t (by rw [List.getElem?_append_left hi]; exact ht)
  exact ⟨q, by rw [List.getElem?_take_of_lt hi]; exact f1, f2⟩
theorem RefsAt.take {H : Hp} {xs : List V} {W : List α} (h : RefsAt f H xs W) (k : Nat) : RefsAt f H (xs.take k) (W.take k) := by
  refine ⟨by simp [h.len], fun i t ht => ?_⟩
  have hi : i < k := by
    have := (List.getElem?_eq_some_iff.mp ht).1
    simp at this
    omega
  rw [List.getElem?_take_of_lt hi] at ht
  obtain ⟨q, f1, f2⟩ := h.at_ i t ht
  exact ⟨q, by rw [List.getElem?_take_of_lt hi]; exact f1, f2⟩
theorem RefsAt.drop {H : Hp} {xs : List V} {W : List α} (h : RefsAt f H xs W) (k : Nat) : RefsAt f H (xs.drop k) (W.drop k) := by
  refine ⟨by simp [h.len], fun i t ht => ?_⟩
  rw [List.getElem?_drop] at ht ⊢
  exact h.at_ _ t ht
theorem RefsAt.uncons {H : Hp} {xs : List V} {W : List α} {s : α} (h : RefsAt f H xs (s :: W)) : ∃ p ys, xs = .ref p :: ys ∧ H p = some (.tup (f s)) ∧ RefsAt f H ys W := by
  obtain ⟨p, e1, e2⟩ := h.at_ 0 s rfl
  cases xs with
  | nil => simp at e1
  | cons v ys =>
    have : v = .ref p := by simpa using e1
    subst this
    refine ⟨p, ys, rfl, e2, ⟨by have := h.len; simp at this; exact this, fun i t ht => ?_⟩⟩
    obtain ⟨q, f1, f2⟩ := h.at_ (i + 1) t (by simpa using ht)
    exact ⟨q, by simpa using f1, f2⟩
theorem RefsAt.upd_lst {H : Hp} {xs ys : List V} {W : List α} {F : Addr} {o : HO} (h : RefsAt f H xs W) (e : H F = some (.lst ys)) : RefsAt f (upd H F o) xs W :=
  ⟨h.len, fun i t ht => by
    obtain ⟨p, e1, e2⟩ := h.at_ i t ht
    exact ⟨p, e1, by rw [upd_ne (fun z => by rw [z, e] at e2; cases e2)]; exact e2⟩⟩
end
/-- the values are pairs of a sign and a number -/
abbrev fS (s : S) : List V := [.str (tx [s.1]), .int (s.2 : Nat)]
abbrev TupsAt (H : Hp) (xs : List V) (W : List S) : Prop := RefsAt fS H xs W
theorem ixN_last {n : Nat} : ixN (n + 1) (-1) = some n := by
  unfold ixN
  simp
  omega
abbrev dS (s : S) : PyData := .tuple [.str (tx [s.1]), .int (s.2 : Nat)]
theorem RefsAt.dp {K : PySem.W.Frag} {H : Hp} : ∀ {xs : List V} {W : List S}, TupsAt H xs W → DpAll K H xs (W.map dS)
  | [], [], h => .nil
  | [], s :: W, h => by have := h.len; simp at this
  | v :: xs, [], h => by have := h.len; simp at this
  | v :: xs, s :: W, h => by
    obtain ⟨p, ys, e, e1, h1⟩ := h.uncons
    cases e
    exact .cons (.tup (.inl (.inl e1)) (.cons (.str _) (.cons (.int _) .nil))) h1.dp
theorem shaped_all : ∀ (ds : List PyData), (∀ d ∈ ds, d.canLay0 = true ∧ d.depth ≤ 63) → PyData.canLayAll0 ds = true ∧ PyData.depthAll ds ≤ 63
  | [], _ => ⟨rfl, by decide⟩
  | d :: ds, h => by
    obtain ⟨a, b⟩ := shaped_all ds fun e he => h e (List.mem_cons_of_mem _ he)
    obtain ⟨a', b'⟩ := h d (List.mem_cons_self ..)
    refine ⟨?_, ?_⟩
    · simp only [PyData.canLayAll0, a, a', Bool.and_self]
    · simp only [PyData.depthAll]
      omega
theorem shaped_list {ds : List PyData} (h : ∀ d ∈ ds, d.canLay0 = true ∧ d.depth ≤ 63) : SeqAt.shaped (.list ds) = true := by
  obtain ⟨a, b⟩ := shaped_all ds h
  unfold SeqAt.shaped
  rw [Bool.and_eq_true]
  refine ⟨?_, decide_eq_true ?_⟩
  · simpa [PyData.canLay0] using a
  · simp only [PyData.depth]
    omega
theorem shaped_dS {W : List S} (h : ∀ s ∈ W, s.1 < 1114112) : SeqAt.shaped (.list (W.map dS)) = true := shaped_list fun d hd => by
  obtain ⟨s, hs, rfl⟩ := List.mem_map.mp hd
  refine ⟨by simp [PyData.canLay0, PyData.canLayAll0, PyData.strOk, h s hs], ?_⟩
  simp [PyData.depth, PyData.depthAll]
/-- every letter is a sign -/
def Lo (l : List Nat) : Prop := ∀ c ∈ l, c < 1114112
theorem Lo.of_ok {l : List Nat} (h : Ok l) : Lo l := fun c hc => by
  have := h.2 c hc
  simp [abcdef] at this
  omega
theorem mem_ex {s : S} : ∀ {W : List S}, s ∈ W → 1 ≤ s.2 → s.1 ∈ ex W
  | t :: W, h, h1 => by
    rcases List.mem_cons.mp h with e | h
    · subst e
      obtain ⟨a, n⟩ := s
      show a ∈ List.replicate n a ++ ex W
      have : 1 ≤ n := h1
      simp
      omega
    · have := mem_ex h h1
      obtain ⟨a, n⟩ := t
      show s.1 ∈ List.replicate n a ++ ex W
      exact List.mem_append_right _ this
theorem st_lo {l : List Nat} (h : Lo l) : ∀ s ∈ st l, s.1 < 1114112 := fun s hs => by
  refine h _ ?_
  have := mem_ex hs ((st_pr l).all s hs)
  rwa [ex_st] at this
theorem Lo.take {l : List Nat} (h : Lo l) (k : Nat) : Lo (l.take k) := fun c hc => h c (List.mem_of_mem_take hc)
abbrev s_stretches : Stmt := topS 16
def N_stretches : List Str := ["text", "found", "sign"]
theorem sc_stretches : FnScope N_stretches ["text"] (C8.fnScope s_stretches) := C8.fnScope_by (by decide +kernel)
def sp_stretches : Sp := fun vs H Q _ => ∃ l : List Nat, vs = [.str (tx l)] ∧ l.length ≤ 1000 ∧ Lo l ∧ ∀ D H' xs, H D = none → Same H H' → H' D = some (.lst xs) → TupsAt H' xs (st l) → Q (.ref D) H'
theorem stp_len : ∀ (l : List Nat) (V : List S), (l.foldl stp V).length ≤ V.length + l.length
  | [], V => Nat.le_refl _
  | c :: l, V => by
    have := stp_len l (stp V c)
    have h2 : (stp V c).length ≤ V.length + 1 := by
      unfold stp
      split
      · exact Nat.le_refl _
      · split <;> simp
    simp only [List.foldl_cons, List.length_cons]
    omega
section
variable {P : Program} {w : World} {K : PySem.W.Frag} {mg : Str → Option Value} {base : Heap}
theorem c_stretches (G : Glb K mg) (D : DefAt K mg "stretches" s_stretches) : C8.Cal P w K mg base 1 "stretches" sp_stretches [] := by
  refine cal_of D sc_stretches (fun _ _ _ _ _ _ us hl => match us, hl with | [_], _ => rfl) (fun vs H Q E h => ?_) (fun f cdv A outer s H vs Q E hr h => ?_)
  · obtain ⟨l, rfl, _⟩ := h; rfl
  · obtain ⟨l, rfl, hl, lo, q⟩ := h
    refine ⟨_, (pss_cons (ps_set (i := 1) sc_stretches.nd rfl (Or.inl rfl) (pe_lst pa_nil))
  (pss_cons (ps_for PassesOwn.never rfl (pi_str (pv 0)) (pg_name (i := 2) sc_stretches.nd rfl (Or.inl rfl))
  (pss_one (ps_if (PW.pt (pw_and (pt_cmpR (op_neD hr.units) (pv 1) (pe_lst pa_nil) (nomark _)) (pw_and1 (pt_cmpR op_eq (pe_ix ix_tup (pe_ix ix_list (pv 1) (pe_un un_neg pe_int) (fun _ _ => rfl)) pe_int (fun _ _ => rfl)) (pv 2) (nomark _))))) (pss_one (ps_asg (pe_tup (pa_cons (pv 2) (pa_cons (pe_op op_add (pe_ix ix_tup (pe_ix ix_list (pv 1) (pe_un un_neg pe_int) (fun _ _ => rfl)) pe_int (fun _ _ => rfl)) pe_int) pa_nil))) (pg_sub (pv 1) (pe_un un_neg pe_int) set_list))) (pss_one (ps_expr (pe_bm PySem.F.plainAttrs_list PySem.F.slot_list_append PySem.F.type_list_append mt_append (pv 1) (pa_cons (pe_tup (pa_cons (pv 2) (pa_cons pe_int pa_nil))) pa_nil)))))))
  (pss_one (ps_ret (pv 1))))), ?_⟩
    refine ⟨Nat.zero_le _, fun F hF => ?_⟩
    refine ⟨_, rfl, _, rfl, ?_⟩
    refine for_it walk_str (fun i σ H' => ∃ y2 xs, σ = [some (.str (tx l)), some (.ref F), y2] ∧ Same H H' ∧ H' F = some (.lst xs) ∧ TupsAt H' xs ((l.take i).foldl stp []).reverse) ⟨none, [], rfl, same_upd hF, upd_same, .nil⟩ (fun _ _ _ _ _ => trivial) ?_ ?_
    · rintro i x σ H1 H2 hi ⟨y2, xs, rfl, s1, e1, ta⟩ ⟨rfl, c, hc, rfl⟩
      have hc' : l[i]? = some c := by simpa using hc
      have hi' : i < l.length := by simpa using hi
      have hst : (l.take (i + 1)).foldl stp [] = stp ((l.take i).foldl stp []) c := by
        rw [List.take_add_one, hc', List.foldl_append]; rfl
      have hx : xs.length ≤ 1000 := by
        rw [ta.len, List.length_reverse]
        have := stp_len (l.take i) []
        simp at this
        omega
      have hlo : ∀ s ∈ ((l.take i).foldl stp []).reverse, s.1 < 1114112 := st_lo (lo.take i)
      rw [hst]
      generalize (l.take i).foldl stp [] = V0 at ta hlo
      refine gN (ifS ?_)
      refine ⟨_, rfl, Nat.zero_le _, fun E0 hE => ?_⟩
      have s2 : Same H2 (upd H2 E0 (.lst [])) := same_upd hE
      have eF : upd H2 E0 (.lst []) F = some (.lst xs) := s2 _ _ e1
      have ta2 := ta.mono s2
      have ee : upd H2 E0 (.lst []) E0 = some (.lst []) := upd_same
      have s3 : Same H (upd H2 E0 (.lst [])) := s1.trans s2
      generalize upd H2 E0 (.lst []) = H3 at s2 eF ta2 ee s3
      refine ⟨_, _, .lst (.inl (.inl eF)) ta2.dp, .lst (.inl (.inl ee)) .nil, shaped_dS hlo, rfl, _, rfl, ?_⟩
      have app : ∀ Q' : VK, (∀ T : Addr, H3 T = none → Q' .non (upd (upd H3 T (.tup [.str ⟨#[c]⟩, .int 1])) F (.lst (xs ++ [.ref T])))) → tBM K "list" rAppend (tVar 1) (tCons (tTup (tCons (tVar 2) (tCons (tC (V.int 1)) tNil))) tNil) [some (.str (tx l)), some (.ref F), some (.str ⟨#[c]⟩)] H3 Q' := by
        intro Q' z
        refine ⟨_, rfl, .inl ⟨rfl, _, .inl (.inl eF)⟩, _, rfl, small1000 (by simp), fun T nT => ?_⟩
        exact ⟨F, xs, _, rfl, rfl, by rw [upd_ne (ne_of_none eF nT)]; exact eF, small1000 (by omega), z T nT⟩
      have appD : ∀ W0 : List S, TupsAt H3 xs W0 → ∀ T : Addr, H3 T = none → ∃ y2 xs', [some (V.str (tx l)), some (.ref F), some (.str ⟨#[c]⟩)] = [some (.str (tx l)), some (.ref F), y2] ∧ Same H (upd (upd H3 T (.tup [.str ⟨#[c]⟩, .int 1])) F (.lst (xs ++ [.ref T]))) ∧ upd (upd H3 T (.tup [.str ⟨#[c]⟩, .int 1])) F (.lst (xs ++ [.ref T])) F = some (.lst xs') ∧ TupsAt (upd (upd H3 T (.tup [.str ⟨#[c]⟩, .int 1])) F (.lst (xs ++ [.ref T]))) xs' (W0 ++ [(c, 1)]) := by
        intro W0 t0 T nT
        have eF' : upd H3 T (.tup [.str ⟨#[c]⟩, .int 1]) F = some (.lst xs) := by rw [upd_ne (ne_of_none eF nT)]; exact eF
        refine ⟨_, _, rfl, same_set (s3.trans (same_upd nT)) hF, upd_same, ?_⟩
        exact ((t0.mono (same_upd nT)).snoc (s := (c, 1)) upd_same).upd_lst eF'
      cases V0 with
      | nil =>
        refine iteF ?_
        refine app _ fun T nT => appD [] ta2 T nT
      | cons s V1 =>
        obtain ⟨a, n⟩ := s
        have ta3 := ta2
        rw [List.reverse_cons] at ta3
        obtain ⟨ys, p, rfl, ty, ep⟩ := ta3.last
        refine iteB ?_ ?_
        · rw [List.reverse_cons, List.map_append]
          cases (V1.reverse.map dS) <;> rfl
        refine ⟨_, rfl, _, rfl, F, _, -1, .ref p, rfl, rfl, .inl (.inl eF), atI_last _ _, p, _, 0, .str (tx [a]), rfl, rfl, .inl (.inl ep), rfl, _, rfl, rfl, _, rfl, ?_⟩
        show if decide (V.str (tx [a]) = V.str (tx [c])) = true then _ else _
        rw [dec_tx]
        by_cases hac : a = c
        · subst hac
          refine iteD rfl ?_
          refine ⟨_, rfl, _, rfl, _, rfl, F, _, -1, .ref p, rfl, rfl, .inl (.inl eF), atI_last _ _, p, _, 1, .int n, rfl, rfl, .inl (.inl ep), rfl, _, _, rfl, rfl, small1000 (by simp), fun T nT => ?_⟩
          have eF' : upd H3 T (.tup [.str ⟨#[a]⟩, .int ((n : Int) + 1)]) F = some (.lst (ys ++ [.ref p])) := by rw [upd_ne (ne_of_none eF nT)]; exact eF
          refine ⟨_, rfl, _, rfl, F, _, -1, ys.length, rfl, rfl, eF', by rw [List.length_append]; exact ixN_last, ?_⟩
          refine ⟨_, _, rfl, same_set (s3.trans (same_upd nT)) hF, upd_same, ?_⟩
          rw [show (stp ((a, n) :: V1) a) = (a, n + 1) :: V1 from if_pos rfl, List.reverse_cons]
          refine RefsAt.upd_lst ?_ eF'
          rw [List.set_append_right _ _ (Nat.le_refl _), Nat.sub_self]
          exact (ty.mono (same_upd nT)).snoc (s := (a, n + 1)) (by rw [upd_same]; rfl)
        · refine iteDN (fun z => hac (by simpa using z)) ?_
          refine app _ fun T nT => ?_
          rw [show (stp ((a, n) :: V1) c) = (c, 1) :: (a, n) :: V1 from if_neg hac, List.reverse_cons]
          exact appD _ ta2 T nT
    · rintro σ H1 ⟨y2, xs, rfl, s1, e1, ta⟩
      refine ⟨_, rfl, q F H1 xs hF s1 e1 ?_⟩
      rw [List.take_of_length_le (by simp)] at ta
      exact ta
end
end TW
set_option Elab.async false
set_option linter.all false
set_option maxRecDepth 100000
set_option maxHeartbeats 4000000
namespace TW
open PySem PySem.Spec PyProof.Rows L2
abbrev fP (s : Nat × Nat) : List V := [.int (s.1 : Nat), .int (s.2 : Nat)]
abbrev s_costs_from : Stmt := topS 18
def N_costs_from : List Str := ["near", "far", "wanted", "begin", "found", "cost", "signs", "at", "sign", "many"]
theorem sc_costs_from : FnScope N_costs_from ["near", "far", "wanted", "begin"] (C8.fnScope s_costs_from) := C8.fnScope_by (by decide +kernel)
def sp_costs_from : Sp := fun vs H Q _ => ∃ (p1 p2 p3 : Addr) (k a n0 b m : Nat) (xs : List V) (W : List S), vs = [.ref p1, .ref p2, .ref p3, .int k] ∧ H p1 = some (.tup (fS (a, n0))) ∧ H p2 = some (.tup (fS (b, m))) ∧ H p3 = some (.lst xs) ∧ TupsAt H xs W ∧ (∀ s ∈ W, 1 ≤ s.2) ∧ W.length ≤ 1000 ∧ k ≤ 1000 ∧
  ∀ D H' ys, H D = none → Same H H' → H' D = some (.lst ys) → RefsAt fP H' ys (costsFrom a b m W k) → Q (.ref D) H'
section
variable {P : Program} {w : World} {K : PySem.W.Frag} {mg : Str → Option Value} {base : Heap}
theorem c_costs_from (G : Glb K mg) (c_growing : C8.Cal P w K mg base 1 "growing" sp_growing []) (D : DefAt K mg "costs_from" s_costs_from) : C8.Cal P w K mg base 2 "costs_from" sp_costs_from [] := by
  refine cal_of D sc_costs_from (fun _ _ _ _ _ _ us hl => match us, hl with | [_, _, _, _], _ => rfl) (fun vs H Q E h => ?_) (fun f cdv A outer s H vs Q E hr h => ?_)
  · obtain ⟨p1, p2, p3, k, a, n0, b, m, xs, W, rfl, _⟩ := h; rfl
  · obtain ⟨p1, p2, p3, k, a, n0, b, m, xs, W, rfl, h1, h2, h3, tw, hpos, hW, hk, q⟩ := h
    refine ⟨_, (pss_cons (ps_par3 (i := 4) (j := 5) (l := 6) (by rfl) sc_costs_from.nd rfl rfl rfl (by decide) (by decide) (by decide) rfl rfl rfl (pa_cons (pe_lst pa_nil) (pa_cons pe_int (pa_cons (pe_tup (pa_cons (pe_ix ix_tup (pv 0) pe_int (fun _ _ => rfl)) (pa_cons (pe_ix ix_tup (pv 1) pe_int (fun _ _ => rfl)) pa_nil))) pa_nil))) (by rfl))
  (pss_cons (ps_for PassesOwn.never rfl (pi_range2 rfl G.range (pa_cons (pe_op op_add (pv 3) pe_int) (pa_cons (pe_callB call_len_seq rfl G.len PySem.boot_len (pa_cons (pv 2) pa_nil)) pa_nil))) (pg_name (i := 7) sc_costs_from.nd rfl (Or.inl rfl))
  (pss_cons (ps_asg (pe_ix ix_list (pv 2) (pv 7) (fun _ _ => rfl)) (pg_tup rfl (pgs_cons (pg_name (i := 8) sc_costs_from.nd rfl (Or.inl rfl)) (pgs_cons (pg_name (i := 9) sc_costs_from.nd rfl (Or.inl rfl)) pgs_nil))))
  (pss_cons (ps_if (pt_cmpR op_notIn_seq (pv 8) (pv 6) (by rfl)) (pss_one (ps_ret (pv 4))) pss_nil)
  (pss_cons (ps_if (PW.pt (pw_and (pt_cmpR op_eq (pv 8) (pe_ix ix_tup (pv 1) pe_int (fun _ _ => rfl)) (nomark _)) (pw_and1 (pt_cmpR op_ge (pv 9) (pe_ix ix_tup (pv 1) pe_int (fun _ _ => rfl)) (nomark _))))) (pss_one (ps_expr (pe_bm PySem.F.plainAttrs_list PySem.F.slot_list_append PySem.F.type_list_append mt_append (pv 4) (pa_cons (pe_tup (pa_cons (pv 7) (pa_cons (pe_op op_add (pe_op op_add (pv 5) (pe_op op_fdiv (pe_op op_sub (pe_op op_sub (pv 7) (pv 3)) pe_int) pe_int)) (C8.pe_c c_growing hr (by decide) rfl (pa_cons (pe_ix ix_tup (pv 1) pe_int (fun _ _ => rfl)) (pa_cons (pv 9) pa_nil)))) pa_nil))) pa_nil)))) pss_nil)
  (pss_one (ps_set (i := 5) sc_costs_from.nd rfl (Or.inl rfl) (pe_op op_add (pv 5) (C8.pe_c c_growing hr (by decide) rfl (pa_cons pe_int (pa_cons (pv 9) pa_nil))))))))))
  (pss_one (ps_ret (pv 4))))), ?_⟩
    refine ⟨Nat.zero_le _, fun F hF => ?_⟩
    have s1 : Same H (upd H F (.lst [])) := same_upd hF
    have eF0 : upd H F (.lst []) F = some (.lst []) := upd_same
    generalize upd H F (.lst []) = H1 at s1 eF0
    refine ⟨_, rfl, p1, _, 0, _, rfl, rfl, .inl (.inl (s1 _ _ h1)), rfl, _, rfl, p2, _, 0, _, rfl, rfl, .inl (.inl (s1 _ _ h2)), rfl, small1000 (by simp), fun Gt hG => ?_⟩
    have s2 : Same H (upd H1 Gt (.tup [.str (tx [a]), .str (tx [b])])) := s1.trans (same_upd hG)
    have eF : upd H1 Gt (.tup [.str (tx [a]), .str (tx [b])]) F = some (.lst []) := by rw [upd_ne (ne_of_none eF0 hG)]; exact eF0
    have eG : upd H1 Gt (.tup [.str (tx [a]), .str (tx [b])]) Gt = some (.tup [.str (tx [a]), .str (tx [b])]) := upd_same
    refine ⟨_, _, _, rfl, ?_⟩
    generalize upd H1 Gt (.tup [.str (tx [a]), .str (tx [b])]) = H2 at s2 eF eG
    refine ⟨_, rfl, _, _, rfl, rfl, _, rfl, p3, xs, rfl, .inl (.inl (.inl (s2 _ _ h3))), _, _, rfl, ⟨by omega, by omega, by omega, by rw [tw.len]; omega⟩, ?_⟩
    have hn : ((xs.length : Int) - ((k : Int) + 1)).toNat = W.length - (k + 1) := by rw [tw.len]; omega
    rw [hn]
    refine for_it walk_range (fun j σ H' => ∃ y7 y8 y9 ys L c, σ = [some (.ref p1), some (.ref p2), some (.ref p3), some (.int k), some (.ref F), some (.int (c : Nat)), some (.ref Gt), y7, y8, y9] ∧ Same H H' ∧ H' Gt = some (.tup [.str (tx [a]), .str (tx [b])]) ∧ H' F = some (.lst ys) ∧ RefsAt fP H' ys L ∧ L.length ≤ j ∧ costsFrom a b m W k = L ++ cfr a b m j c (k + 1 + j) (W.drop (k + 1 + j))) ⟨none, none, none, [], [], 0, rfl, s2, eG, eF, .nil, Nat.zero_le _, rfl⟩ (fun _ _ _ _ _ => trivial) ?_ ?_
    · rintro j x σ H3 H4 hj ⟨y7, y8, y9, ys, L, c, rfl, s3, e3, e4, rf, hL, hc⟩ ⟨rfl, rfl⟩
      have hlt : k + 1 + j < W.length := by omega
      have e0 : ((k : Int) + 1 + (j : Int)) = ((k + 1 + j : Nat) : Int) := by omega
      have tw3 := tw.mono s3
      obtain ⟨pj, g1, g2⟩ := tw3.at_ (k + 1 + j) W[k + 1 + j] (List.getElem?_eq_getElem hlt)
      have hpj := hpos W[k + 1 + j] (List.getElem_mem hlt)
      have hdr : W.drop (k + 1 + j) = W[k + 1 + j] :: W.drop (k + 1 + (j + 1)) := by
        rw [List.drop_eq_getElem_cons hlt]; rfl
      rw [hdr] at hc
      generalize W[k + 1 + j] = sj at g2 hc hpj
      obtain ⟨sg, n⟩ := sj
      refine gN ?_
      refine ⟨_, rfl, _, rfl, p3, xs, ((k + 1 + j : Nat) : Int), .ref pj, rfl, by rw [← e0], .inl (.inl (s3 _ _ h3)), atI_nat g1, pj, _, rfl, .inl (.inl g2), rfl, _, _, rfl, _, _, rfl, rfl, ?_⟩
      refine ⟨_, rfl, _, rfl, Gt, [.str (tx [a]), .str (tx [b])], rfl, .inr (.inl (.inl e3)), rfl, rfl, _, rfl, ?_⟩
      have hin : inV (.str (tx [sg])) [.str (tx [a]), .str (tx [b])] = decide (sg = a ∨ sg = b) := by
        unfold inV
        simp [eqV, Bool.decide_or]
        congr 1 <;> exact decide_eq_decide.mpr ⟨fun z => by simpa using (tx_inj z).symm, fun z => by rw [z]⟩
      show if (!inV (.str (tx [sg])) [.str (tx [a]), .str (tx [b])]) = true then _ else _
      rw [hin]
      by_cases hs : sg = a ∨ sg = b
      · rw [decide_eq_true hs]
        refine iteF ?_
        have hcf : ∀ R, cfr a b m j c (k + 1 + j) ((sg, n) :: R) = if sg = b ∧ m ≤ n then (k + 1 + j, c + j / 2 + gr m n) :: cfr a b m (j + 1) (c + gr 1 n) (k + 1 + j + 1) R else cfr a b m (j + 1) (c + gr 1 n) (k + 1 + j + 1) R := fun R => by
          show (if sg ≠ a ∧ sg ≠ b then _ else _) = _
          rw [if_neg (fun z => hs.elim z.1 z.2)]
        rw [hcf] at hc
        have setc : ∀ (ys : List V) (L' : List (Nat × Nat)) (H5 : Hp), Same H H5 → H5 Gt = some (.tup [.str (tx [a]), .str (tx [b])]) → H5 F = some (.lst ys) → RefsAt fP H5 ys L' → L'.length ≤ j + 1 → costsFrom a b m W k = L' ++ cfr a b m (j + 1) (c + gr 1 n) (k + 1 + j + 1) (W.drop (k + 1 + (j + 1))) →
            ∃ y7 y8 y9 ys' L c', [some (.ref p1), some (.ref p2), some (.ref p3), some (V.int k), some (.ref F), some (.int ((c : Int) + (gr 1 n : Nat))), some (.ref Gt), some (.int ((k : Int) + 1 + (j : Int))), some (.str (tx [sg])), some (.int n)] = [some (.ref p1), some (.ref p2), some (.ref p3), some (.int k), some (.ref F), some (.int (c' : Nat)), some (.ref Gt), y7, y8, y9] ∧ Same H H5 ∧ H5 Gt = some (.tup [.str (tx [a]), .str (tx [b])]) ∧ H5 F = some (.lst ys') ∧ RefsAt fP H5 ys' L ∧ L.length ≤ j + 1 ∧ costsFrom a b m W k = L ++ cfr a b m (j + 1) c' (k + 1 + (j + 1)) (W.drop (k + 1 + (j + 1))) :=
          fun ys L' H5 a1 a2 a3 a4 a5 a6 => ⟨_, _, _, ys, L', c + gr 1 n, by rw [show ((c : Int) + (gr 1 n : Nat)) = ((c + gr 1 n : Nat) : Int) by omega], a1, a2, a3, a4, a5, a6⟩
        refine ⟨_, rfl, _, rfl, p2, _, 0, _, rfl, rfl, .inl (.inl (s3 _ _ h2)), rfl, rfl, _, rfl, ?_⟩
        show if decide (V.str (tx [sg]) = V.str (tx [b])) = true then _ else _
        rw [dec_tx]
        by_cases hb : sg = b
        · subst hb
          refine iteD rfl ?_
          refine ⟨_, rfl, _, rfl, p2, _, 1, _, rfl, rfl, .inl (.inl (s3 _ _ h2)), rfl, _, _, rfl, rfl, _, rfl, ?_⟩
          by_cases hm : m ≤ n
          · refine iteD (by omega) ?_
            rw [if_pos ⟨rfl, hm⟩] at hc
            refine ⟨_, rfl, .inl ⟨rfl, _, .inl (.inl e4)⟩, _, rfl, _, rfl, _, rfl, _, rfl, _, _, rfl, rfl, _, _, rfl, rfl, _, _, rfl, rfl, ⟨by decide, by decide⟩, _, _, rfl, rfl, _, rfl, p2, _, 1, _, rfl, rfl, .inl (.inl (s3 _ _ h2)), rfl, _, rfl, m, n, rfl, hm, _, _, rfl, rfl, small1000 (by simp), fun Tn nT => ?_⟩
            have ev : [V.int ((k : Int) + 1 + (j : Int)), .int ((c : Int) + ((k : Int) + 1 + (j : Int) - (k : Int) - 1) / 2 + (gr m n : Nat))] = fP (k + 1 + j, c + j / 2 + gr m n) := by
              show [V.int _, V.int _] = [V.int _, V.int _]
              rw [show ((k : Int) + 1 + (j : Int)) = ((k + 1 + j : Nat) : Int) by omega, show ((c : Int) + (((k + 1 + j : Nat) : Int) - (k : Int) - 1) / 2 + (gr m n : Nat)) = ((c + j / 2 + gr m n : Nat) : Int) by omega]
            have e4' : upd H4 Tn (.tup (fP (k + 1 + j, c + j / 2 + gr m n))) F = some (.lst ys) := by rw [upd_ne (ne_of_none e4 nT)]; exact e4
            have nGF : Gt ≠ F := fun z => by rw [z, e4] at e3; cases e3
            refine ⟨F, ys, _, rfl, rfl, by rw [← ev] at e4'; exact e4', small1000 (by rw [rf.len]; omega), ?_⟩
            refine ⟨_, rfl, _, rfl, 1, n, rfl, hpj, _, _, rfl, rfl, ?_⟩
            show ∃ y7 y8 y9 ys' L c', _ = _ ∧ Same H (upd (upd H4 Tn (.tup [V.int ((k : Int) + 1 + (j : Int)), .int ((c : Int) + ((k : Int) + 1 + (j : Int) - (k : Int) - 1) / 2 + (gr m n : Nat))])) F (.lst (ys ++ [.ref Tn]))) ∧ _
            rw [ev]
            refine setc _ (L ++ [(k + 1 + j, c + j / 2 + gr m n)]) _ (same_set (s3.trans (same_upd nT)) hF) ?_ upd_same ?_ ?_ ?_
            · rw [upd_ne nGF, upd_ne (ne_of_none e3 nT)]; exact e3
            · exact ((rf.mono (same_upd nT)).snoc upd_same).upd_lst e4'
            · rw [List.length_append]; simp; omega
            · rw [hc, List.append_assoc]; rfl
          · refine iteDN (by omega) ?_
            rw [if_neg (fun z => hm z.2)] at hc
            refine ⟨_, rfl, _, rfl, 1, n, rfl, hpj, _, _, rfl, rfl, ?_⟩
            exact setc _ _ H4 s3 e3 e4 rf (by omega) hc
        · refine iteDN (fun z => hb (by simpa using z)) (iteF ?_)
          rw [if_neg (fun z => hb z.1)] at hc
          refine ⟨_, rfl, _, rfl, 1, n, rfl, hpj, _, _, rfl, rfl, ?_⟩
          exact setc _ _ H4 s3 e3 e4 rf (by omega) hc
      · rw [decide_eq_false hs]
        refine iteT ?_
        refine ⟨_, rfl, q F H4 ys hF s3 e4 ?_⟩
        rw [hc, show cfr a b m j c (k + 1 + j) ((sg, n) :: W.drop (k + 1 + (j + 1))) = [] from if_pos ⟨fun z => hs (.inl z), fun z => hs (.inr z)⟩, List.append_nil]
        exact rf
    · rintro σ H3 ⟨y7, y8, y9, ys, L, c, rfl, s3, e3, e4, rf, hL, hc⟩
      refine ⟨_, rfl, q F H3 ys hF s3 e4 ?_⟩
      rw [hc]
      rw [List.drop_of_length_le (by omega)]
      simpa [cfr] using rf
end
end TW
set_option Elab.async false
set_option linter.all false
set_option maxRecDepth 100000
set_option maxHeartbeats 4000000
namespace TW
open PySem PySem.Spec PyProof.Rows L2
/-- a value of the program's dict: the cost, the places -/
def EntAt (H : Hp) (v : V) (e : Nat × List Nat) : Prop := ∃ t l, v = .ref t ∧ H t = some (.tup [.int (e.1 : Nat), .ref l]) ∧ H l = some (.lst (nls e.2))
theorem EntAt.mono {H H' : Hp} {v : V} {e : Nat × List Nat} (h : EntAt H v e) (s : Same H H') : EntAt H' v e :=
  let ⟨t, l, a, b, c⟩ := h; ⟨t, l, a, s _ _ b, s _ _ c⟩
abbrev nk (n : Nat) : Key := Sum.inl (n : Int)
theorem nk_eq (a b : Nat) : (nk a = nk b) ↔ a = b := by
  constructor
  · intro h
    have := Sum.inl.inj h
    omega
  · intro h; rw [h]
/-- the dict's pairs are those -/
def BR (H : Hp) : List (Key × V) → List Ent → Prop
  | [], [] => True
  | (k, v) :: kvs, e :: best => k = nk e.1 ∧ EntAt H v e.2 ∧ BR H kvs best
  | _, _ => False
theorem BR.mono {H H' : Hp} (s : Same H H') : ∀ {kvs : List (Key × V)} {best : List Ent}, BR H kvs best → BR H' kvs best
  | [], [], _ => trivial
  | [], e :: best, h => h.elim
  | kv :: kvs, [], h => h.elim
  | (k, v) :: kvs, e :: best, h => ⟨h.1, h.2.1.mono s, h.2.2.mono s⟩
theorem BR.upd {H : Hp} {d : Addr} {o : HO} (hd : ∀ xs, H d ≠ some (.lst xs)) (hd2 : ∀ xs, H d ≠ some (.tup xs)) : ∀ {kvs : List (Key × V)} {best : List Ent}, BR H kvs best → BR (upd H d o) kvs best
  | [], [], _ => trivial
  | [], e :: best, h => h.elim
  | kv :: kvs, [], h => h.elim
  | (k, v) :: kvs, e :: best, h => by
    refine ⟨h.1, ?_, BR.upd hd hd2 h.2.2⟩
    obtain ⟨t, l, a, b, c⟩ := h.2.1
    refine ⟨t, l, a, ?_, ?_⟩
    · rw [upd_ne (fun z => by rw [z] at b; exact hd2 _ b)]; exact b
    · rw [upd_ne (fun z => by rw [z] at c; exact hd _ c)]; exact c
theorem BR.len {H : Hp} : ∀ {kvs : List (Key × V)} {best : List Ent}, BR H kvs best → kvs.length = best.length
  | [], [], _ => rfl
  | [], e :: best, h => h.elim
  | kv :: kvs, [], h => h.elim
  | (k, v) :: kvs, e :: best, h => by simp [BR.len h.2.2]
theorem BR.at_ {H : Hp} : ∀ {kvs : List (Key × V)} {best : List Ent} {i : Nat} {kv : Key × V}, BR H kvs best → kvs[i]? = some kv → ∃ e, best[i]? = some e ∧ kv.1 = nk e.1 ∧ EntAt H kv.2 e.2
  | (k, v) :: kvs, e :: best, 0, kv, h, hi => by
    have : (k, v) = kv := by simpa using hi
    subst this
    exact ⟨e, rfl, h.1, h.2.1⟩
  | (k, v) :: kvs, e :: best, i + 1, kv, h, hi => by
    obtain ⟨e', a, b⟩ := BR.at_ h.2.2 (by simpa using hi)
    exact ⟨e', by simpa using a, b⟩
  | [], _, i, kv, h, hi => by simp at hi
  | (k, v) :: kvs, [], i, kv, h, hi => h.elim
theorem BR.look {H : Hp} (k : Nat) : ∀ {kvs : List (Key × V)} {best : List Ent}, BR H kvs best → (look best k = none ∧ valV kvs (nk k) = none) ∨ ∃ v x, look best k = some v ∧ valV kvs (nk k) = some x ∧ EntAt H x v
  | [], [], _ => .inl ⟨rfl, rfl⟩
  | [], e :: best, h => h.elim
  | kv :: kvs, [], h => h.elim
  | (k', v) :: kvs, e :: best, h => by
    obtain ⟨h1, h2, h3⟩ := h
    by_cases hk : e.1 = k
    · refine .inr ⟨e.2, v, ?_, ?_, h2⟩
      · unfold TW.look; simp [hk]
      · unfold valV; simp [h1, hk]
    · have hk' : ¬ nk e.1 = nk k := fun z => hk ((nk_eq _ _).mp z)
      have e1 : TW.look (e :: best) k = TW.look best k := by
        unfold TW.look
        rw [List.find?_cons_of_neg (by simpa using hk)]
      have e2 : valV ((k', v) :: kvs) (nk k) = valV kvs (nk k) := by
        unfold valV
        rw [List.find?_cons_of_neg (by rw [h1]; simpa using hk')]
      rw [e1, e2]
      exact BR.look k h3
theorem BR.map {H : Hp} {k : Nat} {x : V} {v : Nat × List Nat} (hx : EntAt H x v) : ∀ {kvs : List (Key × V)} {best : List Ent}, BR H kvs best → BR H (kvs.map fun kv => if kv.1 = nk k then (kv.1, x) else kv) (best.map fun e => if e.1 = k then (e.1, v) else e)
  | [], [], _ => trivial
  | [], e :: best, h => h.elim
  | kv :: kvs, [], h => h.elim
  | (k', y) :: kvs, e :: best, h => by
    obtain ⟨h1, h2, h3⟩ := h
    subst h1
    rw [List.map_cons, List.map_cons]
    by_cases hk : e.1 = k
    · rw [if_pos ((nk_eq _ _).mpr hk), if_pos hk]
      exact ⟨rfl, hx, BR.map hx h3⟩
    · rw [if_neg (fun z => hk ((nk_eq _ _).mp z)), if_neg hk]
      exact ⟨rfl, h2, BR.map hx h3⟩
theorem BR.snoc {H : Hp} {k : Nat} {x : V} {v : Nat × List Nat} (hx : EntAt H x v) : ∀ {kvs : List (Key × V)} {best : List Ent}, BR H kvs best → BR H (kvs ++ [(nk k, x)]) (best ++ [(k, v)])
  | [], [], _ => ⟨rfl, hx, trivial⟩
  | [], e :: best, h => h.elim
  | kv :: kvs, [], h => h.elim
  | (k', y) :: kvs, e :: best, h => ⟨h.1, h.2.1, BR.snoc hx h.2.2⟩
theorem BR.put {H : Hp} {k : Nat} {x : V} {v : Nat × List Nat} (hx : EntAt H x v) {kvs : List (Key × V)} {best : List Ent} (h : BR H kvs best) : BR H (putK kvs (nk k) x) (put best k v) := by
  unfold putK TW.put
  have ha : (kvs.any fun kv => decide (kv.1 = nk k)) = best.any fun e => decide (e.1 = k) := by
    rw [Bool.eq_iff_iff, List.any_eq_true, List.any_eq_true]
    constructor
    · rintro ⟨kv, hm, e⟩
      obtain ⟨i, hi⟩ := List.mem_iff_getElem?.mp hm
      obtain ⟨e', a, b, _⟩ := h.at_ hi
      refine ⟨e', List.mem_iff_getElem?.mpr ⟨i, a⟩, ?_⟩
      rw [b] at e
      simpa using (nk_eq _ _).mp (of_decide_eq_true e)
    · rintro ⟨e', hm, e⟩
      obtain ⟨i, hi⟩ := List.mem_iff_getElem?.mp hm
      have hl : i < kvs.length := by rw [h.len]; exact (List.getElem?_eq_some_iff.mp hi).1
      obtain ⟨e2, a, b, _⟩ := h.at_ (List.getElem?_eq_getElem hl)
      rw [hi] at a
      cases a
      refine ⟨kvs[i], List.getElem_mem hl, ?_⟩
      rw [b]
      exact decide_eq_true ((nk_eq _ _).mpr (of_decide_eq_true e))
  rw [ha]
  split
  · exact h.map hx
  · exact h.snoc hx
/-- places stay below the end -/
theorem cfr_lt {a b m : Nat} : ∀ (W : List S) (k c at_ : Nat) (q : Nat × Nat), q ∈ cfr a b m k c at_ W → q.1 < at_ + W.length
  | [], k, c, at_, q, h => by simp [cfr] at h
  | (s, n) :: W, k, c, at_, q, h => by
    have ih := cfr_lt (a := a) (b := b) (m := m) W (k + 1) (c + gr 1 n) (at_ + 1) q
    unfold cfr at h
    simp only [List.length_cons]
    split at h
    · simp at h
    · split at h
      · rcases List.mem_cons.mp h with e | h
        · subst e
          show at_ < _
          omega
        · have := ih h; omega
      · have := ih h; omega
theorem costs_lt {a b m k : Nat} {W : List S} (q : Nat × Nat) (h : q ∈ costsFrom a b m W k) : q.1 < W.length := by
  have := cfr_lt _ _ _ _ _ h
  rw [List.length_drop] at this
  by_cases hk : k + 1 ≤ W.length
  · omega
  · unfold costsFrom at h
    rw [List.drop_of_length_le (by omega)] at h
    simp [cfr] at h
theorem keys_len {n : Nat} {l : List Ent} (h : Keys l) (hl : ∀ e ∈ l, e.1 < n) : l.length ≤ n := by
  have h2 := List.Nodup.length_le_of_subset h (l₂ := List.range n) (fun x hx => by
    obtain ⟨e, he, rfl⟩ := List.mem_map.mp hx
    exact List.mem_range.mpr (hl e he))
  simpa using h2
end TW
set_option Elab.async false
set_option linter.all false
set_option maxRecDepth 100000
set_option maxHeartbeats 4000000
namespace TW
open PySem PySem.Spec PyProof.Rows L2
abbrev s_spots_of : Stmt := topS 19
def N_spots_of : List Str := ["later", "elder", "own", "wanted", "best", "near", "far", "later_best", "begin", "cost", "spots", "at", "more"]
theorem sc_spots_of : FnScope N_spots_of ["later", "elder"] (C8.fnScope s_spots_of) := C8.fnScope_by (by decide +kernel)
def sp_spots_of : Sp := fun vs H Q _ => ∃ (w e : List Nat) (a m n : Nat) (E W : List S) (c : Nat) (sp : List Nat), vs = [.str (tx w), .str (tx e)] ∧ w.length ≤ 1000 ∧ e.length ≤ 1000 ∧ Lo w ∧ Lo e ∧ st e = (a, m) :: E ∧ st w = (a, n) :: W ∧ m ≤ n ∧
  look (bestOf (st e) (st w)) ((st w).length - 1) = some (c, sp) ∧ ∀ D H', Same H H' → H' D = some (.lst (nls sp)) → Q (.ref D) H'
theorem st_len (l : List Nat) : (st l).length ≤ l.length := by
  have := stp_len l []
  unfold st
  simpa using this
theorem cutV_from (xs : List V) (k : Nat) : cutV xs (some (k : Int)) none = xs.drop k := by
  unfold cutV
  rw [HT.sIx_nat]
  show (xs.drop (min k xs.length)).take (xs.length - min k xs.length) = _
  by_cases h : k ≤ xs.length
  · rw [Nat.min_eq_left h, List.take_of_length_le (by simp)]
  · rw [Nat.min_eq_right (Nat.le_of_not_le h), Nat.sub_self, List.drop_of_length_le (Nat.le_refl _), List.drop_of_length_le (Nat.le_of_not_le h)]
    rfl
theorem cutV_to (xs : List V) (k : Nat) : cutV xs none (some (k : Int)) = xs.take k := by
  unfold cutV
  rw [HT.sIx_nat]
  show (xs.drop 0).take (min k xs.length - 0) = _
  rw [List.drop_zero, Nat.sub_zero]
  by_cases h : k ≤ xs.length
  · rw [Nat.min_eq_left h]
  · rw [Nat.min_eq_right (Nat.le_of_not_le h), List.take_of_length_le (Nat.le_refl _), List.take_of_length_le (Nat.le_of_not_le h)]
section
variable {P : Program} {w : World} {K : PySem.W.Frag} {mg : Str → Option Value} {base : Heap}
theorem c_spots_of (G : Glb K mg) (c_growing : C8.Cal P w K mg base 1 "growing" sp_growing []) (c_stretches : C8.Cal P w K mg base 1 "stretches" sp_stretches []) (c_costs_from : C8.Cal P w K mg base 2 "costs_from" sp_costs_from []) (D : DefAt K mg "spots_of" s_spots_of) : C8.Cal P w K mg base 3 "spots_of" sp_spots_of [] := by
  refine cal_of D sc_spots_of (fun _ _ _ _ _ _ us hl => match us, hl with | [_, _], _ => rfl) (fun vs H Q E h => ?_) (fun f cdv A outer s H vs Q E hr h => ?_)
  · obtain ⟨l, e, a, m, n, E, W, c, sp, rfl, _⟩ := h; rfl
  · obtain ⟨l, e, a, m, n, E1, W1, c, sp, rfl, hl, he, lo1, lo2, est, wst, hmn, hlk, q⟩ := h
    have hu : (cxOf C8.CX0 P w K mg base N_spots_of "spots_of" (C8.fnScope s_spots_of) f cdv A outer s H E).nox.A.units + 1 < cLine := by
      have := hr.units
      exact Nat.lt_of_le_of_lt (by show _ ≤ _ + 64; exact Nat.add_le_add_left (by decide) _) this
    refine ⟨_, (pss_cons (ps_par (i := 2) (j := 3) (by rfl) sc_spots_of.nd rfl rfl (by decide) rfl rfl (pa_cons (C8.pe_c c_stretches hr (by decide) rfl (pa_cons (pv 1) pa_nil)) (pa_cons (C8.pe_c c_stretches hr (by decide) rfl (pa_cons (pv 0) pa_nil)) pa_nil)) (by rfl))
  (pss_cons (ps_set (i := 4) sc_spots_of.nd rfl (Or.inl rfl) (pe_disp (pps_cons pe_int (pe_tup (pa_cons (C8.pe_c c_growing hr (by decide) rfl (pa_cons (pe_ix ix_tup (pe_ix ix_list (pv 2) pe_int (fun _ _ => rfl)) pe_int (fun _ _ => rfl)) (pa_cons (pe_ix ix_tup (pe_ix ix_list (pv 3) pe_int (fun _ _ => rfl)) pe_int (fun _ _ => rfl)) pa_nil))) (pa_cons (pe_lst (pa_cons pe_int pa_nil)) pa_nil))) pps_nil) (by rfl) (by rfl) (fun z => by cases z) (by decide)))
  (pss_cons (ps_for PassesOwn.never rfl (pi_zip rfl G.zip (pa_cons (pv 2) (pa_cons (pe_slice sl_list (pv 2) (po_some pe_int) po_none) pa_nil))) (pg_tup rfl (pgs_cons (pg_name (i := 5) sc_spots_of.nd rfl (Or.inl rfl)) (pgs_cons (pg_name (i := 6) sc_spots_of.nd rfl (Or.inl rfl)) pgs_nil)))
  (pss_cons (ps_set (i := 7) sc_spots_of.nd rfl (Or.inl rfl) pe_dnewK)
  (pss_cons (ps_lock (ps_for PassesOwn.never rfl (pi_items (pv 4)) (pg_tup rfl (pgs_cons (pg_name (i := 8) sc_spots_of.nd rfl (Or.inl rfl)) (pgs_cons (pg_tup rfl (pgs_cons (pg_name (i := 9) sc_spots_of.nd rfl (Or.inl rfl)) (pgs_cons (pg_name (i := 10) sc_spots_of.nd rfl (Or.inl rfl)) pgs_nil))) pgs_nil)))
  (pss_one (ps_for PassesOwn.never rfl (pi_list (C8.pe_c c_costs_from hr (by decide) rfl (pa_cons (pv 5) (pa_cons (pv 6) (pa_cons (pv 3) (pa_cons (pv 8) pa_nil)))))) (pg_tup rfl (pgs_cons (pg_name (i := 11) sc_spots_of.nd rfl (Or.inl rfl)) (pgs_cons (pg_name (i := 12) sc_spots_of.nd rfl (Or.inl rfl)) pgs_nil)))
  (pss_one (ps_if (PW.pt (pw_or (pt_cmp (pc_dnotin hu (pv 11) (pv 7)) ) (pw_or1 (pt_cmpR op_lt (pe_op op_add (pv 9) (pv 12)) (pe_ix ix_tup (pe_dget hu (pv 7) (pv 11) (fun _ _ => rfl)) pe_int (fun _ _ => rfl)) (nomark _))))) (pss_one (ps_dput hu (pv 7) (pv 11) (pe_tup (pa_cons (pe_op op_add (pv 9) (pv 12)) (pa_cons (pe_lst (StX.pa_star (pv 10) (pa_cons (pv 11) pa_nil))) pa_nil))) rfl)) pss_nil))))))
  (pss_one (ps_set (i := 4) sc_spots_of.nd rfl (Or.inl rfl) (pv 7))))))
  (pss_one (ps_ret (pe_ix ix_tup (pe_dget hu (pv 4) (pe_op op_sub (pe_callB call_len_seq rfl G.len PySem.boot_len (pa_cons (pv 3) pa_nil)) pe_int) (fun _ _ => rfl)) pe_int (fun _ _ => rfl))))))), ?_⟩
    refine ⟨_, rfl, e, rfl, he, lo2, fun D1 H1 os n1 s1 e1 t1 => ?_⟩
    refine ⟨_, rfl, l, rfl, hl, lo1, fun D2 H2 ws n2 s2 e2 t2 => ⟨_, _, rfl, ?_⟩⟩
    have t1 := t1.mono s2
    have e1 := s2 _ _ e1
    have s12 : Same H H2 := s1.trans s2
    clear s1 s2 n1 n2
    rw [est] at t1
    rw [wst] at t2
    have hol : os.length = E1.length + 1 := by rw [t1.len]; rfl
    have hwl : ws.length = W1.length + 1 := by rw [t2.len]; rfl
    have hEl : E1.length + 1 ≤ 1000 := by have := st_len e; rw [est] at this; simp at this; omega
    have hWl : W1.length + 1 ≤ 1000 := by have := st_len l; rw [wst] at this; simp at this; omega
    have hpos : ∀ s ∈ (a, n) :: W1, 1 ≤ s.2 := by rw [← wst]; exact (st_pr l).all
    obtain ⟨po, go1, go2⟩ := t1.at_ 0 (a, m) rfl
    obtain ⟨pw, gw1, gw2⟩ := t2.at_ 0 (a, n) rfl
    refine fun d nd => ?_
    have s3 : Same H2 (upd H2 d (.dK [])) := same_upd nd
    have ed : upd H2 d (.dK []) d = some (.dK []) := upd_same
    generalize upd H2 d (.dK []) = H3 at s3 ed
    refine ⟨_, rfl, D1, os, 0, .ref po, rfl, rfl, .inl (.inl (s3 _ _ e1)), atI_nat go1, po, _, 1, .int m, rfl, rfl, .inl (.inl (s3 _ _ go2)), rfl, _, rfl, D2, ws, 0, .ref pw, rfl, rfl, .inl (.inl (s3 _ _ e2)), atI_nat gw1, pw, _, 1, .int n, rfl, rfl, .inl (.inl (s3 _ _ gw2)), rfl, m, n, rfl, hmn, small1000 (by simp), fun L nL => ?_⟩
    have s4 : Same H2 (upd H3 L (.lst [.int 0])) := s3.trans (same_upd nL)
    have ed : upd H3 L (.lst [.int 0]) d = some (.dK []) := by rw [upd_ne (ne_of_none ed nL)]; exact ed
    have eL : upd H3 L (.lst [.int 0]) L = some (.lst [.int 0]) := upd_same
    generalize upd H3 L (.lst [.int 0]) = H4 at s4 ed eL
    refine ⟨small1000 (by simp), fun T nT => ?_⟩
    have s5 : Same H2 (upd H4 T (.tup [.int (gr m n : Nat), .ref L])) := s4.trans (same_upd nT)
    have ed : upd H4 T (.tup [.int (gr m n : Nat), .ref L]) d = some (.dK []) := by rw [upd_ne (ne_of_none ed nT)]; exact ed
    have eL : upd H4 T (.tup [.int (gr m n : Nat), .ref L]) L = some (.lst [.int 0]) := by rw [upd_ne (ne_of_none eL nT)]; exact eL
    have eT : upd H4 T (.tup [.int (gr m n : Nat), .ref L]) T = some (.tup [.int (gr m n : Nat), .ref L]) := upd_same
    generalize upd H4 T (.tup [.int (gr m n : Nat), .ref L]) = H5 at s5 ed eL eT
    refine ⟨ed, [(nk 0, .ref T)], rfl, by simp, ?_⟩
    have br : BR H5 [(nk 0, .ref T)] [(0, gr m n, [0])] := ⟨rfl, ⟨T, L, rfl, eT, eL⟩, trivial⟩
    have s6 : Same H2 (upd H5 d (.dK (mergeK [] [(nk 0, .ref T)]))) := same_set s5 nd
    have ed6 : upd H5 d (.dK (mergeK [] [(nk 0, .ref T)])) d = some (.dK [(nk 0, .ref T)]) := upd_same
    have br6 : BR (upd H5 d (.dK (mergeK [] [(nk 0, .ref T)]))) [(nk 0, .ref T)] [(0, gr m n, [0])] := br.upd (fun xs z => by rw [ed] at z; cases z) (fun xs z => by rw [ed] at z; cases z)
    generalize upd H5 d (.dK (mergeK [] [(nk 0, .ref T)])) = H6 at s6 ed6 br6
    refine gN ?_
    refine ⟨_, rfl, _, rfl, _, rfl, D1, os, rfl, .inl (.inl (s6 _ _ e1)), fun Z nZ => ?_⟩
    have hcut : cutV os (some 1) none = os.drop 1 := cutV_from os 1
    rw [hcut]
    have s7 : Same H2 (upd H6 Z (.lst (os.drop 1))) := s6.trans (same_upd nZ)
    have eZ : upd H6 Z (.lst (os.drop 1)) Z = some (.lst (os.drop 1)) := upd_same
    have ed7 : upd H6 Z (.lst (os.drop 1)) d = some (.dK [(nk 0, .ref T)]) := by rw [upd_ne (ne_of_none ed6 nZ)]; exact ed6
    have br7 := br6.mono (same_upd (o := .lst (os.drop 1)) nZ)
    have nZ2 : H2 Z = none := by
      cases z : H2 Z with
      | none => rfl
      | some o => rw [s6 _ _ z] at nZ; cases nZ
    generalize upd H6 Z (.lst (os.drop 1)) = H7 at s7 eZ ed7 br7
    refine ⟨D1, Z, os, os.drop 1, rfl, .inl (.inl (s7 _ _ e1)), .inl (.inl eZ), ?_⟩
    refine for_it (walk_zip (n := E1.length) (by simp [hol])) (fun i σ H' => ∃ d kvs best p y5 y6 y7 y8 y9 y10 y11 y12, σ = [some (.str (tx l)), some (.str (tx e)), some (.ref D1), some (.ref D2), some (.ref d), y5, y6, y7, y8, y9, y10, y11, y12] ∧ Same H2 H' ∧ H2 d = none ∧ d ≠ Z ∧ H' Z = some (.lst (os.drop 1)) ∧ H' d = some (.dK kvs) ∧ BR H' kvs best ∧ Keys best ∧ (∀ x ∈ best, x.1 < W1.length + 1) ∧ (∀ x ∈ best, x.2.2.length ≤ i + 1) ∧ ((a, m) :: E1)[i]? = some p ∧ bestOf ((a, m) :: E1) ((a, n) :: W1) = stages ((a, n) :: W1) p (((a, m) :: E1).drop (i + 1)) best)
      ⟨d, _, _, (a, m), none, none, none, none, none, none, none, none, rfl, s7, nd, (fun z => by rw [z, eZ] at ed7; cases ed7), eZ, ed7, br7, by simp [Keys], by simp, by simp, rfl, rfl⟩ (fun i σ H' hi ⟨_, _, _, _, _, _, _, _, _, _, _, _, _, a1, _, _, a2, _⟩ => ⟨.inl (.inl (a1 _ _ e1)), .inl (.inl a2)⟩) ?_ ?_
    · rintro i x σ H8 H9 hi ⟨d, kvs, best, p, y5, y6, y7, y8, y9, y10, y11, y12, rfl, s8, nd8, dZ, eZ8, ed8, br8, kb, bW, bL, hp, hst⟩ ⟨T8, x1, x2, rfl, nT8, rfl, ex1, ex2⟩
      have hil : i + 1 < ((a, m) :: E1).length := by simpa using hi
      have tos := t1.mono s8
      obtain ⟨p5, gp1, gp2⟩ := tos.at_ i p hp
      obtain ⟨p6, gq1, gq2⟩ := tos.at_ (i + 1) _ (List.getElem?_eq_getElem hil)
      have hp1 := List.getElem?_eq_getElem hil
      have hdr : ((a, m) :: E1).drop (i + 1) = ((a, m) :: E1)[i + 1] :: ((a, m) :: E1).drop (i + 1 + 1) := List.drop_eq_getElem_cons hil
      rw [hdr] at hst
      generalize ((a, m) :: E1)[i + 1] = pn at gq2 hst hp1
      obtain ⟨b, mb⟩ := pn
      obtain ⟨pa, na⟩ := p
      obtain rfl : V.ref p5 = x1 := by
        have ex1 : os[i]? = some x1 := ex1
        rw [gp1] at ex1; exact Option.some.inj ex1
      obtain rfl : V.ref p6 = x2 := by
        have ex2 : (os.drop 1)[i]? = some x2 := ex2
        rw [List.getElem?_drop, show 1 + i = i + 1 by omega, gq1] at ex2
        exact Option.some.inj ex2
      have s9 : Same H2 (upd H8 T8 (.tup [.ref p5, .ref p6])) := s8.trans (same_upd nT8)
      have eZ9 : upd H8 T8 (.tup [.ref p5, .ref p6]) Z = some (.lst (os.drop 1)) := by rw [upd_ne (ne_of_none eZ8 nT8)]; exact eZ8
      have ed9 : upd H8 T8 (.tup [.ref p5, .ref p6]) d = some (.dK kvs) := by rw [upd_ne (ne_of_none ed8 nT8)]; exact ed8
      have br9 := br8.mono (same_upd (o := .tup [.ref p5, .ref p6]) nT8)
      have gp2 : upd H8 T8 (.tup [.ref p5, .ref p6]) p5 = some (.tup (fS (pa, na))) := by rw [upd_ne (ne_of_none gp2 nT8)]; exact gp2
      have gq2 : upd H8 T8 (.tup [.ref p5, .ref p6]) p6 = some (.tup (fS (b, mb))) := by rw [upd_ne (ne_of_none gq2 nT8)]; exact gq2
      have eT9 : upd H8 T8 (.tup [.ref p5, .ref p6]) T8 = some (.tup [.ref p5, .ref p6]) := upd_same
      generalize upd H8 T8 (.tup [.ref p5, .ref p6]) = H9 at s9 eZ9 ed9 br9 gp2 gq2 eT9
      refine ⟨T8, _, rfl, .inl (.inl eT9), rfl, _, _, rfl, _, _, rfl, rfl, fun d2 nd2 => ?_⟩
      have s10 : Same H2 (upd H9 d2 (.dK [])) := s9.trans (same_upd nd2)
      have nd2' : H2 d2 = none := by
        cases z : H2 d2 with
        | none => rfl
        | some o => rw [s9 _ _ z] at nd2; cases nd2
      have eZ10 : upd H9 d2 (.dK []) Z = some (.lst (os.drop 1)) := by rw [upd_ne (ne_of_none eZ9 nd2)]; exact eZ9
      have ed10 : upd H9 d2 (.dK []) d = some (.dK kvs) := by rw [upd_ne (ne_of_none ed9 nd2)]; exact ed9
      have br10 := br9.mono (same_upd (o := .dK []) nd2)
      have gp10 : upd H9 d2 (.dK []) p5 = some (.tup (fS (pa, na))) := by rw [upd_ne (ne_of_none gp2 nd2)]; exact gp2
      have gq10 : upd H9 d2 (.dK []) p6 = some (.tup (fS (b, mb))) := by rw [upd_ne (ne_of_none gq2 nd2)]; exact gq2
      have ed2 : upd H9 d2 (.dK []) d2 = some (.dK []) := upd_same
      have dd2 : d ≠ d2 := ne_of_none ed9 nd2
      generalize upd H9 d2 (.dK []) = H10 at s10 eZ10 ed10 br10 gp10 gq10 ed2
      refine ⟨d, .dK kvs, ed10, trivial, fun od => ?_⟩
      have s11 : Same H2 (upd H10 d (.frz od (.dK kvs))) := same_set s10 nd8
      have eZ11 : upd H10 d (.frz od (.dK kvs)) Z = some (.lst (os.drop 1)) := by rw [upd_ne (Ne.symm dZ)]; exact eZ10
      have ed11 : upd H10 d (.frz od (.dK kvs)) d = some (.frz od (.dK kvs)) := upd_same
      have br11 : BR (upd H10 d (.frz od (.dK kvs))) kvs best := br10.upd (fun xs z => by rw [ed10] at z; cases z) (fun xs z => by rw [ed10] at z; cases z)
      have gp11 : upd H10 d (.frz od (.dK kvs)) p5 = some (.tup (fS (pa, na))) := by rw [upd_ne (fun z => by rw [z, ed10] at gp10; cases gp10)]; exact gp10
      have gq11 : upd H10 d (.frz od (.dK kvs)) p6 = some (.tup (fS (b, mb))) := by rw [upd_ne (fun z => by rw [z, ed10] at gq10; cases gq10)]; exact gq10
      have ed211 : upd H10 d (.frz od (.dK kvs)) d2 = some (.dK []) := by rw [upd_ne (Ne.symm dd2)]; exact ed2
      have d2Z : d2 ≠ Z := fun z => by rw [z, eZ9] at nd2; cases nd2
      generalize upd H10 d (.frz od (.dK kvs)) = H11 at s11 eZ11 ed11 br11 gp11 gq11 ed211
      refine ⟨_, rfl, d, od, kvs, rfl, ed11, ?_⟩
      refine for_it walk_items (fun j σ H' => ∃ lbk lb y8 y9 y10 y11 y12, σ = [some (.str (tx l)), some (.str (tx e)), some (.ref D1), some (.ref D2), some (.ref d), some (.ref p5), some (.ref p6), some (.ref d2), y8, y9, y10, y11, y12] ∧ Same H2 H' ∧ H' Z = some (.lst (os.drop 1)) ∧ H' d = some (.frz od (.dK kvs)) ∧ BR H' kvs best ∧ H' p5 = some (.tup (fS (pa, na))) ∧ H' p6 = some (.tup (fS (b, mb))) ∧ H' d2 = some (.dK lbk) ∧ BR H' lbk lb ∧ Keys lb ∧ (∀ x ∈ lb, x.1 < W1.length + 1) ∧ (∀ x ∈ lb, x.2.2.length ≤ i + 2) ∧ lb = (best.take j).foldl (turn1 pa b mb ((a, n) :: W1)) [])
        ⟨[], [], y8, y9, y10, y11, y12, rfl, s11, eZ11, ed11, br11, gp11, gq11, ed211, trivial, by simp [Keys], by simp, by simp, rfl⟩ (fun j σ H' hj ⟨_, _, _, _, _, _, _, _, _, _, a1, _⟩ => a1) ?_ ?_
      · rintro j x σ H12 H13 hj ⟨lbk, lb, y8, y9, y10, y11, y12, rfl, s12', eZ12, ed12, br12, gp12, gq12, ed212, brl, kl, lW, lL, hlb⟩ ⟨T9, x1, x2, rfl, nT9, rfl, ex1, ex2⟩
        have ex1 : Option.map (fun kv => kV kv.1) kvs[j]? = some x1 := ex1
        have ex2 : Option.map Prod.snd kvs[j]? = some x2 := ex2
        obtain ⟨kv, hkv⟩ : ∃ kv, kvs[j]? = some kv := by
          cases z : kvs[j]? with
          | none => rw [z] at ex1; cases ex1
          | some kv => exact ⟨kv, rfl⟩
        rw [hkv] at ex1 ex2
        obtain rfl : kV kv.1 = x1 := Option.some.inj ex1
        obtain rfl : kv.2 = x2 := Option.some.inj ex2
        obtain ⟨ej, hej, hke, tj, lj, hv, htj, hlj⟩ := br12.at_ hkv
        rw [hke, hv]
        have hbW := bW ej (List.mem_of_getElem? hej)
        have hbL := bL ej (List.mem_of_getElem? hej)
        have htk : best.take (j + 1) = best.take j ++ [ej] := by rw [List.take_add_one, hej]; rfl
        obtain ⟨kj, cj, spj⟩ := ej
        have hbL : spj.length ≤ i + 1 := hbL
        have hbW : kj < W1.length + 1 := hbW
        rw [show kV (nk kj) = V.int kj from rfl]
        have s13 : Same H12 (upd H12 T9 (.tup [.int kj, .ref tj])) := same_upd nT9
        have eT9 : upd H12 T9 (.tup [.int kj, .ref tj]) T9 = some (.tup [.int kj, .ref tj]) := upd_same
        generalize upd H12 T9 (.tup [.int kj, .ref tj]) = H13 at s13 eT9
        refine ⟨T9, _, rfl, .inl (.inl eT9), rfl, _, _, rfl, _, _, rfl, ⟨tj, _, rfl, .inl (.inl (s13 _ _ htj)), rfl, _, _, rfl, _, _, rfl, rfl, rfl, ?_⟩⟩
        have s213 := s12'.trans s13
        refine ⟨_, rfl, _, rfl, _, rfl, _, rfl, p5, p6, D2, kj, pa, na, b, mb, ws, (a, n) :: W1, rfl, s13 _ _ gp12, s13 _ _ gq12, s213 _ _ e2, t2.mono s213, hpos, by simpa using hWl, by omega, fun D3 H14 ys nD3 s14 eD3 rf => ?_⟩
        refine ⟨D3, rfl, ⟨_, .inl (.inl eD3)⟩, ?_⟩
        have s15 := s13.trans s14
        have h0D3 : H12 D3 = none := by
          cases z : H12 D3 with
          | none => rfl
          | some o => rw [s13 _ _ z] at nD3; cases nD3
        have D3d2 : D3 ≠ d2 := fun z => by rw [z, ed212] at h0D3; cases h0D3
        refine for_it (walk_list (xs := ys)) (fun u σ H' => ∃ lbk lb y11 y12, σ = [some (.str (tx l)), some (.str (tx e)), some (.ref D1), some (.ref D2), some (.ref d), some (.ref p5), some (.ref p6), some (.ref d2), some (.int kj), some (.int cj), some (.ref lj), y11, y12] ∧ Same H2 H' ∧ H' Z = some (.lst (os.drop 1)) ∧ H' d = some (.frz od (.dK kvs)) ∧ BR H' kvs best ∧ H' p5 = some (.tup (fS (pa, na))) ∧ H' p6 = some (.tup (fS (b, mb))) ∧ H' D3 = some (.lst ys) ∧ RefsAt fP H' ys (costsFrom pa b mb ((a, n) :: W1) kj) ∧ H' lj = some (.lst (nls spj)) ∧ H' d2 = some (.dK lbk) ∧ BR H' lbk lb ∧ Keys lb ∧ (∀ x ∈ lb, x.1 < W1.length + 1) ∧ (∀ x ∈ lb, x.2.2.length ≤ i + 2) ∧ lb = ((costsFrom pa b mb ((a, n) :: W1) kj).take u).foldl (fun lb q => relax lb (q.1, cj + q.2, spj ++ [q.1])) ((best.take j).foldl (turn1 pa b mb ((a, n) :: W1)) []))
          ⟨lbk, lb, y11, y12, rfl, s213.trans s14, s15 _ _ eZ12, s15 _ _ ed12, br12.mono s15, s15 _ _ gp12, s15 _ _ gq12, eD3, rf, s15 _ _ hlj, s15 _ _ ed212, brl.mono s15, kl, lW, lL, hlb⟩ (fun u σ H' hu ⟨_, _, _, _, _, _, _, _, _, _, _, a1, _⟩ => .inl (.inl a1)) ?_ ?_
        · clear hlb brl kl lW lL ed212 s14 rf eD3 s15 s213 br12 gp12 gq12 eZ12 ed12 s12'
          rintro u x σ H16 H17 hu' ⟨lbk, lb, y11, y12, rfl, s16, eZ16, ed16, br16, gp16, gq16, eD16, rf16, lj16, ed216, brl, kl, lW, lL, hlb⟩ ⟨rfl, hx⟩
          obtain ⟨q1, hq1⟩ : ∃ q1, (costsFrom pa b mb ((a, n) :: W1) kj)[u]? = some q1 := ⟨_, List.getElem?_eq_getElem (by rw [← rf16.len]; exact hu')⟩
          obtain ⟨pt, hpt, ept⟩ := rf16.at_ u q1 hq1
          obtain rfl : V.ref pt = x := by rw [hpt] at hx; exact Option.some.inj hx
          have hqW : q1.1 < W1.length + 1 := by have := costs_lt q1 (List.mem_of_getElem? hq1); simpa using this
          have htk2 : (costsFrom pa b mb ((a, n) :: W1) kj).take (u + 1) = (costsFrom pa b mb ((a, n) :: W1) kj).take u ++ [q1] := by rw [List.take_add_one, hq1]; rfl
          obtain ⟨at_, more⟩ := q1
          rw [htk2, List.foldl_append, ← hlb]
          show _
          refine ⟨pt, _, rfl, .inl (.inl ept), rfl, _, _, rfl, _, _, rfl, rfl, ?_⟩
          have llen : lbk.length ≤ 1000 := by
            rw [brl.len]
            exact Nat.le_trans (keys_len kl lW) hWl
          have putit : ∀ (Ds : Ends) (σ : L2.St), σ = [some (.str (tx l)), some (.str (tx e)), some (.ref D1), some (.ref D2), some (.ref d), some (.ref p5), some (.ref p6), some (.ref d2), some (.int kj), some (.int cj), some (.ref lj), some (.int at_), some (.int more)] →
              (∀ H' lbk', Same H2 H' → H' Z = some (.lst (os.drop 1)) → H' d = some (.frz od (.dK kvs)) → BR H' kvs best → H' p5 = some (.tup (fS (pa, na))) → H' p6 = some (.tup (fS (b, mb))) → H' D3 = some (.lst ys) → RefsAt fP H' ys (costsFrom pa b mb ((a, n) :: W1) kj) → H' lj = some (.lst (nls spj)) → H' d2 = some (.dK lbk') → BR H' lbk' (put lb at_ (cj + more, spj ++ [at_])) → Ds.nx σ H') →
              sDPut (tVar 7) (tVar 11) (tTup (tCons (tOp (rI0 fun i j => .int (i + j)) (tVar 9) (tVar 12)) (tCons (tLst (StX.tStar K (tVar 10) (tCons (tVar 11) tNil))) tNil))) Ds σ H17 := by
            rintro Ds σ rfl k
            refine ⟨_, rfl, _, rfl, _, _, rfl, rfl, _, rfl, lj, nls spj, rfl, .inr (.inl (.inl lj16)), _, rfl, ?_, fun L9 nL9 => ?_⟩
            · rw [List.length_append, List.length_map]
              refine Nat.le_of_lt (small1000 ?_)
              simp
              omega
            · have t1 : Same H17 (upd H17 L9 (.lst (nls spj ++ [.int at_]))) := same_upd nL9
              have eL9 : upd H17 L9 (.lst (nls spj ++ [.int at_])) L9 = some (.lst (nls spj ++ [.int at_])) := upd_same
              generalize upd H17 L9 (.lst (nls spj ++ [.int at_])) = H18 at t1 eL9
              refine ⟨small1000 (by simp), fun T9 nT9 => ?_⟩
              have t2 : Same H17 (upd H18 T9 (.tup [.int ((cj : Int) + (more : Int)), .ref L9])) := t1.trans (same_upd nT9)
              have eL9 : upd H18 T9 (.tup [.int ((cj : Int) + (more : Int)), .ref L9]) L9 = some (.lst (nls spj ++ [.int at_])) := by rw [upd_ne (ne_of_none eL9 nT9)]; exact eL9
              have eT9 : upd H18 T9 (.tup [.int ((cj : Int) + (more : Int)), .ref L9]) T9 = some (.tup [.int ((cj : Int) + (more : Int)), .ref L9]) := upd_same
              generalize upd H18 T9 (.tup [.int ((cj : Int) + (more : Int)), .ref L9]) = H19 at t2 eL9 eT9
              have ed19 := t2 _ _ ed216
              have hx : EntAt H19 (.ref T9) (cj + more, spj ++ [at_]) := ⟨T9, L9, rfl, by rw [eT9]; rfl, by rw [eL9]; simp⟩
              have brp := (brl.mono t2).put (k := at_) hx
              refine ⟨_, rfl, _, rfl, d2, _, rfl, .inl ⟨lbk, nk at_, ed19, rfl, small1000 llen, rfl⟩, ?_⟩
              have n1 : ∀ xs, H19 d2 ≠ some (.lst xs) := fun xs z => by rw [ed19] at z; cases z
              have n2 : ∀ xs, H19 d2 ≠ some (.tup xs) := fun xs z => by rw [ed19] at z; cases z
              have ne : ∀ {b : Addr} {o : HO}, H17 b = some o → (∀ kv, o ≠ .dK kv) → upd H19 d2 (.dK (putK lbk (nk at_) (.ref T9))) b = some o := fun {b o} hb ho => by
                rw [upd_ne (fun z => by rw [z, ed216] at hb; cases hb; exact ho _ rfl)]
                exact t2 _ _ hb
              exact k _ _ (same_set (s16.trans t2) nd2') (ne eZ16 (fun _ z => nomatch z)) (ne ed16 (fun _ z => nomatch z)) ((br16.mono t2).upd n1 n2) (ne gp16 (fun _ z => nomatch z)) (ne gq16 (fun _ z => nomatch z)) (ne eD16 (fun _ z => nomatch z)) ⟨rf16.len, fun i t ht => by
                  obtain ⟨p, g1, g2⟩ := rf16.at_ i t ht
                  exact ⟨p, g1, ne g2 (fun _ z => nomatch z)⟩⟩ (ne lj16 (fun _ z => nomatch z)) upd_same (brp.upd n1 n2)
          refine ⟨_, rfl, _, rfl, d2, valV lbk (nk at_), rfl, .inl ⟨lbk, nk at_, .inl ed216, rfl, rfl⟩, _, rfl, ?_⟩
          have fin : ∀ lb', lb' = put lb at_ (cj + more, spj ++ [at_]) → Keys lb' ∧ (∀ x ∈ lb', x.1 < W1.length + 1) ∧ ∀ x ∈ lb', x.2.2.length ≤ i + 2 := by
            rintro lb' rfl
            refine ⟨put_keys kl, fun x hx => ?_, fun x hx => ?_⟩
            · rcases mem_put hx with ⟨h, _⟩ | h
              · exact lW x h
              · rw [h]; exact hqW
            · rcases mem_put hx with ⟨h, _⟩ | h
              · exact lL x h
              · rw [h]; simp; omega
          rcases brl.look at_ with ⟨z1, z2⟩ | ⟨v, xv, z1, z2, tv, lv, rfl, g1, g2⟩
          · rw [z2]
            refine iteT ?_
            refine iteT (putit _ _ rfl ?_)
            intro H' lbk' a1 a2 a3 a4 a5 a6 a7 a8 a9 a10 a11
            obtain ⟨f1, f2, f3⟩ := fin _ rfl
            refine ⟨lbk', _, _, _, rfl, a1, a2, a3, a4, a5, a6, a7, a8, a9, a10, a11, f1, f2, f3, ?_⟩
            show _ = relax lb (at_, cj + more, spj ++ [at_])
            unfold relax
            rw [z1]
          · rw [z2]
            refine iteF ?_
            refine ⟨_, rfl, _, rfl, _, _, rfl, rfl, _, rfl, _, rfl, d2, .ref tv, rfl, .inl ⟨lbk, nk at_, .inl ed216, rfl, z2.symm⟩, tv, _, 0, _, rfl, rfl, .inl (.inl g1), rfl, _, _, rfl, rfl, _, rfl, ?_⟩
            by_cases hlt : cj + more < v.1
            · refine iteD (by omega) (putit _ _ rfl ?_)
              intro H' lbk' a1 a2 a3 a4 a5 a6 a7 a8 a9 a10 a11
              obtain ⟨f1, f2, f3⟩ := fin _ rfl
              refine ⟨lbk', _, _, _, rfl, a1, a2, a3, a4, a5, a6, a7, a8, a9, a10, a11, f1, f2, f3, ?_⟩
              show _ = relax lb (at_, cj + more, spj ++ [at_])
              unfold relax
              rw [z1]
              exact (if_pos hlt).symm
            · refine iteDN (by omega) ?_
              refine ⟨lbk, lb, _, _, rfl, s16, eZ16, ed16, br16, gp16, gq16, eD16, rf16, lj16, ed216, brl, kl, lW, lL, ?_⟩
              show _ = relax lb (at_, cj + more, spj ++ [at_])
              unfold relax
              rw [z1]
              exact (if_neg hlt).symm
        · rintro σ H16 ⟨lbk, lb, y11, y12, rfl, s16, eZ16, ed16, br16, gp16, gq16, eD16, rf16, lj16, ed216, brl, kl, lW, lL, hlb⟩
          refine ⟨lbk, lb, _, _, _, _, _, rfl, s16, eZ16, ed16, br16, gp16, gq16, ed216, brl, kl, lW, lL, ?_⟩
          rw [htk, List.foldl_append, hlb, rf16.len, List.take_length]
          rfl
      · rintro σ H12 ⟨lbk, lb, y8, y9, y10, y11, y12, rfl, s12', eZ12, ed12, br12, gp12, gq12, ed212, brl, kl, lW, lL, hlb⟩
        refine ⟨ed12, _, rfl, ?_⟩
        have brl' : BR (upd H12 d (.dK kvs)) lbk lb := brl.upd (fun xs z => by rw [ed12] at z; cases z) (fun xs z => by rw [ed12] at z; cases z)
        refine ⟨d2, lbk, lb, (b, mb), _, _, _, _, _, _, _, _, rfl, same_set s12' nd8, nd2', d2Z, by rw [upd_ne (Ne.symm dZ)]; exact eZ12, by rw [upd_ne (Ne.symm dd2)]; exact ed212, brl', kl, lW, lL, hp1, ?_⟩
        rw [hst, hlb, List.take_of_length_le (Nat.le_of_eq br10.len.symm)]
        rfl
    · rintro σ H8 ⟨d, kvs, best, p, y5, y6, y7, y8, y9, y10, y11, y12, rfl, s8, nd8, dZ, eZ8, ed8, br8, kb, bW, bL, hp, hst⟩
      have hbest : bestOf ((a, m) :: E1) ((a, n) :: W1) = best := by
        rw [hst, List.drop_of_length_le (by simp)]
        rfl
      rw [est, wst, hbest] at hlk
      rcases br8.look W1.length with ⟨z, _⟩ | ⟨v, x, z1, z2, z3⟩
      · rw [show ((a, n) :: W1).length - 1 = W1.length from rfl, z] at hlk; cases hlk
      · rw [show ((a, n) :: W1).length - 1 = W1.length from rfl, z1] at hlk
        cases hlk
        obtain ⟨t, lp, rfl, g1, g2⟩ := z3
        refine ⟨_, rfl, _, rfl, D2, ws, rfl, .inl (.inl (.inl (s8 _ _ e2))), _, _, rfl, rfl, d, .ref t, rfl, .inl ⟨kvs, nk W1.length, .inl ed8, ?_, z2.symm⟩, t, _, 1, .ref lp, rfl, rfl, .inl (.inl g1), rfl, ?_⟩
        · show V.int ((ws.length : Int) - 1) = V.int (W1.length : Nat)
          rw [hwl]
          exact congrArg V.int (by omega)
        · exact q lp H8 (s12.trans s8) g2
end
end TW
set_option Elab.async false
set_option linter.all false
set_option maxRecDepth 100000
set_option maxHeartbeats 4000000
namespace TW
open PySem PySem.Spec PyProof.Rows L2
open Sem (wp)
/-! ### enumerate over a zip -/
/-- a zip: what it has handed out (v, f), its iterators (TI), its own pair (TO) -/
abbrev ZipO (h : Heap) (z TI TO : Addr) (v : Value) (f : Bool) : Prop :=
  h.get? z = some { cls := .type "zip", dict := none, data := .fields #[v, .bool f, .bool false, .ref TI, .ref TO], slots := #[] }
section
variable {prog : Program} {w : World} {A : Around} {E : Value → Shared → Prop} {s : Shared}
theorem nextOf_zip {z TI TO : Addr} {v : Value} {f : Bool} {Q : Value → Shared → Prop} (hz : ZipO s.heap z TI TO v f)
    (h : wpAny (model prog w) A.in1 (Builtin.«zip.__next__» ⟨[.ref z], []⟩) (fun fin s' => ∃ v, fin = .done (.ret v) ∧ Q v s') E s) : wpAny (model prog w) A (Builtin.SmallTypes.nextOf (.ref z)) Q E s := by
  have hT : s.TypeIs (.ref z) "zip" := ⟨_, hz, rfl⟩
  unfold Builtin.SmallTypes.nextOf
  refine wpAny_bind (wpAny_callSpecial?_slot (name := Str.ofString "__next__") hT F.slot_zip_next (wpAny_call_entry F.slot_zip_next hT F.entry_zip_next ?_ (F.args_zip_next_1 _)))
  exact thn h fun fin s' ⟨v, e, q⟩ => ⟨v, e, wpAny_pure q⟩
theorem alive_or {a : Addr} {Q : Option Obj → Shared → Prop} (h : Q (s.heap.get? a) s) : wpAny (model prog w) A (loadIfAlive a) Q E s := fun _ _ _ => h
/-- nothing of what it handed out lives -/
def ZipFree (prog : Program) (w : World) (z : Addr) (s : Shared) : Prop := ∀ (A : Around) (E : Value → Shared → Prop) (Q : Bool → Shared → Prop), Q true s → wpAny (model prog w) A (Builtin.SmallTypes.ownedTupleIsFree (.ref z)) Q E s
theorem zip_free_item {z TI TO i1 i2 l1 l2 : Addr} {k1 k2 : Nat} {xs ys : Array Value} {x y a b v : Value} {f : Bool} {Q : Value → Shared → Prop} (D : ZipApart z TI TO i1 i2 l1 l2)
    (hz : ZipO s.heap z TI TO v f) (fr : ZipFree prog w z s) (hTI : IsPair s.heap TI (.ref i1) (.ref i2)) (hTO : IsPair s.heap TO a b)
    (h1 : s.heap.IsListIter i1 l1 k1) (h2 : s.heap.IsListIter i2 l2 k2) (hl1 : s.heap.IsList l1 xs) (hl2 : s.heap.IsList l2 ys) (hx : xs[k1]? = some x) (hy : ys[k2]? = some y)
    (hQ : ∀ h', ZipO h' z TI TO (rawInt s.heap.objs.size) false → IsPair h' TO x y → h'.IsListIter i1 l1 (k1 + 1) → h'.IsListIter i2 l2 (k2 + 1) → IsPair h' s.heap.objs.size x y → h'.objs.size = s.heap.objs.size + 1 →
      (∀ c o, c ≠ z → c ≠ TO → c ≠ i1 → c ≠ i2 → s.heap.get? c = some o → h'.get? c = some o) → Q (.ref s.heap.objs.size) { s with heap := h' }) :
    wpAny (model prog w) A (Builtin.«zip.__next__» ⟨[.ref z], []⟩) (fun fin s' => ∃ v, fin = .done (.ret v) ∧ Q v s') E s := by
  show wpAny _ _ (field (.ref z) 2 >>= _) _ _ _
  refine wpAny_bind (wpAny_field hz rfl (x := .bool false) rfl ?_)
  show wpAny _ _ (field (.ref z) 3 >>= _) _ _ _
  refine wpAny_bind (wpAny_field hz rfl (x := .ref TI) rfl ?_)
  refine wpAny_bind (wpAny_seqItems hTI rfl ?_)
  show wpAny _ _ (Builtin.SmallTypes.ownedTupleIsFree (.ref z) >>= _) _ _ _
  refine wpAny_bind (fr _ _ _ ?_)
  simp only [if_true]
  refine wpAny_bind (wpAny_rule (wpAny_bind (wpAny_field hz rfl (x := .ref TO) rfl (wpAny_bind (wpAny_setField_rec hz (by simp) fun g1 z1 f1 => ?_)))))
  replace z1 : ZipO g1 z TI TO .ellipsis f := z1
  refine wpAny_bind ?_
  simp only [List.zipIdx_cons, List.zipIdx_nil, List.forIn_cons, List.forIn_nil]
  refine wpAny_bind (wpAny_bind (wpAny_onRaise ?_))
  show wpAny _ _ (Builtin.SmallTypes.nextOf (.ref i1) >>= _) _ _ _
  refine wpAny_bind (wpAny_nextOf_list_item (h1.extBut f1.extBut D.i1z) (hl1.extBut f1.extBut D.l1z) hx fun g2 h12 f2 => wpAny_pure ?_)
  have o2 : IsPair g2 TO a b := f2.extBut _ _ D.TOi1 (f1.extBut _ _ D.TOz hTO)
  refine wpAny_bind (wpAny_seqItems o2 rfl (wpAny_bind (wpAny_updateSeq_pair o2 fun g3 o3 f3 => ?_)))
  replace o3 : IsPair g3 TO x b := o3
  refine wpAny_bind (wpAny_letGo (wpAny_pure ?_))
  refine wpAny_bind (wpAny_bind (wpAny_onRaise ?_))
  show wpAny _ _ (Builtin.SmallTypes.nextOf (.ref i2) >>= _) _ _ _
  refine wpAny_bind (wpAny_nextOf_list_item (((h2.extBut f1.extBut D.i2z).extBut f2.extBut D.i12.symm).extBut f3.extBut D.TOi2.symm) (((hl2.extBut f1.extBut D.l2z).extBut f2.extBut D.l2i1).extBut f3.extBut D.l2TO) hy fun g4 h24 f4 => wpAny_pure ?_)
  have o4 : IsPair g4 TO x b := f4.extBut _ _ D.TOi2 o3
  refine wpAny_bind (wpAny_seqItems o4 rfl (wpAny_bind (wpAny_updateSeq_pair o4 fun g5 o5 f5 => ?_)))
  replace o5 : IsPair g5 TO x y := o5
  refine wpAny_bind (wpAny_letGo (wpAny_pure (wpAny_pure ?_)))
  refine wpAny_bind (wpAny_seqItems o5 rfl (wpAny_bind (wpAny_newTuple ?_)))
  have hsz : g5.objs.size = s.heap.objs.size := by rw [f5.1, f4.1, f3.1, f2.1, f1.1]
  have z5 : ZipO g5 z TI TO .ellipsis f := f5.extBut _ _ D.TOz.symm (f4.extBut _ _ D.i2z.symm (f3.extBut _ _ D.TOz.symm (f2.extBut _ _ D.i1z.symm z1)))
  have k5 : ∀ c o, c ≠ z → c ≠ TO → c ≠ i1 → c ≠ i2 → s.heap.get? c = some o → g5.get? c = some o := fun c o c1 c2 c3 c4 e => f5.extBut _ _ c2 (f4.extBut _ _ c4 (f3.extBut _ _ c2 (f2.extBut _ _ c3 (f1.extBut _ _ c1 e))))
  have h15 : g5.IsListIter i1 l1 (k1 + 1) := ((h12.extBut f3.extBut D.TOi1.symm).extBut f4.extBut D.i12).extBut f5.extBut D.TOi1.symm
  have h25 : g5.IsListIter i2 l2 (k2 + 1) := h24.extBut f5.extBut D.TOi2.symm
  have hzlt : z < g5.objs.size := Heap.lt_size z5
  show wpAny _ _ (Builtin.SmallTypes.ownedTupleHandOut (.ref z) (.ref g5.objs.size) >>= _) _ _ _
  refine wpAny_bind ?_
  unfold Builtin.SmallTypes.ownedTupleHandOut
  have z6 : ZipO (g5.push { cls := .type "tuple", data := .seq #[x, y] }) z TI TO .ellipsis f := Heap.get?_push_of_some _ z5
  refine wpAny_bind (wpAny_setField_rec z6 (by simp) fun g7 z7 f7 => ?_)
  replace z7 : ZipO g7 z TI TO (rawInt g5.objs.size) f := z7
  refine wpAny_setField_rec z7 (by simp) fun g8 z8 f8 => ?_
  replace z8 : ZipO g8 z TI TO (rawInt g5.objs.size) false := z8
  have up : ∀ c o, c ≠ z → g5.get? c = some o → g8.get? c = some o := fun c o c1 e => f8.extBut _ _ c1 (f7.extBut _ _ c1 (Heap.get?_push_of_some _ e))
  have hT8 : IsPair g8 g5.objs.size x y := f8.extBut _ _ (Nat.ne_of_gt hzlt) (f7.extBut _ _ (Nat.ne_of_gt hzlt) (Heap.get?_push_size _ rfl))
  have hz8 : g8.objs.size = g5.objs.size + 1 := by rw [f8.1, f7.1, Heap.size_push]
  rw [hsz] at z8 hT8 hz8
  refine wpAny_pure ⟨_, rfl, ?_⟩
  show Q (.ref g5.objs.size) _
  rw [hsz]
  exact hQ g8 z8 (up _ _ D.TOz o5) (h15.at fun o e => up _ o D.i1z e) (h25.at fun o e => up _ o D.i2z e) hT8 hz8 fun c o c1 c2 c3 c4 e => up c o c1 (k5 c o c1 c2 c3 c4 e)
theorem zip_free_end {z TI TO i1 i2 l1 l2 : Addr} {k1 k2 : Nat} {xs ys : Array Value} {a b v : Value} {f : Bool} {Q : Fin → Shared → Prop} (hh : A.handled = none) (D : ZipApart z TI TO i1 i2 l1 l2)
    (hz : ZipO s.heap z TI TO v f) (fr : ZipFree prog w z s) (hTI : IsPair s.heap TI (.ref i1) (.ref i2)) (hTO : IsPair s.heap TO a b)
    (h1 : s.heap.IsListIter i1 l1 k1) (h2 : s.heap.IsListIter i2 l2 k2) (hl1 : s.heap.IsList l1 xs) (hl2 : s.heap.IsList l2 ys) (hend : xs[k1]? = none ∨ ys[k2]? = none)
    (hE : ∀ h' e, (∀ c o, c ≠ z → c ≠ TO → c ≠ i1 → c ≠ i2 → s.heap.get? c = some o → h'.get? c = some o) → (∃ o, h'.get? e = some o ∧ o.cls = .type "StopIteration") → E (.ref e) { s with heap := h' }) :
    wpAny (model prog w) A (Builtin.«zip.__next__» ⟨[.ref z], []⟩) Q E s := by
  show wpAny _ _ (field (.ref z) 2 >>= _) _ _ _
  refine wpAny_bind (wpAny_field hz rfl (x := .bool false) rfl ?_)
  show wpAny _ _ (field (.ref z) 3 >>= _) _ _ _
  refine wpAny_bind (wpAny_field hz rfl (x := .ref TI) rfl ?_)
  refine wpAny_bind (wpAny_seqItems hTI rfl ?_)
  show wpAny _ _ (Builtin.SmallTypes.ownedTupleIsFree (.ref z) >>= _) _ _ _
  refine wpAny_bind (fr _ _ _ ?_)
  simp only [if_true]
  refine wpAny_bind (wpAny_rule (wpAny_bind (wpAny_field hz rfl (x := .ref TO) rfl (wpAny_bind (wpAny_setField_rec hz (by simp) fun g1 z1 f1 => ?_)))))
  replace z1 : ZipO g1 z TI TO .ellipsis f := z1
  refine wpAny_bind ?_
  simp only [List.zipIdx_cons, List.zipIdx_nil, List.forIn_cons, List.forIn_nil]
  refine wpAny_bind (wpAny_bind (wpAny_onRaise ?_))
  show wpAny _ _ (Builtin.SmallTypes.nextOf (.ref i1) >>= _) _ _ _
  cases hx : xs[k1]? with
  | none =>
    refine wpAny_bind (wpAny_nextOf_list_end hh (h1.extBut f1.extBut D.i1z) (hl1.extBut f1.extBut D.l1z) hx fun g2 e f2 he => ?_)
    obtain ⟨oe, hoe, hce⟩ := he
    have z2 : ZipO g2 z TI TO .ellipsis f := f2 _ _ D.i1z.symm z1
    have hez : e ≠ z := fun x => by subst x; rw [z2] at hoe; cases hoe; simp at hce
    refine wpAny_setField_rec z2 (by simp) fun g3 _ f3 => hE g3 e (fun c o c1 _ c3 _ x => f3.extBut _ _ c1 (f2 _ _ c3 (f1.extBut _ _ c1 x))) ⟨oe, f3.extBut _ _ hez hoe, hce⟩
  | some x =>
    have hy : ys[k2]? = none := by rcases hend with h | h; rw [hx] at h; cases h; exact h
    refine wpAny_bind (wpAny_nextOf_list_item (h1.extBut f1.extBut D.i1z) (hl1.extBut f1.extBut D.l1z) hx fun g2 h12 f2 => wpAny_pure ?_)
    have o2 : IsPair g2 TO a b := f2.extBut _ _ D.TOi1 (f1.extBut _ _ D.TOz hTO)
    refine wpAny_bind (wpAny_seqItems o2 rfl (wpAny_bind (wpAny_updateSeq_pair o2 fun g3 o3 f3 => ?_)))
    refine wpAny_bind (wpAny_letGo (wpAny_pure ?_))
    refine wpAny_bind (wpAny_bind (wpAny_onRaise ?_))
    show wpAny _ _ (Builtin.SmallTypes.nextOf (.ref i2) >>= _) _ _ _
    refine wpAny_bind (wpAny_nextOf_list_end hh (((h2.extBut f1.extBut D.i2z).extBut f2.extBut D.i12.symm).extBut f3.extBut D.TOi2.symm) (((hl2.extBut f1.extBut D.l2z).extBut f2.extBut D.l2i1).extBut f3.extBut D.l2TO) hy fun g4 e f4 he => ?_)
    obtain ⟨oe, hoe, hce⟩ := he
    have z4 : ZipO g4 z TI TO .ellipsis f := f4 _ _ D.i2z.symm (f3.extBut _ _ D.TOz.symm (f2.extBut _ _ D.i1z.symm z1))
    have hez : e ≠ z := fun x => by subst x; rw [z4] at hoe; cases hoe; simp at hce
    refine wpAny_setField_rec z4 (by simp) fun g5 _ f5 => hE g5 e (fun c o c1 c2 c3 c4 x => f5.extBut _ _ c1 (f4 _ _ c4 (f3.extBut _ _ c2 (f2.extBut _ _ c3 (f1.extBut _ _ c1 x))))) ⟨oe, f5.extBut _ _ hez hoe, hce⟩
/-- what a zip may have handed out -/
def Handed (v : Value) : Prop := v = .none ∨ ∃ T : Addr, v = rawInt (T : Nat)
theorem zip_cases {z TI TO : Addr} {v : Value} {f : Bool} (hz : ZipO s.heap z TI TO v f) (hv : Handed v) : ZipFree prog w z s ∨ ∃ T oT, v = rawInt (T : Nat) ∧ s.heap.get? T = some oT := by
  rcases hv with rfl | ⟨T, rfl⟩
  · refine .inl fun A E Q q => ?_
    unfold Builtin.SmallTypes.ownedTupleIsFree
    exact wpAny_bind (wpAny_field hz rfl (x := .none) rfl (wpAny_pure q))
  · cases hT : s.heap.get? T with
    | some oT => exact .inr ⟨T, oT, rfl, hT⟩
    | none =>
      refine .inl fun A E Q q => ?_
      unfold Builtin.SmallTypes.ownedTupleIsFree
      refine wpAny_bind (wpAny_field hz rfl (x := rawInt T) rfl ?_)
      show wpAny _ _ (loadIfAlive ((T : Int).toNat) >>= _) _ _ _
      rw [Int.toNat_natCast]
      refine wpAny_bind (alive_or ?_)
      rw [hT]
      simp only [Option.isNone_none, if_true]
      exact wpAny_pure q
theorem zip_any_item {z TI TO i1 i2 l1 l2 : Addr} {k1 k2 : Nat} {xs ys : Array Value} {x y a b v : Value} {f : Bool} {Q : Value → Shared → Prop} (D : ZipApart z TI TO i1 i2 l1 l2)
    (hz : ZipO s.heap z TI TO v f) (hv : Handed v) (hTI : IsPair s.heap TI (.ref i1) (.ref i2)) (hTO : IsPair s.heap TO a b)
    (h1 : s.heap.IsListIter i1 l1 k1) (h2 : s.heap.IsListIter i2 l2 k2) (hl1 : s.heap.IsList l1 xs) (hl2 : s.heap.IsList l2 ys) (hx : xs[k1]? = some x) (hy : ys[k2]? = some y)
    (hQ : ∀ h', (∃ v f, ZipO h' z TI TO v f ∧ Handed v) → (∃ a b, IsPair h' TO a b) → h'.IsListIter i1 l1 (k1 + 1) → h'.IsListIter i2 l2 (k2 + 1) → IsPair h' s.heap.objs.size x y → h'.objs.size = s.heap.objs.size + 1 →
      (∀ c o, c ≠ z → c ≠ TO → c ≠ i1 → c ≠ i2 → s.heap.get? c = some o → h'.get? c = some o) → Q (.ref s.heap.objs.size) { s with heap := h' }) :
    wpAny (model prog w) A (Builtin.SmallTypes.nextOf (.ref z)) Q E s := by
  refine nextOf_zip hz ?_
  rcases zip_cases (prog := prog) (w := w) hz hv with fr | ⟨T, oT, rfl, hT⟩
  · exact zip_free_item D hz fr hTI hTO h1 h2 hl1 hl2 hx hy fun h' a1 a2 a3 a4 a5 a6 a7 => hQ h' ⟨_, _, a1, .inr ⟨_, rfl⟩⟩ ⟨_, _, a2⟩ a3 a4 a5 a6 a7
  · exact PySem.zip_next_item_held D hz hT hTI h1 h2 hl1 hl2 hx hy fun h' a1 a3 a4 a5 a6 a7 => hQ h' ⟨_, _, a1, .inr ⟨_, rfl⟩⟩ ⟨_, _, a7 _ _ D.TOz D.TOi1 D.TOi2 hTO⟩ a3 a4 a5 a6 fun c o c1 _ c3 c4 e => a7 c o c1 c3 c4 e
theorem zip_any_end {z TI TO i1 i2 l1 l2 : Addr} {k1 k2 : Nat} {xs ys : Array Value} {a b v : Value} {f : Bool} {Q : Value → Shared → Prop} (hh : A.handled = none) (D : ZipApart z TI TO i1 i2 l1 l2)
    (hz : ZipO s.heap z TI TO v f) (hv : Handed v) (hTI : IsPair s.heap TI (.ref i1) (.ref i2)) (hTO : IsPair s.heap TO a b)
    (h1 : s.heap.IsListIter i1 l1 k1) (h2 : s.heap.IsListIter i2 l2 k2) (hl1 : s.heap.IsList l1 xs) (hl2 : s.heap.IsList l2 ys) (hend : xs[k1]? = none ∨ ys[k2]? = none)
    (hE : ∀ h' e, (∀ c o, c ≠ z → c ≠ TO → c ≠ i1 → c ≠ i2 → s.heap.get? c = some o → h'.get? c = some o) → (∃ o, h'.get? e = some o ∧ o.cls = .type "StopIteration") → E (.ref e) { s with heap := h' }) :
    wpAny (model prog w) A (Builtin.SmallTypes.nextOf (.ref z)) Q E s := by
  refine nextOf_zip hz ?_
  rcases zip_cases (prog := prog) (w := w) hz hv with fr | ⟨T, oT, rfl, hT⟩
  · exact zip_free_end hh D hz fr hTI hTO h1 h2 hl1 hl2 hend hE
  · exact PySem.zip_next_end_held hh D hz hT hTI h1 h2 hl1 hl2 hend fun h' e k he => hE h' e (fun c o c1 _ c3 c4 x => k c o c1 c3 c4 x) he
end
end TW
set_option Elab.async false
set_option linter.all false
set_option maxRecDepth 100000
set_option maxHeartbeats 4000000
namespace TW
open PySem PySem.Spec PyProof.Rows L2
open Sem (wp)
section
variable {prog : Program} {w : World} {A : Around} {E : Value → Shared → Prop} {s : Shared}
/-- one step of an enumerate, whatever its iterator does to the heap beside it -/
theorem enum_any_item {e it : Addr} {c : Int} {old : Value} {R : Value → Heap → Prop} {Q : Value → Shared → Prop} (he : IsEnum s.heap e it c old)
    (step : ∀ (Q1 E1 : Value → Shared → Prop), (∀ x h1, R x h1 → IsEnum h1 e it c old → Q1 x { s with heap := h1 }) → wpAny (model prog w) A (Builtin.SmallTypes.nextOf (.ref it)) Q1 E1 s)
    (hQ : ∀ x h1 h' tk, R x h1 → IsEnumOut h' e it (c + 1) x h1.objs.size → h'.get? h1.objs.size = some { cls := .type "tuple", data := .seq #[.int c tk, x] } → h'.objs.size = h1.objs.size + 1 → (∀ b o, b ≠ e → h1.get? b = some o → h'.get? b = some o) → Q (.ref h1.objs.size) { s with heap := h', toks := tk + 1 }) :
    wpAny (model prog w) A (Builtin.«enumerate.__next__» ⟨[.ref e], []⟩) (fun fin s' => ∃ v, fin = .done (.ret v) ∧ Q v s') E s := by
  obtain ⟨hp, g, d, tk, os⟩ := s
  show wpAny _ _ (field (.ref e) 2 >>= _) _ _ _
  refine wpAny_bind (wpAny_field he rfl (x := .ref it) rfl ?_)
  refine wpAny_bind (step _ _ fun x h1 hR e1 => ?_)
  show wpAny _ _ (field (.ref e) 3 >>= _) _ _ ⟨h1, g, d, tk, os⟩
  refine wpAny_bind (wpAny_field e1 rfl (x := rawInt c) rfl ?_)
  show wpAny _ _ (field (.ref e) 4 >>= _) _ _ ⟨h1, g, d, tk, os⟩
  refine wpAny_bind (wpAny_field e1 rfl (x := .none) rfl ?_)
  show wpAny _ _ (mkInt c >>= _) _ _ ⟨h1, g, d, tk, os⟩
  refine wpAny_bind (wpAny_mkInt ?_)
  show wpAny _ _ (setField (.ref e) 3 (rawInt (c + 1)) >>= _) _ _ ⟨h1, g, d, tk + 1, os⟩
  refine wpAny_bind (wpAny_setField_rec e1 (by simp) fun h2 e2 s2 => ?_)
  replace s2 : Heap.SameBut e h1 h2 := s2
  replace e2 : IsEnum h2 e it (c + 1) old := e2
  show wpAny _ _ (setField (.ref e) 4 .none >>= _) _ _ ⟨h2, g, d, tk + 1, os⟩
  refine wpAny_bind (wpAny_setField_rec e2 (by simp) fun h3 e3 s3 => ?_)
  replace s3 : Heap.SameBut e h2 h3 := s3
  replace e3 : IsEnum h3 e it (c + 1) old := e3
  show wpAny _ _ (newTuple [.int c tk, x] >>= _) _ _ ⟨h3, g, d, tk + 1, os⟩
  refine wpAny_bind (wpAny_newTuple ?_)
  have e4 : IsEnum (h3.push { cls := .type "tuple", data := .seq #[.int c tk, x] }) e it (c + 1) old := Heap.get?_push_of_some _ e3
  have hsz : h3.objs.size = h1.objs.size := by rw [s3.1, s2.1]
  have hel : e < h1.objs.size := Heap.lt_size e1
  have t4 : (h3.push { cls := .type "tuple", data := .seq #[.int c tk, x] }).get? h1.objs.size = some { cls := .type "tuple", data := .seq #[.int c tk, x] } := by rw [← hsz]; exact Heap.get?_push_size _ rfl
  have z4 : (h3.push { cls := .type "tuple", data := .seq #[.int c tk, x] }).objs.size = h1.objs.size + 1 := by rw [Heap.size_push, hsz]
  have k4 : ∀ b o, b ≠ e → h1.get? b = some o → (h3.push { cls := .type "tuple", data := .seq #[.int c tk, x] }).get? b = some o := fun b o hb x => Heap.get?_push_of_some _ (s3.extBut b o hb (s2.extBut b o hb x))
  generalize h3.push { cls := .type "tuple", data := .seq #[.int c tk, x] } = h4 at e4 t4 z4 k4
  show wpAny _ _ (Builtin.SmallTypes.ownedTupleIsFree (.ref e) >>= _) _ _ ⟨h4, g, d, tk + 1, os⟩
  rw [hsz]
  refine wpAny_bind ?_
  unfold Builtin.SmallTypes.ownedTupleIsFree
  refine wpAny_bind (wpAny_field e4 rfl (x := .none) rfl (wpAny_pure ?_))
  simp only [if_true]
  refine wpAny_bind (wpAny_rule (wpAny_bind (wpAny_field e4 rfl (x := old) rfl (wpAny_bind (wpAny_setField_rec e4 (by simp) fun h5 e5 s5 => ?_)))))
  replace s5 : Heap.SameBut e h4 h5 := s5
  replace e5 : IsEnum h5 e it (c + 1) x := e5
  show wpAny _ _ (Builtin.SmallTypes.ownedTupleHandOut (.ref e) (.ref h1.objs.size) >>= _) _ _ ⟨h5, g, d, tk + 1, os⟩
  refine wpAny_bind ?_
  unfold Builtin.SmallTypes.ownedTupleHandOut
  refine wpAny_bind (wpAny_setField_rec e5 (by simp) fun h6 e6 s6 => ?_)
  replace s6 : Heap.SameBut e h5 h6 := s6
  replace e6 : IsEnumOut h6 e it (c + 1) x h1.objs.size := e6
  refine wpAny_setField_rec e6 (by simp) fun h7 e7 s7 => ?_
  replace s7 : Heap.SameBut e h6 h7 := s7
  replace e7 : IsEnumOut h7 e it (c + 1) x h1.objs.size := e7
  have up : ∀ b o, b ≠ e → h4.get? b = some o → h7.get? b = some o := fun b o hb x => s7.extBut b o hb (s6.extBut b o hb (s5.extBut b o hb x))
  refine wpAny_bind (wpAny_letGo (wpAny_pure ⟨_, rfl, hQ x h1 h7 tk hR e7 (up _ _ (Nat.ne_of_gt hel) t4) ?_ fun b o hb y => up b o hb (k4 b o hb y)⟩))
  rw [s7.1, s6.1, s5.1, z4]
theorem pyNext_enum_any {e it : Addr} {c : Int} {old : Value} {R : Value → Heap → Prop} {Q : Option Value → Shared → Prop} (he : IsEnum s.heap e it c old)
    (step : ∀ (Q1 E1 : Value → Shared → Prop), (∀ x h1, R x h1 → IsEnum h1 e it c old → Q1 x { s with heap := h1 }) → wpAny (model prog w) A.in1 (Builtin.SmallTypes.nextOf (.ref it)) Q1 E1 s)
    (hQ : ∀ x h1 h' tk, R x h1 → IsEnumOut h' e it (c + 1) x h1.objs.size → h'.get? h1.objs.size = some { cls := .type "tuple", data := .seq #[.int c tk, x] } → h'.objs.size = h1.objs.size + 1 → (∀ b o, b ≠ e → h1.get? b = some o → h'.get? b = some o) → Q (some (.ref h1.objs.size)) { s with heap := h', toks := tk + 1 }) :
    wpAny (model prog w) A (pyNext (.ref e)) Q E s := by
  have hT : s.TypeIs (.ref e) "enumerate" := ⟨_, he, rfl⟩
  unfold pyNext
  refine wpAny_bind (wpAny_attempt (wpAny_callSpecial?_slot (name := Str.ofString "__next__") hT F.slot_enumerate_next (wpAny_call_entry F.slot_enumerate_next hT F.entry_enumerate_next ?_ (F.args_enumerate_next_1 _))))
  exact enum_any_item he step fun x h1 h' tk a b c d k => wpAny_pure (hQ x h1 h' tk a b c d k)
theorem pyNext_enum_done {e it : Addr} {c : Int} {old : Value} {K : Heap → Prop} {Q : Option Value → Shared → Prop} (he : IsEnum s.heap e it c old)
    (step : ∀ (Q1 : Value → Shared → Prop) (E1 : Value → Shared → Prop), (∀ h1 x, K h1 → (∃ o, h1.get? x = some o ∧ o.cls = .type "StopIteration") → E1 (.ref x) { s with heap := h1 }) → wpAny (model prog w) A.in1 (Builtin.SmallTypes.nextOf (.ref it)) Q1 E1 s)
    (hQ : ∀ h1, K h1 → Q none { s with heap := h1 }) : wpAny (model prog w) A (pyNext (.ref e)) Q E s := by
  have hT : s.TypeIs (.ref e) "enumerate" := ⟨_, he, rfl⟩
  unfold pyNext
  refine wpAny_bind (wpAny_attempt (wpAny_callSpecial?_slot (name := Str.ofString "__next__") hT F.slot_enumerate_next (wpAny_call_entry F.slot_enumerate_next hT F.entry_enumerate_next ?_ (F.args_enumerate_next_1 _))))
  show wpAny _ _ (field (.ref e) 2 >>= _) _ _ _
  refine wpAny_bind (wpAny_field he rfl (x := .ref it) rfl ?_)
  refine wpAny_bind (step _ _ fun h1 x k hx => ?_)
  obtain ⟨o, ho, hc⟩ := hx
  refine wpAny_bind (wpAny_isInstance (T := "StopIteration") (b := true) ⟨o, ho, hc⟩ isSubtype_stop ?_)
  exact wpAny_pure (hQ _ k)
set_option maxHeartbeats 8000000 in
theorem meets_enum_zip (z TI TO : Addr) :
    Meets (Builtin.«enumerate.__new__» ⟨[.type "enumerate", .ref z], []⟩) (fun _ R s => IsZip s.heap z TI TO .none ∧
      R (.ok (.ret (.ref s.heap.objs.size))) { s with heap := s.heap.push { cls := .type "enumerate", data := .fields #[.none, .bool false, .ref z, rawInt 0, .none, .none] } }) :=
  .of_wp fun prog w A R s h => by
    obtain ⟨hp, g, d, tk, os⟩ := s; obtain ⟨hz, h⟩ := h
    have hsub := sub_enumerate
    have q1 : ∀ {A' : Around} {E : Value → Shared → Prop} {Q : Value → Shared → Prop}, Q (.ref z) ⟨hp, g, d, tk, os⟩ → wpAny (model prog w) A' (pyIter (.ref z)) Q E ⟨hp, g, d, tk, os⟩ :=
      fun q => wpAny_pyIter_zip (s := ⟨hp, g, d, tk, os⟩) hz q
    wp_walk using q1
    refine wpAny_stack_any fun st => wpAny_pure ?_
    split
    · rename_i c _ _ _ _ _
      cases (c == Value.type "enumerate")
      · wp_walk using q1
        exact ⟨_, rfl, h⟩
      · wp_walk using q1
        exact ⟨_, rfl, h⟩
    · wp_walk using q1
      exact ⟨_, rfl, h⟩
theorem call_enum_zip {z TI TO : Addr} {Q : Value → Shared → Prop} (hz : IsZip s.heap z TI TO .none)
    (h : ∀ h', IsEnum h' s.heap.objs.size z 0 .none → h'.objs.size = s.heap.objs.size + 1 → (∀ b o, s.heap.get? b = some o → h'.get? b = some o) → Q (.ref s.heap.objs.size) { s with heap := h' }) :
    wpAny (model prog w) A (call (.type "enumerate") [.ref z]) Q E s := by
  refine callType_new F.called_enumerate (by decide) (F.typeCall_enumerate_1 _) (F.newCall_enumerate_1 _) (fun obj => F.args_object_init_2 obj _) F.entry_enumerate_new (meets_enum_zip z TI TO) ⟨hz, ?_⟩
  have he : IsEnum (s.heap.push { cls := .type "enumerate", data := .fields #[.none, .bool false, .ref z, rawInt 0, .none, .none] }) s.heap.objs.size z 0 .none := Heap.get?_push_size _ rfl
  exact ⟨⟨_, he, rfl⟩, h _ he (Heap.size_push ..) fun b o x => Heap.get?_push_of_some _ x⟩
end
/-- the pairs of the lists at a and b, each in a new pair that stands in a new pair with its number -/
def ItEz (K : PySem.W.Frag) (a b : Addr) : It :=
  ⟨fun i H => ∃ (xs ys : List V) (x y : V), SqL K H a xs ∧ SqL K H b ys ∧ xs[i]? = some x ∧ ys[i]? = some y,
   fun i H v H' => ∃ T T1 x y, v = .ref T ∧ H T1 = none ∧ H T = none ∧ T ≠ T1 ∧ H' = upd (upd H T1 (.tup [x, y])) T (.tup [.int (i : Nat), .ref T1]) ∧ (∀ xs, SqL K H a xs → xs[i]? = some x) ∧ ∀ ys, SqL K H b ys → ys[i]? = some y,
   fun i H => ∃ xs ys : List V, SqL K H a xs ∧ SqL K H b ys ∧ (xs.length ≤ i ∨ ys.length ≤ i)⟩
theorem sq_eq {X : Cx} {pins : List (Addr × Obj)} {σ : L2.St} {H : Hp} {s : Shared} (I : Inv X pins σ H s) {a : Addr} {xs l : List V} (h : SqL X.K H a xs) (h2 : SqL X.K H a l) : l = xs := I.list_inj h2 h
theorem turn_enumZip {P : Program} {w : World} {K : PySem.W.Frag} {es : List Expr} {kk : Nat} {tp : Pos} {a b e z TI TO i1 i2 : Addr} (D : ZipApart z TI TO i1 i2 a b) (ez : e ≠ z) (eTI : e ≠ TI) (eTO : e ≠ TO) (e1 : e ≠ i1) (e2 : e ≠ i2) :
    Turn P w K (.Tuple es kk tp) (ItEz K a b) [e, z, TI, TO, i1, i2] e (fun i h => (∃ old, IsEnum h e z ((i : Nat) : Int) old) ∧ (∃ v f, ZipO h z TI TO v f ∧ Handed v) ∧ IsPair h TI (.ref i1) (.ref i2) ∧ (∃ x y, IsPair h TO x y) ∧ h.IsListIter i1 a i ∧ h.IsListIter i2 b i) where
  mem := List.mem_cons_self ..
  obj := fun i h st c hc => by
    obtain ⟨⟨old, he⟩, ⟨v, f, hz, _⟩, hTI, ⟨x, y, hTO⟩, ⟨o1, q1, _, d1⟩, ⟨o2, q2, _, d2⟩⟩ := st
    have e' : c = e ∨ c = z ∨ c = TI ∨ c = TO ∨ c = i1 ∨ c = i2 := by simpa using hc
    rcases e' with q | q | q | q | q | q
    · rw [q]; exact ⟨_, he, fun v q => nomatch q⟩
    · rw [q]; exact ⟨_, hz, fun v q => nomatch q⟩
    · rw [q]; exact ⟨_, hTI, fun v q => nomatch q⟩
    · rw [q]; exact ⟨_, hTO, fun v q => nomatch q⟩
    · rw [q]; exact ⟨o1, q1, fun v q => by rw [d1] at q; cases q⟩
    · rw [q]; exact ⟨o2, q2, fun v q => by rw [d2] at q; cases q⟩
  keep := fun i h h' st k => by
    obtain ⟨⟨old, he⟩, ⟨v, f, hz, hv⟩, hTI, ⟨x, y, hTO⟩, h1, h2⟩ := st
    exact ⟨⟨old, k e (by simp) _ he⟩, ⟨v, f, k z (by simp) _ hz, hv⟩, k TI (by simp) _ hTI, ⟨x, y, k TO (by simp) _ hTO⟩, h1.at fun o q => k i1 (by simp) o q, h2.at fun o q => k i2 (by simp) o q⟩
  item := by
    intro X hP hw hK hc i pins s σ H E I hf st hg
    subst hP; subst hw; subst hK
    obtain ⟨⟨old, he⟩, ⟨v, f, hz, hv⟩, hTI, ⟨x0, y0, hTO⟩, h1, h2⟩ := st
    obtain ⟨xs, ys, x, y, hqx, hqy, hx, hy⟩ := hg
    obtain ⟨its, rv, p, _⟩ := I.list hqx
    obtain ⟨its2, rv2, p2, _⟩ := I.list hqy
    obtain ⟨u, hu, ru⟩ := rv.get hx
    obtain ⟨u2, hu2, ru2⟩ := rv2.get hy
    have lts : ∀ c ∈ [e, z, TI, TO, i1, i2], c < s.heap.objs.size := fun c hcm => by
      have e' : c = e ∨ c = z ∨ c = TI ∨ c = TO ∨ c = i1 ∨ c = i2 := by simpa using hcm
      rcases e' with q | q | q | q | q | q
      · rw [q]; exact Heap.lt_size he
      · rw [q]; exact Heap.lt_size hz
      · rw [q]; exact Heap.lt_size hTI
      · rw [q]; exact Heap.lt_size hTO
      · rw [q]; obtain ⟨_, q1, _⟩ := h1; exact Heap.lt_size q1
      · rw [q]; obtain ⟨_, q2, _⟩ := h2; exact Heap.lt_size q2
    have hel := lts e (by simp)
    refine pyNext_enum_any he (R := fun vx h' => vx = .ref s.heap.objs.size ∧ (∃ v f, ZipO h' z TI TO v f ∧ Handed v) ∧ (∃ a b, IsPair h' TO a b) ∧ h'.IsListIter i1 a (i + 1) ∧ h'.IsListIter i2 b (i + 1) ∧ IsPair h' s.heap.objs.size u u2 ∧ h'.objs.size = s.heap.objs.size + 1 ∧ (∀ c o, c ≠ z → c ≠ TO → c ≠ i1 → c ≠ i2 → s.heap.get? c = some o → h'.get? c = some o)) (fun Q1 E1 k => ?_) ?_
    · refine zip_any_item D hz hv hTI hTO h1 h2 p.isList p2.isList (x := u) (y := u2) (by simpa using hu) (by simpa using hu2) fun h' a1 a2 a3 a4 a5 a6 a7 => k _ h' ⟨rfl, a1, a2, a3, a4, a5, a6, a7⟩ (a7 _ _ ez eTO e1 e2 he)
    · rintro vx g1 g2 tk ⟨rfl, ⟨v', f', z1, hv'⟩, ⟨c1, c2, t1⟩, l1, l2, hp1, hz1, k1⟩ ho hT hsz k2
      refine ⟨_, rfl, wpAny_letOwnedTupleGo_enum (s := { s with heap := g2, toks := tk + 1 }) ho fun g3 he' sb => ?_⟩
      have nw1 : ObjOk X.prog X.w (upd H s.heap.objs.size (.tup [x, y])) g1 s.heap.objs.size (.tup [x, y]) :=
        ⟨by show 2 ≤ sizeLine; exact small1000 (by omega), [u, u2], .cons ru (.cons ru2 .nil), ⟨_, hp1, rfl, _, rfl⟩⟩
      have I1 : Inv X pins σ (upd H s.heap.objs.size (.tup [x, y])) { s with heap := g1 } :=
        I.turnedNew (t' := s.toks) (ch := [e, z, TI, TO, i1, i2]) (fun c o hb q => k1 c o (fun q' => hb (by simp [q'])) (fun q' => hb (by simp [q'])) (fun q' => hb (by simp [q'])) (fun q' => hb (by simp [q'])) q) hf (Nat.le_refl _) nw1
      have neT : ∀ c ∈ [e, z, TI, TO, i1, i2], c ≠ s.heap.objs.size := fun c hcm => Nat.ne_of_lt (lts c hcm)
      have fe : FpOk X pins (upd H s.heap.objs.size (.tup [x, y])) e := by
        obtain ⟨f0, f1⟩ := hf e (by simp)
        exact ⟨by rw [upd_ne (neT e (by simp))]; exact f0, f1⟩
      have hT3 : g3.get? g1.objs.size = some { cls := .type "tuple", data := .seq #[.int i tk, .ref s.heap.objs.size] } := (sb.2 _ (by rw [hz1]; exact Nat.ne_of_gt (Nat.lt_succ_of_lt hel))).trans hT
      have nw2 : ObjOk X.prog X.w (upd (upd H s.heap.objs.size (.tup [x, y])) g1.objs.size (.tup [.int (i : Nat), .ref s.heap.objs.size])) g3 g1.objs.size (.tup [.int (i : Nat), .ref s.heap.objs.size]) :=
        ⟨by show 2 ≤ sizeLine; exact small1000 (by omega), [.int i tk, .ref s.heap.objs.size], .cons ⟨_, rfl⟩ (.cons rfl .nil), ⟨_, hT3, rfl, _, rfl⟩⟩
      have kk : ∀ c o, c ≠ e → g1.get? c = some o → g3.get? c = some o := fun c o hce q => (sb.2 c hce).trans (k2 c o hce q)
      have I2 : Inv X pins σ (upd (upd H s.heap.objs.size (.tup [x, y])) g1.objs.size (.tup [.int (i : Nat), .ref s.heap.objs.size])) { s with heap := g3, toks := tk + 1 } :=
        I1.turnedNew (t' := tk + 1) (ch := [e]) (fun c o hb q => kk c o (by simpa using hb) q) (fun c hcm => by rw [List.mem_singleton.mp hcm]; exact fe) (Nat.le_refl _) nw2
      refine ⟨.ref g1.objs.size, _, I2, rfl, ⟨g1.objs.size, s.heap.objs.size, x, y, rfl, I.hok.fresh (Nat.le_refl _), I.hok.fresh (by rw [hz1]; exact Nat.le_succ _), by rw [hz1]; exact Nat.succ_ne_self _, rfl, fun l hl => by rw [sq_eq I hqx hl]; exact hx, fun l hl => by rw [sq_eq I hqy hl]; exact hy⟩, ⟨⟨_, by rw [show ((i + 1 : Nat) : Int) = (i : Int) + 1 by omega]; exact he'⟩, ⟨v', f', kk _ _ (Ne.symm ez) z1, hv'⟩, ?_, ⟨c1, c2, kk _ _ (Ne.symm eTO) t1⟩, ?_, ?_⟩, fun c hcm => ?_⟩
      · exact kk _ _ (Ne.symm eTI) (k1 _ _ D.TIz D.TITO D.TIi1 D.TIi2 hTI)
      · exact l1.at fun o q => kk _ _ (Ne.symm e1) q
      · exact l2.at fun o q => kk _ _ (Ne.symm e2) q
      · rw [upd_ne (by rw [hz1]; exact Nat.ne_of_lt (Nat.lt_succ_of_lt (lts c hcm))), upd_ne (neT c hcm)]
        exact (hf c hcm).1
  done := by
    intro X hP hw hK hc i pins s σ H E I hf st hg
    subst hP; subst hw; subst hK
    obtain ⟨⟨old, he⟩, ⟨v, f, hz, hv⟩, hTI, ⟨x0, y0, hTO⟩, h1, h2⟩ := st
    obtain ⟨xs, ys, hqx, hqy, hend⟩ := hg
    obtain ⟨its, rv, p, _⟩ := I.list hqx
    obtain ⟨its2, rv2, p2, _⟩ := I.list hqy
    have q1 := rv.length
    have q2 := rv2.length
    have hn : its.toArray[i]? = none ∨ its2.toArray[i]? = none := by
      rcases hend with q | q
      · exact .inl (by simp; omega)
      · exact .inr (by simp; omega)
    refine pyNext_enum_done he (K := fun h' => ∀ c o, c ≠ z → c ≠ TO → c ≠ i1 → c ≠ i2 → s.heap.get? c = some o → h'.get? c = some o) (fun Q1 E1 k => ?_) fun h' hk => ⟨rfl, I.turnedL (t' := s.toks) (ch := [e, z, TI, TO, i1, i2]) (fun c o hb q =>
      hk c o (fun q' => hb (by simp [q'])) (fun q' => hb (by simp [q'])) (fun q' => hb (by simp [q'])) (fun q' => hb (by simp [q'])) q) hf⟩
    exact zip_any_end (I.ok.hd hc) D hz hv hTI hTO h1 h2 p.isList p2.isList hn fun h' x a b => k h' x a b
  self := fun A i s Q E st h => by
    obtain ⟨⟨_, he⟩, _⟩ := st
    exact wpAny_pyIter_enum he h
theorem walk_enumZip {K : PySem.W.Frag} {a b : Addr} {xs ys : List V} {n : Nat} (hn : n = min xs.length ys.length) : Walk (ItEz K a b) n (fun H => SqL K H a xs ∧ SqL K H b ys)
    (fun i H v H' => ∃ T T1 x y, v = .ref T ∧ H T1 = none ∧ H T = none ∧ T ≠ T1 ∧ H' = upd (upd H T1 (.tup [x, y])) T (.tup [.int (i : Nat), .ref T1]) ∧ xs[i]? = some x ∧ ys[i]? = some y) := by
  subst hn
  refine ⟨fun i H hi h => ?_, fun H h => ⟨xs, ys, h.1, h.2, ?_⟩, fun i H v H' hi h ⟨T, T1, x, y, a1, a2, a3, a4, a5, a6, a7⟩ => ⟨T, T1, x, y, a1, a2, a3, a4, a5, a6 _ h.1, a7 _ h.2⟩⟩
  · have : i < xs.length ∧ i < ys.length := by omega
    exact ⟨xs, ys, xs[i], ys[i], h.1, h.2, List.getElem?_eq_getElem this.1, List.getElem?_eq_getElem this.2⟩
  · omega
def iEnumZip (K : PySem.W.Frag) (ta : TA) : TI := fun σ H R => ta σ H fun vs H1 => ∃ a b xs ys, vs = [.ref a, .ref b] ∧ SqL K H1 a xs ∧ SqL K H1 b ys ∧ R (ItEz K a b) H1
theorem pi_enumZip {X : Cx} {e e2 : Expr} {ta : TA} {p p2 pos pos2 tpos : Pos} {es : List Expr} {kk : Nat} (hg : Gl X "enumerate") (hm : X.mg "enumerate" = none) (hgz : Gl X "zip") (hmz : X.mg "zip" = none) (ha : PA X [e, e2] ta)
    (hs : starEach [e, e2] X.env = (false, eval e X.env) :: starEach [e2] X.env := by rfl) (hpl : (backTo pos2 (starEach [e2] X.env)).any (·.1) = false := by rfl)
    (hs2 : starEach [.Call (.Name "zip" p2) [e, e2] [] pos2] X.env = [(false, eval (.Call (.Name "zip" p2) [e, e2] [] pos2) X.env)] := by rfl) :
    PI X (.Tuple es kk tpos) (.Call (.Name "enumerate" p) [.Call (.Name "zip" p2) [e, e2] [] pos2] [] pos) (iEnumZip X.K ta) := by
  constructor
  intro pins s σ H R I h
  refine Call_ (ld_blt I hg hm boot_enumerate (PyProof.Rows.callWith_type1 ?_ hs2 rfl))
  rw [hs2]
  show wpAny _ _ (spliced [(false, _)]) _ _ s
  refine Calls.spliced_cons ?_
  refine Call_ (ld_blt I hgz hmz PyProof.Rows.boot_zip (PyProof.Rows.callWith_type1 (thn (ha.run pos2 pins s σ H _ I h) ?_) hs hpl))
  rintro us s1 ⟨vs, H1, I1, r1, a, b, xs, ys, rfl, hqx, hqy, q⟩
  obtain rfl : us = [.ref a, .ref b] := by
    cases r1 with
    | cons r rr =>
      cases rr with
      | cons r' rr =>
        cases rr
        cases r
        cases r'
        rfl
  obtain ⟨its, rv, p1, _⟩ := I1.list hqx
  obtain ⟨its2, rv2, p2, _⟩ := I1.list hqy
  have la : a < s1.heap.objs.size := p1.lt
  have lb : b < s1.heap.objs.size := p2.lt
  refine call_zip_2 p1.isList p2.isList fun h' hz hTI hTO h1 h2 hsz hk => Calls.spliced_nil ?_
  refine call_enum_zip (s := { s1 with heap := h' }) hz fun h'' he hsz2 hk2 => wpAny_pyIter_enum he ?_
  have I2 : Inv X pins σ H1 { s1 with heap := h'' } := I1.kept (t' := s1.toks) fun c o x => hk2 c o (hk c o x)
  replace hsz2 : h''.objs.size = h'.objs.size + 1 := hsz2
  have D := PySem.W.ktu_apart s1.heap.objs.size a b la lb
  have ne : ∀ j : Nat, j < 5 → h'.objs.size ≠ s1.heap.objs.size + j := fun j hj => by rw [hsz]; intro z; have z : s1.heap.objs.size + 5 = s1.heap.objs.size + j := z; omega
  refine ⟨h'.objs.size, [h'.objs.size, s1.heap.objs.size + 4, s1.heap.objs.size + 2, s1.heap.objs.size + 3, s1.heap.objs.size, s1.heap.objs.size + 1], _, _, H1, rfl, I2, turn_enumZip D (ne 4 (by omega)) (ne 2 (by omega)) (ne 3 (by omega)) (ne 0 (by omega)) (ne 1 (by omega)), ⟨⟨.none, he⟩, ⟨_, _, hk2 _ _ hz, .inl rfl⟩, hk2 _ _ hTI, ⟨_, _, hk2 _ _ hTO⟩, h1.at fun o x => hk2 _ _ x, h2.at fun o x => hk2 _ _ x⟩, fun c hcm => ?_, q⟩
  have e' : c = h'.objs.size ∨ c = s1.heap.objs.size + 4 ∨ c = s1.heap.objs.size + 2 ∨ c = s1.heap.objs.size + 3 ∨ c = s1.heap.objs.size ∨ c = s1.heap.objs.size + 1 := by simpa using hcm
  have hle : s1.heap.objs.size ≤ c := by
    rcases e' with z | z | z | z | z | z
    · rw [z, hsz]; exact Nat.le_add_right _ _
    · rw [z]; exact Nat.le_add_right _ _
    · rw [z]; exact Nat.le_add_right _ _
    · rw [z]; exact Nat.le_add_right _ _
    · rw [z]; exact Nat.le_refl _
    · rw [z]; exact Nat.le_add_right _ _
  exact I1.fpOk hle (I1.hok.fresh hle)
end TW
set_option Elab.async false
set_option linter.all false
set_option maxRecDepth 100000
set_option maxHeartbeats 4000000
namespace TW
open PySem PySem.Spec PyProof.Rows L2
/-- all but F stay -/
def But (F : Addr) (H H' : Hp) : Prop := ∀ b o, b ≠ F → H b = some o → H' b = some o
theorem But.refl (F : Addr) (H : Hp) : But F H H := fun _ _ _ e => e
theorem But.trans {F : Addr} {H H' H'' : Hp} (a : But F H H') (b : But F H' H'') : But F H H'' := fun c o n e => b c o n (a c o n e)
theorem But.same {F : Addr} {H H' : Hp} (a : Same H H') : But F H H' := fun c o _ e => a c o e
theorem But.set {F : Addr} {H : Hp} {o : HO} : But F H (upd H F o) := fun c x n e => by rw [upd_ne n]; exact e
theorem But.get {F : Addr} {H H' : Hp} (a : But F H H') {b : Addr} {o : HO} (n : b ≠ F) (e : H b = some o) : H' b = some o := a b o n e
theorem But.to_same {F : Addr} {H H' H'' : Hp} (s : Same H H') (a : But F H' H'') (hF : H F = none) : Same H H'' := fun b o e => a b o (ne_of_none e hF) (s b o e)
theorem But.refs {α : Type} {f : α → List V} {F : Addr} {H H' : Hp} {xs : List V} {W : List α} (a : But F H H') (h : RefsAt f H xs W) {ys : List V} (hF : H F = some (.lst ys)) : RefsAt f H' xs W :=
  ⟨h.len, fun i t ht => by
    obtain ⟨p, e1, e2⟩ := h.at_ i t ht
    exact ⟨p, e1, a p _ (fun z => by rw [z, hF] at e2; cases e2) e2⟩⟩
/-- the comprehension that takes the numbers out of stretches -/
theorem lc_counts {K : PySem.W.Frag} {a b : Nat} {vs : List Nat} {σ : L2.St} {H1 : Hp} {D Zx : Addr} {xs : List V} {W : List S} {Qd : Hp → Prop} (hz : H1 Zx = some (.lst xs)) (ta : TupsAt H1 xs W) (nD : H1 D = none) (hW : W.length ≤ 1000)
    (hw : ∀ x y, wipe (((wipe σ vs).set a (some x)).set b (some y)) vs = wipe σ vs) (hb : ∀ x y, (((wipe σ vs).set a (some x)).set b (some y))[b]? = some (some y))
    (hd : ∀ H', Same H1 H' → H' D = some (.lst (nls (W.map (·.2)))) → Qd H') :
    ∃ Wf : Nat → Nat → Hp → Prop, (∃ m, Wf 0 m (upd H1 D (.lst []))) ∧ ∀ i m H, Wf i m H →
      ((Itl K Zx).stop i H ∧ Qd H) ∨ ((Itl K Zx).go i H ∧ ∃ Nx : Hp → Prop, (∀ H', Nx H' → ∃ m', m' < m ∧ Wf (i + 1) m' H') ∧ ∀ x H', (Itl K Zx).yld i H x H' → gTup K 2 (gCons (gName a) (gCons (gName b) gNil)) x (wipe σ vs) H' fun σ2 H2 => wipe σ2 vs = wipe σ vs ∧ tYes σ2 H2 fun bb H3 =>
        if bb = true then tVar b σ2 H3 fun y H4 => ∃ acc, H4 D = some (.lst acc) ∧ acc.length < sizeLine ∧ Nx (upd H4 D (.lst (acc ++ [y]))) else Nx H3) := by
  refine lc_it (walk_list (xs := xs)) (fun i H' => Same H1 H' ∧ H' D = some (.lst (nls ((W.map (·.2)).take i)))) ⟨same_upd nD, by rw [upd_same]; rfl⟩ (fun i H' hi h => .inl (.inl (h.1 _ _ hz))) ?_ ?_
  · rintro i x H2 H3 hi ⟨s1, e1⟩ ⟨rfl, hx⟩
    have hiW : i < W.length := by rw [← ta.len]; exact hi
    obtain ⟨p, g1, g2⟩ := ta.at_ i W[i] (List.getElem?_eq_getElem hiW)
    obtain rfl : V.ref p = x := by rw [g1] at hx; exact Option.some.inj hx
    refine ⟨p, _, rfl, .inl (.inl (s1 _ _ g2)), rfl, _, _, rfl, _, _, rfl, rfl, hw _ _, ?_⟩
    refine ⟨_, hb _ _, _, e1, ?_, ?_, ?_⟩
    · rw [List.length_map, List.length_take]
      exact small1000 (by omega)
    · exact same_set s1 nD
    · rw [upd_same, List.take_add_one]
      rw [List.getElem?_map, List.getElem?_eq_getElem hiW]
      simp
  · rintro H2 ⟨s1, e1⟩
    refine hd H2 s1 ?_
    rw [e1, List.take_of_length_le (by rw [List.length_map, ta.len]; exact Nat.le_refl _)]
theorem ex_alt_len : ∀ (n x y : Nat), (ex (altL x y n)).length = n
  | 0, _, _ => rfl
  | n + 1, x, y => by simp [altL, ex, ex_alt_len n]
theorem ifAnd_read {t u : TT} {σ : L2.St} {H : Hp} {Q : VK} {p q : Prop} [Decidable p] [Decidable q] (ha : ∀ Q' : Bool → Hp → Prop, Q' (decide p) H → t σ H Q') (hb : ∀ Q' : Bool → Hp → Prop, Q' (decide q) H → u σ H Q')
    (h : Q (.int ((if p ∧ q then 2 else 1 : Nat) : Int)) H) : tIf (tAnd t u) (tC (.int 2)) (tC (.int 1)) σ H Q := by
  refine ha _ ?_
  by_cases hp : p
  · rw [decide_eq_true hp]
    refine iteT (hb _ ?_)
    by_cases hq : q
    · rw [decide_eq_true hq]
      rw [if_pos ⟨hp, hq⟩] at h
      exact iteT h
    · rw [decide_eq_false hq]
      rw [if_neg (fun z => hq z.2)] at h
      exact iteF h
  · rw [decide_eq_false hp]
    rw [if_neg (fun z => hp z.1)] at h
    exact iteF (iteF h)
theorem grs_take_le : ∀ (j : Nat) (A B : List S), grs (A.take j) (B.take j) ≤ grs A B
  | 0, A, B => by simp [grs]
  | j + 1, [], B => by simp [grs]
  | j + 1, (a, m) :: A, [] => by simp [grs]
  | j + 1, (a, m) :: A, (b, n) :: B => by
    have := grs_take_le j A B
    simp only [List.take_succ_cons, grs]
    omega
theorem length_le_ex {s : S} : ∀ (W : List S), s ∈ W → s.2 ≤ (ex W).length
  | t :: W, h => by
    obtain ⟨a, n⟩ := t
    simp only [ex, List.length_append, List.length_replicate]
    rcases List.mem_cons.mp h with rfl | h
    · exact Nat.le_add_right _ _
    · have := length_le_ex W h
      omega
theorem nls_ints (L : List Nat) : nls L = List.map V.int (L.map fun (n : Nat) => (n : Int)) := by rw [List.map_map]; rfl
theorem sum_cast : ∀ L : List Nat, (L.map fun (n : Nat) => (n : Int)).sum = (L.sum : Nat)
  | [] => rfl
  | n :: L => by simp [sum_cast L]
abbrev s_fewest_of : Stmt := topS 20
def N_fewest_of : List Str := ["later", "elder", "spots", "here", "found", "number", "near", "far", "sign", "many", "place", "turn", "own", "long", "other"]
theorem sc_fewest_of : FnScope N_fewest_of ["later", "elder"] (C8.fnScope s_fewest_of) := C8.fnScope_by (by decide +kernel)
def sp_fewest_of : Sp := fun vs H Q _ => ∃ w e : List Nat, vs = [.str (tx w), .str (tx e)] ∧ w.length ≤ 1000 ∧ Lo w ∧ Lo e ∧ R e w ∧ ∀ D H' ys, Same H H' → H' D = some (.lst ys) → ys.length = fewest e w → Q (.ref D) H'
section
variable {P : Program} {w : World} {K : PySem.W.Frag} {mg : Str → Option Value} {base : Heap}
theorem c_fewest_of (G : Glb K mg) (c_copied_of : C8.Cal P w K mg base 1 "copied_of" sp_copied_of []) (c_stretches : C8.Cal P w K mg base 1 "stretches" sp_stretches []) (c_spots_of : C8.Cal P w K mg base 3 "spots_of" sp_spots_of []) (D : DefAt K mg "fewest_of" s_fewest_of) : C8.Cal P w K mg base 4 "fewest_of" sp_fewest_of [] := by
  refine cal_of D sc_fewest_of (fun _ _ _ _ _ _ us hl => match us, hl with | [_, _], _ => rfl) (fun vs H Q E h => ?_) (fun f cdv A outer s H vs Q E hr h => ?_)
  · obtain ⟨l, e, rfl, _⟩ := h; rfl
  · obtain ⟨l, e, rfl, hl, lo1, lo2, hR, q⟩ := h
    refine ⟨_, (pss_cons (ps_if (pt_cmpR op_eq (pv 1) pe_str (nomark _)) (pss_one (ps_ret (pe_lst pa_nil))) pss_nil)
  (pss_cons (ps_par3 (i := 2) (j := 3) (l := 4) (by rfl) sc_fewest_of.nd rfl rfl rfl (by decide) (by decide) (by decide) rfl rfl rfl (pa_cons (C8.pe_c c_spots_of hr (by decide) rfl (pa_cons (pv 0) (pa_cons (pv 1) pa_nil))) (pa_cons (pv 1) (pa_cons (pe_lst pa_nil) pa_nil))) (by rfl))
  (pss_cons (ps_for PassesOwn.never rfl (pi_enumZip rfl G.enumerate rfl G.zip (pa_cons (pv 2) (pa_cons (pe_slice sl_list (pv 2) (po_some pe_int) po_none) pa_nil))) (pg_tup rfl (pgs_cons (pg_name (i := 5) sc_fewest_of.nd rfl (Or.inl rfl)) (pgs_cons (pg_tup rfl (pgs_cons (pg_name (i := 6) sc_fewest_of.nd rfl (Or.inl rfl)) (pgs_cons (pg_name (i := 7) sc_fewest_of.nd rfl (Or.inl rfl)) pgs_nil))) pgs_nil)))
  (pss_cons (ps_set (i := 10) sc_fewest_of.nd rfl (Or.inl rfl) (pe_op op_sub (pe_callB (cr_sum rfl) rfl G.sum (by decide +kernel) (pa_cons (pe_lc (own := [("sign", 8), ("many", 9)]) (g := gTup K 2 (gCons (gName 8) (gCons (gName 9) gNil))) (tt := tYes) rfl sc_fewest_of.nd (pi_list (pe_slice sl_list (C8.pe_c c_stretches hr (by decide) rfl (pa_cons (pv 3) pa_nil)) po_none (po_some (pe_op op_add (pv 6) pe_int)))) (blkOk_by (own := [("sign", 8), ("many", 9)]) (N := N_fewest_of) (sc := C8.fnScope s_fewest_of) (by decide +kernel)) (fun _ _ _ _ _ => pg_tup rfl (pgs_cons (pg_name (i := 8) sc_fewest_of.nd rfl (Or.inl rfl)) (pgs_cons (pg_name (i := 9) sc_fewest_of.nd rfl (Or.inl rfl)) pgs_nil))) (fun _ _ _ _ _ => pts_nil) (fun _ _ _ _ _ => (pv 9))) pa_nil)) pe_int))
  (pss_one (ps_for PassesOwn.never rfl (pi_range1 rfl G.range (pa_cons (pe_op op_fdiv (pe_op op_sub (pv 7) (pv 6)) pe_int) pa_nil)) (pg_name (i := 11) sc_fewest_of.nd rfl (Or.inl rfl))
  (pss_cons (ps_expr (pe_bm PySem.F.plainAttrs_list PySem.F.slot_list_append PySem.F.type_list_append mt_append (pv 4) (pa_cons (pe_tup (pa_cons (pv 10) (pa_cons pe_int pa_nil))) pa_nil)))
  (pss_one (ps_set (i := 3) sc_fewest_of.nd rfl (Or.inl rfl) (C8.pe_c c_copied_of hr (by decide) rfl (pa_cons (pv 3) (pa_cons pe_int (pa_cons (pv 10) pa_nil)))))))))))
  (pss_cons (ps_for PassesOwn.never rfl (pi_enum rfl G.enumerate (pa_cons (C8.pe_c c_stretches hr (by decide) rfl (pa_cons (pv 0) pa_nil)) pa_nil)) (pg_tup rfl (pgs_cons (pg_name (i := 5) sc_fewest_of.nd rfl (Or.inl rfl)) (pgs_cons (pg_tup rfl (pgs_cons (pg_name (i := 8) sc_fewest_of.nd rfl (Or.inl rfl)) (pgs_cons (pg_name (i := 9) sc_fewest_of.nd rfl (Or.inl rfl)) pgs_nil))) pgs_nil)))
  (pss_cons (ps_set (i := 10) sc_fewest_of.nd rfl (Or.inl rfl) (pe_callB (cr_sum rfl) rfl G.sum (by decide +kernel) (pa_cons (pe_lc (own := [("other", 14), ("own", 12)]) (g := gTup K 2 (gCons (gName 14) (gCons (gName 12) gNil))) (tt := tYes) rfl sc_fewest_of.nd (pi_list (pe_slice sl_list (C8.pe_c c_stretches hr (by decide) rfl (pa_cons (pv 0) pa_nil)) po_none (po_some (pv 5)))) (blkOk_by (own := [("other", 14), ("own", 12)]) (N := N_fewest_of) (sc := C8.fnScope s_fewest_of) (by decide +kernel)) (fun _ _ _ _ _ => pg_tup rfl (pgs_cons (pg_name (i := 14) sc_fewest_of.nd rfl (Or.inl rfl)) (pgs_cons (pg_name (i := 12) sc_fewest_of.nd rfl (Or.inl rfl)) pgs_nil))) (fun _ _ _ _ _ => pts_nil) (fun _ _ _ _ _ => (pv 12))) pa_nil)))
  (pss_cons (ps_set (i := 12) sc_fewest_of.nd rfl (Or.inl rfl) (pe_ix ix_tup (pe_ix ix_list (C8.pe_c c_stretches hr (by decide) rfl (pa_cons (pv 3) pa_nil)) (pv 5) (fun _ _ => rfl)) pe_int (fun _ _ => rfl)))
  (pss_one (ps_while PassesOwn.never (pt_cmpR op_lt (pv 12) (pv 9) (nomark _))
  (pss_cons (ps_set (i := 13) sc_fewest_of.nd rfl (Or.inl rfl) (pe_ifExp (PW.pt (pw_and (pt_cmpR op_gt (pv 12) pe_int (nomark _)) (pw_and1 (pt_cmpR op_gt (pe_op op_sub (pv 9) (pv 12)) pe_int (nomark _))))) pe_int pe_int))
  (pss_cons (ps_expr (pe_bm PySem.F.plainAttrs_list PySem.F.slot_list_append PySem.F.type_list_append mt_append (pv 4) (pa_cons (pe_tup (pa_cons (pv 10) (pa_cons (pv 13) pa_nil))) pa_nil)))
  (pss_cons (ps_set (i := 3) sc_fewest_of.nd rfl (Or.inl rfl) (C8.pe_c c_copied_of hr (by decide) rfl (pa_cons (pv 3) (pa_cons (pv 13) (pa_cons (pv 10) pa_nil)))))
  (pss_one (ps_set (i := 12) sc_fewest_of.nd rfl (Or.inl rfl) (pe_op op_add (pv 12) (pv 13))))))))))))
  (pss_one (ps_ret (pv 4))))))), ?_⟩
    refine ⟨_, rfl, rfl, _, rfl, ?_⟩
    by_cases he0 : e = []
    · subst he0
      refine iteT ?_
      exact ⟨Nat.zero_le _, fun p np => q p _ [] (same_upd np) upd_same rfl⟩
    refine iteDN (fun z => he0 (tx_inj (b := []) (V.str.inj z))) ?_
    obtain ⟨C, hM⟩ : ∃ C, M (st e) (st l) C := by
      obtain ⟨n, h⟩ := hR
      obtain ⟨C, _, hM⟩ := M.of_St h he0
      exact ⟨C, hM⟩
    obtain ⟨c, sp, hL, hD⟩ := last_R hR he0
    have hfew : fewest e l = c := TW.D.unique (fewest_D hR) hD
    obtain ⟨S1, Gc, hmix, hpw, hc⟩ := hL.mix
    obtain ⟨Fs, Gf, Q1⟩ := hmix.seq
    have hlook := hL.look
    have hel : e.length ≤ 1000 := by
      obtain ⟨n, h⟩ := hR
      have := h.len
      omega
    obtain ⟨a, m, n, E1, W1, est, wst, hmn⟩ : ∃ a m n E1 W1, st e = (a, m) :: E1 ∧ st l = (a, n) :: W1 ∧ m ≤ n := by
      generalize st e = x at hM
      generalize st l = y at hM
      cases hM with
      | mk h _ => exact ⟨_, _, _, _, _, rfl, rfl, h⟩
    refine ⟨_, rfl, _, rfl, l, e, a, m, n, E1, W1, c, sp, rfl, hl, hel, lo1, lo2, est, wst, hmn, hlook, fun Dsp H1 s1 esp => ?_⟩
    refine ⟨_, rfl, Nat.zero_le _, fun F nF => ?_⟩
    refine ⟨_, _, _, rfl, ?_⟩
    have s2 : Same H (upd H1 F (.lst [])) := s1.trans (same_upd nF)
    have hF : H F = none := by
      cases z : H F with
      | none => rfl
      | some o => rw [s1 _ _ z] at nF; cases nF
    have nDF : Dsp ≠ F := ne_of_none esp nF
    have esp : upd H1 F (.lst []) Dsp = some (.lst (nls sp)) := by rw [upd_ne nDF]; exact esp
    have eF : upd H1 F (.lst []) F = some (.lst []) := upd_same
    generalize upd H1 F (.lst []) = H2 at s2 esp eF
    refine ⟨_, rfl, _, rfl, _, rfl, Dsp, nls sp, rfl, .inl (.inl esp), fun Z nZ => ?_⟩
    have hcut : cutV (nls sp) (some 1) none = (nls sp).drop 1 := cutV_from _ 1
    rw [hcut]
    have nZF : Z ≠ F := fun z => by rw [z, eF] at nZ; cases nZ
    have s3 : Same H (upd H2 Z (.lst ((nls sp).drop 1))) := s2.trans (same_upd nZ)
    have esp3 : upd H2 Z (.lst ((nls sp).drop 1)) Dsp = some (.lst (nls sp)) := by rw [upd_ne (ne_of_none esp nZ)]; exact esp
    have eF3 : upd H2 Z (.lst ((nls sp).drop 1)) F = some (.lst []) := by rw [upd_ne (ne_of_none eF nZ)]; exact eF
    have eZ3 : upd H2 Z (.lst ((nls sp).drop 1)) Z = some (.lst ((nls sp).drop 1)) := upd_same
    generalize upd H2 Z (.lst ((nls sp).drop 1)) = H3 at s3 esp3 eF3 eZ3
    refine ⟨Dsp, Z, nls sp, (nls sp).drop 1, rfl, .inl (.inl esp3), .inl (.inl eZ3), ?_⟩
    have hspl : sp.length = (st e).length := Q1.len
    have hown : 1 ≤ (st e).length := by rw [est]; simp
    have prO := st_pr e
    have loO := st_lo lo2
    have S1len : (ex S1).length ≤ l.length := by have := pw_ex_len hpw; rwa [ex_st] at this
    have S1pos : ∀ p ∈ S1, 1 ≤ p.2 := hmix.pos prO.all
    have hclen : c ≤ 1000 := by
      obtain ⟨hst, _⟩ := hD
      have := hst.len
      omega
    refine for_it (walk_enumZip (n := (st e).length - 1) (by simp [hspl])) (fun i σ H' => ∃ y5 y6 y7 y8 y9 y10 y11 y12 y13 y14 ys, σ = [some (.str (tx l)), some (.str (tx e)), some (.ref Dsp), some (.str (tx (ex (Fs i ++ (st e).drop (i + 1))))), some (.ref F), y5, y6, y7, y8, y9, y10, y11, y12, y13, y14] ∧ But F H3 H' ∧ H' F = some (.lst ys) ∧ ys.length = Gf i)
      ⟨none, none, none, none, none, none, none, none, none, none, [], ?_, But.refl _ _, eF3, ?_⟩ (fun i σ H' hi ⟨_, _, _, _, _, _, _, _, _, _, _, _, a1, _, _⟩ => ⟨.inl (.inl (a1 _ _ nDF esp3)), .inl (.inl (a1 _ _ nZF eZ3))⟩) ?_ ?_
    · obtain ⟨p, g1, g2, _⟩ := Q1.h0
      have : Fs 0 ++ (st e).drop (0 + 1) = st e := by
        rw [g2, est] at *
        simp at g1
        rw [← g1]
        rfl
      rw [this, ex_st]
      rfl
    · obtain ⟨p, g1, g2, g3, _⟩ := Q1.h0
      exact g3.symm
    · rintro i x σ H4 H5 hi ⟨y5, y6, y7, y8, y9, y10, y11, y12, y13, y14, ys, rfl, b4, eF4, hys⟩ ⟨T, T1, x1, x2, rfl, nT1, nT, hTT, rfl, hx1, hx2⟩
      obtain ⟨U, a', n', b, mb, g, f1, f2, f3, f4, f5, f6, f7⟩ := Q1.hs i (by omega)
      obtain ⟨hpr, hgood⟩ := Q1.good prO loO i (by omega)
      have hlen1 := Q1.len_le ((st e).length - 1 - i) i (by omega)
      have hlen2 := Q1.len_le ((st e).length - 1 - (i + 1)) (i + 1) (by omega)
      obtain rfl : V.int (U.length : Nat) = x1 := by
        have hx1 : (nls sp)[i]? = some x1 := hx1
        rw [List.getElem?_map, f3] at hx1
        exact Option.some.inj hx1
      obtain rfl : V.int (U.length + 2 * g + 1 : Nat) = x2 := by
        have hx2 : ((nls sp).drop 1)[i]? = some x2 := hx2
        rw [List.getElem?_drop, show 1 + i = i + 1 by omega, List.getElem?_map, f5] at hx2
        exact Option.some.inj hx2
      have b5 : But F H3 (upd (upd H4 T1 (.tup [.int (U.length : Nat), .int (U.length + 2 * g + 1 : Nat)])) T (.tup [.int (i : Nat), .ref T1])) := b4.trans (But.same fun b o hb => by rw [upd_ne (ne_of_none hb nT), upd_ne (ne_of_none hb nT1)]; exact hb)
      have eF5 : upd (upd H4 T1 (.tup [.int (U.length : Nat), .int (U.length + 2 * g + 1 : Nat)])) T (.tup [.int (i : Nat), .ref T1]) F = some (.lst ys) := by rw [upd_ne (ne_of_none eF4 nT), upd_ne (ne_of_none eF4 nT1)]; exact eF4
      have eT5 : upd (upd H4 T1 (.tup [.int (U.length : Nat), .int (U.length + 2 * g + 1 : Nat)])) T (.tup [.int (i : Nat), .ref T1]) T = some (.tup [.int (i : Nat), .ref T1]) := upd_same
      have eT15 : upd (upd H4 T1 (.tup [.int (U.length : Nat), .int (U.length + 2 * g + 1 : Nat)])) T (.tup [.int (i : Nat), .ref T1]) T1 = some (.tup [.int (U.length : Nat), .int (U.length + 2 * g + 1 : Nat)]) := by rw [upd_ne (Ne.symm hTT), upd_same]
      generalize upd (upd H4 T1 (.tup [.int (U.length : Nat), .int (U.length + 2 * g + 1 : Nat)])) T (.tup [.int (i : Nat), .ref T1]) = H5 at b5 eF5 eT5 eT15
      refine ⟨T, _, rfl, .inl (.inl eT5), rfl, _, _, rfl, _, _, rfl, ⟨T1, _, rfl, .inl (.inl eT15), rfl, _, _, rfl, _, _, rfl, rfl, rfl, ?_⟩⟩
      have hhl : (ex (Fs i ++ (st e).drop (i + 1))).length ≤ 1000 := by omega
      have hletters : ∀ s ∈ Fs i ++ (st e).drop (i + 1), s.1 < 1114112 := fun s hs => by
        rcases List.mem_append.mp hs with hs | hs
        · exact (hgood s hs).1
        · exact loO s (List.mem_of_mem_drop hs)
      refine ⟨_, rfl, _, rfl, hhl, lo_ex hletters, fun Dx H6 xs nDx s6 eDx tx6 => ?_⟩
      rw [st_ex hpr] at tx6
      refine ⟨_, rfl, _, _, rfl, rfl, _, rfl, Dx, xs, rfl, .inl (.inl eDx), fun Zx nZx => ?_⟩
      have hFl : (Fs i).length = U.length + 1 := by rw [f1]; simp
      have hcx : cutV xs none (some ((U.length : Int) + 1)) = xs.take (U.length + 1) := by
        rw [show ((U.length : Int) + 1) = ((U.length + 1 : Nat) : Int) by omega]; exact cutV_to xs _
      rw [hcx]
      have tx7 : TupsAt (upd H6 Zx (.lst (xs.take (U.length + 1)))) (xs.take (U.length + 1)) (Fs i) := by
        have := (tx6.take (U.length + 1)).mono (same_upd (o := .lst (xs.take (U.length + 1))) nZx)
        have hT : (Fs i ++ (st e).drop (i + 1)).take (U.length + 1) = Fs i := by rw [List.take_append_of_le_length (by omega), List.take_of_length_le (by omega)]
        rwa [hT] at this
      have s7 : Same H5 (upd H6 Zx (.lst (xs.take (U.length + 1)))) := s6.trans (same_upd nZx)
      have eZx : upd H6 Zx (.lst (xs.take (U.length + 1))) Zx = some (.lst (xs.take (U.length + 1))) := upd_same
      generalize upd H6 Zx (.lst (xs.take (U.length + 1))) = H7 at tx7 s7 eZx
      refine ⟨Zx, rfl, ⟨_, .inl (.inl eZx)⟩, fun Dl nDl => lc_counts eZx tx7 nDl ?_ (fun _ _ => rfl) (fun _ _ => rfl) fun H8 s8 eDl => ?_⟩
      · have h1 : (Fs i).length ≤ (ex (Fs i ++ (st e).drop (i + 1))).length := by
          have : (Fs i).length ≤ (st (ex (Fs i ++ (st e).drop (i + 1)))).length := by rw [st_ex hpr, List.length_append]; exact Nat.le_add_right _ _
          exact Nat.le_trans this (st_len _)
        omega
      refine ⟨Dl, (((Fs i).map (·.2)).map fun (n : Nat) => (n : Int)), rfl, .inl (.inl (by rw [← nls_ints]; exact eDl)), ?_⟩
      refine ⟨_, _, rfl, rfl, ?_⟩
      rw [sum_cast, sum_len]
      have b8 : But F H3 H8 := b5.trans (But.same (s7.trans s8))
      have eF8 : H8 F = some (.lst ys) := (s7.trans s8) _ _ eF5
      have hUpos : 1 ≤ (ex (Fs i)).length := by
        have hm : (a', n') ∈ Fs i := by rw [f1]; simp
        exact List.length_pos_of_mem (mem_ex hm (hgood _ hm).2)
      refine gN ?_
      have hown2 : (st e).drop (i + 1) = (b, mb) :: (st e).drop (i + 1 + 1) := by
        have hlt : i + 1 < (st e).length := by omega
        rw [List.drop_eq_getElem_cons hlt]
        rw [List.getElem?_eq_getElem hlt] at f4
        rw [Option.some.inj f4]
      have hLg : (ex (Fs i ++ (st e).drop (i + 1))).length + 2 * g ≤ 1000 := by
        have : (ex (Fs (i + 1) ++ (st e).drop (i + 1 + 1))).length = (ex (Fs i ++ (st e).drop (i + 1))).length + 2 * g := by
          rw [f6, hown2]
          simp only [ex_append, List.length_append, ex, List.length_replicate, ex_alt_len]
          simp only [List.length_nil]
          omega
        omega
      refine ⟨_, rfl, _, rfl, _, _, rfl, rfl, _, _, rfl, rfl, ⟨by decide, by decide⟩, _, rfl, by omega, by omega, ?_⟩
      have hg : ((((U.length + 2 * g + 1 : Nat) : Int) - (U.length : Nat)) / 2).toNat = g := by omega
      rw [hg]
      have hn' : 1 ≤ n' := (hgood (a', n') (by rw [f1]; simp)).2
      have hmb : 1 ≤ mb := prO.all (b, mb) (List.mem_of_getElem? f4)
      refine for_it walk_range (fun t σ H' => ∃ y11 ys, σ = [some (.str (tx l)), some (.str (tx e)), some (.ref Dsp), some (.str (tx (ex (U ++ [(a', n')] ++ (altL b a' (2 * t) ++ (b, mb) :: (st e).drop (i + 1 + 1)))))), some (.ref F), some (.int (i : Nat)), some (.int (U.length : Nat)), some (.int (U.length + 2 * g + 1 : Nat)), y8, y9, some (.int ((ex (Fs i)).length - 1 : Nat)), y11, y12, y13, y14] ∧ But F H3 H' ∧ H' F = some (.lst ys) ∧ ys.length = Gf i + t)
        ⟨y11, ys, ?_, b8, eF8, hys⟩ (fun _ _ _ _ _ => trivial) ?_ ?_
      · rw [hown2, f1]
        simp only [altL, Nat.mul_zero, List.nil_append]
        rw [show (((ex (U ++ [(a', n')])).length : Nat) : Int) - 1 = (((ex (U ++ [(a', n')])).length - 1 : Nat) : Int) by rw [← f1]; omega]
        rfl
      · rintro t x σ H9 H10 ht ⟨y11, ys, rfl, b9, eF9, hys9⟩ ⟨rfl, rfl⟩
        have hlt : (ex (U ++ [(a', n')] ++ (altL b a' (2 * t) ++ (b, mb) :: (st e).drop (i + 1 + 1)))).length ≤ 1000 := by
          rw [hown2, f1] at hLg
          simp only [ex_append, List.length_append, ex, List.length_replicate, ex_alt_len, List.length_nil] at hLg ⊢
          omega
        refine gN ?_
        refine ⟨_, rfl, .inl ⟨rfl, _, .inl (.inl eF9)⟩, _, rfl, small1000 (by simp), fun Tn nTn => ?_⟩
        have eF10 : upd H10 Tn (.tup [.int ((ex (Fs i)).length - 1 : Nat), .int 2]) F = some (.lst ys) := by rw [upd_ne (ne_of_none eF9 nTn)]; exact eF9
        have hgc : Gf (i + 1) ≤ 1000 := by
          have : ∀ k, i + 1 + k + 1 = (st e).length → Gf (i + 1) ≤ Gc := by
            have mono : ∀ (k j : Nat), j + k + 1 = (st e).length → Gf j ≤ Gc := by
              intro k
              induction k with
              | zero =>
                intro j hj
                have : j = (st e).length - 1 := by omega
                rw [this, Q1.last.2]
                exact Nat.le_refl _
              | succ k ih =>
                intro j hj
                obtain ⟨_, _, _, _, _, g', _, _, _, _, _, _, z⟩ := Q1.hs j (by omega)
                have := ih (j + 1) (by omega)
                omega
            exact fun k hk => mono k (i + 1) hk
          have := this ((st e).length - 1 - (i + 1)) (by omega)
          omega
        refine ⟨F, ys, _, rfl, rfl, eF10, small1000 (by omega), ?_⟩
        refine ⟨_, rfl, _, rfl, ex (U ++ [(a', n')] ++ (altL b a' (2 * t) ++ (b, mb) :: (st e).drop (i + 1 + 1))), 2, (ex (Fs i)).length - 1, rfl, by omega, ?_⟩
        refine ⟨some (.int (0 + (t : Int))), _, ?_, b9.trans ((But.same (same_upd nTn)).trans But.set), upd_same, by rw [List.length_append, hys9]; rfl⟩
        obtain ⟨m', X, eX, hm'⟩ := alt_head b a' mb ((st e).drop (i + 1 + 1)) t
        have hins := ins_text U a' n' b m' X hn' (hm' hmb)
        rw [← f1] at hins
        rw [← f1, eX, hins, f1, alt_append]
        rw [show (b, 1) :: (a', 1) :: altL b a' (2 * t) ++ (b, mb) :: (st e).drop (i + 1 + 1) = (b, 1) :: (a', 1) :: (altL b a' (2 * t) ++ (b, mb) :: (st e).drop (i + 1 + 1)) from rfl, eX]
        rfl
      · rintro σ H9 ⟨y11, ys, rfl, b9, eF9, hys9⟩
        have htxt : U ++ [(a', n')] ++ (altL b a' (2 * g) ++ (b, mb) :: (st e).drop (i + 1 + 1)) = Fs (i + 1) ++ (st e).drop (i + 1 + 1) := by
          rw [f6, f1]
          simp only [List.append_assoc, List.cons_append, List.nil_append]
        rw [htxt]
        exact ⟨_, _, _, _, _, _, _, _, _, _, ys, rfl, b9, eF9, by rw [hys9, f7]⟩
    · rintro σ H4 ⟨y5, y6, y7, y8, y9, y10, y11, y12, y13, y14, ys, rfl, b4, eF4, hys⟩
      have hFl : Fs ((st e).length - 1) ++ (st e).drop ((st e).length - 1 + 1) = S1 := by
        rw [Q1.last.1, List.drop_of_length_le (by omega), List.append_nil]
      rw [hFl]
      rw [Q1.last.2] at hys
      refine ⟨_, rfl, l, rfl, hl, lo1, fun D9 H5 xs9 n9 s9 e9 t9 => ?_⟩
      have nD9F : D9 ≠ F := fun z => by rw [z, eF4] at n9; cases n9
      have eF5 := s9 _ _ eF4
      have b5 := b4.trans (But.same (F := F) s9)
      refine ⟨D9, xs9, rfl, .inl (.inl e9), ?_⟩
      have hWl : (st l).length ≤ 1000 := Nat.le_trans (st_len l) hl
      have prW := st_pr l
      refine for_it (walk_enum (xs := xs9)) (fun i σ H' => ∃ y5 y6 y7 y8 y9 y10 y11 y12 y13 y14 ys, σ = [some (.str (tx l)), some (.str (tx e)), some (.ref Dsp), some (.str (tx (ex ((st l).take i ++ S1.drop i)))), some (.ref F), y5, y6, y7, y8, y9, y10, y11, y12, y13, y14] ∧ But F H5 H' ∧ H' F = some (.lst ys) ∧ ys.length = Gc + grs (S1.take i) ((st l).take i))
        ⟨y5, y6, y7, y8, y9, y10, y11, y12, y13, y14, ys, rfl, But.refl _ _, eF5, by rw [hys]; simp [grs]⟩ (fun i σ H' hi ⟨_, _, _, _, _, _, _, _, _, _, _, _, a1, _, _⟩ => .inl (.inl (a1 _ _ nD9F e9))) ?_ ?_
      · rintro i x σ H6 H7 hi ⟨y5, y6, y7, y8, y9, y10, y11, y12, y13, y14, ys, rfl, b6, eF6, hys⟩ ⟨T, x1, x2, rfl, nT, rfl, hx1, hx2⟩
        have hiW : i < (st l).length := by rw [← t9.len]; exact hi
        have hiS : i < S1.length := by rw [hpw.len]; exact hiW
        obtain rfl : V.int (i : Nat) = x1 := Option.some.inj hx1
        obtain ⟨pw, gw1, gw2⟩ := t9.at_ i (st l)[i] (List.getElem?_eq_getElem hiW)
        obtain rfl : V.ref pw = x2 := by
          have hx2 : xs9[i]? = some x2 := hx2
          rw [gw1] at hx2; exact Option.some.inj hx2
        have hSi : S1[i]? = some S1[i] := List.getElem?_eq_getElem hiS
        have hSd : S1.drop i = S1[i] :: S1.drop (i + 1) := List.drop_eq_getElem_cons hiS
        generalize S1[i] = s1i at hSi hSd
        obtain ⟨ai, oi⟩ := s1i
        obtain ⟨ni, hWi, hon⟩ := hpw.at_ hSi
        have hoi : 1 ≤ oi := S1pos _ (List.mem_of_getElem? hSi)
        have hWi' : (st l)[i] = (ai, ni) := by
          rw [List.getElem?_eq_getElem hiW] at hWi
          exact Option.some.inj hWi
        rw [hWi'] at gw2
        have gw2 : H6 pw = some (.tup (fS (ai, ni))) := b6 _ _ (fun z => by rw [z, eF5] at gw2; cases gw2) gw2
        have b7 : But F H5 (upd H6 T (.tup [.int (i : Nat), .ref pw])) := b6.trans (But.same (same_upd nT))
        have eF7 : upd H6 T (.tup [.int (i : Nat), .ref pw]) F = some (.lst ys) := by rw [upd_ne (ne_of_none eF6 nT)]; exact eF6
        have gw7 : upd H6 T (.tup [.int (i : Nat), .ref pw]) pw = some (.tup (fS (ai, ni))) := by rw [upd_ne (ne_of_none gw2 nT)]; exact gw2
        have eT7 : upd H6 T (.tup [.int (i : Nat), .ref pw]) T = some (.tup [.int (i : Nat), .ref pw]) := upd_same
        generalize upd H6 T (.tup [.int (i : Nat), .ref pw]) = H7 at b7 eF7 gw7 eT7
        refine ⟨T, _, rfl, .inl (.inl eT7), rfl, _, _, rfl, _, _, rfl, ⟨pw, _, rfl, .inl (.inl gw7), rfl, _, _, rfl, _, _, rfl, rfl, rfl, ?_⟩⟩
        refine ⟨_, rfl, l, rfl, hl, lo1, fun Dx H8 xs nDx s8 eDx tx8 => ?_⟩
        refine ⟨_, rfl, _, rfl, Dx, xs, rfl, .inl (.inl eDx), fun Zx nZx => ?_⟩
        rw [cutV_to xs i]
        have tx9 := (tx8.take i).mono (same_upd (o := .lst (xs.take i)) nZx)
        have s9' : Same H7 (upd H8 Zx (.lst (xs.take i))) := s8.trans (same_upd nZx)
        have eZx : upd H8 Zx (.lst (xs.take i)) Zx = some (.lst (xs.take i)) := upd_same
        generalize upd H8 Zx (.lst (xs.take i)) = H9 at tx9 s9' eZx
        refine ⟨Zx, rfl, ⟨_, .inl (.inl eZx)⟩, fun Dl nDl => lc_counts eZx tx9 nDl (by rw [List.length_take]; omega) (fun _ _ => rfl) (fun _ _ => rfl) fun H10 s10 eDl => ?_⟩
        refine ⟨Dl, ((((st l).take i).map (·.2)).map fun (n : Nat) => (n : Int)), rfl, .inl (.inl (by rw [← nls_ints]; exact eDl)), ?_⟩
        rw [sum_cast, sum_len]
        refine gN ?_
        have prM := mixed_pr prW hpw S1pos i
        have lenM := mixed_len hpw i
        rw [ex_st] at lenM
        have loM : Lo (ex ((st l).take i ++ S1.drop i)) := by
          refine lo_ex fun s hs => ?_
          rcases List.mem_append.mp hs with hs | hs
          · exact st_lo lo1 s (List.mem_of_mem_take hs)
          · have hm : s.1 ∈ S1.map (·.1) := List.mem_map.mpr ⟨s, List.mem_of_mem_drop hs, rfl⟩
            rw [hpw.letters] at hm
            obtain ⟨s', hs', e'⟩ := List.mem_map.mp hm
            rw [← e']
            exact st_lo lo1 s' hs'
        refine ⟨_, rfl, _, rfl, by omega, loM, fun Dy H11 xs' nDy s11 eDy tx11 => ?_⟩
        rw [st_ex prM] at tx11
        obtain ⟨po, go1, go2⟩ := tx11.at_ i (ai, oi) (by rw [List.getElem?_append_right (by rw [List.length_take]; omega), List.length_take, Nat.min_eq_left (by omega), Nat.sub_self, hSd]; rfl)
        refine ⟨_, rfl, Dy, xs', (i : Int), .ref po, rfl, rfl, .inl (.inl eDy), atI_nat go1, po, _, 1, .int oi, rfl, rfl, .inl (.inl go2), rfl, ?_⟩
        refine gN ?_
        have s711 : Same H7 H11 := (s9'.trans s10).trans s11
        have b11 : But F H5 H11 := b7.trans (But.same s711)
        have eF11 := s711 _ _ eF7
        have hgr : grs (S1.take (i + 1)) ((st l).take (i + 1)) = grs (S1.take i) ((st l).take i) + gr oi ni := grs_take hpw hSi hWi
        have hcle : Gc + grs (S1.take (i + 1)) ((st l).take (i + 1)) ≤ 1000 := by
          have := grs_take_le (i + 1) S1 (st l)
          omega
        refine ⟨fun mm σ H' => ∃ y13 o ys, σ = [some (.str (tx l)), some (.str (tx e)), some (.ref Dsp), some (.str (tx (ex ((st l).take i) ++ List.replicate o ai ++ ex (S1.drop (i + 1))))), some (.ref F), some (.int (i : Nat)), y6, y7, some (.str (tx [ai])), some (.int ni), some (.int ((ex ((st l).take i)).length : Nat)), y11, some (.int (o : Nat)), y13, y14] ∧ But F H5 H' ∧ H' F = some (.lst ys) ∧ 1 ≤ o ∧ o ≤ ni ∧ ys.length + gr o ni = Gc + grs (S1.take (i + 1)) ((st l).take (i + 1)) ∧ mm = ni - o, ⟨_, y13, oi, ys, ?_, b11, eF11, hoi, hon, by rw [hys, hgr]; omega, rfl⟩, ?_⟩
        · have htx : ex ((st l).take i ++ S1.drop i) = ex ((st l).take i) ++ List.replicate oi ai ++ ex (S1.drop (i + 1)) := by
            rw [hSd, ex_append, List.append_assoc]
            rfl
          rw [htx]
          rfl
        · rintro mm σ H12 ⟨y13, o, ys, rfl, b12, eF12, ho1, ho2, hyo, rfl⟩
          refine ⟨_, rfl, _, rfl, _, _, rfl, rfl, _, rfl, ?_⟩
          by_cases hlt : o < ni
          · refine iteD (by omega) ?_
            refine ⟨fun σ' H' => ∃ m', m' < ni - o ∧ ∃ y13 o ys, σ' = [some (.str (tx l)), some (.str (tx e)), some (.ref Dsp), some (.str (tx (ex ((st l).take i) ++ List.replicate o ai ++ ex (S1.drop (i + 1))))), some (.ref F), some (.int (i : Nat)), y6, y7, some (.str (tx [ai])), some (.int ni), some (.int ((ex ((st l).take i)).length : Nat)), y11, some (.int (o : Nat)), y13, y14] ∧ But F H5 H' ∧ H' F = some (.lst ys) ∧ 1 ≤ o ∧ o ≤ ni ∧ ys.length + gr o ni = Gc + grs (S1.take (i + 1)) ((st l).take (i + 1)) ∧ m' = ni - o, fun σ' H' h => h, ?_⟩
            refine seqSet ?_
            refine ifAnd_read (p := 1 < o) (q := 1 < ni - o) (fun Q' z => ⟨_, rfl, _, _, rfl, rfl, _, rfl, ?_⟩) (fun Q' z => ⟨_, rfl, _, rfl, _, _, rfl, rfl, _, _, rfl, rfl, _, rfl, ?_⟩) ?_
            · exact qb (decide_eq_decide.mpr (by omega)) z
            · exact qb (decide_eq_decide.mpr (by omega)) z
            · have hst := gr_step ho1 hlt
              have hlg : (if 1 < o ∧ 1 < ni - o then 2 else 1) ≤ o ∧ o + (if 1 < o ∧ 1 < ni - o then 2 else 1) ≤ ni ∧ 1 ≤ (if 1 < o ∧ 1 < ni - o then 2 else 1) := by
                split <;> omega
              generalize (if 1 < o ∧ 1 < ni - o then 2 else 1) = lg at hst hlg
              have hlen12 : (ex ((st l).take i) ++ List.replicate o ai ++ ex (S1.drop (i + 1))).length ≤ 2000 := by
                have : (ex ((st l).take i ++ S1.drop i)).length = (ex ((st l).take i)).length + oi + (ex (S1.drop (i + 1))).length := by
                  rw [hSd, ex_append]
                  simp [ex]
                  omega
                have h2 : ni ≤ 1000 := by
                  have := length_le_ex _ (List.mem_of_getElem? hWi)
                  rw [ex_st] at this
                  have h3 : ni ≤ l.length := this
                  omega
                simp only [List.length_append, List.length_replicate]
                omega
              refine ⟨_, rfl, .inl ⟨rfl, _, .inl (.inl eF12)⟩, _, rfl, _, rfl, small1000 (by simp), fun Tn nTn => ?_⟩
              have eF13 : upd H12 Tn (.tup [.int ((ex ((st l).take i)).length : Nat), .int (lg : Nat)]) F = some (.lst ys) := by rw [upd_ne (ne_of_none eF12 nTn)]; exact eF12
              refine ⟨F, ys, _, rfl, rfl, eF13, small1000 (by omega), ?_⟩
              refine ⟨_, rfl, _, rfl, _, rfl, _, lg, _, rfl, by omega, ?_⟩
              refine ⟨_, rfl, _, rfl, _, _, rfl, rfl, ?_⟩
              rw [rep_text _ _ _ _ _ hlg.1]
              refine ⟨_, ?_, some (.int (lg : Nat)), o + lg, ys ++ [.ref Tn], ?_, b12.trans ((But.same (same_upd nTn)).trans But.set), upd_same, by omega, hlg.2.1, ?_, rfl⟩
              · omega
              · rw [show ((o + lg : Nat) : Int) = (o : Int) + (lg : Int) by omega]
                rfl
              · rw [List.length_append, List.length_singleton]
                omega
          · refine iteDN (by omega) ?_
            obtain rfl : o = ni := by omega
            rw [gr_self] at hyo
            have htxt : ex ((st l).take i) ++ List.replicate o ai ++ ex (S1.drop (i + 1)) = ex ((st l).take (i + 1) ++ S1.drop (i + 1)) := by
              rw [ex_append, List.take_add_one, hWi, ex_append]
              simp [ex]
            rw [htxt]
            exact ⟨_, _, _, _, _, _, _, _, _, _, ys, rfl, b12, eF12, hyo⟩
      · rintro σ H6 ⟨y5, y6, y7, y8, y9, y10, y11, y12, y13, y14, ys, rfl, b6, eF6, hys⟩
        refine ⟨_, rfl, q F H6 ys (But.to_same s3 ((b4.trans (But.same s9)).trans b6) hF) eF6 ?_⟩
        rw [hys, hfew, hc, t9.len, List.take_length, ← hpw.len, List.take_length]
end
end TW
set_option Elab.async false
set_option linter.all false
set_option maxRecDepth 100000
set_option maxHeartbeats 4000000
namespace TW
open PySem PySem.Spec PyProof.Rows L2
abbrev s_many_short : Stmt := topS 30
def N_many_short : List Str := ["later", "elder"]
theorem sc_many_short : FnScope N_many_short ["later", "elder"] (C8.fnScope s_many_short) := C8.fnScope_by (by decide +kernel)
/-- what many_short answers -/
def manyV (e w : List Nat) : V := if growsB e w = true then .int (fewest e w : Nat) else .non
def sp_many_short : Sp := fun vs H Q _ => ∃ w e : List Nat, vs = [.str (tx w), .str (tx e)] ∧ Ok w ∧ Ok e ∧ ∀ H', Same H H' → Q (manyV e w) H'
section
variable {P : Program} {w : World} {K : PySem.W.Frag} {mg : Str → Option Value} {base : Heap}
theorem c_many_short (G : Glb K mg) (c_need_both : C8.Cal P w K mg base 3 "need_both" sp_need_both []) (c_does_grow : C8.Cal P w K mg base 3 "does_grow" sp_does_grow []) (c_fewest_of : C8.Cal P w K mg base 4 "fewest_of" sp_fewest_of []) (D : DefAt K mg "many_short" s_many_short) : C8.Cal P w K mg base 5 "many_short" sp_many_short [] := by
  refine cal_of D sc_many_short (fun _ _ _ _ _ _ us hl => match us, hl with | [_, _], _ => rfl) (fun vs H Q E h => ?_) (fun f cdv A outer s H vs Q E hr h => ?_)
  · obtain ⟨c, r, rfl, _⟩ := h; rfl
  · obtain ⟨l, e, rfl, o1, o2, q⟩ := h
    refine ⟨_, (pss_cons (ps_expr (C8.pe_c c_need_both hr (by decide) rfl (pa_cons (pv 0) (pa_cons (pv 1) pa_nil))))
  (pss_one (ps_ret (pe_ifExp (pt_val (C8.pe_c c_does_grow hr (by decide) rfl (pa_cons (pv 0) (pa_cons (pv 1) pa_nil)))) (pe_callB call_len_seq rfl G.len PySem.boot_len (pa_cons (C8.pe_c c_fewest_of hr (by decide) rfl (pa_cons (pv 0) (pa_cons (pv 1) pa_nil))) pa_nil)) pe_non)))), ?_⟩
    refine ⟨_, rfl, _, rfl, l, e, rfl, o1, o2, fun H1 s1 => ?_⟩
    refine ⟨_, rfl, _, rfl, l, e, rfl, Nat.le_trans o1.1 (by decide), Nat.le_trans o2.1 (by decide), fun H2 s2 => ⟨_, rfl, ?_⟩⟩
    have s12 := s1.trans s2
    unfold manyV at q
    by_cases hg : growsB e l = true
    · refine iteB hg ?_
      refine ⟨_, rfl, _, rfl, l, e, rfl, Nat.le_trans o1.1 (by decide), .of_ok o1, .of_ok o2, growsB_iff.mp hg, fun D H3 ys s3 eD hys => ?_⟩
      refine ⟨D, ys, rfl, .inl (.inl (.inl eD)), ?_⟩
      have := q H3 (s12.trans s3)
      rw [if_pos hg, ← hys] at this
      exact this
    · refine iteBN (Bool.eq_false_iff.mpr hg) ?_
      have := q H2 s12
      rw [if_neg hg] at this
      exact this
end
end TW
set_option Elab.async false
set_option linter.all false
set_option maxRecDepth 100000
set_option maxHeartbeats 4000000
namespace TW
open PySem PySem.Spec PyProof.Rows L2 LamX
/-! ### sorted(l, key=lambda x: (len(x), x)) over texts -/
section
variable {X : Cx} {pins : List (Addr × Obj)} {σ : L2.St} {H : Hp} {s : Shared}
theorem var_raw (I : Inv X pins σ H s) {i : Nat} {x : Str} {v : V} (hN : X.N[i]? = some x) (hv : Vis X.env.scope x) (e : σ[i]? = some (some v)) (hd : (x == ("__debug__" : Str)) = false) (hcd : (x == ("__classdict__" : Str)) = false) :
    ∃ u, RelV v u ∧ ∀ (pos : Pos) (Q : Value → Shared → Prop) (E : Value → Shared → Prop), Q u s → wpAny (model X.prog X.w) X.A (eval (.Name x pos) X.env) Q E s := by
  obtain ⟨m, hn, hl⟩ := I.loc
  obtain ⟨u, r, l⟩ := hl i x v hN e hv
  refine ⟨u, r, fun pos Q E fin => ?_⟩
  rcases l with ⟨hk, hm⟩ | ⟨hk, c, hc, hcell⟩
  · exact wpAny_Name (wpAny_loadName_local I.ok.kind hk hn hm fin) hd
  · rcases hk with hk | hk
    · exact wpAny_Name (wpAny_loadName_cell I.ok.kind hk hc hcell fin) hd
    · exact wpAny_Name (wpAny_loadName_free I.ok.kind hk hc hcell fin hcd) hd
end
/-- (len(x), x) -/
def keyBody (x : Str) (p1 p2 p3 p4 p5 : Pos) (k : Nat) : Expr := .Tuple [.Call (.Name "len" p1) [.Name x p2] [] p3, .Name x p4] k p5
abbrev keyOf (z : Str) : PyData := .tuple [.int (z.length : Nat), .str z]
section
variable {P : Program} {w : World} {K : PySem.W.Frag} {mg : Str → Option Value} {base : Heap} {A : Around} {outer : List Env} {s : Shared} {H : Hp}
theorem keyLam_call {k : Nat} (hr : Room (k + 1) A) (e0 : Env0 P w K mg base A outer s H) (hlen : mg "len" = none) {f c' : Addr} {qual x : Str} {params : Arguments} {scope : Scope} {pm ctv : Value} {p1 p2 p3 p4 p5 : Pos} {kk : Nat}
    (ho : s.heap.get? f = some (PySem.W.kla_obj "<lambda>" qual params (keyBody x p1 p2 p3 p4 p5 kk) scope [] pm c' ctv)) (hcd : s.heap.CodeRec (.ref c') qual) (S : FnScope [x] [x] scope) (hg : scope.names.lookup ("len" : Str) = some .globalImplicit) (hx : scope.names.lookup x = some .local)
    (hd : (x == ("__debug__" : Str)) = false) (hcx : (x == ("__classdict__" : Str)) = false) (hb : ∀ u : Value, bindArgs (PySem.W.kla_fn "<lambda>" qual params (keyBody x p1 p2 p3 p4 p5 kk) scope [] pm (.ref c') ctv) ⟨[u], []⟩ = pure [(x, u)]) {z : Str} {t : Tok} (hz : z.length ≤ 1000) :
    wpAny (model P w) A (call (.ref f) [.str z t]) (PySem.W.KeyPure (keyOf z) s) (fun _ _ => False) s := by
  have KX : K.In s.heap := e0.mod.kin.keeps fun b o e => (e0.bs b o e).1
  have lim : s.heap.NoLimit := e0.mod.nolimit.keeps fun b o e => (e0.bs b o e).1
  have rc : codeAny (model P w) A (.call (.ref f) ⟨[.str z t], []⟩) (fun r s' => ∃ v, r = .ok (.ret v) ∧ PySem.W.KeyPure (keyOf z) s v s') s := by
    refine PySem.W.kla_callFunE hr.depth ho rfl S.co S.gen rfl hcd ?_
    rw [hb]
    refine wpAny_pure (wpAny_newFunctionEnv_cells S.kind (fun y hy => ?_) fun env he s1 xx => ?_)
    · rw [List.mem_singleton.mp hy]; exact .inl hx
    subst he
    refine ⟨lim.keeps xx.toInCall.keep, ?_⟩
    have I : Inv (cxOf C8.CX0 P w K mg base [x] qual scope f (.ref c') A outer s H C8.E0) [] (L2.start [x] [.str z]) H s1 := inv_start (ps := [x]) (us := [.str z t]) S hr.hd e0 rfl (.cons ⟨t, rfl⟩ .nil) xx
    show codeAny _ _ (.expr _ (envOfC qual scope s.heap.objs.size f (.ref c'))) _ _
    refine PySem.W.kla_codeExpr ?_
    obtain ⟨h1, tk1, e1⟩ := xx.toInCall.same
    have kp : ∀ b o, s.heap.get? b = some o → s1.heap.get? b = some o := xx.toInCall.keep
    clear xx
    subst e1
    replace kp : ∀ b o, s.heap.get? b = some o → h1.get? b = some o := kp
    have hvis : Vis (cxOf C8.CX0 P w K mg base [x] qual scope f (.ref c') A outer s H C8.E0).env.scope x := .inl hx
    obtain ⟨u1, r1, ld1⟩ := var_raw (i := 0) I rfl hvis rfl hd hcx
    obtain ⟨t1, rfl⟩ := r1
    refine wpAny_Tuple_spliced ?_
    refine Calls.spliced_cons ?_
    refine wpAny_Call_Name_kw (ld_blt I hg hlen PySem.boot_len ?_)
    refine PyProof.Rows.callWith_builtin1 ?_ rfl rfl
    refine Calls.spliced_cons (ld1 _ _ _ (Calls.spliced_nil ?_))
    refine len_str (by omega) ?_
    have I2 := I.tok (tk1 + 1 + 1)
    obtain ⟨u2, r2, ld2⟩ := var_raw (i := 0) I2 rfl hvis rfl hd hcx
    obtain ⟨t2, rfl⟩ := r2
    refine Calls.spliced_cons (ld2 _ _ _ (Calls.spliced_nil ⟨small1000 (by simp), ?_⟩))
    refine ⟨_, rfl, _, _, rfl, fun b o e => Heap.get?_push_of_some _ (kp b o e), ?_⟩
    exact .tuple (as := []) (Heap.get?_push_size _ rfl) rfl rfl (.cons (as := []) (.int _ _) (.cons (as := []) (.str _ _) .nil))
  refine wpAny_call (codeAny_mono rc fun r s' hq => ?_)
  obtain ⟨v, rfl, hk⟩ := hq
  exact hk
end
end TW
namespace TW
open PySem PySem.Spec PyProof.Rows L2 LamX
/-- the order of the texts -/
def leT : List Nat → List Nat → Bool := PySem.W.dataLe false fun x => keyOf (tx x)
def tSortK (K : PySem.W.Frag) (T : List (Addr × Str)) (te : TE) : TE := fun σ H Q => te σ H fun v H1 => ∃ (a : Addr) (xs : List (List Nat)), v = .ref a ∧ SqL K H1 a (tls xs) ∧ xs.length ≤ 10000 ∧ (∀ x ∈ xs, x.length ≤ 1000) ∧ Tabs T H1 ∧
  ∀ H2 p, ExtN H1 H2 → Tabs T H2 → H2 p = none → Q (.ref p) (upd H2 p (.lst (tls (xs.mergeSort leT))))
/-- what is asked of the written lambda -/
structure KeyLam (x : Str) (params : Arguments) (scope : Scope) : Prop where
  S : FnScope [x] [x] scope
  hg : scope.names.lookup ("len" : Str) = some .globalImplicit
  hx : scope.names.lookup x = some .local
  hd : (x == ("__debug__" : Str)) = false
  hcx : (x == ("__classdict__" : Str)) = false
  nofree : ∀ y ∈ scope.names, y.2 ≠ .free
  clo : ∀ cells, cloFrom cells scope.names [] = []
  bind : ∀ (qual : Str) (body : Expr) (pm cv ctv u : Value), bindArgs (PySem.W.kla_fn "<lambda>" qual params body scope [] pm cv ctv) ⟨[u], []⟩ = pure [(x, u)]
  dflt : ∀ env, defaultsOf params env = ([], [])
theorem each_vals {xs : List (List Nat)} {us : List Value} (r : Vals (tls xs) us) : PySem.W.EachIs (fun v x => RelV (.str (tx x)) v) us xs := by
  induction xs generalizing us with
  | nil => cases r; exact .nil
  | cons x xs ih =>
    cases r with
    | cons r rr => exact .cons r (ih rr)
theorem vals_each {xs : List (List Nat)} {us : List Value} (r : PySem.W.EachIs (fun v x => RelV (.str (tx x)) v) us xs) : Vals (tls xs) us := by
  induction r with
  | nil => exact .nil
  | cons r _ ih => exact .cons r ih
section
variable {X : Cx}
theorem pe_sortedKey {T : List (Addr × Str)} {c P : Addr} {k : Nat} {x : Str} {e : Expr} {te : TE} {params : Arguments} {scope : Scope} {p lpos kpos pos p1 p2 p3 p4 p5 : Pos} {kk : Nat} (he : PE X e te) (hg : Gl X "sorted") (hm : X.mg "sorted" = none) (hlen : X.mg "len" = none)
    (TB : TabB X.base X.mg c P) (hcode : X.env.code = .ref c) (hmT : (P, X.env.qual ++ "<lambda>") ∈ T) (hu : ∀ p ∈ T, p.1 = P → p.2 = X.env.qual ++ "<lambda>") (hr : Room (k + 3) X.A) (L : KeyLam x params scope)
    (hs : starEach [e] X.env = [(false, eval e X.env)] := by rfl) :
    PE X (.Call (.Name "sorted" p) [e] [⟨some "key", .Lambda params (keyBody x p1 p2 p3 p4 p5 kk) scope lpos, kpos⟩] pos) (tSortK X.K T te) := by
  refine ⟨fun pins s σ H Q I h => ?_⟩
  refine wpAny_Call_Name_kw (ld_blt I hg hm (u := .builtin "sorted") (by decide +kernel) ?_)
  refine PyProof.Rows.callWith_kw (e := e) (rest := []) ?_ (by rw [hs]; rfl) (by rw [hs]; rfl) rfl rfl
  rw [hs]
  show wpAny _ _ (spliced [(false, eval e X.env)]) _ _ s
  refine Calls.spliced_cons (thn (he.run pins s σ H _ I h) ?_)
  rintro u s1 ⟨y, H1, I1, r1, a, xs, rfl, hsq, hxl, hxx, hT, q⟩
  obtain rfl : u = .ref a := r1
  refine Calls.spliced_nil ?_
  show wpAny _ _ (evalAll [(do let v ← eval (.Lambda params (keyBody x p1 p2 p3 p4 p5 kk) scope lpos) X.env; standAt pos; pure v)]) _ _ s1
  refine wpAny_evalAll_cons (wpAny_bind (lam_make2 I1 TB hcode hmT hu hT (L.dflt _) (fun y hy hf => absurd hf (L.nofree y hy)) fun f c' pm ctv H2 s2 I2 eN T2 hf hfn hfr hco => wpAny_bind (wpAny_standAt (wpAny_pure (wpAny_evalAll_nil ?_)))))
  show wpAny _ _ (call (.builtin "sorted") [.ref a] [(Str.ofString "key", .ref f)]) _ _ s2
  have hsq2 : SqL X.K H2 a (tls xs) := by
    rcases hsq with h | h
    · rcases h with h | ⟨o, h⟩
      · exact .inl (.inl (eN _ _ h (fun _ z => nomatch z)))
      · exact .inl (.inr ⟨o, eN _ _ h (fun _ z => nomatch z)⟩)
    · exact .inr h
  obtain ⟨its, rv, pr, _⟩ := I2.list hsq2
  have hco2 := I2.hok c' _ hco
  rw [L.clo] at hf
  refine PySem.W.sorted_key_data (b := false) (fun x : List Nat => keyOf (tx x)) (vs := its) pr.isList (each_vals rv) (PySem.W.AllAlike.of fun _ _ => by simp [PySem.W.alike, PySem.W.alikeAll]) (PySem.W.Sortable.tuples fun _ => ⟨_, _, rfl⟩) (by rw [sizeLine_eq]; omega) (fun z hz => ?_) (ksk_s1 _ _) (fun _ => ksk_l1 _ _) (fun _ => ksk_t1 _ _) (fun v z hv hz h tk kp => ?_) fun out cc h' tk kp hfresh hD hol eo => ?_
  · have := hr.un
    have hd : (keyOf (tx z)).depth = 1 := by simp [PyData.depth, PyData.depthAll]
    rw [hd]
    omega
  · obtain ⟨t, rfl⟩ := hv
    have I3 : Inv X pins σ H2 { s2 with heap := h, toks := tk } := I2.kept kp
    have e0 : Env0 X.prog X.w X.K X.mg X.base X.A.in1.in1 X.stack { s2 with heap := h, toks := tk } H2 := by
      have := I3.env0
      exact ⟨this.frames, this.mod, this.bs, this.bsz, this.funs, this.frf, this.hok, this.bare⟩
    obtain ⟨⟨oc, vs, t', g1, g2, g3⟩, _⟩ := I3.hok c' _ hco
    exact keyLam_call hr.in1.in1 e0 hlen (kp _ _ hf) ⟨c', oc, vs, t', rfl, g1, g2, g3⟩ L.S L.hg L.hx L.hd L.hcx (fun u => L.bind _ _ _ _ _ u) (by rw [tx_len]; exact hxx z hz)
  · have hnew : H2 (s2.heap.objs.size + 1) = none := I2.hok.fresh (Nat.le_succ _)
    have hvals : Vals (tls (xs.mergeSort leT)) out := vals_each eo
    have hlen : (tls (xs.mergeSort leT)).length ≤ sizeLine := by
      rw [List.length_map, List.length_mergeSort, sizeLine_eq]
      omega
    have I3 : Inv X pins σ (upd H2 (s2.heap.objs.size + 1) (.lst (tls (xs.mergeSort leT)))) { s2 with heap := h', toks := tk } :=
      I2.laid kp (Nat.le_succ _) ⟨hlen, out, cc, hvals, hD⟩
    exact ⟨.ref (s2.heap.objs.size + 1), _, I3, rfl, q H2 _ eN T2 hnew⟩
end
end TW
set_option Elab.async false
set_option linter.all false
set_option maxRecDepth 100000
set_option maxHeartbeats 4000000
namespace TW
open PySem PySem.Spec PyProof.Rows L2 LamX
theorem Cp.mem {e w : List Nat} (h : Cp e w) : ∀ c ∈ e, c ∈ w := by
  obtain ⟨l, x, r, _, rfl, rfl⟩ := h
  intro c hc
  simp at hc ⊢
  rcases hc with h | h | h
  · exact .inl h
  · exact .inr (.inl h)
  · exact .inr (.inr h)
theorem R.mem {e w : List Nat} (h : R e w) : ∀ c ∈ e, c ∈ w := by
  obtain ⟨n, h⟩ := h
  induction h with
  | refl w => exact fun c hc => hc
  | tail _ c ih => exact fun x hx => c.mem x (ih x hx)
theorem Ok.of_R {e w : List Nat} (o : Ok w) (h : R e w) : Ok e := by
  refine ⟨?_, fun c hc => o.2 c (h.mem c hc)⟩
  obtain ⟨n, h⟩ := h
  have := h.len
  have := o.1
  omega
theorem tls_dp {K : PySem.W.Frag} {H : Hp} : ∀ L : List (List Nat), DpAll K H (tls L) (L.map fun x => .str (tx x))
  | [] => .nil
  | x :: L => .cons (.str _) (tls_dp L)
theorem shaped_tls {L : List (List Nat)} (h : ∀ x ∈ L, Lo x) : SeqAt.shaped (.list (L.map fun x => .str (tx x))) = true := shaped_list fun d hd => by
  obtain ⟨x, hx, rfl⟩ := List.mem_map.mp hd
  refine ⟨?_, by simp [PyData.depth]⟩
  have := h x hx
  simp only [PyData.canLay0, PyData.strOk]
  rw [Array.all_eq_true_iff_forall_mem]
  intro c hc
  have : c ∈ x := by simpa using hc
  simpa using h x hx c this
theorem eqv_nil (ds : List PyData) : PyData.eqv (.list ds) (.list []) = ds.isEmpty := by
  cases ds <;> simp [PyData.eqv, PyData.eqvAll]
theorem nil_or_snoc {α : Type} : ∀ l : List α, l = [] ∨ ∃ L x, l = L ++ [x]
  | [] => .inl rfl
  | a :: l => by
    rcases nil_or_snoc l with rfl | ⟨L, x, rfl⟩
    · exact .inr ⟨[], a, rfl⟩
    · exact .inr ⟨a :: L, x, rfl⟩
theorem undP_lenA (x : List Nat) (L : Nat) : (twinsL x L).length ≤ x.length + 1 := by
  unfold twinsL
  have := List.length_filter_le (twinAt x L) (List.range (x.length + 1 - 2 * L))
  rw [List.length_range] at this
  omega
/-- the program's dict of texts -/
abbrev dk (known : List (List Nat)) : List (Key × V) := known.map fun x => ((Sum.inr (tx x) : Key), V.bl true)
theorem val_dk (known : List (List Nat)) (e : List Nat) : (valV (dk known) (Sum.inr (tx e))).isSome = decide (e ∈ known) := by
  unfold valV
  rw [Option.isSome_map, Bool.eq_iff_iff, List.find?_isSome, decide_eq_true_eq]
  constructor
  · rintro ⟨kv, hkv, h⟩
    obtain ⟨x, hx, rfl⟩ := List.mem_map.mp hkv
    have : x = e := tx_inj (Sum.inr.inj (of_decide_eq_true h))
    exact this ▸ hx
  · intro h
    exact ⟨_, List.mem_map.mpr ⟨e, h, rfl⟩, decide_eq_true rfl⟩
theorem put_dk {known : List (List Nat)} {e : List Nat} (h : e ∉ known) : putK (dk known) (Sum.inr (tx e)) (.bl true) = dk (known ++ [e]) := by
  unfold putK
  rw [if_neg]
  · simp
  · rw [List.any_map, List.any_eq_true]
    rintro ⟨x, hx, hh⟩
    have : x = e := tx_inj (Sum.inr.inj (of_decide_eq_true hh))
    exact h (this ▸ hx)

abbrev s_short_elders : Stmt := topS 34
def N_short_elders : List Str := ["text", "known", "waiting", "elder"]
theorem sc_short_elders : FnScope N_short_elders ["text"] (C8.fnScope s_short_elders) := C8.fnScope_by (by decide +kernel)
/-- the statement that raises TooMany -/
def raiseS : Stmt := match (C8.fnBody s_short_elders).getD 1 (.Pass ⟨0, 0, 0, 0⟩) with
  | .While _ b _ _ => match b.getD 1 (.Pass ⟨0, 0, 0, 0⟩) with
    | .If _ b _ _ => b.getD 0 (.Pass ⟨0, 0, 0, 0⟩)
    | _ => .Pass ⟨0, 0, 0, 0⟩
  | _ => .Pass ⟨0, 0, 0, 0⟩
section
variable {CX : CXT} {P : Program} {w : World} {K : PySem.W.Frag} {mg : Str → Option Value} {base : Heap} {f : Addr} {A : Around} {outer : List Env} {s : Shared} {H : Hp} {E : XK}
theorem elders_body {k : Nat} {T : List (Addr × Str)} {c Pt : Addr} {R0 : TS} {xe : Value → Shared → Prop} (pown : PassesOwn (model P w) (A.deeper (envOfC "short_elders" (C8.fnScope s_short_elders) s.heap.objs.size f (.ref c))) (envOfC "short_elders" (C8.fnScope s_short_elders) s.heap.objs.size f (.ref c)) xe) (G : Glb K mg) (c_need_text : C8.Cal P w K mg base 2 "need_text" sp_need_text []) (c_undone_once : C8.Cal P w K mg base 1 "undone_once" sp_undone_once [])
    (TB : TabB base mg c Pt) (hmT : (Pt, ("short_elders.<locals>.<lambda>" : Str)) ∈ T) (hu : ∀ p ∈ T, p.1 = Pt → p.2 = ("short_elders.<locals>.<lambda>" : Str)) (hr : Room (k + 3) (A.deeper (envOfC "short_elders" (C8.fnScope s_short_elders) s.heap.objs.size f (.ref c))))
    (hR : PS ((cxOf CX P w K mg base N_short_elders "short_elders" (C8.fnScope s_short_elders) f (.ref c) A outer s H E).wish xe) raiseS R0) {l : List Nat} (ok : Ok l) (hT : Tabs T H) {Q : VK}
    (hend : ∀ (known : List (List Nat)) p H', known.Nodup → known.length ≤ 2000 → (∀ x, x ∈ known ↔ TW.R x l) → ExtN H H' → Tabs T H' → H' p = some (.tup (tls (known.mergeSort leT))) → Q (.ref p) H')
    (hraise : ∀ (known : List (List Nat)) D σ H', known.Nodup → 2000 < known.length → (∀ x ∈ known, TW.R x l) → Same H H' → Tabs T H' → R0 D σ H') :
    ∃ t, PSs ((cxOf CX P w K mg base N_short_elders "short_elders" (C8.fnScope s_short_elders) f (.ref c) A outer s H E).wish xe) (C8.fnBody s_short_elders) t ∧ t { nx := fun _ H' => Q .non H', rt := Q } (start N_short_elders [.str (tx l)]) H := by
  have hu1 : ((cxOf CX P w K mg base N_short_elders "short_elders" (C8.fnScope s_short_elders) f (.ref c) A outer s H E).wish xe).A.units + 1 < cLine := by
    have := hr.units
    exact Nat.lt_of_le_of_lt (by show _ ≤ _ + 64; exact Nat.add_le_add_left (by decide) _) this
  obtain ⟨tML, gML⟩ := G.MOST_LISTED
  refine ⟨_, (pss_cons (ps_par (i := 1) (j := 2) (by rfl) sc_short_elders.nd rfl rfl (by decide) rfl rfl (pa_cons (pe_disp (pps_cons (C8.pe_c c_need_text hr (by omega) rfl (pa_cons (pv 0) pa_nil)) pe_bl pps_nil) (by rfl) (by rfl) (fun z => by cases z) (by decide)) (pa_cons (pe_lst (pa_cons (pv 0) pa_nil)) pa_nil)) (by rfl))
  (pss_cons (ps_while pown (pt_cmpR (op_neD hr.units) (pv 2) (pe_lst pa_nil) (nomark _))
  (pss_cons (ps_for pown rfl (pi_list (C8.pe_c c_undone_once hr (by omega) rfl (pa_cons (pe_bm0 PySem.F.plainAttrs_list PySem.F.slot_list_pop PySem.F.type_list_pop mt_pop (pv 2)) pa_nil))) (pg_name (i := 3) sc_short_elders.nd rfl (Or.inl rfl))
  (pss_one (ps_if (pt_cmp (pc_dnotin hu1 (pv 3) (pv 1)) ) (pss_cons (ps_dput hu1 (pv 1) (pv 3) pe_bl rfl)
  (pss_one (ps_expr (pe_bm PySem.F.plainAttrs_list PySem.F.slot_list_append PySem.F.type_list_append mt_append (pv 2) (pa_cons (pv 3) pa_nil))))) pss_nil)))
  (pss_one (ps_if (pt_cmpR op_gt (pe_callB call_lenD rfl G.len PySem.boot_len (pa_cons (pv 1) pa_nil)) (pe_glob (v := .int 2000) rfl gML ⟨_, rfl⟩) (nomark _)) (pss_one hR) pss_nil))))
  (pss_one (ps_ret (pe_callTy call_tuple_of rfl G.tuple (by decide +kernel) (pa_cons (pe_sortedKey (x := "one") (T := T) (c := c) (P := Pt) (k := k) (pe_callTy (call_list_dK rfl) rfl G.list (by decide +kernel) (pa_cons (pv 1) pa_nil)) rfl G.sorted G.len TB rfl hmT hu hr ⟨C8.fnScope_by (by decide +kernel), by decide +kernel, by decide +kernel, by decide, by decide, by decide +kernel, fun _ => rfl, fun _ _ _ _ _ _ => rfl, fun _ => rfl⟩) pa_nil)))))), ?_⟩
  refine fun d nd => ?_
  have s1 : Same H (upd H d (.dK [])) := same_upd nd
  have ed : upd H d (.dK []) d = some (.dK []) := upd_same
  generalize upd H d (.dK []) = H1 at s1 ed
  refine ⟨_, rfl, l, rfl, ok, fun H2 s2 => ⟨s2 _ _ ed, [(Sum.inr (tx l), .bl true)], rfl, by simp, ?_⟩⟩
  have s3 : Same H (upd H2 d (.dK (mergeK [] [(Sum.inr (tx l), .bl true)]))) := same_set (s1.trans s2) nd
  have ed3 : upd H2 d (.dK (mergeK [] [(Sum.inr (tx l), .bl true)])) d = some (.dK (dk [l])) := upd_same
  generalize upd H2 d (.dK (mergeK [] [(Sum.inr (tx l), .bl true)])) = H3 at s3 ed3
  refine ⟨_, rfl, small1000 (by simp), fun Wt nW => ⟨_, _, rfl, ?_⟩⟩
  have nWH : H Wt = none := by
    cases z : H Wt with
    | none => rfl
    | some o => rw [s3 _ _ z] at nW; cases nW
  have s4 : Same H (upd H3 Wt (.lst [.str (tx l)])) := s3.trans (same_upd nW)
  have ed4 : upd H3 Wt (.lst [.str (tx l)]) d = some (.dK (dk [l])) := by rw [upd_ne (ne_of_none ed3 nW)]; exact ed3
  have eW4 : upd H3 Wt (.lst [.str (tx l)]) Wt = some (.lst (tls [l])) := upd_same
  generalize upd H3 Wt (.lst [.str (tx l)]) = H4 at s4 ed4 eW4
  have ndW : d ≠ Wt := fun z => by rw [z, eW4] at ed4; cases ed4
  have lo : ∀ x, TW.R x l → Lo x := fun x hx => .of_ok (ok.of_R hx)
  refine ⟨fun mm σ H' => ∃ y3 known waiting, σ = [some (.str (tx l)), some (.ref d), some (.ref Wt), y3] ∧ Same H H' ∧ H' d = some (.dK (dk known)) ∧ H' Wt = some (.lst (tls waiting)) ∧ DMid l none [] known waiting ∧ known.length ≤ 2000 ∧ mm = 2 * (2000 - known.length) + waiting.length, ⟨_, none, [l], [l], rfl, s4, ed4, eW4, .start l, by simp, rfl⟩, ?_⟩
  rintro mm σ H5 ⟨y3, known, waiting, rfl, s5, ed5, eW5, dm, hk, hmm⟩
  refine ⟨_, rfl, Nat.zero_le _, fun E0 nE => ?_⟩
  have s6 : Same H (upd H5 E0 (.lst [])) := s5.trans (same_upd nE)
  have ed6 : upd H5 E0 (.lst []) d = some (.dK (dk known)) := by rw [upd_ne (ne_of_none ed5 nE)]; exact ed5
  have eW6 : upd H5 E0 (.lst []) Wt = some (.lst (tls waiting)) := by rw [upd_ne (ne_of_none eW5 nE)]; exact eW5
  have eE6 : upd H5 E0 (.lst []) E0 = some (.lst []) := upd_same
  generalize upd H5 E0 (.lst []) = H6 at s6 ed6 eW6 eE6
  refine ⟨_, _, .lst (.inl (.inl eW6)) (tls_dp _), .lst (.inl (.inl eE6)) .nil, shaped_tls (fun x hx => lo x (dm.rch x (dm.sub x hx))), rfl, _, rfl, ?_⟩
  rw [eqv_nil]
  rcases nil_or_snoc waiting with rfl | ⟨ws, x, rfl⟩
  · refine iteF ?_
    refine ⟨_, rfl, d, _, rfl, ed6, fun q nq => ?_⟩
    have hkeys : (dk known).map (fun kv => kV kv.1) = tls known := by
      rw [List.map_map]; rfl
    rw [hkeys]
    have s7 : Same H (upd H6 q (.lst (tls known))) := s6.trans (same_upd nq)
    have eq7 : upd H6 q (.lst (tls known)) q = some (.lst (tls known)) := upd_same
    generalize upd H6 q (.lst (tls known)) = H7 at s7 eq7
    refine ⟨q, known, rfl, .inl (.inl eq7), by omega, fun x hx => Nat.le_trans (ok.of_R (dm.rch x hx)).1 (by decide), hT.ext s7, fun H8 p eN T8 np => ?_⟩
    refine ⟨p, _, rfl, .inl ⟨.inl (.inl upd_same), fun p2 np2 => ?_⟩⟩
    refine hend known p2 _ dm.nd hk dm.all (((ExtN.of s7).trans eN).trans (.of ?_)) ?_ upd_same
    · exact (same_upd np).trans (same_upd np2)
    · exact (T8.ext (same_upd np)).ext (same_upd np2)
  · have tls_app : tls (ws ++ [x]) = tls ws ++ [.str (tx x)] := by simp
    rw [tls_app] at eW6
    refine iteB (by cases ws <;> rfl) ?_
    refine ⟨fun σ' H' => ∃ m', m' < mm ∧ ∃ y3 known waiting, σ' = [some (.str (tx l)), some (.ref d), some (.ref Wt), y3] ∧ Same H H' ∧ H' d = some (.dK (dk known)) ∧ H' Wt = some (.lst (tls waiting)) ∧ DMid l none [] known waiting ∧ known.length ≤ 2000 ∧ m' = 2 * (2000 - known.length) + waiting.length, fun σ' H' h => h, ?_⟩
    have hxR : TW.R x l := dm.rch x (dm.sub x (by simp))
    have dm1 := dm.pop
    refine ⟨_, rfl, .inl ⟨rfl, _, .inl (.inl eW6)⟩, Wt, _, .str (tx x), rfl, rfl, eW6, by simp, ?_⟩
    rw [List.dropLast_concat]
    have s7 : Same H (upd H6 Wt (.lst (tls ws))) := same_set s6 nWH
    have ed7 : upd H6 Wt (.lst (tls ws)) d = some (.dK (dk known)) := by rw [upd_ne ndW]; exact ed6
    have eW7 : upd H6 Wt (.lst (tls ws)) Wt = some (.lst (tls ws)) := upd_same
    generalize upd H6 Wt (.lst (tls ws)) = H7 at s7 ed7 eW7
    refine ⟨x, rfl, Nat.le_trans (ok.of_R hxR).1 (by decide), fun D H8 nD s8 eD => ?_⟩
    have nDd : D ≠ d := fun z => by rw [z, ed7] at nD; cases nD
    have nDW : D ≠ Wt := fun z => by rw [z, eW7] at nD; cases nD
    refine ⟨D, rfl, ⟨_, .inl (.inl eD)⟩, ?_⟩
    have hul : (tls (und x)).length = (und x).length := List.length_map ..
    refine for_it (walk_list (xs := tls (und x))) (fun j σ H' => ∃ y3 known' waiting, σ = [some (.str (tx l)), some (.ref d), some (.ref Wt), y3] ∧ Same H H' ∧ H' d = some (.dK (dk known')) ∧ H' Wt = some (.lst (tls waiting)) ∧ H' D = some (.lst (tls (und x))) ∧ DMid l (some x) ((und x).take j) known' waiting ∧ known.length ≤ known'.length ∧ known'.length ≤ known.length + j ∧ waiting.length + known.length = ws.length + known'.length)
      ⟨y3, known, ws, rfl, s7.trans s8, s8 _ _ ed7, s8 _ _ eW7, eD, dm1, Nat.le_refl _, Nat.le_refl _, rfl⟩ (fun j σ H' hj ⟨_, _, _, _, _, _, _, a, _⟩ => .inl (.inl a)) ?_ ?_
    · rintro j xv σ H9 H10 hj ⟨y3, kn, wt, rfl, s9, ed9, eW9, eD9, dm9, hkg, hkl, hwl⟩ ⟨rfl, hx⟩
      obtain ⟨e, he, rfl⟩ : ∃ e, (und x)[j]? = some e ∧ V.str (tx e) = xv := by
        rw [List.getElem?_map] at hx
        simpa using hx
      have hcp : Cp e x := mem_und.mp (List.mem_of_getElem? he)
      have dm10 := dm9.step hcp
      have htk : (und x).take (j + 1) = (und x).take j ++ [e] := by rw [List.take_add_one, he]; rfl
      rw [← htk] at dm10
      refine gN (ifS ?_)
      refine ⟨_, rfl, _, rfl, d, _, rfl, .inl ⟨dk kn, Sum.inr (tx e), .inl ed9, rfl, rfl⟩, _, rfl, ?_⟩
      rw [val_dk]
      have hul2 : (und x).length ≤ 200 := by
        have h1 : (undL x 1).length ≤ x.length + 1 := by unfold undL; rw [List.length_map]; exact Nat.le_trans (undP_lenA x 1) (by omega)
        have h2 : (undL x 2).length ≤ x.length + 1 := by unfold undL; rw [List.length_map]; exact Nat.le_trans (undP_lenA x 2) (by omega)
        have := (ok.of_R hxR).1
        unfold und
        rw [List.length_append]
        omega
      by_cases hin : e ∈ kn
      · rw [decide_eq_true hin]
        refine iteF ?_
        have hd : dstep (kn, wt) e = (kn, wt) := if_pos hin
        rw [hd] at dm10
        exact ⟨_, kn, wt, rfl, s9, ed9, eW9, eD9, dm10, hkg, by omega, hwl⟩
      · rw [decide_eq_false hin]
        refine iteT ?_
        have hd : dstep (kn, wt) e = (kn ++ [e], wt ++ [e]) := if_neg hin
        rw [hd] at dm10
        have hwk := dm9.len
        simp at hwk
        refine ⟨_, rfl, _, rfl, d, _, rfl, .inl ⟨dk kn, Sum.inr (tx e), ed9, rfl, ?_, rfl⟩, ?_⟩
        · rw [List.length_map, sizeLine_eq]; omega
        rw [put_dk hin]
        have eW11 : upd H10 d (.dK (dk (kn ++ [e]))) Wt = some (.lst (tls wt)) := by rw [upd_ne (Ne.symm ndW)]; exact eW9
        have ed11 : upd H10 d (.dK (dk (kn ++ [e]))) d = some (.dK (dk (kn ++ [e]))) := upd_same
        have eD11 : upd H10 d (.dK (dk (kn ++ [e]))) D = some (.lst (tls (und x))) := by rw [upd_ne nDd]; exact eD9
        have s11 : Same H (upd H10 d (.dK (dk (kn ++ [e])))) := same_set s9 nd
        generalize upd H10 d (.dK (dk (kn ++ [e]))) = H11 at eW11 ed11 eD11 s11
        refine ⟨_, rfl, .inl ⟨rfl, _, .inl (.inl eW11)⟩, _, rfl, Wt, _, _, rfl, rfl, eW11, ?_, ?_⟩
        · rw [List.length_map, sizeLine_eq]; omega
        refine ⟨_, kn ++ [e], wt ++ [e], rfl, same_set s11 nWH, by rw [upd_ne ndW]; exact ed11, by rw [upd_same]; simp, by rw [upd_ne nDW]; exact eD11, dm10, by simp; omega, by simp; omega, by simp; omega⟩
    · rintro σ H9 ⟨y3, kn, wt, rfl, s9, ed9, eW9, eD9, dm9, hkg, hkl, hwl⟩
      rw [hul, List.take_length] at dm9
      have dm10 := dm9.turn
      refine ⟨_, rfl, d, _, rfl, ed9, _, _, rfl, rfl, _, rfl, ?_⟩
      rw [List.length_map]
      by_cases hgt : 2000 < kn.length
      · refine iteD (by omega) ?_
        exact hraise kn _ _ _ dm10.nd hgt dm10.rch s9 (hT.ext s9)
      · refine iteDN (by omega) ?_
        refine ⟨_, ?_, y3, kn, wt, rfl, s9, ed9, eW9, dm10, by omega, rfl⟩
        have hml : mm = 2 * (2000 - known.length) + (ws.length + 1) := by rw [hmm]; simp
        omega
end
end TW
set_option Elab.async false
set_option linter.all false
set_option maxRecDepth 100000
set_option maxHeartbeats 4000000
namespace TW
open PySem PySem.Spec PyProof.Rows L2 LamX
/-! ### promises of defs whose guards are known to be none, and of defs with a known code object -/
/-- a def of the program whose code object is c -/
def DefC (K : PySem.W.Frag) (mg : Str → Option Value) (x : Str) (st : Stmt) (cdv : Value) : Prop :=
  ∃ (f : Addr) (oc : Value) (od : Option Addr) (kV doc pm : Value) (an : Option Addr) (ct : Value) (osl : Array (Option Value)),
    K.lookup f = some ⟨oc, od, .func (PySem.W.fnOf x x (C8.fnArgs st) (C8.fnBody st) (C8.fnScope st) .none kV doc pm an cdv ct), osl⟩ ∧ PySem.W.codeIn K cdv x = true ∧ mg x = some (.ref f) ∧ PySem.W.keepIn K (.ref f) = true
theorem DefAt.code {K : PySem.W.Frag} {mg : Str → Option Value} {x : Str} {st : Stmt} (D : DefAt K mg x st) : ∃ cdv, DefC K mg x st cdv := by
  obtain ⟨f, fd, F, df⟩ := D
  obtain ⟨oc, od, dV, kV, doc, pm, an, cdv, ct, osl, rfl, lk, hcd⟩ := F.fn.ex
  have e : dV = .none := df
  subst e
  exact ⟨cdv, f, oc, od, kV, doc, pm, an, ct, osl, lk, hcd, F.mgf, F.kp⟩
structure CalG (P : Program) (w : World) (K : PySem.W.Frag) (mg : Str → Option Value) (base : Heap) (k : Nat) (x : Str) (sp : Sp) : Prop where
  ex : ∃ (f : Addr) (fd : FuncData) (ps : List Str), (∀ vs H Q E, sp vs H Q E → vs.length = ps.length) ∧
    (∀ (A : Around) (outer : List Env) (s : Shared) (H : Hp) (args : Args) (us : List Value) (vs : List V) (Q : VK) (E : XK), A.guards = some [] → Room k A → Env0 P w K mg base A outer s H → BindsTo s fd args (ps.zip us) → Vals vs us → sp vs H Q E →
      codeAny (model P w) A (.call (.ref f) args) (CR C8.CX0 outer P w H s Q E) s) ∧ mg x = some (.ref f) ∧ PySem.W.keepIn K (.ref f) = true ∧ Binds K fd ps []
section
variable {P : Program} {w : World} {K : PySem.W.Frag} {mg : Str → Option Value} {base : Heap}
theorem calG_of {x : Str} {st : Stmt} {N ps : List Str} {k : Nat} {sp : Sp} {cdv : Value} (D : DefC K mg x st cdv) (S : FnScope N ps (C8.fnScope st))
    (hb : ∀ (kV doc pm : Value) (an : Option Addr) (cdv ct : Value) (us : List Value), us.length = ps.length → bindArgs (PySem.W.fnOf x x (C8.fnArgs st) (C8.fnBody st) (C8.fnScope st) .none kV doc pm an cdv ct) ⟨us, []⟩ = pure (ps.zip us))
    (len : ∀ vs H Q E, sp vs H Q E → vs.length = ps.length)
    (hbody : ∀ (f : Addr) (A : Around) (outer : List Env) (s : Shared) (H : Hp) (vs : List V) (Q : VK) (E : XK), (A.deeper (envOfC x (C8.fnScope st) s.heap.objs.size f cdv)).guards = some [] → Room k (A.deeper (envOfC x (C8.fnScope st) s.heap.objs.size f cdv)) → sp vs H Q E →
      ∃ t, PSs (cxOf C8.CX0 P w K mg base N x (C8.fnScope st) f cdv A outer s H E).nox (C8.fnBody st) t ∧ t { nx := fun _ H' => Q .non H', rt := Q } (start N vs) H) : CalG P w K mg base (k + 1) x sp := by
  obtain ⟨f, oc, od, kV, doc, pm, an, ct, osl, lk, hcd, mgf, kp⟩ := D
  refine ⟨f, _, ps, len, fun A outer s H args us vs Q E hgd hr e0 hbi r hsp => ?_, mgf, kp, .all (hb kV doc pm an cdv ct)⟩
  refine run_ofS lk hcd S hr e0 hbi r (len _ _ _ _ hsp) fun hr' => ?_
  obtain ⟨t, h, q⟩ := hbody f A outer s H vs Q E hgd hr' hsp
  exact ⟨t, h.nox, q⟩
/-- the same without the guards -/
theorem calC_of {x : Str} {st : Stmt} {N ps : List Str} {k : Nat} {sp : Sp} {cdv : Value} (D : DefC K mg x st cdv) (S : FnScope N ps (C8.fnScope st))
    (hb : ∀ (kV doc pm : Value) (an : Option Addr) (cdv ct : Value) (us : List Value), us.length = ps.length → bindArgs (PySem.W.fnOf x x (C8.fnArgs st) (C8.fnBody st) (C8.fnScope st) .none kV doc pm an cdv ct) ⟨us, []⟩ = pure (ps.zip us))
    (len : ∀ vs H Q E, sp vs H Q E → vs.length = ps.length)
    (hbody : ∀ (f : Addr) (A : Around) (outer : List Env) (s : Shared) (H : Hp) (vs : List V) (Q : VK) (E : XK), Room k (A.deeper (envOfC x (C8.fnScope st) s.heap.objs.size f cdv)) → sp vs H Q E →
      ∃ t, PSs (cxOf C8.CX0 P w K mg base N x (C8.fnScope st) f cdv A outer s H E).nox (C8.fnBody st) t ∧ t { nx := fun _ H' => Q .non H', rt := Q } (start N vs) H) : C8.Cal P w K mg base (k + 1) x sp [] := by
  obtain ⟨f, oc, od, kV, doc, pm, an, ct, osl, lk, hcd, mgf, kp⟩ := D
  refine ⟨f, _, ps, [], fn_of lk hcd S len fun A outer s H vs Q E hr hsp => ?_, mgf, kp, .all (hb kV doc pm an cdv ct), .nil⟩
  obtain ⟨t, h, q⟩ := hbody f A outer s H vs Q E hr hsp
  exact ⟨t, h.nox, q⟩
end
section
variable {X : Cx} {k j : Nat} {x : Str} {sp : Sp} {p pos : Pos} {e : Expr} {es : List Expr} {t : TA}
theorem pe_g (c : CalG X.prog X.w X.K X.mg X.base k x sp) (hgd : X.A.guards = some []) (hr : Room j X.A) (hk : k ≤ j) (hg : Gl X x) (ha : PA X (e :: es) t)
    (hdb : (x == ("__debug__" : Str)) = false := by decide) (he : starEach (e :: es) X.env = (false, eval e X.env) :: starEach es X.env := by rfl) (hpl : (backTo pos (starEach es X.env)).any (·.1) = false := by rfl) :
    PE X (.Call (.Name x p) (e :: es) [] pos) (tCall sp [] C8.E0 t) := by
  obtain ⟨f, fd, ps, len, run, hm, kp, b⟩ := c.ex
  constructor
  intro pins s σ H Q I h
  refine wpAny_Call_Name_kw (ld_glob I hg hm ?_ hdb)
  refine PySem.W.callWith_K (h₀ := X.base) I.ok.mod.kin kp (thn (ha.run pos pins s σ H _ I h) ?_) he hpl
  rintro us s1 ⟨vs, H1, I1, r, q⟩
  rw [List.append_nil] at q
  have lu : us.length = ps.length := by rw [← r.length]; exact len _ _ _ _ q
  refine ⟨I1.kIn, wpAny_call (codeAny_mono (run X.A X.stack s1 H1 ⟨us, []⟩ us vs Q C8.E0 hgd (hr.mono hk) I1.env0 ?_ r q) fun r s' hq => ?_)⟩
  · have := b s1 us I1.kIn (by rw [List.append_nil]; exact lu)
    rwa [List.append_nil] at this
  · cases r with
    | error e => exact (show False from hq).elim
    | ok fl =>
      cases fl with
      | ret u => exact I1.after hq
      | next => exact False.elim hq
      | brk => exact False.elim hq
      | cont => exact False.elim hq
theorem pe_g0 (c : CalG X.prog X.w X.K X.mg X.base k x sp) (hgd : X.A.guards = some []) (hr : Room j X.A) (hk : k ≤ j) (hg : Gl X x) (hdb : (x == ("__debug__" : Str)) = false := by decide) :
    PE X (.Call (.Name x p) [] [] pos) (tCall sp [] C8.E0 tNil) := by
  obtain ⟨f, fd, ps, len, run, hm, kp, b⟩ := c.ex
  constructor
  intro pins s σ H Q I q
  refine wpAny_Call_Name_kw (ld_glob I hg hm ?_ hdb)
  have lu : 0 = ps.length := len _ _ _ _ q
  refine PySem.W.callWith_K0 I.kIn kp (wpAny_call (codeAny_mono (run X.A X.stack s H ⟨[], []⟩ [] [] Q C8.E0 hgd (hr.mono hk) I.env0 ?_ .nil q) fun r s' hq => ?_))
  · have := b s [] I.kIn (by rw [List.append_nil]; exact lu)
    rwa [List.append_nil] at this
  · cases r with
    | error e => exact (show False from hq).elim
    | ok fl =>
      cases fl with
      | ret u => exact I.after hq
      | next => exact False.elim hq
      | brk => exact False.elim hq
      | cont => exact False.elim hq
end
end TW
set_option Elab.async false
set_option linter.all false
set_option maxRecDepth 100000
set_option maxHeartbeats 4000000
namespace TW
open PySem PySem.Spec PyProof.Rows L2 LamX
abbrev s__law_copied : Stmt := topS 47
def N__law_copied : List Str := ["_law_text", "_law_place", "_law_long"]
theorem sc__law_copied : FnScope N__law_copied ["_law_text", "_law_place", "_law_long"] (C8.fnScope s__law_copied) := C8.fnScope_by (by decide +kernel)
def sp__law_copied : Sp := fun vs H Q _ => ∃ (l : List Nat) (p z : Nat), vs = [.str (tx l), .int p, .int z] ∧ l.length ≤ 10000 ∧ Q (.str (tx (l.take (p + z) ++ l.drop p))) H
abbrev s__law_twins : Stmt := topS 49
def N__law_twins : List Str := ["_law_text", "_law_long", "_law_found", "_law_place", "_law_first", "_law_behind"]
theorem sc__law_twins : FnScope N__law_twins ["_law_text", "_law_long"] (C8.fnScope s__law_twins) := C8.fnScope_by (by decide +kernel)
def sp__law_twins : Sp := fun vs H Q _ => ∃ (l : List Nat) (L : Nat), vs = [.str (tx l), .int L] ∧ l.length ≤ 1000 ∧ L ≤ 2 ∧ 1 ≤ L ∧ ∀ D H', H D = none → Same H H' → H' D = some (.lst (nls (twinsL l L))) → Q (.ref D) H'
abbrev s__law_taken : Stmt := topS 50
def N__law_taken : List Str := ["_law_text", "_law_longs", "_law_found", "_law_long", "_law_place"]
theorem sc__law_taken : FnScope N__law_taken ["_law_text", "_law_longs"] (C8.fnScope s__law_taken) := C8.fnScope_by (by decide +kernel)
def sp__law_taken : Sp := fun vs H Q _ => ∃ (l : List Nat) (q : Addr), vs = [.str (tx l), .ref q] ∧ l.length ≤ 1000 ∧ H q = some (.tup [.int 1, .int 2]) ∧ ∀ D H', H D = none → Same H H' → H' D = some (.lst (tls (und l))) → Q (.ref D) H'
section
variable {P : Program} {w : World} {K : PySem.W.Frag} {mg : Str → Option Value} {base : Heap}
theorem c__law_copied (D : DefAt K mg "_law_copied" s__law_copied) : C8.Cal P w K mg base 1 "_law_copied" sp__law_copied [] := by
  refine cal_of D sc__law_copied (fun _ _ _ _ _ _ us hl => match us, hl with | [_, _, _], _ => rfl) (fun vs H Q E h => ?_) (fun f cdv A outer s H vs Q E hr h => ?_)
  · obtain ⟨l, z, p, rfl, _⟩ := h; rfl
  · obtain ⟨l, p, z, rfl, hl, q⟩ := h
    refine ⟨_, (pss_one (ps_ret (pe_op op_add_str (pe_slice sl_str (pv 0) po_none (po_some (pe_op op_add (pv 1) (pv 2)))) (pe_slice sl_str (pv 0) (po_some (pv 1)) po_none)))), ?_⟩
    have hz : (tx l).length ≤ sizeLine := by rw [tx_len]; exact big2 (by omega)
    refine ⟨_, rfl, _, rfl, _, rfl, _, _, rfl, rfl, _, rfl, _, rfl, hz, _, rfl, _, rfl, _, rfl, _, rfl, hz, _, _, rfl, rfl, ?_, ?_⟩
    · rw [show ((p : Int) + (z : Int)) = ((p + z : Nat) : Int) by omega, cut_to, cut_from, tx_len, tx_len]
      refine big2 ?_
      simp
      omega
    · refine qstr ?_ q
      rw [show ((p : Int) + (z : Int)) = ((p + z : Nat) : Int) by omega, cut_to, cut_from, tx_cat]
theorem c__law_twins (G : Glb K mg) (D : DefAt K mg "_law_twins" s__law_twins) : C8.Cal P w K mg base 1 "_law_twins" sp__law_twins [] := by
  refine cal_of D sc__law_twins (fun _ _ _ _ _ _ us hl => match us, hl with | [_, _], _ => rfl) (fun vs H Q E h => ?_) (fun f cdv A outer s H vs Q E hr h => ?_)
  · obtain ⟨l, L, rfl, _⟩ := h; rfl
  · obtain ⟨l, L, rfl, hl, hL, hL1, q⟩ := h
    refine ⟨_, (pss_cons (ps_set (i := 2) sc__law_twins.nd rfl (Or.inl rfl) (pe_lst pa_nil))
  (pss_cons (ps_for PassesOwn.never rfl (pi_range1 rfl G.range (pa_cons (pe_op op_add (pe_op op_sub (pe_callB call_len_str rfl G.len PySem.boot_len (pa_cons (pv 0) pa_nil)) (pe_op op_mul pe_int (pv 1))) pe_int) pa_nil)) (pg_name (i := 3) sc__law_twins.nd rfl (Or.inl rfl))
  (pss_cons (ps_par (i := 4) (j := 5) (by rfl) sc__law_twins.nd rfl rfl (by decide) rfl rfl (pa_cons (pe_slice sl_str (pv 0) (po_some (pv 3)) (po_some (pe_op op_add (pv 3) (pv 1)))) (pa_cons (pe_op op_add (pv 3) (pv 1)) pa_nil)) (by rfl))
  (pss_one (ps_if (pt_cmpR op_eq (pe_slice sl_str (pv 0) (po_some (pv 5)) (po_some (pe_op op_add (pv 5) (pv 1)))) (pv 4) (nomark _)) (pss_one (ps_expr (pe_bm PySem.F.plainAttrs_list PySem.F.slot_list_append PySem.F.type_list_append mt_append (pv 2) (pa_cons (pv 3) pa_nil)))) pss_nil))))
  (pss_one (ps_ret (pv 2))))), ?_⟩
    have hz : (tx l).length ≤ sizeLine := by rw [tx_len]; exact sz60 hl
    refine ⟨Nat.zero_le _, fun F hF => ?_⟩
    refine ⟨_, rfl, _, rfl, hz, _, rfl, _, _, rfl, rfl, .inl ⟨by decide, by decide⟩, _, _, rfl, rfl, _, _, rfl, rfl, _, rfl, by rw [tx_len]; omega, by rw [tx_len]; omega, ?_⟩
    have hn : (((tx l).length : Int) - 2 * (L : Int) + 1).toNat = l.length + 1 - 2 * L := by rw [tx_len]; omega
    rw [hn]
    refine for_it walk_range (fun j σ H' => ∃ y3 y4 y5, σ = [some (.str (tx l)), some (.int L), some (.ref F), y3, y4, y5] ∧ Same H H' ∧ H' F = some (.lst (nls ((List.range j).filter (twinAt l L))))) ⟨none, none, none, rfl, same_upd hF, upd_same⟩ (fun _ _ _ _ _ => trivial) ?_ ?_
    · rintro j x σ H3 H4 hj ⟨y3, y4, y5, rfl, s3, e4⟩ ⟨rfl, rfl⟩
      refine gN ?_
      refine ⟨_, rfl, _, rfl, _, rfl, _, rfl, _, rfl, _, _, rfl, rfl, _, rfl, _, rfl, hz, _, rfl, _, rfl, _, _, rfl, rfl, _, _, rfl, ?_⟩
      refine ⟨_, rfl, _, rfl, _, rfl, _, rfl, _, rfl, _, _, rfl, rfl, _, rfl, _, rfl, hz, _, rfl, rfl, _, rfl, ?_⟩
      show if decide (V.str (cutS (tx l) (some (0 + (j : Int) + (L : Int))) (some (0 + (j : Int) + (L : Int) + (L : Int)))) = V.str (cutS (tx l) (some (0 + (j : Int))) (some (0 + (j : Int) + (L : Int))))) = true then _ else _
      have e0 : (0 : Int) + (j : Int) = (j : Int) := by omega
      rw [e0, cutS_mid2, show ((j : Int) + (L : Int)) = ((j + L : Nat) : Int) by omega, cutS_mid2, dec_tx]
      have hadd : (List.range (j + 1)).filter (twinAt l L) = (List.range j).filter (twinAt l L) ++ (if twinAt l L j then [j] else []) := by
        rw [List.range_succ, List.filter_append]
        congr 1
        by_cases h : twinAt l L j = true <;> simp [h]
      rw [hadd]
      show if twinAt l L j = true then _ else _
      refine ite2 (fun e => ?_) (fun e => ?_)
      · rw [if_pos e]
        refine ⟨_, rfl, .inl ⟨rfl, _, .inl (.inl e4)⟩, _, rfl, F, _, _, rfl, rfl, e4, ?_, ?_⟩
        · rw [List.length_map]
          have := List.length_filter_le (twinAt l L) (List.range j)
          rw [List.length_range] at this
          exact Nat.lt_of_le_of_lt this (by rw [sizeLine_eq]; omega)
        · refine ⟨_, _, _, rfl, same_set s3 hF, ?_⟩
          rw [upd_same]
          simp
      · rw [if_neg e, List.append_nil]
        exact ⟨_, _, _, rfl, s3, e4⟩
    · rintro σ H3 ⟨y3, y4, y5, rfl, s3, e4⟩
      exact ⟨_, rfl, q F H3 hF s3 e4⟩
theorem c__law_taken (G : Glb K mg) (c__law_twins : C8.Cal P w K mg base 1 "_law_twins" sp__law_twins []) (D : DefAt K mg "_law_taken" s__law_taken) : C8.Cal P w K mg base 2 "_law_taken" sp__law_taken [] := by
  refine cal_of D sc__law_taken (fun _ _ _ _ _ _ us hl => match us, hl with | [_, _], _ => rfl) (fun vs H Q E h => ?_) (fun f cdv A outer s H vs Q E hr h => ?_)
  · obtain ⟨l, L, rfl, _⟩ := h; rfl
  · obtain ⟨l, T, rfl, hl, hT, q⟩ := h
    refine ⟨_, (pss_cons (ps_set (i := 2) sc__law_taken.nd rfl (Or.inl rfl) (pe_lst pa_nil))
  (pss_cons (ps_for PassesOwn.never rfl (pi_tup (pv 1)) (pg_name (i := 3) sc__law_taken.nd rfl (Or.inr rfl))
  (pss_one (ps_set (i := 2) sc__law_taken.nd rfl (Or.inl rfl) (pe_op op_cat (pv 2) (pe_lc (own := [("_law_place", 4)]) (g := (gName 4)) (tt := tYes) rfl sc__law_taken.nd (pi_list (C8.pe_c c__law_twins hr (by decide) rfl (pa_cons (pv 0) (pa_cons (pv 3) pa_nil)))) (blkOk_by (own := [("_law_place", 4)]) (N := N__law_taken) (sc := C8.fnScope s__law_taken) (by decide +kernel)) (fun _ _ _ _ _ => pg_name (i := 4) sc__law_taken.nd rfl (Or.inl rfl)) (fun _ _ _ _ _ => pts_nil) (fun _ _ _ _ _ => (pe_op op_add_str (pe_slice sl_str (pv 0) po_none (po_some (pv 4))) (pe_slice sl_str (pv 0) (po_some (pe_op op_add (pv 4) (pv 3))) po_none))))))))
  (pss_one (ps_ret (pv 2))))), ?_⟩
    have hz : (tx l).length ≤ sizeLine := by rw [tx_len]; exact sz60 hl
    have none_of : ∀ {H H' : Hp} {p : Addr}, Same H H' → H' p = none → H p = none := fun {H H' p} s h => by
      cases z : H p with
      | none => rfl
      | some o => rw [s _ _ z] at h; cases h
    refine ⟨Nat.zero_le _, fun F hF => ?_⟩
    refine ⟨_, rfl, T, rfl, ⟨_, .inl (.inl (same_upd hF _ _ hT))⟩, ?_⟩
    refine for_it (walk_tup (xs := [.int 1, .int 2])) (fun i σ H' => ∃ Fi y3 y4, σ = [some (.str (tx l)), some (.ref T), some (.ref Fi), y3, y4] ∧ Same H H' ∧ H Fi = none ∧ H' Fi = some (.lst (tls (if i = 0 then [] else if i = 1 then undL l 1 else und l)))) ⟨F, none, none, rfl, same_upd hF, hF, upd_same⟩ (fun i σ H' hi ⟨_, _, _, _, s, _⟩ => .inl (.inl (s _ _ hT))) ?_ ?_
    · rintro i x σ H1 H2 hi ⟨Fi, y3, y4, rfl, s1, nFi, e2⟩ ⟨rfl, hx⟩
      obtain ⟨L, rfl, hL, hpre, hnx⟩ : ∃ L : Nat, x = .int L ∧ 1 ≤ L ∧ L ≤ 2 ∧ (if i + 1 = 0 then ([] : List (List Nat)) else if i + 1 = 1 then undL l 1 else und l) = (if i = 0 then [] else if i = 1 then undL l 1 else und l) ++ undL l L := by
        have hi : i < 2 := hi
        match i, hi with
        | 0, _ => exact ⟨1, (Option.some.inj hx).symm, by decide, by decide, rfl⟩
        | 1, _ => exact ⟨2, (Option.some.inj hx).symm, by decide, by decide, rfl⟩
      rw [hnx]
      have hBl : (if i = 0 then [] else if i = 1 then undL l 1 else und l).length ≤ 4000 := by
        have h1 : (undL l 1).length ≤ 2000 := by unfold undL; rw [List.length_map]; exact Nat.le_trans (undP_lenA l 1) (by omega)
        have h2 : (undL l 2).length ≤ 2000 := by unfold undL; rw [List.length_map]; exact Nat.le_trans (undP_lenA l 2) (by omega)
        split
        · exact Nat.zero_le _
        · split
          · omega
          · unfold und; rw [List.length_append]; omega
      generalize (if i = 0 then [] else if i = 1 then undL l 1 else und l) = B at e2 hBl
      refine gN ?_
      refine ⟨_, rfl, _, rfl, _, rfl, l, L, rfl, hl, hpre, hL, fun D3 H3 nD3 s3 e3 => ?_⟩
      refine ⟨D3, rfl, ⟨_, .inl (.inl e3)⟩, fun D4 nD4 => ?_⟩
      refine lc_it (walk_list (xs := nls (twinsL l L))) (fun j H' => Same H3 H' ∧ H' D4 = some (.lst (tls (((twinsL l L).take j).map fun p => l.take p ++ l.drop (p + L))))) ⟨same_upd nD4, by rw [upd_same]; rfl⟩ (fun j H' hj h => .inl (.inl (h.1 _ _ e3))) ?_ ?_
      · rintro j x H5 H6 hj ⟨s5, e5⟩ ⟨rfl, hx⟩
        obtain ⟨p, hp, rfl⟩ : ∃ p : Nat, (twinsL l L)[j]? = some p ∧ V.int p = x := by
          rw [List.getElem?_map] at hx
          simpa using hx
        refine ⟨rfl, _, rfl, _, rfl, _, rfl, _, rfl, hz, _, rfl, _, rfl, _, rfl, _, _, rfl, rfl, _, rfl, _, rfl, hz, _, _, rfl, rfl, ?_, _, e5, ?_, same_set s5 nD4, ?_⟩
        · show (cutS (tx l) none (some (p : Int))).length + (cutS (tx l) (some ((p : Int) + (L : Int))) none).length ≤ _
          rw [show ((p : Int) + (L : Int)) = ((p + L : Nat) : Int) by omega, cut_to, cut_from, tx_len, tx_len]
          refine big2 ?_
          simp
          omega
        · rw [List.length_map, List.length_map, List.length_take]
          have := undP_lenA l L
          exact Nat.lt_of_le_of_lt (Nat.min_le_right _ _) (Nat.lt_of_le_of_lt this (by rw [sizeLine_eq]; omega))
        · rw [upd_same, List.take_add_one, hp]
          show some (HO.lst (_ ++ [V.str (cutS (tx l) none (some (p : Int)) ++ cutS (tx l) (some ((p : Int) + (L : Int))) none)])) = _
          rw [show ((p : Int) + (L : Int)) = ((p + L : Nat) : Int) by omega, cut_to, cut_from, tx_cat]
          simp
      · rintro H5 ⟨s5, e5⟩
        rw [List.length_map, List.take_length] at e5
        have s25 : Same H2 H5 := s3.trans s5
        have hul : (undL l L).length ≤ 2000 := by unfold undL; rw [List.length_map]; exact Nat.le_trans (undP_lenA l L) (by omega)
        refine ⟨Fi, D4, _, _, rfl, rfl, s25 _ _ e2, e5, ?_, fun p np => ?_⟩
        · rw [List.length_map, List.length_map, sizeLine_eq]
          have : ((twinsL l L).map fun p => l.take p ++ l.drop (p + L)).length ≤ 2000 := hul
          omega
        · refine ⟨p, _, _, rfl, (s1.trans s25).trans (same_upd np), none_of (s1.trans s25) np, ?_⟩
          rw [upd_same]
          unfold undL
          simp
    · rintro σ H1 ⟨Fi, y3, y4, rfl, s1, nFi, e2⟩
      exact ⟨_, rfl, q Fi H1 nFi s1 e2⟩
end
end TW
set_option Elab.async false
set_option linter.all false
set_option maxRecDepth 100000
set_option maxHeartbeats 4000000
namespace TW
open PySem PySem.Spec PyProof.Rows L2 LamX
theorem Lo.of_R {e w : List Nat} (o : Lo w) (h : TW.R e w) : Lo e := fun c hc => o c (h.mem c hc)
theorem R.len {e w : List Nat} (h : TW.R e w) : e.length ≤ w.length := by
  obtain ⟨n, h⟩ := h
  have := h.len
  omega
theorem none_of {H H' : Hp} {p : Addr} (s : Same H H') (h : H' p = none) : H p = none := by
  cases z : H p with
  | none => rfl
  | some o => rw [s _ _ z] at h; cases h
theorem und_len (x : List Nat) : (und x).length ≤ 2 * x.length + 2 := by
  have h1 : (undL x 1).length ≤ x.length + 1 := by unfold undL; rw [List.length_map]; exact undP_lenA x 1
  have h2 : (undL x 2).length ≤ x.length + 1 := by unfold undL; rw [List.length_map]; exact undP_lenA x 2
  unfold und
  rw [List.length_append]
  omega
abbrev s__law_bottom : Stmt := topS 52
def N__law_bottom : List Str := ["_law_text", "_law_longs", "_law_found", "_law_some"]
theorem sc__law_bottom : FnScope N__law_bottom ["_law_text", "_law_longs"] (C8.fnScope s__law_bottom) := C8.fnScope_by (by decide +kernel)
def sp__law_bottom : Sp := fun vs H Q _ => ∃ (l : List Nat) (q : Addr), vs = [.str (tx l), .ref q] ∧ l.length ≤ 1000 ∧ Lo l ∧ H q = some (.tup [.int 1, .int 2]) ∧ ∀ H', Same H H' → Q (.str (tx (root l))) H'
abbrev s__law_olds : Stmt := topS 51
def N__law_olds : List Str := ["_law_text", "_law_longs", "_law_found", "_law_last", "_law_many", "_law_fresh", "_law_here", "_law_old"]
theorem sc__law_olds : FnScope N__law_olds ["_law_text", "_law_longs"] (C8.fnScope s__law_olds) := C8.fnScope_by (by decide +kernel)
/-- a dict from texts to numbers -/
abbrev dn (found : List (List Nat × Nat)) : List (Key × V) := found.map fun e => ((Sum.inr (tx e.1) : Key), V.int e.2)
def sp__law_olds : Sp := fun vs H Q _ => ∃ (l : List Nat) (q : Addr), vs = [.str (tx l), .ref q] ∧ l.length ≤ 1000 ∧ Lo l ∧ H q = some (.tup [.int 1, .int 2]) ∧ (∀ L : List (List Nat), L.Nodup → (∀ x ∈ L, TW.R x l) → L.length ≤ 100000) ∧
  ∀ d found H', H d = none → Same H H' → H' d = some (.dK (dn found)) → (found.map (·.1)).Nodup → (∀ x n, (x, n) ∈ found ↔ D x l n) → Q (.ref d) H'
theorem val_dn (found : List (List Nat × Nat)) (e : List Nat) : (valV (dn found) (Sum.inr (tx e))).isSome = decide (e ∈ found.map (·.1)) := by
  unfold valV
  rw [Option.isSome_map, Bool.eq_iff_iff, List.find?_isSome, decide_eq_true_eq]
  constructor
  · rintro ⟨kv, hkv, h⟩
    obtain ⟨x, hx, rfl⟩ := List.mem_map.mp hkv
    have : x.1 = e := tx_inj (Sum.inr.inj (of_decide_eq_true h))
    exact this ▸ List.mem_map.mpr ⟨x, hx, rfl⟩
  · intro h
    obtain ⟨x, hx, rfl⟩ := List.mem_map.mp h
    exact ⟨_, List.mem_map.mpr ⟨x, hx, rfl⟩, decide_eq_true rfl⟩
theorem put_dn {found : List (List Nat × Nat)} {e : List Nat} {n : Nat} (h : e ∉ found.map (·.1)) : putK (dn found) (Sum.inr (tx e)) (.int n) = dn (found ++ [(e, n)]) := by
  unfold putK
  rw [if_neg]
  · simp
  · rw [List.any_map, List.any_eq_true]
    rintro ⟨x, hx, hh⟩
    have : x.1 = e := tx_inj (Sum.inr.inj (of_decide_eq_true hh))
    exact h (this ▸ List.mem_map.mpr ⟨x, hx, rfl⟩)
section
variable {P : Program} {w : World} {K : PySem.W.Frag} {mg : Str → Option Value} {base : Heap}
theorem c__law_bottom (c__law_taken : C8.Cal P w K mg base 2 "_law_taken" sp__law_taken []) (D : DefAt K mg "_law_bottom" s__law_bottom) : C8.Cal P w K mg base 3 "_law_bottom" sp__law_bottom [] := by
  refine cal_of D sc__law_bottom (fun _ _ _ _ _ _ us hl => match us, hl with | [_, _], _ => rfl) (fun vs H Q E h => ?_) (fun f cdv A outer s H vs Q E hr h => ?_)
  · obtain ⟨l, L, rfl, _⟩ := h; rfl
  · obtain ⟨l, T, rfl, hl, lo, hT, q⟩ := h
    refine ⟨_, (pss_cons (ps_set (i := 2) sc__law_bottom.nd rfl (Or.inl rfl) (pv 0))
  (pss_cons (ps_set (i := 3) sc__law_bottom.nd rfl (Or.inl rfl) (C8.pe_c c__law_taken hr (by decide) rfl (pa_cons (pv 2) (pa_cons (pv 1) pa_nil))))
  (pss_cons (ps_while PassesOwn.never (pt_cmpR (op_neD hr.units) (pv 3) (pe_lst pa_nil) (nomark _))
  (pss_cons (ps_set (i := 2) sc__law_bottom.nd rfl (Or.inl rfl) (pe_ix ix_list (pv 3) pe_int (fun _ _ => rfl)))
  (pss_one (ps_set (i := 3) sc__law_bottom.nd rfl (Or.inl rfl) (C8.pe_c c__law_taken hr (by decide) rfl (pa_cons (pv 2) (pa_cons (pv 1) pa_nil)))))))
  (pss_one (ps_ret (pv 2)))))), ?_⟩
    refine ⟨_, rfl, _, rfl, _, rfl, l, T, rfl, hl, hT, fun D1 H1 nD1 s1 e1 => ?_⟩
    refine gN ?_
    refine ⟨fun mm σ H' => ∃ b Df, σ = [some (.str (tx l)), some (.ref T), some (.str (tx b)), some (.ref Df)] ∧ TW.R b l ∧ Same H H' ∧ H' Df = some (.lst (tls (und b))) ∧ mm = b.length, ⟨_, l, D1, rfl, .refl _, s1, e1, rfl⟩, ?_⟩
    rintro mm σ H2 ⟨b, Df, rfl, hbl, s2, e2, rfl⟩
    refine ⟨_, rfl, Nat.zero_le _, fun E0 nE => ?_⟩
    have s3 : Same H (upd H2 E0 (.lst [])) := s2.trans (same_upd nE)
    have e3 : upd H2 E0 (.lst []) Df = some (.lst (tls (und b))) := by rw [upd_ne (ne_of_none e2 nE)]; exact e2
    have ee : upd H2 E0 (.lst []) E0 = some (.lst []) := upd_same
    generalize upd H2 E0 (.lst []) = H3 at s3 e3 ee
    have hb1000 : b.length ≤ 1000 := Nat.le_trans hbl.len hl
    refine ⟨_, _, .lst (.inl (.inl e3)) (tls_dp _), .lst (.inl (.inl ee)) .nil, shaped_tls (fun x hx => lo.of_R ((R.tail (.refl _) (mem_und.mp hx)).trans hbl)), rfl, _, rfl, ?_⟩
    rw [eqv_nil]
    cases hu : und b with
    | nil =>
      refine iteF ?_
      refine ⟨_, rfl, ?_⟩
      rw [← root_of_bottom hbl hu]
      exact q H3 s3
    | cons x r =>
      refine iteT ?_
      have hc : Cp x b := mem_und.mp (by rw [hu]; exact List.mem_cons_self ..)
      refine ⟨fun σ' H' => ∃ m', m' < b.length ∧ ∃ b Df, σ' = [some (.str (tx l)), some (.ref T), some (.str (tx b)), some (.ref Df)] ∧ TW.R b l ∧ Same H H' ∧ H' Df = some (.lst (tls (und b))) ∧ m' = b.length, fun σ' H' h => h, ?_⟩
      rw [hu] at e3
      refine ⟨_, rfl, Df, _, 0, .str (tx x), rfl, rfl, .inl (.inl e3), atI_nat (j := 0) rfl, ?_⟩
      refine gN ?_
      have hx : x.length < b.length := hc.len
      refine ⟨_, rfl, _, rfl, x, T, rfl, by omega, s3 _ _ hT, fun D4 H4 nD4 s4 e4 => ?_⟩
      exact ⟨x.length, hx, x, D4, rfl, (R.tail (.refl _) hc).trans hbl, s3.trans s4, e4, rfl⟩
theorem c__law_olds (c__law_taken : C8.Cal P w K mg base 2 "_law_taken" sp__law_taken []) (D : DefAt K mg "_law_olds" s__law_olds) : C8.Cal P w K mg base 3 "_law_olds" sp__law_olds [] := by
  refine cal_of D sc__law_olds (fun _ _ _ _ _ _ us hl => match us, hl with | [_, _], _ => rfl) (fun vs H Q E h => ?_) (fun f cdv A outer s H vs Q E hr h => ?_)
  · obtain ⟨l, L, rfl, _⟩ := h; rfl
  · obtain ⟨l, T, rfl, hl, lo, hT, hB, q⟩ := h
    have hu1 : (cxOf C8.CX0 P w K mg base N__law_olds "_law_olds" (C8.fnScope s__law_olds) f cdv A outer s H E).nox.A.units + 1 < cLine := by
      have := hr.units
      exact Nat.lt_of_le_of_lt (by show _ ≤ _ + 64; exact Nat.add_le_add_left (by decide) _) this
    refine ⟨_, (pss_cons (ps_par3 (i := 2) (j := 3) (l := 4) (by rfl) sc__law_olds.nd rfl rfl rfl (by decide) (by decide) (by decide) rfl rfl rfl (pa_cons (pe_disp (pps_cons (pv 0) pe_int pps_nil) (by rfl) (by rfl) (fun z => by cases z) (by decide)) (pa_cons (pe_lst (pa_cons (pv 0) pa_nil)) (pa_cons pe_int pa_nil))) (by rfl))
  (pss_cons (ps_while PassesOwn.never (pt_cmpR (op_neD hr.units) (pv 3) (pe_lst pa_nil) (nomark _))
  (pss_cons (ps_par (i := 5) (j := 4) (by rfl) sc__law_olds.nd rfl rfl (by decide) rfl rfl (pa_cons (pe_lst pa_nil) (pa_cons (pe_op op_add (pv 4) pe_int) pa_nil)) (by rfl))
  (pss_cons (ps_for PassesOwn.never rfl (pi_list (pv 3)) (pg_name (i := 6) sc__law_olds.nd rfl (Or.inl rfl))
  (pss_one (ps_for PassesOwn.never rfl (pi_list (C8.pe_c c__law_taken hr (by decide) rfl (pa_cons (pv 6) (pa_cons (pv 1) pa_nil)))) (pg_name (i := 7) sc__law_olds.nd rfl (Or.inl rfl))
  (pss_one (ps_if (pt_cmp (pc_dnotin hu1 (pv 7) (pv 2)) ) (pss_cons (ps_dput hu1 (pv 2) (pv 7) (pv 4) rfl)
  (pss_one (ps_expr (pe_bm PySem.F.plainAttrs_list PySem.F.slot_list_append PySem.F.type_list_append mt_append (pv 5) (pa_cons (pv 7) pa_nil))))) pss_nil)))))
  (pss_one (ps_set (i := 3) sc__law_olds.nd rfl (Or.inl rfl) (pv 5))))))
  (pss_one (ps_ret (pv 2))))), ?_⟩
    refine fun d nd => ?_
    have s1 : Same H (upd H d (.dK [])) := same_upd nd
    have ed : upd H d (.dK []) d = some (.dK []) := upd_same
    generalize upd H d (.dK []) = H1 at s1 ed
    refine ⟨_, rfl, ed, [(Sum.inr (tx l), .int 0)], rfl, by simp, ?_⟩
    have s3 : Same H (upd H1 d (.dK (mergeK [] [(Sum.inr (tx l), .int 0)]))) := same_set s1 nd
    have ed3 : upd H1 d (.dK (mergeK [] [(Sum.inr (tx l), .int 0)])) d = some (.dK (dn [(l, 0)])) := upd_same
    generalize upd H1 d (.dK (mergeK [] [(Sum.inr (tx l), .int 0)])) = H3 at s3 ed3
    refine ⟨_, rfl, small1000 (by simp), fun Wt nW => ⟨_, _, _, rfl, ?_⟩⟩
    have s4 : Same H (upd H3 Wt (.lst [.str (tx l)])) := s3.trans (same_upd nW)
    have ed4 : upd H3 Wt (.lst [.str (tx l)]) d = some (.dK (dn [(l, 0)])) := by rw [upd_ne (ne_of_none ed3 nW)]; exact ed3
    have eW4 : upd H3 Wt (.lst [.str (tx l)]) Wt = some (.lst (tls [l])) := upd_same
    generalize upd H3 Wt (.lst [.str (tx l)]) = H4 at s4 ed4 eW4
    refine ⟨fun mm σ H' => ∃ Wt m found last y5 y6 y7, σ = [some (.str (tx l)), some (.ref T), some (.ref d), some (.ref Wt), some (.int (m : Nat)), y5, y6, y7] ∧ Same H H' ∧ H' d = some (.dK (dn found)) ∧ H' Wt = some (.lst (tls last)) ∧ BHead l m found last ∧ mm = l.length + 1 - m, ⟨_, Wt, 0, [(l, 0)], [l], none, none, none, rfl, s4, ed4, eW4, .start l, rfl⟩, ?_⟩
    rintro mm σ H5 ⟨Wt, m, found, last, y5, y6, y7, rfl, s5, ed5, eW5, bh, rfl⟩
    have lasts : ∀ x ∈ last, TW.R x l := fun x hx => ⟨m, ((bh.last x).mp hx).1⟩
    refine ⟨_, rfl, Nat.zero_le _, fun E0 nE => ?_⟩
    have s6 : Same H (upd H5 E0 (.lst [])) := s5.trans (same_upd nE)
    have ed6 : upd H5 E0 (.lst []) d = some (.dK (dn found)) := by rw [upd_ne (ne_of_none ed5 nE)]; exact ed5
    have eW6 : upd H5 E0 (.lst []) Wt = some (.lst (tls last)) := by rw [upd_ne (ne_of_none eW5 nE)]; exact eW5
    have eE6 : upd H5 E0 (.lst []) E0 = some (.lst []) := upd_same
    generalize upd H5 E0 (.lst []) = H6 at s6 ed6 eW6 eE6
    refine ⟨_, _, .lst (.inl (.inl eW6)) (tls_dp _), .lst (.inl (.inl eE6)) .nil, shaped_tls (fun x hx => lo.of_R (lasts x hx)), rfl, _, rfl, ?_⟩
    rw [eqv_nil]
    cases last with
    | nil =>
      refine iteF ?_
      exact ⟨_, rfl, q d found H6 nd s6 ed6 bh.nd bh.done⟩
    | cons z0 lr =>
      refine iteT ?_
      have hmb := bh.bound (by simp)
      generalize z0 :: lr = last at *
      refine ⟨fun σ' H' => ∃ m', m' < l.length + 1 - m ∧ ∃ Wt m found last y5 y6 y7, σ' = [some (.str (tx l)), some (.ref T), some (.ref d), some (.ref Wt), some (.int (m : Nat)), y5, y6, y7] ∧ Same H H' ∧ H' d = some (.dK (dn found)) ∧ H' Wt = some (.lst (tls last)) ∧ BHead l m found last ∧ m' = l.length + 1 - m, fun σ' H' h => h, ?_⟩
      refine ⟨Nat.zero_le _, fun Fr nFr => ?_⟩
      have nFrH : H Fr = none := none_of s6 nFr
      have s7 : Same H (upd H6 Fr (.lst [])) := s6.trans (same_upd nFr)
      have ed7 : upd H6 Fr (.lst []) d = some (.dK (dn found)) := by rw [upd_ne (ne_of_none ed6 nFr)]; exact ed6
      have eW7 : upd H6 Fr (.lst []) Wt = some (.lst (tls last)) := by rw [upd_ne (ne_of_none eW6 nFr)]; exact eW6
      have eF7 : upd H6 Fr (.lst []) Fr = some (.lst (tls [])) := upd_same
      have nWF : Wt ≠ Fr := ne_of_none eW6 nFr
      have ndF : d ≠ Fr := ne_of_none ed6 nFr
      have ndW : d ≠ Wt := fun z => by rw [z, eW6] at ed6; cases ed6
      generalize upd H6 Fr (.lst []) = H7 at s7 ed7 eW7 eF7
      refine ⟨_, rfl, _, _, rfl, rfl, _, _, rfl, ?_⟩
      have hm1 : ((m : Int) + 1) = ((m + 1 : Nat) : Int) := by omega
      refine ⟨_, rfl, Wt, rfl, ⟨_, .inl (.inl eW7)⟩, ?_⟩
      refine for_it (walk_list (xs := tls last)) (fun i σ H' => ∃ found fresh y6 y7, σ = [some (.str (tx l)), some (.ref T), some (.ref d), some (.ref Wt), some (.int (m + 1 : Nat)), some (.ref Fr), y6, y7] ∧ Same H H' ∧ H' d = some (.dK (dn found)) ∧ H' Wt = some (.lst (tls last)) ∧ H' Fr = some (.lst (tls fresh)) ∧ BMid l m ((last.take i).flatMap und) found fresh)
        ⟨found, [], y6, y7, by rw [← hm1]; rfl, s7, ed7, eW7, eF7, bh.mid⟩ (fun i σ H' hi ⟨_, _, _, _, _, _, _, a, _⟩ => .inl (.inl a)) ?_ ?_
      · rintro i xv σ H8 H9 hi ⟨fo, fr, y6, y7, rfl, s8, ed8, eW8, eF8, bm⟩ ⟨rfl, hx⟩
        obtain ⟨h, hh, rfl⟩ : ∃ h, last[i]? = some h ∧ V.str (tx h) = xv := by
          rw [List.getElem?_map] at hx
          simpa using hx
        have hlm : h ∈ last := List.mem_of_getElem? hh
        have hRh := lasts h hlm
        have htk : (last.take (i + 1)).flatMap und = (last.take i).flatMap und ++ und h := by
          rw [List.take_add_one, hh, List.flatMap_append]
          simp
        refine gN ?_
        refine ⟨_, rfl, _, rfl, h, T, rfl, Nat.le_trans hRh.len hl, s8 _ _ hT, fun D H10 nD s10 eD => ?_⟩
        refine ⟨D, rfl, ⟨_, .inl (.inl eD)⟩, ?_⟩
        have nDd : D ≠ d := fun z => by rw [z, ed8] at nD; cases nD
        have nDW : D ≠ Wt := fun z => by rw [z, eW8] at nD; cases nD
        have nDF : D ≠ Fr := fun z => by rw [z, eF8] at nD; cases nD
        refine for_it (walk_list (xs := tls (und h))) (fun j σ H' => ∃ found fresh y7, σ = [some (.str (tx l)), some (.ref T), some (.ref d), some (.ref Wt), some (.int (m + 1 : Nat)), some (.ref Fr), some (.str (tx h)), y7] ∧ Same H H' ∧ H' d = some (.dK (dn found)) ∧ H' Wt = some (.lst (tls last)) ∧ H' Fr = some (.lst (tls fresh)) ∧ H' D = some (.lst (tls (und h))) ∧ BMid l m ((last.take i).flatMap und ++ (und h).take j) found fresh)
          ⟨fo, fr, y7, rfl, s8.trans s10, s10 _ _ ed8, s10 _ _ eW8, s10 _ _ eF8, eD, by rw [List.take_zero, List.append_nil]; exact bm⟩ (fun j σ H' hj ⟨_, _, _, _, _, _, _, _, a, _⟩ => .inl (.inl a)) ?_ ?_
        · rintro j xv σ H11 H12 hj ⟨fo, fr, y7, rfl, s11, ed11, eW11, eF11, eD11, bm⟩ ⟨rfl, hx⟩
          obtain ⟨e, he, rfl⟩ : ∃ e, (und h)[j]? = some e ∧ V.str (tx e) = xv := by
            rw [List.getElem?_map] at hx
            simpa using hx
          have hcp : Cp e h := mem_und.mp (List.mem_of_getElem? he)
          have htk2 : (last.take i).flatMap und ++ (und h).take (j + 1) = ((last.take i).flatMap und ++ (und h).take j) ++ [e] := by
            rw [List.take_add_one, he, List.append_assoc]
            rfl
          rw [htk2]
          have hfl : fo.length ≤ 100000 := by
            have := hB (fo.map (·.1)) bm.nd (fun x hx => by
              obtain ⟨n, hn⟩ := mem_keys.mp hx
              exact ⟨n, (bm.snd x n hn).1.1⟩)
            rwa [List.length_map] at this
          refine gN (ifS ?_)
          refine ⟨_, rfl, _, rfl, d, _, rfl, .inl ⟨dn fo, Sum.inr (tx e), .inl ed11, rfl, rfl⟩, _, rfl, ?_⟩
          rw [val_dn]
          by_cases hin : e ∈ fo.map (·.1)
          · rw [decide_eq_true hin]
            refine iteF ?_
            exact ⟨fo, fr, _, rfl, s11, ed11, eW11, eF11, eD11, bm.skip hin⟩
          · rw [decide_eq_false hin]
            refine iteT ?_
            have bm2 := bm.add ((bh.last h).mp hlm) hcp hin
            refine ⟨_, rfl, _, rfl, _, rfl, d, _, rfl, .inl ⟨dn fo, Sum.inr (tx e), ed11, rfl, ?_, rfl⟩, ?_⟩
            · rw [List.length_map, sizeLine_eq]; omega
            rw [put_dn hin]
            have eW13 : upd H12 d (.dK (dn (fo ++ [(e, m + 1)]))) Wt = some (.lst (tls last)) := by rw [upd_ne (Ne.symm ndW)]; exact eW11
            have eF13 : upd H12 d (.dK (dn (fo ++ [(e, m + 1)]))) Fr = some (.lst (tls fr)) := by rw [upd_ne (Ne.symm ndF)]; exact eF11
            have ed13 : upd H12 d (.dK (dn (fo ++ [(e, m + 1)]))) d = some (.dK (dn (fo ++ [(e, m + 1)]))) := upd_same
            have eD13 : upd H12 d (.dK (dn (fo ++ [(e, m + 1)]))) D = some (.lst (tls (und h))) := by rw [upd_ne nDd]; exact eD11
            have s13 : Same H (upd H12 d (.dK (dn (fo ++ [(e, m + 1)])))) := same_set s11 nd
            generalize upd H12 d (.dK (dn (fo ++ [(e, m + 1)]))) = H13 at eW13 eF13 ed13 eD13 s13
            refine ⟨_, rfl, .inl ⟨rfl, _, .inl (.inl eF13)⟩, _, rfl, Fr, _, _, rfl, rfl, eF13, ?_, ?_⟩
            · rw [List.length_map, sizeLine_eq]
              have := bm.len
              omega
            exact ⟨_, fr ++ [e], _, rfl, same_set s13 nFrH, by rw [upd_ne ndF]; exact ed13, by rw [upd_ne nWF]; exact eW13, by rw [upd_same]; simp, by rw [upd_ne nDF]; exact eD13, bm2⟩
        · rintro σ H11 ⟨fo, fr, y7, rfl, s11, ed11, eW11, eF11, eD11, bm⟩
          rw [List.length_map, List.take_length] at bm
          refine ⟨fo, fr, _, _, rfl, s11, ed11, eW11, eF11, ?_⟩
          rw [htk]
          exact bm
      · rintro σ H8 ⟨fo, fr, y6, y7, rfl, s8, ed8, eW8, eF8, bm⟩
        rw [List.length_map, List.take_length] at bm
        have bh2 := bm.head bh.last (fun f hf e c => List.mem_flatMap.mpr ⟨f, hf, mem_und.mpr c⟩)
        exact ⟨_, rfl, _, by omega, Fr, m + 1, fo, fr, _, _, _, rfl, s8, ed8, eF8, bh2, rfl⟩
end
end TW
set_option Elab.async false
set_option linter.all false
set_option maxRecDepth 100000
set_option maxHeartbeats 4000000
namespace TW
open PySem PySem.Spec PyProof.Rows L2 LamX
abbrev s__law_mixed : Stmt := topS 36
def N__law_mixed : List Str := ["_law_cell", "_law_n", "_law_blend"]
theorem sc__law_mixed : FnScope N__law_mixed ["_law_cell", "_law_n"] (C8.fnScope s__law_mixed) := C8.fnScope_by (by decide +kernel)
def sp__law_mixed : Sp := fun vs H Q _ => ∃ (c : Int) (n : Nat), vs = [.int c, .int n] ∧ n ≤ 1000000 ∧ ∀ r : Int, Q (.int r) H
/-- the drawer: its cells, its great numbers, how many were drawn -/
structure MSt (H : Hp) (M C Gr : Addr) (n : Nat) : Prop where
  m : H M = some (.dK [(Sum.inr ("cells" : Str), .ref C), (Sum.inr ("great" : Str), .ref Gr), (Sum.inr ("spot" : Str), .int (n : Nat))])
  c : ∃ cs : List Int, H C = some (.lst (cs.map V.int)) ∧ cs.length = 64
  g : ∃ gs : List Int, H Gr = some (.lst (gs.map V.int)) ∧ gs.length ≤ 1000
  cg : C ≠ Gr
/-- all but the drawer stays -/
def FrM (M Gr : Addr) (H H' : Hp) : Prop := ∀ b o, b ≠ M → b ≠ Gr → H b = some o → H' b = some o
theorem FrM.refl {M Gr : Addr} {H : Hp} : FrM M Gr H H := fun _ _ _ _ e => e
theorem FrM.trans {M Gr : Addr} {H H1 H2 : Hp} (a : FrM M Gr H H1) (b : FrM M Gr H1 H2) : FrM M Gr H H2 := fun c o h1 h2 e => b c o h1 h2 (a c o h1 h2 e)
theorem FrM.same {M Gr : Addr} {H H1 : Hp} (a : Same H H1) : FrM M Gr H H1 := fun c o _ _ e => a c o e
theorem MSt.same {H H' : Hp} {M C Gr : Addr} {n : Nat} (h : MSt H M C Gr n) (s : Same H H') : MSt H' M C Gr n :=
  ⟨s _ _ h.m, let ⟨cs, a, b⟩ := h.c; ⟨cs, s _ _ a, b⟩, let ⟨gs, a, b⟩ := h.g; ⟨gs, s _ _ a, b⟩, h.cg⟩
abbrev s__law_draw : Stmt := topS 38
def N__law_draw : List Str := ["_law_m", "_law_limit", "_law_n", "_law_lot", "_law_here", "_law_cell"]
theorem sc__law_draw : FnScope N__law_draw ["_law_m", "_law_limit"] (C8.fnScope s__law_draw) := C8.fnScope_by (by decide +kernel)
def sp__law_draw : Sp := fun vs H Q _ => ∃ (M C Gr : Addr) (L n : Nat), vs = [.ref M, .int L] ∧ 1 ≤ L ∧ L ≤ 100000 ∧ MSt H M C Gr n ∧ n ≤ 100000 ∧ ∀ (r : Nat) H', r < L → MSt H' M C Gr (n + 1) → FrM M Gr H H' → Q (.int (r : Nat)) H'
theorem dp_ints {K : PySem.W.Frag} {H : Hp} : ∀ L : List Int, DpAll K H (L.map V.int) (L.map PyData.int)
  | [] => .nil
  | x :: L => .cons (.int _) (dp_ints L)
theorem shaped_ints (L : List Int) : SeqAt.shaped (.list (L.map PyData.int)) = true := shaped_list fun d hd => by
  obtain ⟨x, _, rfl⟩ := List.mem_map.mp hd
  exact ⟨rfl, by simp [PyData.depth]⟩
theorem spot_put (C Gr : Addr) (n m : Nat) : putK [((Sum.inr ("cells" : Str) : Key), V.ref C), (Sum.inr ("great" : Str), .ref Gr), (Sum.inr ("spot" : Str), .int (n : Nat))] (Sum.inr ("spot" : Str)) (.int (m : Nat)) = [(Sum.inr ("cells" : Str), .ref C), (Sum.inr ("great" : Str), .ref Gr), (Sum.inr ("spot" : Str), .int (m : Nat))] := by
  have h1 : ¬ ((Sum.inr ("cells" : Str) : Key) = Sum.inr ("spot" : Str)) := by decide
  have h2 : ¬ ((Sum.inr ("great" : Str) : Key) = Sum.inr ("spot" : Str)) := by decide
  unfold putK
  rw [if_pos (by simp)]
  simp only [List.map_cons, List.map_nil]
  rw [if_neg h1, if_neg h2, if_pos trivial]
theorem val3 (C Gr : Addr) (n : Nat) : valV [((Sum.inr ("cells" : Str) : Key), V.ref C), (Sum.inr ("great" : Str), .ref Gr), (Sum.inr ("spot" : Str), .int (n : Nat))] (Sum.inr ("cells" : Str)) = some (.ref C) ∧
    valV [((Sum.inr ("cells" : Str) : Key), V.ref C), (Sum.inr ("great" : Str), .ref Gr), (Sum.inr ("spot" : Str), .int (n : Nat))] (Sum.inr ("great" : Str)) = some (.ref Gr) ∧
    valV [((Sum.inr ("cells" : Str) : Key), V.ref C), (Sum.inr ("great" : Str), .ref Gr), (Sum.inr ("spot" : Str), .int (n : Nat))] (Sum.inr ("spot" : Str)) = some (.int (n : Nat)) := by
  have h1 : ¬ ((Sum.inr ("cells" : Str) : Key) = Sum.inr ("spot" : Str)) := by decide
  have h2 : ¬ ((Sum.inr ("great" : Str) : Key) = Sum.inr ("spot" : Str)) := by decide
  have h3 : ¬ ((Sum.inr ("cells" : Str) : Key) = Sum.inr ("great" : Str)) := by decide
  unfold valV
  refine ⟨?_, ?_, ?_⟩
  · rw [List.find?_cons_of_pos (by simp)]; rfl
  · rw [List.find?_cons_of_neg (by simpa using h3), List.find?_cons_of_pos (by simp)]; rfl
  · rw [List.find?_cons_of_neg (by simpa using h1), List.find?_cons_of_neg (by simpa using h2), List.find?_cons_of_pos (by simp)]; rfl
section
variable {P : Program} {w : World} {K : PySem.W.Frag} {mg : Str → Option Value} {base : Heap}
theorem c__law_mixed (G : Glb K mg) (D : DefAt K mg "_law_mixed" s__law_mixed) : C8.Cal P w K mg base 1 "_law_mixed" sp__law_mixed [] := by
  refine cal_of D sc__law_mixed (fun _ _ _ _ _ _ us hl => match us, hl with | [_, _], _ => rfl) (fun vs H Q E h => ?_) (fun f cdv A outer s H vs Q E hr h => ?_)
  · obtain ⟨l, z, rfl, _⟩ := h; rfl
  · obtain ⟨c, n, rfl, hn, q⟩ := h
    refine ⟨_, (pss_cons (ps_set (i := 2) sc__law_mixed.nd rfl (Or.inl rfl) (pe_op op_add (pe_op op_add (pe_op op_mod (pe_callTy call_int1 rfl G.int (by decide +kernel) (pa_cons (pe_op op_mul (pe_op op_mul (pv 0) (pe_op op_add pe_int (pe_op op_mul pe_int (pv 1)))) pe_int) pa_nil)) pe_int) (pe_op op_mul (pe_op op_mul pe_int (pv 1)) (pv 1))) (pe_op op_mul pe_int (pv 1))))
  (pss_one (ps_ret (pe_op op_fdiv (pe_op op_mod (pe_callTy call_int1 rfl G.int (by decide +kernel) (pa_cons (pe_op op_mul (pv 2) pe_int) pa_nil)) pe_int) pe_int)))), ?_⟩
    refine ⟨_, rfl, _, rfl, _, _, rfl, rfl, .inl ⟨by decide, by decide⟩, _, _, rfl, rfl, _, _, rfl, rfl, .inr ⟨by omega, by omega⟩, _, _, rfl, rfl, .inr ⟨by decide, by decide⟩, .inl ⟨_, rfl, ?_⟩⟩
    refine ⟨_, _, rfl, rfl, by show (0 : Int) < 2147483647; decide, _, rfl, _, _, rfl, rfl, .inl ⟨by decide, by decide⟩, _, rfl, _, _, rfl, rfl, .inr ⟨by omega, by omega⟩, _, _, rfl, rfl, _, rfl, _, _, rfl, rfl, .inl ⟨by decide, by decide⟩, _, _, rfl, rfl, ?_⟩
    refine ⟨_, rfl, _, _, rfl, rfl, .inr ⟨by decide, by decide⟩, .inl ⟨_, rfl, _, _, rfl, rfl, by show (0 : Int) < 2147483629; decide, _, _, rfl, rfl, ⟨by decide, by decide⟩, q _⟩⟩
theorem c__law_draw (G : Glb K mg) (c__law_mixed : C8.Cal P w K mg base 1 "_law_mixed" sp__law_mixed []) (D : DefAt K mg "_law_draw" s__law_draw) : C8.Cal P w K mg base 2 "_law_draw" sp__law_draw [] := by
  refine cal_of D sc__law_draw (fun _ _ _ _ _ _ us hl => match us, hl with | [_, _], _ => rfl) (fun vs H Q E h => ?_) (fun f cdv A outer s H vs Q E hr h => ?_)
  · obtain ⟨M, C, Gr, L, n, rfl, _⟩ := h; rfl
  · obtain ⟨M, C, Gr, L, n, rfl, hL, hL2, ms, hn, q⟩ := h
    have hu1 : (cxOf C8.CX0 P w K mg base N__law_draw "_law_draw" (C8.fnScope s__law_draw) f cdv A outer s H E).nox.A.units + 1 < cLine := by
      have := hr.units
      exact Nat.lt_of_le_of_lt (by show _ ≤ _ + 64; exact Nat.add_le_add_left (by decide) _) this
    refine ⟨_, (pss_cons (ps_set (i := 2) sc__law_draw.nd rfl (Or.inl rfl) (pe_dget hu1 (pv 0) pe_str (fun _ _ => rfl)))
  (pss_cons (ps_dput hu1 (pv 0) pe_str (pe_op op_add (pv 2) pe_int) rfl)
  (pss_cons (ps_if (pt_cmpR (op_neD hr.units) (pe_dget hu1 (pv 0) pe_str (fun _ _ => rfl)) (pe_lst pa_nil) (nomark _)) (pss_cons (ps_set (i := 3) sc__law_draw.nd rfl (Or.inl rfl) (pe_dget hu1 (pv 0) pe_str (fun _ _ => rfl)))
  (pss_cons (ps_set (i := 4) sc__law_draw.nd rfl (Or.inl rfl) (pe_op op_mod (pe_callTy call_int1 rfl G.int (by decide +kernel) (pa_cons (pv 2) pa_nil)) (pe_callB call_len_seq rfl G.len PySem.boot_len (pa_cons (pv 3) pa_nil))))
  (pss_cons (ps_set (i := 5) sc__law_draw.nd rfl (Or.inl rfl) (pe_ix ix_list (pv 3) (pv 4) (fun _ _ => rfl)))
  (pss_one (ps_if (pt_cmpR op_gt (pv 5) pe_int (nomark _)) (pss_cons (ps_asg (pe_op op_fdiv (pv 5) (pv 1)) (pg_sub (pv 3) (pv 4) set_list))
  (pss_one (ps_ret (pe_op op_mod (pe_callTy call_int1 rfl G.int (by decide +kernel) (pa_cons (pv 5) pa_nil)) (pv 1))))) pss_nil))))) pss_nil)
  (pss_cons (ps_set (i := 3) sc__law_draw.nd rfl (Or.inl rfl) (pe_dget hu1 (pv 0) pe_str (fun _ _ => rfl)))
  (pss_one (ps_ret (pe_op op_mod (pe_callTy call_int1 rfl G.int (by decide +kernel) (pa_cons (C8.pe_c c__law_mixed hr (by decide) rfl (pa_cons (C8.pe_c c__law_mixed hr (by decide) rfl (pa_cons (pe_op op_add (pe_ix ix_list (pv 3) (pe_op op_mod (pe_callTy call_int1 rfl G.int (by decide +kernel) (pa_cons (pv 2) pa_nil)) pe_int) (fun _ _ => rfl)) (pe_op op_mul pe_int (pe_op op_fdiv (pv 2) pe_int))) (pa_cons (pv 2) pa_nil))) (pa_cons (pe_op op_add (pv 2) pe_int) pa_nil))) pa_nil)) (pv 1)))))))), ?_⟩
    obtain ⟨hm, ⟨cs, hC, hcl⟩, ⟨gs, hG, hgl⟩, hcg⟩ := ms
    obtain ⟨v1, v2, v3⟩ := val3 C Gr n
    obtain ⟨w1, w2, w3⟩ := val3 C Gr (n + 1)
    refine ⟨_, rfl, M, .int n, rfl, .inl ⟨_, Sum.inr ("spot" : Str), .inl hm, rfl, v3.symm⟩, ?_⟩
    refine gN ?_
    refine ⟨_, rfl, _, _, rfl, rfl, _, rfl, M, _, rfl, .inl ⟨_, Sum.inr ("spot" : Str), hm, rfl, small1000 (by simp), rfl⟩, ?_⟩
    have hpn : putK [((Sum.inr ("cells" : Str) : Key), V.ref C), (Sum.inr ("great" : Str), .ref Gr), (Sum.inr ("spot" : Str), .int (n : Nat))] (Sum.inr ("spot" : Str)) (.int ((n : Int) + 1)) = [(Sum.inr ("cells" : Str), .ref C), (Sum.inr ("great" : Str), .ref Gr), (Sum.inr ("spot" : Str), .int (n + 1 : Nat))] := spot_put C Gr n (n + 1)
    rw [hpn]
    have nMC : C ≠ M := fun z => by rw [z, hm] at hC; cases hC
    have nMG : Gr ≠ M := fun z => by rw [z, hm] at hG; cases hG
    have hC1 : upd H M (.dK [(Sum.inr ("cells" : Str), .ref C), (Sum.inr ("great" : Str), .ref Gr), (Sum.inr ("spot" : Str), .int (n + 1 : Nat))]) C = some (.lst (cs.map V.int)) := by rw [upd_ne nMC]; exact hC
    have hG1 : upd H M (.dK [(Sum.inr ("cells" : Str), .ref C), (Sum.inr ("great" : Str), .ref Gr), (Sum.inr ("spot" : Str), .int (n + 1 : Nat))]) Gr = some (.lst (gs.map V.int)) := by rw [upd_ne nMG]; exact hG
    have hm1 : upd H M (.dK [(Sum.inr ("cells" : Str), .ref C), (Sum.inr ("great" : Str), .ref Gr), (Sum.inr ("spot" : Str), .int (n + 1 : Nat))]) M = some (.dK [(Sum.inr ("cells" : Str), .ref C), (Sum.inr ("great" : Str), .ref Gr), (Sum.inr ("spot" : Str), .int (n + 1 : Nat))]) := upd_same
    have fr1 : FrM M Gr H (upd H M (.dK [(Sum.inr ("cells" : Str), .ref C), (Sum.inr ("great" : Str), .ref Gr), (Sum.inr ("spot" : Str), .int (n + 1 : Nat))])) := fun b o h1 _ e => by rw [upd_ne h1]; exact e
    generalize upd H M (.dK [(Sum.inr ("cells" : Str), .ref C), (Sum.inr ("great" : Str), .ref Gr), (Sum.inr ("spot" : Str), .int (n + 1 : Nat))]) = H1 at hC1 hG1 hm1 fr1
    refine ⟨_, rfl, M, .ref Gr, rfl, .inl ⟨_, Sum.inr ("great" : Str), .inl hm1, rfl, w2.symm⟩, Nat.zero_le _, fun E0 nE => ?_⟩
    have hC2 : upd H1 E0 (.lst []) C = some (.lst (cs.map V.int)) := by rw [upd_ne (ne_of_none hC1 nE)]; exact hC1
    have hG2 : upd H1 E0 (.lst []) Gr = some (.lst (gs.map V.int)) := by rw [upd_ne (ne_of_none hG1 nE)]; exact hG1
    have hm2 : upd H1 E0 (.lst []) M = some (.dK [(Sum.inr ("cells" : Str), .ref C), (Sum.inr ("great" : Str), .ref Gr), (Sum.inr ("spot" : Str), .int (n + 1 : Nat))]) := by rw [upd_ne (ne_of_none hm1 nE)]; exact hm1
    have hE2 : upd H1 E0 (.lst []) E0 = some (.lst []) := upd_same
    have fr2 : FrM M Gr H (upd H1 E0 (.lst [])) := fr1.trans (.same (same_upd nE))
    generalize upd H1 E0 (.lst []) = H2 at hC2 hG2 hm2 hE2 fr2
    refine ⟨_, _, .lst (.inl (.inl hG2)) (dp_ints _), .lst (.inl (.inl hE2)) .nil, shaped_ints _, rfl, _, rfl, ?_⟩
    rw [eqv_nil]
    have ms2 : MSt H2 M C Gr (n + 1) := ⟨hm2, ⟨cs, hC2, hcl⟩, ⟨gs, hG2, hgl⟩, hcg⟩
    have fin : ∀ (z : Int) H', MSt H' M C Gr (n + 1) → FrM M Gr H H' → Q (.int (z % (L : Nat))) H' := fun z H' m fr => by
      have h0 : 0 ≤ z % (L : Int) := Int.emod_nonneg _ (by omega)
      have h1 : z % (L : Int) < L := Int.emod_lt_of_pos _ (by omega)
      have := q (z % (L : Int)).toNat H' (by omega) m fr
      rwa [Int.toNat_of_nonneg h0] at this
    have hd : (n : Int) % 64 = ((n % 64 : Nat) : Int) := by omega
    have hcat : atI (cs.map V.int) ((n : Int) % 64) = some (.int cs[n % 64]) := by
      rw [hd]
      exact atI_nat (by rw [List.getElem?_map, List.getElem?_eq_getElem (by omega)]; rfl)
    have p64 : (fun (x j : Int) => 0 < j) (n : Int) 64 := by show (0 : Int) < 64; decide
    have tail : ∀ (y3 y4 y5 : Option V), tSeq (tAsg (tDGet (tVar 0) (tC (.str "cells"))) (gName 3)) (tRet (tOp (rI (fun x j => 0 < j) fun i j => .int (i % j)) (tCB (fun xs H Q => (∃ i, xs = [V.int i] ∧ Q (V.int i) H) ∨ ∃ k, xs = [V.bl k] ∧ Q (V.int (if k = true then 1 else 0)) H) (tCons (tCall sp__law_mixed [] C8.E0 (tCons (tCall sp__law_mixed [] C8.E0 (tCons (tOp (rI0 fun i j => .int (i + j)) (tOp (rIxL K) (tVar 3) (tOp (rI (fun x j => 0 < j) fun i j => .int (i % j)) (tCB (fun xs H Q => (∃ i, xs = [V.int i] ∧ Q (V.int i) H) ∨ ∃ k, xs = [V.bl k] ∧ Q (V.int (if k = true then 1 else 0)) H) (tCons (tVar 2) tNil)) (tC (.int 64)))) (tOp (rI CMul fun i j => .int (i * j)) (tC (.int 37)) (tOp (rI CDiv fun i j => .int (i / j)) (tVar 2) (tC (.int 64))))) (tCons (tVar 2) tNil))) (tCons (tOp (rI0 fun i j => .int (i + j)) (tVar 2) (tC (.int 5))) tNil))) tNil)) (tVar 1))) { nx := fun _ H' => Q .non H', rt := Q } [some (.ref M), some (.int (L : Nat)), some (.int (n : Nat)), y3, y4, y5] H2 := by
      intro y3 y4 y5
      refine ⟨_, rfl, M, .ref C, rfl, .inl ⟨_, Sum.inr ("cells" : Str), .inl hm2, rfl, w1.symm⟩, ?_⟩
      refine gN ?_
      refine ⟨_, rfl, _, rfl, .inl ⟨_, rfl, _, _, rfl, rfl, p64, C, _, _, _, rfl, rfl, .inl (.inl hC2), hcat, ?_⟩⟩
      refine ⟨_, rfl, _, _, rfl, rfl, ⟨by decide, by decide⟩, _, _, rfl, rfl, .inl ⟨by decide, by decide⟩, _, _, rfl, rfl, _, rfl, _, n, rfl, by omega, fun r1 => ?_⟩
      refine ⟨_, rfl, _, _, rfl, rfl, r1, n + 5, rfl, by omega, fun r2 => .inl ⟨_, rfl, _, rfl, _, _, rfl, rfl, ?_, fin _ _ ms2 fr2⟩⟩
      show (0 : Int) < (L : Int)
      omega
    cases gs with
    | nil =>
      refine iteF ?_
      exact tail _ _ _
    | cons g0 gr =>
      refine iteT ?_
      generalize hgs : g0 :: gr = gs at *
      have hpos : 0 < gs.length := by rw [← hgs]; simp
      have pl : (fun (x j : Int) => 0 < j) (n : Int) ((gs.map V.int).length : Nat) := by show (0 : Int) < _; rw [List.length_map]; omega
      refine ⟨_, rfl, M, .ref Gr, rfl, .inl ⟨_, Sum.inr ("great" : Str), .inl hm2, rfl, w2.symm⟩, ?_⟩
      refine gN ?_
      have hix : (n : Int) % ((gs.map V.int).length : Nat) = ((n % gs.length : Nat) : Int) := by rw [List.length_map]; omega
      have hlt : n % gs.length < gs.length := Nat.mod_lt _ hpos
      refine ⟨_, rfl, .inl ⟨_, rfl, _, rfl, Gr, _, rfl, .inl (.inl (.inl hG2)), _, _, rfl, rfl, pl, ?_⟩⟩
      refine gN ?_
      refine ⟨_, rfl, _, rfl, Gr, _, _, .int gs[n % gs.length], rfl, rfl, .inl (.inl hG2), (show atI (gs.map V.int) ((n : Int) % ((gs.map V.int).length : Nat)) = _ by rw [hix]; exact atI_nat (by rw [List.getElem?_map, List.getElem?_eq_getElem hlt]; rfl)), ?_⟩
      refine gN ?_
      refine ⟨_, rfl, _, _, rfl, rfl, _, rfl, ?_⟩
      refine ite2 (fun e => ?_) (fun e => ?_)
      · have hsl : ixN (gs.map V.int).length ((n : Int) % ((gs.map V.int).length : Nat)) = some (n % gs.length) := by rw [hix]; unfold ixN; rw [if_pos (by omega), if_pos (by rw [List.length_map]; omega)]; rfl
        refine ⟨_, rfl, _, rfl, _, _, rfl, rfl, ⟨by omega, by omega⟩, _, rfl, _, rfl, Gr, _, _, _, rfl, rfl, hG2, hsl, ?_⟩
        refine ⟨_, rfl, .inl ⟨_, rfl, _, rfl, _, _, rfl, rfl, ?_, fin _ _ ?_ ?_⟩⟩
        · show (0 : Int) < (L : Int)
          omega
        · refine ⟨?_, ?_, ?_, hcg⟩
          · rw [upd_ne (fun z => by rw [z, hG2] at hm2; cases hm2)]; exact hm2
          · exact ⟨cs, by rw [upd_ne hcg]; exact hC2, hcl⟩
          · exact ⟨gs.set (n % gs.length) (gs[n % gs.length] / (L : Int)), by rw [upd_same, List.map_set], by rw [List.length_set]; exact hgl⟩
        · exact fr2.trans fun b o _ h2 e => by rw [upd_ne h2]; exact e
      · exact tail _ _ _
end
end TW
set_option Elab.async false
set_option linter.all false
set_option maxRecDepth 100000
set_option maxHeartbeats 4000000
namespace TW
open PySem PySem.Spec PyProof.Rows L2 LamX
theorem range_pick (l : List Nat) : (List.range l.length).filterMap (l[·]?) = l := by
  induction l with
  | nil => rfl
  | cons a l ih =>
    rw [List.length_cons, List.range_succ_eq_map, List.filterMap_cons]
    show a :: (List.map Nat.succ (List.range l.length)).filterMap _ = _
    rw [List.filterMap_map]
    exact congrArg (a :: ·) ih
theorem range_rev (n : Nat) : ((List.range n).map fun k => n - 1 - k) = (List.range n).reverse := by
  refine List.ext_getElem (by simp) fun i h1 h2 => ?_
  simp
def tRevS (te : TE) : TE := fun σ H Q => te σ H fun x H1 => ∃ l : List Nat, x = .str (tx l) ∧ l.length ≤ 1000 ∧ Q (.str (tx l.reverse)) H1
theorem pe_revS {X : Cx} {e : Expr} {te : TE} {k : Nat} {p1 p2 p3 pos : Pos} (he : PE X e te) : PE X (.Subscript e (.Slice none none (some (.UnaryOp .USub (.Constant (.int 1) k p1) p2)) p3) pos) (tRevS te) := by
  constructor
  intro pins s σ H Q I h
  refine Subscript_ (thn (he.run pins s σ H _ I h) ?_)
  rintro v s1 ⟨x, H1, I1, r1, l, rfl, hl, q⟩
  obtain ⟨t, rfl⟩ := r1
  have hst : PO X (some (.UnaryOp .USub (.Constant (.int 1) k p1) p2)) (tPart (tUn (rU fun i => .int (-i)) (tC (.int 1)))) := po_some (pe_un un_neg pe_int)
  refine wpAny_Slice (thn (po_none.run pins s1 σ H1 (fun o H2 => o = none ∧ H2 = H1) I1 ⟨rfl, rfl⟩) ?_)
  rintro vl s2 ⟨o1, H2, I2, pl, rfl, rfl⟩
  refine thn (po_none.run pins s2 σ H2 (fun o H3 => o = none ∧ H3 = H2) I2 ⟨rfl, rfl⟩) ?_
  rintro vu s3 ⟨o2, H3, I3, pu, rfl, rfl⟩
  refine thn (hst.run pins s3 σ H3 (fun o H4 => o = some (-1) ∧ H4 = H3) I3 ⟨1, rfl, -1, rfl, rfl, rfl⟩) ?_
  rintro vs s4 ⟨o3, H4, I4, ps, rfl, rfl⟩
  have I5 : Inv X pins σ H4 { s4 with heap := s4.heap.push { cls := .type "slice", data := .fields #[vl, vu, vs] } } := I4.kept (t' := s4.toks) fun b ob q => Heap.get?_push_of_some _ q
  obtain ⟨os, hos, hcs, hds⟩ := Heap.IsSliceOf.new s4.heap vl vu vs
  obtain ⟨zl, rfl, e1⟩ := IsPart.raw pl
  obtain ⟨zu, rfl, e2⟩ := IsPart.raw pu
  obtain ⟨zs, rfl, e3⟩ := IsPart.raw ps
  show wpAny (model X.prog X.w) X.A (subscriptTail e (.Slice none none (some (.UnaryOp .USub (.Constant (.int 1) k p1) p2)) p3) (.str (tx l) t) (.ref s4.heap.objs.size)) (EP X pins σ Q) X.xe _
  refine tail_any (ops := [.str (tx l) t, .ref s4.heap.objs.size]) (typeIs_str _ _ _) F.slot_str_getitem.lookup ?_ (by with_unfolding_all rfl)
  refine wpAny_getItem_str_slice (l := zl) (u := zu) (st := zs) ⟨os, hos, hcs, hds⟩ (by rw [e3]; rfl) ?_
  have hp : slicePicked (tx l) zl zu zs = (List.range l.length).reverse := by
    unfold slicePicked
    rw [e1, e2, e3]
    show Builtin.Str.strSliceIndices none none (-1) (tx l).length = _
    rw [picked_rev, tx_len, range_rev]
  unfold sliceMade
  rw [e3, hp]
  rw [if_neg (by simp)]
  have hr : ((List.range l.length).reverse.filterMap ((tx l).cps[·]?)).toArray = (l.reverse).toArray := by
    congr 1
    rw [List.filterMap_reverse]
    have hf : (fun (i : Nat) => (tx l).cps[i]?) = fun (i : Nat) => l[i]? := by funext i; simp
    rw [hf]
    exact congrArg List.reverse (range_pick l)
  rw [hr]
  refine ⟨?_, .str (tx l.reverse), H4, I5.tok _, ⟨_, rfl⟩, q⟩
  show (tx l.reverse).length ≤ sizeLine
  rw [tx_len, List.length_reverse, sizeLine_eq]
  omega
end TW
set_option Elab.async false
set_option linter.all false
set_option maxRecDepth 100000
set_option maxHeartbeats 4000000
namespace TW
open PySem PySem.Spec PyProof.Rows L2 LamX
/-- a text, a list or a tuple of those items, none of the drawer's -/
def IsSeq (M Gr : Addr) (H : Hp) (x : V) (els : List V) : Prop := (∃ l : List Nat, x = .str (tx l) ∧ els = l.map fun c => V.str (tx [c])) ∨ ∃ p, x = .ref p ∧ p ≠ M ∧ p ≠ Gr ∧ (H p = some (.lst els) ∨ H p = some (.tup els))
abbrev s__law_of : Stmt := topS 41
def N__law_of : List Str := ["_law_m", "_law_some"]
theorem sc__law_of : FnScope N__law_of ["_law_m", "_law_some"] (C8.fnScope s__law_of) := C8.fnScope_by (by decide +kernel)
def sp__law_of : Sp := fun vs H Q _ => ∃ (M C Gr : Addr) (n : Nat) (x : V) (els : List V), vs = [.ref M, x] ∧ MSt H M C Gr n ∧ n ≤ 100000 ∧ IsSeq M Gr H x els ∧ 1 ≤ els.length ∧ els.length ≤ 100000 ∧ ∀ v H', v ∈ els → MSt H' M C Gr (n + 1) → FrM M Gr H H' → Q v H'
abbrev s__law_row : Stmt := topS 45
def N__law_row : List Str := ["_law_m", "_law_many", "_law_spot"]
theorem sc__law_row : FnScope N__law_row ["_law_m", "_law_many"] (C8.fnScope s__law_row) := C8.fnScope_by (by decide +kernel)
def sp__law_row : Sp := fun vs H Q _ => ∃ (M C Gr : Addr) (n k : Nat), vs = [.ref M, .int k] ∧ MSt H M C Gr n ∧ n ≤ 100000 ∧ 1 ≤ k ∧ k ≤ 6 ∧ ∀ (l : List Nat) H', 1 ≤ l.length → l.length ≤ 6 → (∀ c ∈ l, c ∈ abcdef) → MSt H' M C Gr (n + 1) → FrM M Gr H H' → Q (.str (tx l)) H'
section
variable {P : Program} {w : World} {K : PySem.W.Frag} {mg : Str → Option Value} {base : Heap}
theorem c__law_of (G : Glb K mg) (c__law_draw : C8.Cal P w K mg base 2 "_law_draw" sp__law_draw []) (D : DefAt K mg "_law_of" s__law_of) : C8.Cal P w K mg base 3 "_law_of" sp__law_of [] := by
  refine cal_of D sc__law_of (fun _ _ _ _ _ _ us hl => match us, hl with | [_, _], _ => rfl) (fun vs H Q E h => ?_) (fun f cdv A outer s H vs Q E hr h => ?_)
  · obtain ⟨M, C, Gr, n, x, els, rfl, _⟩ := h; rfl
  · obtain ⟨M, C, Gr, n, x, els, rfl, ms, hn, hs, hl1, hl2, q⟩ := h
    refine ⟨_, (pss_one (ps_ret (pe_ix ix_seq (pv 1) (C8.pe_c c__law_draw hr (by decide) rfl (pa_cons (pv 0) (pa_cons (pe_callB call_len rfl G.len PySem.boot_len (pa_cons (pv 1) pa_nil)) pa_nil))) (fun _ _ => rfl)))), ?_⟩
    refine ⟨_, rfl, _, rfl, _, rfl, x, els.length, rfl, ?_, M, C, Gr, els.length, n, rfl, hl1, hl2, ms, hn, fun r H1 hr1 ms1 fr => ?_⟩
    · rcases hs with ⟨l, rfl, rfl⟩ | ⟨p, rfl, _, _, h | h⟩
      · rw [List.length_map] at hl2 ⊢
        exact ⟨by rw [tx_len]; exact big2 (by omega), (tx_len l).symm⟩
      · exact .inl ⟨_, .inl (.inl h), rfl⟩
      · exact .inr ⟨_, .inl (.inl h), rfl⟩
    · have hv := List.getElem?_eq_getElem hr1
      have qv := q els[r] H1 (List.getElem_mem hr1) ms1 fr
      rcases hs with ⟨l, rfl, rfl⟩ | ⟨p, rfl, h1, h2, h | h⟩
      · rw [List.length_map] at hr1 hl2
        refine .inr (.inr ⟨tx l, (r : Nat), l[r], rfl, rfl, by rw [tx_len]; exact big2 (by omega), atI_nat (by simp [hr1]), ?_⟩)
        rw [List.getElem_map] at qv
        exact qv
      · exact .inl ⟨p, els, (r : Nat), _, rfl, rfl, .inl (.inl (fr _ _ h1 h2 h)), atI_nat hv, qv⟩
      · exact .inr (.inl ⟨p, els, (r : Nat), _, rfl, rfl, .inl (.inl (fr _ _ h1 h2 h)), atI_nat hv, qv⟩)
theorem c__law_row (c__law_draw : C8.Cal P w K mg base 2 "_law_draw" sp__law_draw []) (D : DefAt K mg "_law_row" s__law_row) : C8.Cal P w K mg base 3 "_law_row" sp__law_row [] := by
  refine cal_of D sc__law_row (fun _ _ _ _ _ _ us hl => match us, hl with | [_, _], _ => rfl) (fun vs H Q E h => ?_) (fun f cdv A outer s H vs Q E hr h => ?_)
  · obtain ⟨M, C, Gr, n, k, rfl, _⟩ := h; rfl
  · obtain ⟨M, C, Gr, n, k, rfl, ms, hn, hk1, hk2, q⟩ := h
    refine ⟨_, (pss_cons (ps_set (i := 2) sc__law_row.nd rfl (Or.inl rfl) (C8.pe_c c__law_draw hr (by decide) rfl (pa_cons (pv 0) (pa_cons pe_int pa_nil))))
  (pss_one (ps_ret (pe_slice sl_str pe_str (po_some (pv 2)) (po_some (pe_op op_add (pv 2) (pv 1))))))), ?_⟩
    refine ⟨_, rfl, M, C, Gr, 6, n, rfl, by decide, by decide, ms, hn, fun r H1 hr1 ms1 fr => ?_⟩
    refine gN ?_
    refine ⟨_, rfl, _, rfl, _, rfl, _, rfl, _, _, rfl, rfl, _, rfl, tx (abcdef ++ abcdef), rfl, by rw [tx_len]; decide +kernel, ?_⟩
    refine qstr ?_ (q (((abcdef ++ abcdef).drop r).take k) H1 ?_ ?_ ?_ ms1 fr)
    · rw [cutS_mid2]
    · rw [List.length_take, List.length_drop]
      show 1 ≤ min k (12 - r)
      omega
    · rw [List.length_take]
      omega
    · intro c hc
      have := List.mem_of_mem_drop (List.mem_of_mem_take hc)
      simpa using this
end
end TW
set_option Elab.async false
set_option linter.all false
set_option maxRecDepth 100000
set_option maxHeartbeats 4000000
namespace TW
open PySem PySem.Spec PyProof.Rows L2 LamX
theorem join_tx : ∀ l : List Nat, Txt.join (tx []) (l.map fun c => tx [c]) = tx l
  | [] => rfl
  | c :: l => by
    have go : ∀ (l : List Nat) (acc : List Nat), (l.map fun c => tx [c]).foldl (fun a p => a ++ (tx []).cps ++ p.cps) acc.toArray = (acc ++ l).toArray := by
      intro l
      induction l with
      | nil => intro acc; simp
      | cons d l ih =>
        intro acc
        rw [List.map_cons, List.foldl_cons]
        have : acc.toArray ++ (tx []).cps ++ (tx [d]).cps = (acc ++ [d]).toArray := by simp
        rw [this, ih]
        simp
    unfold Txt.join Builtin.Str.glued
    exact congrArg Str.mk (go l [c])
theorem MSt.upd {H : Hp} {M C Gr D : Addr} {n : Nat} {o : HO} (h : MSt H M C Gr n) (h1 : D ≠ M) (h2 : D ≠ C) (h3 : D ≠ Gr) : MSt (upd H D o) M C Gr n :=
  ⟨by rw [upd_ne (Ne.symm h1)]; exact h.m, let ⟨cs, a, b⟩ := h.c; ⟨cs, by rw [upd_ne (Ne.symm h2)]; exact a, b⟩, let ⟨gs, a, b⟩ := h.g; ⟨gs, by rw [upd_ne (Ne.symm h3)]; exact a, b⟩, h.cg⟩
theorem MSt.ne {H : Hp} {M C Gr D : Addr} {n : Nat} (h : MSt H M C Gr n) (hD : H D = none) : D ≠ M ∧ D ≠ C ∧ D ≠ Gr := by
  refine ⟨fun z => ?_, fun z => ?_, fun z => ?_⟩
  · rw [z, h.m] at hD; cases hD
  · obtain ⟨_, a, _⟩ := h.c
    rw [z, a] at hD; cases hD
  · obtain ⟨_, a, _⟩ := h.g
    rw [z, a] at hD; cases hD
theorem FrM.upd {M Gr D : Addr} {H H1 : Hp} {o : HO} (h : FrM M Gr H H1) (hD : H D = none) : FrM M Gr H (upd H1 D o) := fun b x h1 h2 e => by
  rw [upd_ne (ne_of_none e hD)]
  exact h b x h1 h2 e
theorem join_len (l : List Nat) : ((l.map fun c => tx [c]).map (·.length)).sum = l.length := by
  induction l with
  | nil => rfl
  | cons c l ih =>
    simp only [List.map_cons, List.sum_cons, ih, List.length_cons]
    show 1 + _ = _
    omega
abbrev s__law_word : Stmt := topS 46
def N__law_word : List Str := ["_law_m", "_law_row_here", "_law_most", "_law_turn"]
theorem sc__law_word : FnScope N__law_word ["_law_m", "_law_row_here", "_law_most"] (C8.fnScope s__law_word) := C8.fnScope_by (by decide +kernel)
def sp__law_word : Sp := fun vs H Q _ => ∃ (M C Gr : Addr) (n k : Nat) (r : List Nat), vs = [.ref M, .str (tx r), .int k] ∧ MSt H M C Gr n ∧ n ≤ 10000 ∧ 1 ≤ k ∧ k ≤ 6 ∧ 1 ≤ r.length ∧ r.length ≤ 100 ∧ (∀ c ∈ r, c ∈ abcdef) ∧ ∀ (l : List Nat) n' H', 1 ≤ l.length → l.length ≤ k → (∀ c ∈ l, c ∈ abcdef) → n ≤ n' → n' ≤ n + k + 1 → MSt H' M C Gr n' → FrM M Gr H H' → Q (.str (tx l)) H'
abbrev s__law_grown : Stmt := topS 48
def N__law_grown : List Str := ["_law_m", "_law_text", "_law_longs", "_law_times", "_law_found", "_law_turn", "_law_long"]
theorem sc__law_grown : FnScope N__law_grown ["_law_m", "_law_text", "_law_longs", "_law_times"] (C8.fnScope s__law_grown) := C8.fnScope_by (by decide +kernel)
def sp__law_grown : Sp := fun vs H Q _ => ∃ (M C Gr q : Addr) (n k : Nat) (l : List Nat), vs = [.ref M, .str (tx l), .ref q, .int k] ∧ MSt H M C Gr n ∧ n ≤ 10000 ∧ k ≤ 6 ∧ 1 ≤ l.length ∧ l.length ≤ 40 ∧ (∀ c ∈ l, c ∈ abcdef) ∧ q ≠ M ∧ q ≠ Gr ∧ H q = some (.lst [.int 1, .int 2, .int 2]) ∧
  ∀ (l' : List Nat) n' H', 1 ≤ l'.length → l'.length ≤ l.length + 2 * k → (∀ c ∈ l', c ∈ abcdef) → n ≤ n' → n' ≤ n + 2 * k → MSt H' M C Gr n' → FrM M Gr H H' → Q (.str (tx l')) H'
abbrev s__law_beside : Stmt := topS 53
def N__law_beside : List Str := ["_law_m", "_law_text", "_law_spot", "_law_way", "_law_sign"]
theorem sc__law_beside : FnScope N__law_beside ["_law_m", "_law_text"] (C8.fnScope s__law_beside) := C8.fnScope_by (by decide +kernel)
def sp__law_beside : Sp := fun vs H Q _ => ∃ (M C Gr : Addr) (n : Nat) (l : List Nat), vs = [.ref M, .str (tx l)] ∧ MSt H M C Gr n ∧ n ≤ 10000 ∧ 1 ≤ l.length ∧ l.length ≤ 59 ∧ (∀ c ∈ l, c ∈ abcdef) ∧
  ∀ (l' : List Nat) H', l'.length ≤ l.length + 1 → (∀ c ∈ l', c ∈ abcdef) → MSt H' M C Gr (n + 3) → FrM M Gr H H' → Q (.str (tx l')) H'
section
variable {P : Program} {w : World} {K : PySem.W.Frag} {mg : Str → Option Value} {base : Heap}
theorem c__law_word (G : Glb K mg) (c__law_draw : C8.Cal P w K mg base 2 "_law_draw" sp__law_draw []) (c__law_of : C8.Cal P w K mg base 3 "_law_of" sp__law_of []) (D : DefAt K mg "_law_word" s__law_word) : C8.Cal P w K mg base 4 "_law_word" sp__law_word [] := by
  refine cal_of D sc__law_word (fun _ _ _ _ _ _ us hl => match us, hl with | [_, _, _], _ => rfl) (fun vs H Q E h => ?_) (fun f cdv A outer s H vs Q E hr h => ?_)
  · obtain ⟨M, C, Gr, n, k, r, rfl, _⟩ := h; rfl
  · obtain ⟨M, C, Gr, n, k, r, rfl, ms, hn, hk1, hk2, hr1, hr2, hrl, q⟩ := h
    refine ⟨_, (pss_one (ps_ret (pe_join pe_str (pe_lc (own := [("_law_turn", 3)]) (g := (gName 3)) (tt := tYes) rfl sc__law_word.nd (pi_range1 rfl G.range (pa_cons (pe_op op_add pe_int (C8.pe_c c__law_draw hr (by decide) rfl (pa_cons (pv 0) (pa_cons (pv 2) pa_nil)))) pa_nil)) (blkOk_by (own := [("_law_turn", 3)]) (N := N__law_word) (sc := C8.fnScope s__law_word) (by decide +kernel)) (fun _ _ _ _ _ => pg_name (i := 3) sc__law_word.nd rfl (Or.inl rfl)) (fun _ _ _ _ _ => pts_nil) (fun _ _ _ _ _ => (C8.pe_c c__law_of hr (by decide) rfl (pa_cons (pv 0) (pa_cons (pv 1) pa_nil)))))))), ?_⟩
    refine ⟨⟨_, rfl⟩, _, rfl, _, rfl, M, C, Gr, k, n, rfl, hk1, by omega, ms, by omega, fun t H1 ht ms1 fr1 => ?_⟩
    refine ⟨_, _, rfl, rfl, _, rfl, by omega, by omega, fun D nD => ?_⟩
    have hnt : ((1 : Int) + (t : Nat)).toNat = t + 1 := by omega
    rw [hnt]
    obtain ⟨d1, d2, d3⟩ := ms1.ne nD
    refine lc_it walk_range (fun i H' => ∃ l : List Nat, l.length = i ∧ (∀ c ∈ l, c ∈ r) ∧ H' D = some (.lst ((l.map fun c => tx [c]).map V.str)) ∧ MSt H' M C Gr (n + 1 + i) ∧ FrM M Gr H1 H') ⟨[], rfl, (fun c h => nomatch h), upd_same, ms1.same (same_upd nD), FrM.same (same_upd nD)⟩ (fun _ _ _ _ => trivial) ?_ ?_
    · rintro i x H2 H3 hi ⟨l, hl, hlr, eD, ms2, fr2⟩ ⟨rfl, rfl⟩
      refine ⟨rfl, _, rfl, _, rfl, M, C, Gr, n + 1 + i, .str (tx r), _, rfl, ms2, by omega, .inl ⟨r, rfl, rfl⟩, by rw [List.length_map]; exact hr1, by rw [List.length_map]; omega, fun v H4 hv ms4 fr4 => ?_⟩
      obtain ⟨c, hc, rfl⟩ := List.mem_map.mp hv
      refine ⟨_, fr4 _ _ d1 d3 eD, ?_, l ++ [c], by simp [hl], fun c' h => ?_, ?_, ms4.upd d1 d2 d3, (fr2.trans fr4).upd nD⟩
      · rw [List.length_map, List.length_map]
        exact small1000 (by omega)
      · rcases List.mem_append.mp h with h | h
        · exact hlr c' h
        · rw [List.mem_singleton.mp h]; exact hc
      · rw [upd_same]
        simp
    · rintro H2 ⟨l, hl, hlr, eD, ms2, fr2⟩
      refine ⟨tx [], D, l.map fun c => tx [c], rfl, rfl, .inl (.inl (.inl eD)), ?_, ?_⟩
      · rw [join_len, List.length_map]
        show l.length + l.length * (tx []).length ≤ _
        rw [tx_len]
        simp
        omega
      · rw [join_tx]
        exact q l _ H2 (by omega) (by omega) (fun c hc => hrl c (hlr c hc)) (by omega) (by omega) ms2 (fr1.trans fr2)
theorem c__law_grown (G : Glb K mg) (c__law_draw : C8.Cal P w K mg base 2 "_law_draw" sp__law_draw []) (c__law_of : C8.Cal P w K mg base 3 "_law_of" sp__law_of []) (c__law_copied : C8.Cal P w K mg base 1 "_law_copied" sp__law_copied []) (D : DefAt K mg "_law_grown" s__law_grown) : C8.Cal P w K mg base 4 "_law_grown" sp__law_grown [] := by
  refine cal_of D sc__law_grown (fun _ _ _ _ _ _ us hl => match us, hl with | [_, _, _, _], _ => rfl) (fun vs H Q E h => ?_) (fun f cdv A outer s H vs Q E hr h => ?_)
  · obtain ⟨M, C, Gr, q, n, k, l, rfl, _⟩ := h; rfl
  · obtain ⟨M, C, Gr, qa, n, k, l, rfl, ms, hn, hk, hl1, hl2, hll, hq1, hq2, hqa, q⟩ := h
    refine ⟨_, (pss_cons (ps_set (i := 4) sc__law_grown.nd rfl (Or.inl rfl) (pv 1))
  (pss_cons (ps_for PassesOwn.never rfl (pi_range1 rfl G.range (pa_cons (pv 3) pa_nil)) (pg_name (i := 5) sc__law_grown.nd rfl (Or.inl rfl))
  (pss_cons (ps_set (i := 6) sc__law_grown.nd rfl (Or.inl rfl) (C8.pe_c c__law_of hr (by decide) rfl (pa_cons (pv 0) (pa_cons (pv 2) pa_nil))))
  (pss_one (ps_if (pt_cmpR op_le (pv 6) (pe_callB call_len_str rfl G.len PySem.boot_len (pa_cons (pv 4) pa_nil)) (nomark _)) (pss_one (ps_set (i := 4) sc__law_grown.nd rfl (Or.inl rfl) (C8.pe_c c__law_copied hr (by decide) rfl (pa_cons (pv 4) (pa_cons (C8.pe_c c__law_draw hr (by decide) rfl (pa_cons (pv 0) (pa_cons (pe_op op_add (pe_op op_sub (pe_callB call_len_str rfl G.len PySem.boot_len (pa_cons (pv 4) pa_nil)) (pv 6)) pe_int) pa_nil))) (pa_cons (pv 6) pa_nil)))))) pss_nil))))
  (pss_one (ps_ret (pv 4))))), ?_⟩
    refine ⟨_, rfl, ?_⟩
    refine gN ?_
    refine ⟨_, rfl, _, rfl, by omega, by omega, ?_⟩
    rw [Int.toNat_natCast]
    refine for_it walk_range (fun i σ H' => ∃ l' n' y5 y6, σ = [some (.ref M), some (.str (tx l)), some (.ref qa), some (.int (k : Nat)), some (.str (tx l')), y5, y6] ∧ 1 ≤ l'.length ∧ l'.length ≤ l.length + 2 * i ∧ (∀ c ∈ l', c ∈ abcdef) ∧ n ≤ n' ∧ n' ≤ n + 2 * i ∧ MSt H' M C Gr n' ∧ FrM M Gr H H') ⟨l, n, none, none, rfl, hl1, by omega, hll, Nat.le_refl _, by omega, ms, .refl⟩ (fun _ _ _ _ _ => trivial) ?_ ?_
    · rintro i x σ H1 H2 hi ⟨l', n', y5, y6, rfl, h1, h2, h3, h4, h5, ms1, fr1⟩ ⟨rfl, rfl⟩
      refine gN ?_
      refine ⟨_, rfl, _, rfl, M, C, Gr, n', .ref qa, _, rfl, ms1, by omega, .inr ⟨qa, rfl, hq1, hq2, .inl (fr1 _ _ hq1 hq2 hqa)⟩, by simp, by simp, fun v H3 hv ms3 fr3 => ?_⟩
      obtain ⟨z, rfl, hz1, hz2⟩ : ∃ z : Nat, v = .int z ∧ 1 ≤ z ∧ z ≤ 2 := by
        simp only [List.mem_cons, List.mem_nil_iff, or_false] at hv
        rcases hv with rfl | rfl | rfl
        · exact ⟨1, rfl, by decide, by decide⟩
        · exact ⟨2, rfl, by decide, by decide⟩
        · exact ⟨2, rfl, by decide, by decide⟩
      refine gN ?_
      have hzl : (tx l').length ≤ sizeLine := by rw [tx_len]; exact big2 (by omega)
      refine ⟨_, rfl, _, rfl, _, rfl, hzl, _, _, rfl, rfl, _, rfl, ?_⟩
      rw [tx_len]
      by_cases hle : z ≤ l'.length
      · refine iteD (by omega) ?_
        refine ⟨_, rfl, _, rfl, _, rfl, _, rfl, hzl, _, rfl, _, _, rfl, rfl, _, _, rfl, rfl, M, C, Gr, l'.length - z + 1, n' + 1, ?_, by omega, by omega, ms3, by omega, fun r H4 hr4 ms4 fr4 => ?_⟩
        · rw [tx_len]
          show [V.ref M, V.int ((l'.length : Int) - (z : Int) + 1)] = [V.ref M, V.int ((l'.length - z + 1 : Nat) : Int)]
          rw [show ((l'.length : Int) - (z : Int) + 1) = ((l'.length - z + 1 : Nat) : Int) by omega]
        · refine ⟨_, rfl, l', r, z, rfl, by omega, ?_⟩
          have hlen : (l'.take (r + z) ++ l'.drop r).length = l'.length + z := by
            rw [List.length_append, List.length_take, List.length_drop]
            omega
          refine ⟨_, n' + 2, _, _, rfl, by omega, by omega, fun c hc => ?_, by omega, by omega, ms4, (fr1.trans fr3).trans fr4⟩
          rcases List.mem_append.mp hc with h | h
          · exact h3 c (List.mem_of_mem_take h)
          · exact h3 c (List.mem_of_mem_drop h)
      · refine iteDN (by omega) ?_
        exact ⟨l', n' + 1, _, _, rfl, h1, by omega, h3, by omega, by omega, ms3, fr1.trans fr3⟩
    · rintro σ H1 ⟨l', n', y5, y6, rfl, h1, h2, h3, h4, h5, ms1, fr1⟩
      exact ⟨_, rfl, q l' n' H1 h1 h2 h3 h4 h5 ms1 fr1⟩
theorem c__law_beside (G : Glb K mg) (c__law_draw : C8.Cal P w K mg base 2 "_law_draw" sp__law_draw []) (c__law_of : C8.Cal P w K mg base 3 "_law_of" sp__law_of []) (D : DefAt K mg "_law_beside" s__law_beside) : C8.Cal P w K mg base 4 "_law_beside" sp__law_beside [] := by
  refine cal_of D sc__law_beside (fun _ _ _ _ _ _ us hl => match us, hl with | [_, _], _ => rfl) (fun vs H Q E h => ?_) (fun f cdv A outer s H vs Q E hr h => ?_)
  · obtain ⟨M, C, Gr, n, l, rfl, _⟩ := h; rfl
  · obtain ⟨M, C, Gr, n, l, rfl, ms, hn, hl1, hl2, hll, q⟩ := h
    refine ⟨_, (pss_cons (ps_par (i := 2) (j := 3) (by rfl) sc__law_beside.nd rfl rfl (by decide) rfl rfl (pa_cons (C8.pe_c c__law_draw hr (by decide) rfl (pa_cons (pv 0) (pa_cons (pe_callB call_len_str rfl G.len PySem.boot_len (pa_cons (pv 1) pa_nil)) pa_nil))) (pa_cons (C8.pe_c c__law_draw hr (by decide) rfl (pa_cons (pv 0) (pa_cons pe_int pa_nil))) pa_nil)) (by rfl))
  (pss_cons (ps_set (i := 4) sc__law_beside.nd rfl (Or.inl rfl) (C8.pe_c c__law_of hr (by decide) rfl (pa_cons (pv 0) (pa_cons pe_str pa_nil))))
  (pss_cons (ps_if (pt_cmpR op_eq (pv 3) pe_int (nomark _)) (pss_one (ps_ret (pe_op op_add_str (pe_op op_add_str (pe_slice sl_str (pv 1) po_none (po_some (pv 2))) (pv 4)) (pe_slice sl_str (pv 1) (po_some (pe_op op_add (pv 2) pe_int)) po_none)))) pss_nil)
  (pss_cons (ps_if (pt_cmpR op_eq (pv 3) pe_int (nomark _)) (pss_one (ps_ret (pe_op op_add_str (pe_op op_add_str (pe_slice sl_str (pv 1) po_none (po_some (pv 2))) (pv 4)) (pe_slice sl_str (pv 1) (po_some (pv 2)) po_none)))) pss_nil)
  (pss_one (ps_ret (pe_ifExp (pt_cmpR op_eq (pv 3) pe_int (nomark _)) (pe_op op_add_str (pe_slice sl_str (pv 1) po_none (po_some (pv 2))) (pe_slice sl_str (pv 1) (po_some (pe_op op_add (pv 2) pe_int)) po_none)) (pe_revS (pv 1))))))))), ?_⟩
    have hzl : (tx l).length ≤ sizeLine := by rw [tx_len]; exact big2 (by omega)
    refine ⟨_, rfl, _, rfl, _, rfl, hzl, M, C, Gr, l.length, n, by rw [tx_len]; rfl, hl1, by omega, ms, by omega, fun r H1 hr1 ms1 fr1 => ?_⟩
    refine ⟨_, rfl, M, C, Gr, 4, n + 1, rfl, by decide, by decide, ms1, by omega, fun wy H2 hw ms2 fr2 => ⟨_, _, rfl, ?_⟩⟩
    refine ⟨_, rfl, M, C, Gr, n + 2, .str (tx abcdef), _, rfl, ms2, by omega, .inl ⟨abcdef, rfl, rfl⟩, by simp [abcdef], by simp [abcdef], fun v H3 hv ms3 fr3 => ?_⟩
    obtain ⟨c, hc, rfl⟩ := List.mem_map.mp hv
    have fr := (fr1.trans fr2).trans fr3
    have fin : ∀ l' : List Nat, l'.length ≤ l.length + 1 → (∀ c ∈ l', c ∈ abcdef) → Q (.str (tx l')) H3 := fun l' a b => q l' H3 a b ms3 fr
    have hr1' : ((r : Int) + 1) = ((r + 1 : Nat) : Int) := by omega
    refine gN ?_
    refine ⟨_, rfl, rfl, _, rfl, ?_⟩
    refine ite2 (fun _ => ?_) (fun _ => ?_)
    · refine ⟨_, rfl, _, rfl, _, rfl, _, rfl, hzl, _, rfl, _, _, rfl, rfl, ?_, _, rfl, _, rfl, _, _, rfl, rfl, _, rfl, _, rfl, hzl, _, _, rfl, rfl, ?_, ?_⟩
      · rw [cut_to, tx_len, tx_len]
        refine big2 ?_
        simp
        omega
      · rw [cut_to, hr1', cut_from, tx_cat, tx_len, tx_len]
        refine big2 ?_
        simp
        omega
      · refine qstr ?_ (fin (l.take r ++ [c] ++ l.drop (r + 1)) ?_ fun d hd => ?_)
        · rw [cut_to, hr1', cut_from, tx_cat, tx_cat]
        · simp
          omega
        · simp only [List.mem_append, List.mem_singleton] at hd
          rcases hd with (h | h) | h
          · exact hll d (List.mem_of_mem_take h)
          · rw [h]; exact hc
          · exact hll d (List.mem_of_mem_drop h)
    · refine ⟨_, rfl, rfl, _, rfl, ?_⟩
      refine ite2 (fun _ => ?_) (fun _ => ?_)
      · refine ⟨_, rfl, _, rfl, _, rfl, _, rfl, hzl, _, rfl, _, _, rfl, rfl, ?_, _, rfl, _, rfl, _, rfl, _, rfl, hzl, _, _, rfl, rfl, ?_, ?_⟩
        · rw [cut_to, tx_len, tx_len]
          refine big2 ?_
          simp
          omega
        · rw [cut_to, cut_from, tx_cat, tx_len, tx_len]
          refine big2 ?_
          simp
          omega
        · refine qstr ?_ (fin (l.take r ++ [c] ++ l.drop r) ?_ fun d hd => ?_)
          · rw [cut_to, cut_from, tx_cat, tx_cat]
          · simp
            omega
          · simp only [List.mem_append, List.mem_singleton] at hd
            rcases hd with (h | h) | h
            · exact hll d (List.mem_of_mem_take h)
            · rw [h]; exact hc
            · exact hll d (List.mem_of_mem_drop h)
      · refine ⟨_, rfl, rfl, _, rfl, ?_⟩
        refine ite2 (fun _ => ?_) (fun _ => ?_)
        · refine ⟨_, rfl, _, rfl, _, rfl, _, rfl, hzl, _, rfl, _, rfl, _, _, rfl, rfl, _, rfl, _, rfl, hzl, _, _, rfl, rfl, ?_, ?_⟩
          · rw [cut_to, hr1', cut_from, tx_len, tx_len]
            refine big2 ?_
            simp
            omega
          · refine qstr ?_ (fin (l.take r ++ l.drop (r + 1)) ?_ fun d hd => ?_)
            · rw [cut_to, hr1', cut_from, tx_cat]
            · simp
              omega
            · rcases List.mem_append.mp hd with h | h
              · exact hll d (List.mem_of_mem_take h)
              · exact hll d (List.mem_of_mem_drop h)
        · exact ⟨_, rfl, l, rfl, by omega, fin l.reverse (by simp) fun d hd => hll d (List.mem_reverse.mp hd)⟩
end
end TW
set_option Elab.async false
set_option linter.all false
set_option maxRecDepth 100000
set_option maxHeartbeats 4000000
namespace TW
open PySem PySem.Spec PyProof.Rows L2 LamX
abbrev s__law_folded : Stmt := topS 37
def N__law_folded : List Str := ["_law_script", "_law_n", "_law_found", "_law_cell"]
theorem sc__law_folded : FnScope N__law_folded ["_law_script"] (C8.fnScope s__law_folded) := C8.fnScope_by (by decide +kernel)
def sp__law_folded (K : PySem.W.Frag) : Sp := fun vs H Q _ => ∃ (a : Addr) (ns : List Int), vs = [.ref a] ∧ SqL K H a (ns.map V.int) ∧ ns.length ≤ 1000 ∧ ∀ D (cs : List Int) H', H D = none → Same H H' → H' D = some (.lst (cs.map V.int)) → cs.length = 64 → Q (.ref D) H'
abbrev s__law_begun : Stmt := topS 39
def N__law_begun : List Str := ["_law_script", "_law_m", "_law_cell"]
theorem sc__law_begun : FnScope N__law_begun ["_law_script"] (C8.fnScope s__law_begun) := C8.fnScope_by (by decide +kernel)
def sp__law_begun (K : PySem.W.Frag) : Sp := fun vs H Q _ => ∃ (a : Addr) (ns : List Int), vs = [.ref a] ∧ SqL K H a (ns.map V.int) ∧ ns.length ≤ 1000 ∧ ∀ M C Gr H', H M = none → H Gr = none → Same H H' → MSt H' M C Gr 0 → Q (.ref M) H'
theorem sqSame {K : PySem.W.Frag} {H H' : Hp} {a : Addr} {xs : List V} (h : SqL K H a xs) (s : Same H H') : SqL K H' a xs := by
  rcases h with h | h
  · rcases h with h | ⟨o, h⟩
    · exact .inl (.inl (s _ _ h))
    · exact .inl (.inr ⟨o, s _ _ h⟩)
  · exact .inr h
theorem merge3 (C G0 : Addr) : mergeK [] [((Sum.inr ("cells" : Str) : Key), V.ref C), (Sum.inr ("great" : Str), .ref G0), (Sum.inr ("spot" : Str), .int 0)] = [(Sum.inr ("cells" : Str), .ref C), (Sum.inr ("great" : Str), .ref G0), (Sum.inr ("spot" : Str), .int (0 : Nat))] := by
  have h1 : decide ((Sum.inr ("cells" : Str) : Key) = Sum.inr ("spot" : Str)) = false := by decide
  have h2 : decide ((Sum.inr ("great" : Str) : Key) = Sum.inr ("spot" : Str)) = false := by decide
  have h3 : decide ((Sum.inr ("cells" : Str) : Key) = Sum.inr ("great" : Str)) = false := by decide
  unfold mergeK
  simp only [List.foldl_cons, List.foldl_nil]
  unfold putK
  simp only [List.any_nil, List.any_cons, List.nil_append, List.cons_append, Bool.or_false, h1, h2, h3, Bool.false_eq_true, if_false]
  rfl
theorem great_put (C G0 Gr : Addr) (n : Nat) : putK [((Sum.inr ("cells" : Str) : Key), V.ref C), (Sum.inr ("great" : Str), .ref G0), (Sum.inr ("spot" : Str), .int (n : Nat))] (Sum.inr ("great" : Str)) (.ref Gr) = [(Sum.inr ("cells" : Str), .ref C), (Sum.inr ("great" : Str), .ref Gr), (Sum.inr ("spot" : Str), .int (n : Nat))] := by
  have h1 : ¬ ((Sum.inr ("cells" : Str) : Key) = Sum.inr ("great" : Str)) := by decide
  have h2 : ¬ ((Sum.inr ("spot" : Str) : Key) = Sum.inr ("great" : Str)) := by decide
  unfold putK
  rw [if_pos (by simp)]
  simp only [List.map_cons, List.map_nil]
  rw [if_neg h1, if_neg h2, if_pos trivial]
section
variable {P : Program} {w : World} {K : PySem.W.Frag} {mg : Str → Option Value} {base : Heap}
theorem c__law_folded (G : Glb K mg) (D : DefAt K mg "_law_folded" s__law_folded) : C8.Cal P w K mg base 1 "_law_folded" (sp__law_folded K) [] := by
  refine cal_of D sc__law_folded (fun _ _ _ _ _ _ us hl => match us, hl with | [_], _ => rfl) (fun vs H Q E h => ?_) (fun f cdv A outer s H vs Q E hr h => ?_)
  · obtain ⟨a, ns, rfl, _⟩ := h; rfl
  · obtain ⟨a, ns, rfl, hsq, hnl, q⟩ := h
    refine ⟨_, (pss_cons (ps_setLc (i := 2) (own := [("_law_n", 1)]) (g := (gName 1)) (tt := tYes) rfl sc__law_folded.nd rfl rfl (sw_true rfl rfl rfl (by decide +kernel)) (pi_range1 rfl G.range (pa_cons pe_int pa_nil)) (blkOk_by (own := [("_law_n", 1)]) (N := N__law_folded) (sc := C8.fnScope s__law_folded) (by decide +kernel)) (fun _ _ _ _ _ => pg_name (i := 1) sc__law_folded.nd rfl (Or.inl rfl)) (fun _ _ _ _ _ => pts_nil) (fun _ _ _ _ _ => (pe_op op_add pe_int (pe_op op_mul pe_int (pv 1)))))
  (pss_cons (ps_for PassesOwn.never rfl (pi_enum rfl G.enumerate (pa_cons (pv 0) pa_nil)) (pg_tup rfl (pgs_cons (pg_name (i := 1) sc__law_folded.nd rfl (Or.inl rfl)) (pgs_cons (pg_name (i := 3) sc__law_folded.nd rfl (Or.inl rfl)) pgs_nil)))
  (pss_one (ps_asg (pe_op op_mod (pe_callTy call_int1 rfl G.int (by decide +kernel) (pa_cons (pe_op op_add (pe_op op_mul (pe_ix ix_list (pv 2) (pe_op op_mod (pe_callTy call_int1 rfl G.int (by decide +kernel) (pa_cons (pv 1) pa_nil)) pe_int) (fun _ _ => rfl)) pe_int) (pv 3)) pa_nil)) pe_int) (pg_sub (pv 2) (pe_op op_mod (pe_callTy call_int1 rfl G.int (by decide +kernel) (pa_cons (pv 1) pa_nil)) pe_int) set_list))))
  (pss_cons (ps_for PassesOwn.never rfl (pi_range2 rfl G.range (pa_cons pe_int (pa_cons pe_int pa_nil))) (pg_name (i := 1) sc__law_folded.nd rfl (Or.inl rfl))
  (pss_one (ps_asg (pe_op op_mod (pe_callTy call_int1 rfl G.int (by decide +kernel) (pa_cons (pe_op op_add (pe_ix ix_list (pv 2) (pv 1) (fun _ _ => rfl)) (pe_op op_mul (pe_ix ix_list (pv 2) (pe_op op_sub (pv 1) pe_int) (fun _ _ => rfl)) pe_int)) pa_nil)) pe_int) (pg_sub (pv 2) (pv 1) set_list))))
  (pss_one (ps_ret (pv 2)))))), ?_⟩
    have p64 : (0 : Int) < 64 := by decide
    have pbig : (0 : Int) < 2147483647 := by decide
    refine ⟨64, rfl, by decide, by decide, fun D nD => ?_⟩
    refine lc_it walk_range (fun i H' => ∃ cs : List Int, cs.length = i ∧ Same H H' ∧ H' D = some (.lst (cs.map V.int))) ⟨[], rfl, same_upd nD, upd_same⟩ (fun _ _ _ _ => trivial) ?_ ?_
    · rintro i x H1 H2 hi ⟨cs, hc, s1, e1⟩ ⟨rfl, rfl⟩
      refine ⟨rfl, _, rfl, _, _, rfl, rfl, .inl ⟨by decide, by decide⟩, _, _, rfl, rfl, _, e1, ?_, cs ++ [29 + 3 * (0 + (i : Int))], by simp [hc], same_set s1 nD, by rw [upd_same]; simp⟩
      rw [List.length_map, hc]
      exact small1000 (by have : i < 64 := hi; omega)
    rintro H1 ⟨cs, hc, s1, e1⟩
    replace hc : cs.length = 64 := hc
    refine ⟨_, rfl, a, _, rfl, sqSame hsq s1, ?_⟩
    refine for_it (walk_enum (xs := ns.map V.int)) (fun i σ H' => ∃ y1 y3, ∃ cs : List Int, σ = [some (.ref a), y1, some (.ref D), y3] ∧ Same H H' ∧ H' D = some (.lst (cs.map V.int)) ∧ cs.length = 64) ⟨none, none, cs, rfl, s1, e1, hc⟩ (fun i σ H' hi ⟨_, _, _, _, s, _⟩ => sqSame hsq s) ?_ ?_
    · rintro i x σ H2 H3 hi ⟨y1, y3, cs, rfl, s2, e2, hc⟩ ⟨T, x1, x2, rfl, nT, rfl, hx1, hx2⟩
      obtain rfl : V.int (i : Nat) = x1 := Option.some.inj hx1
      obtain ⟨z, rfl⟩ : ∃ z, V.int z = x2 := by
        have hx2 : (ns.map V.int)[i]? = some x2 := hx2
        rw [List.getElem?_map] at hx2
        cases h : ns[i]? with
        | none => rw [h] at hx2; cases hx2
        | some z => rw [h] at hx2; exact ⟨z, Option.some.inj hx2⟩
      have hTD : D ≠ T := ne_of_none e2 nT
      have s3 : Same H (upd H2 T (.tup [.int (i : Nat), .int z])) := s2.trans (same_upd nT)
      have e3 : upd H2 T (.tup [.int (i : Nat), .int z]) D = some (.lst (cs.map V.int)) := by rw [upd_ne hTD]; exact e2
      have eT : upd H2 T (.tup [.int (i : Nat), .int z]) T = some (.tup [.int (i : Nat), .int z]) := upd_same
      generalize upd H2 T (.tup [.int (i : Nat), .int z]) = H4 at s3 e3 eT
      have hd : ((i : Nat) : Int) % 64 = ((i % 64 : Nat) : Int) := by omega
      have hlt : i % 64 < cs.length := by rw [hc]; exact Nat.mod_lt _ (by decide)
      have hat : atI (cs.map V.int) (((i : Nat) : Int) % 64) = some (.int cs[i % 64]) := by
        rw [hd]
        exact atI_nat (by rw [List.getElem?_map, List.getElem?_eq_getElem hlt]; rfl)
      have hix : ixN (cs.map V.int).length (((i : Nat) : Int) % 64) = some (i % 64) := by
        rw [hd]
        unfold ixN
        rw [if_pos (by omega), if_pos (by rw [List.length_map]; omega)]
        rfl
      refine ⟨T, _, rfl, .inl (.inl eT), rfl, _, _, rfl, _, _, rfl, rfl, ?_⟩
      refine ⟨_, rfl, _, rfl, .inl ⟨_, rfl, _, _, rfl, rfl, p64, D, _, _, _, rfl, rfl, .inl (.inl e3), hat, _, _, rfl, rfl, .inr ⟨by decide, by decide⟩, _, rfl, _, _, rfl, rfl, .inl ⟨_, rfl, _, _, rfl, rfl, pbig, ?_⟩⟩⟩
      refine ⟨_, rfl, _, rfl, .inl ⟨_, rfl, _, _, rfl, rfl, p64, D, _, _, _, rfl, rfl, e3, hix, ?_⟩⟩
      exact ⟨_, _, cs.set (i % 64) ((cs[i % 64] * 69621 + z) % 2147483647), rfl, same_set s3 nD, by rw [upd_same, List.map_set], by rw [List.length_set]; exact hc⟩
    rintro σ H2 ⟨y1, y3, cs, rfl, s2, e2, hc⟩
    refine ⟨1, 64, rfl, ⟨by decide, by decide, by decide, by decide⟩, ?_⟩
    refine for_it walk_range (fun i σ H' => ∃ y1, ∃ cs : List Int, σ = [some (.ref a), y1, some (.ref D), y3] ∧ Same H H' ∧ H' D = some (.lst (cs.map V.int)) ∧ cs.length = 64) ⟨y1, cs, rfl, s2, e2, hc⟩ (fun _ _ _ _ _ => trivial) ?_ ?_
    · rintro i x σ H3 H4 hi ⟨y1, cs, rfl, s3, e3, hc⟩ ⟨rfl, rfl⟩
      have hi : i < 63 := hi
      have hlt : i + 1 < cs.length := by omega
      have hlt0 : i < cs.length := by omega
      have h1 : (1 : Int) + (i : Int) = ((i + 1 : Nat) : Int) := by omega
      have h0 : (1 : Int) + (i : Int) - 1 = ((i : Nat) : Int) := by omega
      have hat : atI (cs.map V.int) ((1 : Int) + (i : Int)) = some (.int cs[i + 1]) := by
        rw [h1]
        exact atI_nat (by rw [List.getElem?_map, List.getElem?_eq_getElem hlt]; rfl)
      have hat0 : atI (cs.map V.int) ((1 : Int) + (i : Int) - 1) = some (.int cs[i]) := by
        rw [h0]
        exact atI_nat (by rw [List.getElem?_map, List.getElem?_eq_getElem hlt0]; rfl)
      have hix : ixN (cs.map V.int).length ((1 : Int) + (i : Int)) = some (i + 1) := by
        rw [h1]
        unfold ixN
        rw [if_pos (by omega), if_pos (by rw [List.length_map]; omega)]
        rfl
      refine ⟨_, rfl, _, rfl, D, _, _, _, rfl, rfl, .inl (.inl e3), hat, _, rfl, _, rfl, _, _, rfl, rfl, D, _, _, _, rfl, rfl, .inl (.inl e3), hat0, _, _, rfl, rfl, .inr ⟨by decide, by decide⟩, _, _, rfl, rfl, .inl ⟨_, rfl, _, _, rfl, rfl, pbig, ?_⟩⟩
      refine ⟨_, rfl, _, rfl, D, _, _, _, rfl, rfl, e3, hix, ?_⟩
      exact ⟨_, cs.set (i + 1) ((cs[i + 1] + cs[i] * 48271) % 2147483647), rfl, same_set s3 nD, by rw [upd_same, List.map_set], by rw [List.length_set]; exact hc⟩
    · rintro σ H3 ⟨y1, cs, rfl, s3, e3, hc⟩
      exact ⟨_, rfl, q D cs H3 nD s3 e3 hc⟩
theorem c__law_begun (G : Glb K mg) (c__law_folded : C8.Cal P w K mg base 1 "_law_folded" (sp__law_folded K) []) (D : DefAt K mg "_law_begun" s__law_begun) : C8.Cal P w K mg base 2 "_law_begun" (sp__law_begun K) [] := by
  refine cal_of D sc__law_begun (fun _ _ _ _ _ _ us hl => match us, hl with | [_], _ => rfl) (fun vs H Q E h => ?_) (fun f cdv A outer s H vs Q E hr h => ?_)
  · obtain ⟨a, ns, rfl, _⟩ := h; rfl
  · obtain ⟨a, ns, rfl, hsq, hnl, q⟩ := h
    have hu1 : (cxOf C8.CX0 P w K mg base N__law_begun "_law_begun" (C8.fnScope s__law_begun) f cdv A outer s H E).nox.A.units + 1 < cLine := by
      have := hr.units
      exact Nat.lt_of_le_of_lt (by show _ ≤ _ + 64; exact Nat.add_le_add_left (by decide) _) this
    refine ⟨_, (pss_cons (ps_set (i := 1) sc__law_begun.nd rfl (Or.inl rfl) (pe_disp (pps_cons pe_str (C8.pe_c c__law_folded hr (by decide) rfl (pa_cons (pv 0) pa_nil)) (pps_cons pe_str (pe_lst pa_nil) (pps_cons pe_str pe_int pps_nil))) (by rfl) (by rfl) (fun z => by cases z) (by decide)))
  (pss_cons (ps_dput hu1 (pv 1) pe_str (pe_lc (own := [("_law_cell", 2)]) (g := (gName 2)) (tt := tYes) rfl sc__law_begun.nd (pi_list (pv 0)) (blkOk_by (own := [("_law_cell", 2)]) (N := N__law_begun) (sc := C8.fnScope s__law_begun) (by decide +kernel)) (fun _ _ _ _ _ => pg_name (i := 2) sc__law_begun.nd rfl (Or.inl rfl)) (fun _ _ _ _ _ => pts_nil) (fun _ _ _ _ _ => (pe_ifExp (pt_cmpR op_ge (pv 2) (pe_op op_pow pe_int pe_int) (nomark _)) (pv 2) pe_int))) rfl)
  (pss_one (ps_ret (pv 1))))), ?_⟩
    refine fun M nM => ?_
    have s1 : Same H (upd H M (.dK [])) := same_upd nM
    have eM1 : upd H M (.dK []) M = some (.dK []) := upd_same
    generalize upd H M (.dK []) = H1 at s1 eM1
    refine ⟨_, rfl, a, ns, rfl, sqSame hsq s1, hnl, fun C cs H2 nC s2 eC hcs => ?_⟩
    refine ⟨Nat.zero_le _, fun G0 nG0 => ?_⟩
    have s3 : Same H1 (upd H2 G0 (.lst [])) := s2.trans (same_upd nG0)
    have eM3 : upd H2 G0 (.lst []) M = some (.dK []) := s3 _ _ eM1
    have eC3 : upd H2 G0 (.lst []) C = some (.lst (cs.map V.int)) := by rw [upd_ne (ne_of_none eC nG0)]; exact eC
    generalize upd H2 G0 (.lst []) = H3 at s3 eM3 eC3
    refine ⟨eM3, [(Sum.inr ("cells" : Str), .ref C), (Sum.inr ("great" : Str), .ref G0), (Sum.inr ("spot" : Str), .int 0)], rfl, by simp, ?_⟩
    rw [merge3]
    have nMC : C ≠ M := fun z => by rw [z, eM3] at eC3; cases eC3
    have s4 : Same H (upd H3 M (.dK [(Sum.inr ("cells" : Str), .ref C), (Sum.inr ("great" : Str), .ref G0), (Sum.inr ("spot" : Str), .int (0 : Nat))])) := same_set (s1.trans s3) nM
    have eM4 : upd H3 M (.dK [(Sum.inr ("cells" : Str), .ref C), (Sum.inr ("great" : Str), .ref G0), (Sum.inr ("spot" : Str), .int (0 : Nat))]) M = some (.dK [(Sum.inr ("cells" : Str), .ref C), (Sum.inr ("great" : Str), .ref G0), (Sum.inr ("spot" : Str), .int (0 : Nat))]) := upd_same
    have eC4 : upd H3 M (.dK [(Sum.inr ("cells" : Str), .ref C), (Sum.inr ("great" : Str), .ref G0), (Sum.inr ("spot" : Str), .int (0 : Nat))]) C = some (.lst (cs.map V.int)) := by rw [upd_ne nMC]; exact eC3
    generalize upd H3 M (.dK [(Sum.inr ("cells" : Str), .ref C), (Sum.inr ("great" : Str), .ref G0), (Sum.inr ("spot" : Str), .int (0 : Nat))]) = H4 at s4 eM4 eC4
    refine gN ?_
    refine ⟨_, rfl, a, rfl, ⟨_, sqSame hsq s4⟩, fun Gr nGr => ?_⟩
    have nGrH : H Gr = none := none_of s4 nGr
    have nGM : M ≠ Gr := ne_of_none eM4 nGr
    have nGC : C ≠ Gr := ne_of_none eC4 nGr
    refine lc_it (walk_list (xs := ns.map V.int)) (fun i H' => ∃ gs : List Int, gs.length = i ∧ Same H4 H' ∧ H' Gr = some (.lst (gs.map V.int))) ⟨[], rfl, same_upd nGr, upd_same⟩ (fun i H' hi ⟨_, _, s5, _⟩ => sqSame (sqSame hsq s4) s5) ?_ ?_
    · rintro i x H5 H6 hi ⟨gs, hg, s5, e5⟩ ⟨rfl, hx⟩
      obtain ⟨z, rfl⟩ : ∃ z, V.int z = x := by
        rw [List.getElem?_map] at hx
        cases h : ns[i]? with
        | none => rw [h] at hx; cases hx
        | some z => rw [h] at hx; exact ⟨z, Option.some.inj hx⟩
      have hi : i < ns.length := by simpa using hi
      refine ⟨rfl, _, rfl, _, _, rfl, rfl, ⟨by decide, by decide, by decide⟩, _, _, rfl, rfl, _, rfl, ?_⟩
      have fin : ∀ v : Int, ∃ acc, H6 Gr = some (.lst acc) ∧ acc.length < sizeLine ∧ ∃ gs : List Int, gs.length = i + 1 ∧ Same H4 (upd H6 Gr (.lst (acc ++ [.int v]))) ∧ upd H6 Gr (.lst (acc ++ [.int v])) Gr = some (.lst (gs.map V.int)) := fun v => by
        refine ⟨_, e5, ?_, gs ++ [v], by simp [hg], same_set s5 nGr, by rw [upd_same]; simp⟩
        rw [List.length_map, hg]
        exact small1000 (by omega)
      refine ite2 (fun _ => ?_) (fun _ => ?_)
      · exact ⟨_, rfl, fin z⟩
      · exact fin 0
    rintro H5 ⟨gs, hg, s5, e5⟩
    refine ⟨_, rfl, M, _, rfl, .inl ⟨_, Sum.inr ("great" : Str), s5 _ _ eM4, rfl, small1000 (by simp), rfl⟩, ?_⟩
    rw [great_put]
    refine ⟨_, rfl, q M C Gr _ nM nGrH (same_set (s4.trans s5) nM) ⟨upd_same, ⟨cs, ?_, hcs⟩, ⟨gs, ?_, ?_⟩, nGC⟩⟩
    · rw [upd_ne nMC]; exact s5 _ _ eC4
    · rw [upd_ne (Ne.symm nGM)]; exact e5
    · rw [hg]; simpa using hnl
end
end TW
set_option Elab.async false
set_option linter.all false
set_option maxRecDepth 100000
set_option maxHeartbeats 4000000
namespace TW
open PySem PySem.Spec PyProof.Rows L2 LamX
/-! ### repr of small data -/
structure OKd (n B : Nat) (d : PyData) : Prop where
  show_ : d.showable = true
  nd : d.hasDict = false
  dep : d.depth ≤ n
  len : d.shown.length ≤ B
theorem textFrom_le : ∀ (ts : List Str) (k : Nat) (acc : Str) (B : Nat), (∀ t ∈ ts, t.length ≤ B) → (textFrom k acc ts).length ≤ acc.length + ts.length * (B + 2)
  | [], k, acc, B, h => by show acc.length ≤ _; simp
  | t :: r, k, acc, B, h => by
    have ih := textFrom_le r (k + 1) (acc ++ (if k > 0 then ", " else "" : String) ++ t) B fun x hx => h x (List.mem_cons_of_mem _ hx)
    have ht := h t (List.mem_cons_self ..)
    have e : (acc ++ (if k > 0 then ", " else "" : String) ++ t : Str).length ≤ acc.length + 2 + t.length := by
      have hl : ∀ a b : Str, (a ++ b).length = a.length + b.length := fun a b => by
        show (a.cps ++ b.cps).size = _
        exact Array.size_append ..
      rw [hl, hl]
      have : (Str.ofString (if k > 0 then ", " else "" : String)).length ≤ 2 := by
        split <;> decide
      omega
    show (textFrom (k + 1) _ r).length ≤ _
    rw [List.length_cons, Nat.add_mul]
    omega
theorem str_len (a b : Str) : (a ++ b).length = a.length + b.length := by
  show (a.cps ++ b.cps).size = _
  exact Array.size_append ..
theorem listText_le {ts : List Str} {B : Nat} (h : ∀ t ∈ ts, t.length ≤ B) : (listText ts).length ≤ ts.length * (B + 2) + 3 := by
  unfold listText
  rw [str_len]
  have h1 := textFrom_le ts 0 "[" B h
  have h2 : (Str.ofString "[").length = 1 := rfl
  have h3 : (Str.ofString "]").length = 1 := rfl
  omega
theorem piled_le {ts : List Str} {B : Nat} (h : ∀ t ∈ ts, t.length ≤ B) : piled ts ≤ ts.length * (B + 2) := by
  induction ts with
  | nil => exact Nat.zero_le _
  | cons t r ih =>
    rw [piled_cons, List.length_cons, Nat.add_mul]
    have := h t (List.mem_cons_self ..)
    have := ih fun x hx => h x (List.mem_cons_of_mem _ hx)
    omega
theorem tupleText_le {ts : List Str} {B : Nat} (h : ∀ t ∈ ts, t.length ≤ B) : (tupleText ts).length ≤ ts.length * (B + 2) + 3 := by
  unfold tupleText
  rw [str_len, str_len]
  have h2 : (Str.ofString "(").length = 1 := rfl
  have h3 : (Str.ofString (if ts.length == 1 then ",)" else ")" : String)).length ≤ 2 := by split <;> decide
  by_cases hn : ts = []
  · subst hn
    have : (Str.join ", " []).length = 0 := rfl
    omega
  · have h4 := join_length_add ts hn
    have h5 := piled_le h
    omega
theorem shownAll_map : ∀ ds : List PyData, PyData.shownAll ds = ds.map PyData.shown
  | [] => rfl
  | d :: ds => by simp only [PyData.shownAll, List.map_cons, shownAll_map ds]
theorem all_ok : ∀ {ds : List PyData} {n B : Nat}, (∀ d ∈ ds, OKd n B d) → PyData.showableAll ds = true ∧ PyData.hasDictAll ds = false ∧ PyData.depthAll ds ≤ n
  | [], n, B, h => ⟨rfl, rfl, Nat.zero_le _⟩
  | d :: ds, n, B, h => by
    have hd := h d (List.mem_cons_self ..)
    obtain ⟨a, b, c⟩ := all_ok (ds := ds) fun x hx => h x (List.mem_cons_of_mem _ hx)
    refine ⟨?_, ?_, ?_⟩
    · simp only [PyData.showableAll, hd.show_, a, Bool.and_self]
    · simp only [PyData.hasDictAll, hd.nd, b, Bool.or_self]
    · simp only [PyData.depthAll]
      exact Nat.max_le.mpr ⟨hd.dep, c⟩
theorem OKd.list {ds : List PyData} {n B : Nat} (h : ∀ d ∈ ds, OKd n B d) : OKd (n + 1) (ds.length * (B + 2) + 3) (.list ds) := by
  obtain ⟨a, b, c⟩ := all_ok h
  refine ⟨by simpa only [PyData.showable] using a, by simpa only [PyData.hasDict] using b, by simp only [PyData.depth]; omega, ?_⟩
  simp only [PyData.shown]
  rw [shownAll_map]
  have := listText_le (ts := ds.map PyData.shown) (B := B) fun t ht => by
    obtain ⟨d, hd, rfl⟩ := List.mem_map.mp ht
    exact (h d hd).len
  rwa [List.length_map] at this
theorem OKd.tuple {ds : List PyData} {n B : Nat} (h : ∀ d ∈ ds, OKd n B d) : OKd (n + 1) (ds.length * (B + 2) + 3) (.tuple ds) := by
  obtain ⟨a, b, c⟩ := all_ok h
  refine ⟨by simpa only [PyData.showable] using a, by simpa only [PyData.hasDict] using b, by simp only [PyData.depth]; omega, ?_⟩
  simp only [PyData.shown]
  rw [shownAll_map]
  have := tupleText_le (ts := ds.map PyData.shown) (B := B) fun t ht => by
    obtain ⟨d, hd, rfl⟩ := List.mem_map.mp ht
    exact (h d hd).len
  rwa [List.length_map] at this
theorem OKd.mono {n B n' B' : Nat} {d : PyData} (h : OKd n B d) (h1 : n ≤ n') (h2 : B ≤ B') : OKd n' B' d := ⟨h.show_, h.nd, Nat.le_trans h.dep h1, Nat.le_trans h.len h2⟩
theorem OKd.non : OKd 0 10 .none := ⟨rfl, rfl, by simp [PyData.depth], by decide +kernel⟩
theorem OKd.bl (b : Bool) : OKd 0 10 (.bool b) := ⟨rfl, rfl, by simp [PyData.depth], by cases b <;> decide +kernel⟩
theorem OKd.str {l : List Nat} (h : Lo l) : OKd 0 (10 * l.length + 2) (.str (tx l)) := by
  refine ⟨rfl, rfl, by simp [PyData.depth], ?_⟩
  have := PySem.StrLaws.reprText_len (tx l) fun c hc => by
    have := h c (by simpa using hc)
    show c < 16 ^ 8
    omega
  rwa [tx_len] at this
theorem nat_shown : ∀ n : Fin 130, (PyData.shown (.int ((n.val : Nat) : Int))).length ≤ 10 ∧ (n.val : Int).natAbs.log2 < 1920 := by decide +kernel
theorem OKd.i2000 : OKd 0 10 (.int (2000 : Nat)) := ⟨by simp only [PyData.showable]; decide +kernel, rfl, by simp [PyData.depth], by decide +kernel⟩
theorem OKd.nat {n : Nat} (h : n < 130) : OKd 0 10 (.int (n : Nat)) := ⟨by simp only [PyData.showable]; exact decide_eq_true (nat_shown ⟨n, h⟩).2, rfl, by simp [PyData.depth], (nat_shown ⟨n, h⟩).1⟩
theorem call_reprD {X : Cx} (hg : X.A.guards = some []) (hu : X.A.units + 64 < cLine) : CallR X (.builtin "repr") (fun xs H Q => ∃ (p : Addr) (d : PyData) (n B : Nat), xs = [.ref p] ∧ Dp X.K H (.ref p) d ∧ OKd n B d ∧ n ≤ 60 ∧ B ≤ sizeLine ∧ Q (.str d.shown) H) := by
  intro pins s σ H xs us Q I r h
  obtain ⟨p, d, n, B, rfl, hd, ok, hn, hB, q⟩ := h
  obtain ⟨u, rfl, rfl⟩ := vals1 r
  obtain ⟨as, rd⟩ := Dp.reads I d _ _ hd rfl
  refine repr_of_reads' rd ok.show_ (PyData.noDict_hsm ok.nd) hg (by have := ok.dep; omega) (fun _ _ h => h) (fun h' u tk hk => ?_) (Nat.le_trans ok.len hB)
  exact ⟨.str d.shown, H, I.kept hk, ⟨u, rfl⟩, q⟩
abbrev s__law_like : Stmt := topS 40
def N__law_like : List Str := ["_law_got", "_law_due"]
theorem sc__law_like : FnScope N__law_like ["_law_got", "_law_due"] (C8.fnScope s__law_like) := C8.fnScope_by (by decide +kernel)
def sp__law_like (K : PySem.W.Frag) : Sp := fun vs H Q _ => ∃ (p p2 : Addr) (d : PyData) (n B : Nat), vs = [.ref p, .ref p2] ∧ Dp K H (.ref p) d ∧ Dp K H (.ref p2) d ∧ OKd n B d ∧ n ≤ 60 ∧ B ≤ 10000000 ∧ Q (.bl true) H
section
variable {P : Program} {w : World} {K : PySem.W.Frag} {mg : Str → Option Value} {base : Heap}
theorem c__law_like (G : Glb K mg) (D : DefAt K mg "_law_like" s__law_like) : CalG P w K mg base 1 "_law_like" (sp__law_like K) := by
  obtain ⟨cdv, D⟩ := D.code
  refine calG_of D sc__law_like (fun _ _ _ _ _ _ us hl => match us, hl with | [_, _], _ => rfl) (fun vs H Q E h => ?_) (fun f A outer s H vs Q E hgd hr h => ?_)
  · obtain ⟨a, b, d, n, B, rfl, _⟩ := h; rfl
  · obtain ⟨a, b, d, n, B, rfl, h1, h2, ok, hn, hB, q⟩ := h
    have hsz : B ≤ sizeLine := by rw [sizeLine_eq]; omega
    refine ⟨_, (pss_one (ps_ret (pe_cmpR op_eq (pe_callB (call_reprD hgd hr.units) rfl G.repr (by decide +kernel) (pa_cons (pv 0) pa_nil)) (pe_callB (call_reprD hgd hr.units) rfl G.repr (by decide +kernel) (pa_cons (pv 1) pa_nil)) (nomark _)))), ?_⟩
    refine ⟨_, rfl, a, d, n, B, rfl, h1, ok, hn, hsz, _, rfl, b, d, n, B, rfl, h2, ok, hn, hsz, rfl, ?_⟩
    exact qbl (decide_eq_true rfl).symm q
end
end TW
set_option Elab.async false
set_option linter.all false
set_option maxRecDepth 100000
set_option maxHeartbeats 4000000
namespace TW
open PySem PySem.Spec PyProof.Rows L2 LamX
abbrev s__law_asked_right : Stmt := topS 54
def N__law_asked_right : List Str := ["_law_text", "_law_olds_here", "_law_old", "_law_due", "_law_turn"]
theorem sc__law_asked_right : FnScope N__law_asked_right ["_law_text", "_law_olds_here", "_law_old"] (C8.fnScope s__law_asked_right) := C8.fnScope_by (by decide +kernel)
def sp__law_asked_right : Sp := fun vs H Q _ => ∃ (l e : List Nat) (d : Addr) (found : List (List Nat × Nat)), vs = [.str (tx l), .ref d, .str (tx e)] ∧ Ok l ∧ Ok e ∧ H d = some (.dK (dn found)) ∧ (found.map (·.1)).Nodup ∧ (∀ x n, (x, n) ∈ found ↔ D x l n) ∧ ∀ H', Same H H' → Q (.bl true) H'
theorem val_dn2 {found : List (List Nat × Nat)} {e : List Nat} {n : Nat} (nd : (found.map (·.1)).Nodup) (h : (e, n) ∈ found) : valV (dn found) (Sum.inr (tx e)) = some (.int (n : Nat)) := by
  unfold valV
  induction found with
  | nil => exact nomatch h
  | cons p r ih =>
    rw [List.map_cons, List.nodup_cons] at nd
    rcases List.mem_cons.mp h with rfl | h
    · show Option.map _ (List.find? _ (_ :: _)) = _
      rw [List.find?_cons_of_pos (by simp)]; rfl
    · have hne : p.1 ≠ e := fun z => nd.1 (List.mem_map.mpr ⟨_, h, z.symm⟩)
      show Option.map _ (List.find? _ (_ :: dn r)) = _
      rw [List.find?_cons_of_neg (by
        show ¬ decide ((Sum.inr (tx p.1) : Key) = Sum.inr (tx e)) = true
        rw [decide_eq_true_eq]
        exact fun z => hne (tx_inj (Sum.inr.inj z)))]
      exact ih nd.2 h
theorem grows_dn {found : List (List Nat × Nat)} {e l : List Nat} (hf : ∀ x n, (x, n) ∈ found ↔ D x l n) : decide (e ∈ found.map (·.1)) = growsB e l := by
  rw [Bool.eq_iff_iff, decide_eq_true_eq, growsB_iff, mem_keys]
  constructor
  · rintro ⟨n, h⟩
    exact ⟨n, ((hf e n).mp h).1⟩
  · intro h
    obtain ⟨n, hn⟩ := D.of_R h
    exact ⟨n, (hf e n).mpr hn⟩
theorem many_dn {found : List (List Nat × Nat)} {e l : List Nat} (nd : (found.map (·.1)).Nodup) (hf : ∀ x n, (x, n) ∈ found ↔ D x l n) : (valV (dn found) (Sum.inr (tx e))).getD .non = manyV e l := by
  unfold manyV
  by_cases hg : growsB e l = true
  · rw [if_pos hg, val_dn2 nd ((hf e _).mpr (fewest_D (growsB_iff.mp hg)))]
    rfl
  · rw [if_neg hg]
    have : (valV (dn found) (Sum.inr (tx e))).isSome = false := by
      rw [val_dn, grows_dn hf]
      exact Bool.eq_false_iff.mpr hg
    cases z : valV (dn found) (Sum.inr (tx e)) with
    | none => rfl
    | some v => rw [z] at this; cases this
/-- the datum of many_short -/
def manyD (e w : List Nat) : PyData := if growsB e w = true then .int (fewest e w : Nat) else .none
theorem many_dp {K : PySem.W.Frag} {H : Hp} {e w : List Nat} : Dp K H (manyV e w) (manyD e w) := by
  unfold manyV manyD
  split
  · exact .int _
  · exact .non
theorem many_ok {e w : List Nat} (h : Ok w) : OKd 0 10 (manyD e w) := by
  unfold manyD
  split
  · rename_i hg
    refine .nat ?_
    have := (fewest_D (growsB_iff.mp hg)).1.len
    have := h.1
    omega
  · exact .non
section
variable {P : Program} {w : World} {K : PySem.W.Frag} {mg : Str → Option Value} {base : Heap}
theorem c__law_asked_right (G : Glb K mg) (c__law_like : CalG P w K mg base 1 "_law_like" (sp__law_like K)) (c_comes_short : C8.Cal P w K mg base 4 "comes_short" sp_comes_short []) (c_many_short : C8.Cal P w K mg base 5 "many_short" sp_many_short []) (D : DefAt K mg "_law_asked_right" s__law_asked_right) : CalG P w K mg base 6 "_law_asked_right" sp__law_asked_right := by
  obtain ⟨cdv, D⟩ := D.code
  refine calG_of D sc__law_asked_right (fun _ _ _ _ _ _ us hl => match us, hl with | [_, _, _], _ => rfl) (fun vs H Q E h => ?_) (fun f A outer s H vs Q E hgd hr h => ?_)
  · obtain ⟨l, e, d, found, rfl, _⟩ := h; rfl
  · obtain ⟨l, e, d, found, rfl, okl, oke, hd, nd, hf, q⟩ := h
    have hu1 : (cxOf C8.CX0 P w K mg base N__law_asked_right "_law_asked_right" (C8.fnScope s__law_asked_right) f cdv A outer s H E).nox.A.units + 1 < cLine := by
      have := hr.units
      exact Nat.lt_of_le_of_lt (by show _ ≤ _ + 64; exact Nat.add_le_add_left (by decide) _) this
    refine ⟨_, (pss_cons (ps_set (i := 3) sc__law_asked_right.nd rfl (Or.inl rfl) (pe_lst (pa_cons (pe_cmp (pc_din hu1 (pv 2) (pv 1)) rfl) (pa_cons (pe_dget1 hu1 (pv 1) (pv 2) ⟨rfl, rfl, rfl, rfl⟩) pa_nil))))
  (pss_cons (ps_for PassesOwn.never rfl (pi_range1 rfl G.range (pa_cons pe_int pa_nil)) (pg_name (i := 4) sc__law_asked_right.nd rfl (Or.inl rfl))
  (pss_one (ps_if (pt_not (pt_val (pe_g c__law_like hgd hr (by decide) rfl (pa_cons (pe_lst (pa_cons (C8.pe_c c_comes_short hr (by decide) rfl (pa_cons (pv 0) (pa_cons (pv 2) pa_nil))) (pa_cons (C8.pe_c c_many_short hr (by decide) rfl (pa_cons (pv 0) (pa_cons (pv 2) pa_nil))) pa_nil))) (pa_cons (pv 3) pa_nil))))) (pss_one (ps_ret pe_bl)) pss_nil)))
  (pss_one (ps_ret pe_bl)))), ?_⟩
    refine ⟨_, rfl, _, rfl, d, _, rfl, .inl ⟨dn found, Sum.inr (tx e), .inl hd, rfl, rfl⟩, _, rfl, d, rfl, .inl ⟨_, .inl hd⟩, _, rfl, _, .inl ⟨dn found, Sum.inr (tx e), .inl hd, rfl, rfl⟩, small1000 (by simp), fun Du nDu => ?_⟩
    rw [val_dn, grows_dn hf, many_dn nd hf]
    have s1 : Same H (upd H Du (.lst [.bl (growsB e l), manyV e l])) := same_upd nDu
    have e1 : upd H Du (.lst [.bl (growsB e l), manyV e l]) Du = some (.lst [.bl (growsB e l), manyV e l]) := upd_same
    generalize upd H Du (.lst [.bl (growsB e l), manyV e l]) = H1 at s1 e1
    refine gN ?_
    refine ⟨2, rfl, by decide, by decide, ?_⟩
    refine for_it walk_range (fun i σ H' => ∃ y4, σ = [some (.str (tx l)), some (.ref d), some (.str (tx e)), some (.ref Du), y4] ∧ Same H1 H') ⟨none, rfl, .refl _⟩ (fun _ _ _ _ _ => trivial) ?_ ?_
    · rintro i x σ H2 H3 hi ⟨y4, rfl, s2⟩ ⟨rfl, rfl⟩
      refine gN (ifS ?_)
      refine ⟨_, rfl, _, rfl, l, e, rfl, okl, oke, fun H4 s4 => ⟨_, rfl, _, rfl, l, e, rfl, okl, oke, fun H5 s5 => ⟨small1000 (by simp), fun Go nGo => ?_⟩⟩⟩
      have s6 : Same H1 (upd H5 Go (.lst [.bl (growsB e l), manyV e l])) := ((s2.trans s4).trans s5).trans (same_upd nGo)
      have e6 : upd H5 Go (.lst [.bl (growsB e l), manyV e l]) Go = some (.lst [.bl (growsB e l), manyV e l]) := upd_same
      generalize upd H5 Go (.lst [.bl (growsB e l), manyV e l]) = H6 at s6 e6
      refine ⟨_, rfl, Go, Du, .list [.bool (growsB e l), manyD e l], 1, _, rfl, .lst (.inl (.inl e6)) (.cons (.bl _) (.cons many_dp .nil)), .lst (.inl (.inl (s6 _ _ e1))) (.cons (.bl _) (.cons many_dp .nil)), OKd.list (n := 0) (B := 10) (fun z hz => ?_), by decide, by simp, true, rfl, iteF ?_⟩
      · rcases List.mem_cons.mp hz with rfl | hz
        · exact .bl _
        · rw [List.mem_singleton.mp hz]; exact many_ok okl
      · exact ⟨_, rfl, s6⟩
    · rintro σ H2 ⟨y4, rfl, s2⟩
      exact q H2 (s1.trans s2)
end
end TW
set_option Elab.async false
set_option linter.all false
set_option maxRecDepth 100000
namespace TW
open PySem PySem.Spec PyProof.Rows L2 LamX
theorem leT_total : PySem.W.TotalLe leT := PySem.W.sortLe_total _ false _
theorem leT_anti {x y : List Nat} (h1 : leT x y = true) (h2 : leT y x = true) : x = y := by
  have e1 : (!(PyProof.Rows.listOrd PyProof.Rows.itemOrd).blt (PySem.W.keyToks (keyOf (tx y))) (PySem.W.keyToks (keyOf (tx x)))) = true := h1
  have e2 : (!(PyProof.Rows.listOrd PyProof.Rows.itemOrd).blt (PySem.W.keyToks (keyOf (tx x))) (PySem.W.keyToks (keyOf (tx y)))) = true := h2
  rw [Bool.not_eq_true'] at e1 e2
  have e := (PyProof.Rows.listOrd PyProof.Rows.itemOrd).total _ _ e2 e1
  have e : PySem.W.keyToks (keyOf (tx x)) = PySem.W.keyToks (keyOf (tx y)) := e
  simp [PySem.W.keyToks, PySem.W.keyToksAll] at e
  exact e.2
theorem filter_one {A : List (List Nat)} (h : A.Nodup) (c : List Nat) : A.filter (PySem.W.sameRank leT c) = if c ∈ A then [c] else [] := by
  have hs : PySem.W.sameRank leT c = fun a => decide (a = c) := by
    funext a
    unfold PySem.W.sameRank
    rw [Bool.eq_iff_iff, Bool.and_eq_true, decide_eq_true_eq]
    constructor
    · rintro ⟨h1, h2⟩
      exact leT_anti h2 h1
    · rintro rfl
      exact ⟨leT_total.refl _, leT_total.refl _⟩
  rw [hs]
  induction A with
  | nil => rfl
  | cons a A ih =>
    rw [List.nodup_cons] at h
    by_cases hac : a = c
    · subst hac
      rw [List.filter_cons_of_pos (by simp), ih h.2, if_neg h.1, if_pos (List.mem_cons_self ..)]
    · rw [List.filter_cons_of_neg (by simpa using hac), ih h.2]
      by_cases hc : c ∈ A
      · rw [if_pos hc, if_pos (List.mem_cons_of_mem _ hc)]
      · rw [if_neg hc, if_neg (by
          intro z
          rcases List.mem_cons.mp z with z | z
          · exact hac z.symm
          · exact hc z)]
theorem sort_eq {A B : List (List Nat)} (hA : A.Nodup) (hB : B.Nodup) (h : ∀ x, x ∈ A ↔ x ∈ B) : A.mergeSort leT = B.mergeSort leT := by
  refine PySem.W.sort_unique leT_total (PySem.W.sort_pairwise leT_total A) fun c => ?_
  rw [PySem.W.sort_stable leT_total, filter_one hA, filter_one hB]
  by_cases hc : c ∈ A
  · rw [if_pos hc, if_pos ((h c).mp hc)]
  · rw [if_neg hc, if_neg (fun z => hc ((h c).mpr z))]
theorem sorted_is {A B : List (List Nat)} (hA : A.Nodup) (hB : B.Nodup) (h : ∀ x, x ∈ A ↔ x ∈ B) (hs : B.Pairwise fun a b => leT a b = true) : A.mergeSort leT = B := by
  refine (PySem.W.sort_unique leT_total hs fun c => ?_).symm
  rw [filter_one hA, filter_one hB]
  by_cases hc : c ∈ A
  · rw [if_pos hc, if_pos ((h c).mp hc)]
  · rw [if_neg hc, if_neg (fun z => hc ((h c).mpr z))]
/-! ### how many elders a short text has -/
def subs : List Nat → List (List Nat)
  | [] => [[]]
  | a :: l => subs l ++ (subs l).map (a :: ·)
theorem subs_len : ∀ l, (subs l).length = 2 ^ l.length
  | [] => rfl
  | a :: l => by
    simp only [subs, List.length_append, List.length_map, subs_len l, List.length_cons, Nat.pow_succ]
    omega
theorem mem_subs : ∀ {x l : List Nat}, x.Sublist l → x ∈ subs l
  | _, _, .slnil => List.mem_singleton.mpr rfl
  | _, _, .cons a h => List.mem_append_left _ (mem_subs h)
  | _, _, .cons_cons a h => List.mem_append_right _ (List.mem_map.mpr ⟨_, mem_subs h, rfl⟩)
/-- the first sign, the last sign, a part of what is between -/
def Like (e w : List Nat) : Prop := e.Sublist w ∧ e.head? = w.head? ∧ e.getLast? = w.getLast?
theorem Like.of_cp {e w : List Nat} (h : Cp e w) : Like e w := by
  obtain ⟨l, x, r, hx, rfl, rfl⟩ := h
  have hne : x ≠ [] := by rintro rfl; simp at hx
  refine ⟨?_, ?_, ?_⟩
  · rw [List.append_assoc, List.append_assoc (l ++ x), List.append_assoc l x (x ++ r)]
    exact List.Sublist.append (List.Sublist.refl l) (List.sublist_append_right x (x ++ r))
  · cases l with
    | nil => cases x with
      | nil => exact absurd rfl hne
      | cons a x => rfl
    | cons a l => rfl
  · rw [List.getLast?_append, List.getLast?_append (l := l ++ x ++ x)]
    cases r.getLast? with
    | some a => rfl
    | none =>
      rw [List.getLast?_append, List.getLast?_append (l := l ++ x)]
      cases hx2 : x.getLast? with
      | none => exact absurd (List.getLast?_eq_none_iff.mp hx2) hne
      | some b => rfl
theorem Like.of_R {e w : List Nat} (h : TW.R e w) : Like e w := by
  obtain ⟨n, h⟩ := h
  induction h with
  | refl w => exact ⟨List.Sublist.refl _, rfl, rfl⟩
  | tail _ c ih =>
    have := Like.of_cp c
    exact ⟨ih.1.trans this.1, ih.2.1.trans this.2.1, ih.2.2.trans this.2.2⟩
/-- the texts that may be elders -/
def cand (a b : Nat) (m : List Nat) : List (List Nat) := [a] :: (subs m).map fun s => a :: (s ++ [b])
theorem mem_cand {e : List Nat} {a b : Nat} {m : List Nat} (h : Like e (a :: (m ++ [b]))) : e ∈ cand a b m := by
  obtain ⟨h1, h2, h3⟩ := h
  cases e with
  | nil => simp at h2
  | cons c e =>
    obtain rfl : c = a := by simpa using h2
    rcases nil_or_snoc e with rfl | ⟨s, d, rfl⟩
    · exact List.mem_cons_self ..
    · have hdb : d = b := by
        have h3 : (c :: (s ++ [d])).getLast? = (c :: (m ++ [b])).getLast? := h3
        rw [← List.cons_append, ← List.cons_append, List.getLast?_concat, List.getLast?_concat] at h3
        exact Option.some.inj h3
      subst hdb
      refine List.mem_cons_of_mem _ (List.mem_map.mpr ⟨s, mem_subs ?_, rfl⟩)
      have h4 : (s ++ [d]).Sublist (m ++ [d]) := List.cons_sublist_cons.mp h1
      have h5 := h4.reverse
      rw [List.reverse_concat, List.reverse_concat] at h5
      exact List.reverse_sublist.mp (List.cons_sublist_cons.mp h5)
theorem elders_le {l : List Nat} (hl : l.length ≤ 12) (L : List (List Nat)) (nd : L.Nodup) (h : ∀ x ∈ L, TW.R x l) : L.length ≤ 2000 := by
  cases l with
  | nil =>
    have := List.Nodup.length_le_of_subset nd (l₂ := [[]]) fun x hx => by
      have := (Like.of_R (h x hx)).1
      rw [List.sublist_nil.mp this]
      exact List.mem_singleton.mpr rfl
    simp at this
    omega
  | cons a l =>
    rcases nil_or_snoc l with rfl | ⟨m, b, rfl⟩
    · have := List.Nodup.length_le_of_subset nd (l₂ := subs [a]) fun x hx => mem_subs (Like.of_R (h x hx)).1
      rw [subs_len] at this
      simp at this
      omega
    · have := List.Nodup.length_le_of_subset nd (l₂ := cand a b m) fun x hx => mem_cand (Like.of_R (h x hx))
      unfold cand at this
      rw [List.length_cons, List.length_map, subs_len] at this
      have hm : m.length ≤ 10 := by simp at hl; omega
      have : 2 ^ m.length ≤ 2 ^ 10 := Nat.pow_le_pow_right (by decide) hm
      omega
end TW
set_option Elab.async false
set_option linter.all false
set_option maxRecDepth 100000
set_option maxHeartbeats 8000000
namespace TW
open PySem PySem.Spec PyProof.Rows L2 LamX
def sp_short_elders (T : List (Addr × Str)) : Sp := fun vs H Q _ => ∃ l : List Nat, vs = [.str (tx l)] ∧ Ok l ∧ Tabs T H ∧ (∀ L : List (List Nat), L.Nodup → (∀ x ∈ L, TW.R x l) → L.length ≤ 2000) ∧
  ∀ (known : List (List Nat)) p H', known.Nodup → known.length ≤ 2000 → (∀ x, x ∈ known ↔ TW.R x l) → ExtN H H' → Tabs T H' → H' p = some (.tup (tls (known.mergeSort leT))) → Q (.ref p) H'
def FrT (M Gr : Addr) (H H' : Hp) : Prop := ∀ b o, b ≠ M → b ≠ Gr → (∀ ps, o ≠ .tbl ps) → H b = some o → H' b = some o
theorem FrT.refl {M Gr : Addr} {H : Hp} : FrT M Gr H H := fun _ _ _ _ _ e => e
theorem FrT.trans {M Gr : Addr} {H H1 H2 : Hp} (a : FrT M Gr H H1) (b : FrT M Gr H1 H2) : FrT M Gr H H2 := fun c o h1 h2 h3 e => b c o h1 h2 h3 (a c o h1 h2 h3 e)
theorem FrT.fr {M Gr : Addr} {H H1 : Hp} (a : FrM M Gr H H1) : FrT M Gr H H1 := fun c o h1 h2 _ e => a c o h1 h2 e
theorem FrT.ext {M Gr : Addr} {H H1 : Hp} (a : ExtN H H1) : FrT M Gr H H1 := fun c o _ _ h3 e => a c o e h3
theorem FrT.same {M Gr : Addr} {H H1 : Hp} (a : Same H H1) : FrT M Gr H H1 := fun c o _ _ _ e => a c o e
theorem MSt.ext {H H' : Hp} {M C Gr : Addr} {n : Nat} (h : MSt H M C Gr n) (s : ExtN H H') : MSt H' M C Gr n :=
  ⟨s _ _ h.m (fun _ z => nomatch z), let ⟨cs, a, b⟩ := h.c; ⟨cs, s _ _ a (fun _ z => nomatch z), b⟩, let ⟨gs, a, b⟩ := h.g; ⟨gs, s _ _ a (fun _ z => nomatch z), b⟩, h.cg⟩
theorem tabs_fr {T : List (Addr × Str)} {H H' : Hp} {M C Gr : Addr} {n : Nat} (t : Tabs T H) (ms : MSt H M C Gr n) (f : FrM M Gr H H') : Tabs T H' := fun p hp => by
  obtain ⟨ps, h1, h2, h3⟩ := t p hp
  obtain ⟨gs, hG, _⟩ := ms.g
  have keep : ∀ b o, H b = some o → (∀ kv, o ≠ .dK kv) → (∀ xs, o ≠ .lst xs) → H' b = some o := fun b o e n1 n2 =>
    f b o (fun z => by rw [z, ms.m] at e; cases e; exact n1 _ rfl) (fun z => by rw [z, hG] at e; cases e; exact n2 _ rfl) e
  refine ⟨ps, keep _ _ h1 (fun _ z => nomatch z) (fun _ z => nomatch z), h2, fun pos cv hc => ?_⟩
  obtain ⟨c, e1, e2⟩ := h3 pos cv hc
  exact ⟨c, e1, keep _ _ e2 (fun _ z => by unfold CodeO at z; cases z) (fun _ z => by unfold CodeO at z; cases z)⟩
theorem bottom_ex : ∀ (n : Nat) (w : List Nat), w.length ≤ n → ∃ b, TW.R b w ∧ und b = []
  | 0, w, h => ⟨w, .refl w, by
    cases w with
    | nil => rfl
    | cons a w => simp at h⟩
  | n + 1, w, h => by
    cases hu : und w with
    | nil => exact ⟨w, .refl w, hu⟩
    | cons x r =>
      have hc : Cp x w := mem_und.mp (by rw [hu]; exact List.mem_cons_self ..)
      obtain ⟨b, h1, h2⟩ := bottom_ex n x (by have := hc.len; omega)
      exact ⟨b, h1.tail hc, h2⟩
theorem root_R (w : List Nat) : TW.R (root w) w := by
  obtain ⟨b, h1, h2⟩ := bottom_ex w.length w (Nat.le_refl _)
  rw [root_of_bottom h1 h2]
  exact h1
theorem tls_dpK {K : PySem.W.Frag} {H : Hp} {p : Addr} {L : List (List Nat)} (h : H p = some (.tup (tls L))) : Dp K H (.ref p) (.tuple (L.map fun x => .str (tx x))) := .tup (.inl (.inl h)) (tls_dp L)
theorem tls_ok {L : List (List Nat)} {m : Nat} (h : ∀ x ∈ L, Lo x ∧ x.length ≤ m) : OKd 1 (L.length * (10 * m + 2 + 2) + 3) (.tuple (L.map fun x => .str (tx x))) := by
  have := OKd.tuple (n := 0) (B := 10 * m + 2) (ds := L.map fun x => .str (tx x)) fun d hd => by
    obtain ⟨x, hx, rfl⟩ := List.mem_map.mp hd
    obtain ⟨h1, h2⟩ := h x hx
    exact (OKd.str h1).mono (Nat.le_refl _) (by omega)
  rwa [List.length_map] at this
section
variable {P : Program} {w : World} {K : PySem.W.Frag} {mg : Str → Option Value} {base : Heap}
theorem c_short_elders {T : List (Addr × Str)} {c Pt : Addr} (G : Glb K mg) (c_need_text : C8.Cal P w K mg base 2 "need_text" sp_need_text []) (c_undone_once : C8.Cal P w K mg base 1 "undone_once" sp_undone_once [])
    (TB : TabB base mg c Pt) (hmT : (Pt, ("short_elders.<locals>.<lambda>" : Str)) ∈ T) (hu : ∀ p ∈ T, p.1 = Pt → p.2 = ("short_elders.<locals>.<lambda>" : Str)) (D : DefC K mg "short_elders" s_short_elders (.ref c)) : C8.Cal P w K mg base 4 "short_elders" (sp_short_elders T) [] := by
  refine calC_of D sc_short_elders (fun _ _ _ _ _ _ us hl => match us, hl with | [_], _ => rfl) (fun vs H Q E h => ?_) (fun f A outer s H vs Q E hr h => ?_)
  · obtain ⟨l, rfl, _⟩ := h; rfl
  · obtain ⟨l, rfl, ok, hT, hB, q⟩ := h
    exact elders_body (k := 0) (R0 := tNever) PassesOwn.never G c_need_text c_undone_once TB hmT hu hr ps_never ok hT q fun known D σ H' nd hgt hR _ _ => absurd (hB known nd hR) (by omega)
end
abbrev s__law_right : Stmt := topS 55
def N__law_right : List Str := ["_law_m", "_law_row_here", "_law_small", "_law_text", "_law_olds_here", "_law_bottom_here", "_law_due", "_law_turn", "_law_some", "_law_old", "_law_kin"]
theorem sc__law_right : FnScope N__law_right ["_law_m"] (C8.fnScope s__law_right) := C8.fnScope_by (by decide +kernel)
def sp__law_right (T : List (Addr × Str)) : Sp := fun vs H Q _ => ∃ (M C Gr : Addr) (n : Nat), vs = [.ref M] ∧ MSt H M C Gr n ∧ n ≤ 5000 ∧ Tabs T H ∧ ∀ n' H', n' ≤ n + 100 → MSt H' M C Gr n' → Tabs T H' → FrT M Gr H H' → Q (.bl true) H'
section
variable {P : Program} {w : World} {K : PySem.W.Frag} {mg : Str → Option Value} {base : Heap}
theorem c__law_right {T : List (Addr × Str)} {c Pt : Addr} (G : Glb K mg) (TB : TabB base mg c Pt) (hmT : (Pt, ("_law_right.<locals>.<lambda>" : Str)) ∈ T) (hu : ∀ p ∈ T, p.1 = Pt → p.2 = ("_law_right.<locals>.<lambda>" : Str))
    (c__law_row : C8.Cal P w K mg base 3 "_law_row" sp__law_row []) (c__law_draw : C8.Cal P w K mg base 2 "_law_draw" sp__law_draw []) (c__law_word : C8.Cal P w K mg base 4 "_law_word" sp__law_word []) (c__law_grown : C8.Cal P w K mg base 4 "_law_grown" sp__law_grown [])
    (c__law_olds : C8.Cal P w K mg base 3 "_law_olds" sp__law_olds []) (c__law_bottom : C8.Cal P w K mg base 3 "_law_bottom" sp__law_bottom []) (c__law_like : CalG P w K mg base 1 "_law_like" (sp__law_like K)) (c_short_root : C8.Cal P w K mg base 3 "short_root" sp_short_root [])
    (c_short_elders : C8.Cal P w K mg base 4 "short_elders" (sp_short_elders T) []) (c__law_of : C8.Cal P w K mg base 3 "_law_of" sp__law_of []) (c__law_beside : C8.Cal P w K mg base 4 "_law_beside" sp__law_beside []) (c__law_asked_right : CalG P w K mg base 6 "_law_asked_right" sp__law_asked_right)
    (c_are_short_kin : C8.Cal P w K mg base 3 "are_short_kin" sp_are_short_kin []) (D : DefC K mg "_law_right" s__law_right (.ref c)) : CalG P w K mg base 7 "_law_right" (sp__law_right T) := by
  refine calG_of D sc__law_right (fun _ _ _ _ _ _ us hl => match us, hl with | [_], _ => rfl) (fun vs H Q E h => ?_) (fun f A outer s H vs Q E hgd hr h => ?_)
  · obtain ⟨M, C, Gr, n, rfl, _⟩ := h; rfl
  · obtain ⟨M, C, Gr, n, rfl, ms, hn, hT, q⟩ := h
    refine ⟨_, (pss_cons (ps_set (i := 1) sc__law_right.nd rfl (Or.inl rfl) (C8.pe_c c__law_row hr (by decide) rfl (pa_cons (pv 0) (pa_cons (pe_op op_add pe_int (C8.pe_c c__law_draw hr (by decide) rfl (pa_cons (pv 0) (pa_cons pe_int pa_nil)))) pa_nil))))
  (pss_cons (ps_set (i := 2) sc__law_right.nd rfl (Or.inl rfl) (C8.pe_c c__law_word hr (by decide) rfl (pa_cons (pv 0) (pa_cons (pv 1) (pa_cons pe_int pa_nil)))))
  (pss_cons (ps_set (i := 3) sc__law_right.nd rfl (Or.inl rfl) (C8.pe_c c__law_grown hr (by decide) rfl (pa_cons (pv 0) (pa_cons (pv 2) (pa_cons (pe_lst (pa_cons pe_int (pa_cons pe_int (pa_cons pe_int pa_nil)))) (pa_cons (C8.pe_c c__law_draw hr (by decide) rfl (pa_cons (pv 0) (pa_cons pe_int pa_nil))) pa_nil))))))
  (pss_cons (ps_par (i := 4) (j := 5) (by rfl) sc__law_right.nd rfl rfl (by decide) rfl rfl (pa_cons (C8.pe_c c__law_olds hr (by decide) rfl (pa_cons (pv 3) (pa_cons (pe_tup (pa_cons pe_int (pa_cons pe_int pa_nil))) pa_nil))) (pa_cons (C8.pe_c c__law_bottom hr (by decide) rfl (pa_cons (pv 3) (pa_cons (pe_tup (pa_cons pe_int (pa_cons pe_int pa_nil))) pa_nil))) pa_nil)) (by rfl))
  (pss_cons (ps_set (i := 6) sc__law_right.nd rfl (Or.inr rfl) (pe_callTy call_tuple_of rfl G.tuple (by decide +kernel) (pa_cons (pe_sortedKey (x := "_law_one") (T := T) (c := c) (P := Pt) (k := 3) (pe_callTy (call_list_dK rfl) rfl G.list (by decide +kernel) (pa_cons (pv 4) pa_nil)) rfl G.sorted G.len TB rfl hmT hu hr ⟨C8.fnScope_by (by decide +kernel), by decide +kernel, by decide +kernel, by decide, by decide, by decide +kernel, fun _ => rfl, fun _ _ _ _ _ _ => rfl, fun _ => rfl⟩) pa_nil)))
  (pss_cons (ps_for PassesOwn.never rfl (pi_range1 rfl G.range (pa_cons pe_int pa_nil)) (pg_name (i := 7) sc__law_right.nd rfl (Or.inl rfl))
  (pss_one (ps_if (pt_not (pt_val (pe_g c__law_like hgd hr (by decide) rfl (pa_cons (pe_lst (pa_cons (C8.pe_c c_short_root hr (by decide) rfl (pa_cons (pv 3) pa_nil)) (pa_cons (C8.pe_c c_short_elders hr (by decide) rfl (pa_cons (pv 3) pa_nil)) pa_nil))) (pa_cons (pe_lst (pa_cons (pv 5) (pa_cons (pv 6) pa_nil))) pa_nil))))) (pss_one (ps_ret pe_bl)) pss_nil)))
  (pss_cons (ps_set (i := 8) sc__law_right.nd rfl (Or.inl rfl) (pe_lst (pa_cons (pv 2) (pa_cons (pv 3) (pa_cons (pv 5) (pa_cons (C8.pe_c c__law_word hr (by decide) rfl (pa_cons (pv 0) (pa_cons (pv 1) (pa_cons pe_int pa_nil)))) (pa_cons (C8.pe_c c__law_of hr (by decide) rfl (pa_cons (pv 0) (pa_cons (pv 6) pa_nil))) (pa_cons pe_str pa_nil))))))))
  (pss_cons (ps_set (i := 8) sc__law_right.nd rfl (Or.inl rfl) (pe_op op_cat (pv 8) (pe_lc (own := [("_law_turn", 7)]) (g := (gName 7)) (tt := tYes) rfl sc__law_right.nd (pi_range1 rfl G.range (pa_cons pe_int pa_nil)) (blkOk_by (own := [("_law_turn", 7)]) (N := N__law_right) (sc := C8.fnScope s__law_right) (by decide +kernel)) (fun _ _ _ _ _ => pg_name (i := 7) sc__law_right.nd rfl (Or.inl rfl)) (fun _ _ _ _ _ => pts_nil) (fun _ _ _ _ _ => (C8.pe_c c__law_beside hr (by decide) rfl (pa_cons (pv 0) (pa_cons (C8.pe_c c__law_of hr (by decide) rfl (pa_cons (pv 0) (pa_cons (pv 6) pa_nil))) pa_nil)))))))
  (pss_cons (ps_for PassesOwn.never rfl (pi_list (pv 8)) (pg_name (i := 9) sc__law_right.nd rfl (Or.inl rfl))
  (pss_cons (ps_if (pt_not (pt_val (pe_g c__law_asked_right hgd hr (by decide) rfl (pa_cons (pv 3) (pa_cons (pv 4) (pa_cons (pv 9) pa_nil)))))) (pss_one (ps_ret pe_bl)) pss_nil)
  (pss_cons (ps_set (i := 10) sc__law_right.nd rfl (Or.inl rfl) (pe_cmpR op_eq (C8.pe_c c__law_bottom hr (by decide) rfl (pa_cons (pv 9) (pa_cons (pe_tup (pa_cons pe_int (pa_cons pe_int pa_nil))) pa_nil))) (pv 5) (nomark _)))
  (pss_one (ps_if (pt_not (pt_val (pe_g c__law_like hgd hr (by decide) rfl (pa_cons (pe_lst (pa_cons (C8.pe_c c_are_short_kin hr (by decide) rfl (pa_cons (pv 3) (pa_cons (pv 9) pa_nil))) (pa_cons (C8.pe_c c_are_short_kin hr (by decide) rfl (pa_cons (pv 9) (pa_cons (pv 3) pa_nil))) pa_nil))) (pa_cons (pe_lst (pa_cons (pv 10) (pa_cons (pv 10) pa_nil))) pa_nil))))) (pss_one (ps_ret pe_bl)) pss_nil)))))
  (pss_one (ps_ret pe_bl))))))))))), ?_⟩
    refine ⟨_, rfl, _, rfl, M, C, Gr, 3, n, rfl, by decide, by decide, ms, by omega, fun r0 H1 hr0 ms1 fr1 => ?_⟩
    refine ⟨_, _, rfl, rfl, M, C, Gr, n + 1, 2 + r0, rfl, ms1, by omega, by omega, by omega, fun row H2 rw1 rw2 rw3 ms2 fr2 => ?_⟩
    have f2 : FrM M Gr H H2 := fr1.trans fr2
    clear fr1 fr2 ms1
    refine gN ?_
    refine ⟨_, rfl, _, rfl, M, C, Gr, n + 2, 4, row, rfl, ms2, by omega, by decide, by decide, rw1, by omega, rw3, fun small n3 H3 sm1 sm2 sm3 hn3 hn3' ms3 fr3 => ?_⟩
    have f3 : FrM M Gr H H3 := f2.trans fr3
    clear f2 fr3 ms2
    refine gN ?_
    refine ⟨_, rfl, _, rfl, small1000 (by simp), fun L nL => ?_⟩
    obtain ⟨l1, l2, l3⟩ := ms3.ne nL
    have ms4 : MSt (upd H3 L (.lst [.int 1, .int 2, .int 2])) M C Gr n3 := ms3.same (same_upd nL)
    have f4 : FrM M Gr H (upd H3 L (.lst [.int 1, .int 2, .int 2])) := f3.trans (.same (same_upd nL))
    have eL : upd H3 L (.lst [.int 1, .int 2, .int 2]) L = some (.lst [.int 1, .int 2, .int 2]) := upd_same
    generalize upd H3 L (.lst [.int 1, .int 2, .int 2]) = H4 at ms4 f4 eL
    clear ms3 f3 nL
    refine ⟨_, rfl, M, C, Gr, 5, n3, rfl, by decide, by decide, ms4, by omega, fun r5 H5 hr5 ms5 fr5 => ?_⟩
    refine ⟨M, C, Gr, L, n3 + 1, r5, small, rfl, ms5, by omega, by omega, sm1, by omega, sm3, l1, l3, fr5 _ _ l1 l3 eL, fun text n6 H6 tx1 tx2 tx3 hn6 hn6' ms6 fr6 => ?_⟩
    have f6 : FrM M Gr H H6 := (f4.trans fr5).trans fr6
    clear f4 fr5 fr6 ms4 ms5 eL
    have hlen : text.length ≤ 12 := by omega
    have okt : Ok text := ⟨by omega, tx3⟩
    have hT6 : Tabs T H6 := tabs_fr hT ms f6
    refine gN ?_
    refine ⟨_, rfl, small1000 (by simp), fun T1 nT1 => ?_⟩
    have s7 : Same H6 (upd H6 T1 (.tup [.int 1, .int 2])) := same_upd nT1
    have eT1 : upd H6 T1 (.tup [.int 1, .int 2]) T1 = some (.tup [.int 1, .int 2]) := upd_same
    generalize upd H6 T1 (.tup [.int 1, .int 2]) = H7 at s7 eT1
    refine ⟨text, T1, rfl, by omega, .of_ok okt, eT1, fun L nd h => Nat.le_trans (elders_le hlen L nd h) (by decide), fun d found H8 nd8 s8 ed hnd hf => ?_⟩
    have nedM : d ≠ M := fun z => by rw [z, (ms6.same s7).m] at nd8; cases nd8
    refine ⟨_, rfl, small1000 (by simp), fun T2 nT2 => ?_⟩
    have s9 : Same H8 (upd H8 T2 (.tup [.int 1, .int 2])) := same_upd nT2
    have eT2 : upd H8 T2 (.tup [.int 1, .int 2]) T2 = some (.tup [.int 1, .int 2]) := upd_same
    generalize upd H8 T2 (.tup [.int 1, .int 2]) = H9 at s9 eT2
    refine ⟨text, T2, rfl, by omega, .of_ok okt, eT2, fun H10 s10 => ⟨_, _, rfl, ?_⟩⟩
    have s610 : Same H6 H10 := ((s7.trans s8).trans s9).trans s10
    have ed10 : H10 d = some (.dK (dn found)) := s10 _ _ (s9 _ _ ed)
    have hT10 : Tabs T H10 := hT6.ext s610
    refine ⟨_, rfl, d, _, rfl, ed10, fun Lk nLk => ?_⟩
    have hkeys : (dn found).map (fun kv => kV kv.1) = tls (found.map (·.1)) := by
      show _ = (found.map (·.1)).map _
      rw [List.map_map, List.map_map]; rfl
    rw [hkeys]
    have s11 : Same H6 (upd H10 Lk (.lst (tls (found.map (·.1))))) := s610.trans (same_upd nLk)
    have eLk : upd H10 Lk (.lst (tls (found.map (·.1)))) Lk = some (.lst (tls (found.map (·.1)))) := upd_same
    have ed11 : upd H10 Lk (.lst (tls (found.map (·.1)))) d = some (.dK (dn found)) := by rw [upd_ne (ne_of_none ed10 nLk)]; exact ed10
    generalize upd H10 Lk (.lst (tls (found.map (·.1)))) = H11 at s11 eLk ed11
    have hfk : ∀ x, x ∈ found.map (·.1) ↔ TW.R x text := fun x => by
      rw [mem_keys]
      exact ⟨fun ⟨k, h⟩ => ⟨k, ((hf x k).mp h).1⟩, fun h => let ⟨k, hk⟩ := TW.D.of_R h; ⟨k, (hf x k).mpr hk⟩⟩
    have hfl : (found.map (·.1)).length ≤ 2000 := elders_le hlen _ hnd fun x hx => (hfk x).mp hx
    refine ⟨Lk, found.map (·.1), rfl, .inl (.inl eLk), by omega, fun x hx => Nat.le_trans ((hfk x).mp hx).len (by omega), hT6.ext s11, fun H12 p eN hT12 np => ⟨p, _, rfl, .inl ⟨.inl (.inl upd_same), fun Du nDu => ?_⟩⟩⟩
    have eN13 : ExtN H6 (upd (upd H12 p (.lst (tls ((found.map (·.1)).mergeSort leT)))) Du (.tup (tls ((found.map (·.1)).mergeSort leT)))) := ((ExtN.of s11).trans eN).trans (.of ((same_upd np).trans (same_upd nDu)))
    have hT13 : Tabs T (upd (upd H12 p (.lst (tls ((found.map (·.1)).mergeSort leT)))) Du (.tup (tls ((found.map (·.1)).mergeSort leT)))) := hT12.ext ((same_upd np).trans (same_upd nDu))
    have ed13 : upd (upd H12 p (.lst (tls ((found.map (·.1)).mergeSort leT)))) Du (.tup (tls ((found.map (·.1)).mergeSort leT))) d = some (.dK (dn found)) := ((same_upd np).trans (same_upd nDu)) _ _ (eN _ _ ed11 (fun _ z => nomatch z))
    have eDu : upd (upd H12 p (.lst (tls ((found.map (·.1)).mergeSort leT)))) Du (.tup (tls ((found.map (·.1)).mergeSort leT))) Du = some (.tup (tls ((found.map (·.1)).mergeSort leT))) := upd_same
    generalize upd (upd H12 p (.lst (tls ((found.map (·.1)).mergeSort leT)))) Du (.tup (tls ((found.map (·.1)).mergeSort leT))) = H13 at eN13 hT13 ed13 eDu
    clear np nDu eN hT12
    have ms13 := ms6.ext eN13
    have f13 : FrT M Gr H H13 := (FrT.fr f6).trans (.ext eN13)
    clear s11 eLk ed11 hT10 ed10 s610 s10 eT2 s9 nT2 s8 ed nd8 s7 eT1 nT1
    refine gN ?_
    have hroot := root_R text
    have loT : Lo text := .of_ok okt
    have hEmem : ∀ x, x ∈ (found.map (·.1)).mergeSort leT ↔ TW.R x text := fun x => (List.mem_mergeSort).trans (hfk x)
    have hElen : ((found.map (·.1)).mergeSort leT).length ≤ 2000 := by rw [List.length_mergeSort]; exact hfl
    have hsort : ∀ known : List (List Nat), known.Nodup → (∀ x, x ∈ known ↔ TW.R x text) → known.mergeSort leT = (found.map (·.1)).mergeSort leT := fun known nd h => sort_eq nd hnd fun x => (h x).trans (hfk x).symm
    generalize (found.map (·.1)).mergeSort leT = E at eDu hEmem hElen hsort
    have okE : OKd 2 1000000 (.list [.str (tx (root text)), .tuple (E.map fun x => .str (tx x))]) := by
      refine (OKd.list (n := 1) (B := 250000) fun z hz => ?_).mono (Nat.le_refl _) (by simp)
      rcases List.mem_cons.mp hz with rfl | hz
      · exact (OKd.str (loT.of_R hroot)).mono (by decide) (by have := hroot.len; omega)
      · rw [List.mem_singleton.mp hz]
        exact (tls_ok (m := 12) fun x hx => ⟨loT.of_R ((hEmem x).mp hx), Nat.le_trans ((hEmem x).mp hx).len hlen⟩).mono (Nat.le_refl _) (by omega)
    refine ⟨2, rfl, by decide, by decide, ?_⟩
    refine for_it walk_range (fun i σ H' => ∃ y7, σ = [some (.ref M), some (.str (tx row)), some (.str (tx small)), some (.str (tx text)), some (.ref d), some (.str (tx (root text))), some (.ref Du), y7, none, none, none] ∧ ExtN H13 H' ∧ Tabs T H') ⟨none, rfl, .refl _, hT13⟩ (fun _ _ _ _ _ => trivial) ?_ ?_
    · rintro i x σ H14 H15 hi ⟨y7, rfl, e14, t14⟩ ⟨rfl, rfl⟩
      refine gN (ifS ?_)
      refine ⟨_, rfl, text, rfl, okt, fun H16 s16 => ⟨_, rfl, text, rfl, okt, t14.ext s16, elders_le hlen, fun known pk H17 ndk lk hk e17 t17 epk => ⟨small1000 (by simp), fun Go nGo => ?_⟩⟩⟩
      rw [hsort known ndk hk] at epk
      have e18 : ExtN H13 (upd H17 Go (.lst [.str (tx (root text)), .ref pk])) := ((e14.trans (.of s16)).trans e17).trans (.of (same_upd nGo))
      have t18 : Tabs T (upd H17 Go (.lst [.str (tx (root text)), .ref pk])) := t17.ext (same_upd nGo)
      have eGo : upd H17 Go (.lst [.str (tx (root text)), .ref pk]) Go = some (.lst [.str (tx (root text)), .ref pk]) := upd_same
      have epk8 : upd H17 Go (.lst [.str (tx (root text)), .ref pk]) pk = some (.tup (tls E)) := by rw [upd_ne (ne_of_none epk nGo)]; exact epk
      generalize upd H17 Go (.lst [.str (tx (root text)), .ref pk]) = H18 at e18 t18 eGo epk8
      refine ⟨_, rfl, _, rfl, small1000 (by simp), fun Do nDo => ?_⟩
      have e19 : ExtN H13 (upd H18 Do (.lst [.str (tx (root text)), .ref Du])) := e18.trans (.of (same_upd nDo))
      have t19 : Tabs T (upd H18 Do (.lst [.str (tx (root text)), .ref Du])) := t18.ext (same_upd nDo)
      have eGo9 : upd H18 Do (.lst [.str (tx (root text)), .ref Du]) Go = some (.lst [.str (tx (root text)), .ref pk]) := by rw [upd_ne (ne_of_none eGo nDo)]; exact eGo
      have epk9 : upd H18 Do (.lst [.str (tx (root text)), .ref Du]) pk = some (.tup (tls E)) := by rw [upd_ne (ne_of_none epk8 nDo)]; exact epk8
      have eDo9 : upd H18 Do (.lst [.str (tx (root text)), .ref Du]) Do = some (.lst [.str (tx (root text)), .ref Du]) := upd_same
      have eDu9 : upd H18 Do (.lst [.str (tx (root text)), .ref Du]) Du = some (.tup (tls E)) := e19 _ _ eDu (fun _ z => nomatch z)
      generalize upd H18 Do (.lst [.str (tx (root text)), .ref Du]) = H19 at e19 t19 eGo9 epk9 eDo9 eDu9
      refine ⟨Go, Do, _, 2, _, rfl, .lst (.inl (.inl eGo9)) (.cons (.str _) (.cons (tls_dpK epk9) .nil)), .lst (.inl (.inl eDo9)) (.cons (.str _) (.cons (tls_dpK eDu9) .nil)), okE, by decide, by decide, true, rfl, iteF ?_⟩
      exact ⟨_, rfl, e19, t19⟩
    rintro σ H14 ⟨y7, rfl, e14, t14⟩
    have ms14 := ms13.ext e14
    have f14 : FrT M Gr H H14 := f13.trans (.ext e14)
    have ed14 := e14 _ _ ed13 (fun _ z => nomatch z)
    have eDu14 := e14 _ _ eDu (fun _ z => nomatch z)
    clear ms13 f13 ed13 eDu hT13 e14 eN13
    have neD : Du ≠ M ∧ Du ≠ Gr := by
      refine ⟨fun z => ?_, fun z => ?_⟩
      · rw [z, ms14.m] at eDu14; cases eDu14
      · obtain ⟨gs, hG, _⟩ := ms14.g
        rw [z, hG] at eDu14; cases eDu14
    have ned : d ≠ M ∧ d ≠ Gr := by
      refine ⟨nedM, fun z => ?_⟩
      · obtain ⟨gs, hG, _⟩ := ms14.g
        rw [z, hG] at ed14; cases ed14
    have hEok : ∀ e ∈ E, Ok e ∧ 1 ≤ e.length ∧ e.length ≤ 12 := fun e he => by
      have hr := (hEmem e).mp he
      refine ⟨okt.of_R hr, ?_, Nat.le_trans hr.len hlen⟩
      have hlk := (Like.of_R hr).2.1
      cases e with
      | nil =>
        cases text with
        | nil => simp at tx1
        | cons a t => simp at hlk
      | cons a t => simp
    have hE1 : 1 ≤ (tls E).length := by
      rw [List.length_map]
      exact List.length_pos_of_mem ((hEmem text).mpr (.refl _))
    refine ⟨_, rfl, _, rfl, _, rfl, _, rfl, _, rfl, M, C, Gr, n6, 3, row, rfl, ms14, by omega, by decide, by decide, rw1, by omega, rw3, fun w4 n15 H15 w41 w42 w43 hn15 hn15' ms15 fr15 => ?_⟩
    have eDu15 := fr15 _ _ neD.1 neD.2 eDu14
    refine ⟨_, rfl, _, rfl, M, C, Gr, n15, .ref Du, tls E, rfl, ms15, by omega, .inr ⟨Du, rfl, neD.1, neD.2, .inr eDu15⟩, hE1, by rw [List.length_map]; omega, fun v H16 hv ms16 fr16 => ?_⟩
    obtain ⟨e5, he5, rfl⟩ := List.mem_map.mp hv
    refine ⟨small1000 (by simp), fun Sm nSm => ?_⟩
    have fr17 : FrM M Gr H14 (upd H16 Sm (.lst [V.str (tx small), V.str (tx text), V.str (tx (root text)), V.str (tx w4), V.str (tx e5), V.str (Str.ofString "")])) := (fr15.trans fr16).trans (.same (same_upd nSm))
    have ms17 : MSt (upd H16 Sm (.lst [V.str (tx small), V.str (tx text), V.str (tx (root text)), V.str (tx w4), V.str (tx e5), V.str (Str.ofString "")])) M C Gr (n15 + 1) := ms16.same (same_upd nSm)
    obtain ⟨q1, q2, q3⟩ := ms16.ne nSm
    have eSm : upd H16 Sm (.lst [V.str (tx small), V.str (tx text), V.str (tx (root text)), V.str (tx w4), V.str (tx e5), V.str (Str.ofString "")]) Sm = some (.lst (tls [small, text, root text, w4, e5, []])) := upd_same
    refine gN ?_
    show _
    generalize upd H16 Sm (.lst [V.str (tx small), V.str (tx text), V.str (tx (root text)), V.str (tx w4), V.str (tx e5), V.str (Str.ofString "")]) = H17 at fr17 ms17 eSm
    have okSmall : Ok small := ⟨by omega, sm3⟩
    have okW4 : Ok w4 := ⟨by omega, w43⟩
    have ok6 : ∀ x ∈ [small, text, root text, w4, e5, []], Ok x := fun x hx => by
      simp only [List.mem_cons, List.mem_nil_iff, or_false] at hx
      rcases hx with rfl | rfl | rfl | rfl | rfl | rfl
      · exact okSmall
      · exact okt
      · exact okt.of_R hroot
      · exact okW4
      · exact (hEok _ he5).1
      · exact ⟨Nat.zero_le _, fun c h => nomatch h⟩
    have eDu17 := fr17 _ _ neD.1 neD.2 eDu14
    refine ⟨_, rfl, 4, rfl, by decide, by decide, fun Db nDb => ?_⟩
    obtain ⟨b1, b2, b3⟩ := ms17.ne nDb
    refine lc_it walk_range (fun i H' => ∃ L2 : List (List Nat), L2.length = i ∧ (∀ x ∈ L2, Ok x) ∧ H' Db = some (.lst (tls L2)) ∧ MSt H' M C Gr (n15 + 1 + 4 * i) ∧ FrM M Gr H17 H') ⟨[], rfl, (fun x h => nomatch h), upd_same, ms17.same (same_upd nDb), FrM.same (same_upd nDb)⟩ (fun _ _ _ _ => trivial) ?_ ?_
    · rintro i x H18 H19 hi ⟨L2, hL2, okL2, eDb, ms18, fr18⟩ ⟨rfl, rfl⟩
      have hi : i < 4 := hi
      refine ⟨rfl, _, rfl, _, rfl, _, rfl, M, C, Gr, n15 + 1 + 4 * i, .ref Du, tls E, rfl, ms18, by omega, .inr ⟨Du, rfl, neD.1, neD.2, .inr (fr18 _ _ neD.1 neD.2 eDu17)⟩, hE1, by rw [List.length_map]; omega, fun v H20 hv ms20 fr20 => ?_⟩
      obtain ⟨e6, he6, rfl⟩ := List.mem_map.mp hv
      obtain ⟨oke6, e61, e62⟩ := hEok e6 he6
      refine ⟨M, C, Gr, _, e6, rfl, ms20, by omega, e61, by omega, oke6.2, fun l' H21 hl' hll' ms21 fr21 => ?_⟩
      refine ⟨_, fr21 _ _ b1 b3 (fr20 _ _ b1 b3 eDb), ?_, L2 ++ [l'], by simp [hL2], fun x hx => ?_, by rw [upd_same]; simp, ?_, ((fr18.trans fr20).trans fr21).upd nDb⟩
      · rw [List.length_map]; exact small1000 (by omega)
      · rcases List.mem_append.mp hx with h | h
        · exact okL2 x h
        · rw [List.mem_singleton.mp h]
          exact ⟨by omega, hll'⟩
      · have := ms21.upd (o := .lst (tls L2 ++ [.str (tx l')])) b1 b2 b3
        rw [show n15 + 1 + 4 * (i + 1) = n15 + 1 + 4 * i + 1 + 3 by omega]
        exact this
    rintro H18 ⟨L2, hL2, okL2, eDb, ms18, fr18⟩
    have eSm18 := fr18 _ _ q1 q3 eSm
    refine ⟨Sm, Db, _, _, rfl, rfl, eSm18, eDb, ?_, fun Al nAl => ?_⟩
    · rw [List.length_map, List.length_map, hL2]
      exact Nat.le_of_lt (small1000 (by simp))
    have hall : tls [small, text, root text, w4, e5, []] ++ tls L2 = tls ([small, text, root text, w4, e5, []] ++ L2) := (List.map_append ..).symm
    rw [hall]
    have okAll : ∀ x ∈ [small, text, root text, w4, e5, []] ++ L2, Ok x := fun x hx => (List.mem_append.mp hx).elim (ok6 x) (okL2 x)
    generalize [small, text, root text, w4, e5, []] ++ L2 = All at okAll
    have frA : FrM M Gr H14 (upd H18 Al (.lst (tls All))) := (fr17.trans fr18).trans (.same (same_upd nAl))
    have msA : MSt (upd H18 Al (.lst (tls All))) M C Gr (n15 + 1 + 4 * 4) := ms18.same (same_upd nAl)
    have eAl : upd H18 Al (.lst (tls All)) Al = some (.lst (tls All)) := upd_same
    generalize upd H18 Al (.lst (tls All)) = HA at frA msA eAl
    refine gN ?_
    have edA := frA _ _ ned.1 ned.2 ed14
    have tA : Tabs T HA := tabs_fr t14 ms14 frA
    have fA : FrT M Gr H HA := f14.trans (.fr frA)
    refine ⟨_, rfl, Al, rfl, ⟨_, .inl (.inl eAl)⟩, ?_⟩
    refine for_it (walk_list (xs := tls All)) (fun i σ H' => ∃ y7 y9 y10, σ = [some (.ref M), some (.str (tx row)), some (.str (tx small)), some (.str (tx text)), some (.ref d), some (.str (tx (root text))), some (.ref Du), y7, some (.ref Al), y9, y10] ∧ Same HA H') ⟨_, none, none, rfl, .refl _⟩ (fun i σ H' hi ⟨_, _, _, _, s⟩ => .inl (.inl (s _ _ eAl))) ?_ ?_
    · rintro i xv σ H20 H21 hi ⟨y7, y9, y10, rfl, s20⟩ ⟨rfl, hx⟩
      obtain ⟨o, ho, rfl⟩ : ∃ o, All[i]? = some o ∧ V.str (tx o) = xv := by
        rw [List.getElem?_map] at hx
        simpa using hx
      have oko := okAll o (List.mem_of_getElem? ho)
      refine gN ?_
      refine ⟨_, rfl, _, rfl, _, rfl, text, o, d, found, rfl, okt, oko, s20 _ _ edA, hnd, hf, fun H22 s22 => ⟨true, rfl, iteF ?_⟩⟩
      refine ⟨_, rfl, small1000 (by simp), fun T3 nT3 => ?_⟩
      have s23 : Same HA (upd H22 T3 (.tup [.int 1, .int 2])) := (s20.trans s22).trans (same_upd nT3)
      have eT3 : upd H22 T3 (.tup [.int 1, .int 2]) T3 = some (.tup [.int 1, .int 2]) := upd_same
      generalize upd H22 T3 (.tup [.int 1, .int 2]) = H23 at s23 eT3
      refine ⟨o, T3, rfl, Nat.le_trans oko.1 (by decide), .of_ok oko, eT3, fun H24 s24 => ⟨_, rfl, rfl, ?_⟩⟩
      refine gN ?_
      rw [dec_tx]
      refine ⟨_, rfl, _, rfl, text, o, rfl, okt, oko, fun H25 s25 => ⟨_, rfl, _, rfl, o, text, rfl, oko, okt, fun H26 s26 => ⟨small1000 (by simp), fun Go nGo => ?_⟩⟩⟩
      have hsw : decide (root text = root o) = decide (root o = root text) := decide_eq_decide.mpr ⟨fun z => z.symm, fun z => z.symm⟩
      rw [hsw]
      have s27 : Same HA (upd H26 Go (.lst [.bl (decide (root o = root text)), .bl (decide (root o = root text))])) := (((s23.trans s24).trans s25).trans s26).trans (same_upd nGo)
      have eGo : upd H26 Go (.lst [.bl (decide (root o = root text)), .bl (decide (root o = root text))]) Go = some (.lst [.bl (decide (root o = root text)), .bl (decide (root o = root text))]) := upd_same
      generalize upd H26 Go (.lst [.bl (decide (root o = root text)), .bl (decide (root o = root text))]) = H27 at s27 eGo
      refine ⟨_, rfl, _, rfl, small1000 (by simp), fun Do nDo => ?_⟩
      have s28 : Same HA (upd H27 Do (.lst [.bl (decide (root o = root text)), .bl (decide (root o = root text))])) := s27.trans (same_upd nDo)
      have eGo8 : upd H27 Do (.lst [.bl (decide (root o = root text)), .bl (decide (root o = root text))]) Go = some (.lst [.bl (decide (root o = root text)), .bl (decide (root o = root text))]) := by rw [upd_ne (ne_of_none eGo nDo)]; exact eGo
      have eDo8 : upd H27 Do (.lst [.bl (decide (root o = root text)), .bl (decide (root o = root text))]) Do = some (.lst [.bl (decide (root o = root text)), .bl (decide (root o = root text))]) := upd_same
      generalize upd H27 Do (.lst [.bl (decide (root o = root text)), .bl (decide (root o = root text))]) = H28 at s28 eGo8 eDo8
      refine ⟨Go, Do, .list [.bool _, .bool _], 1, _, rfl, .lst (.inl (.inl eGo8)) (.cons (.bl _) (.cons (.bl _) .nil)), .lst (.inl (.inl eDo8)) (.cons (.bl _) (.cons (.bl _) .nil)), OKd.list (n := 0) (B := 10) (fun z hz => ?_), by decide, by simp, true, rfl, iteF ?_⟩
      · simp only [List.mem_cons, List.mem_nil_iff, or_false] at hz
        rcases hz with rfl | rfl <;> exact .bl _
      · exact ⟨_, _, _, rfl, s28⟩
    · rintro σ H20 ⟨y7, y9, y10, rfl, s20⟩
      exact q _ H20 (by omega) (msA.same s20) (tA.ext s20) (fA.trans (.same s20))
end
end TW
set_option Elab.async false
set_option linter.all false
set_option maxRecDepth 100000
set_option maxHeartbeats 4000000
namespace TW
open PySem PySem.Spec PyProof.Rows L2
open PySem.W (Frag clsIn findIn typeIn subIn codeIn nsIn takerIn hasDictIn ks_superIn excOver InstAt excTail)
/-- the __init__ that TooMany has -/
abbrev tmInit : Stmt := match topS 8 with
  | .ClassDef (body := b) .. => b.getD 0 (.Pass ⟨0, 0, 0, 0⟩)
  | s => s
abbrev tmQ : Str := "TooMany.__init__"
abbrev bmO : List Value := [.type "OverflowError", .type "ArithmeticError", .type "Exception", .type "BaseException", .type "object"]
structure TmF (P : Program) (K : Frag) (C fI cc cda : Addr) : Prop where
  ini : findIn K (.ref C) "__init__" = some (some (.ref fI))
  tI : typeIn K (.ref fI) = some (.type "function")
  fn : ∃ oc od kV doc pm an ct osl, K.lookup fI = some ⟨oc, od, .func (PySem.W.ksFn "__init__" tmQ (C8.fnArgs tmInit) (C8.fnBody tmInit) (C8.fnScope tmInit) .none kV doc pm an (.ref cda) ct cc), osl⟩
  cd : codeIn K (.ref cda) tmQ = true
  code : ∃ ccl cdd vs ccs file tf, K.lookup cda = some ⟨ccl, cdd, .fields vs, ccs⟩ ∧ vs[2]? = some (.str file tf) ∧ ((P.main.file : Str) == file) = true
  top : (P.main.scope.names.lookup ("super" : Str)).isSome = false
  cell : ∃ cl cld csl, K.lookup cc = some ⟨cl, cld, .cell (some (.ref C)), csl⟩
  cls : ∃ nm q N bs sn sub ab col dd k0 k1 k2 k3 k5, K.lookup C = some (excClassObj nm q C N bs bmO true sn sub ab col dd k0 k1 k2 k3 k5 "OverflowError.__new__")
  sa : findIn K (.ref C) "__setattr__" = some (some (.builtin "object.__setattr__"))
  noM : takerIn K C "most" = some none
  opq : nsIn K cStatics "thirdparty.any" = some none
  sup : ks_superIn K C C "__init__" = some (some (.builtin "OverflowError.__init__"))
  subC : subIn K (.ref C) (.type "OverflowError") = some true
  subS : PySem.W.mroIn K C (.ref C) = some true
  exC : subIn K (.ref C) (.type "BaseException") = some true
  tyC : typeIn K (.ref C) = some (.type "type")
  kC : PySem.W.keepIn K (.ref C) = true
section
variable {P : Program} {w : World} {K : Frag} {mg : Str → Option Value} {A : Around} {C fI cc cda x t0 : Addr} {R : Result → Shared → Prop} {hp : Heap} {g : Array GenState} {d : Drawn} {t : Nat} {os : OsState} {v : Value}
/-- self.name = v on an exception over OverflowError that has no dict yet -/
theorem osaO {name : Str} {tk : Tok} {cd : ClassData} {fv : Array Value} (X : K.In hp) (hx : hp.get? x = some { cls := .ref C, data := .fields fv }) (hcd : clsIn K C = some cd) (hm : cd.mro = .ref C :: bmO) (hh : cd.hasDict = true) (ha : takerIn K C name = some none)
    (hq : ∀ h' tk' dx, (∀ b o, b ≠ x → hp.get? b = some o → h'.get? b = some o) → hp.objs.size ≤ dx → dx ≠ x → h'.get? x = some { cls := .ref C, dict := some dx, data := .fields fv } →
      h'.Ns1 dx (fun y => if y = name then some v else none) → R (.ok (.ret .none)) ⟨h', g, d, tk', os⟩) :
    codeAny (model P w) A (.call (.builtin "object.__setattr__") ⟨[.ref x, .str name tk, v], []⟩) R ⟨hp, g, d, t, os⟩ := by
  have hxs : x ≠ hp.objs.size := Nat.ne_of_lt (Heap.lt_size hx)
  refine PySem.W.osa_openX (C := C) (od := none) PySem.F.store_OverflowError X ⟨hx, rfl, rfl, trivial⟩ (by unfold excOver; rw [hcd]; show (match cd.mro with | .ref C' :: bm => C' == C && excTail bmO bm | _ => false) = true; rw [hm]; simp [excTail]) ha fun b => ?_
  have hcls : PySem.W.Looks (model P w) hp (classData C) cd := PySem.W.looks_clsIn X hcd
  show wpAny _ _ (Builtin.ObjectAttr.storeInOwnDict (.ref x) (.ref C) (.str name tk) name v b) _ _ _
  obtain ⟨nm, bs, mro, ns, qn, hd, sn, sb, ab, col, del⟩ := cd
  dsimp only at hh
  subst hh
  unfold Builtin.ObjectAttr.storeInOwnDict Builtin.ObjectAttr.ownDictForStores
  repeat (first | with_reducible refine PySem.HandSPX.store_in_new ?_ ?_ | with_reducible refine wpAny_loadPart_at hx ?_ | with_reducible refine hcls.at ?_ | wp_step)
  · exact ⟨_, #[], _, (Heap.get?_update_ne _ _ _ _ hxs.symm).trans (Heap.get?_push_at rfl rfl), rfl, fun e he => absurd he (by simp), fun _ => rfl⟩
  · intro h' tk' hn' hs
    have hx₁ : (hp.push { cls := .type "dict", data := .dict #[] }).get? x = some { cls := .ref C, data := .fields fv } := Heap.get?_push_of_some _ hx
    refine hq h' tk' hp.objs.size (fun b o hb ho => ?_) (Nat.le_refl _) hxs.symm ?_ hn'
    · have hb2 : b ≠ hp.objs.size := Nat.ne_of_lt (Heap.lt_size ho)
      exact (hs.2 b hb2).trans ((Heap.get?_update_other _ _ (Ne.symm hb)).trans (Heap.get?_push_of_some _ ho))
    · exact (hs.2 x hxs).trans (Heap.get?_update_self _ hx₁ rfl)

/-- the call of TooMany's own __init__ -/
theorem tm_init (F : TmF P K C fI cc cda) (X : K.In hp) (lim : hp.NoLimit) (hg : hp.Ns mainGlobals mg) (hm : mg "super" = none) (hb : ∃ mb, hp.Ns builtinsNs mb ∧ mb "super" = some (.type "super"))
    (hx : hp.get? x = some (PySem.HandSPX.excO C t0)) (hX : ∀ h', (∀ b o, b ≠ x → hp.get? b = some o → h'.get? b = some o) → K.In h') (hroom : A.depth < recursionLimit)
    (hq : ∀ h' tk' dx t1, (∀ b o, b ≠ x → hp.get? b = some o → h'.get? b = some o) → hp.objs.size ≤ dx → dx ≠ x → h'.get? x = some { cls := .ref C, dict := some dx, data := .fields #[.ref t1, .none, .none, .none, .bool false, .none] } →
      h'.Ns1 dx (fun y => if y = ("most" : Str) then some v else none) → R (.ok (.ret .none)) ⟨h', g, d, tk', os⟩) :
    codeAny (model P w) A (.call (.ref fI) ⟨[.ref x, v], []⟩) R ⟨hp, g, d, t, os⟩ := by
  obtain ⟨oc, od, kV, doc, pm, an, ct, osl, lk⟩ := F.fn
  obtain ⟨ccl, cdd, vs, ccs, file, tf, hcode, hvs, hfile⟩ := F.code
  obtain ⟨cl, cld, csl, hcell⟩ := F.cell
  obtain ⟨nm, q, N, bs, sn, sub, ab, col, dd, k0, k1, k2, k3, k5, hC⟩ := F.cls
  obtain ⟨mb, hmb, hsup⟩ := hb
  have hcl : clsIn K C = some { name := nm, bases := bs, mro := .ref C :: bmO, ns := N, qualname := q, hasDict := true, slotNames := sn, subclasses := sub, abstract := ab, collection := col, hasDel := false } := by unfold PySem.W.clsIn; rw [hC] <;> rfl
  refine ks_codeAny_call_defAt (fd := PySem.W.ksFn "__init__" tmQ (C8.fnArgs tmInit) (C8.fnBody tmInit) (C8.fnScope tmInit) .none kV doc pm an (.ref cda) ct cc) (body := C8.fnBody tmInit)
    (binds := [("self", .ref x), ("most", v)]) hroom (X _ _ lk) rfl lim (PySem.W.codeRec_of X F.cd) rfl (BindsTo.of_eq (by rfl)) (show ∀ x ∈ (C8.fnScope tmInit).names, x.2 ≠ .cell by decide +kernel) (fun y hy => ?_) (fun h0 hns hk => ?_)
  · rcases List.mem_cons.mp hy with rfl | hy
    · exact show List.lookup ("self" : Str) (C8.fnScope tmInit).names = some NameKind.local by decide +kernel
    · rcases List.mem_cons.mp hy with rfl | hy
      · exact show List.lookup ("most" : Str) (C8.fnScope tmInit).names = some NameKind.local by decide +kernel
      · cases hy
  have X0 : K.In h0 := X.keeps hk
  have hx0 := hk _ _ hx
  have hL0 : ∀ {b : Addr} {o : Obj}, hp.get? b = some o → b ≠ hp.objs.size := fun {b o} e => Nat.ne_of_lt (Heap.lt_size e)
  refine ks_wpAt_execs_cons ?_
  refine ks_wpAt_Expr_any ?_
  refine ks_wpAt_MethodCall ?_
  refine ks_wpAt_super_base (ar := { arg := "self", annotation := none, pos := ⟨36, 17, 36, 21⟩ }) (show List.lookup ("super" : Str) (C8.fnScope tmInit).names = some NameKind.globalImplicit by decide +kernel) (show List.lookup ("__class__" : Str) (C8.fnScope tmInit).names = some NameKind.free by decide +kernel) (by decide +kernel) rfl (X0 _ _ lk) rfl rfl rfl (X0 _ _ hcode) rfl hvs hfile F.top ?_
  refine PySem.W.ks_loadName_global rfl (show List.lookup ("super" : Str) (C8.fnScope tmInit).names = some NameKind.globalImplicit by decide +kernel) (Calls.loadGlobal_builtin (hg.keeps hk) hm (hmb.keeps hk) hsup ⟨rfl, ?_⟩)
  refine wpAny_loadName_free rfl (show List.lookup ("__class__" : Str) (C8.fnScope tmInit).names = some NameKind.free by decide +kernel) rfl ⟨_, X0 _ _ hcell, rfl⟩ ?_
  refine wpAny_loadName_local rfl (show List.lookup ("self" : Str) (C8.fnScope tmInit).names = some NameKind.local by decide +kernel) hns rfl ?_
  refine ks_wpAny_isType_cls (X0 _ _ hC) rfl ⟨rfl, ?_⟩
  refine ks_wpAny_call_super (X0 _ _ hC) rfl hx0 rfl (fun c e => by cases e) (PySem.W.looks_mroIn X0 F.subS) (fun h1 e1 k1 => ?_)
  have X1 : K.In h1 := X0.keeps k1
  have hx1 := k1 _ _ hx0
  have hsu := F.sup
  unfold ks_superIn at hsu
  rw [hcl] at hsu
  have hmro : PySem.W.Looks (model P w) h1 (mroOf (.ref C)) (.ref C :: bmO) := fun A Q E s k q => wpAny_bind ((PySem.W.looks_clsIn X1 hcl) A _ E s k (wpAny_pure q))
  have I1 : InstAt h1 x (PySem.HandSPX.excO C t0) C none := ⟨hx1, rfl, rfl, trivial⟩
  have hI : PySem.W.Looks (model P w) h1 (isInstance (.ref x) (.type "OverflowError")) true := I1.type.andThen (PySem.W.looks_subIn X1 F.subC)
  refine PySem.W.kxs_getMethod PySem.W.kxs_OverflowError e1 (PySem.W.looks_opaque X1 F.opq) hmro rfl X1 hsu hI (PySem.W.ks_ne X1 I1 hcl) (by decide +kernel) ?_
  have hu : (h1.push (PySem.W.kxs_mw "OverflowError.__init__" x)).get? h1.objs.size = some (PySem.W.kxs_mw "OverflowError.__init__" x) := Heap.get?_push_at rfl rfl
  refine PySem.W.kxs_callWith (i := "OverflowError.__init__") (x := x) rfl (Calls.evalArgs_plain ?_)
  refine wpAny_items_cons (wpAny_Constant_str (wpAny_items_nil ⟨hu, ?_⟩))
  have k2 : ∀ b o, h1.get? b = some o → (h1.push (PySem.W.kxs_mw "OverflowError.__init__" x)).get? b = some o := fun b o e => Heap.get?_push_of_some _ e
  refine wpAny_call (codeAny_of_tree ?_)
  show wpAny _ _ (callAny (.ref h1.objs.size) _) _ _ _
  simp only [callAny]
  refine wpAny_bind (wpAny_load hu ?_)
  simp only [PySem.W.kxs_mw, show (Value.type "method-wrapper" == Value.type "method" || Value.type "method-wrapper" == Value.type "builtin_function_or_method" || Value.type "method-wrapper" == Value.type "method-wrapper") = true by decide, if_true]
  refine PySem.W.KFB.if_so (by decide) ?_
  refine wpAny_bind (PySem.W.check_bound_init PySem.F.excBase_OverflowError.toExcCallFacts (k2 _ _ (X1 _ _ hC)) (k2 _ _ hx1) rfl ?_)
  refine wpAny_bind (wpAny_pure (wpAny_pure ?_))
  refine ⟨plainId_quiet PySem.F.excBase_OverflowError.init.plain _, codeAny_builtin PySem.F.excBase_OverflowError.initEntry ?_⟩
  refine PySem.W.exc_init_tree (cls := .ref C) (t0 := t0) (dv := none) (c2 := .none) (c3 := .none) (b4 := .bool false) (k2 _ _ hx1) (by rw [PySem.sizeLine_eq]; show 1 ≤ _; omega) (fun h3 k3 e3 _ => ?_)
  have K3 : ∀ b o, b ≠ x → h0.get? b = some o → h3.get? b = some o := fun b o hb e => k3 b o hb (k2 _ _ (k1 _ _ e))
  have X3 : K.In h3 := hX h3 fun b o hb e => K3 b o hb (hk b o e)
  have hns3 : h3.Ns hp.objs.size fun y => List.lookup y [(("self" : Str), Value.ref x), ("most", v)].reverse := hns.at fun o e => K3 _ _ (hL0 hx).symm e
  refine ks_wpAt_execs_cons (ks_wpAt_Assign_Attr ?_)
  refine wpAt_of_wpAny (wpAny_Name (wpAny_loadName_local rfl (show List.lookup ("most" : Str) (C8.fnScope tmInit).names = some NameKind.local by decide +kernel) hns3 (v := v) rfl ?_))
  refine wpAny_Name (wpAny_loadName_local rfl (show List.lookup ("self" : Str) (C8.fnScope tmInit).names = some NameKind.local by decide +kernel) hns3 (v := .ref x) rfl ?_)
  obtain ⟨t1, e3⟩ : ∃ t1, h3.get? x = some (PySem.HandSPX.excO C t1) := ⟨_, e3⟩
  have hsz : hp.objs.size ≤ h3.objs.size := by
    obtain ⟨o, _, _, q, _⟩ := hns3
    exact Nat.le_of_lt (Heap.lt_size q)
  refine PySem.W.set_plain X3 (ox := PySem.HandSPX.excO C t1) (od := none) ⟨e3, rfl, rfl, trivial⟩ F.sa (osaO X3 e3 hcl rfl rfl F.noM fun h4 tk4 dx k4 le4 ne4 e4 n4 => ?_)
  exact wpAt_of_wpAny (wpAny_execs_nil (hq h4 tk4 dx t1 (fun b o hb e => k4 b o hb (K3 b o hb (hk b o e))) (Nat.le_trans hsz le4) ne4 e4 n4))
end
end TW
set_option Elab.async false
set_option linter.all false
set_option maxRecDepth 100000
set_option maxHeartbeats 4000000
namespace TW
open PySem PySem.Spec PyProof.Rows L2
open PySem.W (Frag clsIn findIn typeIn subIn codeIn nsIn takerIn hasDictIn ks_superIn excOver InstAt excTail)
/-- C(e), C = TooMany -/
def tMkT (C : Addr) (ta : TA) : L2.St → Hp → XK → Prop := fun σ H Q => ta σ H fun vs H1 => ∃ v, vs = [v] ∧ ∀ d : Addr, H1 d = none → Q (.ref C) (some d) (upd H1 d (.xd [("most", v)]))
section
variable {X : Cx} {x : Str} {C fI cc cda : Addr} {k : Nat} {e : Expr} {es : List Expr} {ta : TA} {p pos : Pos}
theorem pmk_tm (F : TmF X.prog X.K C fI cc cda) (hr : Room (k + 1) X.A) (hs : X.mg "super" = none) (hg : Gl X x) (hm : X.mg x = some (.ref C)) (ha : PA X (e :: es) ta)
    (hdb : (x == ("__debug__" : Str)) = false := by decide) (he : starEach (e :: es) X.env = (false, eval e X.env) :: starEach es X.env := by rfl) (hpl : (backTo pos (starEach es X.env)).any (·.1) = false := by rfl) :
    PMk X (.Call (.Name x p) (e :: es) [] pos) (tMkT C ta) := by
  intro pins s σ H Q I h
  obtain ⟨nm, q, N, bs, sn, sub, ab, col, dd, k0, k1, k2, k3, k5, hC⟩ := F.cls
  refine wpAny_Call_Name_kw (ld_glob I hg hm ?_ hdb)
  refine PySem.W.callWith_K (h₀ := X.base) I.ok.mod.kin F.kC (thn (ha.run pos pins s σ H _ I h) fun us s1 ⟨vs, H1, I1, r1, v, ev, q1⟩ => ⟨I1.kIn, ?_⟩) he hpl
  subst ev
  obtain ⟨u, rfl, ru⟩ : ∃ u, us = [u] ∧ RelV v u := by
    cases r1 with
    | cons ra rb =>
      cases rb with
      | nil => exact ⟨_, rfl, ra⟩
  show wpAny _ _ (call (.ref C) [u]) _ _ _
  obtain ⟨hp, g, dr, tk, os⟩ := s1
  have hsz : hp.objs.size ≤ hp.objs.size + 1 := Nat.le_succ _
  have hn : H1 (hp.objs.size + 1) = none := I1.hok.fresh hsz
  have kk : ∀ b o, hp.get? b = some o → ((hp.push (PySem.W.kdv_tup [u])).push (PySem.HandSPX.excO C hp.objs.size)).get? b = some o := fun b o e => Heap.get?_push_of_some _ (Heap.get?_push_of_some _ e)
  have hget : ((hp.push (PySem.W.kdv_tup [u])).push (PySem.HandSPX.excO C hp.objs.size)).get? (hp.objs.size + 1) = some (PySem.HandSPX.excO C hp.objs.size) := by heap_get
  have I2 : Inv X pins σ (upd H1 (hp.objs.size + 1) (exo (hp.objs.size + 1) C none)) ⟨(hp.push (PySem.W.kdv_tup [u])).push (PySem.HandSPX.excO C hp.objs.size), g, dr, tk, os⟩ :=
    I1.laid (t' := tk) (a := hp.objs.size + 1) (o := exo (hp.objs.size + 1) C none) (h' := (hp.push (PySem.W.kdv_tup [u])).push (PySem.HandSPX.excO C hp.objs.size)) kk hsz (exo_ok hget)
  obtain ⟨mb, hb1, hb2⟩ := I2.mod.blt
  have hne : ∀ {b : Addr} {o : Obj}, X.base.get? b = some o → b ≠ hp.objs.size + 1 := fun {b o} z => Nat.ne_of_lt (Nat.lt_of_lt_of_le (Heap.lt_size (I1.bk b o z)) hsz)
  refine wpAny_call (PySem.HandSPX.call_own PySem.F.excBase_OverflowError (fun Y => rfl) (I1.kIn _ _ hC) (PySem.W.looks_findIn I1.kIn F.ini) (fun self => PySem.W.bind_fn I1.kIn self F.tI) (by rw [PySem.sizeLine_eq]; show 1 ≤ _; omega)
    (tm_init (mg := X.mg) F I2.kIn (I2.mod.nolimit.keeps I2.bk) (I2.mod.glob.keeps I2.bk) hs ⟨mb, hb1.keeps I2.bk, hb2 _ (by decide)⟩ hget
      (fun h' kp b o z => kp b o (hne (I1.mod.kin b o z)) (I2.kIn b o z)) (hr.make C [u] []).depth fun h2 t2 d t1 K2 le ned e2 n2 => ?_))
  refine ⟨rfl, ?_⟩
  have ea : upd H1 (hp.objs.size + 1) (exo (hp.objs.size + 1) C none) (hp.objs.size + 1) = some (exo (hp.objs.size + 1) C none) := upd_same
  generalize ha2 : hp.objs.size + 1 = a at *
  generalize hp2e : (hp.push (PySem.W.kdv_tup [u])).push (PySem.HandSPX.excO C hp.objs.size) = hp2 at *
  have hnd : upd H1 a (exo a C none) d = none := I2.hok.fresh le
  have hnd1 : H1 d = none := by rw [upd_ne ned] at hnd; exact hnd
  have nd : ∀ {b : Addr} {o : Obj}, hp2.get? b = some o → b ≠ d := fun {b o} z => Nat.ne_of_lt (Nat.lt_of_lt_of_le (Heap.lt_size z) le)
  have na : ∀ {b : Addr}, upd H1 a (exo a C none) b = none → b ≠ a := fun {b} n z => by
    rw [z, ea] at n
    cases n
  have un : Un (frs X.stack) [] (upd H1 a (exo a C none)) (upd (upd (upd H1 a (exo a C none)) d (exd d [("most", v)])) a (exo a C (some d))) hp2 h2 := {
    keep := fun b o z n _ _ => K2 b o (na n) z
    slot := fun b o z n _ _ => ⟨o.slots, K2 b o (na n) z⟩
    free := fun b o z n _ => by rw [upd_ne (na n), upd_ne (nd z)]; exact n
    there := fun b o z _ => by
      by_cases hb : b = a
      · exact ⟨_, by rw [hb]; exact e2⟩
      · exact ⟨o, K2 b o hb z⟩
    tups := fun b xs z => by rw [upd_ne (at_ne ea z exo_tup), upd_ne (ne_of_none z hnd)]; exact z
    frzs := fun b o v z => by rw [upd_ne (at_ne ea z exo_frz), upd_ne (ne_of_none z hnd)]; exact z
    tbls := fun b ps z => ⟨#[], by rw [upd_ne (at_ne ea z exo_tbl), upd_ne (ne_of_none z hnd), z]; simp⟩ }
  have hok : HOk X.prog X.w (upd (upd (upd H1 a (exo a C none)) d (exd d [("most", v)])) a (exo a C (some d))) h2 := fun b o z => by
    by_cases hb : b = a
    · subst hb
      rw [upd_same] at z
      cases z
      exact exo_ok e2
    · rw [upd_ne hb] at z
      by_cases hd : b = d
      · subst hd
        rw [upd_same] at z
        cases z
        exact exd_ok n2 (relO_put (fs := []) ru fun g => True.intro)
      · rw [upd_ne hd] at z
        exact (I2.hok b o z).stay (fun c v hc y => K2 c v (by
            rcases hc with hc | hc
            · rw [hc]
              exact hb
            · exact at_ne ea hc exo_own) y)
          (fun c hc => by rw [upd_ne (at_ne ea hc exo_own), upd_ne (ne_of_none hc hnd)]; exact hc) (fun c xs hc => by rw [upd_ne (at_ne ea hc exo_tup), upd_ne (ne_of_none hc hnd)]; exact hc)
  have eH : upd (del (upd (upd (upd H1 a (exo a C none)) d (exd d [("most", v)])) a (exo a C (some d))) a) d (.xd [("most", v)]) = upd H1 d (.xd [("most", v)]) := by
    funext b
    by_cases hd : b = d
    · rw [hd, upd_same, upd_same]
    · rw [upd_ne hd, upd_ne hd]
      by_cases hb : b = a
      · rw [hb, del_same, hn]
      · rw [del_ne hb, upd_ne hb, upd_ne hd, upd_ne hb]
  exact mk_end (d1 := dr) (t1 := tk) (os1 := os) (raises_own F.exC F.tyC) I1 (by rw [← ha2]; exact Nat.le_succ _) kk un hok rfl I2.bare upd_same (by rw [upd_ne ned, upd_same]) hnd1 (by rw [eH]; exact q1 d hnd1)
end
end TW
set_option Elab.async false
set_option linter.all false
set_option maxRecDepth 100000
set_option maxHeartbeats 4000000
namespace TW
open PySem PySem.Spec PyProof.Rows L2
/-- at a: an exception object of the class cls with the dict d, known -/
def exk (a : Addr) (cls : Value) (d : Option Addr) : HO := .ext fun h => ∃ (o : Obj) (vs : Array Value), h.get? a = some o ∧ Zc cls d o ∧ o.data = .fields vs
theorem exk_ok {P : Program} {w : World} {H : Hp} {h : Heap} {a : Addr} {cls : Value} {d : Option Addr} {o : Obj} {vs : Array Value} (h1 : h.get? a = some o) (h2 : Zc cls d o) (h3 : o.data = .fields vs) : ObjOk P w H h a (exk a cls d) :=
  ⟨⟨o, vs, h1, h2, h3⟩, ⟨o, h1⟩, fun h1 h2 z k => by
    obtain ⟨o, vs, a1, a2, a3⟩ := z
    exact ⟨o, vs, k _ a1, a2, a3⟩⟩
theorem exk_at {P : Program} {w : World} {H : Hp} {h : Heap} {a : Addr} {cls : Value} {d : Option Addr} (hok : HOk P w H h) (e : H a = some (exk a cls d)) : ∃ (o : Obj) (vs : Array Value), h.get? a = some o ∧ Zc cls d o ∧ o.data = .fields vs := by
  have x : ObjOk P w H h a (.ext fun h => ∃ (o : Obj) (vs : Array Value), h.get? a = some o ∧ Zc cls d o ∧ o.data = .fields vs) := hok a _ e
  exact x.1
section
variable {X : Cx} {pins : List (Addr × Obj)} {σ : L2.St} {H : Hp} {s sI : Shared} {a : Addr} {cls : Value} {d : Option Addr} {o : Obj} {vs : Array Value}
/-- an object of nobody's becomes known -/
theorem inv_know (I : Inv X pins σ H s) (na : H a = none) (h1 : s.heap.get? a = some o) (h2 : Zc cls d o) (h3 : o.data = .fields vs) (J : Inv X pins σ H sI) (nI : sI.heap.get? a = none) (nF : a ∉ frs X.stack) :
    Inv X pins σ (upd H a (exk a cls d)) s := by
  have ne : ∀ {b o}, sI.heap.get? b = some o → b ≠ a := fun {b o} e z => by rw [z, nI] at e; cases e
  have keepU : ∀ {b u}, H b = some u → upd H a (exk a cls d) b = some u := fun {b u} e => by rw [upd_ne (ne_of_none e na)]; exact e
  refine ⟨I.ok, I.os, I.bare, ⟨I.base.keep, I.base.slot, fun b o e n hx => ?_, I.base.there, fun b xs e => keepU (I.base.tups b xs e), fun b o u e => keepU (I.base.frzs b o u e), fun b ps e => ?_⟩, I.loc, I.cell, ?_, fun x c e => ?_, fun p hp => ?_, fun b u e => ?_, I.len⟩
  · obtain ⟨o', e'⟩ := J.base.there b o e hx
    rw [upd_ne (ne e')]
    exact I.base.free b o e n hx
  · obtain ⟨m, e'⟩ := I.base.tbls b ps e
    exact ⟨m, keepU e'⟩
  · obtain ⟨m, ⟨ob, _, _, q, _⟩, _⟩ := J.loc
    rw [upd_ne (ne q)]
    exact I.free
  · obtain ⟨v, ob, q, _⟩ := J.cell x c e
    rw [upd_ne (ne q)]
    exact I.freeC x c e
  · obtain ⟨p1, p2, p3, p4, p5⟩ := I.pin p hp
    refine ⟨p1, ?_, p3, p4, p5⟩
    rw [upd_ne (ne (J.pin p hp).1)]
    exact p2
  · by_cases hb : b = a
    · subst hb
      rw [upd_same] at e
      cases e
      exact exk_ok h1 h2 h3
    · rw [upd_ne hb] at e
      exact (I.hok b u e).stay (fun c v hc q => q) (fun c q => keepU q) fun c xs q => keepU q
/-- what try: .. except (x1, x2, x3) as n: suite wishes of an exception of the body: the exception is known in the suite and behind it -/
def wTup (K : PySem.W.Frag) (c1 c2 c3 : Value) (i : Nat) (ts : TS) (D : Ends) : WX := fun cls d σ H =>
  PySem.W.exmAny K cls [c1, c2, c3] = some true ∧ ∀ a, H a = none → ts { nx := fun σ' H' => D.nx (σ'.set i none) H', rt := D.rt, bk := fun σ' H' => D.bk (σ'.set i none) H', ct := fun σ' H' => D.ct (σ'.set i none) H' } (σ.set i (some (.ref a))) (upd H a (exk a cls d))
theorem Inv_suite0 (I : Inv X pins σ H s) (a : Addr) : Inv (X.suite a (X.pn ++ pins)) [] σ H s :=
  ⟨I.ok.suite _ _, I.os, I.bare, I.base, I.loc, I.cell, I.free, I.freeC, fun p hp => I.pin p (by rw [List.append_nil] at hp; exact hp), I.hok, I.len⟩
theorem Inv_unsuite0 {pn' : List (Addr × Obj)} (I : Inv (X.suite a (X.pn ++ pins)) pn' σ H s) (ok : X.Ok) : Inv X pins σ H s :=
  ⟨ok, I.os, I.bare, I.base, I.loc, I.cell, I.free, I.freeC, fun p hp => I.pin p (List.mem_append_left _ hp), I.hok, I.len⟩
end
section
variable {X : Cx} {x1 x2 x3 n : Str} {c1 c2 c3 : Value} {i : Nat} {body suite : List Stmt} {b₀ : Stmt} {kk : Nat} {q1 q2 q3 np pos pos' : Pos} {tb : WX → TS} {ts : TS}
theorem fly_push {B : Heap} {l : List Env} {a : Addr} {Z : Obj → Prop} {h h' : Heap} (fl : HandSPX.FlyingZ B l a Z h) (k : ∀ b o, h.get? b = some o → h'.get? b = some o) : HandSPX.FlyingZ B l a Z h' := by
  obtain ⟨k1, k2, k3, oe, vs, T, oT, ts', he, hz, hd, h1, hr1, hr2, hr3, hr4, hr5⟩ := fl
  exact ⟨fun b o e => k b o (k1 b o e), k2, k3.of_keeps fun b o e _ => ⟨o, k b o e, rfl⟩, oe, vs, T, oT, ts', k _ _ he, hz, hd, h1, hr1, hr2, k _ _ hr3, hr4, hr5⟩
theorem ps_try3 (hs : X.stack = X.env :: X.outer) (hf : X.env.frame = some X.env.locals) (hN : X.N.Nodup) (hi : X.N[i]? = some n) (hln : X.env.kindOf n = some .local) (g1 : Gl X x1) (m1 : X.mg x1 = some c1) (g2 : Gl X x2) (m2 : X.mg x2 = some c2) (g3 : Gl X x3) (m3 : X.mg x3 = some c3)
    (hb : ∀ (W : WX) (pn : List (Addr × Obj)) (xe : Value → Shared → Prop), Takes (X.tr pn xe) W → PassesOwn (model X.prog X.w) X.A X.env xe → PSs (X.tr pn xe) body (tb W))
    (hsu : ∀ (a : Addr) (pn : List (Addr × Obj)), PSs (X.suite a pn) (b₀ :: suite) ts)
    (d1 : (x1 == ("__debug__" : Str)) = false := by decide) (d2 : (x2 == ("__debug__" : Str)) = false := by decide) (d3 : (x3 == ("__debug__" : Str)) = false := by decide) :
    PS X (.Try body [.ExceptHandler (some (.Tuple [.Name x1 q1, .Name x2 q2, .Name x3 q3] kk np)) (some n) (b₀ :: suite) pos'] [] [] pos) (fun D σ H => tb (wTup X.K c1 c2 c3 i ts D) D σ H) := by
  refine ⟨fun pins s σ H D I h => ?_⟩
  have ok := I.ok
  have hfr : X.A.frames = some (X.env :: X.outer) := by rw [ok.frames, hs]
  have hloc : Loc X.env.scope n := .inl hln
  refine wpAny_Try_except ?_
  refine wpAny_mono ((hb (wTup X.K c1 c2 c3 i ts D) (X.pn ++ pins) (fun e s₁ => wpAny (model X.prog X.w) X.A (noteFrame e X.env) (fun _ s₂ => wpAny (model X.prog X.w) X.A (setFlight e none) (fun _ s₃ =>
    wpAny (model X.prog X.w) X.A (handleBy e X.env [.ExceptHandler (some (.Tuple [.Name x1 q1, .Name x2 q2, .Name x3 q3] kk np)) (some n) (b₀ :: suite) pos']) (SP X pins D) X.xe s₃) X.xe s₂) X.xe s₁) (fun u s' xx => ?_) PassesOwn.looking).run [] s σ H D (I.toTry _) h) (fun f s1 hsp => ?_) (fun e s1 he => he)
  · -- the catch
    obtain ⟨a, B, sI, pins', σ', H', cls, d, rfl, J', nb, up, sky, na, os, ag, hb1, hyes⟩ := xx
    have J : Inv X pins σ' H' sI := J'.ofTry ok
    have sky' : Sky B (X.env :: X.outer) a (Zc cls d) X.env.locals s'.heap := by rw [← hs]; exact sky
    show wpAny (model X.prog X.w) X.A (noteFrame (.ref a) X.env) _ _ _
    refine Sky.land Zc.steady hfr hf sky' fun h3 fl3 up3 => ?_
    have J3 : Inv X pins σ' H' { s' with heap := h3 } := J.landed nb fl3.1 (up.trans up3) os ag
    obtain ⟨oe3, vs3, he3, hz3, hd3⟩ := fl3.there
    have notFr : ∀ {h : Heap} {o : Obj} {vs : Array Value}, h.FunFrames B (X.env :: X.outer) → h.get? a = some o → o.data = .fields vs → a ∉ frs (X.env :: X.outer) := fun {h o vs} ff e dd hm => by
      obtain ⟨_, o', e', hnf⟩ := ff.mem hm
      rw [e] at e'; cases e'
      exact hnf _ dd
    have nfr := notFr fl3.2.2.1 he3 hd3
    have nstk : a ∉ frs X.stack := by rw [hs]; exact nfr
    have nI : sI.heap.get? a = none := by
      cases q : sI.heap.get? a with
      | none => rfl
      | some o =>
        have z := nb a o q nstk
        rw [fl3.2.1] at z
        cases z
    have nL : a ≠ X.env.locals := fun z => nfr (List.mem_filterMap.mpr ⟨X.env, List.mem_cons_self, by rw [hf, z]⟩)
    have nF : a ∉ X.fs := fun hm => by
      obtain ⟨e, he, q⟩ := List.mem_filterMap.mp hm
      exact nfr (List.mem_filterMap.mpr ⟨e, List.mem_cons_of_mem _ he, q⟩)
    have S3 := J3.suite he3 hd3 na nL nF
    refine wpAny_handleBy_cons (codeAny_handlers_test ?_) (by intro q; cases q)
    refine wpAny_Tuple ?_
    refine wpAny_items_cons (ld_glob (X := X.suite a ((a, oe3) :: (X.pn ++ pins))) S3 g1 m1 ?_ d1)
    refine wpAny_items_cons (ld_glob (X := X.suite a ((a, oe3) :: (X.pn ++ pins))) S3 g2 m2 ?_ d2)
    refine wpAny_items_cons (ld_glob (X := X.suite a ((a, oe3) :: (X.pn ++ pins))) S3 g3 m3 ?_ d3)
    refine wpAny_items_nil ⟨by rw [sizeLine_eq]; show 3 ≤ _; omega, ?_⟩
    have kp : ∀ b o, h3.get? b = some o → (h3.push { cls := .type "tuple", data := .seq [c1, c2, c3].toArray }).get? b = some o := fun b o e => Heap.get?_push_of_some _ e
    have up3' : s'.heap.UpToSlots (h3.push { cls := .type "tuple", data := .seq [c1, c2, c3].toArray }) := up3.trans (Heap.UpToSlots.of_keeps kp)
    have fl3' := fly_push fl3 kp
    have J3' : Inv X pins σ' H' { s' with heap := h3.push { cls := .type "tuple", data := .seq [c1, c2, c3].toArray } } := J.landed nb fl3'.1 (up.trans up3') os ag
    have LT : PySem.W.Looks (model X.prog X.w) (h3.push { cls := .type "tuple", data := .seq [c1, c2, c3].toArray }) (typeOf (.ref a)) cls := fun A Q E s k q => wpAny_typeOf_ref (k _ _ (kp _ _ he3)) (by rw [hz3.1]; exact q)
    have LM := PySem.W.exm_tup3 (M := model X.prog X.w) (J3'.kIn) LT (Heap.get?_push_size h3 rfl) hb1
    refine LM.here ?_
    refine codeAny_handlers_suite_as ?_
    refine HandSPX.lands_againZ fl3' fun h4 fl4 up4 => ?_
    have J4 : Inv X pins σ' H' { s' with heap := h4 } := J.landed nb fl4.1 ((up.trans up3').trans up4) os ag
    obtain ⟨oe4, vs4, he4, hz4, hd4⟩ := fl4.there
    have J5 := inv_know J4 na he4 hz4 hd4 J nI nstk
    have S4 := Inv_suite0 J5 a
    refine store_ok (X := X.suite a (X.pn ++ pins)) (v := .ref a) S4 hN hi hloc rfl (fun s5 S5 => ?_) (.inr hln)
    refine wpAny_mono ((hsu a (X.pn ++ pins)).run [] s5 _ _ _ S5 (hyes a na)) (fun f s6 hsp => ?_) (fun _ _ z => False.elim z)
    have end_ : ∀ {σ6 : L2.St} {H6 : Hp} {Q : Shared → Prop}, Inv (X.suite a (X.pn ++ pins)) [] σ6 H6 s6 → (∀ s7, Inv X pins (σ6.set i none) H6 s7 → Q s7) →
        wpAny (model X.prog X.w) X.A (do bindName X.env n .none; unbindBehindTheSuite X.env n pos') (fun _ s7 => Q s7) X.xe s6 := fun {σ6 H6 Q} S6 hq => gone_ok (Inv_unsuite0 S6 ok) hN hi hln hq
    cases f with
    | next =>
      obtain ⟨σ6, H6, S6, q6⟩ := hsp
      exact end_ S6 fun s7 J7 => ⟨_, _, J7, q6⟩
    | brk =>
      obtain ⟨σ6, H6, S6, q6⟩ := hsp
      exact end_ S6 fun s7 J7 => ⟨_, _, J7, q6⟩
    | cont =>
      obtain ⟨σ6, H6, S6, q6⟩ := hsp
      exact end_ S6 fun s7 J7 => ⟨_, _, J7, q6⟩
    | ret u =>
      obtain ⟨v6, σ6, H6, S6, r6, q6⟩ := hsp
      exact end_ S6 fun s7 J7 => ⟨_, _, _, J7, r6, q6⟩
  · cases f with
    | next =>
      obtain ⟨σ', H', J', q⟩ := hsp
      exact wpAny_execs_nil ⟨σ', H', J'.ofTry ok, q⟩
    | brk =>
      obtain ⟨σ', H', J', q⟩ := hsp
      exact ⟨σ', H', J'.ofTry ok, q⟩
    | cont =>
      obtain ⟨σ', H', J', q⟩ := hsp
      exact ⟨σ', H', J'.ofTry ok, q⟩
    | ret u =>
      obtain ⟨v, σ', H', J', r, q⟩ := hsp
      exact ⟨v, σ', H', J'.ofTry ok, r, q⟩
end
end TW
set_option Elab.async false
set_option linter.all false
set_option maxRecDepth 100000
set_option maxHeartbeats 4000000
namespace PySem.W
open PySem PySem.Spec PySem.Calls PyProof.Rows
section
variable {prog : Program} {w : World} {A : Around} {E : Value → Shared → Prop} {s : Shared} {K : Frag} {x D : Addr} {ox : Obj} {od : Option Obj}
theorem tw_findData {C : Addr} {name : Str} {a g : Value} (hc : (clsIn K C).isSome = true) (ha : findIn K (.ref C) name = some (some a)) (hg : specialIn K a "__get__" = some (some g)) (ht : takesIn K a = some true) : findObj K C od name = some (.bind g a) := by
  obtain ⟨cd, hc⟩ := Option.isSome_iff_exists.mp hc
  unfold findObj
  rw [hc, Option.bind_some, ha, Option.bind_some]
  simp [hg, ht]
theorem tw_class {Q : Option Value → Shared → Prop} (hga : findIn K (.ref D) "__getattribute__" = some (some (.builtin "BaseException.__getattribute__"))) (hgt : findIn K (.ref D) "__getattr__" = some none) (hsub : subIn K (.ref D) (.type "BaseException") = some true)
    (hdct : hasDictIn K D = true) (ha : findIn K (.ref D) "__class__" = some (some (.builtin "object.__class__")))
    (hn : specialIn K (.builtin "object.__class__") "__get__" = some (some (.builtin "getset_descriptor.__get__"))) (htk : takesIn K (.builtin "object.__class__") = some true) (hm : mroIn K D (.type "object") = some true)
    (X : K.In s.heap) (I : InstAt s.heap x ox D od) (h : Q (some (.ref D)) { s with toks := s.toks + 1 }) : wpAny (model prog w) A (getAttr? (.ref x) "__class__") Q E s := by
  have hf : findObj K D od "__class__" = some (.bind (.builtin "getset_descriptor.__get__") (.builtin "object.__class__")) := tw_findData (by obtain ⟨cd, hc, _⟩ := any_some hdct; rw [hc]; rfl) ha hn htk
  obtain ⟨hp, g, d, t, os⟩ := s
  have L0 := I.type (M := model prog w)
  have L1 := looks_findIn (M := model prog w) X hga
  have L2 := looks_findIn (M := model prog w) X hgt
  have L3 := looks_find (M := model prog w) X I hf
  have sub : Looks (model prog w) hp (isInstance (.ref x) (.type "BaseException")) true := L0.andThen (looks_subIn X hsub)
  have hx0 : (false && onTheHeap (Value.builtin "BaseException.__getattribute__")) = false := rfl
  have hx2 : (Value.builtin "BaseException.__getattribute__" == Value.builtin "object.__getattribute__") = false := by decide +kernel
  have hx1 : (onTheHeap (Value.ref D) && Value.builtin "BaseException.__getattribute__" == Value.builtin "object.__getattribute__") = false := by rw [hx2]; rfl
  unfold getAttr? getAttrBy? getAttrBy
  refine wpAny_bind (wpAny_mkText (wpAny_bind (wpAny_attempt (wpAny_holding (wpAny_bind (L0.at (wpAny_bind (L1.at ?_))))))))
  show wpAny _ _ (if (onTheHeap (Value.ref D) && Value.builtin "BaseException.__getattribute__" == Value.builtin "object.__getattribute__") = true then _ else _) _ _ _
  rw [hx1, if_neg Bool.false_ne_true]
  unfold getAttrByItsOwn hookBefore
  refine wpAny_bind ?_
  rw [if_pos (show onTheHeap (Value.ref D) = true from rfl)]
  refine L2.at ?_
  refine wpAny_bind (wpAny_attempt (wpAny_holding ?_))
  unfold callGetattribute
  rw [hx0, if_neg Bool.false_ne_true]
  unfold boundAndCalled
  rw [PySem.F.excAttr_ValueError.ga.bind (.ref x)]
  refine wpAny_bind (wpAny_pure ?_)
  show wpAny _ _ (call (.builtin "BaseException.__getattribute__") [.ref x, .str "__class__" t]) _ _ _
  refine wpAny_call (codeAny_call_builtin PySem.F.excAttr_ValueError.ga.plain PySem.F.entry_bexc_ga ?_)
  refine @check_slot (model prog w) _ _ ⟨hp, g, d, t + 1, os⟩ "BaseException.__getattribute__" "BaseException" "__getattribute__" (.ref x) [.str "__class__" t] [] _ (by decide +kernel) (by decide +kernel) sub (PySem.F.args_bexc_ga (.ref x) (.str "__class__" t)) ?_
  unfold Builtin.«object.__getattribute__»
  refine wpAny_bind (wpAny_of_eq (a := ((Value.ref x : Value), [Value.str "__class__" t])) (by first | rfl | (simp only [slotArgs]; rfl)) ?_)
  refine wpAny_bind (wpAny_pure (wpAny_bind (L0.at (wpAny_bind (L3.at ?_)))))
  show wpAny _ _ (holding [Value.builtin "object.__class__"] (call (.builtin "getset_descriptor.__get__") [.builtin "object.__class__", .ref x, .ref D]) >>= ret) _ _ _
  refine wpAny_bind (wpAny_holding (wpAny_call (class_get (s := ⟨hp, g, d, t + 1, os⟩) (ox := ox) (od := od) X I hm ?_)))
  refine wpAny_pure ?_
  show wpAny _ _ (handedOut (.ref D)) _ _ _
  rw [handedOut_of (v := .ref D) rfl]
  first
    | exact wpAny_pure (wpAny_pure h)
    | exact wpAny_pure h
    | exact wpAny_pure (wpAny_bind (wpAny_pure (wpAny_pure h)))
theorem tw_kitx (hga : findIn K (.ref D) "__getattribute__" = some (some (.builtin "BaseException.__getattribute__"))) (hgt : findIn K (.ref D) "__getattr__" = some none) (hsub : subIn K (.ref D) (.type "BaseException") = some true) (hdct : hasDictIn K D = true) (ha : findIn K (.ref D) "__class__" = some (some (.builtin "object.__class__")))
    (hn : specialIn K (.builtin "object.__class__") "__get__" = some (some (.builtin "getset_descriptor.__get__"))) (htk : takesIn K (.builtin "object.__class__") = some true) (hm : mroIn K D (.type "object") = some true) :
    KitX K (.ref x) (.ref D) (fun h => InstAt h x ox D od) where
  ty := fun _ _ _ I => I.type
  it := fun _ _ X _ => by
    obtain ⟨cdD, hcD, _⟩ := any_some hdct
    unfold clsIn at hcD
    split at hcD
    · rename_i c' d' cd' sl' ho
      intro A' Q' E' s' k q
      unfold isType loadHead
      exact wpAny_bind (wpAny_loadPart (k _ _ (X _ _ ho)) (wpAny_pure q))
    · cases hcD
  ne := fun h tp dd its n sl X htp => by
    obtain ⟨cdD, hcD, _⟩ := any_some hdct
    refine Bool.eq_false_iff.mpr fun q => ?_
    have e : D = tp := Value.ref.inj (beq_iff_eq.mp q)
    subst e
    unfold clsIn at hcD
    split at hcD
    · rename_i c' d' cd' sl' ho
      have z := (X _ _ ho).symm.trans htp
      cases z
    · cases hcD
  ca := fun X I k => tw_class hga hgt hsub hdct ha hn htk hm X I k
end
end PySem.W
namespace TW
open PySem PySem.Spec PyProof.Rows L2
section
variable {X : Cx} {pins : List (Addr × Obj)} {σ : L2.St} {H : Hp} {s : Shared}
/-- a known exception with a known dict, as the library's rules want it -/
theorem inst_of {a C dd : Addr} {fs : List (Str × V)} (I : Inv X pins σ H s) (e : H a = some (exk a (.ref C) (some dd))) (ed : H dd = some (.xd fs)) :
    ∃ (o od : Obj) (mA : Str → Option Value), PySem.W.InstAt s.heap a o C (some od) ∧ (∀ y, PySem.W.lookIn y od = some (mA y)) ∧ ∀ f, RelO (fs.lookup f) (mA f) := by
  obtain ⟨o, vs, ho, hz, hd⟩ := exk_at I.hok e
  have hx : ObjOk X.prog X.w H s.heap dd (.xd fs) := I.hok dd _ ed
  obtain ⟨mA, hns, hr⟩ := hx
  obtain ⟨od, hod, hl⟩ := lookIn_ns hns
  exact ⟨o, od, mA, ⟨ho, hz.1, by unfold PySem.W.notCls; rw [hd] <;> rfl, by rw [hz.2]; exact hod⟩, hl, hr⟩
end
/-- isinstance(e, c), e a known exception -/
def rIsK (K : PySem.W.Frag) (D : Addr) : List V → Hp → VK → Prop := fun xs H Q => ∃ (a C dd : Addr) (fs : List (Str × V)) (b : Bool), xs = [.ref a, .ref C] ∧ H a = some (exk a (.ref D) (some dd)) ∧ H dd = some (.xd fs) ∧ PySem.W.kitOne K (.ref D) (.ref C) = some b ∧ Q (.bl b) H
theorem call_isK {X : Cx} {D : Addr} (C : ExcC X.K D) : CallR X (.builtin "isinstance") (rIsK X.K D) := by
  intro pins s σ H xs us Q I r h
  obtain ⟨a, c, dd, fs, b, rfl, ea, ed, e, q⟩ := h
  obtain ⟨u1, u2, rfl, r1, r2⟩ := vals2 r
  obtain rfl : u1 = Value.ref a := r1
  obtain rfl : u2 = Value.ref c := r2
  obtain ⟨o, od, mA, J, _, _⟩ := inst_of I ea ed
  exact PySem.W.kia_one (PySem.W.tw_kitx C.hg C.hk C.hs C.hd C.ha C.hn C.ht C.hm) I.kIn J e (fun z => nomatch z) fun tk => ⟨.bl b, H, I.tok tk, rfl, q⟩
/-- e.n, e a known exception -/
def tXk (D : Addr) (n : Str) (te : TE) : TE := fun σ H Q => te σ H fun x H1 => ∃ (a dd : Addr) (fs : List (Str × V)) (v : V), x = .ref a ∧ H1 a = some (exk a (.ref D) (some dd)) ∧ H1 dd = some (.xd fs) ∧ fs.lookup n = some v ∧ Q v H1
theorem pe_xk {X : Cx} {D : Addr} {e : Expr} {te : TE} {pos : Pos} {n : Str} (T : ExcC X.K D) (hno : PySem.W.findIn X.K (.ref D) n = some none) (he : PE X e te) (hb : attributeBase e n X.env (eval e X.env) = eval e X.env := by rfl) :
    PE X (.Attribute e n pos) (tXk D n te) := by
  refine ⟨fun pins s σ H Q I h => ?_⟩
  refine attr_of hb (thn (he.run pins s σ H _ I h) fun u s1 hh => ?_)
  obtain ⟨x, H1, I1, rx, a, dd, fs, v, ex, ea, ed, l, q⟩ := hh
  subst ex
  obtain rfl : u = Value.ref a := rx
  obtain ⟨o, od, mA, J, hl, hr⟩ := inst_of I1 ea ed
  obtain ⟨u, hu, ru⟩ := RelO.some_of (v := v) (o := mA n) (by rw [← l]; exact hr n)
  exact HandSPX.exc_get I1.kIn J T.hg T.hk T.hs (PySem.W.findObj_own T.hd hno rfl (by rw [hl, hu])) (handed_of ru) ⟨v, H1, I1.tok _, ru, q⟩
end TW
set_option Elab.async false
set_option linter.all false
set_option maxRecDepth 100000
set_option maxHeartbeats 8000000
namespace TW
open PySem PySem.Spec PyProof.Rows L2
structure ErrF (K : PySem.W.Frag) (mg : Str → Option Value) (C : Addr) : Prop where
  bl : ∃ B, mg "BadLetters" = some (.ref B) ∧ PySem.W.kitOne K (.ref C) (.ref B) = some false
  bs : ∃ B, mg "BadSize" = some (.ref B) ∧ PySem.W.kitOne K (.ref C) (.ref B) = some false
  bn : ∃ B, mg "BadNumber" = some (.ref B) ∧ PySem.W.kitOne K (.ref C) (.ref B) = some false
  bp : ∃ B, mg "BadPairs" = some (.ref B) ∧ PySem.W.kitOne K (.ref C) (.ref B) = some false
  bq : ∃ B, mg "BadPaper" = some (.ref B) ∧ PySem.W.kitOne K (.ref C) (.ref B) = some false
  tl : ∃ B, mg "TooLong" = some (.ref B) ∧ PySem.W.kitOne K (.ref C) (.ref B) = some false
  tm : mg "TooMany" = some (.ref C)
  e3 : ∃ B1 B2, mg "TwiceError" = some (.ref B1) ∧ mg "TooLong" = some (.ref B2) ∧ PySem.W.exmAny K (.ref C) [.ref B1, .ref B2, .ref C] = some true
  ec : ExcC K C
  most : PySem.W.findIn K (.ref C) "most" = some none
theorem kit_self {K : PySem.W.Frag} {C : Addr} : PySem.W.kitOne K (.ref C) (.ref C) = some true := by
  unfold PySem.W.kitOne
  rw [if_pos (beq_self_eq_true _)]
abbrev s__law_error_word : Stmt := topS 42
def N__law_error_word : List Str := ["_law_error", "_law_some", "_law_words", "_law_word_here", "_law_holds"]
theorem sc__law_error_word : FnScope N__law_error_word ["_law_error"] (C8.fnScope s__law_error_word) := C8.fnScope_by (by decide +kernel)
def sp__law_error_word (C : Addr) : Sp := fun vs H Q _ => ∃ a dd : Addr, vs = [.ref a] ∧ H a = some (exk a (.ref C) (some dd)) ∧ H dd = some (.xd [("most", .int 2000)]) ∧
  ∀ p H', Same H H' → H' p = some (.tup [.str "many", .int 2000]) → Q (.ref p) H'
theorem is_tup {K : PySem.W.Frag} {C a dd B : Addr} {s : Str} {b : Bool} {σ : L2.St} {H : Hp} {Q : VK} {fs : List (Str × V)} (h0 : σ[0]? = some (some (.ref a))) (ea : H a = some (exk a (.ref C) (some dd))) (ed : H dd = some (.xd fs)) (k : PySem.W.kitOne K (.ref C) (.ref B) = some b)
    (h : ∀ p, H p = none → Q (.ref p) (upd H p (.tup [.str s, .bl b]))) : tTup (tCons (tC (V.str s)) (tCons (tCB (rIsK K C) (tCons (tVar 0) (tCons (tC (.ref B)) tNil))) tNil)) σ H Q := by
  refine ⟨.ref a, h0, a, B, dd, fs, b, rfl, ea, ed, k, ?_⟩
  exact ⟨small1000 (by simp), h⟩
section
variable {P : Program} {w : World} {K : PySem.W.Frag} {mg : Str → Option Value} {base : Heap} {C : Addr}
theorem c__law_error_word (G : Glb K mg) (F : ErrF K mg C) (D : DefAt K mg "_law_error_word" s__law_error_word) : C8.Cal P w K mg base 1 "_law_error_word" (sp__law_error_word C) [] := by
  refine cal_of D sc__law_error_word (fun _ _ _ _ _ _ us hl => match us, hl with | [_], _ => rfl) (fun vs H Q E h => ?_) (fun f cdv A outer s H vs Q E hr h => ?_)
  · obtain ⟨a, dd, rfl, _⟩ := h; rfl
  · obtain ⟨a, dd, rfl, ea, ed, q⟩ := h
    obtain ⟨B1, g1, k1⟩ := F.bl
    obtain ⟨B2, g2, k2⟩ := F.bs
    obtain ⟨B3, g3, k3⟩ := F.bn
    obtain ⟨B4, g4, k4⟩ := F.bp
    obtain ⟨B5, g5, k5⟩ := F.bq
    obtain ⟨B6, g6, k6⟩ := F.tl
    refine ⟨_, (pss_cons (ps_set (i := 1) sc__law_error_word.nd rfl (Or.inl rfl) (pe_lst (pa_cons (pe_tup (pa_cons pe_str (pa_cons (pe_callB (call_isK F.ec) rfl G.isinstance (by decide +kernel) (pa_cons (pv 0) (pa_cons (pe_glob (v := .ref B1) rfl g1 rfl) pa_nil))) pa_nil))) (pa_cons (pe_tup (pa_cons pe_str (pa_cons (pe_callB (call_isK F.ec) rfl G.isinstance (by decide +kernel) (pa_cons (pv 0) (pa_cons (pe_glob (v := .ref B2) rfl g2 rfl) pa_nil))) pa_nil))) pa_nil))))
  (pss_cons (ps_set (i := 1) sc__law_error_word.nd rfl (Or.inl rfl) (pe_op op_cat (pv 1) (pe_lst (pa_cons (pe_tup (pa_cons pe_str (pa_cons (pe_callB (call_isK F.ec) rfl G.isinstance (by decide +kernel) (pa_cons (pv 0) (pa_cons (pe_glob (v := .ref B3) rfl g3 rfl) pa_nil))) pa_nil))) (pa_cons (pe_tup (pa_cons pe_str (pa_cons (pe_callB (call_isK F.ec) rfl G.isinstance (by decide +kernel) (pa_cons (pv 0) (pa_cons (pe_glob (v := .ref B4) rfl g4 rfl) pa_nil))) pa_nil))) pa_nil)))))
  (pss_cons (ps_set (i := 1) sc__law_error_word.nd rfl (Or.inl rfl) (pe_op op_cat (pv 1) (pe_lst (pa_cons (pe_tup (pa_cons pe_str (pa_cons (pe_callB (call_isK F.ec) rfl G.isinstance (by decide +kernel) (pa_cons (pv 0) (pa_cons (pe_glob (v := .ref B5) rfl g5 rfl) pa_nil))) pa_nil))) (pa_cons (pe_tup (pa_cons pe_str (pa_cons (pe_callB (call_isK F.ec) rfl G.isinstance (by decide +kernel) (pa_cons (pv 0) (pa_cons (pe_glob (v := .ref B6) rfl g6 rfl) pa_nil))) pa_nil))) pa_nil)))))
  (pss_cons (ps_expr (pe_bm PySem.F.plainAttrs_list PySem.F.slot_list_append PySem.F.type_list_append mt_append (pv 1) (pa_cons (pe_tup (pa_cons pe_str (pa_cons (pe_callB (call_isK F.ec) rfl G.isinstance (by decide +kernel) (pa_cons (pv 0) (pa_cons (pe_glob (v := .ref C) rfl F.tm rfl) pa_nil))) pa_nil))) pa_nil)))
  (pss_cons (ps_setLc (i := 2) (own := [("_law_word_here", 3), ("_law_holds", 4)]) (g := gTup K 2 (gCons (gName 3) (gCons (gName 4) gNil))) (tt := _) rfl sc__law_error_word.nd rfl rfl (sw_true rfl rfl rfl (by decide +kernel)) (pi_list (pv 1)) (blkOk_by (own := [("_law_word_here", 3), ("_law_holds", 4)]) (N := N__law_error_word) (sc := C8.fnScope s__law_error_word) (by decide +kernel)) (fun _ _ _ _ _ => pg_tup rfl (pgs_cons (pg_name (i := 3) sc__law_error_word.nd rfl (Or.inl rfl)) (pgs_cons (pg_name (i := 4) sc__law_error_word.nd rfl (Or.inl rfl)) pgs_nil))) (fun _ _ _ _ _ => pts_one (pt_val (pv 4))) (fun _ _ _ _ _ => (pv 3)))
  (pss_cons (ps_if (pt_cmpR op_ne (pe_callB call_len_seq rfl G.len PySem.boot_len (pa_cons (pv 2) pa_nil)) pe_int (nomark _)) (pss_one (ps_ret (pe_tup (pa_cons pe_str pa_nil)))) pss_nil)
  (pss_cons (ps_if (pt_cmpR op_eq (pe_ix ix_list (pv 2) pe_int (fun _ _ => rfl)) pe_str (nomark _)) pss_never pss_nil)
  (pss_cons (ps_if (pt_cmpR op_eq (pe_ix ix_list (pv 2) pe_int (fun _ _ => rfl)) pe_str (nomark _)) pss_never pss_nil)
  (pss_cons (ps_if (pt_cmpR op_in_seq (pe_ix ix_list (pv 2) pe_int (fun _ _ => rfl)) (pe_tup (pa_cons pe_str (pa_cons pe_str pa_nil))) (by rfl)) (pss_one (ps_ret (pe_tup (pa_cons (pe_ix ix_list (pv 2) pe_int (fun _ _ => rfl)) (pa_cons (pe_xk F.ec F.most (pv 0)) pa_nil))))) pss_nil)
  (pss_one ps_never)))))))))), ?_⟩
    refine ⟨.ref a, rfl, a, B1, dd, _, false, rfl, ea, ed, k1, small1000 (by simp), fun p1 n1 => ?_⟩
    have s1 : Same H (upd H p1 (.tup [.str "letters", .bl false])) := same_upd n1
    have e1 : upd H p1 (.tup [.str "letters", .bl false]) p1 = some (.tup [.str "letters", .bl false]) := upd_same
    generalize upd H p1 (.tup [.str "letters", .bl false]) = H1 at s1 e1
    refine ⟨.ref a, rfl, a, B2, dd, _, false, rfl, s1 _ _ ea, s1 _ _ ed, k2, small1000 (by simp), fun p2 n2 => ?_⟩
    have s2 : Same H1 (upd H1 p2 (.tup [.str "size", .bl false])) := same_upd n2
    have e2 : upd H1 p2 (.tup [.str "size", .bl false]) p2 = some (.tup [.str "size", .bl false]) := upd_same
    generalize upd H1 p2 (.tup [.str "size", .bl false]) = H2 at s2 e2
    refine ⟨small1000 (by simp), fun q1 nq1 => ?_⟩
    have s3 : Same H2 (upd H2 q1 (.lst [.ref p1, .ref p2])) := same_upd nq1
    have e3 : upd H2 q1 (.lst [.ref p1, .ref p2]) q1 = some (.lst [.ref p1, .ref p2]) := upd_same
    generalize upd H2 q1 (.lst [.ref p1, .ref p2]) = H3 at s3 e3
    have t3 : Same H H3 := (s1.trans s2).trans s3
    have a1 := s3 _ _ (s2 _ _ e1)
    have a2 := s3 _ _ e2
    -- number, pairs
    refine ⟨.ref q1, rfl, .ref a, rfl, a, B3, dd, _, false, rfl, t3 _ _ ea, t3 _ _ ed, k3, small1000 (by simp), fun p3 n3 => ?_⟩
    have s4 : Same H3 (upd H3 p3 (.tup [.str "number", .bl false])) := same_upd n3
    have e4 : upd H3 p3 (.tup [.str "number", .bl false]) p3 = some (.tup [.str "number", .bl false]) := upd_same
    generalize upd H3 p3 (.tup [.str "number", .bl false]) = H4 at s4 e4
    have t4 := t3.trans s4
    refine ⟨.ref a, rfl, a, B4, dd, _, false, rfl, t4 _ _ ea, t4 _ _ ed, k4, small1000 (by simp), fun p4 n4 => ?_⟩
    have s5 : Same H4 (upd H4 p4 (.tup [.str "pairs", .bl false])) := same_upd n4
    have e5 : upd H4 p4 (.tup [.str "pairs", .bl false]) p4 = some (.tup [.str "pairs", .bl false]) := upd_same
    generalize upd H4 p4 (.tup [.str "pairs", .bl false]) = H5 at s5 e5
    refine ⟨small1000 (by simp), fun q2 nq2 => ?_⟩
    have s6 : Same H5 (upd H5 q2 (.lst [.ref p3, .ref p4])) := same_upd nq2
    have e6 : upd H5 q2 (.lst [.ref p3, .ref p4]) q2 = some (.lst [.ref p3, .ref p4]) := upd_same
    generalize upd H5 q2 (.lst [.ref p3, .ref p4]) = H6 at s6 e6
    have t36 : Same H3 H6 := (s4.trans s5).trans s6
    refine ⟨q1, q2, _, _, rfl, rfl, t36 _ _ e3, e6, small1000 (by simp), fun r1 nr1 => ?_⟩
    have s7 : Same H6 (upd H6 r1 (.lst ([.ref p1, .ref p2] ++ [.ref p3, .ref p4]))) := same_upd nr1
    have e7 : upd H6 r1 (.lst ([.ref p1, .ref p2] ++ [.ref p3, .ref p4])) r1 = some (.lst [.ref p1, .ref p2, .ref p3, .ref p4]) := upd_same
    generalize upd H6 r1 (.lst ([.ref p1, .ref p2] ++ [.ref p3, .ref p4])) = H7 at s7 e7
    have t7 : Same H H7 := (t3.trans t36).trans s7
    have a1 := s7 _ _ (t36 _ _ a1)
    have a2 := s7 _ _ (t36 _ _ a2)
    have a3 := s7 _ _ (s6 _ _ (s5 _ _ e4))
    have a4 := s7 _ _ (s6 _ _ e5)
    -- paper, long
    refine ⟨.ref r1, rfl, .ref a, rfl, a, B5, dd, _, false, rfl, t7 _ _ ea, t7 _ _ ed, k5, small1000 (by simp), fun p5 n5 => ?_⟩
    have s8 : Same H7 (upd H7 p5 (.tup [.str "paper", .bl false])) := same_upd n5
    have e8 : upd H7 p5 (.tup [.str "paper", .bl false]) p5 = some (.tup [.str "paper", .bl false]) := upd_same
    generalize upd H7 p5 (.tup [.str "paper", .bl false]) = H8 at s8 e8
    have t8 := t7.trans s8
    refine ⟨.ref a, rfl, a, B6, dd, _, false, rfl, t8 _ _ ea, t8 _ _ ed, k6, small1000 (by simp), fun p6 n6 => ?_⟩
    have s9 : Same H8 (upd H8 p6 (.tup [.str "long", .bl false])) := same_upd n6
    have e9 : upd H8 p6 (.tup [.str "long", .bl false]) p6 = some (.tup [.str "long", .bl false]) := upd_same
    generalize upd H8 p6 (.tup [.str "long", .bl false]) = H9 at s9 e9
    refine ⟨small1000 (by simp), fun q3 nq3 => ?_⟩
    have s10 : Same H9 (upd H9 q3 (.lst [.ref p5, .ref p6])) := same_upd nq3
    have e10 : upd H9 q3 (.lst [.ref p5, .ref p6]) q3 = some (.lst [.ref p5, .ref p6]) := upd_same
    generalize upd H9 q3 (.lst [.ref p5, .ref p6]) = H10 at s10 e10
    have t710 : Same H7 H10 := (s8.trans s9).trans s10
    refine ⟨r1, q3, _, _, rfl, rfl, t710 _ _ e7, e10, small1000 (by simp), fun r2 nr2 => ?_⟩
    have s11 : Same H10 (upd H10 r2 (.lst ([.ref p1, .ref p2, .ref p3, .ref p4] ++ [.ref p5, .ref p6]))) := same_upd nr2
    have e11 : upd H10 r2 (.lst ([.ref p1, .ref p2, .ref p3, .ref p4] ++ [.ref p5, .ref p6])) r2 = some (.lst [.ref p1, .ref p2, .ref p3, .ref p4, .ref p5, .ref p6]) := upd_same
    generalize upd H10 r2 (.lst ([.ref p1, .ref p2, .ref p3, .ref p4] ++ [.ref p5, .ref p6])) = H11 at s11 e11
    have t11 : Same H H11 := (t7.trans t710).trans s11
    have a1 := s11 _ _ (t710 _ _ a1)
    have a2 := s11 _ _ (t710 _ _ a2)
    have a3 := s11 _ _ (t710 _ _ a3)
    have a4 := s11 _ _ (t710 _ _ a4)
    have a5 := s11 _ _ (s10 _ _ (s9 _ _ e8))
    have a6 := s11 _ _ (s10 _ _ e9)
    have nHr2 : H r2 = none := by
      cases z : H r2 with
      | none => rfl
      | some o =>
        rw [(t7.trans t710) _ _ z] at nr2
        cases nr2
    -- many
    refine ⟨_, rfl, .inl ⟨rfl, _, .inl (.inl e11)⟩, .ref a, rfl, a, C, dd, _, true, rfl, t11 _ _ ea, t11 _ _ ed, kit_self, small1000 (by simp), fun p7 n7 => ?_⟩
    have s12 : Same H11 (upd H11 p7 (.tup [.str "many", .bl true])) := same_upd n7
    have e12 : upd H11 p7 (.tup [.str "many", .bl true]) p7 = some (.tup [.str "many", .bl true]) := upd_same
    generalize upd H11 p7 (.tup [.str "many", .bl true]) = H12 at s12 e12
    have t12 := t11.trans s12
    refine ⟨r2, _, _, rfl, rfl, s12 _ _ e11, Nat.lt_of_lt_of_le (show 6 < 1000 by decide) (by rw [sizeLine_eq]; omega), ?_⟩
    have nr : ∀ {p : Addr} {ys : List V}, H12 p = some (.tup ys) → p ≠ r2 := fun {p ys} e z => by
      rw [z, s12 _ _ e11] at e
      cases e
    have t13 : Same H (upd H12 r2 (.lst ([.ref p1, .ref p2, .ref p3, .ref p4, .ref p5, .ref p6] ++ [.ref p7]))) := same_set t12 nHr2
    have e13 : upd H12 r2 (.lst ([.ref p1, .ref p2, .ref p3, .ref p4, .ref p5, .ref p6] ++ [.ref p7])) r2 = some (.lst [.ref p1, .ref p2, .ref p3, .ref p4, .ref p5, .ref p6, .ref p7]) := upd_same
    have b1 := (upd_ne (H := H12) (o := (.lst ([.ref p1, .ref p2, .ref p3, .ref p4, .ref p5, .ref p6] ++ [.ref p7]))) (nr (s12 _ _ a1))).trans (s12 _ _ a1)
    have b2 := (upd_ne (H := H12) (o := (.lst ([.ref p1, .ref p2, .ref p3, .ref p4, .ref p5, .ref p6] ++ [.ref p7]))) (nr (s12 _ _ a2))).trans (s12 _ _ a2)
    have b3 := (upd_ne (H := H12) (o := (.lst ([.ref p1, .ref p2, .ref p3, .ref p4, .ref p5, .ref p6] ++ [.ref p7]))) (nr (s12 _ _ a3))).trans (s12 _ _ a3)
    have b4 := (upd_ne (H := H12) (o := (.lst ([.ref p1, .ref p2, .ref p3, .ref p4, .ref p5, .ref p6] ++ [.ref p7]))) (nr (s12 _ _ a4))).trans (s12 _ _ a4)
    have b5 := (upd_ne (H := H12) (o := (.lst ([.ref p1, .ref p2, .ref p3, .ref p4, .ref p5, .ref p6] ++ [.ref p7]))) (nr (s12 _ _ a5))).trans (s12 _ _ a5)
    have b6 := (upd_ne (H := H12) (o := (.lst ([.ref p1, .ref p2, .ref p3, .ref p4, .ref p5, .ref p6] ++ [.ref p7]))) (nr (s12 _ _ a6))).trans (s12 _ _ a6)
    have b7 := (upd_ne (H := H12) (o := (.lst ([.ref p1, .ref p2, .ref p3, .ref p4, .ref p5, .ref p6] ++ [.ref p7]))) (nr e12)).trans e12
    generalize upd H12 r2 (.lst ([.ref p1, .ref p2, .ref p3, .ref p4, .ref p5, .ref p6] ++ [.ref p7])) = H13 at *
    refine ⟨.ref r2, rfl, r2, rfl, ⟨_, .inl (.inl e13)⟩, fun D nD => ?_⟩
    refine lc_it (walk_list (xs := [.ref p1, .ref p2, .ref p3, .ref p4, .ref p5, .ref p6, .ref p7])) (fun i H' => Same H13 H' ∧ H' D = some (.lst (if i ≤ 6 then [] else [.str "many"]))) ⟨same_upd nD, by rw [upd_same]; rfl⟩ (fun i H' hi h => .inl (.inl (h.1 _ _ e13))) ?_ ?_
    · rintro i x H14 H15 hi ⟨s14, e14⟩ ⟨rfl, hx⟩
      rcases i with _ | _ | _ | _ | _ | _ | _ | i
      · obtain rfl : V.ref p1 = x := Option.some.inj hx
        exact ⟨p1, _, rfl, .inl (.inl (s14 _ _ b1)), rfl, _, _, rfl, _, _, rfl, rfl, rfl, _, rfl, false, rfl, s14, e14⟩
      · obtain rfl : V.ref p2 = x := Option.some.inj hx
        exact ⟨p2, _, rfl, .inl (.inl (s14 _ _ b2)), rfl, _, _, rfl, _, _, rfl, rfl, rfl, _, rfl, false, rfl, s14, e14⟩
      · obtain rfl : V.ref p3 = x := Option.some.inj hx
        exact ⟨p3, _, rfl, .inl (.inl (s14 _ _ b3)), rfl, _, _, rfl, _, _, rfl, rfl, rfl, _, rfl, false, rfl, s14, e14⟩
      · obtain rfl : V.ref p4 = x := Option.some.inj hx
        exact ⟨p4, _, rfl, .inl (.inl (s14 _ _ b4)), rfl, _, _, rfl, _, _, rfl, rfl, rfl, _, rfl, false, rfl, s14, e14⟩
      · obtain rfl : V.ref p5 = x := Option.some.inj hx
        exact ⟨p5, _, rfl, .inl (.inl (s14 _ _ b5)), rfl, _, _, rfl, _, _, rfl, rfl, rfl, _, rfl, false, rfl, s14, e14⟩
      · obtain rfl : V.ref p6 = x := Option.some.inj hx
        exact ⟨p6, _, rfl, .inl (.inl (s14 _ _ b6)), rfl, _, _, rfl, _, _, rfl, rfl, rfl, _, rfl, false, rfl, s14, e14⟩
      · obtain rfl : V.ref p7 = x := Option.some.inj hx
        refine ⟨p7, _, rfl, .inl (.inl (s14 _ _ b7)), rfl, _, _, rfl, _, _, rfl, rfl, rfl, _, rfl, true, rfl, _, rfl, [], e14, Nat.lt_of_lt_of_le (show 0 < 1000 by decide) (by rw [sizeLine_eq]; omega), same_set s14 nD, upd_same⟩
      · exact absurd hi (by simp)
    · rintro H14 ⟨s14, e14⟩
      replace e14 : H14 D = some (.lst [.str "many"]) := e14
      refine ⟨_, rfl, D, _, rfl, .inl (.inl (.inl e14)), rfl, false, rfl, iteF ?_⟩
      refine ⟨_, rfl, D, _, _, _, rfl, rfl, .inl (.inl e14), rfl, rfl, false, rfl, iteF ?_⟩
      refine ⟨_, rfl, D, _, _, _, rfl, rfl, .inl (.inl e14), rfl, rfl, false, rfl, iteF ?_⟩
      refine ⟨_, rfl, D, _, _, _, rfl, rfl, .inl (.inl e14), rfl, small1000 (by simp), fun pt nt => ?_⟩
      have s15 : Same H14 (upd H14 pt (.tup [.str "long", .str "many"])) := same_upd nt
      have e15 : upd H14 pt (.tup [.str "long", .str "many"]) pt = some (.tup [.str "long", .str "many"]) := upd_same
      generalize upd H14 pt (.tup [.str "long", .str "many"]) = H15 at s15 e15
      refine ⟨pt, _, rfl, .inr (.inl (.inl e15)), rfl, rfl, true, rfl, iteT ?_⟩
      have t15 : Same H H15 := (t13.trans s14).trans s15
      refine ⟨_, rfl, D, _, _, _, rfl, rfl, .inl (.inl (s15 _ _ e14)), rfl, .ref a, rfl, a, dd, _, .int 2000, rfl, t15 _ _ ea, t15 _ _ ed, rfl, small1000 (by simp), fun po no => ?_⟩
      exact q po _ (t15.trans (same_upd no)) upd_same
end
end TW
set_option Elab.async false
set_option linter.all false
set_option maxRecDepth 100000
set_option maxHeartbeats 8000000
namespace TW
open PySem PySem.Spec PyProof.Rows L2 LamX
/-- a promise with exceptions -/
structure CalE (P : Program) (w : World) (K : PySem.W.Frag) (mg : Str → Option Value) (base : Heap) (k : Nat) (x : Str) (sp : Sp) : Prop where
  ex : ∃ (f : Addr) (fd : FuncData) (ps : List Str), FnOk P w K mg base (L2.CX P w) k f fd ps sp ∧ mg x = some (.ref f) ∧ PySem.W.keepIn K (.ref f) = true ∧ Binds K fd ps []
/-- short_elders where there are too many -/
def sp_elders_many (T : List (Addr × Str)) (C : Addr) : Sp := fun vs H Q E => ∃ l : List Nat, vs = [.str (tx l)] ∧ Ok l ∧ Tabs T H ∧ (∃ L : List (List Nat), L.Nodup ∧ (∀ x ∈ L, TW.R x l) ∧ 2000 < L.length) ∧
  ∀ (dd : Addr) H', Same H H' → Tabs T H' → H' dd = some (.xd [("most", .int 2000)]) → E (.ref C) (some dd) H'

section
variable {P : Program} {w : World} {K : PySem.W.Frag} {mg : Str → Option Value} {base : Heap}
theorem c_elders_many {T : List (Addr × Str)} {c Pt C fI cc cda : Addr} (G : Glb K mg) (F : TmF P K C fI cc cda) (hTM : mg "TooMany" = some (.ref C)) (hsu : mg "super" = none) (c_need_text : C8.Cal P w K mg base 2 "need_text" sp_need_text []) (c_undone_once : C8.Cal P w K mg base 1 "undone_once" sp_undone_once [])
    (TB : TabB base mg c Pt) (hmT : (Pt, ("short_elders.<locals>.<lambda>" : Str)) ∈ T) (hu : ∀ p ∈ T, p.1 = Pt → p.2 = ("short_elders.<locals>.<lambda>" : Str)) (D : DefC K mg "short_elders" s_short_elders (.ref c)) : CalE P w K mg base 4 "short_elders" (sp_elders_many T C) := by
  obtain ⟨f, oc, od, kV, doc, pm, an, ct, osl, lk, hcd, mgf, kp⟩ := D
  refine ⟨f, _, ["text"], fn_of (N := N_short_elders) (CX := L2.CX P w) lk hcd sc_short_elders (fun vs H Q E h => ?_) fun A outer s H vs Q E hr h => ?_, mgf, kp, .all fun us hl => match us, hl with | [_], _ => rfl⟩
  · obtain ⟨l, rfl, _⟩ := h; rfl
  · obtain ⟨l, rfl, ok, hT, ⟨L, nL, hL, gL⟩, q⟩ := h
    obtain ⟨tML, gML⟩ := G.MOST_LISTED
    have tk : Takes (cxOf (L2.CX P w) P w K mg base N_short_elders "short_elders" (C8.fnScope s_short_elders) f (.ref c) A outer s H E) (fun cls d _ H => E cls d H) := takes_of rfl rfl rfl rfl
    have po : PassesOwn (model P w) (A.deeper (envOfC "short_elders" (C8.fnScope s_short_elders) s.heap.objs.size f (.ref c))) (envOfC "short_elders" (C8.fnScope s_short_elders) s.heap.objs.size f (.ref c)) (cxOf (L2.CX P w) P w K mg base N_short_elders "short_elders" (C8.fnScope s_short_elders) f (.ref c) A outer s H E).xe :=
      passes_of (X := cxOf (L2.CX P w) P w K mg base N_short_elders "short_elders" (C8.fnScope s_short_elders) f (.ref c) A outer s H E) rfl
    have hR : PS (cxOf (L2.CX P w) P w K mg base N_short_elders "short_elders" (C8.fnScope s_short_elders) f (.ref c) A outer s H E) raiseS _ :=
      ps_raise rfl tk (pmk_tm (k := 2) F hr hsu rfl hTM (pa_cons (pe_glob (v := .int 2000) rfl gML ⟨_, rfl⟩) pa_nil))
    exact elders_body (CX := L2.CX P w) (E := E) (k := 0) po G c_need_text c_undone_once TB hmT hu hr hR ok hT (fun known p H' nd hle hiff _ _ _ => by
        have : L.length ≤ known.length := List.Nodup.length_le_of_subset nL fun x hx => (hiff x).mpr (hL x hx)
        omega) fun known D σ H' nd hgt hRk s1 T1 => ⟨.int 2000, rfl, fun d nd2 => q d _ (s1.trans (same_upd nd2)) (T1.ext (same_upd nd2)) upd_same⟩
end
end TW
set_option Elab.async false
set_option linter.all false
set_option maxRecDepth 100000
set_option maxHeartbeats 8000000
namespace TW
open PySem PySem.Spec PyProof.Rows L2 LamX
theorem un_seq {fr fs : List Addr} {H0 H H' : Hp} {h0 h1 h2 : Heap} (a : Un fr [] H0 H h0 h1) (b : Un fs [] H H' h1 h2) (hc : ∀ x ∈ fs, x ∈ fr ∨ h0.get? x = none) : Un fr [] H0 H' h0 h2 where
  keep := fun x o e n h _ => b.keep x o (a.keep x o e n h (by simp)) (a.free x o e n (by simp)) (fun z => (hc x z).elim h fun q => by rw [q] at e; cases e) (by simp)
  slot := fun x o e n h _ => by
    obtain ⟨sl, e1⟩ := a.slot x o e n h (by simp)
    obtain ⟨sl2, e2⟩ := b.any e1 (a.free x o e n (by simp)) (by simp)
    exact ⟨sl2, e2⟩
  free := fun x o e n _ => by
    obtain ⟨o1, e1⟩ := a.there x o e (by simp)
    exact b.free x o1 e1 (a.free x o e n (by simp)) (by simp)
  there := fun x o e _ => by
    obtain ⟨o1, e1⟩ := a.there x o e (by simp)
    exact b.there x o1 e1 (by simp)
  tups := fun x xs e => b.tups x xs (a.tups x xs e)
  frzs := fun x o u e => b.frzs x o u (a.frzs x o u e)
  tbls := fun x ps e => by
    obtain ⟨m1, e1⟩ := a.tbls x ps e
    obtain ⟨m2, e2⟩ := b.tbls x _ e1
    exact ⟨m1 ++ m2, by rw [e2, Array.append_assoc]⟩
/-- the value at f, made ahead of the state (H0, h0), may be called: tl is what that gives -/
structure LamOk (P : Program) (w : World) (K : PySem.W.Frag) (mg : Str → Option Value) (base : Heap) (fr : List Addr) (H0 : Hp) (h0 : Heap) (k : Nat) (f c' : Addr) (q : Str) (tl : XK → Hp → VK → Prop) : Prop where
  shp : ∀ H1 h1, Un fr [] H0 H1 h0 h1 → PySem.W.FnAt f h1
  run : ∀ (A : Around) (outer : List Env) (s1 : Shared) (HZ : Hp) (Q : VK) (E : XK), Room (k + 1) A → Env0 P w K mg base A outer s1 HZ → Un fr [] H0 HZ h0 s1.heap → HZ c' = some (CodeO c' q) → tl E HZ Q →
    codeAny (model P w) A (.call (.ref f) ⟨[], []⟩) (CR (L2.CX P w) outer P w HZ s1 Q E) s1
section
variable {Z : Cx} {fr : List Addr} {H0 : Hp} {h0 : Heap} {k i : Nat} {f c' : Addr} {q a : Str} {tl : XK → Hp → VK → Prop} {W : WX} {p1 p2 : Pos}
/-- a() -/
theorem pe_lam (L : LamOk Z.prog Z.w Z.K Z.mg Z.base fr H0 h0 k f c' q tl) (hun : ∀ pins σ H s, Inv Z pins σ H s → Un fr [] H0 H h0 s.heap) (hr : Room (k + 1) Z.A) (tk : Takes Z W)
    (hN : Z.N[i]? = some a) (hv : Vis Z.env.scope a) (hd : (a == ("__debug__" : Str)) = false := by decide) (hcd : (a == ("__classdict__" : Str)) = false := by decide) :
    PE Z (.Call (.Name a p1) [] [] p2) (fun σ H Q => σ[i]? = some (some (.ref f)) ∧ H c' = some (CodeO c' q) ∧ ∃ E : XK, (∀ cls d H', E cls d H' → W cls d σ H') ∧ tl E H Q) := by
  refine ⟨fun pinsZ sZ σZ HZ Q IZ h => ?_⟩
  obtain ⟨hs, hc, E, hW, ht⟩ := h
  refine wpAny_Call_Name_kw (thn ((pe_var (pos := p1) (i := i) hN hv hd hcd).run pinsZ sZ σZ HZ (fun v H1 => v = .ref f ∧ H1 = HZ) IZ ⟨.ref f, hs, rfl, rfl⟩) fun u s1 ⟨v, H1, I1, r1, q1⟩ => ?_)
  obtain ⟨ev, eH⟩ := q1
  subst ev
  rw [eH] at I1
  obtain rfl : u = Value.ref f := r1
  have un := hun _ _ _ _ I1
  refine PySem.W.callWith_F0 (L.shp _ _ un) ?_
  refine wpAny_call (codeAny_mono (L.run Z.A Z.stack s1 HZ Q E hr I1.env0 un hc ht) fun r s' hq => ?_)
  cases r with
  | error e => exact tk e s' (XE.of_call I1 (fun cls d H' h => hW cls d H' h) hq)
  | ok fl =>
    cases fl with
    | ret u => exact I1.after hq
    | next => exact False.elim hq
    | brk => exact False.elim hq
    | cont => exact False.elim hq
end
abbrev s__law_told : Stmt := topS 43
def N__law_told : List Str := ["_law_call", "_law_found", "_law_caught", "e"]
theorem sc__law_told : FnScope N__law_told ["_law_call"] (C8.fnScope s__law_told) := C8.fnScope_by (by decide +kernel)
section
variable {P : Program} {w : World} {K : PySem.W.Frag} {mg : Str → Option Value} {base : Heap} {C : Addr}
/-- the body of _law_told where what it calls raises TooMany(2000) -/
theorem told_body {fr : List Addr} {H0 : Hp} {h0 : Heap} {k : Nat} {f c' g : Addr} {q : Str} {cdg : Value} {tl : XK → Hp → VK → Prop} {A : Around} {outer : List Env} {s : Shared} {H : Hp} {Q : VK} (G : Glb K mg) (F : ErrF K mg C) (c__law_error_word : C8.Cal P w K mg base 1 "_law_error_word" (sp__law_error_word C) [])
    (L : LamOk P w K mg base fr H0 h0 k f c' q tl) (hun : Un fr [] H0 H h0 s.heap) (hfr : ∀ x ∈ frs outer, x ∈ fr ∨ h0.get? x = none) (hr : Room (k + 1) (A.deeper (envOfC "_law_told" (C8.fnScope s__law_told) s.heap.objs.size g cdg)))
    (hc : H c' = some (CodeO c' q)) (ht : ∀ H1 Qn, Same H H1 → tl (fun cls d H' => cls = .ref C ∧ ∃ dd, d = some dd ∧ H' dd = some (.xd [("most", .int 2000)]) ∧ ∀ p H'', Same H' H'' → H'' p = some (.tup [.str "many", .int 2000]) → Q (.ref p) H'') H1 Qn) :
    ∃ t, PSs (cxOf C8.CX0 P w K mg base N__law_told "_law_told" (C8.fnScope s__law_told) g cdg A outer s H C8.E0).nox (C8.fnBody s__law_told) t ∧ t { nx := fun _ H' => Q .non H', rt := Q } (L2.start N__law_told [.ref f]) H := by
  obtain ⟨B1, B2, g1, g2, hx3⟩ := F.e3
  refine ⟨_, (pss_cons (ps_asg (pe_tup (pa_cons pe_non (pa_cons pe_non pa_nil))) (pg_tup rfl (pgs_cons (pg_name (i := 1) sc__law_told.nd rfl (Or.inl rfl)) (pgs_cons (pg_name (i := 2) sc__law_told.nd rfl (Or.inl rfl)) pgs_nil))))
  (pss_cons (ps_try3 (i := 3) (X := (cxOf C8.CX0 P w K mg base N__law_told "_law_told" (C8.fnScope s__law_told) g cdg A outer s H C8.E0).nox) (tb := fun W D σ H => σ[0]? = some (some (.ref f)) ∧ H c' = some (CodeO c' q) ∧ ∃ E : XK, (∀ cls d H', E cls d H' → W cls d σ H') ∧ tl E H (fun x H1 => gName 1 x σ H1 D.nx))
      rfl rfl sc__law_told.nd rfl rfl rfl g1 rfl g2 rfl F.tm (fun W pn xe tk po => ?_) (fun a pn => pss_one (ps_set (i := 2) sc__law_told.nd rfl (Or.inl rfl) (pv 3))))
  (pss_one (ps_ret (pe_ifExp (pt_cmpR op_isN (pv 2) pe_non (nomark _)) (pe_lst (pa_cons (pv 1) pa_nil)) (C8.pe_c c__law_error_word hr (by omega) rfl (pa_cons (pv 2) pa_nil))))))), ?_⟩
  · have hp := pe_lam (Z := ((cxOf C8.CX0 P w K mg base N__law_told "_law_told" (C8.fnScope s__law_told) g cdg A outer s H C8.E0).nox).tr pn xe) (i := 0) (a := "_law_call") (p1 := ⟨213, 21, 213, 30⟩) (p2 := ⟨213, 21, 213, 32⟩) L (fun pins σ H' s' J => un_seq hun J.base hfr) hr tk rfl (Or.inl rfl)
    have hq := pss_one (ps_set (pos' := ⟨213, 8, 213, 18⟩) (pos := ⟨213, 8, 213, 32⟩) (i := 1) sc__law_told.nd rfl (Or.inl rfl) hp)
    refine ⟨fun pins s' σ H' D I h' => ?_⟩
    exact hq.run pins s' σ H' D I h'
  · refine ⟨small1000 (by simp), fun p np => ?_⟩
    have s1 : Same H (upd H p (.tup [.non, .non])) := same_upd np
    have e1 : upd H p (.tup [.non, .non]) p = some (.tup [.non, .non]) := upd_same
    generalize upd H p (.tup [.non, .non]) = H1 at s1 e1
    refine ⟨p, _, rfl, .inl (.inl e1), rfl, _, _, rfl, _, _, rfl, rfl, ?_⟩
    refine ⟨rfl, s1 _ _ hc, _, ?_, ht H1 _ s1⟩
    rintro cls d H2 ⟨rfl, dd, rfl, ed, qq⟩
    refine ⟨hx3, fun a na => ?_⟩
    have s3 : Same H2 (upd H2 a (exk a (.ref C) (some dd))) := same_upd na
    have e3 : upd H2 a (exk a (.ref C) (some dd)) a = some (exk a (.ref C) (some dd)) := upd_same
    generalize upd H2 a (exk a (.ref C) (some dd)) = H3 at s3 e3
    refine ⟨_, rfl, _, rfl, rfl, false, rfl, iteF ?_⟩
    refine ⟨_, rfl, a, dd, rfl, e3, s3 _ _ ed, fun p4 H4 s4 e4 => qq p4 H4 (s3.trans s4) e4⟩
end
end TW
set_option Elab.async false
set_option linter.all false
set_option maxRecDepth 100000
set_option maxHeartbeats 8000000
namespace TW
open PySem PySem.Spec PyProof.Rows L2 LamX
theorem ok_many : OKd 0 10 (.str "many") := ⟨by decide +kernel, rfl, by simp [PyData.depth], by decide +kernel⟩
/-- what a call is that raises TooMany(2000) -/
def tlMany (T : List (Addr × Str)) (C : Addr) (l : List Nat) : XK → Hp → VK → Prop := fun E H Q => sp_elders_many T C [.str (tx l)] H Q E
structure Many (l : List Nat) : Prop where
  ok : Ok l
  big : ∃ L : List (List Nat), L.Nodup ∧ (∀ x ∈ L, TW.R x l) ∧ 2000 < L.length
abbrev s__law_is : Stmt := topS 44
def N__law_is : List Str := ["_law_call", "_law_due"]
theorem sc__law_is : FnScope N__law_is ["_law_call", "_law_due"] (C8.fnScope s__law_is) := C8.fnScope_by (by decide +kernel)
section
variable {P : Program} {w : World} {K : PySem.W.Frag} {mg : Str → Option Value} {base : Heap} {C : Addr}
/-- _law_told(_law_call) in _law_is -/
theorem pe_told {T : List (Addr × Str)} {l : List Nat} {k : Nat} {f c' gi : Addr} {q : Str} {cdi : Value} {A : Around} {outer : List Env} {s : Shared} {H : Hp} {p1 p2 p3 : Pos} (G : Glb K mg) (F : ErrF K mg C) (c__law_error_word : C8.Cal P w K mg base 1 "_law_error_word" (sp__law_error_word C) [])
    (D : DefAt K mg "_law_told" s__law_told) (L : LamOk P w K mg base (frs outer) H s.heap k f c' q (tlMany T C l)) (M : Many l) (hr : Room (k + 2) (A.deeper (envOfC "_law_is" (C8.fnScope s__law_is) s.heap.objs.size gi cdi))) :
    PE (cxOf C8.CX0 P w K mg base N__law_is "_law_is" (C8.fnScope s__law_is) gi cdi A outer s H C8.E0).nox (.Call (.Name "_law_told" p1) [.Name "_law_call" p2] [] p3)
      (fun σ H1 Q => σ[0]? = some (some (.ref f)) ∧ H1 c' = some (CodeO c' q) ∧ Tabs T H1 ∧ ∀ p H2, Same H1 H2 → H2 p = some (.tup [.str "many", .int 2000]) → Q (.ref p) H2) := by
  obtain ⟨cdv, g, oc, od, kV, doc, pm, an, ct, osl, lk, hcd, mgf, kp⟩ := D.code
  refine ⟨fun pins s1 σ H1 Q I h => ?_⟩
  obtain ⟨h0, hc, hT, hq⟩ := h
  refine wpAny_Call_Name_kw (ld_glob I rfl mgf ?_ (by decide))
  have ha : PA (cxOf C8.CX0 P w K mg base N__law_is "_law_is" (C8.fnScope s__law_is) gi cdi A outer s H C8.E0).nox [.Name "_law_call" p2] (tCons (tVar 0) tNil) := pa_cons (pv 0) pa_nil
  refine PySem.W.callWith_K (h₀ := base) I.ok.mod.kin kp (thn (ha.run p3 pins s1 σ H1 (fun vs H2 => vs = [.ref f] ∧ H2 = H1) I ⟨_, h0, rfl, rfl⟩) ?_) (by rfl) (by rfl)
  rintro us s2 ⟨vs, H2, I2, r, rfl, rfl⟩
  refine ⟨I2.kIn, ?_⟩
  have hlen : us.length = 1 := r.length.symm
  have rc : codeAny (model P w) (A.deeper (envOfC "_law_is" (C8.fnScope s__law_is) s.heap.objs.size gi cdi)) (.call (.ref g) ⟨us, []⟩) (CR C8.CX0 (envOfC "_law_is" (C8.fnScope s__law_is) s.heap.objs.size gi cdi :: outer) P w H2 s2 Q C8.E0) s2 := by
    refine run_ofS (N := N__law_told) (ps := ["_law_call"]) (us := us) (vs := [.ref f]) lk hcd sc__law_told hr I2.env0 (.of_eq (match us, hlen with | [_], _ => rfl)) r rfl fun hr' => ?_
    have hfr : ∀ x ∈ frs (envOfC "_law_is" (C8.fnScope s__law_is) s.heap.objs.size gi cdi :: outer), x ∈ frs outer ∨ s.heap.get? x = none := fun x hx => by
      rcases List.mem_cons.mp hx with z | z
      · refine .inr ?_
        rw [z]
        exact Heap.get?_none_of_le (Nat.le_refl _)
      · exact .inl z
    obtain ⟨t, ht, hq⟩ := told_body (P := P) (w := w) (base := base) (A := A.deeper (envOfC "_law_is" (C8.fnScope s__law_is) s.heap.objs.size gi cdi)) (outer := envOfC "_law_is" (C8.fnScope s__law_is) s.heap.objs.size gi cdi :: outer) (s := s2) (H := H2) (Q := Q) (g := g) (cdg := cdv) G F c__law_error_word L I2.base hfr hr' hc
      (fun H3 Qn s3 => ⟨l, rfl, M.ok, hT.ext s3, M.big, fun dd H4 s4 T4 e4 => ⟨rfl, dd, rfl, e4, fun p H5 s5 e5 => hq p H5 ((s3.trans s4).trans s5) e5⟩⟩)
    exact ⟨t, ht.nox, hq⟩
  refine wpAny_call (codeAny_mono rc fun r s3 hq => ?_)
  cases r with
  | error e => exact (show False from hq).elim
  | ok fl =>
    cases fl with
    | ret u => exact I2.after hq
    | next => exact False.elim hq
    | brk => exact False.elim hq
    | cont => exact False.elim hq
theorem is_body {T : List (Addr × Str)} {l : List Nat} {k : Nat} {f c' gi tp : Addr} {q : Str} {cdi : Value} {A : Around} {outer : List Env} {s : Shared} {H : Hp} {Q : VK} (G : Glb K mg) (F : ErrF K mg C) (c__law_error_word : C8.Cal P w K mg base 1 "_law_error_word" (sp__law_error_word C) [])
    (c__law_like : CalG P w K mg base 1 "_law_like" (sp__law_like K)) (D : DefAt K mg "_law_told" s__law_told) (L : LamOk P w K mg base (frs outer) H s.heap k f c' q (tlMany T C l)) (M : Many l) (hr : Room (k + 2) (A.deeper (envOfC "_law_is" (C8.fnScope s__law_is) s.heap.objs.size gi cdi)))
    (hgd : (A.deeper (envOfC "_law_is" (C8.fnScope s__law_is) s.heap.objs.size gi cdi)).guards = some []) (hc : H c' = some (CodeO c' q)) (hT : Tabs T H) (ht : H tp = some (.tup [.str "many", .int 2000])) (hq : ∀ H', Same H H' → Q (.bl true) H') :
    ∃ t, PSs (cxOf C8.CX0 P w K mg base N__law_is "_law_is" (C8.fnScope s__law_is) gi cdi A outer s H C8.E0).nox (C8.fnBody s__law_is) t ∧ t { nx := fun _ H' => Q .non H', rt := Q } (L2.start N__law_is [.ref f, .ref tp]) H := by
  refine ⟨_, (pss_one (ps_ret (pe_g c__law_like hgd hr (by omega) rfl (pa_cons (pe_lst (pa_cons (pe_told G F c__law_error_word D L M hr) (pa_cons (pe_told G F c__law_error_word D L M hr) pa_nil))) (pa_cons (pe_lst (pa_cons (pv 1) (pa_cons (pv 1) pa_nil))) pa_nil))))), ?_⟩
  refine ⟨rfl, hc, hT, fun p1 H1 s1 e1 => ⟨rfl, s1 _ _ hc, hT.ext s1, fun p2 H2 s2 e2 => ⟨small1000 (by simp), fun q1 n1 => ?_⟩⟩⟩
  have s3 : Same H2 (upd H2 q1 (.lst [.ref p1, .ref p2])) := same_upd n1
  have e3 : upd H2 q1 (.lst [.ref p1, .ref p2]) q1 = some (.lst [.ref p1, .ref p2]) := upd_same
  generalize upd H2 q1 (.lst [.ref p1, .ref p2]) = H3 at s3 e3
  refine ⟨_, rfl, _, rfl, small1000 (by simp), fun q2 n2 => ?_⟩
  have s4 : Same H3 (upd H3 q2 (.lst [.ref tp, .ref tp])) := same_upd n2
  have e4 : upd H3 q2 (.lst [.ref tp, .ref tp]) q2 = some (.lst [.ref tp, .ref tp]) := upd_same
  generalize upd H3 q2 (.lst [.ref tp, .ref tp]) = H4 at s4 e4
  have d1 : ∀ {p}, H4 p = some (.tup [.str "many", .int 2000]) → Dp K H4 (.ref p) (.tuple [.str "many", .int 2000]) := fun {p} e => .tup (.inl (.inl e)) (.cons (.str _) (.cons (.int _) .nil))
  have b1 := s4 _ _ (s3 _ _ (s2 _ _ e1))
  have b2 := s4 _ _ (s3 _ _ e2)
  have bt := s4 _ _ (s3 _ _ (s2 _ _ (s1 _ _ ht)))
  refine ⟨q1, q2, .list [.tuple [.str "many", .int 2000], .tuple [.str "many", .int 2000]], 2, _, rfl, .lst (.inl (.inl (s4 _ _ e3))) (.cons (d1 b1) (.cons (d1 b2) .nil)), .lst (.inl (.inl e4)) (.cons (d1 bt) (.cons (d1 bt) .nil)), OKd.list (n := 1) (B := 27) (fun z hz => ?_), by omega, by decide, hq _ (((s1.trans s2).trans s3).trans s4)⟩
  have o1 : OKd 1 27 (.tuple [.str "many", .int 2000]) := OKd.tuple (n := 0) (B := 10) (ds := [.str "many", .int 2000]) fun z hz => by
    rcases List.mem_cons.mp hz with rfl | hz
    · exact ok_many
    · rcases List.mem_cons.mp hz with rfl | hz
      · exact OKd.i2000
      · cases hz
  rcases List.mem_cons.mp hz with rfl | hz
  · exact o1
  · rcases List.mem_cons.mp hz with rfl | hz
    · exact o1
    · cases hz
end
section
variable {X : Cx} {C : Addr}
/-- _law_is(lambda: .., ("many", 2000)), where the lambda raises TooMany(2000) -/
theorem pe_is {T : List (Addr × Str)} {l : List Nat} {c P : Addr} {k : Nat} {params : Arguments} {body : Expr} {scope : Scope} {t : XK → TE} {p lpos pos a1 a2 a3 : Pos} {j1 j2 j3 : Nat} (G : Glb X.K X.mg) (F : ErrF X.K X.mg C) (c__law_error_word : C8.Cal X.prog X.w X.K X.mg X.base 1 "_law_error_word" (sp__law_error_word C) [])
    (c__law_like : CalG X.prog X.w X.K X.mg X.base 1 "_law_like" (sp__law_like X.K)) (D : DefAt X.K X.mg "_law_told" s__law_told) (Di : DefAt X.K X.mg "_law_is" s__law_is) (M : Many l) (hgd : X.A.guards = some []) (hg : Gl X "_law_is") (hs : X.stack = X.env :: X.outer) (hf : X.env.frame = some X.env.locals)
    (TB : TabB X.base X.mg c P) (hcode : X.env.code = .ref c) (hmT : (P, X.env.qual ++ "<lambda>") ∈ T) (hu : ∀ p ∈ T, p.1 = P → p.2 = X.env.qual ++ "<lambda>") (hr : Room (k + 3) X.A) (L : LamS X.env.scope scope) (hdef : defaultsOf params X.env = ([], []))
    (hbind : ∀ (q : Str) (cl : List (Str × Addr)) (pm cv ctv : Value), bindArgs (PySem.W.kla_fn "<lambda>" q params body scope cl pm cv ctv) ⟨[], []⟩ = pure [])
    (hbody : ∀ (A : Around) (outer : List Env) (s : Shared) (H : Hp) (E : XK) (f c' : Addr), Room k (A.deeper (lamEnv X scope s.heap.objs.size f c')) → PE (lamCx X A outer s H E scope f c') body (t E)) :
    PE X (.Call (.Name "_law_is" p) [.Lambda params body scope lpos, .Tuple [.Constant (.str "many") j1 a1, .Constant (.int 2000) j2 a2] j3 a3] [] pos)
      (fun σ H Q => Tabs T H ∧ (∀ E H1 Qn, tlMany T C l E H1 Qn → t E σ H1 Qn) ∧ ∀ H', ExtN H H' → Tabs T H' → Q (.bl true) H') := by
  obtain ⟨cdv, g, oc, od, kV, doc, pm, an, ct, osl, lk, hcd, mgf, kp⟩ := Di.code
  refine ⟨fun pins s σ H Q I h => ?_⟩
  obtain ⟨hT, htl, hq⟩ := h
  refine wpAny_Call_Name_kw (ld_glob I hg mgf ?_ (by decide))
  refine PySem.W.callWith_K (h₀ := X.base) I.ok.mod.kin kp ?_ (by rfl) (by rfl)
  have ha : PA X [.Tuple [.Constant (.str "many") j1 a1, .Constant (.int 2000) j2 a2] j3 a3] _ := pa_cons (pe_tup (pa_cons pe_str (pa_cons pe_int pa_nil))) pa_nil
  show wpAny _ _ (spliced ((false, eval (.Lambda params body scope lpos) X.env) :: backTo pos (starEach [.Tuple [.Constant (.str "many") j1 a1, .Constant (.int 2000) j2 a2] j3 a3] X.env))) _ _ s
  refine Calls.spliced_cons (lam_make2 I TB hcode hmT hu hT hdef (L.has I.ok) fun f c' pm' ctv H1 s' I1 eN T1 hff hfn hfr hco => ?_)
  have nL : f ≠ X.env.locals := fun z => hfr (by rw [hs, z]; exact List.mem_filterMap.mpr ⟨X.env, List.mem_cons_self, hf⟩)
  have nF : f ∉ X.fs := fun hm => hfr (by
    rw [hs]
    obtain ⟨e, he, q⟩ := List.mem_filterMap.mp hm
    exact List.mem_filterMap.mpr ⟨e, List.mem_cons_of_mem _ he, q⟩)
  have I1p : Inv X ((f, PySem.W.kla_obj "<lambda>" (X.env.qual ++ "<lambda>") params body scope (cloFrom X.env.cells scope.names []) pm' c' ctv) :: pins) σ H1 s' :=
    ⟨I1.ok, I1.os, I1.bare, I1.base, I1.loc, I1.cell, I1.free, I1.freeC, fun p hp => by
      rcases List.mem_append.mp hp with z | z
      · exact I1.pin p (List.mem_append_left _ z)
      · rcases List.mem_cons.mp z with rfl | z
        · exact ⟨hff, hfn, nL, nF, fun v z => by cases z⟩
        · exact I1.pin p (List.mem_append_right _ z), I1.hok, I1.len⟩
  refine thn (ha.run pos _ s' σ H1 (fun vs H2 => ∃ tp, vs = [.ref tp] ∧ Same H1 H2 ∧ H2 tp = some (.tup [.str "many", .int 2000])) I1p ⟨small1000 (by simp), fun tp ntp => ⟨tp, rfl, same_upd ntp, upd_same⟩⟩) ?_
  rintro us s2 ⟨vs, H2, I2, r, tp, rfl, s12, et⟩
  refine ⟨I2.kIn, ?_⟩
  obtain ⟨u, rfl, ru⟩ : ∃ u, us = [u] ∧ RelV (.ref tp) u := by
    cases r with
    | cons ra rb =>
      cases rb with
      | nil => exact ⟨_, rfl, ra⟩
  obtain rfl : u = Value.ref tp := ru
  obtain ⟨hf2, hfn2, _, _, _⟩ := I2.pin _ (List.mem_append_right _ (List.mem_cons_self ..))
  have I2u : Inv X pins σ H2 s2 := ⟨I2.ok, I2.os, I2.bare, I2.base, I2.loc, I2.cell, I2.free, I2.freeC, fun p hp => I2.pin p (by
    rcases List.mem_append.mp hp with z | z
    · exact List.mem_append_left _ z
    · exact List.mem_append_right _ (List.mem_cons_of_mem _ z)), I2.hok, I2.len⟩
  have hc2 : H2 c' = some (CodeO c' (X.env.qual ++ "<lambda>")) := s12 _ _ hco
  have of1 : ∀ {H3 : Hp} {h3 : Heap}, Un (frs X.stack) [] H2 H3 s2.heap h3 → h3.get? f = some (PySem.W.kla_obj "<lambda>" (X.env.qual ++ "<lambda>") params body scope (cloFrom X.env.cells scope.names []) pm' c' ctv) := fun un => un.keep f _ hf2 hfn2 hfr (by simp)
  have LO : LamOk X.prog X.w X.K X.mg X.base (frs X.stack) H2 s2.heap k f c' (X.env.qual ++ "<lambda>") (fun E H' Q' => t E σ H' Q') := {
    shp := fun H3 h3 un => ⟨_, _, _, _, of1 un⟩
    run := fun A outer s1 HZ Q E hr1 e0 un hc ht => by
      obtain ⟨⟨oc, vs, tk, hoc, hdc, hvc⟩, _, _⟩ := e0.hok c' _ hc
      refine PySem.W.kla_callFunE hr1.depth (of1 un) rfl L.co L.gen rfl ⟨c', oc, vs, tk, rfl, hoc, hdc, hvc⟩ ?_
      rw [hbind]
      have lim : s1.heap.NoLimit := e0.mod.nolimit.keeps fun b o e => (e0.bs b o e).1
      refine wpAny_pure (wpAny_newFunctionEnv (fun y hy => (L.own y hy).2) (fun y hy => absurd hy (by simp)) (fun h₁ hns hsb => ⟨lim.fresh _ hsb, ?_⟩) L.kind)
      show codeAny _ _ (.expr body (lamEnv X scope s1.heap.objs.size f c')) _ _
      have kp : ∀ b o, s1.heap.get? b = some o → h₁.get? b = some o := fun b o e => hsb.extBut b o (Nat.ne_of_lt (Heap.lt_size e)) (Heap.get?_push_of_some _ e)
      have J : Inv (lamCx X A outer s1 HZ E scope f c') [] σ HZ { s1 with heap := h₁, toks := s1.toks + ([] : List (Str × Value)).length } := lam_start2 I2u L e0 hr1.hd un hns kp
      refine PySem.W.kla_codeExpr (wpAny_mono ((hbody _ _ s1 HZ E f c' (hr1.deeper _)).run [] _ _ HZ Q J ht) (fun v s' hq => ?_) fun e s' hq => hq)
      obtain ⟨w', H', J', rv, q⟩ := hq
      exact ⟨w', H', J'.os, J'.bare, J'.base, J'.hok, rv, q⟩ }
  have rc : codeAny (model X.prog X.w) X.A (.call (.ref g) ⟨[.ref f, .ref tp], []⟩) (CR C8.CX0 X.stack X.prog X.w H2 s2 Q C8.E0) s2 := by
    refine run_ofS (N := N__law_is) (ps := ["_law_call", "_law_due"]) (us := [.ref f, .ref tp]) (vs := [.ref f, .ref tp]) lk hcd sc__law_is hr I2u.env0 (.of_eq rfl) (.cons rfl (.cons rfl .nil)) rfl fun hr' => ?_
    obtain ⟨t, ht, hq⟩ := is_body (l := l) (T := T) (P := X.prog) (w := X.w) (base := X.base) (A := X.A) (outer := X.stack) (s := s2) (H := H2) (Q := Q) (gi := g) (cdi := cdv) (tp := tp) G F c__law_error_word c__law_like D { shp := LO.shp, run := fun A outer s1 HZ Q E a1 a2 a3 a4 a5 => LO.run A outer s1 HZ Q E a1 a2 a3 a4 (htl E HZ Q a5) } M hr' (by exact hgd) hc2 (T1.ext s12) et
      (fun H' s' => hq H' (eN.trans (.of (s12.trans s'))) ((T1.ext s12).ext s'))
    exact ⟨t, ht.nox, hq⟩
  refine wpAny_call (codeAny_mono rc fun r s3 hq => ?_)
  cases r with
  | error e => exact (show False from hq).elim
  | ok fl =>
    cases fl with
    | ret u => exact I2u.after hq
    | next => exact False.elim hq
    | brk => exact False.elim hq
    | cont => exact False.elim hq
end
end TW
set_option Elab.async false
set_option linter.all false
set_option maxRecDepth 100000
set_option maxHeartbeats 8000000
namespace TW
open PySem PySem.Spec PyProof.Rows L2 LamX
/-- n times a text -/
def rep (l : List Nat) (n : Nat) : List Nat := (List.replicate n l).flatten
def rMulS : R2 := fun x y H Q => ∃ (l : List Nat) (n : Nat), x = .str (tx l) ∧ y = .int (n : Nat) ∧ 1 ≤ n ∧ l ≠ [] ∧ l.length ≤ 1000 ∧ n ≤ 1000 ∧ Q (.str (tx (rep l n))) H
theorem foldA : ∀ (n : Nat) (l acc : List Nat), List.foldl (fun x y : Array Nat => x ++ y) acc.toArray (List.replicate n l.toArray) = (acc ++ rep l n).toArray
  | 0, l, acc => by simp [rep]
  | n + 1, l, acc => by
    have e : acc.toArray ++ l.toArray = (acc ++ l).toArray := by simp
    rw [List.replicate_succ, List.foldl_cons, e, foldA n l (acc ++ l)]
    simp [rep, List.replicate_succ]
theorem rep_len (l : List Nat) : ∀ n, (rep l n).length = n * l.length
  | 0 => by simp [rep]
  | n + 1 => by
    have := rep_len l n
    unfold rep at this ⊢
    rw [List.replicate_succ, List.flatten_cons, List.length_append, this, Nat.succ_mul]
    omega
theorem op_mul_str {X : Cx} : OpR X (binaryOp .Mult) rMulS := by
  intro pins s σ H x y v u Q I rx ry h
  obtain ⟨l, n, rfl, rfl, h1, hne, hl, hn, q⟩ := h
  obtain ⟨t, rfl⟩ := rx
  obtain ⟨t', rfl⟩ := ry
  have hlen : (tx l).length = l.length := by show l.toArray.size = _; simp
  have hpos : 0 < l.length := List.length_pos_iff.mpr hne
  have hmul : l.length * n ≤ 1000000 := Nat.le_trans (Nat.mul_le_mul hl hn) (by decide)
  refine P.mul_str (by
      rw [decide_eq_false (by omega), decide_eq_false (by omega)]
      rfl) (fun _ _ => ?_) (fun _ _ => ?_) ?_
  · rw [hlen]
    have : (1000 : Int) ≤ (2 ^ 63 - 1) / (n : Int) := Int.le_ediv_of_mul_le (by omega) (by
      have : (1000 : Int) * n ≤ 1000 * 1000 := by omega
      omega)
    omega
  · rw [hlen]
    rw [Int.toNat_natCast]
    exact PyProof.Rows.short24 (by omega)
  · rw [if_neg (by omega)]
    by_cases h2 : n = 1
    · subst h2
      rw [if_pos (by rfl)]
      refine ⟨.str (tx l), _, I, ⟨t, rfl⟩, ?_⟩
      have : rep l 1 = l := by simp [rep]
      rw [this] at q
      exact q
    · rw [if_neg (by
        intro z
        rcases Bool.or_eq_true_iff.mp z with z | z
        · exact h2 (by have := beq_iff_eq.mp z; omega)
        · have := beq_iff_eq.mp z
          omega)]
      have e : (⟨List.foldl (fun x1 x2 => x1 ++ x2) #[] (List.replicate ((n : Nat) : Int).toNat (tx l).cps)⟩ : Str) = tx (rep l n) := by
        rw [Int.toNat_natCast]
        show (⟨_⟩ : Str) = ⟨(rep l n).toArray⟩
        have := foldA n l []
        rw [List.nil_append] at this
        rw [← this]
      rw [e]
      refine ⟨?_, .str (tx (rep l n)), H, I.tok _, ⟨_, rfl⟩, q⟩
      show (rep l n).toArray.size ≤ _
      rw [List.size_toArray, rep_len, sizeLine_eq, Nat.mul_comm]
      omega
end TW
set_option linter.all false
set_option maxRecDepth 100000
namespace TW
/-! ### the great texts -/
def pows : List T := (List.range 30).map fun t => rep [97, 98] (t + 1)
theorem closed_R {S : List T} (h : ∀ y ∈ S, ∀ x ∈ und y, x ∈ S) {n : Nat} {e w : T} (r : St n e w) : w ∈ S → e ∈ S := by
  induction r with
  | refl w => exact id
  | tail _ c ih => exact fun hw => ih (h _ hw _ (mem_und.mpr c))
def alt : Nat → Nat → T
  | 0, _ => []
  | n + 1, c => c :: alt n (195 - c)
def par : Nat → Nat → Nat
  | 0, c => c
  | n + 1, c => par n (195 - c)
theorem par_ok : ∀ (n c : Nat), c = 97 ∨ c = 98 → par n c = 97 ∨ par n c = 98
  | 0, _, h => h
  | n + 1, c, h => par_ok n (195 - c) (by omega)
theorem alt_len : ∀ (n c : Nat), (alt n c).length = n
  | 0, _ => rfl
  | n + 1, c => by rw [alt, List.length_cons, alt_len n]
theorem alt_app : ∀ (p q c : Nat), alt p c ++ alt q (par p c) = alt (p + q) c
  | 0, q, c => by rw [Nat.zero_add]; rfl
  | p + 1, q, c => by
    rw [show p + 1 + q = (p + q) + 1 by omega]
    show c :: (alt p (195 - c) ++ alt q (par p (195 - c))) = c :: alt (p + q) (195 - c)
    rw [alt_app p q]
theorem alt_split : ∀ (l r : T) (n c : Nat), l ++ r = alt n c → ∃ m, n = l.length + m ∧ l = alt l.length c ∧ r = alt m (par l.length c)
  | [], r, n, c, h => ⟨n, by simp, rfl, h⟩
  | x :: l, r, 0, c, h => by simp [alt] at h
  | x :: l, r, n + 1, c, h => by
    obtain ⟨h1, h2⟩ := List.cons.inj h
    obtain ⟨m, e1, e2, e3⟩ := alt_split l r n (195 - c) h2
    refine ⟨m, by rw [List.length_cons]; omega, ?_, e3⟩
    rw [List.length_cons, alt, ← e2, h1]
theorem alt_cp {e : T} {n c : Nat} (hc : c = 97 ∨ c = 98) (h : Cp e (alt n c)) : ∃ m, n = m + 2 ∧ e = alt m c ∧ e ≠ [] := by
  obtain ⟨l, x, r, hx, rfl, hw⟩ := h
  rw [List.append_assoc, List.append_assoc] at hw
  obtain ⟨m, e1, e2, e3⟩ := alt_split _ _ _ _ hw.symm
  have hp := par_ok l.length c hc
  have e5 : ∀ q, l ++ alt q (par l.length c) = alt (l.length + q) c := fun q => by
    have := alt_app l.length q c
    rw [← e2] at this
    exact this
  rcases hx with hx | hx
  · match x, hx with
    | [y], _ =>
      exfalso
      match m, e3 with
      | 0, e3 => simp [alt] at e3
      | 1, e3 => simp [alt] at e3
      | m + 2, e3 =>
        have a1 := (List.cons.inj e3).1
        have a2 := (List.cons.inj (List.cons.inj e3).2).1
        omega
  · match x, hx with
    | [y, z], _ =>
      match m, e1, e3 with
      | 0, e1, e3 => simp [alt] at e3
      | 1, e1, e3 => simp [alt] at e3
      | m + 2, e1, e3 =>
        have a3 := (List.cons.inj (List.cons.inj e3).2).2
        rw [show 195 - (195 - par l.length c) = par l.length c by omega] at a3
        refine ⟨l.length + m, by omega, ?_, by simp⟩
        rw [List.append_assoc]
        show l ++ ([] ++ [y, z] ++ r) = _
        rw [show [] ++ [y, z] ++ r = alt m (par l.length c) from a3]
        exact e5 m
theorem rep_alt : ∀ t, rep [97, 98] t = alt (2 * t) 97
  | 0 => rfl
  | t + 1 => by
    have ih := rep_alt t
    rw [show 2 * (t + 1) = 2 * t + 1 + 1 by omega]
    show rep [97, 98] (t + 1) = 97 :: 98 :: alt (2 * t) 97
    rw [← ih]
    unfold rep
    rw [List.replicate_succ, List.flatten_cons]
    rfl
def InP (x : T) : Prop := ∃ t, 1 ≤ t ∧ t ≤ 30 ∧ x = rep [97, 98] t
theorem mem_pows {x : T} : x ∈ pows ↔ InP x := by
  unfold pows
  rw [List.mem_map]
  constructor
  · rintro ⟨t, ht, rfl⟩
    have := List.mem_range.mp ht
    exact ⟨t + 1, by omega, by omega, rfl⟩
  · rintro ⟨t, h1, h2, rfl⟩
    exact ⟨t - 1, List.mem_range.mpr (by omega), by rw [Nat.sub_add_cancel h1]⟩
theorem InP.cp {e w : T} (h : InP w) (c : Cp e w) : InP e := by
  obtain ⟨t, h1, h2, rfl⟩ := h
  rw [rep_alt] at c
  obtain ⟨m, e1, rfl, hne⟩ := alt_cp (.inl rfl) c
  have hm : m ≠ 0 := fun z => hne (by rw [z]; rfl)
  refine ⟨t - 1, by omega, by omega, ?_⟩
  rw [rep_alt, show 2 * (t - 1) = m by omega]
theorem R_pow : ∀ (d t : Nat), 1 ≤ t → R (rep [97, 98] t) (rep [97, 98] (t + d))
  | 0, t, _ => .refl _
  | d + 1, t, h => by
    refine (R_pow d t h).tail ⟨[], [97, 98], rep [97, 98] (t + d - 1), .inr rfl, ?_, ?_⟩
    · rw [show t + d = (t + d - 1) + 1 by omega]; simp [rep, List.replicate_succ]
    · rw [show t + (d + 1) = (t + d - 1) + 1 + 1 by omega]; simp [rep, List.replicate_succ]
theorem pows_iff (x : T) : R x (rep [97, 98] 30) ↔ x ∈ pows := by
  rw [mem_pows]
  constructor
  · rintro ⟨n, h⟩
    have : ∀ {n : Nat} {e w : T}, St n e w → InP w → InP e := by
      intro n e w r
      induction r with
      | refl w => exact id
      | tail _ c ih => exact fun hw => ih (hw.cp c)
    exact this h ⟨30, by decide, by decide, rfl⟩
  · rintro ⟨t, h1, h2, rfl⟩
    have := R_pow (30 - t) t h1
    rw [show t + (30 - t) = 30 by omega] at this
    exact this
theorem pows_nodup : pows.Nodup := by
  refine List.pairwise_map.mpr (List.Pairwise.imp_of_mem ?_ List.nodup_range)
  intro a b _ _ hne h
  have := congrArg List.length h
  rw [rep_len, rep_len] at this
  simp at this
  exact hne (by omega)
theorem pows_sorted : pows.Pairwise fun a b => leT a b = true := by decide +kernel
theorem pows_len : pows.length = 30 := rfl
theorem nil_iff (x : T) : R x [] ↔ x ∈ [([] : T)] := by
  constructor
  · rintro ⟨n, h⟩
    exact closed_R (S := [[]]) (by decide +kernel) h (by decide +kernel)
  · intro h
    rw [List.mem_singleton.mp h]
    exact .refl _
/-! ### more than 2000 elders -/
def fullT : Nat → Nat → T
  | 0, _ => []
  | k + 1, c => c :: c :: fullT k (195 - c)
def enc : Nat → Nat → Nat → T
  | 0, _, c => fullT 19 c
  | k + 1, n, c => (if n % 2 = 0 then [c] else [c, c]) ++ enc k (n / 2) (195 - c)
theorem enc_head : ∀ (k n c : Nat), ∃ t, enc k n c = c :: t
  | 0, n, c => ⟨_, rfl⟩
  | k + 1, n, c => by
    unfold enc
    split
    · exact ⟨_, rfl⟩
    · exact ⟨_, rfl⟩
theorem enc_inj : ∀ (k n m c : Nat), c = 97 ∨ c = 98 → n < 2 ^ k → m < 2 ^ k → enc k n c = enc k m c → n = m
  | 0, n, m, c, _, hn, hm, _ => by
    simp at hn hm
    omega
  | k + 1, n, m, c, hc, hn, hm, h => by
    have hc' : 195 - c = 97 ∨ 195 - c = 98 := by omega
    have hne : 195 - c ≠ c := by omega
    have hn' : n / 2 < 2 ^ k := by rw [Nat.pow_succ] at hn; omega
    have hm' : m / 2 < 2 ^ k := by rw [Nat.pow_succ] at hm; omega
    have ih := enc_inj k (n / 2) (m / 2) (195 - c) hc' hn' hm'
    obtain ⟨t1, e1⟩ := enc_head k (n / 2) (195 - c)
    obtain ⟨t2, e2⟩ := enc_head k (m / 2) (195 - c)
    unfold enc at h
    by_cases a : n % 2 = 0
    · by_cases b : m % 2 = 0
      · rw [if_pos a, if_pos b] at h
        have := ih (List.cons.inj h).2
        omega
      · rw [if_pos a, if_neg b, e1] at h
        have := (List.cons.inj (List.cons.inj h).2).1
        exact absurd this hne
    · by_cases b : m % 2 = 0
      · rw [if_neg a, if_pos b, e2] at h
        have := (List.cons.inj (List.cons.inj h).2).1
        exact absurd this.symm hne
      · rw [if_neg a, if_neg b] at h
        have := ih (List.cons.inj (List.cons.inj h).2).2
        omega
theorem enc_R : ∀ (k n c : Nat), R (enc k n c) (fullT (k + 19) c)
  | 0, n, c => by rw [Nat.zero_add]; exact .refl _
  | k + 1, n, c => by
    have ih := enc_R k (n / 2) (195 - c)
    have e : fullT (k + 1 + 19) c = [c, c] ++ fullT (k + 19) (195 - c) := by
      rw [show k + 1 + 19 = (k + 19) + 1 by omega]
      rfl
    rw [e]
    unfold enc
    split
    · refine (ih.pre [c]).tail ?_
      exact ⟨[], [c], fullT (k + 19) (195 - c), .inl rfl, rfl, rfl⟩
    · exact ih.pre [c, c]
theorem many_elders : ∃ L : List T, L.Nodup ∧ (∀ x ∈ L, R x (rep [97, 97, 98, 98] 15)) ∧ 2000 < L.length := by
  refine ⟨(List.range 2048).map fun n => enc 11 n 97, ?_, ?_, ?_⟩
  · refine List.pairwise_map.mpr (List.Pairwise.imp_of_mem ?_ List.nodup_range)
    intro a b ha hb hne h
    exact hne (enc_inj 11 a b 97 (.inl rfl) (List.mem_range.mp ha) (List.mem_range.mp hb) h)
  · intro x hx
    obtain ⟨n, _, rfl⟩ := List.mem_map.mp hx
    have e : rep [97, 97, 98, 98] 15 = fullT (11 + 19) 97 := by decide +kernel
    rw [e]
    exact enc_R 11 n 97
  · rw [List.length_map, List.length_range]
    decide
/-! ### three letters -/
def abc (i j k : Nat) : T := List.replicate i 97 ++ (List.replicate j 98 ++ List.replicate k 99)
theorem abc_of : ∀ (e : T), e.Pairwise (· ≤ ·) → (∀ x ∈ e, x = 97 ∨ x = 98 ∨ x = 99) → e = abc (e.count 97) (e.count 98) (e.count 99)
  | [], _, _ => rfl
  | x :: e, h, hm => by
    obtain ⟨h1, h2⟩ := List.pairwise_cons.mp h
    have ih := abc_of e h2 fun y hy => hm y (List.mem_cons_of_mem _ hy)
    have z : ∀ c, c < x → e.count c = 0 := fun c hc => List.count_eq_zero.mpr fun hy => absurd (h1 c hy) (by omega)
    rcases hm x (List.mem_cons_self ..) with rfl | rfl | rfl
    · rw [List.count_cons_self, List.count_cons_of_ne (by decide), List.count_cons_of_ne (by decide)]
      conv => lhs; rw [ih]
      rfl
    · rw [List.count_cons_of_ne (by decide), List.count_cons_self, List.count_cons_of_ne (by decide), z 97 (by decide)]
      conv => lhs; rw [ih, z 97 (by decide)]
      rfl
    · rw [List.count_cons_of_ne (by decide), List.count_cons_of_ne (by decide), List.count_cons_self, z 97 (by decide), z 98 (by decide)]
      conv => lhs; rw [ih, z 97 (by decide), z 98 (by decide)]
      rfl
theorem abc_sorted (i j k : Nat) : (abc i j k).Pairwise (· ≤ ·) := by
  unfold abc
  refine List.pairwise_append.mpr ⟨List.pairwise_replicate.mpr (.inr (Nat.le_refl _)), List.pairwise_append.mpr ⟨List.pairwise_replicate.mpr (.inr (Nat.le_refl _)), List.pairwise_replicate.mpr (.inr (Nat.le_refl _)), fun a ha b hb => ?_⟩, fun a ha b hb => ?_⟩
  · rw [List.eq_of_mem_replicate ha, List.eq_of_mem_replicate hb]; decide
  · rw [List.eq_of_mem_replicate ha]
    rcases List.mem_append.mp hb with h | h
    · rw [List.eq_of_mem_replicate h]; decide
    · rw [List.eq_of_mem_replicate h]; decide
theorem abc_mem {i j k x : Nat} (h : x ∈ abc i j k) : x = 97 ∨ x = 98 ∨ x = 99 := by
  unfold abc at h
  rcases List.mem_append.mp h with h | h
  · exact .inl (List.eq_of_mem_replicate h)
  · rcases List.mem_append.mp h with h | h
    · exact .inr (.inl (List.eq_of_mem_replicate h))
    · exact .inr (.inr (List.eq_of_mem_replicate h))
theorem abc_counts (i j k : Nat) : (abc i j k).count 97 = i ∧ (abc i j k).count 98 = j ∧ (abc i j k).count 99 = k := by
  unfold abc
  simp [List.count_append, List.count_replicate]
def InABC (x : T) : Prop := ∃ i j k, 1 ≤ i ∧ i ≤ 12 ∧ 1 ≤ j ∧ j ≤ 12 ∧ 1 ≤ k ∧ k ≤ 12 ∧ x = abc i j k
theorem InABC.cp {e w : T} (h : InABC w) (c : Cp e w) : InABC e := by
  obtain ⟨i, j, k, i1, i2, j1, j2, k1, k2, rfl⟩ := h
  have sub : e.Sublist (abc i j k) := (Like.of_cp c).1
  obtain ⟨c1, c2, c3⟩ := abc_counts i j k
  have back : ∀ x, x ∈ abc i j k → x ∈ e := by
    obtain ⟨l, x, r, _, he, hw⟩ := c
    intro y hy
    rw [hw] at hy
    rw [he]
    simp at hy ⊢
    rcases hy with h | h | h
    · exact .inl h
    · exact .inr (.inl h)
    · exact .inr (.inr h)
  refine ⟨e.count 97, e.count 98, e.count 99, ?_, ?_, ?_, ?_, ?_, ?_, abc_of e ((abc_sorted i j k).sublist sub) fun x hx => abc_mem (sub.subset hx)⟩
  · exact List.count_pos_iff.mpr (back _ (List.count_pos_iff.mp (by omega)))
  · have := sub.count_le 97; omega
  · exact List.count_pos_iff.mpr (back _ (List.count_pos_iff.mp (by omega)))
  · have := sub.count_le 98; omega
  · exact List.count_pos_iff.mpr (back _ (List.count_pos_iff.mp (by omega)))
  · have := sub.count_le 99; omega
theorem R_rep (c : Nat) : ∀ (d i : Nat), 1 ≤ i → R (List.replicate i c) (List.replicate (i + d) c)
  | 0, i, _ => .refl _
  | d + 1, i, h => by
    refine (R_rep c d i h).tail ⟨[], [c], List.replicate (i + d - 1) c, .inl rfl, ?_, ?_⟩
    · rw [show i + d = (i + d - 1) + 1 by omega, List.replicate_succ]; rfl
    · rw [show i + (d + 1) = (i + d - 1) + 1 + 1 by omega, List.replicate_succ, List.replicate_succ]; rfl
theorem R.post {e w : T} (h : R e w) (p : T) : R (e ++ p) (w ++ p) := h.elim fun n h => ⟨n, h.post p⟩
theorem R_abc {i j k : Nat} (i1 : 1 ≤ i) (i2 : i ≤ 12) (j1 : 1 ≤ j) (j2 : j ≤ 12) (k1 : 1 ≤ k) (k2 : k ≤ 12) : R (abc i j k) (abc 12 12 12) := by
  have a := R_rep 97 (12 - i) i i1
  have b := R_rep 98 (12 - j) j j1
  have c := R_rep 99 (12 - k) k k1
  rw [show i + (12 - i) = 12 by omega] at a
  rw [show j + (12 - j) = 12 by omega] at b
  rw [show k + (12 - k) = 12 by omega] at c
  unfold abc
  exact (a.post _).trans (((b.post _).trans (c.pre _)).pre _)
theorem abc_iff (x : T) : R x (abc 12 12 12) ↔ InABC x := by
  constructor
  · rintro ⟨n, h⟩
    have : ∀ {n : Nat} {e w : T}, St n e w → InABC w → InABC e := by
      intro n e w r
      induction r with
      | refl w => exact id
      | tail _ c ih => exact fun hw => ih (hw.cp c)
    exact this h ⟨12, 12, 12, by decide, by decide, by decide, by decide, by decide, by decide, rfl⟩
  · rintro ⟨i, j, k, i1, i2, j1, j2, k1, k2, rfl⟩
    exact R_abc i1 i2 j1 j2 k1 k2
def abcL : List T := (List.range 1728).map fun n => abc (n / 144 + 1) (n / 12 % 12 + 1) (n % 12 + 1)
theorem abcL_nodup : abcL.Nodup := by
  refine List.pairwise_map.mpr (List.Pairwise.imp_of_mem ?_ List.nodup_range)
  intro a b ha hb hne h
  obtain ⟨a1, a2, a3⟩ := abc_counts (a / 144 + 1) (a / 12 % 12 + 1) (a % 12 + 1)
  obtain ⟨b1, b2, b3⟩ := abc_counts (b / 144 + 1) (b / 12 % 12 + 1) (b % 12 + 1)
  rw [h] at a1 a2 a3
  have ha := List.mem_range.mp ha
  have hb := List.mem_range.mp hb
  omega
theorem mem_abcL {x : T} : x ∈ abcL ↔ InABC x := by
  unfold abcL
  rw [List.mem_map]
  constructor
  · rintro ⟨n, hn, rfl⟩
    have hn := List.mem_range.mp hn
    exact ⟨_, _, _, by omega, by omega, by omega, by omega, by omega, by omega, rfl⟩
  · rintro ⟨i, j, k, i1, i2, j1, j2, k1, k2, rfl⟩
    refine ⟨(i - 1) * 144 + (j - 1) * 12 + (k - 1), List.mem_range.mpr (by omega), ?_⟩
    rw [show ((i - 1) * 144 + (j - 1) * 12 + (k - 1)) / 144 + 1 = i by omega, show ((i - 1) * 144 + (j - 1) * 12 + (k - 1)) / 12 % 12 + 1 = j by omega, show ((i - 1) * 144 + (j - 1) * 12 + (k - 1)) % 12 + 1 = k by omega]
theorem abc_le (L : List T) (nd : L.Nodup) (h : ∀ x ∈ L, R x (abc 12 12 12)) : L.length ≤ 1728 := by
  have := List.Nodup.length_le_of_subset nd (l₂ := abcL) fun x hx => mem_abcL.mpr ((abc_iff x).mp (h x hx))
  simpa [abcL] using this
theorem abc_all (L : List T) (nd : L.Nodup) (h : ∀ x, x ∈ L ↔ R x (abc 12 12 12)) : L.length = 1728 := by
  have h1 := abc_le L nd fun x hx => (h x).mp hx
  have h2 := List.Nodup.length_le_of_subset abcL_nodup (l₂ := L) fun x hx => (h x).mpr ((abc_iff x).mpr (mem_abcL.mp hx))
  have h3 : abcL.length = 1728 := by simp [abcL]
  omega
end TW
set_option Elab.async false
set_option linter.all false
set_option maxRecDepth 100000
set_option maxHeartbeats 8000000
namespace TW
open PySem PySem.Spec PyProof.Rows L2 LamX
abbrev s__law_great_right : Stmt := topS 56
def N__law_great_right : List Str := ["_law_ones", "_law_pairs", "_law_got", "_law_due", "_law_squares", "_law_turn"]
theorem sc__law_great_right : FnScope N__law_great_right [] (C8.fnScope s__law_great_right) := C8.fnScope_by (by decide +kernel)
def sp__law_great_right (T : List (Addr × Str)) : Sp := fun vs H Q _ => vs = [] ∧ Tabs T H ∧ ∀ H', ExtN H H' → Tabs T H' → Q (.bl true) H'
abbrev ones : List Nat := rep [97] 60
abbrev pairs : List Nat := rep [97, 98] 30
abbrev squares : List Nat := rep [97, 97, 98, 98] 15
theorem okB {l : List Nat} (h : (decide (l.length ≤ 60) && l.all fun c => abcdef.contains c) = true) : Ok l := by
  obtain ⟨h1, h2⟩ := Bool.and_eq_true_iff.mp h
  exact ⟨of_decide_eq_true h1, fun c hc => List.contains_iff_mem.mp (List.all_eq_true.mp h2 c hc)⟩
theorem ok_ones : Ok ones := okB (by decide +kernel)
theorem ok_pairs : Ok pairs := okB (by decide +kernel)
theorem ok_squares : Ok squares := okB (by decide +kernel)
theorem v1 : V.str (tx (root ones)) = .str "a" := by rw [show root ones = [97] by decide +kernel]; rfl
theorem v2 : manyV [97] ones = .int 30 := by decide +kernel
theorem v3 : manyV [97, 97] ones = .int 29 := by decide +kernel
theorem v4 : manyV [97, 97, 97] ones = .int 29 := by decide +kernel
theorem v5 : V.str (tx (root pairs)) = .str "ab" := by rw [show root pairs = [97, 98] by decide +kernel]; rfl
theorem v6 : manyV [97, 98] pairs = .int 29 := by decide +kernel
theorem v7 : manyV [98, 97] pairs = .non := by decide +kernel
theorem v8 : V.bl (growsB [97, 97, 98] pairs) = .bl false := by rw [show growsB [97, 97, 98] pairs = false by decide +kernel]
theorem v9 : V.str (tx (root squares)) = .str "ab" := by rw [show root squares = [97, 98] by decide +kernel]; rfl
theorem v10 : manyV [97, 98] squares = .int 44 := by decide +kernel
theorem v11 : manyV [97, 97, 98, 98] squares = .int 42 := by decide +kernel
theorem v12 : V.str (tx (root [])) = .str "" := by rw [show root [] = [] by decide +kernel]; rfl
theorem v13 : V.bl (growsB [] []) = .bl true := rfl
theorem v14 : manyV [] [] = .int 0 := by decide +kernel
theorem v15 : V.bl (growsB [] [97]) = .bl false := rfl
theorem v16 : V.bl (growsB [97] []) = .bl false := rfl
theorem v17 : V.bl (growsB [97] [97, 98, 97]) = .bl false := by rw [show growsB [97] [97, 98, 97] = false by decide +kernel]
theorem v18 : manyV [97, 98, 99] [97, 98, 99, 98, 99, 98, 99] = .int 2 := by decide +kernel
theorem v19 : manyV [97, 98, 97] [97, 98, 97, 98, 97, 98, 97] = .int 2 := by decide +kernel
theorem v20 : manyV [97, 98] [97, 97, 98, 97, 97, 98] = .int 3 := by decide +kernel
theorem v21 : manyV [97, 98, 98, 98, 97] [97, 98, 98, 98, 98, 97, 98, 98, 98, 97] = .int 3 := by decide +kernel
theorem v22 : manyV [97, 98, 98, 98, 97] [97, 98, 98, 98, 97, 98, 98, 98, 98, 97] = .int 3 := by decide +kernel
def dueD : PyData := .list [.str "a", .int 30, .int 29, .int 29, .str "ab", .int 29, .none, .bool false, .str "ab", .int 44, .int 42]
theorem okd_s1 : OKd 0 30 (.str "a") := ⟨by decide +kernel, rfl, by simp [PyData.depth], by decide +kernel⟩
theorem okd_s2 : OKd 0 30 (.str "ab") := ⟨by decide +kernel, rfl, by simp [PyData.depth], by decide +kernel⟩
theorem okd_s0 : OKd 0 30 (.str "") := ⟨by decide +kernel, rfl, by simp [PyData.depth], by decide +kernel⟩
theorem okd_n (n : Nat) (h : n < 130) : OKd 0 30 (.int (n : Nat)) := (OKd.nat h).mono (Nat.le_refl _) (by decide)
theorem dueD_ok : OKd 1 1000 dueD := by
  refine (OKd.list (n := 0) (B := 30) fun z hz => ?_).mono (Nat.le_refl _) (by decide)
  simp only [List.mem_cons, List.not_mem_nil, or_false] at hz
  rcases hz with rfl | rfl | rfl | rfl | rfl | rfl | rfl | rfl | rfl | rfl | rfl
  · exact okd_s1
  · exact okd_n 30 (by decide)
  · exact okd_n 29 (by decide)
  · exact okd_n 29 (by decide)
  · exact okd_s2
  · exact okd_n 29 (by decide)
  · exact OKd.non.mono (Nat.le_refl _) (by decide)
  · exact (OKd.bl _).mono (Nat.le_refl _) (by decide)
  · exact okd_s2
  · exact okd_n 44 (by decide)
  · exact okd_n 42 (by decide)
theorem pows_le (L : List (List Nat)) (nd : L.Nodup) (h : ∀ x ∈ L, TW.R x pairs) : L.length ≤ 2000 := by
  have := List.Nodup.length_le_of_subset nd (l₂ := pows) fun x hx => (pows_iff x).mp (h x hx)
  rw [pows_len] at this
  omega
theorem pows_at {i : Nat} (h : i < 30) : pows[i]? = some (rep [97, 98] (i + 1)) := by
  unfold pows
  rw [List.getElem?_map, List.getElem?_range h]
  rfl
theorem pows_ok : ∀ x ∈ pows, Lo x ∧ x.length ≤ 60 := fun x hx => by
  have := ok_pairs.of_R ((pows_iff x).mpr hx)
  exact ⟨.of_ok this, this.1⟩
theorem nils_nodup : ([[]] : List (List Nat)).Nodup := by decide
theorem nils_sorted : ([[]] : List (List Nat)).Pairwise fun a b => leT a b = true := List.pairwise_singleton ..
theorem nils_le (L : List (List Nat)) (nd : L.Nodup) (h : ∀ x ∈ L, TW.R x []) : L.length ≤ 2000 := by
  have := List.Nodup.length_le_of_subset nd (l₂ := [[]]) fun x hx => (nil_iff x).mp (h x hx)
  simp at this
  omega
def nilD : PyData := .list [.tuple [.str ""], .str "", .bool true, .int 0, .bool false, .bool false, .bool false]
theorem nilD_ok : OKd 2 1000 nilD := by
  refine (OKd.list (n := 1) (B := 35) fun z hz => ?_).mono (Nat.le_refl _) (by decide)
  simp only [List.mem_cons, List.not_mem_nil, or_false] at hz
  have ob : ∀ b, OKd 1 35 (.bool b) := fun b => (OKd.bl b).mono (by decide) (by decide)
  rcases hz with rfl | rfl | rfl | rfl | rfl | rfl | rfl
  · refine OKd.tuple (n := 0) (B := 30) (ds := [.str ""]) fun z hz => ?_
    rw [List.mem_singleton.mp hz]
    exact okd_s0
  · exact okd_s0.mono (by decide) (by decide)
  · exact ob _
  · exact (okd_n 0 (by decide)).mono (by decide) (by decide)
  · exact ob _
  · exact ob _
  · exact ob _
def smallD : PyData := .list [.int 2, .int 2, .int 3, .int 3, .int 3]
theorem smallD_ok : OKd 1 1000 smallD := by
  refine (OKd.list (n := 0) (B := 30) fun z hz => ?_).mono (Nat.le_refl _) (by decide)
  simp only [List.mem_cons, List.not_mem_nil, or_false] at hz
  rcases hz with rfl | rfl | rfl | rfl | rfl
  · exact okd_n 2 (by decide)
  · exact okd_n 2 (by decide)
  · exact okd_n 3 (by decide)
  · exact okd_n 3 (by decide)
  · exact okd_n 3 (by decide)
section
variable {P : Program} {w : World} {K : PySem.W.Frag} {mg : Str → Option Value} {base : Heap} {C : Addr}
theorem c__law_great_right {T : List (Addr × Str)} {c Pt : Addr} (G : Glb K mg) (F : ErrF K mg C) (TB : TabB base mg c Pt) (hmT : (Pt, ("_law_great_right.<locals>.<lambda>" : Str)) ∈ T) (hu : ∀ p ∈ T, p.1 = Pt → p.2 = ("_law_great_right.<locals>.<lambda>" : Str))
    (c__law_error_word : C8.Cal P w K mg base 1 "_law_error_word" (sp__law_error_word C) []) (c__law_like : CalG P w K mg base 1 "_law_like" (sp__law_like K)) (c_short_root : C8.Cal P w K mg base 3 "short_root" sp_short_root [])
    (c_short_elders : C8.Cal P w K mg base 4 "short_elders" (sp_short_elders T) []) (c_elders_many : CalE P w K mg base 4 "short_elders" (sp_elders_many T C)) (c_comes_short : C8.Cal P w K mg base 4 "comes_short" sp_comes_short []) (c_many_short : C8.Cal P w K mg base 5 "many_short" sp_many_short [])
    (Dt : DefAt K mg "_law_told" s__law_told) (Di : DefAt K mg "_law_is" s__law_is) (D : DefC K mg "_law_great_right" s__law_great_right (.ref c)) : CalG P w K mg base 8 "_law_great_right" (sp__law_great_right T) := by
  refine calG_of D sc__law_great_right (fun _ _ _ _ _ _ us hl => match us, hl with | [], _ => rfl) (fun vs H Q E h => ?_) (fun f A outer s H vs Q E hgd hr h => ?_)
  · obtain ⟨rfl, _⟩ := h; rfl
  · obtain ⟨rfl, hT, q⟩ := h
    obtain ⟨fE, fdE, psE, FE, mE, kE, bE⟩ := c_elders_many.ex
    refine ⟨_, (pss_cons (ps_asg (pe_tup (pa_cons (pe_op op_mul_str pe_str pe_int) (pa_cons (pe_op op_mul_str pe_str pe_int) (pa_cons (pe_op op_mul_str pe_str pe_int) pa_nil)))) (pg_tup rfl (pgs_cons (pg_name (i := 0) sc__law_great_right.nd rfl (Or.inl rfl)) (pgs_cons (pg_name (i := 1) sc__law_great_right.nd rfl (Or.inl rfl)) (pgs_cons (pg_name (i := 4) sc__law_great_right.nd rfl (Or.inr rfl)) pgs_nil)))))
  (pss_cons (ps_set (i := 2) sc__law_great_right.nd rfl (Or.inl rfl) (pe_lst (pa_cons (C8.pe_c c_short_root hr (by decide) rfl (pa_cons (pv 0) pa_nil)) (pa_cons (C8.pe_c c_many_short hr (by decide) rfl (pa_cons (pv 0) (pa_cons pe_str pa_nil))) (pa_cons (C8.pe_c c_many_short hr (by decide) rfl (pa_cons (pv 0) (pa_cons pe_str pa_nil))) (pa_cons (C8.pe_c c_many_short hr (by decide) rfl (pa_cons (pv 0) (pa_cons pe_str pa_nil))) pa_nil))))))
  (pss_cons (ps_set (i := 2) sc__law_great_right.nd rfl (Or.inl rfl) (pe_op op_cat (pv 2) (pe_lst (pa_cons (C8.pe_c c_short_root hr (by decide) rfl (pa_cons (pv 1) pa_nil)) (pa_cons (C8.pe_c c_many_short hr (by decide) rfl (pa_cons (pv 1) (pa_cons pe_str pa_nil))) (pa_cons (C8.pe_c c_many_short hr (by decide) rfl (pa_cons (pv 1) (pa_cons pe_str pa_nil))) (pa_cons (C8.pe_c c_comes_short hr (by decide) rfl (pa_cons (pv 1) (pa_cons pe_str pa_nil))) pa_nil)))))))
  (pss_cons (ps_set (i := 2) sc__law_great_right.nd rfl (Or.inl rfl) (pe_op op_cat (pv 2) (pe_lst (pa_cons (C8.pe_c c_short_root hr (by decide) rfl (pa_cons (pv 4) pa_nil)) (pa_cons (C8.pe_c c_many_short hr (by decide) rfl (pa_cons (pv 4) (pa_cons pe_str pa_nil))) (pa_cons (C8.pe_c c_many_short hr (by decide) rfl (pa_cons (pv 4) (pa_cons pe_str pa_nil))) pa_nil))))))
  (pss_cons (ps_set (i := 3) sc__law_great_right.nd rfl (Or.inl rfl) (pe_lst (pa_cons pe_str (pa_cons pe_int (pa_cons pe_int (pa_cons pe_int (pa_cons pe_str (pa_cons pe_int (pa_cons pe_non (pa_cons pe_bl (pa_cons pe_str (pa_cons pe_int (pa_cons pe_int pa_nil)))))))))))))
  (pss_cons (ps_if (PW.pt (pw_or (pt_not (pt_val (pe_g c__law_like hgd hr (by decide) rfl (pa_cons (pv 2) (pa_cons (pv 3) pa_nil))))) (pw_or1 (pt_not (pt_val (pe_g c__law_like hgd hr (by decide) rfl (pa_cons (C8.pe_c c_short_elders hr (by decide) rfl (pa_cons (pv 1) pa_nil)) (pa_cons (pe_callTy call_tuple_of rfl G.tuple (by decide +kernel) (pa_cons (pe_lc (own := [("_law_turn", 5)]) (g := (gName 5)) (tt := tYes) rfl sc__law_great_right.nd (pi_range2 rfl G.range (pa_cons pe_int (pa_cons pe_int pa_nil))) (blkOk_by (own := [("_law_turn", 5)]) (N := N__law_great_right) (sc := C8.fnScope s__law_great_right) (by decide +kernel)) (fun _ _ _ _ _ => pg_name (i := 5) sc__law_great_right.nd rfl (Or.inl rfl)) (fun _ _ _ _ _ => pts_nil) (fun _ _ _ _ _ => (pe_op op_mul_str pe_str (pv 5)))) pa_nil)) pa_nil)))))))) (pss_one (ps_ret pe_bl)) pss_nil)
  (pss_cons (ps_set (i := 2) sc__law_great_right.nd rfl (Or.inl rfl) (pe_lst (pa_cons (C8.pe_c c_short_elders hr (by decide) rfl (pa_cons pe_str pa_nil)) (pa_cons (C8.pe_c c_short_root hr (by decide) rfl (pa_cons pe_str pa_nil)) (pa_cons (C8.pe_c c_comes_short hr (by decide) rfl (pa_cons pe_str (pa_cons pe_str pa_nil))) (pa_cons (C8.pe_c c_many_short hr (by decide) rfl (pa_cons pe_str (pa_cons pe_str pa_nil))) pa_nil))))))
  (pss_cons (ps_set (i := 2) sc__law_great_right.nd rfl (Or.inl rfl) (pe_op op_cat (pv 2) (pe_lst (pa_cons (C8.pe_c c_comes_short hr (by decide) rfl (pa_cons pe_str (pa_cons pe_str pa_nil))) (pa_cons (C8.pe_c c_comes_short hr (by decide) rfl (pa_cons pe_str (pa_cons pe_str pa_nil))) (pa_cons (C8.pe_c c_comes_short hr (by decide) rfl (pa_cons pe_str (pa_cons pe_str pa_nil))) pa_nil))))))
  (pss_cons (ps_if (pt_not (pt_val (pe_g c__law_like hgd hr (by decide) rfl (pa_cons (pv 2) (pa_cons (pe_lst (pa_cons (pe_tup (pa_cons pe_str pa_nil)) (pa_cons pe_str (pa_cons pe_bl (pa_cons pe_int (pa_cons pe_bl (pa_cons pe_bl (pa_cons pe_bl pa_nil)))))))) pa_nil))))) (pss_one (ps_ret pe_bl)) pss_nil)
  (pss_cons (ps_set (i := 2) sc__law_great_right.nd rfl (Or.inl rfl) (pe_lst (pa_cons (C8.pe_c c_many_short hr (by decide) rfl (pa_cons pe_str (pa_cons pe_str pa_nil))) (pa_cons (C8.pe_c c_many_short hr (by decide) rfl (pa_cons pe_str (pa_cons pe_str pa_nil))) (pa_cons (C8.pe_c c_many_short hr (by decide) rfl (pa_cons pe_str (pa_cons pe_str pa_nil))) pa_nil)))))
  (pss_cons (ps_set (i := 2) sc__law_great_right.nd rfl (Or.inl rfl) (pe_op op_cat (pv 2) (pe_lst (pa_cons (C8.pe_c c_many_short hr (by decide) rfl (pa_cons pe_str (pa_cons pe_str pa_nil))) (pa_cons (C8.pe_c c_many_short hr (by decide) rfl (pa_cons pe_str (pa_cons pe_str pa_nil))) pa_nil)))))
  (pss_one (ps_ret (pe_and (pe_g c__law_like hgd hr (by decide) rfl (pa_cons (pv 2) (pa_cons (pe_lst (pa_cons pe_int (pa_cons pe_int (pa_cons pe_int (pa_cons pe_int (pa_cons pe_int pa_nil)))))) pa_nil)))
    (pe_one (pe_is (T := T) (l := squares) (k := 4) (t := fun E => tCall (sp_elders_many T C) [] E (tCons (tVar 4) tNil)) G F c__law_error_word c__law_like Dt Di ⟨⟨by decide +kernel, by decide +kernel⟩, many_elders⟩ hgd rfl rfl rfl TB rfl hmT hu hr (lamS_by (show lamSB (C8.fnScope s__law_great_right) _ = true by decide +kernel)) rfl (fun _ _ _ _ _ => rfl)
      (fun A outer s H E f c' hr2 => pe_call (CX := L2.CX P w) FE hr2 rfl mE kE bE .nil (passes_call (takes_of rfl rfl rfl rfl) (fun _ _ _ _ h => h)) (pa_cons (pv 4) pa_nil)))))))))))))))))), ?_⟩
    have wa : Ok [97] := okB rfl
    refine ⟨[97], 60, rfl, rfl, by decide, by decide, by decide, by decide, [97, 98], 30, rfl, rfl, by decide, by decide, by decide, by decide, [97, 97, 98, 98], 15, rfl, rfl, by decide, by decide, by decide, by decide, small1000 (by simp), fun p0 n0 => ?_⟩
    have s1 : Same H (upd H p0 (.tup [.str (tx ones), .str (tx pairs), .str (tx squares)])) := same_upd n0
    have e1 : upd H p0 (.tup [.str (tx ones), .str (tx pairs), .str (tx squares)]) p0 = some (.tup [.str (tx ones), .str (tx pairs), .str (tx squares)]) := upd_same
    generalize upd H p0 (.tup [.str (tx ones), .str (tx pairs), .str (tx squares)]) = H1 at s1 e1
    refine ⟨p0, _, rfl, .inl (.inl e1), rfl, _, _, rfl, _, _, rfl, _, _, rfl, rfl, ?_⟩
    -- the ones
    refine ⟨_, rfl, ones, rfl, ok_ones, fun H2 s2 => ⟨_, rfl, ones, [97], rfl, ok_ones, wa, fun H3 s3 => ⟨_, rfl, ones, [97, 97], rfl, ok_ones, okB rfl, fun H4 s4 => ⟨_, rfl, ones, [97, 97, 97], rfl, ok_ones, okB rfl, fun H5 s5 => ⟨small1000 (by simp), fun g1 n1 => ?_⟩⟩⟩⟩⟩
    rw [v1, v2, v3, v4]
    have t5 : Same H H5 := (((s1.trans s2).trans s3).trans s4).trans s5
    have s6 : Same H5 (upd H5 g1 (.lst [.str "a", .int 30, .int 29, .int 29])) := same_upd n1
    have e6 : upd H5 g1 (.lst [.str "a", .int 30, .int 29, .int 29]) g1 = some (.lst [.str "a", .int 30, .int 29, .int 29]) := upd_same
    generalize upd H5 g1 (.lst [.str "a", .int 30, .int 29, .int 29]) = H6 at s6 e6
    have t6 := t5.trans s6
    -- the pairs
    refine ⟨_, rfl, _, rfl, pairs, rfl, ok_pairs, fun H7 s7 => ⟨_, rfl, pairs, [97, 98], rfl, ok_pairs, okB rfl, fun H8 s8 => ⟨_, rfl, pairs, [98, 97], rfl, ok_pairs, okB rfl, fun H9 s9 => ⟨_, rfl, pairs, [97, 97, 98], rfl, ok_pairs, okB rfl, fun H10 s10 => ⟨small1000 (by simp), fun g2 n2 => ?_⟩⟩⟩⟩⟩
    rw [v5, v6, v7, v8]
    have t610 : Same H6 H10 := ((s7.trans s8).trans s9).trans s10
    have s11 : Same H10 (upd H10 g2 (.lst [.str "ab", .int 29, .non, .bl false])) := same_upd n2
    have e11 : upd H10 g2 (.lst [.str "ab", .int 29, .non, .bl false]) g2 = some (.lst [.str "ab", .int 29, .non, .bl false]) := upd_same
    generalize upd H10 g2 (.lst [.str "ab", .int 29, .non, .bl false]) = H11 at s11 e11
    refine ⟨g1, g2, _, _, rfl, rfl, s11 _ _ (t610 _ _ e6), e11, small1000 (by simp), fun g3 n3 => ?_⟩
    have s12 : Same H11 (upd H11 g3 (.lst ([.str "a", .int 30, .int 29, .int 29] ++ [.str "ab", .int 29, .non, .bl false]))) := same_upd n3
    have e12 : upd H11 g3 (.lst ([.str "a", .int 30, .int 29, .int 29] ++ [.str "ab", .int 29, .non, .bl false])) g3 = some (.lst [.str "a", .int 30, .int 29, .int 29, .str "ab", .int 29, .non, .bl false]) := upd_same
    generalize upd H11 g3 (.lst ([.str "a", .int 30, .int 29, .int 29] ++ [.str "ab", .int 29, .non, .bl false])) = H12 at s12 e12
    have t12 : Same H H12 := ((t6.trans t610).trans s11).trans s12
    -- the squares
    refine ⟨_, rfl, _, rfl, squares, rfl, ok_squares, fun H13 s13 => ⟨_, rfl, squares, [97, 98], rfl, ok_squares, okB rfl, fun H14 s14 => ⟨_, rfl, squares, [97, 97, 98, 98], rfl, ok_squares, okB rfl, fun H15 s15 => ⟨small1000 (by simp), fun g4 n4 => ?_⟩⟩⟩⟩
    rw [v9, v10, v11]
    have t1215 : Same H12 H15 := (s13.trans s14).trans s15
    have s16 : Same H15 (upd H15 g4 (.lst [.str "ab", .int 44, .int 42])) := same_upd n4
    have e16 : upd H15 g4 (.lst [.str "ab", .int 44, .int 42]) g4 = some (.lst [.str "ab", .int 44, .int 42]) := upd_same
    generalize upd H15 g4 (.lst [.str "ab", .int 44, .int 42]) = H16 at s16 e16
    refine ⟨g3, g4, _, _, rfl, rfl, s16 _ _ (t1215 _ _ e12), e16, small1000 (by simp), fun g5 n5 => ?_⟩
    have s17 : Same H16 (upd H16 g5 (.lst ([.str "a", .int 30, .int 29, .int 29, .str "ab", .int 29, .non, .bl false] ++ [.str "ab", .int 44, .int 42]))) := same_upd n5
    have e17 : upd H16 g5 (.lst ([.str "a", .int 30, .int 29, .int 29, .str "ab", .int 29, .non, .bl false] ++ [.str "ab", .int 44, .int 42])) g5 = some (.lst [.str "a", .int 30, .int 29, .int 29, .str "ab", .int 29, .non, .bl false, .str "ab", .int 44, .int 42]) := upd_same
    generalize upd H16 g5 (.lst ([.str "a", .int 30, .int 29, .int 29, .str "ab", .int 29, .non, .bl false] ++ [.str "ab", .int 44, .int 42])) = H17 at s17 e17
    have t17 : Same H H17 := ((t12.trans t1215).trans s16).trans s17
    refine ⟨small1000 (by simp), fun q1 nq => ?_⟩
    have s18 : Same H17 (upd H17 q1 (.lst [.str "a", .int 30, .int 29, .int 29, .str "ab", .int 29, .non, .bl false, .str "ab", .int 44, .int 42])) := same_upd nq
    have e18 : upd H17 q1 (.lst [.str "a", .int 30, .int 29, .int 29, .str "ab", .int 29, .non, .bl false, .str "ab", .int 44, .int 42]) q1 = some (.lst [.str "a", .int 30, .int 29, .int 29, .str "ab", .int 29, .non, .bl false, .str "ab", .int 44, .int 42]) := upd_same
    generalize upd H17 q1 (.lst [.str "a", .int 30, .int 29, .int 29, .str "ab", .int 29, .non, .bl false, .str "ab", .int 44, .int 42]) = H18 at s18 e18
    have t18 : Same H H18 := t17.trans s18
    have dpD : ∀ {p : Addr}, H18 p = some (.lst [.str "a", .int 30, .int 29, .int 29, .str "ab", .int 29, .non, .bl false, .str "ab", .int 44, .int 42]) → Dp K H18 (.ref p) dueD := fun {p} e =>
      .lst (.inl (.inl e)) (.cons (.str _) (.cons (.int _) (.cons (.int _) (.cons (.int _) (.cons (.str _) (.cons (.int _) (.cons .non (.cons (.bl _) (.cons (.str _) (.cons (.int _) (.cons (.int _) .nil)))))))))))
    refine ⟨_, rfl, _, rfl, g5, q1, dueD, 1, _, rfl, dpD (s18 _ _ e17), dpD e18, dueD_ok, by omega, by decide, true, rfl, ?_⟩
    refine iteF ?_
    refine ⟨_, rfl, pairs, rfl, ok_pairs, hT.ext t18, fun L nL hL => pows_le L nL hL, fun known p H19 nd hle hiff x19 T19 ep => ?_⟩
    rw [sorted_is nd pows_nodup (fun x => (hiff x).trans (pows_iff x)) pows_sorted] at ep
    refine ⟨1, 31, rfl, by decide, fun D nD => ?_⟩
    refine lc_it walk_range (fun i H' => Same H19 H' ∧ H' D = some (.lst (tls (pows.take i)))) ⟨same_upd nD, upd_same⟩ (fun _ _ _ _ => trivial) ?_ ?_
    · rintro i x H20 H21 hi ⟨s20, e20⟩ ⟨rfl, rfl⟩
      have hi : i < 30 := hi
      refine ⟨rfl, _, rfl, [97, 98], i + 1, rfl, congrArg V.int (by omega), by omega, by decide, by decide, by omega, tls (pows.take i), e20, ?_, same_set s20 nD, ?_⟩
      · rw [List.length_map, List.length_take, sizeLine_eq]
        omega
      · rw [upd_same, List.take_add_one, pows_at hi]
        simp
    rintro H20 ⟨s20, e20⟩
    replace e20 : H20 D = some (.lst (tls pows)) := e20
    refine ⟨D, _, rfl, .inl ⟨.inl (.inl e20), fun p2 n2 => ?_⟩⟩
    have s21 : Same H20 (upd H20 p2 (.tup (tls pows))) := same_upd n2
    have e21 : upd H20 p2 (.tup (tls pows)) p2 = some (.tup (tls pows)) := upd_same
    generalize upd H20 p2 (.tup (tls pows)) = H21 at s21 e21
    refine ⟨p, p2, _, 1, _, rfl, tls_dpK (s21 _ _ (s20 _ _ ep)), tls_dpK e21, tls_ok (m := 60) pows_ok, by omega, by decide, true, rfl, iteF ?_⟩
    have x21 : ExtN H H21 := ((ExtN.of t18).trans x19).trans (.of (s20.trans s21))
    have T21 : Tabs T H21 := (T19.ext s20).ext s21
    -- the empty text
    refine ⟨[], rfl, okB rfl, T21, fun L nL hL => nils_le L nL hL, fun kn2 p3 H22 nd2 hle2 hiff2 x22 T22 ep3 => ?_⟩
    rw [sorted_is nd2 nils_nodup (fun x => (hiff2 x).trans (nil_iff x)) nils_sorted] at ep3
    refine ⟨[], rfl, okB rfl, fun H23 s23 => ⟨[], [], rfl, okB rfl, okB rfl, fun H24 s24 => ⟨[], [], rfl, okB rfl, okB rfl, fun H25 s25 => ⟨small1000 (by simp), fun g6 n6 => ?_⟩⟩⟩⟩
    rw [v12, v13, v14]
    have t2225 : Same H22 H25 := (s23.trans s24).trans s25
    have s26 : Same H25 (upd H25 g6 (.lst [.ref p3, .str "", .bl true, .int 0])) := same_upd n6
    have e26 : upd H25 g6 (.lst [.ref p3, .str "", .bl true, .int 0]) g6 = some (.lst [.ref p3, .str "", .bl true, .int 0]) := upd_same
    generalize upd H25 g6 (.lst [.ref p3, .str "", .bl true, .int 0]) = H26 at s26 e26
    refine ⟨_, rfl, [97], [], rfl, wa, okB rfl, fun H27 s27 => ⟨[], [97], rfl, okB rfl, wa, fun H28 s28 => ⟨[97, 98, 97], [97], rfl, okB rfl, wa, fun H29 s29 => ⟨small1000 (by simp), fun g7 n7 => ?_⟩⟩⟩⟩
    rw [v15, v16, v17]
    have t2629 : Same H26 H29 := (s27.trans s28).trans s29
    have s30 : Same H29 (upd H29 g7 (.lst [.bl false, .bl false, .bl false])) := same_upd n7
    have e30 : upd H29 g7 (.lst [.bl false, .bl false, .bl false]) g7 = some (.lst [.bl false, .bl false, .bl false]) := upd_same
    generalize upd H29 g7 (.lst [.bl false, .bl false, .bl false]) = H30 at s30 e30
    refine ⟨g6, g7, _, _, rfl, rfl, s30 _ _ (t2629 _ _ e26), e30, small1000 (by simp), fun g8 n8 => ?_⟩
    have s31 : Same H30 (upd H30 g8 (.lst ([.ref p3, .str "", .bl true, .int 0] ++ [.bl false, .bl false, .bl false]))) := same_upd n8
    have e31 : upd H30 g8 (.lst ([.ref p3, .str "", .bl true, .int 0] ++ [.bl false, .bl false, .bl false])) g8 = some (.lst [.ref p3, .str "", .bl true, .int 0, .bl false, .bl false, .bl false]) := upd_same
    generalize upd H30 g8 (.lst ([.ref p3, .str "", .bl true, .int 0] ++ [.bl false, .bl false, .bl false])) = H31 at s31 e31
    refine ⟨_, rfl, small1000 (by simp), fun p4 n4' => ?_⟩
    have s32 : Same H31 (upd H31 p4 (.tup [.str ""])) := same_upd n4'
    have e32 : upd H31 p4 (.tup [.str ""]) p4 = some (.tup [.str ""]) := upd_same
    generalize upd H31 p4 (.tup [.str ""]) = H32 at s32 e32
    refine ⟨small1000 (by simp), fun q2 nq2 => ?_⟩
    have s33 : Same H32 (upd H32 q2 (.lst [.ref p4, .str "", .bl true, .int 0, .bl false, .bl false, .bl false])) := same_upd nq2
    have e33 : upd H32 q2 (.lst [.ref p4, .str "", .bl true, .int 0, .bl false, .bl false, .bl false]) q2 = some (.lst [.ref p4, .str "", .bl true, .int 0, .bl false, .bl false, .bl false]) := upd_same
    generalize upd H32 q2 (.lst [.ref p4, .str "", .bl true, .int 0, .bl false, .bl false, .bl false]) = H33 at s33 e33
    have t2233 : Same H22 H33 := ((((t2225.trans s26).trans t2629).trans s30).trans s31).trans (s32.trans s33)
    have dp2 : ∀ {p r : Addr}, H33 r = some (.tup [.str ""]) → H33 p = some (.lst [.ref r, .str "", .bl true, .int 0, .bl false, .bl false, .bl false]) → Dp K H33 (.ref p) nilD := fun {p r} er e =>
      .lst (.inl (.inl e)) (.cons (.tup (.inl (.inl er)) (.cons (.str _) .nil)) (.cons (.str _) (.cons (.bl _) (.cons (.int _) (.cons (.bl _) (.cons (.bl _) (.cons (.bl _) .nil)))))))
    refine ⟨g8, q2, nilD, 2, _, rfl, dp2 (t2233 _ _ ep3) ((s32.trans s33) _ _ e31), dp2 (s33 _ _ e32) e33, nilD_ok, by omega, by decide, true, rfl, iteF ?_⟩
    have x33 : ExtN H H33 := (x21.trans x22).trans (.of t2233)
    have T33 : Tabs T H33 := T22.ext t2233
    -- the small ones
    refine ⟨[97, 98, 99, 98, 99, 98, 99], [97, 98, 99], rfl, okB rfl, okB rfl, fun H34 s34 => ⟨[97, 98, 97, 98, 97, 98, 97], [97, 98, 97], rfl, okB rfl, okB rfl, fun H35 s35 => ⟨[97, 97, 98, 97, 97, 98], [97, 98], rfl, okB rfl, okB rfl, fun H36 s36 => ⟨small1000 (by simp), fun g9 n9 => ?_⟩⟩⟩⟩
    rw [v18, v19, v20]
    have t3336 : Same H33 H36 := (s34.trans s35).trans s36
    have s37 : Same H36 (upd H36 g9 (.lst [.int 2, .int 2, .int 3])) := same_upd n9
    have e37 : upd H36 g9 (.lst [.int 2, .int 2, .int 3]) g9 = some (.lst [.int 2, .int 2, .int 3]) := upd_same
    generalize upd H36 g9 (.lst [.int 2, .int 2, .int 3]) = H37 at s37 e37
    refine ⟨_, rfl, [97, 98, 98, 98, 98, 97, 98, 98, 98, 97], [97, 98, 98, 98, 97], rfl, okB rfl, okB rfl, fun H38 s38 => ⟨[97, 98, 98, 98, 97, 98, 98, 98, 98, 97], [97, 98, 98, 98, 97], rfl, okB rfl, okB rfl, fun H39 s39 => ⟨small1000 (by simp), fun g10 n10 => ?_⟩⟩⟩
    rw [v21, v22]
    have t3739 : Same H37 H39 := s38.trans s39
    have s40 : Same H39 (upd H39 g10 (.lst [.int 3, .int 3])) := same_upd n10
    have e40 : upd H39 g10 (.lst [.int 3, .int 3]) g10 = some (.lst [.int 3, .int 3]) := upd_same
    generalize upd H39 g10 (.lst [.int 3, .int 3]) = H40 at s40 e40
    refine ⟨g9, g10, _, _, rfl, rfl, s40 _ _ (t3739 _ _ e37), e40, small1000 (by simp), fun g11 n11 => ?_⟩
    have s41 : Same H40 (upd H40 g11 (.lst ([.int 2, .int 2, .int 3] ++ [.int 3, .int 3]))) := same_upd n11
    have e41 : upd H40 g11 (.lst ([.int 2, .int 2, .int 3] ++ [.int 3, .int 3])) g11 = some (.lst [.int 2, .int 2, .int 3, .int 3, .int 3]) := upd_same
    generalize upd H40 g11 (.lst ([.int 2, .int 2, .int 3] ++ [.int 3, .int 3])) = H41 at s41 e41
    refine ⟨_, rfl, small1000 (by simp), fun q3 nq3 => ?_⟩
    have s42 : Same H41 (upd H41 q3 (.lst [.int 2, .int 2, .int 3, .int 3, .int 3])) := same_upd nq3
    have e42 : upd H41 q3 (.lst [.int 2, .int 2, .int 3, .int 3, .int 3]) q3 = some (.lst [.int 2, .int 2, .int 3, .int 3, .int 3]) := upd_same
    generalize upd H41 q3 (.lst [.int 2, .int 2, .int 3, .int 3, .int 3]) = H42 at s42 e42
    have t3342 : Same H33 H42 := ((((t3336.trans s37).trans t3739).trans s40).trans s41).trans s42
    have dp3 : ∀ {p : Addr}, H42 p = some (.lst [.int 2, .int 2, .int 3, .int 3, .int 3]) → Dp K H42 (.ref p) smallD := fun {p} e => .lst (.inl (.inl e)) (.cons (.int _) (.cons (.int _) (.cons (.int _) (.cons (.int _) (.cons (.int _) .nil)))))
    refine ⟨g11, q3, smallD, 1, _, rfl, dp3 (s42 _ _ e41), dp3 e42, smallD_ok, by omega, by decide, true, rfl, iteT ?_⟩
    exact ⟨T33.ext t3342, fun E H1 Qn h => ⟨_, rfl, h⟩, fun H' xx TT => q H' ((x33.trans (.of t3342)).trans xx) TT⟩
end
end TW
set_option Elab.async false
set_option linter.all false
set_option maxRecDepth 100000
set_option maxHeartbeats 8000000
namespace TW
open PySem PySem.Spec PyProof.Rows L2 LamX
abbrev s_law : Stmt := topS 57
def N_law : List Str := ["_law_script", "_law_m", "_law_turn"]
theorem sc_law : FnScope N_law ["_law_script"] (C8.fnScope s_law) := C8.fnScope_by (by decide +kernel)
def sp_law (T : List (Addr × Str)) (K : PySem.W.Frag) : Sp := fun vs H Q _ => ∃ (a : Addr) (ns : List Int), vs = [.ref a] ∧ SqL K H a (ns.map V.int) ∧ ns.length ≤ 1000 ∧ Tabs T H ∧ ∀ H', Q (.bl true) H'
theorem okabc : Ok (abc 12 12 12) := okB (by decide +kernel)
theorem sqFrT {K : PySem.W.Frag} {H H' : Hp} {a M Gr : Addr} {xs : List V} (h : SqL K H a xs) (nM : H M = none) (nG : H Gr = none) (f : FrT M Gr H H') : SqL K H' a xs := by
  have ne : ∀ {o}, H a = some o → a ≠ M ∧ a ≠ Gr := fun {o} e => ⟨fun z => (by rw [z, nM] at e; cases e), fun z => (by rw [z, nG] at e; cases e)⟩
  rcases h with h | h
  · rcases h with h | ⟨o, h⟩
    · exact .inl (.inl (f _ _ (ne h).1 (ne h).2 (fun _ z => by cases z) h))
    · exact .inl (.inr ⟨o, f _ _ (ne h).1 (ne h).2 (fun _ z => by cases z) h⟩)
  · exact .inr h
theorem abc_bound (L : List (List Nat)) (nd : L.Nodup) (h : ∀ x ∈ L, TW.R x (abc 12 12 12)) : L.length ≤ 2000 := Nat.le_trans (abc_le L nd h) (by decide)
theorem abc_text : (tx (rep [97] 12) ++ tx (rep [98] 12)) ++ tx (rep [99] 12) = tx (abc 12 12 12) := by decide +kernel
section
variable {P : Program} {w : World} {K : PySem.W.Frag} {mg : Str → Option Value} {base : Heap}
theorem c_law {T : List (Addr × Str)} {c : Addr} (G : Glb K mg) (c__law_begun : C8.Cal P w K mg base 2 "_law_begun" (sp__law_begun K) []) (c__law_right : CalG P w K mg base 7 "_law_right" (sp__law_right T))
    (c_short_elders : C8.Cal P w K mg base 4 "short_elders" (sp_short_elders T) []) (c__law_great_right : CalG P w K mg base 8 "_law_great_right" (sp__law_great_right T)) (D : DefC K mg "law" s_law (.ref c)) : CalG P w K mg base 9 "law" (sp_law T K) := by
  refine calG_of D sc_law (fun _ _ _ _ _ _ us hl => match us, hl with | [_], _ => rfl) (fun vs H Q E h => ?_) (fun f A outer s H vs Q E hgd hr h => ?_)
  · obtain ⟨a, ns, rfl, _⟩ := h; rfl
  · obtain ⟨a, ns, rfl, hsq, hnl, hT, q⟩ := h
    refine ⟨_, (pss_cons (ps_set (i := 1) sc_law.nd rfl (Or.inl rfl) (C8.pe_c c__law_begun hr (by decide) rfl (pa_cons (pv 0) pa_nil)))
  (pss_cons (ps_for PassesOwn.never rfl (pi_range1 rfl G.range (pa_cons (pe_op op_add pe_int (pe_callB (call_min2 rfl) rfl G.min (by decide +kernel) (pa_cons (pe_callB call_len_seq rfl G.len PySem.boot_len (pa_cons (pv 0) pa_nil)) (pa_cons pe_int pa_nil)))) pa_nil)) (pg_name (i := 2) sc_law.nd rfl (Or.inl rfl))
  (pss_one (ps_if (pt_not (pt_val (pe_g c__law_right hgd hr (by decide) rfl (pa_cons (pv 1) pa_nil)))) (pss_one (ps_ret pe_bl)) pss_nil)))
  (pss_cons (ps_if (PW.pt (pw_and (pt_cmpR op_eq (pe_callB call_len_seq rfl G.len PySem.boot_len (pa_cons (pv 0) pa_nil)) pe_int (nomark _)) (pw_and1 (pt_cmpR op_ne (pe_callB call_len_seq rfl G.len PySem.boot_len (pa_cons (C8.pe_c c_short_elders hr (by decide) rfl (pa_cons (pe_op op_add_str (pe_op op_add_str (pe_op op_mul_str pe_str pe_int) (pe_op op_mul_str pe_str pe_int)) (pe_op op_mul_str pe_str pe_int)) pa_nil)) pa_nil)) pe_int (nomark _))))) (pss_one (ps_ret pe_bl)) pss_nil)
  (pss_one (ps_ret (pe_g0 c__law_great_right hgd hr (by decide) rfl)))))), ?_⟩
    refine ⟨_, rfl, a, ns, rfl, hsq, hnl, fun M C Gr H1 nM nG s1 ms => ?_⟩
    have hsq1 := sqSame hsq s1
    have T1 := hT.ext s1
    obtain ⟨t, ht, hj⟩ : ∃ t : Nat, t ≤ 10 ∧ ((4 : Int) + if (6 : Int) < ((ns.map V.int).length : Nat) then (6 : Int) else ((ns.map V.int).length : Nat)) = (t : Nat) := by
      by_cases h6 : (6 : Int) < ((ns.map V.int).length : Nat)
      · exact ⟨10, Nat.le_refl _, by rw [if_pos h6]; rfl⟩
      · exact ⟨4 + (ns.map V.int).length, by omega, by rw [if_neg h6]; omega⟩
    refine ⟨_, rfl, a, _, rfl, .inl hsq1, _, _, rfl, _, _, rfl, rfl, _, rfl, ?_, ?_, ?_⟩
    · rw [hj]; omega
    · rw [hj]; omega
    rw [hj, Int.toNat_natCast]
    refine for_it walk_range (fun i σ H' => ∃ y2 n, σ = [some (.ref a), some (.ref M), y2] ∧ MSt H' M C Gr n ∧ n ≤ 100 * i ∧ Tabs T H' ∧ FrT M Gr H H') ⟨none, 0, rfl, ms, by omega, T1, FrT.same s1⟩ (fun _ _ _ _ _ => trivial) ?_ ?_
    · rintro i x σ H2 H3 hi ⟨y2, n, rfl, ms2, hn, T2, f2⟩ ⟨rfl, rfl⟩
      have hi : i < t := hi
      refine gN ?_
      refine ⟨_, rfl, M, C, Gr, n, rfl, ms2, by omega, T2, fun n' H4 hn' ms4 T4 f4 => ⟨true, rfl, iteF ?_⟩⟩
      exact ⟨_, n', rfl, ms4, by omega, T4, f2.trans f4⟩
    · rintro σ H2 ⟨y2, n, rfl, ms2, hn, T2, f2⟩
      have hsq2 := sqFrT hsq nM nG f2
      refine ⟨_, rfl, a, _, rfl, .inl hsq2, rfl, _, rfl, ?_⟩
      have fin : ∀ H', Tabs T H' → tRet (tCall (sp__law_great_right T) [] C8.E0 tNil) { nx := fun _ H' => Q .non H', rt := Q } [some (.ref a), some (.ref M), y2] H' := fun H' T' => ⟨rfl, T', fun H'' _ _ => q H''⟩
      generalize decide (V.int ((ns.map V.int).length : Nat) = V.int 1) = bb
      cases bb with
      | false => exact iteF (iteF (fin H2 T2))
      | true =>
        refine iteT ?_
        refine ⟨[97], 12, rfl, rfl, by decide, by decide, by decide, by decide, [98], 12, rfl, rfl, by decide, by decide, by decide, by decide, _, _, rfl, rfl, by decide +kernel, [99], 12, rfl, rfl, by decide, by decide, by decide, by decide, _, _, rfl, rfl, by decide +kernel, abc 12 12 12, congrArg (fun z => [V.str z]) abc_text, okabc, T2, abc_bound, fun known p H3 nd hle hiff x3 T3 ep => ?_⟩
        refine ⟨p, _, rfl, .inr (.inl (.inl ep)), rfl, false, ?_, iteF (fin H3 T3)⟩
        have hl : (tls (known.mergeSort leT)).length = 1728 := by rw [List.length_map, List.length_mergeSort, abc_all known nd hiff]
        rw [hl]
        rfl
end
end TW
set_option Elab.async false
set_option linter.all false
set_option maxRecDepth 100000
set_option maxHeartbeats 4000000
namespace TW
open PySem PySem.Spec PyProof.Rows L2 LamX
/-- the law called with a list, nothing being shown just then -/
def LawGo (P : Program) (w : World) (K : PySem.W.Frag) (mg : Str → Option Value) (base : Heap) (k : Nat) (fa : Addr) (sp : Sp) : Prop :=
  ∀ (A : Around) (outer : List Env) (s : Shared) (H : Hp) (a : Addr) (Q : VK), A.guards = some [] → Room k A → Env0 P w K mg base A outer s H → sp [.ref a] H Q C8.E0 →
    codeAny (model P w) A (.call (.ref fa) ⟨[.ref a], []⟩) (CR C8.CX0 outer P w H s Q C8.E0) s
theorem go_of {P : Program} {w : World} {K : PySem.W.Frag} {mg : Str → Option Value} {base : Heap} {k : Nat} {x : Str} {fa : Addr} {sp : Sp} (c : CalG P w K mg base k x sp) (hm : mg x = some (.ref fa)) : LawGo P w K mg base k fa sp := by
  obtain ⟨f, fd, ps, len, run, hm', kp, b⟩ := c.ex
  have e : f = fa := Value.ref.inj (Option.some.inj (hm'.symm.trans hm))
  subst e
  intro A outer s H a Q hgd hr e0 h
  have hl : [Value.ref a].length = ps.length := len _ _ _ _ h
  have KX : K.In s.heap := e0.mod.kin.keeps fun b o e => (e0.bs b o e).1
  have bt := b s [.ref a] KX (by rw [List.append_nil]; exact hl)
  rw [List.append_nil] at bt
  exact run A outer s H ⟨[.ref a], []⟩ [.ref a] [.ref a] Q C8.E0 hgd hr e0 bt (.cons rfl .nil) h
/-- one table of code objects that is empty as yet -/
structure TabE (K : PySem.W.Frag) (h : Heap) (p : Addr × Addr) : Prop where
  at_ : h.get? p.2 = some { cls := .none, data := .fields #[] }
  out : K.lookup p.2 = none
  code : PySem.W.CodeHd h p.1 p.2
/-- what is tracked at the law's entry: the tables, and the script where the written part has none -/
def trk (cs : List (Addr × Addr)) (sc : Option (Addr × HO)) : Hp := fun b => match sc with
  | some (a, o) => if b = a then some o else if b ∈ cs.map (·.2) then some (.tbl #[]) else none
  | none => if b ∈ cs.map (·.2) then some (.tbl #[]) else none
section
variable {P : Program} {w : World} {K : PySem.W.Frag} {mg mb : Str → Option Value} {k : Nat} {fa a : Addr} {cs : List (Addr × Addr)} {sp : Sp} {s₁ : Shared} {vs : List Value} {ns : List Int}
theorem law_go (KX : K.In s₁.heap) (hns : s₁.heap.Ns mainGlobals mg) (hb : s₁.heap.Ns builtinsNs mb) (hbb : ∀ x : Str, x ≠ "__name__" → mb x = bootBuiltins x) (hlim : s₁.heap.NoLimit) (hg : s₁.gens = #[]) (hT : ∀ p ∈ cs, TabE K s₁.heap p)
    (hbm : ∃ (bm : Addr) (ob : Obj), mg "__builtins__" = some (.ref bm) ∧ bm ≠ builtinsNs ∧ s₁.heap.get? bm = some ob ∧ ob.cls = .type "module" ∧ ob.dict = some builtinsNs ∧ ob.data = .plain)
    (ha : s₁.heap.get? a = some { cls := .type "list", data := .seq vs.toArray }) (hi : IntsAre vs ns) (hl : ns.length ≤ sizeLine) (hr : Room k callerA) (hgd : callerA.guards = some [])
    (F : ∀ base : Heap, K.In base → base.Ns mainGlobals mg → (∀ p ∈ cs, TabB base mg p.1 p.2) → LawGo P w K mg base k fa sp)
    (hsp : ∀ H : Hp, (∀ p ∈ cs, H p.2 = some (.tbl #[])) → SqL K H a (ns.map V.int) → sp [.ref a] H (fun v _ => v = .bl true) C8.E0) :
    codeAny (model P w) callerA (.call (.ref fa) ⟨[.ref a], []⟩) (fun r s' => r = .ok (.ret (.bool true)) ∧ OldK s₁.heap s'.heap ∧ s'.os = s₁.os ∧ AllBare s'.gens) s₁ := by
  have rv := vals_ints hi
  have isT : ∀ b : Addr, b ∈ cs.map (·.2) → s₁.heap.get? b = some { cls := .none, data := .fields #[] } := fun b hb => by
    obtain ⟨p, hp, e⟩ := List.mem_map.mp hb
    rw [← e]
    exact (hT p hp).at_
  have aT : a ∉ cs.map (·.2) := fun z => by
    have q := isT a z
    rw [ha] at q
    cases q
  have memT : ∀ p ∈ cs, p.2 ∈ cs.map (·.2) := fun p hp => List.mem_map.mpr ⟨p, hp, rfl⟩
  have core : ∀ H : Hp, (∀ p ∈ cs, H p.2 = some (.tbl #[])) → (∀ b, H b = none ∨ b ∈ cs.map (·.2) ∨ ∃ o xs, H b = some (.frz o (.lst xs))) → SqL K H a (ns.map V.int) → HOk P w H s₁.heap → (∀ b, H b ≠ none → b = a ∨ b ∈ cs.map (·.2)) → (H a ≠ none → K.lookup a = none) →
      codeAny (model P w) callerA (.call (.ref fa) ⟨[.ref a], []⟩) (fun r s' => r = .ok (.ret (.bool true)) ∧ OldK s₁.heap s'.heap ∧ s'.os = s₁.os ∧ AllBare s'.gens) s₁ := by
    intro H hH hO hS hok hA hK
    -- what is no list and no empty record is not tracked
    have noD : ∀ {b : Addr} {o : Obj}, s₁.heap.get? b = some o → (∀ vs n, o.data ≠ .seq vs n) → o.data ≠ .fields #[] → H b = none := fun {b o} e h1 h2 => by
      cases q : H b with
      | none => rfl
      | some u =>
        rcases hA b (by rw [q]; simp) with e' | e'
        · rw [e', ha] at e
          cases e
          exact (h1 _ _ rfl).elim
        · rw [isT b e'] at e
          cases e
          exact (h2 rfl).elim
    have bse : ∀ {b : Addr} {o : Obj}, s₁.heap.get? b = some o → (∀ vs n, o.data ≠ .seq vs n) → o.data ≠ .fields #[] → (hidT s₁.heap H).get? b = some o := fun {b o} e h1 h2 => hidT_get e (noD e h1 h2)
    have nsK : ∀ {b : Addr} {m : Str → Option Value}, s₁.heap.Ns b m → (hidT s₁.heap H).Ns b m := fun {b m} ⟨o, es, ep, e, d, r⟩ => ⟨o, es, ep, bse e (fun _ _ z => by rw [d] at z; cases z) (fun z => by rw [d] at z; cases z), d, r⟩
    have hKb : K.In (hidT s₁.heap H) := fun b o e => hidT_get (KX b o e) (by
      cases q : H b with
      | none => rfl
      | some u =>
        rcases hA b (by rw [q]; simp) with e' | e'
        · rw [e'] at e q
          rw [hK (by rw [q]; simp)] at e
          cases e
        · obtain ⟨p, hp, ep⟩ := List.mem_map.mp e'
          rw [← ep, (hT p hp).out] at e
          cases e)
    have hM : L2.Mod K mg (hidT s₁.heap H) := ⟨hKb, nsK hns, ⟨mb, nsK hb, hbb⟩, let ⟨mc, h1, h2⟩ := hlim; ⟨mc, nsK h1, h2⟩⟩
    have TB : ∀ p ∈ cs, TabB (hidT s₁.heap H) mg p.1 p.2 := fun p hp => by
      refine ⟨?_, ?_, fun z => ?_⟩
      · obtain ⟨o, us, file, tf, flags, tg, inF, text, tt, e1, r1, r2, r3, r4, r5, r6, r7, r8, hne⟩ := (hT p hp).code
        exact ⟨o, us, file, tf, flags, tg, inF, text, tt, bse e1 (fun _ _ z => by rw [r2] at z; cases z) (fun z => by
          rw [r2] at z
          cases z
          simp at r3), r1, r2, r3, r4, r5, r6, r7, r8, hne⟩
      · obtain ⟨bm, ob, b1, b2, b3, b4, b5, b6⟩ := hbm
        refine ⟨bm, ob, b1, b2, fun q => ?_, fun q => ?_, bse b3 (fun _ _ z => by rw [b6] at z; cases z) (fun z => by rw [b6] at z; cases z), b4, b5, b6⟩
        · obtain ⟨o, es, ep, e, hd, _⟩ := hns
          rw [q, e] at b3
          cases b3
          rw [hd] at b6
          cases b6
        · rw [q, (hT p hp).at_] at b3
          cases b3
          cases b6
      · obtain ⟨o, es, ep, e, hd, _⟩ := hns
        rw [z, (hT p hp).at_] at e
        cases e
        cases hd
    have e0 : Env0 P w K mg (hidT s₁.heap H) callerA [] s₁ H := ⟨rfl, hM, fun b o e => of_hidT e, Nat.le_of_eq (hidT_size _ _), trivial, fun b hb => absurd (show b ∈ ([] : List Addr) from hb) (by simp), hok, .of_eq hg⟩
    refine codeAny_mono (F _ hKb (nsK hns) TB callerA [] s₁ H a _ hgd hr e0 (hsp H hH hS)) fun r s' h => ?_
    cases r with
    | error e => exact (show False from h).elim
    | ok fl =>
      cases fl with
      | next => exact False.elim h
      | brk => exact False.elim h
      | cont => exact False.elim h
      | ret u =>
        obtain ⟨v, H', os, bare, un, hok', r', q⟩ := h
        have q' : v = .bl true := q
        subst q'
        obtain rfl : u = Value.bool true := r'
        have key : ∀ b o, b ∉ cs.map (·.2) → s₁.heap.get? b = some o → s'.heap.get? b = some o := fun b o nb e => by
          cases q : H b with
          | none => exact un.keep b o e q (by intro z; exact absurd (show b ∈ ([] : List Addr) from z) (by simp)) (by simp)
          | some u =>
            rcases hO b with z | z | ⟨ob, xs, z⟩
            · rw [q] at z; cases z
            · exact absurd z nb
            · obtain ⟨e1, _⟩ := hok b _ z
              obtain ⟨e2, _⟩ := hok' b _ (un.frzs b ob _ z)
              rw [e] at e1; cases e1
              exact e2
        have grown : ∀ p ∈ cs, ∃ more : Array Value, s'.heap.get? p.2 = some { cls := .none, data := .fields more } := fun p hp => by
          obtain ⟨more, z⟩ := un.tbls p.2 #[] (hH p hp)
          exact ⟨_, hok' p.2 _ z⟩
        refine ⟨rfl, ⟨fun b o e => ?_, fun b o e => ?_⟩, os, bare⟩
        · by_cases hb : b ∈ cs.map (·.2)
          · obtain ⟨p, hp, ep⟩ := List.mem_map.mp hb
            obtain ⟨more, hm⟩ := grown p hp
            rw [← ep] at e ⊢
            rw [(hT p hp).at_] at e
            cases e
            exact .inr (.inl ⟨((hT p hp).code.tab (hT p hp).at_).isCodeTable, rfl, #[], more, rfl, by rw [Array.empty_append]; exact hm⟩)
          · exact .inl (key b o hb e)
        · by_cases hb : b ∈ cs.map (·.2)
          · obtain ⟨p, hp, ep⟩ := List.mem_map.mp hb
            obtain ⟨more, hm⟩ := grown p hp
            rw [← ep]
            exact ⟨_, hm⟩
          · exact ⟨o, key b o hb e⟩
  cases hk : K.lookup a with
  | some o =>
    have e := KX a o hk
    rw [ha] at e
    cases e
    have tr : ∀ b u, trk cs none b = some u → b ∈ cs.map (·.2) ∧ u = .tbl #[] := fun b u z => by
      by_cases hb : b ∈ cs.map (·.2)
      · exact ⟨hb, (Option.some.inj ((if_pos hb).symm.trans z)).symm⟩
      · cases (if_neg hb).symm.trans z
    refine core (trk cs none) (fun p hp => if_pos (memT p hp)) (fun b => ?_) (.inr ⟨_, vs.toArray, _, hk, rfl, rfl, rfl, by rw [List.size_toArray, hi.length]; exact hl, by simpa using rv⟩) (fun b u z => ?_) (fun b z => ?_) fun z => absurd (show trk cs none a = none from if_neg aT) z
    · cases q : trk cs none b with
      | none => exact .inl rfl
      | some u => exact .inr (.inl (tr b u q).1)
    · obtain ⟨h1, rfl⟩ := tr b u z
      exact isT b h1
    · cases q : trk cs none b with
      | none => exact absurd q z
      | some u => exact .inr (tr b u q).1
  | none =>
    have tr : ∀ b u, trk cs (some (a, .frz { cls := .type "list", data := .seq vs.toArray } (.lst (ns.map V.int)))) b = some u → (b = a ∧ u = .frz { cls := .type "list", data := .seq vs.toArray } (.lst (ns.map V.int))) ∨ (b ∈ cs.map (·.2) ∧ u = .tbl #[]) := fun b u z => by
      by_cases ea : b = a
      · exact .inl ⟨ea, (Option.some.inj ((if_pos ea).symm.trans z)).symm⟩
      · have z := (if_neg ea).symm.trans z
        by_cases hb : b ∈ cs.map (·.2)
        · exact .inr ⟨hb, (Option.some.inj ((if_pos hb).symm.trans z)).symm⟩
        · cases (if_neg hb).symm.trans z
    refine core (trk cs (some (a, .frz { cls := .type "list", data := .seq vs.toArray } (.lst (ns.map V.int))))) (fun p hp => (if_neg (show ¬ p.2 = a from fun z => aT (by rw [← z]; exact memT p hp))).trans (if_pos (memT p hp))) (fun b => ?_)
      (.inl (.inr ⟨{ cls := .type "list", data := .seq vs.toArray }, if_pos rfl⟩)) (fun b u z => ?_) (fun b z => ?_) fun _ => hk
    · cases q : trk cs (some (a, .frz { cls := .type "list", data := .seq vs.toArray } (.lst (ns.map V.int)))) b with
      | none => exact .inl rfl
      | some u =>
        rcases tr b u q with ⟨_, rfl⟩ | ⟨h1, _⟩
        · exact .inr (.inr ⟨_, _, rfl⟩)
        · exact .inr (.inl h1)
    · rcases tr b u z with ⟨rfl, rfl⟩ | ⟨h1, rfl⟩
      · exact ⟨ha, by rw [List.length_map]; exact hl, vs, _, rv, ha⟩
      · exact isT b h1
    · cases q : trk cs (some (a, .frz { cls := .type "list", data := .seq vs.toArray } (.lst (ns.map V.int)))) b with
      | none => exact absurd q z
      | some u =>
        rcases tr b u q with ⟨h1, _⟩ | ⟨h1, _⟩
        · exact .inl h1
        · exact .inr h1
end
/-- what is known at the law's entry -/
def LawAtG (l : PySem.W.OpenLaw) (w : World) (K : PySem.W.Frag) (k n : Nat) (mg : Str → Option Value) (fa : Addr) (h : Heap) : Prop :=
  ∃ (cs : List (Addr × Addr)) (sp : Sp), (∀ p ∈ cs, TabE K h p) ∧ (∀ (H : Hp) (a : Addr) (ns : List Int), ns.length ≤ n → (∀ p ∈ cs, H p.2 = some (.tbl #[])) → SqL K H a (ns.map V.int) → sp [.ref a] H (fun v _ => v = .bl true) C8.E0) ∧
    ∀ base : Heap, K.In base → base.Ns mainGlobals mg → (∀ p ∈ cs, TabB base mg p.1 p.2) → LawGo l.prog w K mg base k fa sp
theorem walk_go {l : PySem.W.OpenLaw} {n k : Nat} {q : Program} {loose : List Str} {XP : (Str → Option Value) → Heap → Prop} {YP : World → Heap → Prop} {d : DefRec} {K : Params → PySem.W.Frag}
    (hn : l.most = some n) (hn2 : n ≤ sizeLine) (hdf : d.params.defaults = []) (hr : Room k callerA) (hgd : callerA.guards = some []) (hY : ∀ (w : World) (h : Heap), YP w h → (K w.params).In h)
    (F : ∀ (w : World) (mg : Str → Option Value) (fa : Addr) (h : Heap), YP w h → (K w.params).In h → h.Ns mainGlobals mg → mg d.name = some (.ref fa) → LawAtG l w (K w.params) k n mg fa h) :
    PySem.W.WalkO q loose XP YP l.row.toRowW d [] (fun f vs => PySem.call f vs) := by
  refine Att.attach_callB hn hdf fun w s₀ s₁ mg mb fa o pm cd doc a vs ns G Y ho hd hcd hmg hobj hints hlen hbits hg => ?_
  have KX := hY w _ Y
  obtain ⟨cs, sp, hT, hsp, hF⟩ := F w mg fa _ Y KX G.T.g hmg
  exact law_go KX G.T.g G.T.b G.T.builtins G.T.nolimit hg hT G.T.bmain hobj hints (Nat.le_trans hlen hn2) hr hgd hF (fun H hH hS => hsp H a ns hlen hH hS)
end TW
set_option Elab.async false
set_option linter.all false
set_option maxRecDepth 100000
set_option maxHeartbeats 4000000
namespace TW
open PySem PySem.Spec PyProof.Rows L2 LamX
section
variable {K : PySem.W.Frag} {C B B1 B2 c P : Addr} {o : Obj}
theorem kit_no (hs0 : PySem.W.subIn K (.ref C) (.ref C) = some true) (hd : PySem.W.hasDictIn K B = true) (ht : PySem.W.typeIn K (.ref B) = some (.type "type")) (hs : PySem.W.subIn K (.ref C) (.ref B) = some false) : PySem.W.kitOne K (.ref C) (.ref B) = some false := by
  have hne : ¬ ((Value.ref C == Value.ref B) = true) := fun z => by
    have e : C = B := Value.ref.inj (beq_iff_eq.mp z)
    rw [← e, hs0] at hs
    cases hs
  obtain ⟨cd, hc, _⟩ := PySem.W.any_some hd
  have e2 : ((PySem.W.clsIn K B).isSome && PySem.W.typeIn K (.ref B) == some (.type "type")) = true := by rw [hc, ht] <;> rfl
  unfold PySem.W.kitOne
  rw [if_neg hne]
  show (if ((PySem.W.clsIn K B).isSome && PySem.W.typeIn K (.ref B) == some (.type "type")) = true then PySem.W.subIn K (.ref C) (.ref B) else none) = some false
  rw [if_pos e2]
  exact hs
theorem exm_3 (h1 : PySem.W.exmOne K (.ref C) (.ref B1) = some false) (h2 : PySem.W.exmOne K (.ref C) (.ref B2) = some false) (h3 : PySem.W.exmOne K (.ref C) (.ref C) = some true) : PySem.W.exmAny K (.ref C) [.ref B1, .ref B2, .ref C] = some true := by
  simp [PySem.W.exmAny, h1, h2, h3]
theorem hd_mk (l : K.lookup c = some o) (e : PySem.W.codeHdIn [(c, o)] c P = true) : PySem.W.codeHdIn K c P = true := by
  have l2 : List.lookup c [(c, o)] = some o := by simp [List.lookup]
  unfold PySem.W.codeHdIn at e ⊢
  rw [l]
  rw [l2] at e
  exact e
theorem sup_mk {nm q : Str} {N : Addr} {bs : List Value} {sn : List Str} {sub : List Value} {ab : Bool} {col : Option Bool} {dd : Option Addr} {k0 k1 k2 k3 k5 : Option Value} (l : K.lookup C = some (excClassObj nm q C N bs bmO true sn sub ab col dd k0 k1 k2 k3 k5 "OverflowError.__new__")) :
    PySem.W.ks_superIn K C C "__init__" = some (some (.builtin "OverflowError.__init__")) := by
  have hcl : PySem.W.clsIn K C = some { name := nm, bases := bs, mro := .ref C :: bmO, ns := N, qualname := q, hasDict := true, slotNames := sn, subclasses := sub, abstract := ab, collection := col, hasDel := false } := by unfold PySem.W.clsIn; rw [l] <;> rfl
  unfold PySem.W.ks_superIn
  rw [hcl]
  show PySem.W.alongIn K "__init__" (((Value.ref C :: bmO).dropWhile (· != Value.ref C)).drop 1) = _
  have e : (Value.ref C :: bmO).dropWhile (· != Value.ref C) = Value.ref C :: bmO := by
    rw [List.dropWhile_cons, if_neg]
    simp
  rw [e]
  show PySem.W.alongIn K "__init__" bmO = _
  have o : PySem.W.ownIn K "__init__" (.type "OverflowError") = some (some (.builtin "OverflowError.__init__")) := by kernel_rfl
  unfold PySem.W.alongIn
  rw [o]
end
end TW
set_option Elab.async false
set_option linter.all false
set_option maxRecDepth 100000
set_option maxHeartbeats 4000000
namespace TW
open PySem PySem.Spec PyProof.Rows L2 LamX
section
variable {K : PySem.W.Frag} {mg : Str → Option Value} {h : Heap} {x : Str} {st : Stmt} {f : Addr} {oc kV doc pm cd ct : Value} {od an : Option Addr} {sl : Array (Option Value)}
theorem defC_mk (X : K.In h) (G : h.Ns mainGlobals mg) (a : PySem.W.nsIn K mainGlobals x = some (some (.ref f))) (l : K.lookup f = some ⟨oc, od, .func (PySem.W.fnOf x x (C8.fnArgs st) (C8.fnBody st) (C8.fnScope st) .none kV doc pm an cd ct), sl⟩)
    (c : PySem.W.codeIn K cd x = true) (k : PySem.W.keepIn K (.ref f) = true) : DefC K mg x st cd := ⟨f, oc, od, kV, doc, pm, an, ct, sl, l, c, PySem.W.mg_of X G a, k⟩
theorem defAt_mk (X : K.In h) (G : h.Ns mainGlobals mg) (a : PySem.W.nsIn K mainGlobals x = some (some (.ref f))) (l : K.lookup f = some ⟨oc, od, .func (PySem.W.fnOf x x (C8.fnArgs st) (C8.fnBody st) (C8.fnScope st) .none kV doc pm an cd ct), sl⟩)
    (c : PySem.W.codeIn K cd x = true) (k : PySem.W.keepIn K (.ref f) = true) : DefAt K mg x st := ⟨f, _, ⟨⟨oc, od, .none, kV, doc, pm, an, cd, ct, sl, rfl, l, c⟩, PySem.W.mg_of X G a, k⟩, rfl⟩
end
section
variable {P : Program} {w : World} {K : PySem.W.Frag} {mg : Str → Option Value} {base : Heap} {C fI cc cda c1 c2 c3 c4 P1 P2 P3 : Addr}
abbrev tbls (P1 P2 P3 : Addr) : List (Addr × Str) := [(P1, ("short_elders.<locals>.<lambda>" : Str)), (P2, ("_law_right.<locals>.<lambda>" : Str)), (P3, ("_law_great_right.<locals>.<lambda>" : Str))]
theorem all_law (G : Glb K mg) (ER : ErrF K mg C) (TM : TmF P K C fI cc cda) (hsu : mg "super" = none) (TB1 : TabB base mg c1 P1) (TB2 : TabB base mg c2 P2) (TB3 : TabB base mg c3 P3) (d12 : P1 ≠ P2) (d13 : P1 ≠ P3) (d23 : P2 ≠ P3)
    (D_is_text : DefAt K mg "is_text" s_is_text) (D_need_text : DefAt K mg "need_text" s_need_text) (D_copied_of : DefAt K mg "copied_of" s_copied_of) (D_stretches : DefAt K mg "stretches" s_stretches) (D_growing : DefAt K mg "growing" s_growing) (D_costs_from : DefAt K mg "costs_from" s_costs_from) (D_spots_of : DefAt K mg "spots_of" s_spots_of) (D_fewest_of : DefAt K mg "fewest_of" s_fewest_of) (D_short_root_of : DefAt K mg "short_root_of" s_short_root_of) (D_short_root : DefAt K mg "short_root" s_short_root) (D_are_short_kin : DefAt K mg "are_short_kin" s_are_short_kin) (D_next_doors : DefAt K mg "next_doors" s_next_doors) (D_doors_along : DefAt K mg "doors_along" s_doors_along) (D_does_grow : DefAt K mg "does_grow" s_does_grow) (D_need_both : DefAt K mg "need_both" s_need_both) (D_comes_short : DefAt K mg "comes_short" s_comes_short) (D_many_short : DefAt K mg "many_short" s_many_short) (D_undone_once : DefAt K mg "undone_once" s_undone_once) (D__law_mixed : DefAt K mg "_law_mixed" s__law_mixed) (D__law_folded : DefAt K mg "_law_folded" s__law_folded) (D__law_draw : DefAt K mg "_law_draw" s__law_draw) (D__law_begun : DefAt K mg "_law_begun" s__law_begun) (D__law_like : DefAt K mg "_law_like" s__law_like) (D__law_of : DefAt K mg "_law_of" s__law_of) (D__law_error_word : DefAt K mg "_law_error_word" s__law_error_word) (D__law_told : DefAt K mg "_law_told" s__law_told) (D__law_is : DefAt K mg "_law_is" s__law_is) (D__law_row : DefAt K mg "_law_row" s__law_row) (D__law_word : DefAt K mg "_law_word" s__law_word) (D__law_copied : DefAt K mg "_law_copied" s__law_copied) (D__law_grown : DefAt K mg "_law_grown" s__law_grown) (D__law_twins : DefAt K mg "_law_twins" s__law_twins) (D__law_taken : DefAt K mg "_law_taken" s__law_taken) (D__law_olds : DefAt K mg "_law_olds" s__law_olds) (D__law_bottom : DefAt K mg "_law_bottom" s__law_bottom) (D__law_beside : DefAt K mg "_law_beside" s__law_beside) (D__law_asked_right : DefAt K mg "_law_asked_right" s__law_asked_right) (D_short_elders : DefC K mg "short_elders" s_short_elders (.ref c1)) (D__law_right : DefC K mg "_law_right" s__law_right (.ref c2)) (D__law_great_right : DefC K mg "_law_great_right" s__law_great_right (.ref c3)) (D_law : DefC K mg "law" s_law (.ref c4)) : CalG P w K mg base 9 "law" (sp_law (tbls P1 P2 P3) K) := by
  have hu1 : ∀ p ∈ tbls P1 P2 P3, p.1 = P1 → p.2 = ("short_elders.<locals>.<lambda>" : Str) := fun p hp e => by
    rcases List.mem_cons.mp hp with rfl | hp
    · rfl
    · rcases List.mem_cons.mp hp with rfl | hp
      · exact absurd e.symm d12
      · rcases List.mem_cons.mp hp with rfl | hp
        · exact absurd e.symm d13
        · cases hp
  have hu2 : ∀ p ∈ tbls P1 P2 P3, p.1 = P2 → p.2 = ("_law_right.<locals>.<lambda>" : Str) := fun p hp e => by
    rcases List.mem_cons.mp hp with rfl | hp
    · exact absurd e d12
    · rcases List.mem_cons.mp hp with rfl | hp
      · rfl
      · rcases List.mem_cons.mp hp with rfl | hp
        · exact absurd e.symm d23
        · cases hp
  have hu3 : ∀ p ∈ tbls P1 P2 P3, p.1 = P3 → p.2 = ("_law_great_right.<locals>.<lambda>" : Str) := fun p hp e => by
    rcases List.mem_cons.mp hp with rfl | hp
    · exact absurd e d13
    · rcases List.mem_cons.mp hp with rfl | hp
      · exact absurd e d23
      · rcases List.mem_cons.mp hp with rfl | hp
        · rfl
        · cases hp
  have m1 : (P1, ("short_elders.<locals>.<lambda>" : Str)) ∈ tbls P1 P2 P3 := List.mem_cons_self ..
  have m2 : (P2, ("_law_right.<locals>.<lambda>" : Str)) ∈ tbls P1 P2 P3 := List.mem_cons_of_mem _ (List.mem_cons_self ..)
  have m3 : (P3, ("_law_great_right.<locals>.<lambda>" : Str)) ∈ tbls P1 P2 P3 := List.mem_cons_of_mem _ (List.mem_cons_of_mem _ (List.mem_cons_self ..))
  have c__law_folded : C8.Cal P w K mg base 1 "_law_folded" (sp__law_folded K) [] := TW.c__law_folded (G := G) (D := D__law_folded)
  have c__law_begun : C8.Cal P w K mg base 2 "_law_begun" (sp__law_begun K) [] := TW.c__law_begun (G := G) (c__law_folded := c__law_folded) (D := D__law_begun)
  have c__law_mixed : C8.Cal P w K mg base 1 "_law_mixed" sp__law_mixed [] := TW.c__law_mixed (G := G) (D := D__law_mixed)
  have c__law_draw : C8.Cal P w K mg base 2 "_law_draw" sp__law_draw [] := TW.c__law_draw (G := G) (c__law_mixed := c__law_mixed) (D := D__law_draw)
  have c__law_row : C8.Cal P w K mg base 3 "_law_row" sp__law_row [] := TW.c__law_row (c__law_draw := c__law_draw) (D := D__law_row)
  have c__law_of : C8.Cal P w K mg base 3 "_law_of" sp__law_of [] := TW.c__law_of (G := G) (c__law_draw := c__law_draw) (D := D__law_of)
  have c__law_word : C8.Cal P w K mg base 4 "_law_word" sp__law_word [] := TW.c__law_word (G := G) (c__law_draw := c__law_draw) (c__law_of := c__law_of) (D := D__law_word)
  have c__law_copied : C8.Cal P w K mg base 1 "_law_copied" sp__law_copied [] := TW.c__law_copied (D := D__law_copied)
  have c__law_grown : C8.Cal P w K mg base 4 "_law_grown" sp__law_grown [] := TW.c__law_grown (G := G) (c__law_draw := c__law_draw) (c__law_of := c__law_of) (c__law_copied := c__law_copied) (D := D__law_grown)
  have c__law_twins : C8.Cal P w K mg base 1 "_law_twins" sp__law_twins [] := TW.c__law_twins (G := G) (D := D__law_twins)
  have c__law_taken : C8.Cal P w K mg base 2 "_law_taken" sp__law_taken [] := TW.c__law_taken (G := G) (c__law_twins := c__law_twins) (D := D__law_taken)
  have c__law_olds : C8.Cal P w K mg base 3 "_law_olds" sp__law_olds [] := TW.c__law_olds (c__law_taken := c__law_taken) (D := D__law_olds)
  have c__law_bottom : C8.Cal P w K mg base 3 "_law_bottom" sp__law_bottom [] := TW.c__law_bottom (c__law_taken := c__law_taken) (D := D__law_bottom)
  have c__law_like : CalG P w K mg base 1 "_law_like" (sp__law_like K) := TW.c__law_like (G := G) (D := D__law_like)
  have c_short_root_of : C8.Cal P w K mg base 1 "short_root_of" sp_short_root_of [] := TW.c_short_root_of (G := G) (D := D_short_root_of)
  have c_is_text : C8.Cal P w K mg base 1 "is_text" sp_is_text [] := TW.c_is_text (G := G) (D := D_is_text)
  have c_need_text : C8.Cal P w K mg base 2 "need_text" sp_need_text [] := TW.c_need_text (c_is_text := c_is_text) (D := D_need_text)
  have c_short_root : C8.Cal P w K mg base 3 "short_root" sp_short_root [] := TW.c_short_root (c_short_root_of := c_short_root_of) (c_need_text := c_need_text) (D := D_short_root)
  have c_undone_once : C8.Cal P w K mg base 1 "undone_once" sp_undone_once [] := TW.c_undone_once (G := G) (D := D_undone_once)
  have c_short_elders : C8.Cal P w K mg base 4 "short_elders" (sp_short_elders (tbls P1 P2 P3)) [] := TW.c_short_elders (T := tbls P1 P2 P3) G c_need_text c_undone_once TB1 m1 hu1 D_short_elders
  have c__law_beside : C8.Cal P w K mg base 4 "_law_beside" sp__law_beside [] := TW.c__law_beside (G := G) (c__law_draw := c__law_draw) (c__law_of := c__law_of) (D := D__law_beside)
  have c_need_both : C8.Cal P w K mg base 3 "need_both" sp_need_both [] := TW.c_need_both (c_need_text := c_need_text) (D := D_need_both)
  have c_next_doors : C8.Cal P w K mg base 1 "next_doors" sp_next_doors [] := TW.c_next_doors (G := G) (D := D_next_doors)
  have c_doors_along : C8.Cal P w K mg base 2 "doors_along" sp_doors_along [] := TW.c_doors_along (G := G) (c_next_doors := c_next_doors) (D := D_doors_along)
  have c_does_grow : C8.Cal P w K mg base 3 "does_grow" sp_does_grow [] := TW.c_does_grow (G := G) (c_doors_along := c_doors_along) (D := D_does_grow)
  have c_comes_short : C8.Cal P w K mg base 4 "comes_short" sp_comes_short [] := TW.c_comes_short (c_need_both := c_need_both) (c_does_grow := c_does_grow) (D := D_comes_short)
  have c_copied_of : C8.Cal P w K mg base 1 "copied_of" sp_copied_of [] := TW.c_copied_of (D := D_copied_of)
  have c_stretches : C8.Cal P w K mg base 1 "stretches" sp_stretches [] := TW.c_stretches (G := G) (D := D_stretches)
  have c_growing : C8.Cal P w K mg base 1 "growing" sp_growing [] := TW.c_growing (D := D_growing)
  have c_costs_from : C8.Cal P w K mg base 2 "costs_from" sp_costs_from [] := TW.c_costs_from (G := G) (c_growing := c_growing) (D := D_costs_from)
  have c_spots_of : C8.Cal P w K mg base 3 "spots_of" sp_spots_of [] := TW.c_spots_of (G := G) (c_growing := c_growing) (c_stretches := c_stretches) (c_costs_from := c_costs_from) (D := D_spots_of)
  have c_fewest_of : C8.Cal P w K mg base 4 "fewest_of" sp_fewest_of [] := TW.c_fewest_of (G := G) (c_copied_of := c_copied_of) (c_stretches := c_stretches) (c_spots_of := c_spots_of) (D := D_fewest_of)
  have c_many_short : C8.Cal P w K mg base 5 "many_short" sp_many_short [] := TW.c_many_short (G := G) (c_need_both := c_need_both) (c_does_grow := c_does_grow) (c_fewest_of := c_fewest_of) (D := D_many_short)
  have c__law_asked_right : CalG P w K mg base 6 "_law_asked_right" sp__law_asked_right := TW.c__law_asked_right (G := G) (c__law_like := c__law_like) (c_comes_short := c_comes_short) (c_many_short := c_many_short) (D := D__law_asked_right)
  have c_are_short_kin : C8.Cal P w K mg base 3 "are_short_kin" sp_are_short_kin [] := TW.c_are_short_kin (c_short_root_of := c_short_root_of) (c_need_text := c_need_text) (D := D_are_short_kin)
  have c__law_right : CalG P w K mg base 7 "_law_right" (sp__law_right (tbls P1 P2 P3)) := TW.c__law_right (T := tbls P1 P2 P3) (G := G) (TB := TB2) (hmT := m2) (hu := hu2) (c__law_row := c__law_row) (c__law_draw := c__law_draw) (c__law_word := c__law_word) (c__law_grown := c__law_grown) (c__law_olds := c__law_olds) (c__law_bottom := c__law_bottom) (c__law_like := c__law_like) (c_short_root := c_short_root) (c_short_elders := c_short_elders) (c__law_of := c__law_of) (c__law_beside := c__law_beside) (c__law_asked_right := c__law_asked_right) (c_are_short_kin := c_are_short_kin) (D := D__law_right)
  have c__law_error_word : C8.Cal P w K mg base 1 "_law_error_word" (sp__law_error_word C) [] := TW.c__law_error_word (G := G) (F := ER) (D := D__law_error_word)
  have c_elders_many : CalE P w K mg base 4 "short_elders" (sp_elders_many (tbls P1 P2 P3) C) := TW.c_elders_many (T := tbls P1 P2 P3) G TM ER.tm hsu c_need_text c_undone_once TB1 m1 hu1 D_short_elders
  have c__law_great_right : CalG P w K mg base 8 "_law_great_right" (sp__law_great_right (tbls P1 P2 P3)) := TW.c__law_great_right (T := tbls P1 P2 P3) (G := G) (F := ER) (TB := TB3) (hmT := m3) (hu := hu3) (c__law_error_word := c__law_error_word) (c__law_like := c__law_like) (c_short_root := c_short_root) (c_short_elders := c_short_elders) (c_elders_many := c_elders_many) (c_comes_short := c_comes_short) (c_many_short := c_many_short) (Dt := D__law_told) (Di := D__law_is) (D := D__law_great_right)
  have c_law : CalG P w K mg base 9 "law" (sp_law (tbls P1 P2 P3) K) := TW.c_law (T := tbls P1 P2 P3) (G := G) (c__law_begun := c__law_begun) (c__law_right := c__law_right) (c_short_elders := c_short_elders) (c__law_great_right := c__law_great_right) (D := D_law)
  exact c_law
end
section
variable {l : PySem.W.OpenLaw} {w : World} {K : PySem.W.Frag} {mg : Str → Option Value} {h : Heap} {fa C fI cc cda c1 c2 c3 c4 P1 P2 P3 : Addr} {P : Program}
  {f_is_text f_need_text f_copied_of f_stretches f_growing f_costs_from f_spots_of f_fewest_of f_short_root_of f_short_root f_are_short_kin f_next_doors f_doors_along f_does_grow f_need_both f_comes_short f_many_short f_undone_once f__law_mixed f__law_folded f__law_draw f__law_begun f__law_like f__law_of f__law_error_word f__law_told f__law_is f__law_row f__law_word f__law_copied f__law_grown f__law_twins f__law_taken f__law_olds f__law_bottom f__law_beside f__law_asked_right f_short_elders f__law_right f__law_great_right f_law B_bl B_bs B_bn B_bp B_bq B_tl B_te : Addr}
  {oc_is_text kV_is_text dc_is_text pm_is_text ct_is_text cd_is_text oc_need_text kV_need_text dc_need_text pm_need_text ct_need_text cd_need_text oc_copied_of kV_copied_of dc_copied_of pm_copied_of ct_copied_of cd_copied_of oc_stretches kV_stretches dc_stretches pm_stretches ct_stretches cd_stretches oc_growing kV_growing dc_growing pm_growing ct_growing cd_growing oc_costs_from kV_costs_from dc_costs_from pm_costs_from ct_costs_from cd_costs_from oc_spots_of kV_spots_of dc_spots_of pm_spots_of ct_spots_of cd_spots_of oc_fewest_of kV_fewest_of dc_fewest_of pm_fewest_of ct_fewest_of cd_fewest_of oc_short_root_of kV_short_root_of dc_short_root_of pm_short_root_of ct_short_root_of cd_short_root_of oc_short_root kV_short_root dc_short_root pm_short_root ct_short_root cd_short_root oc_are_short_kin kV_are_short_kin dc_are_short_kin pm_are_short_kin ct_are_short_kin cd_are_short_kin oc_next_doors kV_next_doors dc_next_doors pm_next_doors ct_next_doors cd_next_doors oc_doors_along kV_doors_along dc_doors_along pm_doors_along ct_doors_along cd_doors_along oc_does_grow kV_does_grow dc_does_grow pm_does_grow ct_does_grow cd_does_grow oc_need_both kV_need_both dc_need_both pm_need_both ct_need_both cd_need_both oc_comes_short kV_comes_short dc_comes_short pm_comes_short ct_comes_short cd_comes_short oc_many_short kV_many_short dc_many_short pm_many_short ct_many_short cd_many_short oc_undone_once kV_undone_once dc_undone_once pm_undone_once ct_undone_once cd_undone_once oc__law_mixed kV__law_mixed dc__law_mixed pm__law_mixed ct__law_mixed cd__law_mixed oc__law_folded kV__law_folded dc__law_folded pm__law_folded ct__law_folded cd__law_folded oc__law_draw kV__law_draw dc__law_draw pm__law_draw ct__law_draw cd__law_draw oc__law_begun kV__law_begun dc__law_begun pm__law_begun ct__law_begun cd__law_begun oc__law_like kV__law_like dc__law_like pm__law_like ct__law_like cd__law_like oc__law_of kV__law_of dc__law_of pm__law_of ct__law_of cd__law_of oc__law_error_word kV__law_error_word dc__law_error_word pm__law_error_word ct__law_error_word cd__law_error_word oc__law_told kV__law_told dc__law_told pm__law_told ct__law_told cd__law_told oc__law_is kV__law_is dc__law_is pm__law_is ct__law_is cd__law_is oc__law_row kV__law_row dc__law_row pm__law_row ct__law_row cd__law_row oc__law_word kV__law_word dc__law_word pm__law_word ct__law_word cd__law_word oc__law_copied kV__law_copied dc__law_copied pm__law_copied ct__law_copied cd__law_copied oc__law_grown kV__law_grown dc__law_grown pm__law_grown ct__law_grown cd__law_grown oc__law_twins kV__law_twins dc__law_twins pm__law_twins ct__law_twins cd__law_twins oc__law_taken kV__law_taken dc__law_taken pm__law_taken ct__law_taken cd__law_taken oc__law_olds kV__law_olds dc__law_olds pm__law_olds ct__law_olds cd__law_olds oc__law_bottom kV__law_bottom dc__law_bottom pm__law_bottom ct__law_bottom cd__law_bottom oc__law_beside kV__law_beside dc__law_beside pm__law_beside ct__law_beside cd__law_beside oc__law_asked_right kV__law_asked_right dc__law_asked_right pm__law_asked_right ct__law_asked_right cd__law_asked_right oc_short_elders kV_short_elders dc_short_elders pm_short_elders ct_short_elders oc__law_right kV__law_right dc__law_right pm__law_right ct__law_right oc__law_great_right kV__law_great_right dc__law_great_right pm__law_great_right ct__law_great_right oc_law kV_law dc_law pm_law ct_law ocI kVI dcI pmI ctI oc2 oc3 : Value}
  {od_is_text an_is_text od_need_text an_need_text od_copied_of an_copied_of od_stretches an_stretches od_growing an_growing od_costs_from an_costs_from od_spots_of an_spots_of od_fewest_of an_fewest_of od_short_root_of an_short_root_of od_short_root an_short_root od_are_short_kin an_are_short_kin od_next_doors an_next_doors od_doors_along an_doors_along od_does_grow an_does_grow od_need_both an_need_both od_comes_short an_comes_short od_many_short an_many_short od_undone_once an_undone_once od__law_mixed an__law_mixed od__law_folded an__law_folded od__law_draw an__law_draw od__law_begun an__law_begun od__law_like an__law_like od__law_of an__law_of od__law_error_word an__law_error_word od__law_told an__law_told od__law_is an__law_is od__law_row an__law_row od__law_word an__law_word od__law_copied an__law_copied od__law_grown an__law_grown od__law_twins an__law_twins od__law_taken an__law_taken od__law_olds an__law_olds od__law_bottom an__law_bottom od__law_beside an__law_beside od__law_asked_right an__law_asked_right od_short_elders an_short_elders od__law_right an__law_right od__law_great_right an__law_great_right od_law an_law odc1 odc2 odc3 odI anI od2 od3 ddC : Option Addr}
  {sl_is_text sl_need_text sl_copied_of sl_stretches sl_growing sl_costs_from sl_spots_of sl_fewest_of sl_short_root_of sl_short_root sl_are_short_kin sl_next_doors sl_doors_along sl_does_grow sl_need_both sl_comes_short sl_many_short sl_undone_once sl__law_mixed sl__law_folded sl__law_draw sl__law_begun sl__law_like sl__law_of sl__law_error_word sl__law_told sl__law_is sl__law_row sl__law_word sl__law_copied sl__law_grown sl__law_twins sl__law_taken sl__law_olds sl__law_bottom sl__law_beside sl__law_asked_right sl_short_elders sl__law_right sl__law_great_right sl_law slc1 slc2 slc3 slI sl2 sl3 : Array (Option Value)} {tk1 tk2 tk3 tf2 : Tok} {vs2 vsc1 vsc2 vsc3 : Array Value} {file2 nmC qC : Str} {NC : Addr} {bsC : List Value} {snC : List Str} {subC : List Value} {abC : Bool} {colC : Option Bool} {k0 k1 k2 k3 k5 : Option Value}
theorem all_mk (X : K.In h) (G : h.Ns mainGlobals mg) (hP : l.prog = P) (hfa : mg "law" = some (.ref fa))
    (a_is_text : PySem.W.nsIn K mainGlobals "is_text" = some (some (.ref f_is_text)))
    (l_is_text : K.lookup f_is_text = some ⟨oc_is_text, od_is_text, .func (PySem.W.fnOf "is_text" "is_text" (C8.fnArgs s_is_text) (C8.fnBody s_is_text) (C8.fnScope s_is_text) .none kV_is_text dc_is_text pm_is_text an_is_text cd_is_text ct_is_text), sl_is_text⟩)
    (c_is_text : PySem.W.codeIn K cd_is_text "is_text" = true)
    (k_is_text : PySem.W.keepIn K (.ref f_is_text) = true)
    (a_need_text : PySem.W.nsIn K mainGlobals "need_text" = some (some (.ref f_need_text)))
    (l_need_text : K.lookup f_need_text = some ⟨oc_need_text, od_need_text, .func (PySem.W.fnOf "need_text" "need_text" (C8.fnArgs s_need_text) (C8.fnBody s_need_text) (C8.fnScope s_need_text) .none kV_need_text dc_need_text pm_need_text an_need_text cd_need_text ct_need_text), sl_need_text⟩)
    (c_need_text : PySem.W.codeIn K cd_need_text "need_text" = true)
    (k_need_text : PySem.W.keepIn K (.ref f_need_text) = true)
    (a_copied_of : PySem.W.nsIn K mainGlobals "copied_of" = some (some (.ref f_copied_of)))
    (l_copied_of : K.lookup f_copied_of = some ⟨oc_copied_of, od_copied_of, .func (PySem.W.fnOf "copied_of" "copied_of" (C8.fnArgs s_copied_of) (C8.fnBody s_copied_of) (C8.fnScope s_copied_of) .none kV_copied_of dc_copied_of pm_copied_of an_copied_of cd_copied_of ct_copied_of), sl_copied_of⟩)
    (c_copied_of : PySem.W.codeIn K cd_copied_of "copied_of" = true)
    (k_copied_of : PySem.W.keepIn K (.ref f_copied_of) = true)
    (a_stretches : PySem.W.nsIn K mainGlobals "stretches" = some (some (.ref f_stretches)))
    (l_stretches : K.lookup f_stretches = some ⟨oc_stretches, od_stretches, .func (PySem.W.fnOf "stretches" "stretches" (C8.fnArgs s_stretches) (C8.fnBody s_stretches) (C8.fnScope s_stretches) .none kV_stretches dc_stretches pm_stretches an_stretches cd_stretches ct_stretches), sl_stretches⟩)
    (c_stretches : PySem.W.codeIn K cd_stretches "stretches" = true)
    (k_stretches : PySem.W.keepIn K (.ref f_stretches) = true)
    (a_growing : PySem.W.nsIn K mainGlobals "growing" = some (some (.ref f_growing)))
    (l_growing : K.lookup f_growing = some ⟨oc_growing, od_growing, .func (PySem.W.fnOf "growing" "growing" (C8.fnArgs s_growing) (C8.fnBody s_growing) (C8.fnScope s_growing) .none kV_growing dc_growing pm_growing an_growing cd_growing ct_growing), sl_growing⟩)
    (c_growing : PySem.W.codeIn K cd_growing "growing" = true)
    (k_growing : PySem.W.keepIn K (.ref f_growing) = true)
    (a_costs_from : PySem.W.nsIn K mainGlobals "costs_from" = some (some (.ref f_costs_from)))
    (l_costs_from : K.lookup f_costs_from = some ⟨oc_costs_from, od_costs_from, .func (PySem.W.fnOf "costs_from" "costs_from" (C8.fnArgs s_costs_from) (C8.fnBody s_costs_from) (C8.fnScope s_costs_from) .none kV_costs_from dc_costs_from pm_costs_from an_costs_from cd_costs_from ct_costs_from), sl_costs_from⟩)
    (c_costs_from : PySem.W.codeIn K cd_costs_from "costs_from" = true)
    (k_costs_from : PySem.W.keepIn K (.ref f_costs_from) = true)
    (a_spots_of : PySem.W.nsIn K mainGlobals "spots_of" = some (some (.ref f_spots_of)))
    (l_spots_of : K.lookup f_spots_of = some ⟨oc_spots_of, od_spots_of, .func (PySem.W.fnOf "spots_of" "spots_of" (C8.fnArgs s_spots_of) (C8.fnBody s_spots_of) (C8.fnScope s_spots_of) .none kV_spots_of dc_spots_of pm_spots_of an_spots_of cd_spots_of ct_spots_of), sl_spots_of⟩)
    (c_spots_of : PySem.W.codeIn K cd_spots_of "spots_of" = true)
    (k_spots_of : PySem.W.keepIn K (.ref f_spots_of) = true)
    (a_fewest_of : PySem.W.nsIn K mainGlobals "fewest_of" = some (some (.ref f_fewest_of)))
    (l_fewest_of : K.lookup f_fewest_of = some ⟨oc_fewest_of, od_fewest_of, .func (PySem.W.fnOf "fewest_of" "fewest_of" (C8.fnArgs s_fewest_of) (C8.fnBody s_fewest_of) (C8.fnScope s_fewest_of) .none kV_fewest_of dc_fewest_of pm_fewest_of an_fewest_of cd_fewest_of ct_fewest_of), sl_fewest_of⟩)
    (c_fewest_of : PySem.W.codeIn K cd_fewest_of "fewest_of" = true)
    (k_fewest_of : PySem.W.keepIn K (.ref f_fewest_of) = true)
    (a_short_root_of : PySem.W.nsIn K mainGlobals "short_root_of" = some (some (.ref f_short_root_of)))
    (l_short_root_of : K.lookup f_short_root_of = some ⟨oc_short_root_of, od_short_root_of, .func (PySem.W.fnOf "short_root_of" "short_root_of" (C8.fnArgs s_short_root_of) (C8.fnBody s_short_root_of) (C8.fnScope s_short_root_of) .none kV_short_root_of dc_short_root_of pm_short_root_of an_short_root_of cd_short_root_of ct_short_root_of), sl_short_root_of⟩)
    (c_short_root_of : PySem.W.codeIn K cd_short_root_of "short_root_of" = true)
    (k_short_root_of : PySem.W.keepIn K (.ref f_short_root_of) = true)
    (a_short_root : PySem.W.nsIn K mainGlobals "short_root" = some (some (.ref f_short_root)))
    (l_short_root : K.lookup f_short_root = some ⟨oc_short_root, od_short_root, .func (PySem.W.fnOf "short_root" "short_root" (C8.fnArgs s_short_root) (C8.fnBody s_short_root) (C8.fnScope s_short_root) .none kV_short_root dc_short_root pm_short_root an_short_root cd_short_root ct_short_root), sl_short_root⟩)
    (c_short_root : PySem.W.codeIn K cd_short_root "short_root" = true)
    (k_short_root : PySem.W.keepIn K (.ref f_short_root) = true)
    (a_are_short_kin : PySem.W.nsIn K mainGlobals "are_short_kin" = some (some (.ref f_are_short_kin)))
    (l_are_short_kin : K.lookup f_are_short_kin = some ⟨oc_are_short_kin, od_are_short_kin, .func (PySem.W.fnOf "are_short_kin" "are_short_kin" (C8.fnArgs s_are_short_kin) (C8.fnBody s_are_short_kin) (C8.fnScope s_are_short_kin) .none kV_are_short_kin dc_are_short_kin pm_are_short_kin an_are_short_kin cd_are_short_kin ct_are_short_kin), sl_are_short_kin⟩)
    (c_are_short_kin : PySem.W.codeIn K cd_are_short_kin "are_short_kin" = true)
    (k_are_short_kin : PySem.W.keepIn K (.ref f_are_short_kin) = true)
    (a_next_doors : PySem.W.nsIn K mainGlobals "next_doors" = some (some (.ref f_next_doors)))
    (l_next_doors : K.lookup f_next_doors = some ⟨oc_next_doors, od_next_doors, .func (PySem.W.fnOf "next_doors" "next_doors" (C8.fnArgs s_next_doors) (C8.fnBody s_next_doors) (C8.fnScope s_next_doors) .none kV_next_doors dc_next_doors pm_next_doors an_next_doors cd_next_doors ct_next_doors), sl_next_doors⟩)
    (c_next_doors : PySem.W.codeIn K cd_next_doors "next_doors" = true)
    (k_next_doors : PySem.W.keepIn K (.ref f_next_doors) = true)
    (a_doors_along : PySem.W.nsIn K mainGlobals "doors_along" = some (some (.ref f_doors_along)))
    (l_doors_along : K.lookup f_doors_along = some ⟨oc_doors_along, od_doors_along, .func (PySem.W.fnOf "doors_along" "doors_along" (C8.fnArgs s_doors_along) (C8.fnBody s_doors_along) (C8.fnScope s_doors_along) .none kV_doors_along dc_doors_along pm_doors_along an_doors_along cd_doors_along ct_doors_along), sl_doors_along⟩)
    (c_doors_along : PySem.W.codeIn K cd_doors_along "doors_along" = true)
    (k_doors_along : PySem.W.keepIn K (.ref f_doors_along) = true)
    (a_does_grow : PySem.W.nsIn K mainGlobals "does_grow" = some (some (.ref f_does_grow)))
    (l_does_grow : K.lookup f_does_grow = some ⟨oc_does_grow, od_does_grow, .func (PySem.W.fnOf "does_grow" "does_grow" (C8.fnArgs s_does_grow) (C8.fnBody s_does_grow) (C8.fnScope s_does_grow) .none kV_does_grow dc_does_grow pm_does_grow an_does_grow cd_does_grow ct_does_grow), sl_does_grow⟩)
    (c_does_grow : PySem.W.codeIn K cd_does_grow "does_grow" = true)
    (k_does_grow : PySem.W.keepIn K (.ref f_does_grow) = true)
    (a_need_both : PySem.W.nsIn K mainGlobals "need_both" = some (some (.ref f_need_both)))
    (l_need_both : K.lookup f_need_both = some ⟨oc_need_both, od_need_both, .func (PySem.W.fnOf "need_both" "need_both" (C8.fnArgs s_need_both) (C8.fnBody s_need_both) (C8.fnScope s_need_both) .none kV_need_both dc_need_both pm_need_both an_need_both cd_need_both ct_need_both), sl_need_both⟩)
    (c_need_both : PySem.W.codeIn K cd_need_both "need_both" = true)
    (k_need_both : PySem.W.keepIn K (.ref f_need_both) = true)
    (a_comes_short : PySem.W.nsIn K mainGlobals "comes_short" = some (some (.ref f_comes_short)))
    (l_comes_short : K.lookup f_comes_short = some ⟨oc_comes_short, od_comes_short, .func (PySem.W.fnOf "comes_short" "comes_short" (C8.fnArgs s_comes_short) (C8.fnBody s_comes_short) (C8.fnScope s_comes_short) .none kV_comes_short dc_comes_short pm_comes_short an_comes_short cd_comes_short ct_comes_short), sl_comes_short⟩)
    (c_comes_short : PySem.W.codeIn K cd_comes_short "comes_short" = true)
    (k_comes_short : PySem.W.keepIn K (.ref f_comes_short) = true)
    (a_many_short : PySem.W.nsIn K mainGlobals "many_short" = some (some (.ref f_many_short)))
    (l_many_short : K.lookup f_many_short = some ⟨oc_many_short, od_many_short, .func (PySem.W.fnOf "many_short" "many_short" (C8.fnArgs s_many_short) (C8.fnBody s_many_short) (C8.fnScope s_many_short) .none kV_many_short dc_many_short pm_many_short an_many_short cd_many_short ct_many_short), sl_many_short⟩)
    (c_many_short : PySem.W.codeIn K cd_many_short "many_short" = true)
    (k_many_short : PySem.W.keepIn K (.ref f_many_short) = true)
    (a_undone_once : PySem.W.nsIn K mainGlobals "undone_once" = some (some (.ref f_undone_once)))
    (l_undone_once : K.lookup f_undone_once = some ⟨oc_undone_once, od_undone_once, .func (PySem.W.fnOf "undone_once" "undone_once" (C8.fnArgs s_undone_once) (C8.fnBody s_undone_once) (C8.fnScope s_undone_once) .none kV_undone_once dc_undone_once pm_undone_once an_undone_once cd_undone_once ct_undone_once), sl_undone_once⟩)
    (c_undone_once : PySem.W.codeIn K cd_undone_once "undone_once" = true)
    (k_undone_once : PySem.W.keepIn K (.ref f_undone_once) = true)
    (a__law_mixed : PySem.W.nsIn K mainGlobals "_law_mixed" = some (some (.ref f__law_mixed)))
    (l__law_mixed : K.lookup f__law_mixed = some ⟨oc__law_mixed, od__law_mixed, .func (PySem.W.fnOf "_law_mixed" "_law_mixed" (C8.fnArgs s__law_mixed) (C8.fnBody s__law_mixed) (C8.fnScope s__law_mixed) .none kV__law_mixed dc__law_mixed pm__law_mixed an__law_mixed cd__law_mixed ct__law_mixed), sl__law_mixed⟩)
    (c__law_mixed : PySem.W.codeIn K cd__law_mixed "_law_mixed" = true)
    (k__law_mixed : PySem.W.keepIn K (.ref f__law_mixed) = true)
    (a__law_folded : PySem.W.nsIn K mainGlobals "_law_folded" = some (some (.ref f__law_folded)))
    (l__law_folded : K.lookup f__law_folded = some ⟨oc__law_folded, od__law_folded, .func (PySem.W.fnOf "_law_folded" "_law_folded" (C8.fnArgs s__law_folded) (C8.fnBody s__law_folded) (C8.fnScope s__law_folded) .none kV__law_folded dc__law_folded pm__law_folded an__law_folded cd__law_folded ct__law_folded), sl__law_folded⟩)
    (c__law_folded : PySem.W.codeIn K cd__law_folded "_law_folded" = true)
    (k__law_folded : PySem.W.keepIn K (.ref f__law_folded) = true)
    (a__law_draw : PySem.W.nsIn K mainGlobals "_law_draw" = some (some (.ref f__law_draw)))
    (l__law_draw : K.lookup f__law_draw = some ⟨oc__law_draw, od__law_draw, .func (PySem.W.fnOf "_law_draw" "_law_draw" (C8.fnArgs s__law_draw) (C8.fnBody s__law_draw) (C8.fnScope s__law_draw) .none kV__law_draw dc__law_draw pm__law_draw an__law_draw cd__law_draw ct__law_draw), sl__law_draw⟩)
    (c__law_draw : PySem.W.codeIn K cd__law_draw "_law_draw" = true)
    (k__law_draw : PySem.W.keepIn K (.ref f__law_draw) = true)
    (a__law_begun : PySem.W.nsIn K mainGlobals "_law_begun" = some (some (.ref f__law_begun)))
    (l__law_begun : K.lookup f__law_begun = some ⟨oc__law_begun, od__law_begun, .func (PySem.W.fnOf "_law_begun" "_law_begun" (C8.fnArgs s__law_begun) (C8.fnBody s__law_begun) (C8.fnScope s__law_begun) .none kV__law_begun dc__law_begun pm__law_begun an__law_begun cd__law_begun ct__law_begun), sl__law_begun⟩)
    (c__law_begun : PySem.W.codeIn K cd__law_begun "_law_begun" = true)
    (k__law_begun : PySem.W.keepIn K (.ref f__law_begun) = true)
    (a__law_like : PySem.W.nsIn K mainGlobals "_law_like" = some (some (.ref f__law_like)))
    (l__law_like : K.lookup f__law_like = some ⟨oc__law_like, od__law_like, .func (PySem.W.fnOf "_law_like" "_law_like" (C8.fnArgs s__law_like) (C8.fnBody s__law_like) (C8.fnScope s__law_like) .none kV__law_like dc__law_like pm__law_like an__law_like cd__law_like ct__law_like), sl__law_like⟩)
    (c__law_like : PySem.W.codeIn K cd__law_like "_law_like" = true)
    (k__law_like : PySem.W.keepIn K (.ref f__law_like) = true)
    (a__law_of : PySem.W.nsIn K mainGlobals "_law_of" = some (some (.ref f__law_of)))
    (l__law_of : K.lookup f__law_of = some ⟨oc__law_of, od__law_of, .func (PySem.W.fnOf "_law_of" "_law_of" (C8.fnArgs s__law_of) (C8.fnBody s__law_of) (C8.fnScope s__law_of) .none kV__law_of dc__law_of pm__law_of an__law_of cd__law_of ct__law_of), sl__law_of⟩)
    (c__law_of : PySem.W.codeIn K cd__law_of "_law_of" = true)
    (k__law_of : PySem.W.keepIn K (.ref f__law_of) = true)
    (a__law_error_word : PySem.W.nsIn K mainGlobals "_law_error_word" = some (some (.ref f__law_error_word)))
    (l__law_error_word : K.lookup f__law_error_word = some ⟨oc__law_error_word, od__law_error_word, .func (PySem.W.fnOf "_law_error_word" "_law_error_word" (C8.fnArgs s__law_error_word) (C8.fnBody s__law_error_word) (C8.fnScope s__law_error_word) .none kV__law_error_word dc__law_error_word pm__law_error_word an__law_error_word cd__law_error_word ct__law_error_word), sl__law_error_word⟩)
    (c__law_error_word : PySem.W.codeIn K cd__law_error_word "_law_error_word" = true)
    (k__law_error_word : PySem.W.keepIn K (.ref f__law_error_word) = true)
    (a__law_told : PySem.W.nsIn K mainGlobals "_law_told" = some (some (.ref f__law_told)))
    (l__law_told : K.lookup f__law_told = some ⟨oc__law_told, od__law_told, .func (PySem.W.fnOf "_law_told" "_law_told" (C8.fnArgs s__law_told) (C8.fnBody s__law_told) (C8.fnScope s__law_told) .none kV__law_told dc__law_told pm__law_told an__law_told cd__law_told ct__law_told), sl__law_told⟩)
    (c__law_told : PySem.W.codeIn K cd__law_told "_law_told" = true)
    (k__law_told : PySem.W.keepIn K (.ref f__law_told) = true)
    (a__law_is : PySem.W.nsIn K mainGlobals "_law_is" = some (some (.ref f__law_is)))
    (l__law_is : K.lookup f__law_is = some ⟨oc__law_is, od__law_is, .func (PySem.W.fnOf "_law_is" "_law_is" (C8.fnArgs s__law_is) (C8.fnBody s__law_is) (C8.fnScope s__law_is) .none kV__law_is dc__law_is pm__law_is an__law_is cd__law_is ct__law_is), sl__law_is⟩)
    (c__law_is : PySem.W.codeIn K cd__law_is "_law_is" = true)
    (k__law_is : PySem.W.keepIn K (.ref f__law_is) = true)
    (a__law_row : PySem.W.nsIn K mainGlobals "_law_row" = some (some (.ref f__law_row)))
    (l__law_row : K.lookup f__law_row = some ⟨oc__law_row, od__law_row, .func (PySem.W.fnOf "_law_row" "_law_row" (C8.fnArgs s__law_row) (C8.fnBody s__law_row) (C8.fnScope s__law_row) .none kV__law_row dc__law_row pm__law_row an__law_row cd__law_row ct__law_row), sl__law_row⟩)
    (c__law_row : PySem.W.codeIn K cd__law_row "_law_row" = true)
    (k__law_row : PySem.W.keepIn K (.ref f__law_row) = true)
    (a__law_word : PySem.W.nsIn K mainGlobals "_law_word" = some (some (.ref f__law_word)))
    (l__law_word : K.lookup f__law_word = some ⟨oc__law_word, od__law_word, .func (PySem.W.fnOf "_law_word" "_law_word" (C8.fnArgs s__law_word) (C8.fnBody s__law_word) (C8.fnScope s__law_word) .none kV__law_word dc__law_word pm__law_word an__law_word cd__law_word ct__law_word), sl__law_word⟩)
    (c__law_word : PySem.W.codeIn K cd__law_word "_law_word" = true)
    (k__law_word : PySem.W.keepIn K (.ref f__law_word) = true)
    (a__law_copied : PySem.W.nsIn K mainGlobals "_law_copied" = some (some (.ref f__law_copied)))
    (l__law_copied : K.lookup f__law_copied = some ⟨oc__law_copied, od__law_copied, .func (PySem.W.fnOf "_law_copied" "_law_copied" (C8.fnArgs s__law_copied) (C8.fnBody s__law_copied) (C8.fnScope s__law_copied) .none kV__law_copied dc__law_copied pm__law_copied an__law_copied cd__law_copied ct__law_copied), sl__law_copied⟩)
    (c__law_copied : PySem.W.codeIn K cd__law_copied "_law_copied" = true)
    (k__law_copied : PySem.W.keepIn K (.ref f__law_copied) = true)
    (a__law_grown : PySem.W.nsIn K mainGlobals "_law_grown" = some (some (.ref f__law_grown)))
    (l__law_grown : K.lookup f__law_grown = some ⟨oc__law_grown, od__law_grown, .func (PySem.W.fnOf "_law_grown" "_law_grown" (C8.fnArgs s__law_grown) (C8.fnBody s__law_grown) (C8.fnScope s__law_grown) .none kV__law_grown dc__law_grown pm__law_grown an__law_grown cd__law_grown ct__law_grown), sl__law_grown⟩)
    (c__law_grown : PySem.W.codeIn K cd__law_grown "_law_grown" = true)
    (k__law_grown : PySem.W.keepIn K (.ref f__law_grown) = true)
    (a__law_twins : PySem.W.nsIn K mainGlobals "_law_twins" = some (some (.ref f__law_twins)))
    (l__law_twins : K.lookup f__law_twins = some ⟨oc__law_twins, od__law_twins, .func (PySem.W.fnOf "_law_twins" "_law_twins" (C8.fnArgs s__law_twins) (C8.fnBody s__law_twins) (C8.fnScope s__law_twins) .none kV__law_twins dc__law_twins pm__law_twins an__law_twins cd__law_twins ct__law_twins), sl__law_twins⟩)
    (c__law_twins : PySem.W.codeIn K cd__law_twins "_law_twins" = true)
    (k__law_twins : PySem.W.keepIn K (.ref f__law_twins) = true)
    (a__law_taken : PySem.W.nsIn K mainGlobals "_law_taken" = some (some (.ref f__law_taken)))
    (l__law_taken : K.lookup f__law_taken = some ⟨oc__law_taken, od__law_taken, .func (PySem.W.fnOf "_law_taken" "_law_taken" (C8.fnArgs s__law_taken) (C8.fnBody s__law_taken) (C8.fnScope s__law_taken) .none kV__law_taken dc__law_taken pm__law_taken an__law_taken cd__law_taken ct__law_taken), sl__law_taken⟩)
    (c__law_taken : PySem.W.codeIn K cd__law_taken "_law_taken" = true)
    (k__law_taken : PySem.W.keepIn K (.ref f__law_taken) = true)
    (a__law_olds : PySem.W.nsIn K mainGlobals "_law_olds" = some (some (.ref f__law_olds)))
    (l__law_olds : K.lookup f__law_olds = some ⟨oc__law_olds, od__law_olds, .func (PySem.W.fnOf "_law_olds" "_law_olds" (C8.fnArgs s__law_olds) (C8.fnBody s__law_olds) (C8.fnScope s__law_olds) .none kV__law_olds dc__law_olds pm__law_olds an__law_olds cd__law_olds ct__law_olds), sl__law_olds⟩)
    (c__law_olds : PySem.W.codeIn K cd__law_olds "_law_olds" = true)
    (k__law_olds : PySem.W.keepIn K (.ref f__law_olds) = true)
    (a__law_bottom : PySem.W.nsIn K mainGlobals "_law_bottom" = some (some (.ref f__law_bottom)))
    (l__law_bottom : K.lookup f__law_bottom = some ⟨oc__law_bottom, od__law_bottom, .func (PySem.W.fnOf "_law_bottom" "_law_bottom" (C8.fnArgs s__law_bottom) (C8.fnBody s__law_bottom) (C8.fnScope s__law_bottom) .none kV__law_bottom dc__law_bottom pm__law_bottom an__law_bottom cd__law_bottom ct__law_bottom), sl__law_bottom⟩)
    (c__law_bottom : PySem.W.codeIn K cd__law_bottom "_law_bottom" = true)
    (k__law_bottom : PySem.W.keepIn K (.ref f__law_bottom) = true)
    (a__law_beside : PySem.W.nsIn K mainGlobals "_law_beside" = some (some (.ref f__law_beside)))
    (l__law_beside : K.lookup f__law_beside = some ⟨oc__law_beside, od__law_beside, .func (PySem.W.fnOf "_law_beside" "_law_beside" (C8.fnArgs s__law_beside) (C8.fnBody s__law_beside) (C8.fnScope s__law_beside) .none kV__law_beside dc__law_beside pm__law_beside an__law_beside cd__law_beside ct__law_beside), sl__law_beside⟩)
    (c__law_beside : PySem.W.codeIn K cd__law_beside "_law_beside" = true)
    (k__law_beside : PySem.W.keepIn K (.ref f__law_beside) = true)
    (a__law_asked_right : PySem.W.nsIn K mainGlobals "_law_asked_right" = some (some (.ref f__law_asked_right)))
    (l__law_asked_right : K.lookup f__law_asked_right = some ⟨oc__law_asked_right, od__law_asked_right, .func (PySem.W.fnOf "_law_asked_right" "_law_asked_right" (C8.fnArgs s__law_asked_right) (C8.fnBody s__law_asked_right) (C8.fnScope s__law_asked_right) .none kV__law_asked_right dc__law_asked_right pm__law_asked_right an__law_asked_right cd__law_asked_right ct__law_asked_right), sl__law_asked_right⟩)
    (c__law_asked_right : PySem.W.codeIn K cd__law_asked_right "_law_asked_right" = true)
    (k__law_asked_right : PySem.W.keepIn K (.ref f__law_asked_right) = true)
    (a_short_elders : PySem.W.nsIn K mainGlobals "short_elders" = some (some (.ref f_short_elders)))
    (l_short_elders : K.lookup f_short_elders = some ⟨oc_short_elders, od_short_elders, .func (PySem.W.fnOf "short_elders" "short_elders" (C8.fnArgs s_short_elders) (C8.fnBody s_short_elders) (C8.fnScope s_short_elders) .none kV_short_elders dc_short_elders pm_short_elders an_short_elders (.ref c1) ct_short_elders), sl_short_elders⟩)
    (c_short_elders : PySem.W.codeIn K (.ref c1) "short_elders" = true)
    (k_short_elders : PySem.W.keepIn K (.ref f_short_elders) = true)
    (a__law_right : PySem.W.nsIn K mainGlobals "_law_right" = some (some (.ref f__law_right)))
    (l__law_right : K.lookup f__law_right = some ⟨oc__law_right, od__law_right, .func (PySem.W.fnOf "_law_right" "_law_right" (C8.fnArgs s__law_right) (C8.fnBody s__law_right) (C8.fnScope s__law_right) .none kV__law_right dc__law_right pm__law_right an__law_right (.ref c2) ct__law_right), sl__law_right⟩)
    (c__law_right : PySem.W.codeIn K (.ref c2) "_law_right" = true)
    (k__law_right : PySem.W.keepIn K (.ref f__law_right) = true)
    (a__law_great_right : PySem.W.nsIn K mainGlobals "_law_great_right" = some (some (.ref f__law_great_right)))
    (l__law_great_right : K.lookup f__law_great_right = some ⟨oc__law_great_right, od__law_great_right, .func (PySem.W.fnOf "_law_great_right" "_law_great_right" (C8.fnArgs s__law_great_right) (C8.fnBody s__law_great_right) (C8.fnScope s__law_great_right) .none kV__law_great_right dc__law_great_right pm__law_great_right an__law_great_right (.ref c3) ct__law_great_right), sl__law_great_right⟩)
    (c__law_great_right : PySem.W.codeIn K (.ref c3) "_law_great_right" = true)
    (k__law_great_right : PySem.W.keepIn K (.ref f__law_great_right) = true)
    (a_law : PySem.W.nsIn K mainGlobals "law" = some (some (.ref f_law)))
    (l_law : K.lookup f_law = some ⟨oc_law, od_law, .func (PySem.W.fnOf "law" "law" (C8.fnArgs s_law) (C8.fnBody s_law) (C8.fnScope s_law) .none kV_law dc_law pm_law an_law (.ref c4) ct_law), sl_law⟩)
    (c_law : PySem.W.codeIn K (.ref c4) "law" = true)
    (k_law : PySem.W.keepIn K (.ref f_law) = true)
    (v1 : K.lookup c1 = some ⟨.type "code", odc1, .fields vsc1, slc1⟩)
    (p1 : vsc1[11]? = some (.ref P1))
    (h1 : PySem.W.codeHdIn [(c1, ⟨.type "code", odc1, .fields vsc1, slc1⟩)] c1 P1 = true)
    (tN1 : K.lookup P1 = none)
    (tG1 : h.get? P1 = some { cls := .none, data := .fields #[] })
    (v2 : K.lookup c2 = some ⟨.type "code", odc2, .fields vsc2, slc2⟩)
    (p2 : vsc2[11]? = some (.ref P2))
    (h2 : PySem.W.codeHdIn [(c2, ⟨.type "code", odc2, .fields vsc2, slc2⟩)] c2 P2 = true)
    (tN2 : K.lookup P2 = none)
    (tG2 : h.get? P2 = some { cls := .none, data := .fields #[] })
    (v3 : K.lookup c3 = some ⟨.type "code", odc3, .fields vsc3, slc3⟩)
    (p3 : vsc3[11]? = some (.ref P3))
    (h3 : PySem.W.codeHdIn [(c3, ⟨.type "code", odc3, .fields vsc3, slc3⟩)] c3 P3 = true)
    (tN3 : K.lookup P3 = none)
    (tG3 : h.get? P3 = some { cls := .none, data := .fields #[] })
    (d12 : P1 ≠ P2)
    (d13 : P1 ≠ P3)
    (d23 : P2 ≠ P3)
    (gL : PySem.W.nsIn K mainGlobals "LETTERS" = some (some (.str (tx abcdef) tk1)))
    (gM : PySem.W.nsIn K mainGlobals "MOST_LONG" = some (some (.int 60 tk2)))
    (gT : PySem.W.nsIn K mainGlobals "MOST_LISTED" = some (some (.int 2000 tk3)))
    (b_len : PySem.W.nsIn K mainGlobals "len" = some none)
    (b_range : PySem.W.nsIn K mainGlobals "range" = some none)
    (b_enumerate : PySem.W.nsIn K mainGlobals "enumerate" = some none)
    (b_zip : PySem.W.nsIn K mainGlobals "zip" = some none)
    (b_sum : PySem.W.nsIn K mainGlobals "sum" = some none)
    (b_all : PySem.W.nsIn K mainGlobals "all" = some none)
    (b_sorted : PySem.W.nsIn K mainGlobals "sorted" = some none)
    (b_tuple : PySem.W.nsIn K mainGlobals "tuple" = some none)
    (b_list : PySem.W.nsIn K mainGlobals "list" = some none)
    (b_int : PySem.W.nsIn K mainGlobals "int" = some none)
    (b_str : PySem.W.nsIn K mainGlobals "str" = some none)
    (b_min : PySem.W.nsIn K mainGlobals "min" = some none)
    (b_repr : PySem.W.nsIn K mainGlobals "repr" = some none)
    (b_isinstance : PySem.W.nsIn K mainGlobals "isinstance" = some none)
    (b_super : PySem.W.nsIn K mainGlobals "super" = some none)
    (eT : PySem.W.nsIn K mainGlobals "TooMany" = some (some (.ref C)))
    (hs0 : PySem.W.subIn K (.ref C) (.ref C) = some true)
    (e_bl : PySem.W.nsIn K mainGlobals "BadLetters" = some (some (.ref B_bl)))
    (hd_bl : PySem.W.hasDictIn K B_bl = true)
    (ht_bl : PySem.W.typeIn K (.ref B_bl) = some (.type "type"))
    (hs_bl : PySem.W.subIn K (.ref C) (.ref B_bl) = some false)
    (e_bs : PySem.W.nsIn K mainGlobals "BadSize" = some (some (.ref B_bs)))
    (hd_bs : PySem.W.hasDictIn K B_bs = true)
    (ht_bs : PySem.W.typeIn K (.ref B_bs) = some (.type "type"))
    (hs_bs : PySem.W.subIn K (.ref C) (.ref B_bs) = some false)
    (e_bn : PySem.W.nsIn K mainGlobals "BadNumber" = some (some (.ref B_bn)))
    (hd_bn : PySem.W.hasDictIn K B_bn = true)
    (ht_bn : PySem.W.typeIn K (.ref B_bn) = some (.type "type"))
    (hs_bn : PySem.W.subIn K (.ref C) (.ref B_bn) = some false)
    (e_bp : PySem.W.nsIn K mainGlobals "BadPairs" = some (some (.ref B_bp)))
    (hd_bp : PySem.W.hasDictIn K B_bp = true)
    (ht_bp : PySem.W.typeIn K (.ref B_bp) = some (.type "type"))
    (hs_bp : PySem.W.subIn K (.ref C) (.ref B_bp) = some false)
    (e_bq : PySem.W.nsIn K mainGlobals "BadPaper" = some (some (.ref B_bq)))
    (hd_bq : PySem.W.hasDictIn K B_bq = true)
    (ht_bq : PySem.W.typeIn K (.ref B_bq) = some (.type "type"))
    (hs_bq : PySem.W.subIn K (.ref C) (.ref B_bq) = some false)
    (e_tl : PySem.W.nsIn K mainGlobals "TooLong" = some (some (.ref B_tl)))
    (hd_tl : PySem.W.hasDictIn K B_tl = true)
    (ht_tl : PySem.W.typeIn K (.ref B_tl) = some (.type "type"))
    (hs_tl : PySem.W.subIn K (.ref C) (.ref B_tl) = some false)
    (e_te : PySem.W.nsIn K mainGlobals "TwiceError" = some (some (.ref B_te)))
    (hd_te : PySem.W.hasDictIn K B_te = true)
    (ht_te : PySem.W.typeIn K (.ref B_te) = some (.type "type"))
    (hs_te : PySem.W.subIn K (.ref C) (.ref B_te) = some false)
    (hx_te : PySem.W.subIn K (.ref B_te) (.type "BaseException") = some true)
    (hx_tl : PySem.W.subIn K (.ref B_tl) (.type "BaseException") = some true)
    (xg : PySem.W.findIn K (.ref C) "__getattribute__" = some (some (.builtin "BaseException.__getattribute__")))
    (xk : PySem.W.findIn K (.ref C) "__getattr__" = some none)
    (xs : PySem.W.subIn K (.ref C) (.type "BaseException") = some true)
    (xd : PySem.W.hasDictIn K C = true)
    (xa : PySem.W.findIn K (.ref C) "__class__" = some (some (.builtin "object.__class__")))
    (xn : PySem.W.specialIn K (.builtin "object.__class__") "__get__" = some (some (.builtin "getset_descriptor.__get__")))
    (xt : PySem.W.takesIn K (.builtin "object.__class__") = some true)
    (xm : PySem.W.mroIn K C (.type "object") = some true)
    (xo : PySem.W.findIn K (.ref C) "most" = some none)
    (yI : PySem.W.findIn K (.ref C) "__init__" = some (some (.ref fI)))
    (yT : PySem.W.typeIn K (.ref fI) = some (.type "function"))
    (yF : K.lookup fI = some ⟨ocI, odI, .func (PySem.W.ksFn "__init__" tmQ (C8.fnArgs tmInit) (C8.fnBody tmInit) (C8.fnScope tmInit) .none kVI dcI pmI anI (.ref cda) ctI cc), slI⟩)
    (yC : PySem.W.codeIn K (.ref cda) tmQ = true)
    (yD : K.lookup cda = some ⟨oc2, od2, .fields vs2, sl2⟩)
    (yE : vs2[2]? = some (.str file2 tf2))
    (yG : ((P.main.file : Str) == file2) = true)
    (yH : (P.main.scope.names.lookup ("super" : Str)).isSome = false)
    (yJ : K.lookup cc = some ⟨oc3, od3, .cell (some (.ref C)), sl3⟩)
    (yK : K.lookup C = some (excClassObj nmC qC C NC bsC bmO true snC subC abC colC ddC k0 k1 k2 k3 k5 "OverflowError.__new__"))
    (yL : PySem.W.findIn K (.ref C) "__setattr__" = some (some (.builtin "object.__setattr__")))
    (yM : PySem.W.takerIn K C "most" = some none)
    (yN : PySem.W.nsIn K cStatics "thirdparty.any" = some none)
    (yP : PySem.W.subIn K (.ref C) (.type "OverflowError") = some true)
    (yQ : PySem.W.mroIn K C (.ref C) = some true)
    (yR : PySem.W.typeIn K (.ref C) = some (.type "type"))
    (yS : PySem.W.keepIn K (.ref C) = true) : LawAtG l w K 9 63 mg fa h := by
  have GG : Glb K mg := ⟨⟨_, PySem.W.mg_of X G gL⟩, ⟨_, PySem.W.mg_of X G gM⟩, ⟨_, PySem.W.mg_of X G gT⟩, PySem.W.mg_none_of X G b_len, PySem.W.mg_none_of X G b_range, PySem.W.mg_none_of X G b_enumerate, PySem.W.mg_none_of X G b_zip, PySem.W.mg_none_of X G b_sum, PySem.W.mg_none_of X G b_all, PySem.W.mg_none_of X G b_sorted, PySem.W.mg_none_of X G b_tuple, PySem.W.mg_none_of X G b_list, PySem.W.mg_none_of X G b_int, PySem.W.mg_none_of X G b_str, PySem.W.mg_none_of X G b_min, PySem.W.mg_none_of X G b_repr, PySem.W.mg_none_of X G b_isinstance⟩
  have EC : ExcC K C := ⟨xg, xk, xs, xd, xa, xn, xt, xm⟩
  have ER : ErrF K mg C := ⟨⟨_, PySem.W.mg_of X G e_bl, kit_no hs0 hd_bl ht_bl hs_bl⟩, ⟨_, PySem.W.mg_of X G e_bs, kit_no hs0 hd_bs ht_bs hs_bs⟩, ⟨_, PySem.W.mg_of X G e_bn, kit_no hs0 hd_bn ht_bn hs_bn⟩, ⟨_, PySem.W.mg_of X G e_bp, kit_no hs0 hd_bp ht_bp hs_bp⟩, ⟨_, PySem.W.mg_of X G e_bq, kit_no hs0 hd_bq ht_bq hs_bq⟩, ⟨_, PySem.W.mg_of X G e_tl, kit_no hs0 hd_tl ht_tl hs_tl⟩, PySem.W.mg_of X G eT, ⟨_, _, PySem.W.mg_of X G e_te, PySem.W.mg_of X G e_tl, exm_3 (PySem.W.exm_ref hx_te hd_te ht_te hs_te) (PySem.W.exm_ref hx_tl hd_tl ht_tl hs_tl) (PySem.W.exm_ref xs xd yR hs0)⟩, EC, xo⟩
  have TM : TmF P K C fI cc cda := ⟨yI, yT, ⟨_, _, _, _, _, _, _, _, yF⟩, yC, ⟨_, _, _, _, _, _, yD, yE, yG⟩, yH, ⟨_, _, _, yJ⟩, ⟨_, _, _, _, _, _, _, _, _, _, _, _, _, _, yK⟩, yL, yM, yN, sup_mk yK, yP, yQ, xs, yR, yS⟩
  have D_is_text : DefAt K mg "is_text" s_is_text := defAt_mk X G a_is_text l_is_text c_is_text k_is_text
  have D_need_text : DefAt K mg "need_text" s_need_text := defAt_mk X G a_need_text l_need_text c_need_text k_need_text
  have D_copied_of : DefAt K mg "copied_of" s_copied_of := defAt_mk X G a_copied_of l_copied_of c_copied_of k_copied_of
  have D_stretches : DefAt K mg "stretches" s_stretches := defAt_mk X G a_stretches l_stretches c_stretches k_stretches
  have D_growing : DefAt K mg "growing" s_growing := defAt_mk X G a_growing l_growing c_growing k_growing
  have D_costs_from : DefAt K mg "costs_from" s_costs_from := defAt_mk X G a_costs_from l_costs_from c_costs_from k_costs_from
  have D_spots_of : DefAt K mg "spots_of" s_spots_of := defAt_mk X G a_spots_of l_spots_of c_spots_of k_spots_of
  have D_fewest_of : DefAt K mg "fewest_of" s_fewest_of := defAt_mk X G a_fewest_of l_fewest_of c_fewest_of k_fewest_of
  have D_short_root_of : DefAt K mg "short_root_of" s_short_root_of := defAt_mk X G a_short_root_of l_short_root_of c_short_root_of k_short_root_of
  have D_short_root : DefAt K mg "short_root" s_short_root := defAt_mk X G a_short_root l_short_root c_short_root k_short_root
  have D_are_short_kin : DefAt K mg "are_short_kin" s_are_short_kin := defAt_mk X G a_are_short_kin l_are_short_kin c_are_short_kin k_are_short_kin
  have D_next_doors : DefAt K mg "next_doors" s_next_doors := defAt_mk X G a_next_doors l_next_doors c_next_doors k_next_doors
  have D_doors_along : DefAt K mg "doors_along" s_doors_along := defAt_mk X G a_doors_along l_doors_along c_doors_along k_doors_along
  have D_does_grow : DefAt K mg "does_grow" s_does_grow := defAt_mk X G a_does_grow l_does_grow c_does_grow k_does_grow
  have D_need_both : DefAt K mg "need_both" s_need_both := defAt_mk X G a_need_both l_need_both c_need_both k_need_both
  have D_comes_short : DefAt K mg "comes_short" s_comes_short := defAt_mk X G a_comes_short l_comes_short c_comes_short k_comes_short
  have D_many_short : DefAt K mg "many_short" s_many_short := defAt_mk X G a_many_short l_many_short c_many_short k_many_short
  have D_undone_once : DefAt K mg "undone_once" s_undone_once := defAt_mk X G a_undone_once l_undone_once c_undone_once k_undone_once
  have D__law_mixed : DefAt K mg "_law_mixed" s__law_mixed := defAt_mk X G a__law_mixed l__law_mixed c__law_mixed k__law_mixed
  have D__law_folded : DefAt K mg "_law_folded" s__law_folded := defAt_mk X G a__law_folded l__law_folded c__law_folded k__law_folded
  have D__law_draw : DefAt K mg "_law_draw" s__law_draw := defAt_mk X G a__law_draw l__law_draw c__law_draw k__law_draw
  have D__law_begun : DefAt K mg "_law_begun" s__law_begun := defAt_mk X G a__law_begun l__law_begun c__law_begun k__law_begun
  have D__law_like : DefAt K mg "_law_like" s__law_like := defAt_mk X G a__law_like l__law_like c__law_like k__law_like
  have D__law_of : DefAt K mg "_law_of" s__law_of := defAt_mk X G a__law_of l__law_of c__law_of k__law_of
  have D__law_error_word : DefAt K mg "_law_error_word" s__law_error_word := defAt_mk X G a__law_error_word l__law_error_word c__law_error_word k__law_error_word
  have D__law_told : DefAt K mg "_law_told" s__law_told := defAt_mk X G a__law_told l__law_told c__law_told k__law_told
  have D__law_is : DefAt K mg "_law_is" s__law_is := defAt_mk X G a__law_is l__law_is c__law_is k__law_is
  have D__law_row : DefAt K mg "_law_row" s__law_row := defAt_mk X G a__law_row l__law_row c__law_row k__law_row
  have D__law_word : DefAt K mg "_law_word" s__law_word := defAt_mk X G a__law_word l__law_word c__law_word k__law_word
  have D__law_copied : DefAt K mg "_law_copied" s__law_copied := defAt_mk X G a__law_copied l__law_copied c__law_copied k__law_copied
  have D__law_grown : DefAt K mg "_law_grown" s__law_grown := defAt_mk X G a__law_grown l__law_grown c__law_grown k__law_grown
  have D__law_twins : DefAt K mg "_law_twins" s__law_twins := defAt_mk X G a__law_twins l__law_twins c__law_twins k__law_twins
  have D__law_taken : DefAt K mg "_law_taken" s__law_taken := defAt_mk X G a__law_taken l__law_taken c__law_taken k__law_taken
  have D__law_olds : DefAt K mg "_law_olds" s__law_olds := defAt_mk X G a__law_olds l__law_olds c__law_olds k__law_olds
  have D__law_bottom : DefAt K mg "_law_bottom" s__law_bottom := defAt_mk X G a__law_bottom l__law_bottom c__law_bottom k__law_bottom
  have D__law_beside : DefAt K mg "_law_beside" s__law_beside := defAt_mk X G a__law_beside l__law_beside c__law_beside k__law_beside
  have D__law_asked_right : DefAt K mg "_law_asked_right" s__law_asked_right := defAt_mk X G a__law_asked_right l__law_asked_right c__law_asked_right k__law_asked_right
  have D_short_elders : DefC K mg "short_elders" s_short_elders (.ref c1) := defC_mk X G a_short_elders l_short_elders c_short_elders k_short_elders
  have D__law_right : DefC K mg "_law_right" s__law_right (.ref c2) := defC_mk X G a__law_right l__law_right c__law_right k__law_right
  have D__law_great_right : DefC K mg "_law_great_right" s__law_great_right (.ref c3) := defC_mk X G a__law_great_right l__law_great_right c__law_great_right k__law_great_right
  have D_law : DefC K mg "law" s_law (.ref c4) := defC_mk X G a_law l_law c_law k_law
  subst hP
  refine ⟨[(c1, P1), (c2, P2), (c3, P3)], sp_law (tbls P1 P2 P3) K, fun p hp => ?_, fun H a ns hl hT hS => ?_, fun base hK hN hB => ?_⟩
  · rcases List.mem_cons.mp hp with rfl | hp
    · exact ⟨tG1, tN1, PySem.W.codeHd_of_K X (hd_mk v1 h1)⟩
    · rcases List.mem_cons.mp hp with rfl | hp
      · exact ⟨tG2, tN2, PySem.W.codeHd_of_K X (hd_mk v2 h2)⟩
      · rcases List.mem_cons.mp hp with rfl | hp
        · exact ⟨tG3, tN3, PySem.W.codeHd_of_K X (hd_mk v3 h3)⟩
        · cases hp
  · refine ⟨a, ns, rfl, hS, Nat.le_trans hl (by decide), fun p hp => ?_, fun H' => rfl⟩
    rcases List.mem_cons.mp hp with rfl | hp
    · exact TabS.nil (hT (c1, P1) (List.mem_cons_self ..))
    · rcases List.mem_cons.mp hp with rfl | hp
      · exact TabS.nil (hT (c2, P2) (List.mem_cons_of_mem _ (List.mem_cons_self ..)))
      · rcases List.mem_cons.mp hp with rfl | hp
        · exact TabS.nil (hT (c3, P3) (List.mem_cons_of_mem _ (List.mem_cons_of_mem _ (List.mem_cons_self ..))))
        · cases hp
  · exact go_of (all_law GG ER TM (PySem.W.mg_none_of X G b_super) (hB (c1, P1) (List.mem_cons_self ..)) (hB (c2, P2) (List.mem_cons_of_mem _ (List.mem_cons_self ..))) (hB (c3, P3) (List.mem_cons_of_mem _ (List.mem_cons_of_mem _ (List.mem_cons_self ..)))) d12 d13 d23
      D_is_text D_need_text D_copied_of D_stretches D_growing D_costs_from D_spots_of D_fewest_of D_short_root_of D_short_root D_are_short_kin D_next_doors D_doors_along D_does_grow D_need_both D_comes_short D_many_short D_undone_once D__law_mixed D__law_folded D__law_draw D__law_begun D__law_like D__law_of D__law_error_word D__law_told D__law_is D__law_row D__law_word D__law_copied D__law_grown D__law_twins D__law_taken D__law_olds D__law_bottom D__law_beside D__law_asked_right D_short_elders D__law_right D__law_great_right D_law) hfa
end
end TW
set_option Elab.async false
set_option linter.all false
set_option maxRecDepth 100000
open PySem PySem.W PyProof.Rows
set_option maxHeartbeats 0 in
theorem PySem.Challenge.cw_twicewritten_k40_whole_short_copies_holds : PySem.Challenge.rw_twicewritten_k40_whole_short_copies.Holds := by
  w_on; o_law; k_head; (case hw => w_witness2)
  k_fill
  refine TW.walk_go (n := 63) (k := 9) rfl (by decide) rfl ⟨rfl, by decide, by decide⟩ rfl (fun w h Y => PySem.W.km_in_of Y) ?F
  case F =>
    intro w mg fa h Y KX G hmg
    refine' TW.all_mk KX G rfl hmg ?a_is_text ?l_is_text ?c_is_text ?k_is_text ?a_need_text ?l_need_text ?c_need_text ?k_need_text ?a_copied_of ?l_copied_of ?c_copied_of ?k_copied_of ?a_stretches ?l_stretches ?c_stretches ?k_stretches ?a_growing ?l_growing ?c_growing ?k_growing ?a_costs_from ?l_costs_from ?c_costs_from ?k_costs_from ?a_spots_of ?l_spots_of ?c_spots_of ?k_spots_of ?a_fewest_of ?l_fewest_of ?c_fewest_of ?k_fewest_of ?a_short_root_of ?l_short_root_of ?c_short_root_of ?k_short_root_of ?a_short_root ?l_short_root ?c_short_root ?k_short_root ?a_are_short_kin ?l_are_short_kin ?c_are_short_kin ?k_are_short_kin ?a_next_doors ?l_next_doors ?c_next_doors ?k_next_doors ?a_doors_along ?l_doors_along ?c_doors_along ?k_doors_along ?a_does_grow ?l_does_grow ?c_does_grow ?k_does_grow ?a_need_both ?l_need_both ?c_need_both ?k_need_both ?a_comes_short ?l_comes_short ?c_comes_short ?k_comes_short ?a_many_short ?l_many_short ?c_many_short ?k_many_short ?a_undone_once ?l_undone_once ?c_undone_once ?k_undone_once ?a__law_mixed ?l__law_mixed ?c__law_mixed ?k__law_mixed ?a__law_folded ?l__law_folded ?c__law_folded ?k__law_folded ?a__law_draw ?l__law_draw ?c__law_draw ?k__law_draw ?a__law_begun ?l__law_begun ?c__law_begun ?k__law_begun ?a__law_like ?l__law_like ?c__law_like ?k__law_like ?a__law_of ?l__law_of ?c__law_of ?k__law_of ?a__law_error_word ?l__law_error_word ?c__law_error_word ?k__law_error_word ?a__law_told ?l__law_told ?c__law_told ?k__law_told ?a__law_is ?l__law_is ?c__law_is ?k__law_is ?a__law_row ?l__law_row ?c__law_row ?k__law_row ?a__law_word ?l__law_word ?c__law_word ?k__law_word ?a__law_copied ?l__law_copied ?c__law_copied ?k__law_copied ?a__law_grown ?l__law_grown ?c__law_grown ?k__law_grown ?a__law_twins ?l__law_twins ?c__law_twins ?k__law_twins ?a__law_taken ?l__law_taken ?c__law_taken ?k__law_taken ?a__law_olds ?l__law_olds ?c__law_olds ?k__law_olds ?a__law_bottom ?l__law_bottom ?c__law_bottom ?k__law_bottom ?a__law_beside ?l__law_beside ?c__law_beside ?k__law_beside ?a__law_asked_right ?l__law_asked_right ?c__law_asked_right ?k__law_asked_right ?a_short_elders ?l_short_elders ?c_short_elders ?k_short_elders ?a__law_right ?l__law_right ?c__law_right ?k__law_right ?a__law_great_right ?l__law_great_right ?c__law_great_right ?k__law_great_right ?a_law ?l_law ?c_law ?k_law ?v1 ?p1 ?h1 ?tN1 ?tG1 ?v2 ?p2 ?h2 ?tN2 ?tG2 ?v3 ?p3 ?h3 ?tN3 ?tG3 ?d12 ?d13 ?d23 ?gL ?gM ?gT ?b_len ?b_range ?b_enumerate ?b_zip ?b_sum ?b_all ?b_sorted ?b_tuple ?b_list ?b_int ?b_str ?b_min ?b_repr ?b_isinstance ?b_super ?eT ?hs0 ?e_bl ?hd_bl ?ht_bl ?hs_bl ?e_bs ?hd_bs ?ht_bs ?hs_bs ?e_bn ?hd_bn ?ht_bn ?hs_bn ?e_bp ?hd_bp ?ht_bp ?hs_bp ?e_bq ?hd_bq ?ht_bq ?hs_bq ?e_tl ?hd_tl ?ht_tl ?hs_tl ?e_te ?hd_te ?ht_te ?hs_te ?hx_te ?hx_tl ?xg ?xk ?xs ?xd ?xa ?xn ?xt ?xm ?xo ?yI ?yT ?yF ?yC ?yD ?yE ?yG ?yH ?yJ ?yK ?yL ?yM ?yN ?yP ?yQ ?yR ?yS
    (case a_is_text => k_is)
    (case l_is_text => k_is)
    (case c_is_text => k_is)
    (case k_is_text => k_is)
    (case a_need_text => k_is)
    (case l_need_text => k_is)
    (case c_need_text => k_is)
    (case k_need_text => k_is)
    (case a_copied_of => k_is)
    (case l_copied_of => k_is)
    (case c_copied_of => k_is)
    (case k_copied_of => k_is)
    (case a_stretches => k_is)
    (case l_stretches => k_is)
    (case c_stretches => k_is)
    (case k_stretches => k_is)
    (case a_growing => k_is)
    (case l_growing => k_is)
    (case c_growing => k_is)
    (case k_growing => k_is)
    (case a_costs_from => k_is)
    (case l_costs_from => k_is)
    (case c_costs_from => k_is)
    (case k_costs_from => k_is)
    (case a_spots_of => k_is)
    (case l_spots_of => k_is)
    (case c_spots_of => k_is)
    (case k_spots_of => k_is)
    (case a_fewest_of => k_is)
    (case l_fewest_of => k_is)
    (case c_fewest_of => k_is)
    (case k_fewest_of => k_is)
    (case a_short_root_of => k_is)
    (case l_short_root_of => k_is)
    (case c_short_root_of => k_is)
    (case k_short_root_of => k_is)
    (case a_short_root => k_is)
    (case l_short_root => k_is)
    (case c_short_root => k_is)
    (case k_short_root => k_is)
    (case a_are_short_kin => k_is)
    (case l_are_short_kin => k_is)
    (case c_are_short_kin => k_is)
    (case k_are_short_kin => k_is)
    (case a_next_doors => k_is)
    (case l_next_doors => k_is)
    (case c_next_doors => k_is)
    (case k_next_doors => k_is)
    (case a_doors_along => k_is)
    (case l_doors_along => k_is)
    (case c_doors_along => k_is)
    (case k_doors_along => k_is)
    (case a_does_grow => k_is)
    (case l_does_grow => k_is)
    (case c_does_grow => k_is)
    (case k_does_grow => k_is)
    (case a_need_both => k_is)
    (case l_need_both => k_is)
    (case c_need_both => k_is)
    (case k_need_both => k_is)
    (case a_comes_short => k_is)
    (case l_comes_short => k_is)
    (case c_comes_short => k_is)
    (case k_comes_short => k_is)
    (case a_many_short => k_is)
    (case l_many_short => k_is)
    (case c_many_short => k_is)
    (case k_many_short => k_is)
    (case a_undone_once => k_is)
    (case l_undone_once => k_is)
    (case c_undone_once => k_is)
    (case k_undone_once => k_is)
    (case a__law_mixed => k_is)
    (case l__law_mixed => k_is)
    (case c__law_mixed => k_is)
    (case k__law_mixed => k_is)
    (case a__law_folded => k_is)
    (case l__law_folded => k_is)
    (case c__law_folded => k_is)
    (case k__law_folded => k_is)
    (case a__law_draw => k_is)
    (case l__law_draw => k_is)
    (case c__law_draw => k_is)
    (case k__law_draw => k_is)
    (case a__law_begun => k_is)
    (case l__law_begun => k_is)
    (case c__law_begun => k_is)
    (case k__law_begun => k_is)
    (case a__law_like => k_is)
    (case l__law_like => k_is)
    (case c__law_like => k_is)
    (case k__law_like => k_is)
    (case a__law_of => k_is)
    (case l__law_of => k_is)
    (case c__law_of => k_is)
    (case k__law_of => k_is)
    (case a__law_error_word => k_is)
    (case l__law_error_word => k_is)
    (case c__law_error_word => k_is)
    (case k__law_error_word => k_is)
    (case a__law_told => k_is)
    (case l__law_told => k_is)
    (case c__law_told => k_is)
    (case k__law_told => k_is)
    (case a__law_is => k_is)
    (case l__law_is => k_is)
    (case c__law_is => k_is)
    (case k__law_is => k_is)
    (case a__law_row => k_is)
    (case l__law_row => k_is)
    (case c__law_row => k_is)
    (case k__law_row => k_is)
    (case a__law_word => k_is)
    (case l__law_word => k_is)
    (case c__law_word => k_is)
    (case k__law_word => k_is)
    (case a__law_copied => k_is)
    (case l__law_copied => k_is)
    (case c__law_copied => k_is)
    (case k__law_copied => k_is)
    (case a__law_grown => k_is)
    (case l__law_grown => k_is)
    (case c__law_grown => k_is)
    (case k__law_grown => k_is)
    (case a__law_twins => k_is)
    (case l__law_twins => k_is)
    (case c__law_twins => k_is)
    (case k__law_twins => k_is)
    (case a__law_taken => k_is)
    (case l__law_taken => k_is)
    (case c__law_taken => k_is)
    (case k__law_taken => k_is)
    (case a__law_olds => k_is)
    (case l__law_olds => k_is)
    (case c__law_olds => k_is)
    (case k__law_olds => k_is)
    (case a__law_bottom => k_is)
    (case l__law_bottom => k_is)
    (case c__law_bottom => k_is)
    (case k__law_bottom => k_is)
    (case a__law_beside => k_is)
    (case l__law_beside => k_is)
    (case c__law_beside => k_is)
    (case k__law_beside => k_is)
    (case a__law_asked_right => k_is)
    (case l__law_asked_right => k_is)
    (case c__law_asked_right => k_is)
    (case k__law_asked_right => k_is)
    (case a_short_elders => k_is)
    (case l_short_elders => k_is)
    (case c_short_elders => k_is)
    (case k_short_elders => k_is)
    (case a__law_right => k_is)
    (case l__law_right => k_is)
    (case c__law_right => k_is)
    (case k__law_right => k_is)
    (case a__law_great_right => k_is)
    (case l__law_great_right => k_is)
    (case c__law_great_right => k_is)
    (case k__law_great_right => k_is)
    (case a_law => k_is)
    (case l_law => k_is)
    (case c_law => k_is)
    (case k_law => k_is)
    (case v1 => k_is)
    (case p1 => exact rfl)
    (case h1 => first | exact rfl | decide +kernel | kernel_rfl)
    (case tN1 => first | kernel_rfl | exact rfl)
    (case tG1 => exact PySem.W.km_tabs_of Y _ (by decide))
    (case v2 => k_is)
    (case p2 => exact rfl)
    (case h2 => first | exact rfl | decide +kernel | kernel_rfl)
    (case tN2 => first | kernel_rfl | exact rfl)
    (case tG2 => exact PySem.W.km_tabs_of Y _ (by decide))
    (case v3 => k_is)
    (case p3 => exact rfl)
    (case h3 => first | exact rfl | decide +kernel | kernel_rfl)
    (case tN3 => first | kernel_rfl | exact rfl)
    (case tG3 => exact PySem.W.km_tabs_of Y _ (by decide))
    (case d12 => decide)
    (case d13 => decide)
    (case d23 => decide)
    (case gL => k_is)
    (case gM => k_is)
    (case gT => k_is)
    (case b_len => k_is)
    (case b_range => k_is)
    (case b_enumerate => k_is)
    (case b_zip => k_is)
    (case b_sum => k_is)
    (case b_all => k_is)
    (case b_sorted => k_is)
    (case b_tuple => k_is)
    (case b_list => k_is)
    (case b_int => k_is)
    (case b_str => k_is)
    (case b_min => k_is)
    (case b_repr => k_is)
    (case b_isinstance => k_is)
    (case b_super => k_is)
    (case eT => k_is)
    (case hs0 => k_is)
    (case e_bl => k_is)
    (case hd_bl => k_is)
    (case ht_bl => k_is)
    (case hs_bl => k_is)
    (case e_bs => k_is)
    (case hd_bs => k_is)
    (case ht_bs => k_is)
    (case hs_bs => k_is)
    (case e_bn => k_is)
    (case hd_bn => k_is)
    (case ht_bn => k_is)
    (case hs_bn => k_is)
    (case e_bp => k_is)
    (case hd_bp => k_is)
    (case ht_bp => k_is)
    (case hs_bp => k_is)
    (case e_bq => k_is)
    (case hd_bq => k_is)
    (case ht_bq => k_is)
    (case hs_bq => k_is)
    (case e_tl => k_is)
    (case hd_tl => k_is)
    (case ht_tl => k_is)
    (case hs_tl => k_is)
    (case e_te => k_is)
    (case hd_te => k_is)
    (case ht_te => k_is)
    (case hs_te => k_is)
    (case hx_te => k_is)
    (case hx_tl => k_is)
    (case xg => k_is)
    (case xk => k_is)
    (case xs => k_is)
    (case xd => k_is)
    (case xa => k_is)
    (case xn => k_is)
    (case xt => k_is)
    (case xm => k_is)
    (case xo => k_is)
    (case yI => k_is)
    (case yT => k_is)
    (case yF => k_is)
    (case yC => k_is)
    (case yD => k_is)
    (case yE => exact rfl)
    (case yG => first | rfl | decide +kernel | k_is)
    (case yH => first | rfl | decide +kernel | k_is)
    (case yJ => k_is)
    (case yK => k_is)
    (case yL => k_is)
    (case yM => k_is)
    (case yN => k_is)
    (case yP => k_is)
    (case yQ => k_is)
    (case yR => k_is)
    (case yS => k_is)
