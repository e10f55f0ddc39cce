import PyProof.Rows.All
import Wide.All
import OpenK.AllK
import Wide.FinOn
import PyProof.EqAt
import PyProof.EqKinds
import PyProof.TupleCall
import HandS.ForMost
import HandS.Lambda
import HandS.TupAny
import HandS.TupMul
import HandS.IsInst
import HandS.Rev
import HandS.RevRange
import HandS.Zip
import HandS.More
import HandS.WordsExc
import HandS.ExcInit
import HandS.TryMany
import HandS.CallSlots
import KE.GoesNew
import KE.GoesMore
import KE.GoesEnum
import KE.GoesZip
import HandS.HeadNt
import HandS.HeadHook4
import HandS.Conv
import HandS.Style
import KE.KDictZip
import HandS.GenList
import HandS.Keys
import HandS.ExcField
import HandS.Head0
import HandS.Head1
import HandS.Head2
import HandS.HeadWalk
import HandS.EndBits
import PySem.Challenge.RW_stairyard_k45_whole_least_and_most_more
set_option Elab.async false
set_option linter.all false
set_option maxRecDepth 100000
/-! # Plain mathematics: walks, rings -/
namespace Mt
/-- edges: from, cost, to -/
abbrev Ed := Nat → Int → Nat → Prop
/-- a walk, told by the places behind its start -/
inductive Wl (E : Ed) : Nat → List Nat → Nat → Int → Prop
  | nil (p : Nat) : Wl E p [] p 0
  | cons {p q r : Nat} {l : List Nat} {c s : Int} (h : E p c q) (w : Wl E q l r s) : Wl E p (q :: l) r (c + s)
def Rc (E : Ed) (p q : Nat) : Prop := ∃ l s, Wl E p l q s
/-- a ring of positive sum that can be reached from p -/
def PR (E : Ed) (p : Nat) : Prop := ∃ q l s, Rc E p q ∧ l ≠ [] ∧ Wl E q l q s ∧ 0 < s
/-- all places are below n -/
def Be (n : Nat) (E : Ed) : Prop := ∀ p c q, E p c q → p < n ∧ q < n

theorem Wl.app {E : Ed} {p q r : Nat} {l m : List Nat} {s t : Int} (a : Wl E p l q s) (b : Wl E q m r t) : Wl E p (l ++ m) r (s + t) := by
  induction a with
  | nil p => rw [Int.zero_add]; exact b
  | cons h w ih => rw [Int.add_assoc]; exact .cons h (ih b)
theorem Wl.one {E : Ed} {p q : Nat} {c : Int} (h : E p c q) : Wl E p [q] q c := by
  have z := Wl.cons h (Wl.nil q)
  rw [Int.add_zero] at z; exact z
theorem Wl.snoc {E : Ed} {p q r : Nat} {l : List Nat} {c s : Int} (a : Wl E p l q s) (h : E q c r) : Wl E p (l ++ [r]) r (s + c) := a.app (.one h)
theorem Wl.mono {E F : Ed} (k : ∀ p c q, E p c q → F p c q) {p q : Nat} {l : List Nat} {s : Int} (a : Wl E p l q s) : Wl F p l q s := by
  induction a with
  | nil p => exact .nil p
  | cons h w ih => exact .cons (k _ _ _ h) ih
/-- other costs -/
theorem Wl.cost {E F : Ed} (k : ∀ p c q, E p c q → ∃ d, F p d q) {p q : Nat} {l : List Nat} {s : Int} (a : Wl E p l q s) : ∃ t, Wl F p l q t := by
  induction a with
  | nil p => exact ⟨0, .nil p⟩
  | cons h w ih =>
    obtain ⟨d, hd⟩ := k _ _ _ h
    obtain ⟨t, ht⟩ := ih
    exact ⟨d + t, .cons hd ht⟩
theorem Rc.refl {E : Ed} (p : Nat) : Rc E p p := ⟨[], 0, .nil p⟩
theorem Rc.trans {E : Ed} {p q r : Nat} (a : Rc E p q) (b : Rc E q r) : Rc E p r := by
  obtain ⟨l, s, a⟩ := a
  obtain ⟨m, t, b⟩ := b
  exact ⟨_, _, a.app b⟩
theorem Rc.cost {E F : Ed} (k : ∀ p c q, E p c q → ∃ d, F p d q) {p q : Nat} (a : Rc E p q) : Rc F p q := by
  obtain ⟨l, s, a⟩ := a
  obtain ⟨t, ht⟩ := a.cost k
  exact ⟨l, t, ht⟩
theorem Wl.split {E : Ed} {p r : Nat} {q : Nat} : ∀ {l1 l2 : List Nat} {s : Int}, Wl E p (l1 ++ q :: l2) r s → ∃ s1 s2, Wl E p (l1 ++ [q]) q s1 ∧ Wl E q l2 r s2 ∧ s = s1 + s2 := by
  intro l1
  induction l1 generalizing p with
  | nil =>
    intro l2 s h
    cases h with
    | cons h w => exact ⟨_, _, .one h, w, rfl⟩
  | cons a l ih =>
    intro l2 s h
    cases h with
    | cons h w =>
      obtain ⟨s1, s2, h1, h2, e⟩ := ih w
      exact ⟨_, s2, .cons h h1, h2, by rw [e, Int.add_assoc]⟩
theorem Wl.last {E : Ed} {p r : Nat} {l : List Nat} {s : Int} (h : Wl E p l r s) (n : l ≠ []) : r ∈ l := by
  induction h with
  | nil p => exact absurd rfl n
  | @cons p q r l c s h w ih =>
    cases l with
    | nil => cases w; exact List.mem_cons_self
    | cons a l => exact List.mem_cons_of_mem _ (ih (by simp))
theorem Wl.low {E : Ed} {n : Nat} (hb : Be n E) {p r : Nat} {l : List Nat} {s : Int} (h : Wl E p l r s) : ∀ x ∈ l, x < n := by
  induction h with
  | nil p => intro x hx; cases hx
  | cons h w ih =>
    intro x hx
    rcases List.mem_cons.mp hx with e | e
    · rw [e]; exact (hb _ _ _ h).2
    · exact ih x e
theorem nodup_le : ∀ (n : Nat) (l : List Nat), (∀ x ∈ l, x < n) → l.Nodup → l.length ≤ n
  | 0, [], _, _ => Nat.le_refl _
  | 0, a :: l, h, _ => absurd (h a List.mem_cons_self) (Nat.not_lt_zero _)
  | n + 1, l, h, nd => by
    by_cases hn : n ∈ l
    · have h1 := nodup_le n (l.erase n) (fun x hx => by
        have hm := (List.Nodup.mem_erase_iff nd).mp hx
        have := h x hm.2
        have := hm.1
        omega) (nd.erase n)
      rw [List.length_erase_of_mem hn] at h1
      omega
    · have h1 := nodup_le n l (fun x hx => by
        have := h x hx
        have : x ≠ n := fun e => hn (e ▸ hx)
        omega) nd
      omega
/-- a place met twice -/
theorem twice : ∀ (l : List Nat), ¬ l.Nodup → ∃ a b c x, l = a ++ x :: (b ++ x :: c)
  | [], h => absurd List.nodup_nil h
  | y :: l, h => by
    by_cases hy : y ∈ l
    · obtain ⟨b, c, e⟩ := List.append_of_mem hy
      exact ⟨[], b, c, y, by rw [e]; rfl⟩
    · have : ¬ l.Nodup := fun nd => h (List.nodup_cons.mpr ⟨hy, nd⟩)
      obtain ⟨a, b, c, x, e⟩ := twice l this
      exact ⟨y :: a, b, c, x, by rw [e]; rfl⟩
/-- a long walk has a ring in it -/
theorem Wl.loop {E : Ed} {p r : Nat} {l : List Nat} {s : Int} (h : Wl E p l r s) (nd : ¬ (p :: l).Nodup) :
    ∃ q l1 l2 l3 s1 s2 s3, l = l1 ++ (l2 ++ l3) ∧ l2 ≠ [] ∧ Wl E p l1 q s1 ∧ Wl E q l2 q s2 ∧ Wl E q l3 r s3 ∧ s = s1 + (s2 + s3) := by
  obtain ⟨a, b, c, x, e⟩ := twice _ nd
  cases a with
  | nil =>
    rw [List.nil_append] at e
    injection e with e1 e2
    subst e1
    rw [e2] at h
    obtain ⟨s1, s2, h1, h2, es⟩ := h.split
    exact ⟨p, [], b ++ [p], c, 0, s1, s2, by rw [e2]; simp, by simp, .nil p, h1, h2, by rw [es]; omega⟩
  | cons y a =>
    have e' : p :: l = y :: (a ++ x :: (b ++ x :: c)) := e
    injection e' with e1 e2
    rw [e2] at h
    obtain ⟨s1, s2, h1, h2, es⟩ := h.split
    obtain ⟨s3, s4, h3, h4, es2⟩ := h2.split
    exact ⟨x, a ++ [x], b ++ [x], c, s1, s3, s4, by rw [e2]; simp, by simp, h1, h3, h4, by rw [es, es2]⟩
section
variable {E : Ed} {n : Nat} (hb : Be n E)
include hb
/-- no positive ring: short walks are as good -/
theorem short {p : Nat} (hp : p < n) (np : ¬ PR E p) : ∀ (k : Nat) (l : List Nat) (r : Nat) (s : Int), l.length ≤ k → Wl E p l r s → ∃ l' s', Wl E p l' r s' ∧ l'.length < n ∧ s ≤ s' := by
  intro k
  induction k with
  | zero =>
    intro l r s hl w
    exact ⟨l, s, w, by omega, Int.le_refl _⟩
  | succ k ih =>
    intro l r s hl w
    by_cases h : l.length < n
    · exact ⟨l, s, w, h, Int.le_refl _⟩
    · have nd : ¬ (p :: l).Nodup := fun nd => by
        have := nodup_le n (p :: l) (fun x hx => by
          rcases List.mem_cons.mp hx with e | e
          · rw [e]; exact hp
          · exact w.low hb x e) nd
        rw [List.length_cons] at this
        omega
      obtain ⟨q, l1, l2, l3, s1, s2, s3, e, n2, h1, h2, h3, es⟩ := w.loop nd
      have hs2 : s2 ≤ 0 := by
        apply Int.not_lt.mp
        intro hs
        exact np ⟨q, l2, s2, ⟨l1, s1, h1⟩, n2, h2, hs⟩
      have hlen : 0 < l2.length := List.length_pos_iff.mpr n2
      have el : l.length = l1.length + (l2.length + l3.length) := by rw [e]; simp
      obtain ⟨l', s', w', hl', hs'⟩ := ih (l1 ++ l3) r (s1 + s3) (by rw [List.length_append]; omega) (h1.app h3)
      exact ⟨l', s', w', hl', by omega⟩
/-- what can be reached can be reached by a short walk -/
theorem rc_short {p r : Nat} (hp : p < n) : ∀ (k : Nat) (l : List Nat) (s : Int), l.length ≤ k → Wl E p l r s → ∃ l' s', Wl E p l' r s' ∧ l'.length < n := by
  intro k
  induction k with
  | zero =>
    intro l s hl w
    exact ⟨l, s, w, by omega⟩
  | succ k ih =>
    intro l s hl w
    by_cases h : l.length < n
    · exact ⟨l, s, w, h⟩
    · have nd : ¬ (p :: l).Nodup := fun nd => by
        have := nodup_le n (p :: l) (fun x hx => by
          rcases List.mem_cons.mp hx with e | e
          · rw [e]; exact hp
          · exact w.low hb x e) nd
        rw [List.length_cons] at this
        omega
      obtain ⟨q, l1, l2, l3, s1, s2, s3, e, n2, h1, h2, h3, es⟩ := w.loop nd
      have hlen : 0 < l2.length := List.length_pos_iff.mpr n2
      have el : l.length = l1.length + (l2.length + l3.length) := by rw [e]; simp
      exact ih (l1 ++ l3) _ (by rw [List.length_append]; omega) (h1.app h3)
/-- a positive ring: a short one -/
theorem ring_short {p : Nat} : ∀ (k : Nat) (q : Nat) (l : List Nat) (s : Int), l.length ≤ k → Rc E p q → l ≠ [] → Wl E q l q s → 0 < s → ∃ q' l' s', Rc E p q' ∧ l' ≠ [] ∧ Wl E q' l' q' s' ∧ 0 < s' ∧ l'.length ≤ n := by
  intro k
  induction k with
  | zero =>
    intro q l s hl hr nl
    exact absurd (List.length_eq_zero_iff.mp (Nat.le_zero.mp hl)) nl
  | succ k ih =>
    intro q l s hl hr nl w hs
    by_cases h : l.length ≤ n
    · exact ⟨q, l, s, hr, nl, w, hs, h⟩
    · cases w with
      | nil => exact absurd rfl nl
      | @cons _ q1 _ l c s0 he w =>
        have nd : ¬ (q1 :: l).Nodup := fun nd => by
          have := nodup_le n (q1 :: l) (fun x hx => by
            rcases List.mem_cons.mp hx with e | e
            · rw [e]; exact (hb _ _ _ he).2
            · exact w.low hb x e) nd
          omega
        obtain ⟨x, l1, l2, l3, s1, s2, s3, e, n2, h1, h2, h3, es⟩ := w.loop nd
        have hlen : 0 < l2.length := List.length_pos_iff.mpr n2
        have el : l.length = l1.length + (l2.length + l3.length) := by rw [e]; simp
        rw [List.length_cons] at hl
        by_cases c2 : 0 < s2
        · exact ih x l2 s2 (by omega) (hr.trans (Rc.trans ⟨_, _, .one he⟩ ⟨l1, s1, h1⟩)) n2 h2 c2
        · exact ih q (q1 :: (l1 ++ l3)) (c + (s1 + s3)) (by rw [List.length_cons, List.length_append]; omega) hr (by simp) (.cons he (h1.app h3)) (by omega)
end
theorem PR.short {E : Ed} {n p : Nat} (hb : Be n E) (h : PR E p) : ∃ q l s, Rc E p q ∧ l ≠ [] ∧ Wl E q l q s ∧ 0 < s ∧ l.length ≤ n := by
  obtain ⟨q, l, s, h1, h2, h3, h4⟩ := h
  exact ring_short hb l.length q l s (Nat.le_refl _) h1 h2 h3 h4
theorem PR.from {E : Ed} {p q : Nat} (r : Rc E p q) (h : PR E q) : PR E p := by
  obtain ⟨x, l, s, h1, h2⟩ := h
  exact ⟨x, l, s, r.trans h1, h2⟩

/-! ## one edge more -/
/-- the edges of E, and one from a to b of cost x -/
def Pl (E : Ed) (a : Nat) (x : Int) (b : Nat) : Ed := fun p c q => E p c q ∨ (p = a ∧ c = x ∧ q = b)
section
variable {E : Ed} {a b : Nat} {x : Int}
/-- a walk keeps to E, or breaks at its first use of the edge -/
theorem Pl.break {p r : Nat} {l : List Nat} {s : Int} (w : Wl (Pl E a x b) p l r s) : Wl E p l r s ∨ ∃ l1 s1 l2 s2, Wl E p l1 a s1 ∧ Wl (Pl E a x b) b l2 r s2 ∧ s = s1 + (x + s2) ∧ l2.length < l.length := by
  induction w with
  | nil p => exact .inl (.nil p)
  | @cons p q r l c s h w ih =>
    rcases h with h | ⟨rfl, rfl, rfl⟩
    · rcases ih with ih | ⟨l1, s1, l2, s2, h1, h2, e, hl⟩
      · exact .inl (.cons h ih)
      · exact .inr ⟨_, _, l2, s2, .cons h h1, h2, by rw [e]; omega, by rw [List.length_cons]; omega⟩
    · exact .inr ⟨[], 0, l, s, .nil p, w, by omega, by rw [List.length_cons]; omega⟩
theorem Pl.sub : ∀ p c q, E p c q → Pl E a x b p c q := fun _ _ _ h => .inl h
theorem Pl.edge : Pl E a x b a x b := .inr ⟨rfl, rfl, rfl⟩
/-- from b to a -/
theorem Pl.back : ∀ (k : Nat) (l : List Nat) (s : Int), l.length ≤ k → Wl (Pl E a x b) b l a s → ∃ m t, Wl E b m a t := by
  intro k l s hl w
  rcases Pl.break w with w | ⟨l1, s1, l2, s2, h1, h2, e, hl2⟩
  · exact ⟨l, s, w⟩
  · exact ⟨l1, s1, h1⟩
theorem Pl.best {M : Int} (hM : ∀ l s, Wl E b l a s → s ≤ M) (hx : x + M ≤ 0) : ∀ (k : Nat) (l : List Nat) (s : Int), l.length ≤ k → Wl (Pl E a x b) b l a s → s ≤ M := by
  intro k
  induction k with
  | zero =>
    intro l s hl w
    rcases Pl.break w with w | ⟨l1, s1, l2, s2, h1, h2, e, hl2⟩
    · exact hM l s w
    · omega
  | succ k ih =>
    intro l s hl w
    rcases Pl.break w with w | ⟨l1, s1, l2, s2, h1, h2, e, hl2⟩
    · exact hM l s w
    · have h3 := hM l1 s1 h1
      have h4 := ih l2 s2 (by omega) h2
      omega
/-- a ring that can be reached: of E alone, or through the edge -/
theorem Pl.ring {p q : Nat} {l : List Nat} {s : Int} (hr : Rc (Pl E a x b) p q) (nl : l ≠ []) (w : Wl (Pl E a x b) q l q s) : (Wl E q l q s) ∨ (Rc (Pl E a x b) p a ∧ ∃ m t, Wl (Pl E a x b) b m a t ∧ s = x + t) := by
  rcases Pl.break w with w | ⟨l1, s1, l2, s2, h1, h2, e, hl2⟩
  · exact .inl w
  · exact .inr ⟨hr.trans ⟨l1, s1, h1.mono Pl.sub⟩, _, _, h2.app (h1.mono Pl.sub), by omega⟩
/-- other positive rings -/
def Oth (E : Ed) (a : Nat) (x : Int) (b : Nat) (p : Nat) : Prop := ∃ q l s, Rc (Pl E a x b) p q ∧ l ≠ [] ∧ Wl E q l q s ∧ 0 < s
theorem pr_oth {p : Nat} (h : Oth E a x b p) : PR (Pl E a x b) p := by
  obtain ⟨q, l, s, h1, h2, h3, h4⟩ := h
  exact ⟨q, l, s, h1, h2, h3.mono Pl.sub, h4⟩
theorem pr_far {p : Nat} (h : ¬ Oth E a x b p) (hf : ¬ Rc (Pl E a x b) p a) : ¬ PR (Pl E a x b) p := fun ⟨q, l, s, h1, h2, h3, h4⟩ => by
  rcases Pl.ring h1 h2 h3 with w | ⟨w, _⟩
  · exact h ⟨q, l, s, h1, h2, w, h4⟩
  · exact hf w
theorem pr_cut {p : Nat} (h : ¬ Oth E a x b p) (hf : ¬ Rc E b a) : ¬ PR (Pl E a x b) p := fun ⟨q, l, s, h1, h2, h3, h4⟩ => by
  rcases Pl.ring h1 h2 h3 with w | ⟨_, m, t, w, _⟩
  · exact h ⟨q, l, s, h1, h2, w, h4⟩
  · obtain ⟨m', t', w'⟩ := Pl.back m.length m t (Nat.le_refl _) w
    exact hf ⟨m', t', w'⟩
theorem pr_iff {p n : Nat} {M : Int} (hb : Be n E) (hbn : b < n) (h : ¬ Oth E a x b p) (hr : Rc (Pl E a x b) p a) (h1 : ∃ l, Wl E b l a M) (h2 : ∀ l s, Wl E b l a s → l.length ≤ n → s ≤ M) : PR (Pl E a x b) p ↔ 0 < x + M := by
  have hM : ∀ l s, Wl E b l a s → s ≤ M := fun l s w => by
    have np : ¬ PR E b := fun ⟨q, l, s, g1, g2, g3, g4⟩ => h ⟨q, l, s, hr.trans (Rc.trans ⟨_, _, .one Pl.edge⟩ (Rc.cost (fun p c q z => ⟨c, Pl.sub p c q z⟩) g1)), g2, g3, g4⟩
    obtain ⟨l', s', w', hl, hs⟩ := short hb hbn np l.length l a s (Nat.le_refl _) w
    have := h2 l' s' w' (by omega)
    omega
  constructor
  · intro ⟨q, l, s, g1, g2, g3, g4⟩
    rcases Pl.ring g1 g2 g3 with w | ⟨_, m, t, w, e⟩
    · exact absurd ⟨q, l, s, g1, g2, w, g4⟩ h
    · apply Int.not_le.mp
      intro hx
      have := Pl.best hM hx m.length m t (Nat.le_refl _) w
      omega
  · intro hx
    obtain ⟨l, w⟩ := h1
    exact ⟨a, b :: l, x + M, hr, by simp, .cons Pl.edge (w.mono Pl.sub), hx⟩
end
end Mt
set_option Elab.async false
set_option linter.all false
set_option maxRecDepth 100000
/-! # Plain mathematics: a step cut in two, the rounds of needs, the greatest walks -/
namespace Mt
/-! ## a step cut in two by the place m -/
def Cut (E : Ed) (a : Nat) (x : Int) (m : Nat) (y : Int) (b : Nat) : Ed := fun p c q => E p c q ∨ (p = a ∧ c = x ∧ q = m) ∨ (p = m ∧ c = y ∧ q = b)
section
variable {E : Ed} {n a b : Nat} {x y : Int} (hb : Be n E) (ha : a < n) (hbn : b < n)
include hb ha hbn
theorem cut_in : ∀ (k : Nat) (p q : Nat) (l : List Nat) (s : Int), l.length ≤ k → p < n → q < n → Wl (Cut E a x n y b) p l q s → ∃ l', Wl (Pl E a (x + y) b) p l' q s ∧ (l ≠ [] → l' ≠ []) := by
  intro k
  induction k with
  | zero =>
    intro p q l s hl hp hq w
    cases w with
    | nil => exact ⟨[], .nil p, fun h => absurd rfl h⟩
    | cons h w => simp at hl
  | succ k ih =>
    intro p q l s hl hp hq w
    cases w with
    | nil => exact ⟨[], .nil p, fun h => absurd rfl h⟩
    | @cons _ q1 _ l c s h w =>
      rw [List.length_cons] at hl
      rcases h with h | ⟨rfl, rfl, rfl⟩ | ⟨rfl, _, _⟩
      · obtain ⟨l', w', _⟩ := ih q1 q l s (by omega) (hb _ _ _ h).2 hq w
        exact ⟨q1 :: l', .cons (.inl h) w', fun _ => by simp⟩
      · cases w with
        | nil => omega
        | @cons _ q2 _ l c2 s2 h2 w =>
          rcases h2 with h2 | ⟨e, _, _⟩ | ⟨_, rfl, rfl⟩
          · have := (hb _ _ _ h2).1; omega
          · omega
          · rw [List.length_cons] at hl
            obtain ⟨l', w', _⟩ := ih q2 q l s2 (by omega) hbn hq w
            refine ⟨q2 :: l', ?_, fun _ => by simp⟩
            have z := Wl.cons (E := Pl E p (c + c2) q2) (.inr ⟨rfl, rfl, rfl⟩) w'
            rw [Int.add_assoc] at z
            exact z
      · omega
theorem cut_out : ∀ {p q : Nat} {l : List Nat} {s : Int}, Wl (Pl E a (x + y) b) p l q s → ∃ l', Wl (Cut E a x n y b) p l' q s ∧ (l ≠ [] → l' ≠ []) := by
  intro p q l s w
  induction w with
  | nil p => exact ⟨[], .nil p, fun h => absurd rfl h⟩
  | @cons p q r l c s h w ih =>
    obtain ⟨l', w', _⟩ := ih
    rcases h with h | ⟨rfl, rfl, rfl⟩
    · exact ⟨q :: l', .cons (.inl h) w', fun _ => by simp⟩
    · refine ⟨n :: q :: l', ?_, fun _ => by simp⟩
      rw [Int.add_assoc]
      exact .cons (.inr (.inl ⟨rfl, rfl, rfl⟩)) (.cons (.inr (.inr ⟨rfl, rfl, rfl⟩)) w')
theorem cut_pr (hn : 0 < n) : PR (Cut E a x n y b) 0 ↔ PR (Pl E a (x + y) b) 0 := by
  have low : ∀ q, q ≠ n → ∀ l s, Wl (Cut E a x n y b) 0 l q s → q < n := by
    intro q hq l s w
    cases l with
    | nil => cases w; exact hn
    | cons z l =>
      have key : ∀ {p q : Nat} {l : List Nat} {s : Int}, Wl (Cut E a x n y b) p l q s → p < n ∨ p = n → q < n ∨ q = n := by
        intro p q l s w
        induction w with
        | nil p => exact id
        | cons h w ih =>
          intro _
          refine ih ?_
          rcases h with h | ⟨_, _, rfl⟩ | ⟨_, _, rfl⟩
          · exact .inl (hb _ _ _ h).2
          · exact .inr rfl
          · exact .inl hbn
      rcases key w (.inl hn) with h | h
      · exact h
      · exact absurd h hq
  have rc : ∀ q, q < n → Rc (Cut E a x n y b) 0 q → Rc (Pl E a (x + y) b) 0 q := by
    rintro q hq ⟨l, s, w⟩
    obtain ⟨l', w', _⟩ := cut_in hb ha hbn l.length 0 q l s (Nat.le_refl _) hn hq w
    exact ⟨l', s, w'⟩
  constructor
  · rintro ⟨q, l, s, ⟨m, t, r⟩, nl, w, hs⟩
    by_cases hq : q = n
    · subst hq
      cases w with
      | nil => exact absurd rfl nl
      | @cons _ q2 _ l c s h w =>
        rcases h with h | ⟨e, _, _⟩ | ⟨_, rfl, rfl⟩
        · have := (hb _ _ _ h).1; omega
        · omega
        · have w2 := w.snoc (.inr (.inr ⟨rfl, rfl, rfl⟩))
          obtain ⟨l', w', n'⟩ := cut_in hb ha hbn _ q2 q2 _ _ (Nat.le_refl _) hbn hbn w2
          refine ⟨q2, l', s + c, ?_, n' (by simp), w', by omega⟩
          have r2 := r.snoc (.inr (.inr ⟨rfl, rfl, rfl⟩))
          exact rc q2 hbn ⟨_, _, r2⟩
    · have hqn := low q hq m t r
      obtain ⟨l', w', n'⟩ := cut_in hb ha hbn _ q q l s (Nat.le_refl _) hqn hqn w
      exact ⟨q, l', s, rc q hqn ⟨m, t, r⟩, n' nl, w', hs⟩
  · rintro ⟨q, l, s, ⟨m, t, r⟩, nl, w, hs⟩
    obtain ⟨l', w', n'⟩ := cut_out hb ha hbn w
    obtain ⟨m', r', _⟩ := cut_out hb ha hbn r
    exact ⟨q, l', s, ⟨m', t, r'⟩, n' nl, w', hs⟩
end

/-! ## the rounds -/
abbrev Es := List (Nat × Int × Nat)
def Es.ed (es : Es) : Ed := fun p c q => (p, c, q) ∈ es
def mx (i j : Int) : Int := if j > i then j else i
theorem mx_l (i j : Int) : i ≤ mx i j := by unfold mx; split <;> omega
theorem mx_r (i j : Int) : j ≤ mx i j := by unfold mx; split <;> omega
theorem mx_or (i j : Int) : mx i j = i ∨ mx i j = j := by unfold mx; split <;> simp
def fstep (here found : List Int) (e : Nat × Int × Nat) : List Int := found.set e.1 (mx (found.getD e.1 0) (e.2.1 + here.getD e.2.2 0))
def further (es : Es) (here : List Int) : List Int := es.foldl (fstep here) here
theorem fstep_len (here found : List Int) (e : Nat × Int × Nat) : (fstep here found e).length = found.length := List.length_set
theorem fold_len (here : List Int) : ∀ (es : Es) (found : List Int), (es.foldl (fstep here) found).length = found.length
  | [], _ => rfl
  | e :: es, found => by rw [List.foldl_cons, fold_len here es, fstep_len]
theorem further_len (es : Es) (here : List Int) : (further es here).length = here.length := fold_len here es here
theorem getD_set {l : List Int} {i j : Nat} {v : Int} : (l.set i v).getD j 0 = if i = j ∧ i < l.length then v else l.getD j 0 := by
  rw [List.getD_eq_getElem?_getD, List.getD_eq_getElem?_getD, List.getElem?_set]
  by_cases e : i = j
  · subst e
    by_cases h : i < l.length
    · simp [h]
    · simp [h]
  · simp [e]
theorem fold_val (here : List Int) (p : Nat) : ∀ (es : Es) (found : List Int), p < found.length →
    found.getD p 0 ≤ (es.foldl (fstep here) found).getD p 0 ∧ (∀ c q, (p, c, q) ∈ es → c + here.getD q 0 ≤ (es.foldl (fstep here) found).getD p 0) ∧
      ((es.foldl (fstep here) found).getD p 0 = found.getD p 0 ∨ ∃ c q, (p, c, q) ∈ es ∧ (es.foldl (fstep here) found).getD p 0 = c + here.getD q 0)
  | [], found, _ => ⟨Int.le_refl _, fun c q h => by simp at h, .inl rfl⟩
  | (p', c', q') :: es, found, hp => by
    rw [List.foldl_cons]
    obtain ⟨h1, h2, h3⟩ := fold_val here p es (fstep here found (p', c', q')) (by rw [fstep_len]; exact hp)
    have hv : (fstep here found (p', c', q')).getD p 0 = if p' = p ∧ p' < found.length then mx (found.getD p' 0) (c' + here.getD q' 0) else found.getD p 0 := getD_set
    by_cases e : p' = p
    · subst e
      rw [if_pos ⟨rfl, hp⟩] at hv
      have m1 := mx_l (found.getD p' 0) (c' + here.getD q' 0)
      have m2 := mx_r (found.getD p' 0) (c' + here.getD q' 0)
      refine ⟨by omega, fun c q h => ?_, ?_⟩
      · rcases List.mem_cons.mp h with z | z
        · cases z; omega
        · exact h2 c q z
      · rcases h3 with h3 | ⟨c, q, h, h3⟩
        · rcases mx_or (found.getD p' 0) (c' + here.getD q' 0) with z | z
          · exact .inl (by rw [h3, hv, z])
          · exact .inr ⟨c', q', List.mem_cons_self, by rw [h3, hv, z]⟩
        · exact .inr ⟨c, q, List.mem_cons_of_mem _ h, h3⟩
    · rw [if_neg (fun z => e z.1)] at hv
      refine ⟨by omega, fun c q h => ?_, ?_⟩
      · rcases List.mem_cons.mp h with z | z
        · cases z; exact absurd rfl e
        · exact h2 c q z
      · rcases h3 with h3 | ⟨c, q, h, h3⟩
        · exact .inl (by rw [h3, hv])
        · exact .inr ⟨c, q, List.mem_cons_of_mem _ h, h3⟩
def iter (es : Es) : Nat → List Int → List Int
  | 0, h => h
  | t + 1, h => further es (iter es t h)
theorem iter_len (es : Es) (h : List Int) : ∀ t, (iter es t h).length = h.length
  | 0 => rfl
  | t + 1 => by unfold iter; rw [further_len, iter_len es h t]
section
variable {es : Es} {h : List Int} {n : Nat} (hb : Be n es.ed) (hl : h.length = n)
include hb hl
theorem iter_val : ∀ (t p : Nat), p < n → (∀ l r s, Wl es.ed p l r s → l.length ≤ t → s + h.getD r 0 ≤ (iter es t h).getD p 0) ∧ ∃ l r s, Wl es.ed p l r s ∧ l.length ≤ t ∧ (iter es t h).getD p 0 = s + h.getD r 0
  | 0, p, hp => by
    refine ⟨fun l r s w z => ?_, [], p, 0, .nil p, Nat.le_refl _, by show h.getD p 0 = _; omega⟩
    cases w with
    | nil => show 0 + h.getD p 0 ≤ h.getD p 0; omega
    | cons _ _ => simp at z
  | t + 1, p, hp => by
    obtain ⟨g1, g2, g3⟩ := fold_val (iter es t h) p es (iter es t h) (by rw [iter_len, hl]; exact hp)
    obtain ⟨i1, i2⟩ := iter_val t p hp
    refine ⟨fun l r s w z => ?_, ?_⟩
    · cases w with
      | nil =>
        have := i1 [] p 0 (.nil p) (Nat.zero_le _)
        exact Int.le_trans this g1
      | @cons _ q _ l c s e w =>
        obtain ⟨j1, _⟩ := iter_val t q (hb _ _ _ e).2
        have := j1 l r s w (by rw [List.length_cons] at z; omega)
        have := g2 c q e
        show c + s + h.getD r 0 ≤ (further es (iter es t h)).getD p 0
        unfold further
        omega
    · rcases g3 with g3 | ⟨c, q, e, g3⟩
      · obtain ⟨l, r, s, w, z, v⟩ := i2
        exact ⟨l, r, s, w, by omega, by show (further es (iter es t h)).getD p 0 = _; unfold further; rw [g3, v]⟩
      · obtain ⟨_, l, r, s, w, z, v⟩ := iter_val t q (hb _ _ _ e).2
        exact ⟨q :: l, r, c + s, .cons e w, by rw [List.length_cons]; omega, by show (further es (iter es t h)).getD p 0 = _; unfold further; rw [g3, v]; omega⟩
/-- lost: one more round still changes it -/
def Lost (es : Es) (n : Nat) (h : List Int) (p : Nat) : Prop := p < n ∧ (iter es (n + 1) h).getD p 0 ≠ (iter es n h).getD p 0
theorem lost_ring {p : Nat} (k : Lost es n h p) : PR es.ed p := by
  obtain ⟨hp, k⟩ := k
  by_cases z : PR es.ed p
  · exact z
  · refine absurd ?_ k
    obtain ⟨_, l, r, s, w, hs, v⟩ := iter_val hb hl (n + 1) p hp
    obtain ⟨l', s', w', hl', hs'⟩ := short hb hp z l.length l r s (Nat.le_refl _) w
    obtain ⟨i1, _⟩ := iter_val hb hl n p hp
    have h1 := i1 l' r s' w' (by omega)
    obtain ⟨g1, _, _⟩ := fold_val (iter es n h) p es (iter es n h) (by rw [iter_len, hl]; exact hp)
    have g1 : (iter es n h).getD p 0 ≤ (iter es (n + 1) h).getD p 0 := g1
    omega
theorem ring_lost {p : Nat} (hp : p < n) (k : PR es.ed p) : ∃ q, Lost es n h q ∧ Rc es.ed p q := by
  by_cases z : ∃ q, Lost es n h q ∧ Rc es.ed p q
  · exact z
  · have key : ∀ {q r : Nat} {l : List Nat} {s : Int}, Wl es.ed q l r s → q < n → Rc es.ed p q → s + (iter es n h).getD r 0 ≤ (iter es n h).getD q 0 := by
      intro q r l s w
      induction w with
      | nil q => intro _ _; omega
      | @cons q q1 r l c s e w ih =>
        intro hq hr
        have h1 := ih (hb _ _ _ e).2 (hr.trans ⟨_, _, .one e⟩)
        obtain ⟨_, g2, _⟩ := fold_val (iter es n h) q es (iter es n h) (by rw [iter_len, hl]; exact hq)
        have g2 : c + (iter es n h).getD q1 0 ≤ (iter es (n + 1) h).getD q 0 := g2 c q1 e
        have : (iter es (n + 1) h).getD q 0 = (iter es n h).getD q 0 := by
          apply Decidable.byContradiction
          intro ne
          exact z ⟨q, ⟨hq, ne⟩, hr⟩
        omega
    obtain ⟨q, l, s, h1, h2, h3, h4⟩ := k
    have hq : q < n := h3.low hb q (h3.last h2)
    have := key h3 hq h1
    omega
end
/-! ## what leads to the lost -/
def lstep (found : List Nat) (e : Nat × Int × Nat) : List Nat := if e.2.2 ∈ found ∧ e.1 ∉ found then found ++ [e.1] else found
def lround (es : Es) (found : List Nat) : List Nat := es.foldl lstep found
def lead (es : Es) : Nat → List Nat → List Nat
  | 0, f => f
  | t + 1, f => lround es (lead es t f)
theorem lstep_sub {f : List Nat} {e : Nat × Int × Nat} {x : Nat} (h : x ∈ f) : x ∈ lstep f e := by
  unfold lstep; split
  · exact List.mem_append_left _ h
  · exact h
theorem lfold_sub : ∀ (es : Es) {f : List Nat} {x : Nat}, x ∈ f → x ∈ es.foldl lstep f
  | [], _, _, h => h
  | e :: es, _, _, h => lfold_sub es (lstep_sub h)
theorem lfold_new : ∀ (es : Es) {f : List Nat} {p q : Nat} {c : Int}, (p, c, q) ∈ es → q ∈ f → p ∈ es.foldl lstep f
  | [], _, _, _, _, h, _ => by simp at h
  | e :: es, f, p, q, c, h, hq => by
    rw [List.foldl_cons]
    rcases List.mem_cons.mp h with z | z
    · refine lfold_sub es ?_
      subst z
      unfold lstep
      by_cases hp : p ∈ f
      · rw [if_neg (fun z => z.2 hp)]; exact hp
      · rw [if_pos ⟨hq, hp⟩]; simp
    · exact lfold_new es z (lstep_sub hq)
theorem lfold_from {G : Ed} (B : Nat → Prop) : ∀ (es : Es) {f : List Nat} {x : Nat}, (∀ p c q, (p, c, q) ∈ es → G p c q) → (∀ x ∈ f, ∃ y, B y ∧ Rc G x y) → x ∈ es.foldl lstep f → ∃ y, B y ∧ Rc G x y
  | [], _, _, _, h, hx => h _ hx
  | e :: es, f, x, hG, h, hx => by
    rw [List.foldl_cons] at hx
    refine lfold_from B es (fun p c q z => hG p c q (List.mem_cons_of_mem _ z)) (fun z hz => ?_) hx
    unfold lstep at hz
    split at hz
    · rename_i c
      rcases List.mem_append.mp hz with hz | hz
      · exact h z hz
      · obtain ⟨y, hy, r⟩ := h _ c.1
        have ez : z = e.1 := by simpa using hz
        exact ⟨y, hy, Rc.trans ⟨_, _, .one (ez ▸ hG e.1 e.2.1 e.2.2 List.mem_cons_self)⟩ r⟩
    · exact h z hz
theorem lead_in {es : Es} {f : List Nat} {y : Nat} (hy : y ∈ f) : ∀ (t : Nat) {p : Nat} {l : List Nat} {s : Int}, Wl es.ed p l y s → l.length ≤ t → p ∈ lead es t f
  | 0, p, l, s, w, hl => by
    cases w with
    | nil => exact hy
    | cons _ _ => simp at hl
  | t + 1, p, l, s, w, hl => by
    cases w with
    | nil => exact lfold_sub es (lead_in hy t (.nil _) (Nat.zero_le _))
    | cons e w => exact lfold_new es e (lead_in hy t w (by rw [List.length_cons] at hl; omega))
theorem lead_out {es : Es} {f : List Nat} : ∀ (t : Nat) {p : Nat}, p ∈ lead es t f → ∃ y, y ∈ f ∧ Rc es.ed p y
  | 0, p, h => ⟨p, h, .refl p⟩
  | t + 1, p, h => lfold_from (· ∈ f) es (fun p c q z => z) (fun x hx => lead_out t hx) h
theorem lead_iff {es : Es} {f : List Nat} {n p : Nat} (hb : Be n es.ed) (hp : p < n) : p ∈ lead es n f ↔ ∃ y, y ∈ f ∧ Rc es.ed p y := by
  constructor
  · exact lead_out n
  · rintro ⟨y, hy, l, s, w⟩
    obtain ⟨l', s', w', hl⟩ := rc_short hb hp l.length l s (Nat.le_refl _) w
    exact lead_in hy n w' (by omega)
end Mt
set_option Elab.async false
set_option linter.all false
set_option maxRecDepth 100000
/-! # Plain mathematics: rows, stairs, worlds -/
namespace Mt
def stairGo (last : Int) : List Int → List Int → List Int
  | u :: us, x :: xs => (u * last + x) :: stairGo (u * last + x) us xs
  | _, _ => []
def stair (us : List Int) : List Int → List Int
  | [] => []
  | x :: xs => x :: stairGo x us xs
def rowGo (last : Int) : List Int → List Int → List Int
  | u :: us, x :: xs => (x - u * last) :: rowGo x us xs
  | _, _ => []
def rowOf (us : List Int) : List Int → List Int
  | [] => []
  | x :: xs => x :: rowGo x us xs
def upGo (last : Int) : List Int → List Int → List Int
  | u :: us, x :: xs => mx x (u * last) :: upGo (mx x (u * last)) us xs
  | _, _ => []
def up (us : List Int) : List Int → List Int
  | [] => []
  | x :: xs => mx 0 x :: upGo (mx 0 x) us xs
def mn (i j : Int) : Int := if j < i then j else i
theorem mn_l (i j : Int) : mn i j ≤ i := by unfold mn; split <;> omega
theorem mn_r (i j : Int) : mn i j ≤ j := by unfold mn; split <;> omega
theorem mn_or (i j : Int) : mn i j = i ∨ mn i j = j := by unfold mn; split <;> simp
/-- the last one down to the first -/
def down : List Int → List Int → List Int
  | u :: us, x :: xs => mn x ((down us xs).headD 0 / u) :: down us xs
  | [], x :: xs => [x]
  | _, [] => []
/-- pointwise, of the same length -/
def Le : List Int → List Int → Prop
  | [], [] => True
  | x :: xs, y :: ys => x ≤ y ∧ Le xs ys
  | _, _ => False
def Pos (xs : List Int) : Prop := ∀ x ∈ xs, 0 ≤ x
def zeros (us : List Int) : List Int := List.replicate (us.length + 1) 0
theorem stairGo_len : ∀ (us xs : List Int) (a : Int), xs.length = us.length → (stairGo a us xs).length = us.length
  | [], [], _, _ => rfl
  | u :: us, x :: xs, a, h => by
    unfold stairGo
    rw [List.length_cons, stairGo_len us xs _ (by simpa using h), List.length_cons]
  | [], x :: xs, _, h => by simp at h
  | u :: us, [], _, h => by simp at h
theorem stair_len {us xs : List Int} (h : xs.length = us.length + 1) : (stair us xs).length = us.length + 1 := by
  cases xs with
  | nil => simp at h
  | cons x xs =>
    unfold stair
    rw [List.length_cons, stairGo_len us xs x (by simpa using h)]
theorem rowGo_len : ∀ (us xs : List Int) (a : Int), xs.length = us.length → (rowGo a us xs).length = us.length
  | [], [], _, _ => rfl
  | u :: us, x :: xs, a, h => by
    unfold rowGo
    rw [List.length_cons, rowGo_len us xs _ (by simpa using h), List.length_cons]
  | [], x :: xs, _, h => by simp at h
  | u :: us, [], _, h => by simp at h
theorem rowOf_len {us xs : List Int} (h : xs.length = us.length + 1) : (rowOf us xs).length = us.length + 1 := by
  cases xs with
  | nil => simp at h
  | cons x xs =>
    unfold rowOf
    rw [List.length_cons, rowGo_len us xs x (by simpa using h)]
theorem upGo_len : ∀ (us xs : List Int) (a : Int), xs.length = us.length → (upGo a us xs).length = us.length
  | [], [], _, _ => rfl
  | u :: us, x :: xs, a, h => by
    unfold upGo
    rw [List.length_cons, upGo_len us xs _ (by simpa using h), List.length_cons]
  | [], x :: xs, _, h => by simp at h
  | u :: us, [], _, h => by simp at h
theorem up_len {us xs : List Int} (h : xs.length = us.length + 1) : (up us xs).length = us.length + 1 := by
  cases xs with
  | nil => simp at h
  | cons x xs =>
    unfold up
    rw [List.length_cons, upGo_len us xs _ (by simpa using h)]
theorem down_len : ∀ {us xs : List Int}, xs.length = us.length + 1 → (down us xs).length = us.length + 1
  | [], [x], _ => rfl
  | u :: us, x :: xs, h => by
    unfold down
    rw [List.length_cons, down_len (us := us) (xs := xs) (by simpa using h), List.length_cons]
  | [], [], h => by simp at h
  | [], x :: y :: xs, h => by simp at h
  | u :: us, [], h => by simp at h
/-- the stair of the row of a stair -/
theorem stairGo_row : ∀ (us xs : List Int) (a : Int), xs.length = us.length → stairGo a us (rowGo a us xs) = xs
  | [], [], _, _ => rfl
  | u :: us, x :: xs, a, h => by
    unfold rowGo stairGo
    have e : u * a + (x - u * a) = x := by omega
    rw [e, stairGo_row us xs x (by simpa using h)]
  | [], x :: xs, _, h => by simp at h
  | u :: us, [], _, h => by simp at h
theorem stair_row {us xs : List Int} (h : xs.length = us.length + 1) : stair us (rowOf us xs) = xs := by
  cases xs with
  | nil => simp at h
  | cons x xs =>
    show x :: stairGo x us (rowGo x us xs) = x :: xs
    rw [stairGo_row us xs x (by simpa using h)]
theorem pos_mul {u x y : Int} (hu : 0 ≤ u) (h : x ≤ y) : u * x ≤ u * y := Int.mul_le_mul_of_nonneg_left h hu
/-- bring: the stair of a row of non-negatives is above the numbers iff above their up stair -/
theorem upGo_le : ∀ (us gs ns : List Int) (a b : Int), Pos us → Pos ns → gs.length = us.length → ns.length = us.length → a ≤ b → (Le gs (stairGo b us ns) ↔ Le (upGo a us gs) (stairGo b us ns))
  | [], [], [], _, _, _, _, _, _, _ => Iff.rfl
  | u :: us, g :: gs, x :: ns, a, b, hu, hn, h1, h2, hab => by
    unfold upGo stairGo
    have h0 : 0 ≤ u := hu u List.mem_cons_self
    have hx : 0 ≤ x := hn x List.mem_cons_self
    have hm := pos_mul h0 hab
    have m1 := mx_l g (u * a)
    have m2 := mx_r g (u * a)
    constructor
    · rintro ⟨k1, k2⟩
      have hk : mx g (u * a) ≤ u * b + x := by
        rcases mx_or g (u * a) with z | z <;> omega
      exact ⟨hk, (upGo_le us gs ns _ _ (fun y hy => hu y (List.mem_cons_of_mem _ hy)) (fun y hy => hn y (List.mem_cons_of_mem _ hy)) (by simpa using h1) (by simpa using h2) hk).mp k2⟩
    · rintro ⟨k1, k2⟩
      exact ⟨by omega, (upGo_le us gs ns _ _ (fun y hy => hu y (List.mem_cons_of_mem _ hy)) (fun y hy => hn y (List.mem_cons_of_mem _ hy)) (by simpa using h1) (by simpa using h2) k1).mpr k2⟩
  | [], _ :: _, _, _, _, _, _, h, _, _ => by simp at h
  | [], _, _ :: _, _, _, _, _, _, h, _ => by simp at h
  | _ :: _, [], _, _, _, _, _, h, _, _ => by simp at h
  | _ :: _, _, [], _, _, _, _, _, h, _ => by simp at h
theorem up_le {us gs ns : List Int} (hu : Pos us) (hn : Pos ns) (h1 : gs.length = us.length + 1) (h2 : ns.length = us.length + 1) : Le gs (stair us ns) ↔ Le (up us gs) (stair us ns) := by
  cases gs with
  | nil => simp at h1
  | cons g gs =>
    cases ns with
    | nil => simp at h2
    | cons x ns =>
      unfold up stair
      have hx : 0 ≤ x := hn x List.mem_cons_self
      have m1 := mx_l 0 g
      have m2 := mx_r 0 g
      constructor
      · rintro ⟨k1, k2⟩
        have hk : mx 0 g ≤ x := by
          rcases mx_or 0 g with z | z <;> omega
        exact ⟨hk, (upGo_le us gs ns _ _ hu (fun y hy => hn y (List.mem_cons_of_mem _ hy)) (by simpa using h1) (by simpa using h2) hk).mp k2⟩
      · rintro ⟨k1, k2⟩
        exact ⟨by omega, (upGo_le us gs ns _ _ hu (fun y hy => hn y (List.mem_cons_of_mem _ hy)) (by simpa using h1) (by simpa using h2) k1).mpr k2⟩
/-- the row of an up stair is of non-negatives -/
theorem rowGo_up : ∀ (us gs : List Int) (a : Int), Pos (rowGo a us (upGo a us gs))
  | [], _, _ => by intro x hx; cases hx
  | u :: us, [], _ => by intro x hx; cases hx
  | u :: us, g :: gs, a => by
    unfold upGo rowGo
    intro x hx
    rcases List.mem_cons.mp hx with e | e
    · have := mx_r g (u * a)
      omega
    · exact rowGo_up us gs _ x e
theorem row_up (us gs : List Int) : Pos (rowOf us (up us gs)) := by
  cases gs with
  | nil => intro x hx; cases hx
  | cons g gs =>
    unfold up rowOf
    intro x hx
    rcases List.mem_cons.mp hx with e | e
    · have := mx_l 0 g
      omega
    · exact rowGo_up us gs _ x e
theorem upGo_zero : ∀ (us gs : List Int), (∀ g ∈ gs, g ≤ 0) → gs.length = us.length → upGo 0 us gs = List.replicate us.length 0
  | [], [], _, _ => rfl
  | u :: us, g :: gs, h, hl => by
    unfold upGo
    have e : mx g (u * 0) = 0 := by
      unfold mx
      rw [Int.mul_zero]
      have := h g List.mem_cons_self
      split <;> omega
    rw [e, upGo_zero us gs (fun x hx => h x (List.mem_cons_of_mem _ hx)) (by simpa using hl)]
    rfl
  | [], _ :: _, _, h => by simp at h
  | _ :: _, [], _, h => by simp at h
theorem rowGo_zero : ∀ (us : List Int), rowGo 0 us (List.replicate us.length 0) = List.replicate us.length 0
  | [] => rfl
  | u :: us => by
    show (0 - u * 0) :: rowGo 0 us (List.replicate us.length 0) = _
    rw [rowGo_zero us, Int.mul_zero]
    rfl
theorem row_up_zero {us gs : List Int} (h : ∀ g ∈ gs, g ≤ 0) (hl : gs.length = us.length + 1) : rowOf us (up us gs) = zeros us := by
  cases gs with
  | nil => simp at hl
  | cons g gs =>
    show rowOf us (mx 0 g :: upGo (mx 0 g) us gs) = zeros us
    have e : mx 0 g = 0 := by
      unfold mx
      have := h g List.mem_cons_self
      split <;> omega
    rw [e, upGo_zero us gs (fun x hx => h x (List.mem_cons_of_mem _ hx)) (by simpa using hl)]
    show 0 :: rowGo 0 us (List.replicate us.length 0) = zeros us
    rw [rowGo_zero]
    rfl
theorem stairGo_pos : ∀ (us ns : List Int) (a : Int), Pos us → Pos ns → 0 ≤ a → Pos (stairGo a us ns)
  | [], _, _, _, _, _ => by intro x hx; cases hx
  | u :: us, [], _, _, _, _ => by intro x hx; cases hx
  | u :: us, n :: ns, a, hu, hn, ha => by
    unfold stairGo
    have h0 : 0 ≤ u := hu u List.mem_cons_self
    have h1 : 0 ≤ n := hn n List.mem_cons_self
    have h2 : 0 ≤ u * a := Int.mul_nonneg h0 ha
    intro x hx
    rcases List.mem_cons.mp hx with e | e
    · omega
    · exact stairGo_pos us ns _ (fun y hy => hu y (List.mem_cons_of_mem _ hy)) (fun y hy => hn y (List.mem_cons_of_mem _ hy)) (by omega) x e
theorem stair_pos {us ns : List Int} (hu : Pos us) (hn : Pos ns) : Pos (stair us ns) := by
  cases ns with
  | nil => intro x hx; cases hx
  | cons n ns =>
    unfold stair
    have h1 : 0 ≤ n := hn n List.mem_cons_self
    intro x hx
    rcases List.mem_cons.mp hx with e | e
    · omega
    · exact stairGo_pos us ns n hu (fun y hy => hn y (List.mem_cons_of_mem _ hy)) h1 x e
theorem stairGo_zero : ∀ us : List Int, stairGo 0 us (List.replicate us.length 0) = List.replicate us.length 0
  | [] => rfl
  | u :: us => by
    show (u * 0 + 0) :: stairGo (u * 0 + 0) us (List.replicate us.length 0) = _
    rw [Int.mul_zero, Int.add_zero, stairGo_zero us]
    rfl
theorem stair_zero (us : List Int) : stair us (zeros us) = zeros us := by
  show 0 :: stairGo 0 us (List.replicate us.length 0) = _
  rw [stairGo_zero]
  rfl
theorem le_zeros : ∀ {n : Nat} {xs : List Int}, xs.length = n → Pos xs → Le (List.replicate n 0) xs
  | 0, [], _, _ => trivial
  | n + 1, x :: xs, h, hp => ⟨hp x List.mem_cons_self, le_zeros (by simpa using h) fun y hy => hp y (List.mem_cons_of_mem _ hy)⟩
  | 0, _ :: _, h, _ => by simp at h
  | n + 1, [], h, _ => by simp at h
/-- ask: the stair of a row of non-negatives is below the numbers iff below their down stair -/
theorem down_head {us xs : List Int} (h : xs.length = us.length + 1) : (down us xs).headD 0 ≤ xs.headD 0 := by
  cases us with
  | nil =>
    cases xs with
    | nil => exact Int.le_refl _
    | cons x xs => exact Int.le_refl _
  | cons u us =>
    cases xs with
    | nil => exact Int.le_refl _
    | cons x xs => exact mn_l _ _
theorem down_le1 : ∀ {us xs : List Int}, xs.length = us.length + 1 → Le (down us xs) xs
  | [], [x], _ => ⟨Int.le_refl _, trivial⟩
  | u :: us, x :: xs, h => ⟨mn_l _ _, down_le1 (us := us) (xs := xs) (by simpa using h)⟩
  | [], [], h => by simp at h
  | [], x :: y :: xs, h => by simp at h
  | u :: us, [], h => by simp at h
theorem Le.trans : ∀ {a b c : List Int}, Le a b → Le b c → Le a c
  | [], [], [], _, _ => trivial
  | x :: a, y :: b, z :: c, h, k => ⟨Int.le_trans h.1 k.1, Le.trans h.2 k.2⟩
  | [], _ :: _, _, h, _ => h.elim
  | _ :: _, [], _, h, _ => h.elim
  | _, [], _ :: _, _, k => k.elim
  | _, _ :: _, [], _, k => k.elim
/-- a list that climbs as a stair does: each at least u times the one ahead -/
def Climb : List Int → List Int → Prop
  | u :: us, x :: y :: xs => u * x ≤ y ∧ Climb us (y :: xs)
  | _, _ => True
theorem stairGo_climb : ∀ (us ns : List Int) (a : Int), Pos ns → Climb us (a :: stairGo a us ns)
  | [], _, _, _ => by unfold stairGo; simp [Climb]
  | u :: us, [], _, _ => by unfold stairGo; simp [Climb]
  | u :: us, n :: ns, a, hn => by
    unfold stairGo
    have h1 : 0 ≤ n := hn n List.mem_cons_self
    exact ⟨by omega, stairGo_climb us ns _ fun y hy => hn y (List.mem_cons_of_mem _ hy)⟩
theorem climb_down : ∀ {us ss xs : List Int}, (∀ u ∈ us, 0 < u) → ss.length = us.length + 1 → xs.length = us.length + 1 → Climb us ss → Le ss xs → Le ss (down us xs)
  | [], [s], [x], _, _, _, _, h => h
  | u :: us, s :: t :: ss, x :: y :: xs, hu, h1, h2, hc, hl => by
    have ih := climb_down (us := us) (ss := t :: ss) (xs := y :: xs) (fun v hv => hu v (List.mem_cons_of_mem _ hv)) (by simpa using h1) (by simpa using h2) hc.2 hl.2
    refine ⟨?_, ih⟩
    have h0 := hu u List.mem_cons_self
    have hd : t ≤ (down us (y :: xs)).headD 0 := by
      have hz := down_len (us := us) (xs := y :: xs) (by simpa using h2)
      cases hx : down us (y :: xs) with
      | nil => rw [hx] at hz; simp at hz
      | cons d ds =>
        rw [hx] at ih
        exact ih.1
    show s ≤ mn x ((down us (y :: xs)).headD 0 / u)
    have hs : s ≤ (down us (y :: xs)).headD 0 / u := by
      apply (Int.le_ediv_iff_mul_le h0).mpr
      have : s * u = u * s := Int.mul_comm s u
      have := hc.1
      omega
    rcases mn_or x ((down us (y :: xs)).headD 0 / u) with z | z
    · rw [z]; exact hl.1
    · rw [z]; exact hs
  | [], [], _, _, h, _, _, _ => by simp at h
  | [], _ :: _ :: _, _, _, h, _, _, _ => by simp at h
  | [], _, [], _, _, h, _, _ => by simp at h
  | [], _, _ :: _ :: _, _, _, h, _, _ => by simp at h
  | u :: us, [], _, _, h, _, _, _ => by simp at h
  | u :: us, [_], _, _, h, _, _, _ => by simp at h
  | u :: us, _, [], _, _, h, _, _ => by simp at h
  | u :: us, _, [_], _, _, h, _, _ => by simp at h
theorem down_iff {us ns xs : List Int} (hu : ∀ u ∈ us, 0 < u) (hn : Pos ns) (h1 : ns.length = us.length + 1) (h2 : xs.length = us.length + 1) : Le (stair us ns) xs ↔ Le (stair us ns) (down us xs) := by
  constructor
  · intro h
    refine climb_down hu (stair_len h1) h2 ?_ h
    cases ns with
    | nil => simp at h1
    | cons n ns => exact stairGo_climb us ns n fun y hy => hn y (List.mem_cons_of_mem _ hy)
  · intro h
    exact h.trans (down_le1 h2)
theorem down_pos : ∀ {us xs : List Int}, (∀ u ∈ us, 0 < u) → Pos xs → xs.length = us.length + 1 → 0 ≤ (down us xs).headD 0 ∧ Pos (rowOf us (down us xs))
  | [], [x], _, hp, _ => by
    have h0 := hp x List.mem_cons_self
    refine ⟨h0, fun y hy => ?_⟩
    have : y = x := by
      have z : y ∈ [x] := hy
      simpa using z
    omega
  | u :: us, x :: xs, hu, hp, h => by
    have h0 := hu u List.mem_cons_self
    obtain ⟨i1, i2⟩ := down_pos (us := us) (xs := xs) (fun v hv => hu v (List.mem_cons_of_mem _ hv)) (fun y hy => hp y (List.mem_cons_of_mem _ hy)) (by simpa using h)
    have hx := hp x List.mem_cons_self
    have hq : 0 ≤ (down us xs).headD 0 / u := Int.ediv_nonneg i1 (by omega)
    have hm : 0 ≤ mn x ((down us xs).headD 0 / u) := by
      rcases mn_or x ((down us xs).headD 0 / u) with z | z <;> omega
    refine ⟨hm, ?_⟩
    have hz := down_len (us := us) (xs := xs) (by simpa using h)
    show Pos (rowOf (u :: us) (mn x ((down us xs).headD 0 / u) :: down us xs))
    have hr := mn_r x ((down us xs).headD 0 / u)
    generalize mn x ((down us xs).headD 0 / u) = m at hm hr
    cases hd : down us xs with
    | nil => rw [hd] at hz; simp at hz
    | cons d ds =>
      rw [hd] at i2 hr
      intro y hy
      have hy : y ∈ m :: (d - u * m) :: rowGo d us ds := hy
      rcases List.mem_cons.mp hy with e | hy
      · omega
      · rcases List.mem_cons.mp hy with e | hy
        · have h3 : m ≤ d / u := hr
          have h4 := (Int.le_ediv_iff_mul_le h0).mp h3
          have : m * u = u * m := Int.mul_comm m u
          omega
        · exact i2 y (List.mem_cons_of_mem _ hy)
  | [], [], _, _, h => by simp at h
  | [], _ :: _ :: _, _, _, h => by simp at h
  | u :: us, [], _, _, h => by simp at h
end Mt
set_option Elab.async false
set_option linter.all false
set_option maxRecDepth 100000
/-! # Plain mathematics: worlds, the greatest walks -/
namespace Mt
inductive Deed where
  | pass | ask (r : List Int) | bring (r : List Int)
structure Stp where
  a : Nat
  d : Deed
  b : Nat
structure Wd where
  n : Nat
  st : List Stp
def counts (us : List Int) : Deed → List Int
  | .pass => zeros us
  | .ask r => stair us r
  | .bring r => (stair us r).map fun x => -x
def cnt (us : List Int) (d : Deed) (k : Nat) : Int := (counts us d).getD k 0
def edge (us : List Int) (k : Nat) (s : Stp) : Nat × Int × Nat := (s.a, cnt us s.d k, s.b)
def es (us : List Int) (st : List Stp) (k : Nat) : Es := st.map (edge us k)
def Dok (us : List Int) : Deed → Prop
  | .pass => True
  | .ask r => r.length = us.length + 1 ∧ Pos r
  | .bring r => r.length = us.length + 1 ∧ Pos r
def Wok (us : List Int) (w : Wd) : Prop := 0 < w.n ∧ ∀ s ∈ w.st, s.a < w.n ∧ s.b < w.n ∧ Dok us s.d
def Lives (us : List Int) (w : Wd) : Prop := ∀ k ≤ us.length, ¬ PR (es us w.st k).ed 0
def bare (st : List Stp) (i : Nat) : List Stp := st.take i ++ st.drop (i + 1)
def putIn (w : Wd) (i : Nat) (s : Stp) (d : Deed) : Wd := ⟨w.n + 1, (w.st.take i ++ [⟨s.a, s.d, w.n⟩] ++ w.st.drop (i + 1)) ++ [⟨w.n, d, s.b⟩]⟩
theorem es_be {us : List Int} {w : Wd} (h : Wok us w) {st : List Stp} (hs : ∀ s ∈ st, s ∈ w.st) (k : Nat) : Be w.n (es us st k).ed := by
  intro p c q e
  obtain ⟨s, hm, he⟩ := List.mem_map.mp e
  obtain ⟨h1, h2, _⟩ := h.2 s (hs s hm)
  unfold edge at he
  injection he with e1 e2
  injection e2 with e2 e3
  omega
theorem bare_sub {st : List Stp} {i : Nat} : ∀ s ∈ bare st i, s ∈ st := fun s h => by
  rcases List.mem_append.mp h with h | h
  · exact List.mem_of_mem_take h
  · exact List.mem_of_mem_drop h
theorem split_at {st : List Stp} {i : Nat} {s : Stp} (h : st[i]? = some s) : st = st.take i ++ s :: st.drop (i + 1) := by
  obtain ⟨hi, e⟩ := List.getElem?_eq_some_iff.mp h
  have z := List.take_append_drop i st
  rw [List.drop_eq_getElem_cons hi, e] at z
  exact z.symm
theorem ed_whole {us : List Int} {st : List Stp} {i : Nat} {s : Stp} (h : st[i]? = some s) (k : Nat) : (es us st k).ed = Pl (es us (bare st i) k).ed s.a (cnt us s.d k) s.b := by
  funext p c q
  apply propext
  have e := split_at h
  unfold Es.ed Pl es bare
  have e1 : st.map (edge us k) = (st.take i).map (edge us k) ++ edge us k s :: (st.drop (i + 1)).map (edge us k) := by
    rw [← List.map_cons, ← List.map_append, ← e]
  rw [e1, List.map_append, List.mem_append, List.mem_cons]
  show _ ↔ ((p, c, q) ∈ List.map (edge us k) (List.take i st) ++ List.map (edge us k) (List.drop (i + 1) st)) ∨ _
  rw [List.mem_append]
  unfold edge
  constructor
  · rintro (h | h | h)
    · exact .inl (.inl h)
    · injection h with h1 h2
      injection h2 with h2 h3
      exact .inr ⟨h1, h2, h3⟩
    · exact .inl (.inr h)
  · rintro ((h | h) | ⟨h1, h2, h3⟩)
    · exact .inl h
    · exact .inr (.inr h)
    · exact .inr (.inl (by rw [h1, h2, h3]))
theorem ed_put {us : List Int} {w : Wd} {i : Nat} {s : Stp} (d : Deed) (k : Nat) : (es us (putIn w i s d).st k).ed = Cut (es us (bare w.st i) k).ed s.a (cnt us s.d k) w.n (cnt us d k) s.b := by
  funext p c q
  apply propext
  unfold Es.ed Cut es bare putIn
  simp only [List.map_append, List.mem_append, List.map_cons, List.map_nil, List.mem_singleton, edge]
  constructor
  · rintro (((h | h) | h) | h)
    · exact .inl (.inl h)
    · injection h with h1 h2
      injection h2 with h2 h3
      exact .inr (.inl ⟨h1, h2, h3⟩)
    · exact .inl (.inr h)
    · injection h with h1 h2
      injection h2 with h2 h3
      exact .inr (.inr ⟨h1, h2, h3⟩)
  · rintro ((h | h) | ⟨h1, h2, h3⟩ | ⟨h1, h2, h3⟩)
    · exact .inl (.inl (.inl h))
    · exact .inl (.inr h)
    · exact .inl (.inl (.inr (by rw [h1, h2, h3])))
    · exact .inr (by rw [h1, h2, h3])
theorem es_cost {us : List Int} {st : List Stp} {k k' : Nat} : ∀ p c q, (es us st k).ed p c q → ∃ d, (es us st k').ed p d q := by
  intro p c q e
  obtain ⟨s, hm, he⟩ := List.mem_map.mp e
  unfold edge at he
  injection he with e1 e2
  injection e2 with e2 e3
  exact ⟨cnt us s.d k', List.mem_map.mpr ⟨s, hm, by unfold edge; rw [e1, e3]⟩⟩
theorem rc_any {us : List Int} {st : List Stp} (k k' : Nat) {p q : Nat} (h : Rc (es us st k).ed p q) : Rc (es us st k').ed p q := h.cost es_cost
/-! ## what the step s at i may carry -/
/-- another ring that grows -/
def OthW (us : List Int) (w : Wd) (i : Nat) (k : Nat) : Prop := ∃ q l t, Rc (es us w.st k).ed 0 q ∧ l ≠ [] ∧ Wl (es us (bare w.st i) k).ed q l q t ∧ 0 < t
/-- the greatest that the step and what follows it make at unit k -/
def Top (us : List Int) (w : Wd) (i : Nat) (s : Stp) (k : Nat) (g : Int) : Prop := (∃ l, Wl (es us (bare w.st i) k).ed s.b l s.a (g - cnt us s.d k)) ∧ ∀ l t, Wl (es us (bare w.st i) k).ed s.b l s.a t → l.length ≤ w.n → cnt us s.d k + t ≤ g
section
variable {us : List Int} {w : Wd} {i : Nat} {s : Stp} (hw : Wok us w) (hs : w.st[i]? = some s)
include hw hs
theorem put_iff (d : Deed) (k : Nat) : PR (es us (putIn w i s d).st k).ed 0 ↔ PR (Pl (es us (bare w.st i) k).ed s.a (cnt us s.d k + cnt us d k) s.b) 0 := by
  obtain ⟨h1, h2, _⟩ := hw.2 s (List.mem_of_getElem? hs)
  rw [ed_put d k]
  exact cut_pr (es_be hw (fun _ h => bare_sub _ h) k) h1 h2 hw.1
/-- any cost at the step -/
theorem rc_pl (x : Int) (k : Nat) {q : Nat} : Rc (Pl (es us (bare w.st i) k).ed s.a x s.b) 0 q ↔ Rc (es us w.st k).ed 0 q := by
  rw [ed_whole hs k]
  constructor
  · exact Rc.cost fun p c q h => by
      rcases h with h | ⟨h1, h2, h3⟩
      · exact ⟨c, .inl h⟩
      · exact ⟨_, .inr ⟨h1, rfl, h3⟩⟩
  · exact Rc.cost fun p c q h => by
      rcases h with h | ⟨h1, h2, h3⟩
      · exact ⟨c, .inl h⟩
      · exact ⟨_, .inr ⟨h1, rfl, h3⟩⟩
theorem oth_iff (x : Int) (k : Nat) : Oth (es us (bare w.st i) k).ed s.a x s.b 0 ↔ OthW us w i k := by
  constructor
  · rintro ⟨q, l, t, h1, h2⟩
    exact ⟨q, l, t, (rc_pl hw hs x k).mp h1, h2⟩
  · rintro ⟨q, l, t, h1, h2⟩
    exact ⟨q, l, t, (rc_pl hw hs x k).mpr h1, h2⟩
theorem dead_put {k : Nat} (hk : k ≤ us.length) (h : OthW us w i k) (d : Deed) : ¬ Lives us (putIn w i s d) := fun L => L k hk ((put_iff hw hs d k).mpr (pr_oth ((oth_iff hw hs _ k).mpr h)))
theorem dead_self {k : Nat} (hk : k ≤ us.length) (h : OthW us w i k) : ¬ Lives us w := fun L => by
  refine L k hk ?_
  rw [ed_whole hs k]
  exact pr_oth ((oth_iff hw hs _ k).mpr h)
theorem lives_apart (h : ∀ k ≤ us.length, ¬ OthW us w i k) (hf : ¬ Rc (es us w.st 0).ed 0 s.a ∨ ¬ Rc (es us (bare w.st i) 0).ed s.b s.a) : Lives us w ∧ ∀ d, Lives us (putIn w i s d) := by
  have key : ∀ k ≤ us.length, ∀ x, ¬ PR (Pl (es us (bare w.st i) k).ed s.a x s.b) 0 := fun k hk x => by
    have ho : ¬ Oth (es us (bare w.st i) k).ed s.a x s.b 0 := fun z => h k hk ((oth_iff hw hs x k).mp z)
    rcases hf with hf | hf
    · exact pr_far ho fun z => hf (rc_any k 0 ((rc_pl hw hs x k).mp z))
    · exact pr_cut ho fun z => hf (rc_any k 0 z)
  refine ⟨fun k hk z => ?_, fun d k hk z => ?_⟩
  · rw [ed_whole hs k] at z
    exact key k hk _ z
  · exact key k hk _ ((put_iff hw hs d k).mp z)
theorem lives_top {g : Nat → Int} (h : ∀ k ≤ us.length, ¬ OthW us w i k) (hr : Rc (es us w.st 0).ed 0 s.a) (hg : ∀ k ≤ us.length, Top us w i s k (g k)) :
    (Lives us w ↔ ∀ k ≤ us.length, g k ≤ 0) ∧ ∀ d, Lives us (putIn w i s d) ↔ ∀ k ≤ us.length, g k + cnt us d k ≤ 0 := by
  obtain ⟨_, hb2, _⟩ := hw.2 s (List.mem_of_getElem? hs)
  have key : ∀ k ≤ us.length, ∀ x, PR (Pl (es us (bare w.st i) k).ed s.a x s.b) 0 ↔ 0 < x + (g k - cnt us s.d k) := fun k hk x => by
    obtain ⟨t1, t2⟩ := hg k hk
    exact pr_iff (es_be hw (fun _ h => bare_sub _ h) k) hb2 (fun z => h k hk ((oth_iff hw hs x k).mp z)) ((rc_pl hw hs x k).mpr (rc_any 0 k hr)) t1 fun l t wl hl => by
      have := t2 l t wl hl
      omega
  refine ⟨⟨fun L k hk => ?_, fun L k hk z => ?_⟩, fun d => ⟨fun L k hk => ?_, fun L k hk z => ?_⟩⟩
  · apply Int.not_lt.mp
    intro z
    refine L k hk ?_
    rw [ed_whole hs k]
    exact (key k hk _).mpr (by omega)
  · rw [ed_whole hs k] at z
    have := (key k hk _).mp z
    have := L k hk
    omega
  · apply Int.not_lt.mp
    intro z
    exact L k hk ((put_iff hw hs d k).mpr ((key k hk _).mpr (by omega)))
  · have := (key k hk _).mp ((put_iff hw hs d k).mp z)
    have := L k hk
    omega
end
/-! ## by the unit -/
theorem le_iff : ∀ {xs ys : List Int} {n : Nat}, xs.length = n + 1 → ys.length = n + 1 → (Le xs ys ↔ ∀ k ≤ n, xs.getD k 0 ≤ ys.getD k 0)
  | [x], [y], 0, _, _ => ⟨fun h k hk => by
      have : k = 0 := by omega
      subst this; exact h.1, fun h => ⟨h 0 (Nat.le_refl _), trivial⟩⟩
  | x :: xs, y :: ys, n + 1, h1, h2 => by
    have ih := le_iff (xs := xs) (ys := ys) (n := n) (by simpa using h1) (by simpa using h2)
    constructor
    · intro h k hk
      cases k with
      | zero => exact h.1
      | succ k => exact ih.mp h.2 k (by omega)
    · intro h
      exact ⟨h 0 (Nat.zero_le _), ih.mpr fun k hk => h (k + 1) (by omega)⟩
  | [], _, _, h, _ => by simp at h
  | _, [], _, _, h => by simp at h
  | _ :: _ :: _, _, 0, h, _ => by simp at h
  | _, _ :: _ :: _, 0, _, h => by simp at h
theorem getD_neg (xs : List Int) (k : Nat) : (xs.map fun x => -x).getD k 0 = -(xs.getD k 0) := by
  rw [List.getD_eq_getElem?_getD, List.getD_eq_getElem?_getD, List.getElem?_map]
  cases xs[k]? <;> simp
theorem bring_iff {us gs r : List Int} (hg : gs.length = us.length + 1) (hr : r.length = us.length + 1) : (∀ k ≤ us.length, gs.getD k 0 + cnt us (.bring r) k ≤ 0) ↔ Le gs (stair us r) := by
  rw [le_iff hg (stair_len hr)]
  constructor
  · intro h k hk
    have := h k hk
    unfold cnt counts at this
    rw [getD_neg] at this
    omega
  · intro h k hk
    have := h k hk
    unfold cnt counts
    rw [getD_neg]
    omega
theorem ask_iff {us gs r : List Int} (hg : gs.length = us.length + 1) (hr : r.length = us.length + 1) : (∀ k ≤ us.length, gs.getD k 0 + cnt us (.ask r) k ≤ 0) ↔ Le (stair us r) (gs.map fun x => -x) := by
  rw [le_iff (stair_len hr) (by rw [List.length_map]; exact hg)]
  constructor
  · intro h k hk
    have : gs.getD k 0 + (stair us r).getD k 0 ≤ 0 := h k hk
    rw [getD_neg]
    omega
  · intro h k hk
    have := h k hk
    rw [getD_neg] at this
    show gs.getD k 0 + (stair us r).getD k 0 ≤ 0
    omega

/-! ## the greatest walks, turn by turn -/
abbrev Ln := List (Nat × Int × List Int)
def lget (l : Ln) (p : Nat) : Option (Int × List Int) := (l.find? fun e => decide (e.1 = p)).map (·.2)
def lput (l : Ln) (p : Nat) (v : Int × List Int) : Ln := if (l.any fun e => decide (e.1 = p)) = true then l.map (fun e => if e.1 = p then (e.1, v) else e) else l ++ [(p, v)]
theorem lget_nil (p : Nat) : lget [] p = none := rfl
theorem lget_cons (e : Nat × Int × List Int) (l : Ln) (p : Nat) : lget (e :: l) p = if e.1 = p then some e.2 else lget l p := by
  unfold lget
  by_cases h : e.1 = p
  · rw [if_pos h, List.find?_cons_of_pos (by simpa using h)]; rfl
  · rw [if_neg h, List.find?_cons_of_neg (by simpa using h)]
theorem lget_none_any : ∀ (l : Ln) (p : Nat), (l.any fun e => decide (e.1 = p)) = (lget l p).isSome
  | [], _ => rfl
  | e :: l, p => by
    rw [List.any_cons, lget_cons, lget_none_any l p]
    by_cases h : e.1 = p
    · rw [if_pos h]; simp [h]
    · rw [if_neg h]; simp [h]
theorem lget_map (v : Int × List Int) (p q : Nat) : ∀ l : Ln, lget (l.map fun e => if e.1 = p then (e.1, v) else e) q = if q = p ∧ (lget l q).isSome = true then some v else lget l q
  | [] => by simp [lget]
  | e :: l => by
    rw [List.map_cons, lget_cons, lget_cons, lget_map v p q l]
    by_cases h : e.1 = p
    · rw [if_pos h]
      by_cases h2 : e.1 = q
      · rw [if_pos h2, if_pos h2, if_pos ⟨by omega, rfl⟩]
      · rw [if_neg h2, if_neg h2]
    · rw [if_neg h]
      by_cases h2 : e.1 = q
      · rw [if_pos h2, if_pos h2, if_neg (fun z => h (by omega))]
      · rw [if_neg h2, if_neg h2]
theorem lget_app : ∀ (l m : Ln) (q : Nat), lget (l ++ m) q = if (lget l q).isSome = true then lget l q else lget m q
  | [], m, q => by simp [lget]
  | e :: l, m, q => by
    rw [List.cons_append, lget_cons, lget_cons, lget_app l m q]
    by_cases h : e.1 = q
    · simp only [if_pos h]; rfl
    · simp only [if_neg h]
theorem lget_lput (l : Ln) (p q : Nat) (v : Int × List Int) : lget (lput l p v) q = if q = p then some v else lget l q := by
  unfold lput
  rw [lget_none_any]
  by_cases hs : (lget l p).isSome = true
  · rw [if_pos hs, lget_map]
    by_cases h : q = p
    · subst h; rw [if_pos ⟨rfl, hs⟩, if_pos rfl]
    · rw [if_neg (fun z => h z.1), if_neg h]
  · rw [if_neg hs, lget_app, lget_cons, lget_nil]
    by_cases h : q = p
    · subst h; rw [if_neg hs, if_pos rfl, if_pos rfl]
    · rw [if_neg (show ¬ p = q from fun z => h z.symm), if_neg h]
      cases lget l q <;> rfl
/-- one step of the turn -/
def gone (line fo : Ln) (j : Nat) (e : Nat × Int × Nat) : Ln := match lget line e.1 with
  | none => fo
  | some (t, pa) => match lget fo e.2.2 with
    | none => lput fo e.2.2 (t + e.2.1, pa ++ [(j : Int)])
    | some (t', _) => if t' < t + e.2.1 then lput fo e.2.2 (t + e.2.1, pa ++ [(j : Int)]) else fo
def gfold (line : Ln) : Nat → Es → Ln → Ln
  | _, [], fo => fo
  | j, e :: es, fo => gfold line (j + 1) es (gone line fo j e)
def gline (es : Es) (line : Ln) : Ln := gfold line 0 es []
/-- what stands after the steps done -/
structure Gi (line : Ln) (done : Es) (fo : Ln) : Prop where
  some_ : ∀ p t pa, lget fo p = some (t, pa) → (∃ a c u pb, (a, c, p) ∈ done ∧ lget line a = some (u, pb) ∧ t = u + c) ∧ ∀ a c u pb, (a, c, p) ∈ done → lget line a = some (u, pb) → u + c ≤ t
  none_ : ∀ p, lget fo p = none → ∀ a c, (a, c, p) ∈ done → lget line a = none
theorem gone_ok {line fo : Ln} {done : Es} (h : Gi line done fo) (j : Nat) (e : Nat × Int × Nat) : Gi line (done ++ [e]) (gone line fo j e) := by
  obtain ⟨a, c, b⟩ := e
  have put : ∀ t pa, lget line a = some (t, pa) → (∀ t' pb, lget fo b = some (t', pb) → t' < t + c) → Gi line (done ++ [(a, c, b)]) (lput fo b (t + c, pa ++ [(j : Int)])) := by
    intro t pa hl hlt
    refine ⟨fun p t1 pb hp => ?_, fun p hp a' c' hm => ?_⟩
    · rw [lget_lput] at hp
      by_cases hpb : p = b
      · rw [if_pos hpb] at hp
        cases hp
        subst hpb
        refine ⟨⟨a, c, t, pa, by simp, hl, rfl⟩, fun a' c' u pb hm hu => ?_⟩
        rcases List.mem_append.mp hm with z | z
        · cases hf : lget fo p with
          | none => rw [h.none_ p hf a' c' z] at hu; cases hu
          | some v =>
            obtain ⟨t', pv⟩ := v
            have h1 := (h.some_ p t' pv hf).2 a' c' u pb z hu
            have h2 := hlt t' pv hf
            omega
        · have z : (a', c', p) = (a, c, p) := by simpa using z
          injection z with z1 z2
          injection z2 with z2 _
          subst z1 z2
          rw [hl] at hu
          cases hu
          exact Int.le_refl _
      · rw [if_neg hpb] at hp
        obtain ⟨⟨a', c', u, pv, m1, m2, m3⟩, h2⟩ := h.some_ p t1 pb hp
        refine ⟨⟨a', c', u, pv, List.mem_append_left _ m1, m2, m3⟩, fun a' c' u pb hm hu => ?_⟩
        rcases List.mem_append.mp hm with z | z
        · exact h2 a' c' u pb z hu
        · exact absurd (by have z : (a', c', p) = (a, c, b) := by simpa using z
                           injection z with _ z2
                           injection z2) hpb
    · rw [lget_lput] at hp
      by_cases hpb : p = b
      · rw [if_pos hpb] at hp; cases hp
      · rw [if_neg hpb] at hp
        rcases List.mem_append.mp hm with z | z
        · exact h.none_ p hp a' c' z
        · exact absurd (by have z : (a', c', p) = (a, c, b) := by simpa using z
                           injection z with _ z2
                           injection z2) hpb
  have stay : (lget line a = none ∨ ∃ t pa t' pb, lget line a = some (t, pa) ∧ lget fo b = some (t', pb) ∧ t + c ≤ t') → Gi line (done ++ [(a, c, b)]) fo := by
    intro hc
    refine ⟨fun p t1 pb hp => ?_, fun p hp a' c' hm => ?_⟩
    · obtain ⟨⟨a', c', u, pv, m1, m2, m3⟩, h2⟩ := h.some_ p t1 pb hp
      refine ⟨⟨a', c', u, pv, List.mem_append_left _ m1, m2, m3⟩, fun a' c' u pb' hm hu => ?_⟩
      rcases List.mem_append.mp hm with z | z
      · exact h2 a' c' u pb' z hu
      · have z : (a', c', p) = (a, c, b) := by simpa using z
        injection z with z1 z2
        injection z2 with z2 z3
        subst z1 z2 z3
        rcases hc with hc | ⟨t, pa, t', pb2, g1, g2, g3⟩
        · rw [hc] at hu; cases hu
        · rw [g1] at hu; cases hu
          rw [g2] at hp; cases hp
          exact g3
    · rcases List.mem_append.mp hm with z | z
      · exact h.none_ p hp a' c' z
      · have z : (a', c', p) = (a, c, b) := by simpa using z
        injection z with z1 z2
        injection z2 with z2 z3
        subst z1 z2 z3
        rcases hc with hc | ⟨t, pa, t', pb2, g1, g2, g3⟩
        · exact hc
        · rw [g2] at hp; cases hp
  unfold gone
  split
  · rename_i hl
    exact stay (.inl hl)
  · rename_i t pa hl
    split
    · rename_i hf
      exact put t pa hl fun t' pb z => by rw [hf] at z; cases z
    · rename_i t' pb hf
      split
      · rename_i hlt
        exact put t pa hl fun t2 pb2 z => by rw [hf] at z; cases z; exact hlt
      · rename_i hlt
        exact stay (.inr ⟨t, pa, t', pb, hl, hf, by show t + c ≤ t'; have : ¬ t' < t + c := hlt; omega⟩)
theorem gfold_ok {line : Ln} : ∀ (es : Es) {done : Es} {fo : Ln} (j : Nat), Gi line done fo → Gi line (done ++ es) (gfold line j es fo)
  | [], _, _, _, h => by rw [List.append_nil]; exact h
  | e :: es, done, fo, j, h => by
    have z := gfold_ok es (j + 1) (gone_ok h j e)
    rw [List.append_assoc] at z
    exact z
theorem gline_ok (es : Es) (line : Ln) : Gi line es (gline es line) := by
  have z := gfold_ok (line := line) es (done := []) (fo := []) 0 ⟨fun p t pa h => (nomatch h), fun p _ a c h => (nomatch h)⟩
  exact z
/-- the line of the walks of t steps from st -/
structure Gp (E : Ed) (st t : Nat) (line : Ln) : Prop where
  some_ : ∀ p s pa, lget line p = some (s, pa) → (∃ l, l.length = t ∧ Wl E st l p s) ∧ ∀ l u, l.length = t → Wl E st l p u → u ≤ s
  none_ : ∀ p, lget line p = none → ∀ l u, l.length = t → ¬ Wl E st l p u
theorem Wl.unsnoc {E : Ed} {p r : Nat} {l : List Nat} {s : Int} (w : Wl E p l r s) (n : l ≠ []) : ∃ l' q c s', l = l' ++ [r] ∧ Wl E p l' q s' ∧ E q c r ∧ s = s' + c := by
  induction w with
  | nil p => exact absurd rfl n
  | @cons p q r l c s h w ih =>
    cases l with
    | nil =>
      cases w
      exact ⟨[], p, c, 0, rfl, .nil p, h, by omega⟩
    | cons x l =>
      obtain ⟨l', q', c', s', e, w', h', es⟩ := ih (by simp)
      exact ⟨q :: l', q', c', c + s', by rw [e]; rfl, .cons h w', h', by omega⟩
theorem gp_zero (E : Ed) (st : Nat) (pa : List Int) : Gp E st 0 [(st, 0, pa)] := by
  refine ⟨fun p s pb h => ?_, fun p h l u hl w => ?_⟩
  · rw [lget_cons, lget_nil] at h
    split at h
    · rename_i e
      cases h
      have e : st = p := e
      subst e
      refine ⟨⟨[], rfl, .nil _⟩, fun l u hl w => ?_⟩
      cases w with
      | nil => exact Int.le_refl _
      | cons _ _ => simp at hl
    · cases h
  · rw [lget_cons, lget_nil] at h
    split at h
    · cases h
    · rename_i e
      cases w with
      | nil => exact e rfl
      | cons _ _ => simp at hl
theorem gp_next {es : Es} {st t : Nat} {line : Ln} (h : Gp es.ed st t line) : Gp es.ed st (t + 1) (gline es line) := by
  have k := gline_ok es line
  have un : ∀ {p : Nat} {l : List Nat} {u : Int}, l.length = t + 1 → Wl es.ed st l p u → ∃ a c l' s', l'.length = t ∧ Wl es.ed st l' a s' ∧ (a, c, p) ∈ es ∧ u = s' + c := by
    intro p l u hl w
    obtain ⟨l', q, c, s', e, w', he, eu⟩ := w.unsnoc (fun z => by rw [z] at hl; simp at hl)
    exact ⟨q, c, l', s', by rw [e] at hl; simpa using hl, w', he, eu⟩
  refine ⟨fun p s pa hp => ?_, fun p hp l u hl w => ?_⟩
  · obtain ⟨⟨a, c, v, pb, m1, m2, m3⟩, h2⟩ := k.some_ p s pa hp
    obtain ⟨⟨l, hl, w⟩, _⟩ := h.some_ a v pb m2
    refine ⟨⟨l ++ [p], by simp [hl], by rw [m3]; exact w.snoc m1⟩, fun l u hl w => ?_⟩
    obtain ⟨a', c', l', s', hl', w', m, eu⟩ := un hl w
    cases ha : lget line a' with
    | none => exact absurd w' (h.none_ a' ha l' s' hl')
    | some z =>
      obtain ⟨z1, z2⟩ := z
      have h3 := (h.some_ a' z1 z2 ha).2 l' s' hl' w'
      have h4 := h2 a' c' z1 z2 m ha
      omega
  · obtain ⟨a', c', l', s', hl', w', m, eu⟩ := un hl w
    exact h.none_ a' (k.none_ p hp a' c' m) l' s' hl' w'
/-- the lines of 0 to n steps -/
def gws (es : Es) : Nat → Ln → List Ln
  | 0, line => [line]
  | n + 1, line => line :: gws es n (gline es line)
def gw (es : Es) (n st : Nat) : List Ln := gws es n [(st, 0, [])]
theorem gws_at {es : Es} {st : Nat} : ∀ (n : Nat) (t : Nat) {line : Ln}, Gp es.ed st t line → ∀ (i : Nat) (l : Ln), (gws es n line)[i]? = some l → Gp es.ed st (t + i) l
  | 0, t, line, h, i, l, e => by
    cases i with
    | zero => cases e; exact h
    | succ i => simp [gws] at e
  | n + 1, t, line, h, i, l, e => by
    cases i with
    | zero => cases e; exact h
    | succ i =>
      have z := gws_at n (t + 1) (gp_next h) i l (by simpa [gws] using e)
      have e2 : t + 1 + i = t + (i + 1) := by omega
      rw [e2] at z
      exact z
theorem gws_len (es : Es) : ∀ (n : Nat) (line : Ln), (gws es n line).length = n + 1
  | 0, _ => rfl
  | n + 1, line => by unfold gws; rw [List.length_cons, gws_len es n]
theorem gw_at {es : Es} {n st i : Nat} {l : Ln} (e : (gw es n st)[i]? = some l) : Gp es.ed st i l := by
  have z := gws_at n 0 (gp_zero es.ed st []) i l e
  rwa [Nat.zero_add] at z
theorem gw_len (es : Es) (n st : Nat) : (gw es n st).length = n + 1 := gws_len es n _
/-- the lines of which p holds something above 0: a ring at p -/
def ringAt (es : Es) (n p : Nat) : Prop := ∃ l s, l ≠ [] ∧ l.length ≤ n ∧ Wl es.ed p l p s ∧ 0 < s
theorem ringAt_iff {es : Es} {n p : Nat} : ringAt es n p ↔ ∃ i line s pa, 0 < i ∧ (gw es n p)[i]? = some line ∧ lget line p = some (s, pa) ∧ 0 < s := by
  constructor
  · rintro ⟨l, s, nl, hl, w, hs⟩
    have hi : l.length < (gw es n p).length := by rw [gw_len]; omega
    have e := List.getElem?_eq_getElem hi
    have g := gw_at e
    cases hp : lget (gw es n p)[l.length] p with
    | none => exact absurd w (g.none_ p hp l s rfl)
    | some v =>
      obtain ⟨v1, v2⟩ := v
      have h := (g.some_ p v1 v2 hp).2 l s rfl w
      exact ⟨l.length, _, v1, v2, List.length_pos_iff.mpr nl, e, hp, by omega⟩
  · rintro ⟨i, line, s, pa, hi, e, hp, hs⟩
    have g := gw_at e
    obtain ⟨⟨l, hl, w⟩, _⟩ := g.some_ p s pa hp
    have h2 := (List.getElem?_eq_some_iff.mp e).1
    rw [gw_len] at h2
    exact ⟨l, s, fun z => by rw [z] at hl; simp at hl; omega, by omega, w, hs⟩
end Mt
set_option Elab.async false
set_option linter.all false
set_option maxRecDepth 100000
set_option maxHeartbeats 1000000
/-! # The plain-data layer: what a slot holds is told by plain data (PyData), the heap is kept out of sight -/
namespace Yd
open PySem PySem.Spec PyProof.Rows L2 LamX

/-! ## a value stands for a datum -/
mutual
inductive Is (K : PySem.W.Frag) (H : Hp) : V → PyData → Prop
  | non : Is K H .non .none
  | bl (b : Bool) : Is K H (.bl b) (.bool b)
  | int (i : Int) : Is K H (.int i) (.int i)
  | str (x : Str) : Is K H (.str x) (.str x)
  | lst {a : Addr} {xs : List V} {ds : List PyData} (h : H a = some (.lst xs)) (hl : IsL K H xs ds) : Is K H (.ref a) (.list ds)
  | tup {a : Addr} {xs : List V} {ds : List PyData} (h : H a = some (.tup xs)) (hl : IsL K H xs ds) : Is K H (.ref a) (.tuple ds)
  | dic {a : Addr} {ps : List (Key × V)} {kvs : List (PyData × PyData)} (h : H a = some (.dK ps)) (hl : IsK K H ps kvs) : Is K H (.ref a) (.dict kvs)
inductive IsL (K : PySem.W.Frag) (H : Hp) : List V → List PyData → Prop
  | nil : IsL K H [] []
  | cons {v : V} {vs : List V} {d : PyData} {ds : List PyData} (h : Is K H v d) (hl : IsL K H vs ds) : IsL K H (v :: vs) (d :: ds)
inductive IsK (K : PySem.W.Frag) (H : Hp) : List (Key × V) → List (PyData × PyData) → Prop
  | nil : IsK K H [] []
  | cons {i : Int} {v : V} {d : PyData} {ps : List (Key × V)} {kvs : List (PyData × PyData)} (h : Is K H v d) (hl : IsK K H ps kvs) : IsK K H ((.inl i, v) :: ps) ((.int i, d) :: kvs)
end

mutual
theorem Is.mono {K : PySem.W.Frag} {H H' : Hp} (e : Same H H') : ∀ {v : V} {d : PyData}, Is K H v d → Is K H' v d
  | _, _, .non => .non
  | _, _, .bl b => .bl b
  | _, _, .int i => .int i
  | _, _, .str x => .str x
  | _, _, .lst h hl => .lst (e _ _ h) (IsL.mono e hl)
  | _, _, .tup h hl => .tup (e _ _ h) (IsL.mono e hl)
  | _, _, .dic h hl => .dic (e _ _ h) (IsK.mono e hl)
theorem IsL.mono {K : PySem.W.Frag} {H H' : Hp} (e : Same H H') : ∀ {v : List V} {d : List PyData}, IsL K H v d → IsL K H' v d
  | _, _, .nil => .nil
  | _, _, .cons h hl => .cons (Is.mono e h) (IsL.mono e hl)
theorem IsK.mono {K : PySem.W.Frag} {H H' : Hp} (e : Same H H') : ∀ {v : List (Key × V)} {d : List (PyData × PyData)}, IsK K H v d → IsK K H' v d
  | _, _, .nil => .nil
  | _, _, .cons h hl => .cons (Is.mono e h) (IsK.mono e hl)
end

section
variable {K : PySem.W.Frag} {H : Hp}
theorem IsL.length : ∀ {xs : List V} {ds : List PyData}, IsL K H xs ds → xs.length = ds.length
  | _, _, .nil => rfl
  | _, _, .cons _ hl => by rw [List.length_cons, List.length_cons, hl.length]
theorem IsL.get : ∀ {xs : List V} {ds : List PyData} {i : Nat} {x : V}, IsL K H xs ds → xs[i]? = some x → ∃ d, ds[i]? = some d ∧ Is K H x d
  | _, _, _, _, .nil, e => by simp at e
  | _, _, 0, _, .cons h _, e => by simp at e; subst e; exact ⟨_, rfl, h⟩
  | _, _, i + 1, x, .cons _ hl, e => by
    obtain ⟨d, h1, h2⟩ := IsL.get (i := i) (x := x) hl (by simpa using e)
    exact ⟨d, by simpa using h1, h2⟩
theorem IsL.getD : ∀ {xs : List V} {ds : List PyData} {i : Nat} {d : PyData}, IsL K H xs ds → ds[i]? = some d → ∃ x, xs[i]? = some x ∧ Is K H x d
  | _, _, _, _, .nil, e => by simp at e
  | _, _, 0, _, .cons h _, e => by simp at e; subst e; exact ⟨_, rfl, h⟩
  | _, _, i + 1, x, .cons _ hl, e => by
    obtain ⟨d, h1, h2⟩ := IsL.getD (i := i) (d := x) hl (by simpa using e)
    exact ⟨d, by simpa using h1, h2⟩
theorem IsL.append : ∀ {xs : List V} {ds : List PyData} {ys : List V} {es : List PyData}, IsL K H xs ds → IsL K H ys es → IsL K H (xs ++ ys) (ds ++ es)
  | _, _, _, _, .nil, h => h
  | _, _, _, _, .cons h hl, h2 => .cons h (hl.append h2)
theorem IsL.one {x : V} {d : PyData} (h : Is K H x d) : IsL K H [x] [d] := .cons h .nil
theorem IsL.set : ∀ {xs : List V} {ds : List PyData} {x : V} {d : PyData} (i : Nat), IsL K H xs ds → Is K H x d → IsL K H (xs.set i x) (ds.set i d)
  | _, _, _, _, _, .nil, _ => .nil
  | _, _, _, _, 0, .cons _ hl, h => .cons h hl
  | _, _, _, _, i + 1, .cons h0 hl, h => .cons h0 (hl.set i h)
theorem IsL.take : ∀ {xs : List V} {ds : List PyData} (n : Nat), IsL K H xs ds → IsL K H (xs.take n) (ds.take n)
  | _, _, 0, _ => .nil
  | _, _, _ + 1, .nil => .nil
  | _, _, n + 1, .cons h hl => .cons h (hl.take n)
theorem IsL.drop : ∀ {xs : List V} {ds : List PyData} (n : Nat), IsL K H xs ds → IsL K H (xs.drop n) (ds.drop n)
  | _, _, 0, h => h
  | _, _, _ + 1, .nil => .nil
  | _, _, n + 1, .cons _ hl => hl.drop n
theorem IsL.reverse : ∀ {xs : List V} {ds : List PyData}, IsL K H xs ds → IsL K H xs.reverse ds.reverse
  | _, _, .nil => .nil
  | _, _, .cons h hl => by rw [List.reverse_cons, List.reverse_cons]; exact hl.reverse.append (.one h)
theorem IsL.ints : ∀ {xs : List V} {ns : List Int}, IsL K H xs (ns.map PyData.int) → xs = ns.map V.int
  | xs, [], h => by cases h; rfl
  | xs, n :: ns, h => by
    cases h with
    | cons h hl => cases h; rw [hl.ints]; rfl
theorem IsL.of_ints : ∀ (ns : List Int), IsL K H (ns.map V.int) (ns.map PyData.int)
  | [] => .nil
  | n :: ns => .cons (.int n) (IsL.of_ints ns)
theorem IsL.rep {x : V} {d : PyData} (h : Is K H x d) : ∀ n : Nat, IsL K H (List.replicate n x) (List.replicate n d)
  | 0 => .nil
  | n + 1 => .cons h (IsL.rep h n)
theorem IsL.flatRep {xs : List V} {ds : List PyData} (h : IsL K H xs ds) : ∀ n : Nat, IsL K H (List.replicate n xs).flatten (List.replicate n ds).flatten
  | 0 => .nil
  | n + 1 => by rw [List.replicate_succ, List.replicate_succ, List.flatten_cons, List.flatten_cons]; exact h.append (h.flatRep n)
theorem at_of_isl {xs : List V} {ds : List PyData} {i : Int} {d : PyData} (h : IsL K H xs ds) (e : atI ds i = some d) : ∃ x, atI xs i = some x ∧ Is K H x d := by
  obtain ⟨j, hj, hd⟩ := Option.bind_eq_some_iff.mp e
  obtain ⟨x, hx, ix⟩ := h.getD hd
  exact ⟨x, by unfold atI; rw [h.length, hj]; exact hx, ix⟩
end

/-! ## slots, environments, frames -/
inductive Sl where
  /-- nothing known -/
  | u
  /-- a datum that nobody writes any more -/
  | s (d : PyData)
  /-- a list or a dict that this slot alone knows -/
  | o (d : PyData)
  /-- the state of the draws -/
  | st
structure En where
  sl : List Sl
  g : Nat
def En.put (ρ : En) (i : Nat) (x : Sl) : En := ⟨ρ.sl.set i x, ρ.g⟩
/-- the ground of a piece of code: the heap and the shared part at its entry, the tables, the state of the draws -/
structure Fm where
  H0 : Hp
  Hs0 : Hp
  T : List (Addr × Str)
  rg : Option (Addr × Addr × Addr)

def NoTb (Hs : Hp) : Prop := ∀ a ps, Hs a ≠ some (.tbl ps)
def Old (H : Hp) (a : Addr) : Prop := ∃ o, H a = some o ∧ ∀ ps, o ≠ .tbl ps
theorem Old.none {H : Hp} {a : Addr} (h : H a = Option.none) : ¬ Old H a := fun ⟨o, e, _⟩ => by rw [h] at e; cases e
theorem Old.of {H : Hp} {a : Addr} {o : HO} (h : H a = some o) (n : ∀ ps, o ≠ .tbl ps) : Old H a := ⟨o, h, n⟩

def StOk (H : Hp) (S C L : Addr) (n : Nat) : Prop :=
  H S = some (.dK [(.inr "cells", .ref C), (.inr "lefts", .ref L), (.inr "at", .int (n : Int))]) ∧
    ∃ cs ls : List Int, H C = some (.lst (cs.map V.int)) ∧ H L = some (.lst (ls.map V.int)) ∧ 0 < cs.length ∧ ls.length = cs.length
def RgOk (F : Fm) (Hs H : Hp) (n : Nat) : Prop := ∀ S C L, F.rg = some (S, C, L) →
  StOk H S C L n ∧ (Old F.H0 S ∧ Old F.H0 C ∧ Old F.H0 L) ∧ Hs S = none ∧ Hs C = none ∧ Hs L = none
def Fm.mv (F : Fm) (a : Addr) : Prop := ∃ S C L, F.rg = some (S, C, L) ∧ (a = S ∨ a = L)

inductive OwnO (K : PySem.W.Frag) (Hs H : Hp) (a : Addr) : PyData → Prop
  | lst {xs : List V} {ds : List PyData} (h : H a = some (.lst xs)) (hl : IsL K Hs xs ds) : OwnO K Hs H a (.list ds)
  | dic {ps : List (Key × V)} {kvs : List (PyData × PyData)} (h : H a = some (.dK ps)) (hl : IsK K Hs ps kvs) : OwnO K Hs H a (.dict kvs)

inductive SlOk (K : PySem.W.Frag) (F : Fm) (Hs H : Hp) (x : Option (Option V)) : Sl → Prop
  | u : SlOk K F Hs H x .u
  | s {v : V} {d : PyData} (e : x = some (some v)) (h : Is K Hs v d) : SlOk K F Hs H x (.s d)
  | o {a : Addr} {d : PyData} (e : x = some (some (.ref a))) (hn : Hs a = none) (h0 : ¬ Old F.H0 a) (h : OwnO K Hs H a d) : SlOk K F Hs H x (.o d)
  | st {S C L : Addr} (e : F.rg = some (S, C, L)) (h : x = some (some (.ref S))) : SlOk K F Hs H x .st

structure Rep (K : PySem.W.Frag) (F : Fm) (Hs : Hp) (σ : L2.St) (H : Hp) (ρ : En) : Prop where
  sub : Same Hs H
  base : Same F.Hs0 Hs
  sep : ∀ a, Old F.H0 a → Hs a = F.Hs0 a
  frame : ∀ a o, F.H0 a = some o → (∀ ps, o ≠ .tbl ps) → ¬ F.mv a → H a = some o
  there : ∀ a, Old F.H0 a → Old H a
  ntb : NoTb Hs
  rgo : RgOk F Hs H ρ.g
  tab : Tabs F.T H
  len : σ.length = ρ.sl.length
  slo : ∀ (i : Nat) (x : Sl), ρ.sl[i]? = some x → SlOk K F Hs H σ[i]? x
  inj : ∀ (i j : Nat) (d e : PyData) (a : Addr), ρ.sl[i]? = some (.o d) → ρ.sl[j]? = some (.o e) → σ[i]? = some (some (.ref a)) → σ[j]? = some (some (.ref a)) → i = j

/-- how heap and shared part grow: what was there stays (but tables), what was private stays private -/
structure Grow (T : List (Addr × Str)) (Hs H Hs' H' : Hp) : Prop where
  ext : ExtN H H'
  shr : Same Hs Hs'
  sub : Same Hs' H'
  ntb : NoTb Hs'
  old : ∀ a, Old H a → Hs' a = Hs a
  tab : Tabs T H'

theorem ExtN.old {H H' : Hp} (e : ExtN H H') {a : Addr} (h : Old H a) : Old H' a := by
  obtain ⟨o, h, n⟩ := h
  exact ⟨o, e a o h n, n⟩
theorem StOk.ext {H H' : Hp} {S C L : Addr} {n : Nat} (e : ExtN H H') (h : StOk H S C L n) : StOk H' S C L n := by
  obtain ⟨h1, cs, ls, h2, h3, h4, h5⟩ := h
  exact ⟨e _ _ h1 (fun _ z => nomatch z), cs, ls, e _ _ h2 (fun _ z => nomatch z), e _ _ h3 (fun _ z => nomatch z), h4, h5⟩

section
variable {K : PySem.W.Frag} {F : Fm} {Hs Hs' : Hp} {σ : L2.St} {H H' : Hp} {ρ : En}

theorem OwnO.grow {a : Addr} {d : PyData} (e : ExtN H H') (g : Same Hs Hs') (h : OwnO K Hs H a d) : OwnO K Hs' H' a d := by
  cases h with
  | lst h hl => exact .lst (e _ _ h (fun _ z => nomatch z)) (hl.mono g)
  | dic h hl => exact .dic (e _ _ h (fun _ z => nomatch z)) (hl.mono g)
theorem OwnO.old {a : Addr} {d : PyData} (h : OwnO K Hs H a d) : Old H a := by
  cases h with
  | lst h hl => exact ⟨_, h, fun _ z => nomatch z⟩
  | dic h hl => exact ⟨_, h, fun _ z => nomatch z⟩

/-- THE STEP: all grows -/
theorem Rep.grow (R : Rep K F Hs σ H ρ) (g : Grow F.T Hs H Hs' H') : Rep K F Hs' σ H' ρ where
  sub := g.sub
  base := R.base.trans g.shr
  sep := fun a h => (g.old a (R.there a h)).trans (R.sep a h)
  frame := fun a o h n m => g.ext a o (R.frame a o h n m) n
  there := fun a h => ExtN.old g.ext (R.there a h)
  ntb := g.ntb
  rgo := fun S C L e => by
    obtain ⟨h1, ⟨o1, o2, o3⟩, n1, n2, n3⟩ := R.rgo S C L e
    exact ⟨h1.ext g.ext, ⟨o1, o2, o3⟩, (g.old S (R.there S o1)).trans n1, (g.old C (R.there C o2)).trans n2, (g.old L (R.there L o3)).trans n3⟩
  tab := g.tab
  len := R.len
  slo := fun i x hx => by
    cases R.slo i x hx with
    | u => exact .u
    | s e q => exact .s e (q.mono g.shr)
    | o e hn h0 q => exact .o e ((g.old _ q.old).trans hn) h0 (q.grow g.ext g.shr)
    | st e q => exact .st e q
  inj := R.inj

theorem same_ext (e : Same H H') : ExtN H H' := fun a o h _ => e a o h
theorem same_upd {p : Addr} {o : HO} (hp : H p = none) : Same H (upd H p o) := fun a u h => by
  rw [upd_ne (ne_of_none h hp)]; exact h
/-- a new object, shared at once -/
theorem Grow.laid {T : List (Addr × Str)} {p : Addr} {o : HO} (hs : Same Hs H) (nt : NoTb Hs) (ht : Tabs T H) (hp : H p = none) (ho : ∀ ps, o ≠ .tbl ps) : Grow T Hs H (upd Hs p o) (upd H p o) where
  ext := same_ext (same_upd hp)
  shr := same_upd (by
    cases q : Hs p with
    | none => rfl
    | some u => rw [hs p u q] at hp; cases hp)
  sub := fun a u h => by
    by_cases e : a = p
    · subst e; rw [upd_same] at h ⊢; exact h
    · rw [upd_ne e] at h ⊢; exact hs a u h
  ntb := fun a ps h => by
    by_cases e : a = p
    · subst e; rw [upd_same] at h; exact ho ps (Option.some.inj h)
    · rw [upd_ne e] at h; exact nt a ps h
  old := fun a h => upd_ne (fun e => Old.none hp (e ▸ h))
  tab := ht.ext (same_upd hp)
/-- a new object, private as yet -/
theorem Grow.own {T : List (Addr × Str)} {p : Addr} {o : HO} (hs : Same Hs H) (nt : NoTb Hs) (ht : Tabs T H) (hp : H p = none) : Grow T Hs H Hs (upd H p o) where
  ext := same_ext (same_upd hp)
  shr := Same.refl _
  sub := hs.trans (same_upd hp)
  ntb := nt
  old := fun _ _ => rfl
  tab := ht.ext (same_upd hp)
theorem Grow.refl {T : List (Addr × Str)} (hs : Same Hs H) (nt : NoTb Hs) (ht : Tabs T H) : Grow T Hs H Hs H := ⟨ExtN.refl H, Same.refl _, hs, nt, fun _ _ => rfl, ht⟩
theorem Grow.trans {T : List (Addr × Str)} {Hs2 H2 : Hp} (a : Grow T Hs H Hs' H') (b : Grow T Hs' H' Hs2 H2) : Grow T Hs H Hs2 H2 :=
  ⟨a.ext.trans b.ext, a.shr.trans b.shr, b.sub, b.ntb, fun x h => (b.old x (ExtN.old a.ext h)).trans (a.old x h), b.tab⟩
theorem Rep.laid (R : Rep K F Hs σ H ρ) {p : Addr} {o : HO} (hp : H p = none) (ho : ∀ ps, o ≠ .tbl ps) : Rep K F (upd Hs p o) σ (upd H p o) ρ := R.grow (.laid R.sub R.ntb R.tab hp ho)
theorem Rep.fresh (R : Rep K F Hs σ H ρ) {p : Addr} (hp : H p = none) : Hs p = none := R.sub.free hp
theorem Rep.own (R : Rep K F Hs σ H ρ) {p : Addr} {o : HO} (hp : H p = none) : Rep K F Hs σ (upd H p o) ρ := R.grow (.own R.sub R.ntb R.tab hp)
/-- nothing old is new -/
theorem Rep.notOld (R : Rep K F Hs σ H ρ) {p : Addr} (hp : H p = none) : ¬ Old F.H0 p := fun h => Old.none hp (R.there p h)

theorem set_get {α : Type} {l : List α} {i j : Nat} {x y : α} (h : (l.set i x)[j]? = some y) : (j = i ∧ i < l.length ∧ y = x) ∨ (j ≠ i ∧ l[j]? = some y) := by
  by_cases e : i = j
  · subst e
    by_cases hl : i < l.length
    · rw [List.getElem?_set_self hl] at h; exact .inl ⟨rfl, hl, (Option.some.inj h).symm⟩
    · rw [List.getElem?_eq_none (by simpa using hl)] at h; cases h
  · rw [List.getElem?_set_ne e] at h; exact .inr ⟨Ne.symm e, h⟩

/-- a private object that no slot knows -/
structure Priv (K : PySem.W.Frag) (F : Fm) (Hs : Hp) (σ : L2.St) (H : Hp) (ρ : En) (a : Addr) (d : PyData) : Prop where
  hn : Hs a = none
  h0 : ¬ Old F.H0 a
  own : OwnO K Hs H a d
  apart : ∀ (j : Nat) (e : PyData), ρ.sl[j]? = some (.o e) → σ[j]? ≠ some (some (.ref a))

theorem Rep.priv (R : Rep K F Hs σ H ρ) {p : Addr} {xs : List V} {ds : List PyData} (hp : H p = none) (h : IsL K Hs xs ds) : Priv K F Hs σ (upd H p (.lst xs)) ρ p (.list ds) where
  hn := R.fresh hp
  h0 := R.notOld hp
  own := .lst upd_same h
  apart := fun j e hj z => by
    cases R.slo j _ hj with
    | o e1 hn h0 h =>
      rw [e1] at z
      cases z
      exact Old.none hp h.old
theorem Rep.privD (R : Rep K F Hs σ H ρ) {p : Addr} {ps : List (Key × V)} {kvs : List (PyData × PyData)} (hp : H p = none) (h : IsK K Hs ps kvs) : Priv K F Hs σ (upd H p (.dK ps)) ρ p (.dict kvs) where
  hn := R.fresh hp
  h0 := R.notOld hp
  own := .dic upd_same h
  apart := fun j e hj z => by
    cases R.slo j _ hj with
    | o e1 hn h0 h =>
      rw [e1] at z
      cases z
      exact Old.none hp h.old

/-- the shared part takes a private object in -/
theorem Rep.freeze (R : Rep K F Hs σ H ρ) {a : Addr} {d : PyData} (P : Priv K F Hs σ H ρ a d) : ∃ Hs', Same Hs Hs' ∧ Rep K F Hs' σ H ρ ∧ Is K Hs' (.ref a) d := by
  obtain ⟨o, ho, hno⟩ := P.own.old
  have sh : Same Hs (upd Hs a o) := same_upd P.hn
  have na : ∀ b, Old F.H0 b → b ≠ a := fun b hb z => P.h0 (z ▸ hb)
  refine ⟨upd Hs a o, sh, ⟨fun b u h => ?_, R.base.trans sh, fun b h => ?_, R.frame, R.there, fun b ps h => ?_, fun S C L e => ?_, R.tab, R.len, fun i x hx => ?_, R.inj⟩, ?_⟩
  · by_cases e : b = a
    · subst e; rw [upd_same] at h; rw [← h]; exact ho
    · rw [upd_ne e] at h; exact R.sub b u h
  · rw [upd_ne (na b h)]; exact R.sep b h
  · by_cases e : b = a
    · subst e; rw [upd_same] at h; exact hno ps (Option.some.inj h)
    · rw [upd_ne e] at h; exact R.ntb b ps h
  · obtain ⟨h1, ⟨o1, o2, o3⟩, n1, n2, n3⟩ := R.rgo S C L e
    exact ⟨h1, ⟨o1, o2, o3⟩, by rw [upd_ne (na S o1)]; exact n1, by rw [upd_ne (na C o2)]; exact n2, by rw [upd_ne (na L o3)]; exact n3⟩
  · cases R.slo i x hx with
    | u => exact .u
    | s e q => exact .s e (q.mono sh)
    | @o b e' e hn h0 q =>
      have hb : b ≠ a := fun z => P.apart i _ hx (by rw [e, z])
      exact .o e (by rw [upd_ne hb]; exact hn) h0 (q.grow (ExtN.refl _) sh)
    | st e q => exact .st e q
  · cases P.own with
    | lst h hl =>
      rw [ho] at h; cases h
      exact .lst upd_same (hl.mono sh)
    | dic h hl =>
      rw [ho] at h; cases h
      exact .dic upd_same (hl.mono sh)

/-- a slot takes a shared value -/
theorem Rep.setS (R : Rep K F Hs σ H ρ) {v : V} {d : PyData} (i : Nat) (h : Is K Hs v d) : Rep K F Hs (σ.set i (some v)) H (ρ.put i (.s d)) where
  sub := R.sub
  base := R.base
  sep := R.sep
  frame := R.frame
  there := R.there
  ntb := R.ntb
  rgo := R.rgo
  tab := R.tab
  len := by rw [List.length_set, R.len]; exact (List.length_set ..).symm
  slo := fun j x hj => by
    rcases set_get hj with ⟨rfl, hl, rfl⟩ | ⟨hne, hj⟩
    · exact .s (List.getElem?_set_self (by rw [R.len]; exact hl)) h
    · rw [List.getElem?_set_ne (Ne.symm hne)]; exact R.slo j x hj
  inj := fun j k d e a hj hk sj sk => by
    rcases set_get hj with ⟨_, _, z⟩ | ⟨hne, hj⟩
    · cases z
    · rcases set_get hk with ⟨_, _, z⟩ | ⟨hne2, hk⟩
      · cases z
      · rw [List.getElem?_set_ne (Ne.symm hne)] at sj
        rw [List.getElem?_set_ne (Ne.symm hne2)] at sk
        exact R.inj j k d e a hj hk sj sk
/-- a slot takes a private object -/
theorem Rep.setO (R : Rep K F Hs σ H ρ) {a : Addr} {d : PyData} (i : Nat) (P : Priv K F Hs σ H ρ a d) : Rep K F Hs (σ.set i (some (.ref a))) H (ρ.put i (.o d)) where
  sub := R.sub
  base := R.base
  sep := R.sep
  frame := R.frame
  there := R.there
  ntb := R.ntb
  rgo := R.rgo
  tab := R.tab
  len := by rw [List.length_set, R.len]; exact (List.length_set ..).symm
  slo := fun j x hj => by
    rcases set_get hj with ⟨rfl, hl, rfl⟩ | ⟨hne, hj⟩
    · exact .o (List.getElem?_set_self (by rw [R.len]; exact hl)) P.hn P.h0 P.own
    · rw [List.getElem?_set_ne (Ne.symm hne)]; exact R.slo j x hj
  inj := fun j k d e b hj hk sj sk => by
    rcases set_get hj with ⟨rfl, hl, _⟩ | ⟨hne, hj'⟩
    · rcases set_get hk with ⟨z, _, _⟩ | ⟨hne2, hk'⟩
      · exact z.symm
      · rw [List.getElem?_set_self (by rw [R.len]; exact hl)] at sj
        rw [List.getElem?_set_ne (Ne.symm hne2)] at sk
        cases sj
        exact absurd sk (P.apart k e hk')
    · rw [List.getElem?_set_ne (Ne.symm hne)] at sj
      rcases set_get hk with ⟨rfl, hl, _⟩ | ⟨hne2, hk'⟩
      · rw [List.getElem?_set_self (by rw [R.len]; exact hl)] at sk
        cases sk
        exact absurd sj (P.apart j d hj')
      · rw [List.getElem?_set_ne (Ne.symm hne2)] at sk
        exact R.inj j k d e b hj' hk' sj sk
/-- what a slot holds is forgotten -/
theorem Rep.drop (R : Rep K F Hs σ H ρ) (i : Nat) : Rep K F Hs σ H (ρ.put i .u) where
  sub := R.sub
  base := R.base
  sep := R.sep
  frame := R.frame
  there := R.there
  ntb := R.ntb
  rgo := R.rgo
  tab := R.tab
  len := by rw [R.len]; exact (List.length_set ..).symm
  slo := fun j x hj => by
    rcases set_get hj with ⟨rfl, hl, rfl⟩ | ⟨hne, hj⟩
    · exact .u
    · exact R.slo j x hj
  inj := fun j k d e a hj hk sj sk => by
    rcases set_get hj with ⟨_, _, z⟩ | ⟨hne, hj⟩
    · cases z
    · rcases set_get hk with ⟨_, _, z⟩ | ⟨hne2, hk⟩
      · cases z
      · exact R.inj j k d e a hj hk sj sk
/-- a slot of which nothing is known may hold anything -/
theorem Rep.anyU (R : Rep K F Hs σ H ρ) {i : Nat} (x : Option V) (hu : ρ.sl[i]? = some .u) : Rep K F Hs (σ.set i x) H ρ where
  sub := R.sub
  base := R.base
  sep := R.sep
  frame := R.frame
  there := R.there
  ntb := R.ntb
  rgo := R.rgo
  tab := R.tab
  len := by rw [List.length_set, R.len]
  slo := fun j y hj => by
    by_cases e : i = j
    · subst e; rw [hu] at hj; cases hj; exact .u
    · rw [List.getElem?_set_ne e]; exact R.slo j y hj
  inj := fun j k d e a hj hk sj sk => by
    by_cases h1 : i = j
    · subst h1; rw [hu] at hj; cases hj
    · by_cases h2 : i = k
      · subst h2; rw [hu] at hk; cases hk
      · rw [List.getElem?_set_ne h1] at sj
        rw [List.getElem?_set_ne h2] at sk
        exact R.inj j k d e a hj hk sj sk
theorem put_put (ρ : En) (i : Nat) (x y : Sl) : (ρ.put i x).put i y = ρ.put i y := by
  unfold En.put
  rw [List.set_set]
/-- an own slot is shared from now on -/
theorem Rep.freezeAt (R : Rep K F Hs σ H ρ) {i : Nat} {d : PyData} (h : ρ.sl[i]? = some (.o d)) : ∃ Hs' v, σ[i]? = some (some v) ∧ Same Hs Hs' ∧ Rep K F Hs' σ H (ρ.put i (.s d)) ∧ Is K Hs' v d := by
  cases R.slo i _ h with
  | o e hn h0 ho =>
    rename_i a
    have hi : i < ρ.sl.length := (List.getElem?_eq_some_iff.mp h).1
    have P : Priv K F Hs σ H (ρ.put i .u) a d := ⟨hn, h0, ho, fun j e' hj z => by
      rcases set_get hj with ⟨_, _, q⟩ | ⟨hne, hj⟩
      · cases q
      · exact hne (R.inj j i e' d a hj h z e)⟩
    obtain ⟨Hs', sh, R', ix⟩ := (R.drop i).freeze P
    refine ⟨Hs', _, e, sh, ?_, ix⟩
    have q := R'.setS i ix
    rw [put_put] at q
    have es : σ.set i (some (.ref a)) = σ := by
      obtain ⟨hl, hg⟩ := List.getElem?_eq_some_iff.mp e
      rw [← hg, List.set_getElem_self]
    rw [es] at q
    exact q

/-- an own object is written -/
theorem Rep.write (R : Rep K F Hs σ H ρ) {i : Nat} {a : Addr} {d d' : PyData} {o : HO} (h : ρ.sl[i]? = some (.o d)) (hi : σ[i]? = some (some (.ref a))) (ho : ∀ ps, o ≠ .tbl ps) (hc : ∀ c q, o ≠ CodeO c q)
    (n : OwnO K Hs (upd H a o) a d') : Rep K F Hs σ (upd H a o) (ρ.put i (.o d')) := by
  cases R.slo i _ h with
  | o e hn h0 hw =>
    rw [hi] at e
    cases e
    have ne : ∀ b, Old F.H0 b → b ≠ a := fun b hb z => h0 (z ▸ hb)
    have hOld := hw.old
    refine ⟨fun b u hb => ?_, R.base, R.sep, fun b u hb nb m => ?_, fun b hb => ?_, R.ntb, fun S C L e => ?_, ?_, ?_, fun j x hj => ?_, fun j k x y b hj hk sj sk => ?_⟩
    · rw [upd_ne (fun z => by rw [z, hn] at hb; cases hb)]; exact R.sub b u hb
    · rw [upd_ne (ne b ⟨u, hb, nb⟩)]; exact R.frame b u hb nb m
    · obtain ⟨u, hu, nu⟩ := R.there b hb
      exact ⟨u, by rw [upd_ne (ne b hb)]; exact hu, nu⟩
    · obtain ⟨⟨h1, cs, ls, h2, h3, h4, h5⟩, ⟨o1, o2, o3⟩, n1, n2, n3⟩ := R.rgo S C L e
      exact ⟨⟨by rw [upd_ne (ne S o1)]; exact h1, cs, ls, by rw [upd_ne (ne C o2)]; exact h2, by rw [upd_ne (ne L o3)]; exact h3, h4, h5⟩, ⟨o1, o2, o3⟩, n1, n2, n3⟩
    · intro p hp
      obtain ⟨ps, h1, h2, h3⟩ := R.tab p hp
      refine ⟨ps, ?_, h2, fun pos cv hcv => ?_⟩
      · rw [upd_ne (fun z => ?_)]
        · exact h1
        · rw [z] at h1
          obtain ⟨u, hu, nu⟩ := hOld
          rw [h1] at hu
          exact nu ps (Option.some.inj hu).symm
      · obtain ⟨c, e1, e2⟩ := h3 pos cv hcv
        refine ⟨c, e1, ?_⟩
        rw [upd_ne (fun z => ?_)]
        · exact e2
        · rw [z] at e2
          cases hw with
          | lst q hl => rw [q] at e2; cases e2
          | dic q hl => rw [q] at e2; cases e2
    · rw [R.len]; exact (List.length_set ..).symm
    · rcases set_get hj with ⟨rfl, hl, rfl⟩ | ⟨hne, hj'⟩
      · exact .o hi hn h0 n
      · cases R.slo j x hj' with
        | u => exact .u
        | s e q => exact .s e q
        | @o b d2 e hn' h0' q' =>
          have hb : b ≠ a := fun z => hne (R.inj j i _ _ a hj' h (by rw [e, z]) hi)
          refine .o e hn' h0' ?_
          cases q' with
          | lst q hl => exact .lst (by rw [upd_ne hb]; exact q) hl
          | dic q hl => exact .dic (by rw [upd_ne hb]; exact q) hl
        | st e q => exact .st e q
    · rcases set_get hj with ⟨rfl, hl, _⟩ | ⟨hne, hj'⟩
      · rcases set_get hk with ⟨z, _, _⟩ | ⟨hne2, hk'⟩
        · exact z.symm
        · exact R.inj _ _ _ _ _ h hk' sj sk
      · rcases set_get hk with ⟨rfl, hl, _⟩ | ⟨hne2, hk'⟩
        · exact R.inj _ _ _ _ _ hj' h sj sk
        · exact R.inj _ _ _ _ _ hj' hk' sj sk
end
end Yd
set_option Elab.async false
set_option linter.all false
set_option maxRecDepth 100000
set_option maxHeartbeats 1000000
/-! # The plain-data layer: expressions -/
namespace Yd
open PySem PySem.Spec PyProof.Rows L2 LamX

abbrev RE := En → (PyData → En → Prop) → Prop
abbrev RT := En → (Bool → En → Prop) → Prop
abbrev RA := En → (List PyData → En → Prop) → Prop

def liftE (X : Cx) (F : Fm) (t : RE) : TE := fun σ H Q => ∃ Hs ρ Q2, Rep X.K F Hs σ H ρ ∧ t ρ Q2 ∧
  ∀ d ρ', Q2 d ρ' → ∀ v H' Hs', Rep X.K F Hs' σ H' ρ' → Same Hs Hs' → Is X.K Hs' v d → Q v H'
def liftF (X : Cx) (F : Fm) (t : RE) : TE := fun σ H Q => ∃ Hs ρ Q2, Rep X.K F Hs σ H ρ ∧ t ρ Q2 ∧
  ∀ d ρ', Q2 d ρ' → ∀ a H' Hs', Rep X.K F Hs' σ H' ρ' → Same Hs Hs' → Priv X.K F Hs' σ H' ρ' a d → Q (.ref a) H'
def liftT (X : Cx) (F : Fm) (t : RT) : TT := fun σ H Q => ∃ Hs ρ Q2, Rep X.K F Hs σ H ρ ∧ t ρ Q2 ∧
  ∀ b ρ', Q2 b ρ' → ∀ H' Hs', Rep X.K F Hs' σ H' ρ' → Same Hs Hs' → Q b H'
def liftA (X : Cx) (F : Fm) (t : RA) : TA := fun σ H Q => ∃ Hs ρ Q2, Rep X.K F Hs σ H ρ ∧ t ρ Q2 ∧
  ∀ ds ρ', Q2 ds ρ' → ∀ vs H' Hs', Rep X.K F Hs' σ H' ρ' → Same Hs Hs' → IsL X.K Hs' vs ds → Q vs H'
/-- an expression's value is shared data -/
def DE (X : Cx) (F : Fm) (e : Expr) (t : RE) : Prop := PE X e (liftE X F t)
/-- an expression's value is a private object -/
def DF (X : Cx) (F : Fm) (e : Expr) (t : RE) : Prop := PE X e (liftF X F t)
def DT (X : Cx) (F : Fm) (e : Expr) (t : RT) : Prop := PT X e (liftT X F t)
def DW (X : Cx) (F : Fm) (e : Expr) (t : RT) : Prop := PW X e (liftT X F t)
def DA (X : Cx) (F : Fm) (es : List Expr) (t : RA) : Prop := PA X es (liftA X F t)

theorem pe_imp {X : Cx} {e : Expr} {t t' : TE} (h : PE X e t) (k : ∀ σ H Q, t' σ H Q → t σ H Q) : PE X e t' := ⟨fun pins s σ H Q I q => h.run pins s σ H Q I (k σ H Q q)⟩
theorem pt_imp {X : Cx} {e : Expr} {t t' : TT} (h : PT X e t) (k : ∀ σ H Q, t' σ H Q → t σ H Q) : PT X e t' := ⟨fun pins s σ H Q I q => h.run pins s σ H Q I (k σ H Q q)⟩
theorem pw_imp {X : Cx} {e : Expr} {t t' : TT} (h : PW X e t) (k : ∀ σ H Q, t' σ H Q → t σ H Q) : PW X e t' := ⟨fun wh pins s σ H Q I q => h.run wh pins s σ H Q I (k σ H Q q)⟩
theorem pa_imp {X : Cx} {e : List Expr} {t t' : TA} (h : PA X e t) (k : ∀ σ H Q, t' σ H Q → t σ H Q) : PA X e t' := ⟨fun pos pins s σ H Q I q => h.run pos pins s σ H Q I (k σ H Q q)⟩
theorem ps_imp {X : Cx} {e : Stmt} {t t' : TS} (h : PS X e t) (k : ∀ D σ H, t' D σ H → t D σ H) : PS X e t' := ⟨fun pins s σ H D I q => h.run pins s σ H D I (k D σ H q)⟩
theorem pss_imp {X : Cx} {e : List Stmt} {t t' : TS} (h : PSs X e t) (k : ∀ D σ H, t' D σ H → t D σ H) : PSs X e t' := ⟨fun pins s σ H D I q => h.run pins s σ H D I (k D σ H q)⟩

section
variable {X : Cx} {F : Fm} {a b c e : Expr} {es : List Expr} {pos : Pos} {ta tb tc : RE} {tx ty : RT}

/-- a private value is shared from now on -/
theorem de_fr (h : DF X F e ta) : DE X F e ta := pe_imp h fun σ H Q ⟨Hs, ρ, Q2, R, t, k⟩ =>
  ⟨Hs, ρ, Q2, R, t, fun d ρ' q a H' Hs' R' S' P' => by
    obtain ⟨Hs2, sh, R2, ix⟩ := R'.freeze P'
    exact k d ρ' q (.ref a) H' Hs2 R2 (S'.trans sh) ix⟩

/-! ## names and constants -/
def dVar (i : Nat) : RE := fun ρ Q => match ρ.sl[i]? with
  | some (.s d) => Q d ρ
  | some (.o d) => Q d (ρ.put i (.s d))
  | _ => False
theorem de_var_core {i : Nat} {x : Str} (h : PE X (.Name x pos) (tVar i)) : DE X F (.Name x pos) (dVar i) := pe_imp h fun σ H Q ⟨Hs, ρ, Q2, R, t, k⟩ => by
  unfold dVar at t
  split at t
  · rename_i d hd
    cases R.slo i _ hd with
    | s e h => exact ⟨_, e, k d ρ t _ H Hs R (Same.refl _) h⟩
  · rename_i d hd
    obtain ⟨Hs', v, e, sh, R', ix⟩ := R.freezeAt hd
    exact ⟨v, e, k d _ t v H Hs' R' sh ix⟩
  · exact t.elim
theorem dv (i : Nat) {x : Str} (hN : X.N[i]? = some x := by rfl) (hv : Vis X.env.scope x := by first | exact Or.inl rfl | exact Or.inr (Or.inl rfl) | exact Or.inr (Or.inr rfl)) (hd : (x == ("__debug__" : Str)) = false := by decide)
    (hcd : (x == ("__classdict__" : Str)) = false := by decide) : DE X F (.Name x pos) (dVar i) := de_var_core (pe_var hN hv hd hcd)
def dC (d : PyData) : RE := fun ρ Q => Q d ρ
theorem de_const {v : V} {d : PyData} (h : PE X e (tC v)) (i : ∀ Hs, Is X.K Hs v d) : DE X F e (dC d) := pe_imp h fun σ H Q ⟨Hs, ρ, Q2, R, t, k⟩ => k d ρ t v H Hs R (Same.refl _) (i Hs)
theorem de_int {i j} : DE X F (.Constant (.int i) j pos) (dC (.int i)) := de_const pe_int fun _ => .int _
theorem de_bl {b j} : DE X F (.Constant (.bool b) j pos) (dC (.bool b)) := de_const pe_bl fun _ => .bl _
theorem de_non {j} : DE X F (.Constant .none j pos) (dC .none) := de_const pe_non fun _ => .non
theorem de_str {x j} : DE X F (.Constant (.str x) j pos) (dC (.str x)) := de_const pe_str fun _ => .str _
/-- a number of the module -/
theorem de_globI {x : Str} {i : Int} {t : Tok} (hg : Gl X x) (hm : X.mg x = some (.int i t)) (hd : (x == ("__debug__" : Str)) = false := by decide) : DE X F (.Name x pos) (dC (.int i)) :=
  de_const (pe_glob (v := .int i) hg hm ⟨t, rfl⟩ hd) fun _ => .int _

/-! ## argument lists, displays -/
def dNil : RA := fun ρ Q => Q [] ρ
def dCons (ta : RE) (t : RA) : RA := fun ρ Q => ta ρ fun x ρ1 => t ρ1 fun xs ρ2 => Q (x :: xs) ρ2
theorem da_nil : DA X F [] dNil := pa_imp pa_nil fun σ H Q ⟨Hs, ρ, Q2, R, t, k⟩ => k [] ρ t [] H Hs R (Same.refl _) .nil
theorem da_cons {t : RA} (ha : DE X F e ta) (hr : DA X F es t) (hs : starEach (e :: es) X.env = (false, eval e X.env) :: starEach es X.env := by rfl) : DA X F (e :: es) (dCons ta t) :=
  pa_imp (pa_cons ha hr hs) fun σ H Q ⟨Hs, ρ, Q2, R, q, k⟩ => ⟨Hs, ρ, _, R, q, fun d1 ρ1 q1 v1 H1 Hs1 R1 S1 i1 => ⟨Hs1, ρ1, _, R1, q1, fun ds ρ2 q2 vs H2 Hs2 R2 S2 i2 =>
    k _ ρ2 q2 _ H2 Hs2 R2 (S1.trans S2) (.cons (i1.mono S2) i2)⟩⟩
def dTup (t : RA) : RE := fun ρ Q => t ρ fun ds ρ' => ds.length ≤ 1000 ∧ Q (.tuple ds) ρ'
def dLst (t : RA) : RE := fun ρ Q => t ρ fun ds ρ' => ds.length ≤ 1000 ∧ Q (.list ds) ρ'
theorem line_of {n : Nat} (h : n ≤ 1000) : n ≤ sizeLine := Nat.le_of_lt (small1000 h)
theorem de_tup {x1} {t : RA} (h : DA X F es t) : DE X F (.Tuple es x1 pos) (dTup t) :=
  pe_imp (pe_tup h) fun σ H Q ⟨Hs, ρ, Q2, R, q, k⟩ => ⟨Hs, ρ, _, R, q, fun ds ρ1 q1 vs H1 Hs1 R1 S1 i1 => by
    obtain ⟨hz, q1⟩ := q1
    refine ⟨line_of (by rw [i1.length]; exact hz), fun p hp => ?_⟩
    have nt : ∀ ps, HO.tup vs ≠ .tbl ps := fun _ z => nomatch z
    have g := Grow.laid R1.sub R1.ntb R1.tab hp nt
    exact k _ ρ1 q1 (.ref p) _ _ (R1.grow g) (S1.trans g.shr) (.tup upd_same (i1.mono g.shr))⟩
theorem df_lst {t : RA} (h : DA X F es t) : DF X F (.List es pos) (dLst t) :=
  pe_imp (pe_lst h) fun σ H Q ⟨Hs, ρ, Q2, R, q, k⟩ => ⟨Hs, ρ, _, R, q, fun ds ρ1 q1 vs H1 Hs1 R1 S1 i1 => by
    obtain ⟨hz, q1⟩ := q1
    exact ⟨line_of (by rw [i1.length]; exact hz), fun p hp => k _ ρ1 q1 p _ Hs1 (R1.own hp) S1 (R1.priv hp i1)⟩⟩

/-! ## two operands -/
abbrev K2 := PyData → PyData → (PyData → Prop) → Prop
def dOp (k : K2) (ta tb : RE) : RE := fun ρ Q => ta ρ fun x ρ1 => tb ρ1 fun y ρ2 => k x y fun d => Q d ρ2
/-- a rule on values serves a rule on data; the result is shared -/
def OpD (X : Cx) (F : Fm) (r : R2) (k : K2) : Prop := ∀ (Hs : Hp) (σ : L2.St) (H : Hp) (ρ : En) (x y : PyData) (v u : V) (Q : VK) (Q2 : PyData → Prop), Rep X.K F Hs σ H ρ → Is X.K Hs v x → Is X.K Hs u y → k x y Q2 →
  (∀ d, Q2 d → ∀ w H' Hs', Rep X.K F Hs' σ H' ρ → Same Hs Hs' → Is X.K Hs' w d → Q w H') → r v u H Q
/-- .. the result is private -/
def OpF (X : Cx) (F : Fm) (r : R2) (k : K2) : Prop := ∀ (Hs : Hp) (σ : L2.St) (H : Hp) (ρ : En) (x y : PyData) (v u : V) (Q : VK) (Q2 : PyData → Prop), Rep X.K F Hs σ H ρ → Is X.K Hs v x → Is X.K Hs u y → k x y Q2 →
  (∀ d, Q2 d → ∀ a H' Hs', Rep X.K F Hs' σ H' ρ → Same Hs Hs' → Priv X.K F Hs' σ H' ρ a d → Q (.ref a) H') → r v u H Q
theorem opD_run {r : R2} {k : K2} (h : OpD X F r k) {σ : L2.St} {H : Hp} {Q : VK} (q : liftE X F (dOp k ta tb) σ H Q) : tOp r (liftE X F ta) (liftE X F tb) σ H Q := by
  obtain ⟨Hs, ρ, Q2, R, q, z⟩ := q
  exact ⟨Hs, ρ, _, R, q, fun d1 ρ1 q1 v1 H1 Hs1 R1 S1 i1 => ⟨Hs1, ρ1, _, R1, q1, fun d2 ρ2 q2 v2 H2 Hs2 R2 S2 i2 =>
    h Hs2 σ H2 ρ2 d1 d2 v1 v2 Q _ R2 (i1.mono S2) i2 q2 fun d qd w H' Hs' R' S' iw => z d ρ2 qd w H' Hs' R' ((S1.trans S2).trans S') iw⟩⟩
theorem opF_run {r : R2} {k : K2} (h : OpF X F r k) {σ : L2.St} {H : Hp} {Q : VK} (q : liftF X F (dOp k ta tb) σ H Q) : tOp r (liftE X F ta) (liftE X F tb) σ H Q := by
  obtain ⟨Hs, ρ, Q2, R, q, z⟩ := q
  exact ⟨Hs, ρ, _, R, q, fun d1 ρ1 q1 v1 H1 Hs1 R1 S1 i1 => ⟨Hs1, ρ1, _, R1, q1, fun d2 ρ2 q2 v2 H2 Hs2 R2 S2 i2 =>
    h Hs2 σ H2 ρ2 d1 d2 v1 v2 Q _ R2 (i1.mono S2) i2 q2 fun d qd w H' Hs' R' S' iw => z d ρ2 qd w H' Hs' R' ((S1.trans S2).trans S') iw⟩⟩
theorem de_op {op : Operator} {r : R2} {k : K2} (ho : OpR X (binaryOp op) r) (hk : OpD X F r k) (ha : DE X F a ta) (hb : DE X F b tb) : DE X F (.BinOp a op b pos) (dOp k ta tb) :=
  pe_imp (pe_op ho ha hb) fun _ _ _ q => opD_run hk q
theorem df_op {op : Operator} {r : R2} {k : K2} (ho : OpR X (binaryOp op) r) (hk : OpF X F r k) (ha : DE X F a ta) (hb : DE X F b tb) : DF X F (.BinOp a op b pos) (dOp k ta tb) :=
  pe_imp (pe_op ho ha hb) fun _ _ _ q => opF_run hk q
/-- a comparison of two -/
def DC (X : Cx) (F : Fm) (op : CmpOp) (a b : Expr) (t : RE) : Prop := PC X op a b (liftE X F t)
theorem pc_imp {op : CmpOp} {t t' : TE} (h : PC X op a b t) (k : ∀ σ H Q, t' σ H Q → t σ H Q) : PC X op a b t' := ⟨fun pins s σ H Q I q => h.run pins s σ H Q I (k σ H Q q)⟩
theorem pc_of {op : CmpOp} {r : R2} {t u : TE} (ho : OpR X (compareOp op) r) (ha : PE X a t) (hb : PE X b u) : PC X op a b (tOp r t u) :=
  ⟨fun pins s σ H Q I h => thn (ha.run pins s σ H _ I h) fun v s1 ⟨x, H1, I1, r1, q1⟩ => thn (hb.run pins s1 σ H1 _ I1 q1) fun w s2 ⟨y, H2, I2, r2, q2⟩ => ho pins s2 σ H2 x y v w Q I2 r1 r2 q2⟩
theorem cm_op {op : CmpOp} {r : R2} {k : K2} (ho : OpR X (compareOp op) r) (hk : OpD X F r k) (ha : DE X F a ta) (hb : DE X F b tb) : DC X F op a b (dOp k ta tb) := pc_imp (pc_of ho ha hb) fun _ _ _ q => opD_run hk q
theorem de_c {op : CmpOp} (h : DC X F op a b ta) (hm : behindInMarks op b = false := by first | exact nobehind _ (by decide) (by decide) | rfl | with_unfolding_all rfl) : DE X F (.Compare a [op] [b] pos) ta := pe_cmp h hm

/-- two ints under a condition, a datum without address out -/
def kI (C : Int → Int → Prop) (f : Int → Int → PyData) : K2 := fun x y Q => match x, y with
  | .int i, .int j => C i j ∧ Q (f i j)
  | _, _ => False
theorem opD_I {C : Int → Int → Prop} {f : Int → Int → PyData} {g : Int → Int → V} (h : ∀ (Hs : Hp) i j, Is X.K Hs (g i j) (f i j)) : OpD X F (rI C g) (kI C f) := by
  intro Hs σ H ρ x y v u Q Q2 R ix iy q z
  unfold kI at q
  split at q
  · cases ix; cases iy
    exact ⟨_, _, rfl, rfl, q.1, z _ q.2 _ H Hs R (Same.refl _) (h Hs _ _)⟩
  · exact q.elim
def kI0 (f : Int → Int → PyData) : K2 := fun x y Q => match x, y with
  | .int i, .int j => Q (f i j)
  | _, _ => False
theorem opD_I0 {f : Int → Int → PyData} {g : Int → Int → V} (h : ∀ (Hs : Hp) i j, Is X.K Hs (g i j) (f i j)) : OpD X F (rI0 g) (kI0 f) := by
  intro Hs σ H ρ x y v u Q Q2 R ix iy q z
  unfold kI0 at q
  split at q
  · cases ix; cases iy
    exact ⟨_, _, rfl, rfl, z _ q _ H Hs R (Same.refl _) (h Hs _ _)⟩
  · exact q.elim
theorem de_addI (ha : DE X F a ta) (hb : DE X F b tb) : DE X F (.BinOp a .Add b pos) (dOp (kI0 fun i j => .int (i + j)) ta tb) := de_op op_add (opD_I0 fun _ _ _ => .int _) ha hb
theorem de_sub (ha : DE X F a ta) (hb : DE X F b tb) : DE X F (.BinOp a .Sub b pos) (dOp (kI0 fun i j => .int (i - j)) ta tb) := de_op op_sub (opD_I0 fun _ _ _ => .int _) ha hb
theorem de_mul (ha : DE X F a ta) (hb : DE X F b tb) : DE X F (.BinOp a .Mult b pos) (dOp (kI CMul fun i j => .int (i * j)) ta tb) := de_op op_mul (opD_I fun _ _ _ => .int _) ha hb
theorem de_fdiv (ha : DE X F a ta) (hb : DE X F b tb) : DE X F (.BinOp a .FloorDiv b pos) (dOp (kI CDiv fun i j => .int (i / j)) ta tb) := de_op op_fdiv (opD_I fun _ _ _ => .int _) ha hb
theorem de_mod (ha : DE X F a ta) (hb : DE X F b tb) : DE X F (.BinOp a .Mod b pos) (dOp (kI (fun _ j => 0 < j) fun i j => .int (i % j)) ta tb) := de_op op_mod (opD_I fun _ _ _ => .int _) ha hb
theorem cm_lt (ha : DE X F a ta) (hb : DE X F b tb) : DC X F .Lt a b (dOp (kI0 fun i j => .bool (decide (i < j))) ta tb) := cm_op op_lt (opD_I0 fun _ _ _ => .bl _) ha hb
theorem cm_le (ha : DE X F a ta) (hb : DE X F b tb) : DC X F .LtE a b (dOp (kI0 fun i j => .bool (decide (i ≤ j))) ta tb) := cm_op op_le (opD_I0 fun _ _ _ => .bl _) ha hb
theorem cm_gt (ha : DE X F a ta) (hb : DE X F b tb) : DC X F .Gt a b (dOp (kI0 fun i j => .bool (decide (j < i))) ta tb) := cm_op op_gt (opD_I0 fun _ _ _ => .bl _) ha hb
theorem cm_ge (ha : DE X F a ta) (hb : DE X F b tb) : DC X F .GtE a b (dOp (kI0 fun i j => .bool (decide (j ≤ i))) ta tb) := cm_op op_ge (opD_I0 fun _ _ _ => .bl _) ha hb
/-- low <= value <= high -/
def kChA (k : Int → Int → Bool) (x y : PyData) (T : Int → Prop) (N : Prop) : Prop := match x, y with
  | .int i, .int j => if k i j = true then T j else N
  | _, _ => False
def kChB (k : Int → Int → Bool) (j : Int) (z : PyData) (Q : PyData → Prop) : Prop := match z with
  | .int l => Q (.bool (k j l))
  | _ => False
def dChain (k k' : Int → Int → Bool) (ta tb tc : RE) : RE := fun ρ Q => ta ρ fun x ρ1 => tb ρ1 fun y ρ2 => kChA k x y (fun j => tc ρ2 fun z ρ3 => kChB k' j z fun d => Q d ρ3) (Q (.bool false) ρ2)
theorem de_chain {op op' : CmpOp} {k k' : Int → Int → Bool} (ho : OpR X (compareOp op) (rI0 fun i j => .bl (k i j))) (ho' : OpR X (compareOp op') (rI0 fun i j => .bl (k' i j))) (ha : DE X F a ta) (hb : DE X F b tb) (hc : DE X F c tc)
    (hm : lastMarks [op, op'] [b, c] = false := by with_unfolding_all rfl) : DE X F (.Compare a [op, op'] [b, c] pos) (dChain k k' ta tb tc) :=
  pe_imp (pe_chain ho ho' ha hb hc hm) fun σ H Q ⟨Hs, ρ, Q2, R, q, z⟩ => ⟨Hs, ρ, _, R, q, fun d1 ρ1 q1 v1 H1 Hs1 R1 S1 i1 => ⟨Hs1, ρ1, _, R1, q1, fun d2 ρ2 q2 v2 H2 Hs2 R2 S2 i2 => by
    unfold kChA at q2
    split at q2
    · cases i1; cases i2
      rename_i i j
      refine ⟨i, j, rfl, rfl, k i j, rfl, ?_⟩
      cases hk : k i j with
      | true =>
        rw [hk, if_pos rfl] at q2
        rw [if_pos rfl]
        refine ⟨Hs2, ρ2, _, R2, q2, fun d3 ρ3 q3 v3 H3 Hs3 R3 S3 i3 => ?_⟩
        unfold kChB at q3
        split at q3
        · cases i3
          exact ⟨_, _, rfl, rfl, z _ ρ3 q3 _ H3 Hs3 R3 ((S1.trans S2).trans S3) (.bl _)⟩
        · exact q3.elim
      | false =>
        rw [hk, if_neg Bool.false_ne_true] at q2
        rw [if_neg Bool.false_ne_true]
        exact z _ ρ2 q2 _ H2 Hs2 R2 (S1.trans S2) (.bl _)
    · exact q2.elim⟩⟩
def dUn (k : PyData → (PyData → Prop) → Prop) (ta : RE) : RE := fun ρ Q => ta ρ fun x ρ1 => k x fun d => Q d ρ1
def kNeg : PyData → (PyData → Prop) → Prop := fun x Q => match x with
  | .int i => Q (.int (-i))
  | _ => False
theorem de_neg (ha : DE X F a ta) : DE X F (.UnaryOp .USub a pos) (dUn kNeg ta) :=
  pe_imp (pe_un un_neg ha) fun σ H Q ⟨Hs, ρ, Q2, R, q, z⟩ => ⟨Hs, ρ, _, R, q, fun d1 ρ1 q1 v1 H1 Hs1 R1 S1 i1 => by
    have q1 : kNeg d1 fun d => Q2 d ρ1 := q1
    unfold kNeg at q1
    split at q1
    · cases i1
      exact ⟨_, rfl, z _ ρ1 q1 _ H1 Hs1 R1 S1 (.int _)⟩
    · exact q1.elim⟩
end
end Yd
set_option Elab.async false
set_option linter.all false
set_option maxRecDepth 100000
set_option maxHeartbeats 1000000
/-! # The plain-data layer: tests, equality, places, built-in calls -/
namespace Yd
open PySem PySem.Spec PyProof.Rows L2 LamX

section
variable {X : Cx} {F : Fm} {a b c e : Expr} {es : List Expr} {pos : Pos} {ta tb tc : RE} {tx ty : RT} {rest : List Expr}

/-! ## tests -/
def kB (d : PyData) (Q : Bool → Prop) : Prop := match d with
  | .bool b => Q b
  | _ => False
theorem kB_is {Hs : Hp} {K : PySem.W.Frag} {v : V} {d : PyData} {Q : Bool → Prop} (h : kB d Q) (i : Is K Hs v d) : ∃ b, v = .bl b ∧ d = .bool b ∧ Q b := by
  unfold kB at h
  split at h
  · cases i; exact ⟨_, rfl, rfl, h⟩
  · exact h.elim
def dTest (t : RE) : RT := fun ρ Q => t ρ fun d ρ' => kB d fun b => Q b ρ'
theorem dt_val (h : DE X F e ta) (he : ∀ whole, isTrue e X.env whole = (do let v ← whole; standAt e.pos; holding [v] (truthy v)) := by intro _; rfl) : DT X F e (dTest ta) :=
  pt_imp (pt_val h he) fun σ H Q ⟨Hs, ρ, Q2, R, q, z⟩ => ⟨Hs, ρ, _, R, q, fun d ρ1 q1 v H1 Hs1 R1 S1 i1 => by
    obtain ⟨b, rfl, rfl, q1⟩ := kB_is q1 i1
    exact ⟨b, rfl, z b ρ1 q1 H1 Hs1 R1 S1⟩⟩
theorem dt_c {op : CmpOp} (h : DC X F op a b ta) (hm : behindInMarks op b = false := by first | exact nobehind _ (by decide) (by decide) | rfl | with_unfolding_all rfl) : DT X F (.Compare a [op] [b] pos) (dTest ta) :=
  pt_imp (pt_cmp h hm) fun σ H Q ⟨Hs, ρ, Q2, R, q, z⟩ => ⟨Hs, ρ, _, R, q, fun d ρ1 q1 v H1 Hs1 R1 S1 i1 => by
    obtain ⟨b, rfl, rfl, q1⟩ := kB_is q1 i1
    exact ⟨b, rfl, z b ρ1 q1 H1 Hs1 R1 S1⟩⟩
def dNot (t : RT) : RT := fun ρ Q => t ρ fun b ρ' => Q (!b) ρ'
theorem dt_not (h : DT X F a tx) : DT X F (.UnaryOp .Not a pos) (dNot tx) :=
  pt_imp (pt_not h) fun σ H Q ⟨Hs, ρ, Q2, R, q, z⟩ => ⟨Hs, ρ, _, R, q, fun b ρ1 q1 H1 Hs1 R1 S1 => z _ ρ1 q1 H1 Hs1 R1 S1⟩
def dAnd (t u : RT) : RT := fun ρ Q => t ρ fun c ρ1 => if c = true then u ρ1 Q else Q false ρ1
def dOr (t u : RT) : RT := fun ρ Q => t ρ fun c ρ1 => if c = true then Q true ρ1 else u ρ1 Q
theorem dw_and1 (h : DT X F a tx) : DW X F (.BoolOp .And [a] pos) tx := pw_and1 h
theorem dw_or1 (h : DT X F a tx) : DW X F (.BoolOp .Or [a] pos) tx := pw_or1 h
theorem dw_and (ha : DT X F a tx) (hb : DW X F (.BoolOp .And (b :: rest) pos) ty) : DW X F (.BoolOp .And (a :: b :: rest) pos) (dAnd tx ty) :=
  pw_imp (pw_and ha hb) fun σ H Q ⟨Hs, ρ, Q2, R, q, z⟩ => ⟨Hs, ρ, _, R, q, fun c ρ1 q1 H1 Hs1 R1 S1 => by
    cases c with
    | true => exact ⟨Hs1, ρ1, Q2, R1, q1, fun d ρ2 q2 H2 Hs2 R2 S2 => z d ρ2 q2 H2 Hs2 R2 (S1.trans S2)⟩
    | false => exact z false ρ1 q1 H1 Hs1 R1 S1⟩
theorem dw_or (ha : DT X F a tx) (hb : DW X F (.BoolOp .Or (b :: rest) pos) ty) : DW X F (.BoolOp .Or (a :: b :: rest) pos) (dOr tx ty) :=
  pw_imp (pw_or ha hb) fun σ H Q ⟨Hs, ρ, Q2, R, q, z⟩ => ⟨Hs, ρ, _, R, q, fun c ρ1 q1 H1 Hs1 R1 S1 => by
    cases c with
    | true => exact z true ρ1 q1 H1 Hs1 R1 S1
    | false => exact ⟨Hs1, ρ1, Q2, R1, q1, fun d ρ2 q2 H2 Hs2 R2 S2 => z d ρ2 q2 H2 Hs2 R2 (S1.trans S2)⟩⟩
theorem dt_w (h : DW X F e tx) : DT X F e tx := PW.pt h
/-- as values -/
def dAndV (ta tb : RE) : RE := fun ρ Q => ta ρ fun x ρ1 => kB x fun c => if c = true then tb ρ1 Q else Q (.bool false) ρ1
def dOrV (ta tb : RE) : RE := fun ρ Q => ta ρ fun x ρ1 => kB x fun c => if c = true then Q (.bool true) ρ1 else tb ρ1 Q
def dNotV (ta : RE) : RE := fun ρ Q => ta ρ fun x ρ1 => kB x fun c => Q (.bool (!c)) ρ1
theorem de_one {op} (h : DE X F a ta) : DE X F (.BoolOp op [a] pos) ta := pe_one h
theorem de_and (ha : DE X F a ta) (hb : DE X F (.BoolOp .And (b :: rest) pos) tb) : DE X F (.BoolOp .And (a :: b :: rest) pos) (dAndV ta tb) :=
  pe_imp (pe_and ha hb) fun σ H Q ⟨Hs, ρ, Q2, R, q, z⟩ => ⟨Hs, ρ, _, R, q, fun d ρ1 q1 v H1 Hs1 R1 S1 i1 => by
    obtain ⟨c, rfl, rfl, q1⟩ := kB_is q1 i1
    refine ⟨c, rfl, ?_⟩
    cases c with
    | true => exact ⟨Hs1, ρ1, Q2, R1, q1, fun d ρ2 q2 w H2 Hs2 R2 S2 i2 => z d ρ2 q2 w H2 Hs2 R2 (S1.trans S2) i2⟩
    | false => exact z _ ρ1 q1 _ H1 Hs1 R1 S1 (.bl _)⟩
theorem de_or (ha : DE X F a ta) (hb : DE X F (.BoolOp .Or (b :: rest) pos) tb) : DE X F (.BoolOp .Or (a :: b :: rest) pos) (dOrV ta tb) :=
  pe_imp (pe_or ha hb) fun σ H Q ⟨Hs, ρ, Q2, R, q, z⟩ => ⟨Hs, ρ, _, R, q, fun d ρ1 q1 v H1 Hs1 R1 S1 i1 => by
    obtain ⟨c, rfl, rfl, q1⟩ := kB_is q1 i1
    refine ⟨c, rfl, ?_⟩
    cases c with
    | true => exact z _ ρ1 q1 _ H1 Hs1 R1 S1 (.bl _)
    | false => exact ⟨Hs1, ρ1, Q2, R1, q1, fun d ρ2 q2 w H2 Hs2 R2 S2 i2 => z d ρ2 q2 w H2 Hs2 R2 (S1.trans S2) i2⟩⟩
theorem de_not (ha : DE X F a ta) : DE X F (.UnaryOp .Not a pos) (dNotV ta) :=
  pe_imp (pe_not ha) fun σ H Q ⟨Hs, ρ, Q2, R, q, z⟩ => ⟨Hs, ρ, _, R, q, fun d ρ1 q1 v H1 Hs1 R1 S1 i1 => by
    obtain ⟨c, rfl, rfl, q1⟩ := kB_is q1 i1
    exact ⟨c, rfl, z _ ρ1 q1 _ H1 Hs1 R1 S1 (.bl _)⟩⟩
def dIf (t : RT) (ta tb : RE) : RE := fun ρ Q => t ρ fun c ρ1 => if c = true then ta ρ1 Q else tb ρ1 Q
theorem de_if (hc : DT X F c tx) (ha : DE X F a ta) (hb : DE X F b tb) : DE X F (.IfExp c a b pos) (dIf tx ta tb) :=
  pe_imp (pe_ifExp hc ha hb) fun σ H Q ⟨Hs, ρ, Q2, R, q, z⟩ => ⟨Hs, ρ, _, R, q, fun c ρ1 q1 H1 Hs1 R1 S1 => by
    cases c with
    | true => exact ⟨Hs1, ρ1, Q2, R1, q1, fun d ρ2 q2 w H2 Hs2 R2 S2 i2 => z d ρ2 q2 w H2 Hs2 R2 (S1.trans S2) i2⟩
    | false => exact ⟨Hs1, ρ1, Q2, R1, q1, fun d ρ2 q2 w H2 Hs2 R2 S2 i2 => z d ρ2 q2 w H2 Hs2 R2 (S1.trans S2) i2⟩⟩
/-! ## is None -/
def isNoneD : PyData → Bool
  | .none => true
  | _ => false
theorem Is.isNone {K : PySem.W.Frag} {H : Hp} {v : V} {d : PyData} (h : Is K H v d) : decide (v = .non) = isNoneD d := by
  cases h <;> rfl
theorem cm_isN {j p2} (ha : DE X F a ta) : DC X F .Is a (.Constant .none j p2) (dUn (fun x Q => Q (.bool (isNoneD x))) ta) :=
  pc_imp (pc_isN ha) fun σ H Q ⟨Hs, ρ, Q2, R, q, z⟩ => ⟨Hs, ρ, _, R, q, fun d ρ1 q1 v H1 Hs1 R1 S1 i1 => by
    have e := i1.isNone
    show Q (.bl (decide (v = .non))) H1
    rw [e]
    exact z _ ρ1 q1 _ H1 Hs1 R1 S1 (.bl _)⟩
theorem cm_notN {j p2} (ha : DE X F a ta) : DC X F .IsNot a (.Constant .none j p2) (dUn (fun x Q => Q (.bool (!isNoneD x))) ta) :=
  pc_imp (pc_notN ha) fun σ H Q ⟨Hs, ρ, Q2, R, q, z⟩ => ⟨Hs, ρ, _, R, q, fun d ρ1 q1 v H1 Hs1 R1 S1 i1 => by
    have e := i1.isNone
    show Q (.bl (!decide (v = .non))) H1
    rw [e]
    exact z _ ρ1 q1 _ H1 Hs1 R1 S1 (.bl _)⟩

/-! ## equality -/
mutual
theorem Is.dp {K : PySem.W.Frag} {H : Hp} : ∀ {v : V} {d : PyData}, Is K H v d → d.canLay0 = true → Dp K H v d
  | _, _, .non, _ => .non
  | _, _, .bl b, _ => .bl b
  | _, _, .int i, _ => .int i
  | _, _, .str x, _ => .str x
  | _, _, .lst h hl, q => .lst (SqL.of h) (IsL.dp hl (by simpa only [PyData.canLay0] using q))
  | _, _, .tup h hl, q => .tup (SqT.of h) (IsL.dp hl (by simpa only [PyData.canLay0] using q))
  | _, _, .dic h hl, q => by simp only [PyData.canLay0] at q; cases q
theorem IsL.dp {K : PySem.W.Frag} {H : Hp} : ∀ {v : List V} {d : List PyData}, IsL K H v d → PyData.canLayAll0 d = true → DpAll K H v d
  | _, _, .nil, _ => .nil
  | _, _, .cons h hl, q => by
    simp only [PyData.canLayAll0, Bool.and_eq_true] at q
    exact .cons (Is.dp h q.1) (IsL.dp hl q.2)
end
theorem Dp.mono' {K : PySem.W.Frag} {H H' : Hp} (e : Same H H') {v : V} {d : PyData} (h : Is K H v d) (q : d.canLay0 = true) : Dp K H' v d := (h.mono e).dp q
def kEqD (neg : Bool) : K2 := fun x y Q => SeqAt.shaped x = true ∧ SeqAt.shaped y = true ∧ Q (.bool (if neg then !PyData.eqv x y else PyData.eqv x y))
theorem opD_eqD : OpD X F (rEqD X.K) (kEqD false) := by
  intro Hs σ H ρ x y v u Q Q2 R ix iy q z
  obtain ⟨h1, h2, q⟩ := q
  exact ⟨x, y, Dp.mono' R.sub ix (SeqAt.canLay_of_shaped h1), Dp.mono' R.sub iy (SeqAt.canLay_of_shaped h2), h1, h2, z _ q _ H Hs R (Same.refl _) (.bl _)⟩
theorem opD_neD : OpD X F (rNeD X.K) (kEqD true) := by
  intro Hs σ H ρ x y v u Q Q2 R ix iy q z
  obtain ⟨h1, h2, q⟩ := q
  exact ⟨x, y, Dp.mono' R.sub ix (SeqAt.canLay_of_shaped h1), Dp.mono' R.sub iy (SeqAt.canLay_of_shaped h2), h1, h2, z _ q _ H Hs R (Same.refl _) (.bl _)⟩
theorem cm_eqD (hu : X.A.units + 64 < cLine) (ha : DE X F a ta) (hb : DE X F b tb) : DC X F .Eq a b (dOp (kEqD false) ta tb) := cm_op (op_eqD hu) opD_eqD ha hb
theorem cm_neD (hu : X.A.units + 64 < cLine) (ha : DE X F a ta) (hb : DE X F b tb) : DC X F .NotEq a b (dOp (kEqD true) ta tb) := cm_op (op_neD hu) opD_neD ha hb
/-- two ints, two texts -/
def kEqS (neg : Bool) : K2 := fun x y Q => match x, y with
  | .int i, .int j => Q (.bool (if neg then !decide (i = j) else decide (i = j)))
  | .str i, .str j => Q (.bool (if neg then !decide (i = j) else decide (i = j)))
  | _, _ => False
theorem dec_ints (i j : Int) : decide (V.int i = V.int j) = decide (i = j) := by
  by_cases h : i = j
  · subst h; simp
  · rw [decide_eq_false h, decide_eq_false fun z => h (V.int.inj z)]
theorem dec_strs (i j : Str) : decide (V.str i = V.str j) = decide (i = j) := by
  by_cases h : i = j
  · subst h; simp
  · rw [decide_eq_false h, decide_eq_false fun z => h (V.str.inj z)]
theorem opD_eqS : OpD X F rEq (kEqS false) := by
  intro Hs σ H ρ x y v u Q Q2 R ix iy q z
  unfold kEqS at q
  split at q
  · cases ix; cases iy
    exact ⟨rfl, by rw [dec_ints]; exact z _ q _ H Hs R (Same.refl _) (.bl _)⟩
  · cases ix; cases iy
    exact ⟨rfl, by rw [dec_strs]; exact z _ q _ H Hs R (Same.refl _) (.bl _)⟩
  · exact q.elim
theorem opD_neS : OpD X F rNe (kEqS true) := by
  intro Hs σ H ρ x y v u Q Q2 R ix iy q z
  unfold kEqS at q
  split at q
  · cases ix; cases iy
    exact ⟨rfl, by rw [dec_ints]; exact z _ q _ H Hs R (Same.refl _) (.bl _)⟩
  · cases ix; cases iy
    exact ⟨rfl, by rw [dec_strs]; exact z _ q _ H Hs R (Same.refl _) (.bl _)⟩
  · exact q.elim
theorem cm_eq (ha : DE X F a ta) (hb : DE X F b tb) : DC X F .Eq a b (dOp (kEqS false) ta tb) := cm_op op_eq opD_eqS ha hb
theorem cm_ne (ha : DE X F a ta) (hb : DE X F b tb) : DC X F .NotEq a b (dOp (kEqS true) ta tb) := cm_op op_ne opD_neS ha hb

/-! ## in, not in -/
def flatD : PyData → Bool
  | .none => true
  | .bool _ => true
  | .int _ => true
  | .str _ => true
  | _ => false
theorem Is.flat {K : PySem.W.Frag} {H : Hp} {v : V} {d : PyData} (h : Is K H v d) (f : flatD d = true) : flatV v = true := by
  cases h <;> first | rfl | cases f
theorem IsL.flat {K : PySem.W.Frag} {H : Hp} : ∀ {vs : List V} {ds : List PyData}, IsL K H vs ds → ds.all flatD = true → vs.all flatV = true
  | _, _, .nil, _ => rfl
  | _, _, .cons h hl, f => by
    rw [List.all_cons, Bool.and_eq_true] at f
    rw [List.all_cons, Is.flat h f.1, IsL.flat hl f.2]; rfl
theorem eqV_eqv {K : PySem.W.Frag} {H : Hp} {v w : V} {d e : PyData} (h : Is K H v d) (h' : Is K H w e) (f : flatD d = true) (f' : flatD e = true) : eqV v w = PyData.eqv d e := by
  cases h <;> cases h' <;> first | exact absurd f Bool.false_ne_true | exact absurd f' Bool.false_ne_true | simp only [PyData.eqv, eqV]
def inD (x : PyData) (ds : List PyData) : Bool := ds.any fun y => PyData.eqv y x
theorem inV_inD {K : PySem.W.Frag} {H : Hp} {v : V} {x : PyData} (h : Is K H v x) (f : flatD x = true) : ∀ {vs : List V} {ds : List PyData}, IsL K H vs ds → ds.all flatD = true → inV v vs = inD x ds
  | _, _, .nil, _ => rfl
  | _, _, .cons h1 hl, q => by
    rw [List.all_cons, Bool.and_eq_true] at q
    have ih := inV_inD h f hl q.2
    unfold inV inD at ih ⊢
    rw [List.any_cons, List.any_cons, ih, eqV_eqv h1 h q.1 f]
def kIn (neg : Bool) : K2 := fun x y Q => match y with
  | .list ds => flatD x = true ∧ ds.all flatD = true ∧ Q (.bool (if neg then !inD x ds else inD x ds))
  | .tuple ds => flatD x = true ∧ ds.all flatD = true ∧ Q (.bool (if neg then !inD x ds else inD x ds))
  | _ => False
theorem opD_in (neg : Bool) : OpD X F (rIn X.K neg) (kIn neg) := by
  intro Hs σ H ρ x y v u Q Q2 R ix iy q z
  unfold kIn at q
  split at q
  · obtain ⟨f1, f2, q⟩ := q
    cases iy with
    | lst h hl => exact ⟨_, _, rfl, .inl (SqL.of (R.sub _ _ h)), ix.flat f1, hl.flat f2, by rw [inV_inD ix f1 hl f2]; exact z _ q _ H Hs R (Same.refl _) (.bl _)⟩
  · obtain ⟨f1, f2, q⟩ := q
    cases iy with
    | tup h hl => exact ⟨_, _, rfl, .inr (SqT.of (R.sub _ _ h)), ix.flat f1, hl.flat f2, by rw [inV_inD ix f1 hl f2]; exact z _ q _ H Hs R (Same.refl _) (.bl _)⟩
  · exact q.elim
theorem cm_in (ha : DE X F a ta) (hb : DE X F b tb) : DC X F .In a b (dOp (kIn false) ta tb) := cm_op op_in_seq (opD_in false) ha hb
theorem cm_notIn (ha : DE X F a ta) (hb : DE X F b tb) : DC X F .NotIn a b (dOp (kIn true) ta tb) := cm_op op_notIn_seq (opD_in true) ha hb

/-! ## t + u, xs + ys, t * n, xs * n -/
def kCatT : K2 := fun x y Q => match x, y with
  | .tuple a, .tuple b => a.length + b.length ≤ 1000 ∧ Q (.tuple (a ++ b))
  | _, _ => False
theorem opD_catT : OpD X F (rCatA X.K) kCatT := by
  intro Hs σ H ρ x y v u Q Q2 R ix iy q z
  unfold kCatT at q
  split at q
  · obtain ⟨hz, q⟩ := q
    cases ix with
    | tup h hl =>
      cases iy with
      | tup h' hl' =>
        rename_i as bs a xs b ys
        refine ⟨a, b, xs, ys, rfl, rfl, SqT.of (R.sub _ _ h), SqT.of (R.sub _ _ h'), line_of (by rw [hl.length, hl'.length]; exact hz), fun e => ?_, fun _ e => ?_, fun _ _ p hp => ?_⟩
        · subst e
          cases hl
          exact z _ q _ H Hs R (Same.refl _) (.tup h' hl')
        · subst e
          cases hl'
          exact z _ q _ H Hs R (Same.refl _) (.tup h (by rw [List.append_nil]; exact hl))
        · have g := Grow.laid (o := .tup (xs ++ ys)) R.sub R.ntb R.tab hp (fun _ z => nomatch z)
          exact z _ q _ _ _ (R.grow g) g.shr (.tup upd_same ((hl.append hl').mono g.shr))
  · exact q.elim
theorem de_addT (ha : DE X F a ta) (hb : DE X F b tb) : DE X F (.BinOp a .Add b pos) (dOp kCatT ta tb) := de_op op_catA opD_catT ha hb
def kCatL : K2 := fun x y Q => match x, y with
  | .list a, .list b => a.length + b.length ≤ 1000 ∧ Q (.list (a ++ b))
  | _, _ => False
theorem opF_catL : OpF X F rCat kCatL := by
  intro Hs σ H ρ x y v u Q Q2 R ix iy q z
  unfold kCatL at q
  split at q
  · obtain ⟨hz, q⟩ := q
    cases ix with
    | lst h hl =>
      cases iy with
      | lst h' hl' =>
        exact ⟨_, _, _, _, rfl, rfl, R.sub _ _ h, R.sub _ _ h', line_of (by rw [hl.length, hl'.length]; exact hz), fun p hp => z _ q p _ Hs (R.own hp) (Same.refl _) (R.priv hp (hl.append hl'))⟩
  · exact q.elim
theorem df_addL (ha : DE X F a ta) (hb : DE X F b tb) : DF X F (.BinOp a .Add b pos) (dOp kCatL ta tb) := df_op op_cat opF_catL ha hb
def kRepL : K2 := fun x y Q => match x, y with
  | .list a, .int k => 0 ≤ k ∧ k ≤ 1000 ∧ a.length ≤ 1000 ∧ Q (.list (List.replicate k.toNat a).flatten)
  | _, _ => False
theorem opF_repL : OpF X F rRep kRepL := by
  intro Hs σ H ρ x y v u Q Q2 R ix iy q z
  unfold kRepL at q
  split at q
  · obtain ⟨h0, h1, h2, q⟩ := q
    cases iy
    cases ix with
    | lst h hl =>
      rename_i as k a xs
      refine ⟨_, _, _, rfl, rfl, R.sub _ _ h, by omega, by omega, ?_, fun p hp => z _ q p _ Hs (R.own hp) (Same.refl _) (R.priv hp (hl.flatRep _))⟩
      have e1 : xs.length ≤ 1000 := by rw [hl.length]; exact h2
      have e2 : k.toNat ≤ 1000 := by omega
      have e3 := Nat.mul_le_mul e1 e2
      rw [sizeLine_eq]
      omega
  · exact q.elim
theorem df_mulL (ha : DE X F a ta) (hb : DE X F b tb) : DF X F (.BinOp a .Mult b pos) (dOp kRepL ta tb) := df_op op_rep opF_repL ha hb

/-! ## places and slices -/
def kIx : K2 := fun x y Q => match x, y with
  | .list ds, .int i => ∃ d, atI ds i = some d ∧ Q d
  | .tuple ds, .int i => ∃ d, atI ds i = some d ∧ Q d
  | _, _ => False
theorem opD_ix : OpD X F (fun x y H Q => rIxL X.K x y H Q ∨ rIxT X.K x y H Q) kIx := by
  intro Hs σ H ρ x y v u Q Q2 R ix iy q z
  unfold kIx at q
  split at q
  · obtain ⟨d, e, q⟩ := q
    cases iy
    cases ix with
    | lst h hl =>
      obtain ⟨w, ew, iw⟩ := at_of_isl hl e
      exact .inl ⟨_, _, _, w, rfl, rfl, SqL.of (R.sub _ _ h), ew, z _ q _ H Hs R (Same.refl _) iw⟩
  · obtain ⟨d, e, q⟩ := q
    cases iy
    cases ix with
    | tup h hl =>
      obtain ⟨w, ew, iw⟩ := at_of_isl hl e
      exact .inr ⟨_, _, _, w, rfl, rfl, SqT.of (R.sub _ _ h), ew, z _ q _ H Hs R (Same.refl _) iw⟩
  · exact q.elim
theorem de_ix (ha : DE X F a ta) (hb : DE X F b tb) (hs : PlainIx b := by exact fun _ _ => rfl) : DE X F (.Subscript a b pos) (dOp kIx ta tb) :=
  pe_imp (pe_ix (ix_list.or ix_tup) ha hb hs) fun _ _ _ q => opD_run opD_ix q
/-- what a slot's own list or shared sequence holds -/
def slotD (ρ : En) (i : Nat) (Q : PyData → Prop) : Prop := match ρ.sl[i]? with
  | some (.s d) => Q d
  | some (.o d) => Q d
  | _ => False
theorem slotD_is {K : PySem.W.Frag} {Hs H : Hp} {σ : L2.St} {ρ : En} {i : Nat} {Q : PyData → Prop} (R : Rep K F Hs σ H ρ) (h : slotD ρ i Q) : ∃ v d, σ[i]? = some (some v) ∧ Q d ∧ (Is K Hs v d ∨ ∃ p, v = .ref p ∧ OwnO K Hs H p d) := by
  unfold slotD at h
  split at h
  · rename_i d hd
    cases R.slo i _ hd with
    | s e q => exact ⟨_, d, e, h, .inl q⟩
  · rename_i d hd
    cases R.slo i _ hd with
    | o e hn h0 q => exact ⟨_, d, e, h, .inr ⟨_, rfl, q⟩⟩
  · exact h.elim
/-- x[e], x a slot whose object stays as it is -/
def dIxN (i : Nat) (te : RE) : RE := fun ρ Q => slotD ρ i fun _ => te ρ fun y ρ1 => slotD ρ1 i fun x => kIx x y fun d => Q d ρ1
theorem de_ixN (i : Nat) {x : Str} {p : Pos} (hb : DE X F b tb) (hN : X.N[i]? = some x := by rfl) (hv : Vis X.env.scope x := by first | exact Or.inl rfl | exact Or.inr (Or.inl rfl) | exact Or.inr (Or.inr rfl)) (hs : PlainIx b := by exact fun _ _ => rfl) (hd : (x == ("__debug__" : Str)) = false := by decide)
    (hcd : (x == ("__classdict__" : Str)) = false := by decide) : DE X F (.Subscript (.Name x p) b pos) (dIxN i tb) :=
  pe_imp (pe_ix (ix_list.or ix_tup) (pe_var hN hv hd hcd) hb hs) fun σ H Q ⟨Hs, ρ, Q2, R, q, z⟩ => by
    obtain ⟨v, _, ev, q, _⟩ := slotD_is R q
    refine ⟨v, ev, Hs, ρ, _, R, q, fun y ρ1 q1 w H1 Hs1 R1 S1 i1 => ?_⟩
    obtain ⟨v', d, ev', q1, iv⟩ := slotD_is R1 q1
    rw [ev] at ev'; cases ev'
    rcases iv with iv | ⟨p, rfl, iv⟩
    · exact opD_ix Hs1 σ H1 ρ1 d y v w Q _ R1 iv i1 q1 fun d qd w H' Hs' R' S' iw => z d ρ1 qd w H' Hs' R' (S1.trans S') iw
    · unfold kIx at q1
      split at q1
      · obtain ⟨d', e, q1⟩ := q1
        cases i1
        cases iv with
        | lst h hl =>
          obtain ⟨w, ew, iw⟩ := at_of_isl hl e
          exact .inl ⟨_, _, _, w, rfl, rfl, SqL.of h, ew, z _ ρ1 q1 _ H1 Hs1 R1 S1 iw⟩
      · cases iv
      · exact q1.elim
abbrev RO := En → (Option Int → En → Prop) → Prop
def liftO (X : Cx) (F : Fm) (t : RO) : TO := fun σ H Q => ∃ Hs ρ Q2, Rep X.K F Hs σ H ρ ∧ t ρ Q2 ∧
  ∀ o ρ', Q2 o ρ' → ∀ H' Hs', Rep X.K F Hs' σ H' ρ' → Same Hs Hs' → Q o H'
def DO (X : Cx) (F : Fm) (e : Option Expr) (t : RO) : Prop := PO X e (liftO X F t)
theorem po_imp {X : Cx} {e : Option Expr} {t t' : TO} (h : PO X e t) (k : ∀ σ H Q, t' σ H Q → t σ H Q) : PO X e t' := ⟨fun pins s σ H Q I q => h.run pins s σ H Q I (k σ H Q q)⟩
def dNoPart : RO := fun ρ Q => Q none ρ
def kInt (d : PyData) (Q : Int → Prop) : Prop := match d with
  | .int i => Q i
  | _ => False
theorem kInt_is {Hs : Hp} {K : PySem.W.Frag} {v : V} {d : PyData} {Q : Int → Prop} (h : kInt d Q) (i : Is K Hs v d) : ∃ n, v = .int n ∧ d = .int n ∧ Q n := by
  unfold kInt at h
  split at h
  · cases i; exact ⟨_, rfl, rfl, h⟩
  · exact h.elim
def dPart (t : RE) : RO := fun ρ Q => t ρ fun d ρ' => kInt d fun i => Q (some i) ρ'
theorem do_none : DO X F none dNoPart := po_imp po_none fun σ H Q ⟨Hs, ρ, Q2, R, q, z⟩ => z _ ρ q H Hs R (Same.refl _)
theorem do_some (h : DE X F e ta) : DO X F (some e) (dPart ta) := po_imp (po_some h) fun σ H Q ⟨Hs, ρ, Q2, R, q, z⟩ => ⟨Hs, ρ, _, R, q, fun d ρ1 q1 v H1 Hs1 R1 S1 i1 => by
  obtain ⟨n, rfl, rfl, q1⟩ := kInt_is q1 i1
  exact ⟨n, rfl, z _ ρ1 q1 H1 Hs1 R1 S1⟩⟩
/-- the items of xs[lo:hi] -/
def cutG {α : Type} (xs : List α) (lo hi : Option Int) : List α := (xs.drop (HT.sIx xs.length 0 lo)).take (HT.sIx xs.length xs.length hi - HT.sIx xs.length 0 lo)
theorem IsL.cut {K : PySem.W.Frag} {H : Hp} {xs : List V} {ds : List PyData} (h : IsL K H xs ds) (lo hi : Option Int) : IsL K H (cutV xs lo hi) (cutG ds lo hi) := by
  unfold cutV cutG
  rw [h.length]
  exact (h.drop _).take _
theorem cutG_whole {α : Type} (xs : List α) (lo hi : Option Int) (h : HT.sIx xs.length 0 lo = 0 ∧ HT.sIx xs.length xs.length hi = xs.length) : cutG xs lo hi = xs := by
  unfold cutG
  rw [h.1, h.2, List.drop_zero, Nat.sub_zero, List.take_length]
def kSl (lo hi : Option Int) (x : PyData) (Q : PyData → Prop) : Prop := match x with
  | .list ds => Q (.list (cutG ds lo hi))
  | .tuple ds => Q (.tuple (cutG ds lo hi))
  | _ => False
def kSlL (lo hi : Option Int) (x : PyData) (Q : PyData → Prop) : Prop := match x with
  | .list ds => Q (.list (cutG ds lo hi))
  | _ => False
def dSl (k : Option Int → Option Int → PyData → (PyData → Prop) → Prop) (te : RE) (tl th : RO) : RE := fun ρ Q => te ρ fun x ρ1 => tl ρ1 fun lo ρ2 => th ρ2 fun hi ρ3 => k lo hi x fun d => Q d ρ3
variable {lo hi : Option Expr} {tl th : RO} {p2 : Pos}
theorem de_slice (he : DE X F e ta) (hl : DO X F lo tl) (hh : DO X F hi th) : DE X F (.Subscript e (.Slice lo hi none p2) pos) (dSl kSl ta tl th) :=
  pe_imp (pe_slice (sl_list.or sl_tupA) he hl hh) fun σ H Q ⟨Hs, ρ, Q2, R, q, z⟩ => ⟨Hs, ρ, _, R, q, fun d ρ1 q1 v H1 Hs1 R1 S1 i1 => ⟨Hs1, ρ1, _, R1, q1, fun l ρ2 q2 H2 Hs2 R2 S2 => ⟨Hs2, ρ2, _, R2, q2, fun h ρ3 q3 H3 Hs3 R3 S3 => by
    have i3 := (i1.mono S2).mono S3
    have S03 := (S1.trans S2).trans S3
    unfold kSl at q3
    split at q3
    · cases i3 with
      | @lst a xs ds hh hl =>
        refine .inl ⟨_, _, rfl, SqL.of (R3.sub _ _ hh), fun p hp => ?_⟩
        have g := Grow.laid (o := .lst (cutV xs l h)) R3.sub R3.ntb R3.tab hp (fun _ z => nomatch z)
        exact z _ ρ3 q3 _ _ _ (R3.grow g) (S03.trans g.shr) (.lst upd_same ((hl.cut l h).mono g.shr))
    · cases i3 with
      | @tup a xs ds hh hl =>
        refine .inr ⟨_, _, rfl, SqT.of (R3.sub _ _ hh), fun e => ?_, fun _ p hp => ?_⟩
        · rw [hl.length] at e
          rw [cutG_whole _ l h e] at q3
          exact z _ ρ3 q3 _ _ _ R3 S03 (.tup hh hl)
        · have g := Grow.laid (o := .tup (cutV xs l h)) R3.sub R3.ntb R3.tab hp (fun _ z => nomatch z)
          exact z _ ρ3 q3 _ _ _ (R3.grow g) (S03.trans g.shr) (.tup upd_same ((hl.cut l h).mono g.shr))
    · exact q3.elim⟩⟩⟩
theorem df_slice (he : DE X F e ta) (hl : DO X F lo tl) (hh : DO X F hi th) : DF X F (.Subscript e (.Slice lo hi none p2) pos) (dSl kSlL ta tl th) :=
  pe_imp (pe_slice sl_list he hl hh) fun σ H Q ⟨Hs, ρ, Q2, R, q, z⟩ => ⟨Hs, ρ, _, R, q, fun d ρ1 q1 v H1 Hs1 R1 S1 i1 => ⟨Hs1, ρ1, _, R1, q1, fun l ρ2 q2 H2 Hs2 R2 S2 => ⟨Hs2, ρ2, _, R2, q2, fun h ρ3 q3 H3 Hs3 R3 S3 => by
    have i3 := (i1.mono S2).mono S3
    have S03 := (S1.trans S2).trans S3
    unfold kSlL at q3
    split at q3
    · cases i3 with
      | lst hh hl => exact ⟨_, _, rfl, SqL.of (R3.sub _ _ hh), fun p hp => z _ ρ3 q3 p _ Hs3 (R3.own hp) S03 (R3.priv hp (hl.cut l h))⟩
    · exact q3.elim⟩⟩⟩
end
end Yd
set_option Elab.async false
set_option linter.all false
set_option maxRecDepth 100000
set_option maxHeartbeats 1000000
/-! # The plain-data layer: built-in calls, dicts -/
namespace Yd
open PySem PySem.Spec PyProof.Rows L2 LamX

abbrev KL := List PyData → (PyData → Prop) → Prop
section
variable {X : Cx} {F : Fm} {a b c e : Expr} {es : List Expr} {pos p : Pos} {ta tb tc : RE} {tx ty : RT} {rest : List Expr} {t : RA} {x : Str} {id T : String} {r : List V → Hp → VK → Prop} {k : KL}

def dCallB (k : KL) (t : RA) : RE := fun ρ Q => t ρ fun ds ρ' => k ds fun d => Q d ρ'
def CallD (X : Cx) (F : Fm) (r : List V → Hp → VK → Prop) (k : KL) : Prop := ∀ (Hs : Hp) (σ : L2.St) (H : Hp) (ρ : En) (ds : List PyData) (vs : List V) (Q : VK) (Q2 : PyData → Prop), Rep X.K F Hs σ H ρ → IsL X.K Hs vs ds → k ds Q2 →
  (∀ d, Q2 d → ∀ w H' Hs', Rep X.K F Hs' σ H' ρ → Same Hs Hs' → Is X.K Hs' w d → Q w H') → r vs H Q
def CallF (X : Cx) (F : Fm) (r : List V → Hp → VK → Prop) (k : KL) : Prop := ∀ (Hs : Hp) (σ : L2.St) (H : Hp) (ρ : En) (ds : List PyData) (vs : List V) (Q : VK) (Q2 : PyData → Prop), Rep X.K F Hs σ H ρ → IsL X.K Hs vs ds → k ds Q2 →
  (∀ d, Q2 d → ∀ a H' Hs', Rep X.K F Hs' σ H' ρ → Same Hs Hs' → Priv X.K F Hs' σ H' ρ a d → Q (.ref a) H') → r vs H Q
theorem callD_run (h : CallD X F r k) {σ : L2.St} {H : Hp} {Q : VK} (q : liftE X F (dCallB k t) σ H Q) : tCB r (liftA X F t) σ H Q := by
  obtain ⟨Hs, ρ, Q2, R, q, z⟩ := q
  exact ⟨Hs, ρ, _, R, q, fun ds ρ1 q1 vs H1 Hs1 R1 S1 i1 => h Hs1 σ H1 ρ1 ds vs Q _ R1 i1 q1 fun d qd w H' Hs' R' S' iw => z d ρ1 qd w H' Hs' R' (S1.trans S') iw⟩
theorem callF_run (h : CallF X F r k) {σ : L2.St} {H : Hp} {Q : VK} (q : liftF X F (dCallB k t) σ H Q) : tCB r (liftA X F t) σ H Q := by
  obtain ⟨Hs, ρ, Q2, R, q, z⟩ := q
  exact ⟨Hs, ρ, _, R, q, fun ds ρ1 q1 vs H1 Hs1 R1 S1 i1 => h Hs1 σ H1 ρ1 ds vs Q _ R1 i1 q1 fun d qd w H' Hs' R' S' iw => z d ρ1 qd w H' Hs' R' (S1.trans S') iw⟩
theorem de_callB (hc : CallR X (.builtin id) r) (hk : CallD X F r k) (hg : Gl X x) (hm : X.mg x = none) (hv : bootBuiltins x = some (.builtin id)) (ha : DA X F (e :: es) t) (hn : x ≠ "__name__" := by decide) (hdb : (x == ("__debug__" : Str)) = false := by decide)
    (he : starEach (e :: es) X.env = (false, eval e X.env) :: starEach es X.env := by rfl) (hpl : (backTo pos (starEach es X.env)).any (·.1) = false := by rfl) : DE X F (.Call (.Name x p) (e :: es) [] pos) (dCallB k t) :=
  pe_imp (pe_callB hc hg hm hv ha hn hdb he hpl) fun _ _ _ q => callD_run hk q
theorem df_callB (hc : CallR X (.builtin id) r) (hk : CallF X F r k) (hg : Gl X x) (hm : X.mg x = none) (hv : bootBuiltins x = some (.builtin id)) (ha : DA X F (e :: es) t) (hn : x ≠ "__name__" := by decide) (hdb : (x == ("__debug__" : Str)) = false := by decide)
    (he : starEach (e :: es) X.env = (false, eval e X.env) :: starEach es X.env := by rfl) (hpl : (backTo pos (starEach es X.env)).any (·.1) = false := by rfl) : DF X F (.Call (.Name x p) (e :: es) [] pos) (dCallB k t) :=
  pe_imp (pe_callB hc hg hm hv ha hn hdb he hpl) fun _ _ _ q => callF_run hk q
theorem de_callTy (hc : CallR X (.type T) r) (hk : CallD X F r k) (hg : Gl X x) (hm : X.mg x = none) (hv : bootBuiltins x = some (.type T)) (ha : DA X F (e :: es) t) (hn : x ≠ "__name__" := by decide) (hdb : (x == ("__debug__" : Str)) = false := by decide)
    (he : starEach (e :: es) X.env = (false, eval e X.env) :: starEach es X.env := by rfl) (hpl : (backTo pos (starEach es X.env)).any (·.1) = false := by rfl) : DE X F (.Call (.Name x p) (e :: es) [] pos) (dCallB k t) :=
  pe_imp (pe_callTy hc hg hm hv ha hn hdb he hpl) fun _ _ _ q => callD_run hk q
theorem df_callTy (hc : CallR X (.type T) r) (hk : CallF X F r k) (hg : Gl X x) (hm : X.mg x = none) (hv : bootBuiltins x = some (.type T)) (ha : DA X F (e :: es) t) (hn : x ≠ "__name__" := by decide) (hdb : (x == ("__debug__" : Str)) = false := by decide)
    (he : starEach (e :: es) X.env = (false, eval e X.env) :: starEach es X.env := by rfl) (hpl : (backTo pos (starEach es X.env)).any (·.1) = false := by rfl) : DF X F (.Call (.Name x p) (e :: es) [] pos) (dCallB k t) :=
  pe_imp (pe_callTy hc hg hm hv ha hn hdb he hpl) fun _ _ _ q => callF_run hk q

/-! ### len, int, list, tuple, max, min, sorted -/
def kLen : KL := fun ds Q => match ds with
  | [.list xs] => Q (.int (xs.length : Nat))
  | [.tuple xs] => Q (.int (xs.length : Nat))
  | _ => False
theorem callD_len : CallD X F (fun xs H Q => ∃ p ys, xs = [.ref p] ∧ (SqL X.K H p ys ∨ SqT X.K H p ys) ∧ Q (.int ys.length) H) kLen := by
  intro Hs σ H ρ ds vs Q Q2 R iv q z
  unfold kLen at q
  split at q
  · cases iv with
    | cons h0 hl0 =>
      cases hl0
      cases h0 with
      | lst h hl => exact ⟨_, _, rfl, .inl (SqL.of (R.sub _ _ h)), by rw [hl.length]; exact z _ q _ H Hs R (Same.refl _) (.int _)⟩
  · cases iv with
    | cons h0 hl0 =>
      cases hl0
      cases h0 with
      | tup h hl => exact ⟨_, _, rfl, .inr (SqT.of (R.sub _ _ h)), by rw [hl.length]; exact z _ q _ H Hs R (Same.refl _) (.int _)⟩
  · exact q.elim
theorem de_len (hg : Gl X "len") (hm : X.mg "len" = none) (ha : DE X F e ta) (he : starEach [e] X.env = (false, eval e X.env) :: starEach [] X.env := by rfl) : DE X F (.Call (.Name "len" p) [e] [] pos) (dCallB kLen (dCons ta dNil)) :=
  de_callB call_len_seq callD_len hg hm PySem.boot_len (da_cons ha da_nil he) (he := he)
def kIntOf : KL := fun ds Q => match ds with
  | [.int i] => Q (.int i)
  | _ => False
theorem callD_int : CallD X F (fun xs H Q => (∃ i, xs = [.int i] ∧ Q (.int i) H) ∨ ∃ k, xs = [.bl k] ∧ Q (.int (if k then 1 else 0)) H) kIntOf := by
  intro Hs σ H ρ ds vs Q Q2 R iv q z
  unfold kIntOf at q
  split at q
  · cases iv with
    | cons h0 hl0 =>
      cases hl0
      cases h0
      exact .inl ⟨_, rfl, z _ q _ H Hs R (Same.refl _) (.int _)⟩
  · exact q.elim
theorem de_intOf (hg : Gl X "int") (hm : X.mg "int" = none) (ha : DE X F e ta) (he : starEach [e] X.env = (false, eval e X.env) :: starEach [] X.env := by rfl) : DE X F (.Call (.Name "int" p) [e] [] pos) (dCallB kIntOf (dCons ta dNil)) :=
  de_callTy call_int1 callD_int hg hm PyProof.Rows.boot_int (da_cons ha da_nil he) (he := he)
def kListOf : KL := fun ds Q => match ds with
  | [.list xs] => Q (.list xs)
  | [.tuple xs] => Q (.list xs)
  | _ => False
theorem callF_list : CallF X F (fun xs H Q => ∃ p ys, xs = [.ref p] ∧ (SqL X.K H p ys ∨ SqT X.K H p ys) ∧ ∀ l, H l = none → Q (.ref l) (upd H l (.lst ys))) kListOf := by
  intro Hs σ H ρ ds vs Q Q2 R iv q z
  unfold kListOf at q
  split at q
  · cases iv with
    | cons h0 hl0 =>
      cases hl0
      cases h0 with
      | lst h hl => exact ⟨_, _, rfl, .inl (SqL.of (R.sub _ _ h)), fun l hp => z _ q l _ Hs (R.own hp) (Same.refl _) (R.priv hp hl)⟩
  · cases iv with
    | cons h0 hl0 =>
      cases hl0
      cases h0 with
      | tup h hl => exact ⟨_, _, rfl, .inr (SqT.of (R.sub _ _ h)), fun l hp => z _ q l _ Hs (R.own hp) (Same.refl _) (R.priv hp hl)⟩
  · exact q.elim
theorem df_listOf (hg : Gl X "list") (hm : X.mg "list" = none) (hv : bootBuiltins "list" = some (.type "list")) (ha : DE X F e ta) (he : starEach [e] X.env = (false, eval e X.env) :: starEach [] X.env := by rfl) : DF X F (.Call (.Name "list" p) [e] [] pos) (dCallB kListOf (dCons ta dNil)) :=
  df_callTy call_list_of callF_list hg hm hv (da_cons ha da_nil he) (he := he)
def kTupleOf : KL := fun ds Q => match ds with
  | [.list xs] => Q (.tuple xs)
  | [.tuple xs] => Q (.tuple xs)
  | _ => False
theorem callD_tuple : CallD X F (fun xs H Q => ∃ p ys, xs = [.ref p] ∧ ((SqL X.K H p ys ∧ ∀ l, H l = none → Q (.ref l) (upd H l (.tup ys))) ∨ (SqT X.K H p ys ∧ Q (.ref p) H))) kTupleOf := by
  intro Hs σ H ρ ds vs Q Q2 R iv q z
  unfold kTupleOf at q
  split at q
  · cases iv with
    | cons h0 hl0 =>
      cases hl0
      cases h0 with
      | @lst a xs ds h hl =>
        refine ⟨_, _, rfl, .inl ⟨SqL.of (R.sub _ _ h), fun l hp => ?_⟩⟩
        have g := Grow.laid (o := .tup xs) R.sub R.ntb R.tab hp (fun _ z => nomatch z)
        exact z _ q _ _ _ (R.grow g) g.shr (.tup upd_same (hl.mono g.shr))
  · cases iv with
    | cons h0 hl0 =>
      cases hl0
      cases h0 with
      | tup h hl => exact ⟨_, _, rfl, .inr ⟨SqT.of (R.sub _ _ h), z _ q _ H Hs R (Same.refl _) (.tup h hl)⟩⟩
  · exact q.elim
theorem de_tupleOf (hg : Gl X "tuple") (hm : X.mg "tuple" = none) (hv : bootBuiltins "tuple" = some (.type "tuple")) (ha : DE X F e ta) (he : starEach [e] X.env = (false, eval e X.env) :: starEach [] X.env := by rfl) : DE X F (.Call (.Name "tuple" p) [e] [] pos) (dCallB kTupleOf (dCons ta dNil)) :=
  de_callTy call_tuple_of callD_tuple hg hm hv (da_cons ha da_nil he) (he := he)
def kMax2 : KL := fun ds Q => match ds with
  | [.int i, .int j] => Q (.int (if j > i then j else i))
  | _ => False
def kMin2 : KL := fun ds Q => match ds with
  | [.int i, .int j] => Q (.int (if j < i then j else i))
  | _ => False
theorem callD_max2 : CallD X F (fun xs H Q => ∃ i j, xs = [.int i, .int j] ∧ Q (.int (if j > i then j else i)) H) kMax2 := by
  intro Hs σ H ρ ds vs Q Q2 R iv q z
  unfold kMax2 at q
  split at q
  · cases iv with
    | cons h0 hl0 =>
      cases hl0 with
      | cons h1 hl1 =>
        cases hl1
        cases h0
        cases h1
        exact ⟨_, _, rfl, z _ q _ H Hs R (Same.refl _) (.int _)⟩
  · exact q.elim
theorem callD_min2 : CallD X F (fun xs H Q => ∃ i j, xs = [.int i, .int j] ∧ Q (.int (if j < i then j else i)) H) kMin2 := by
  intro Hs σ H ρ ds vs Q Q2 R iv q z
  unfold kMin2 at q
  split at q
  · cases iv with
    | cons h0 hl0 =>
      cases hl0 with
      | cons h1 hl1 =>
        cases hl1
        cases h0
        cases h1
        exact ⟨_, _, rfl, z _ q _ H Hs R (Same.refl _) (.int _)⟩
  · exact q.elim
theorem de_max2 (hc : X.calm = true) (hg : Gl X "max") (hm : X.mg "max" = none) (hv : bootBuiltins "max" = some (.builtin "max")) (ha : DA X F [a, b] t) (he : starEach [a, b] X.env = (false, eval a X.env) :: starEach [b] X.env := by rfl) (hpl : (backTo pos (starEach [b] X.env)).any (·.1) = false := by rfl) :
    DE X F (.Call (.Name "max" p) [a, b] [] pos) (dCallB kMax2 t) := de_callB (call_max2 hc) callD_max2 hg hm hv ha (by decide) (by decide) he hpl
theorem de_min2 (hc : X.calm = true) (hg : Gl X "min") (hm : X.mg "min" = none) (hv : bootBuiltins "min" = some (.builtin "min")) (ha : DA X F [a, b] t) (he : starEach [a, b] X.env = (false, eval a X.env) :: starEach [b] X.env := by rfl) (hpl : (backTo pos (starEach [b] X.env)).any (·.1) = false := by rfl) :
    DE X F (.Call (.Name "min" p) [a, b] [] pos) (dCallB kMin2 t) := de_callB (call_min2 hc) callD_min2 hg hm hv ha (by decide) (by decide) he hpl
def kMaxL : KL := fun ds Q => match ds with
  | [.list xs] => ∃ ns : List Int, xs = ns.map PyData.int ∧ 0 < ns.length ∧ ∀ m, m ∈ ns → (∀ y, y ∈ ns → y ≤ m) → Q (.int m)
  | _ => False
def kMinL : KL := fun ds Q => match ds with
  | [.list xs] => ∃ ns : List Int, xs = ns.map PyData.int ∧ 0 < ns.length ∧ ∀ m, m ∈ ns → (∀ y, y ∈ ns → m ≤ y) → Q (.int m)
  | _ => False
theorem callD_maxL : CallD X F (rMax X.K) kMaxL := by
  intro Hs σ H ρ ds vs Q Q2 R iv q z
  unfold kMaxL at q
  split at q
  · obtain ⟨ns, rfl, h0, q⟩ := q
    cases iv with
    | cons h0 hl0 =>
      cases hl0
      cases h0 with
      | lst h hl =>
        have e := hl.ints
        subst e
        exact ⟨_, ns, rfl, SqL.of (R.sub _ _ h), h0, fun m h1 h2 => z _ (q m h1 h2) _ H Hs R (Same.refl _) (.int _)⟩
  · exact q.elim
theorem callD_minL : CallD X F (rMin X.K) kMinL := by
  intro Hs σ H ρ ds vs Q Q2 R iv q z
  unfold kMinL at q
  split at q
  · obtain ⟨ns, rfl, h0, q⟩ := q
    cases iv with
    | cons h0 hl0 =>
      cases hl0
      cases h0 with
      | lst h hl =>
        have e := hl.ints
        subst e
        exact ⟨_, ns, rfl, SqL.of (R.sub _ _ h), h0, fun m h1 h2 => z _ (q m h1 h2) _ H Hs R (Same.refl _) (.int _)⟩
  · exact q.elim
theorem de_maxL (hc : X.calm = true) (hg : Gl X "max") (hm : X.mg "max" = none) (hv : bootBuiltins "max" = some (.builtin "max")) (ha : DE X F e ta) (he : starEach [e] X.env = (false, eval e X.env) :: starEach [] X.env := by rfl) :
    DE X F (.Call (.Name "max" p) [e] [] pos) (dCallB kMaxL (dCons ta dNil)) := de_callB (cr_max hc) callD_maxL hg hm hv (da_cons ha da_nil he) (he := he)
theorem de_minL (hc : X.calm = true) (hg : Gl X "min") (hm : X.mg "min" = none) (hv : bootBuiltins "min" = some (.builtin "min")) (ha : DE X F e ta) (he : starEach [e] X.env = (false, eval e X.env) :: starEach [] X.env := by rfl) :
    DE X F (.Call (.Name "min" p) [e] [] pos) (dCallB kMinL (dCons ta dNil)) := de_callB (cr_min hc) callD_minL hg hm hv (da_cons ha da_nil he) (he := he)
/-- tuple(reversed(xs)) -/
def kRevT (x : PyData) (Q : PyData → Prop) : Prop := match x with
  | .list xs => Q (.tuple xs.reverse)
  | _ => False
theorem de_tupRev {p2 pos2 : Pos} (hc : X.calm = true) (hg : Gl X "tuple") (hm : X.mg "tuple" = none) (hg2 : Gl X "reversed") (hm2 : X.mg "reversed" = none) (he : DE X F e ta)
    (hs : starEach [e] X.env = (false, eval e X.env) :: starEach [] X.env := by rfl)
    (hs2 : starEach [.Call (.Name "reversed" p2) [e] [] pos2] X.env = (false, eval (.Call (.Name "reversed" p2) [e] [] pos2) X.env) :: starEach [] X.env := by rfl) :
    DE X F (.Call (.Name "tuple" p) [.Call (.Name "reversed" p2) [e] [] pos2] [] pos) (dUn kRevT ta) :=
  pe_imp (RT.pe_tupRev hc hg hm hg2 hm2 he hs hs2) fun σ H Q ⟨Hs, ρ, Q2, R, q, z⟩ => ⟨Hs, ρ, _, R, q, fun d ρ1 q1 v H1 Hs1 R1 S1 i1 => by
    have q1 : kRevT d fun d => Q2 d ρ1 := q1
    unfold kRevT at q1
    split at q1
    · cases i1 with
      | @lst a xs ds h hl =>
        refine ⟨a, xs, rfl, SqL.of (R1.sub _ _ h), fun p hp => ?_⟩
        have g := Grow.laid (o := .tup xs.reverse) R1.sub R1.ntb R1.tab hp (fun _ z => nomatch z)
        exact z _ ρ1 q1 _ _ _ (R1.grow g) (S1.trans g.shr) (.tup upd_same (hl.reverse.mono g.shr))
    · exact q1.elim⟩

/-! ### isinstance -/
def tyD : PyData → String
  | .none => "NoneType"
  | .bool _ => "bool"
  | .int _ => "int"
  | .str _ => "str"
  | .list _ => "list"
  | .tuple _ => "tuple"
  | .dict _ => "dict"
def isiD (T : String) (x : PyData) : Bool := (kitB (tyD x) T).getD false
theorem tyX_of {K : PySem.W.Frag} {Hs H : Hp} {v : V} {d : PyData} (h : Is K Hs v d) (s : Same Hs H) : TyX K H v (.type (tyD d)) := by
  cases h with
  | non => exact .base .non
  | bl b => exact .base (.bl b)
  | int i => exact .base (.int i)
  | str x => exact .base (.str x)
  | lst h hl => exact .base (.lst (s _ _ h))
  | tup h hl => exact .base (.tup (s _ _ h))
  | dic h hl => exact .base (.dK (s _ _ h))
theorem de_isi {p2 : Pos} {Ty : Str} (hg : Gl X "isinstance") (hm : X.mg "isinstance" = none) (hv : bootBuiltins "isinstance" = some (.builtin "isinstance")) (hg2 : Gl X Ty) (hm2 : X.mg Ty = none) (hv2 : bootBuiltins Ty = some (.type T))
    (hk : ∀ d : PyData, (kitB (tyD d) T).isSome = true) (hn2 : Ty ≠ "__name__") (hd2 : (Ty == ("__debug__" : Str)) = false)
    (ha : DE X F a ta) (he : starEach [a, .Name Ty p2] X.env = (false, eval a X.env) :: starEach [.Name Ty p2] X.env := by rfl) (he2 : starEach [.Name Ty p2] X.env = (false, eval (.Name Ty p2) X.env) :: starEach [] X.env := by rfl)
    (hpl : (backTo pos (starEach [.Name Ty p2] X.env)).any (·.1) = false := by rfl) : DE X F (.Call (.Name "isinstance" p) [a, .Name Ty p2] [] pos) (dUn (fun x Q => Q (.bool (isiD T x))) ta) :=
  pe_imp (pe_callB call_isi hg hm hv (pa_cons ha (pa_cons (pe_bltn (v := .ty T) hg2 hm2 hv2 rfl hn2 hd2) pa_nil he2) he) (by decide) (by decide) he hpl) fun σ H Q ⟨Hs, ρ, Q2, R, q, z⟩ => ⟨Hs, ρ, _, R, q, fun d ρ1 q1 v H1 Hs1 R1 S1 i1 => by
    have e : kitB (tyD d) T = some (isiD T d) := by
      unfold isiD
      cases h : kitB (tyD d) T with
      | none => have := hk d; rw [h] at this; cases this
      | some b => rfl
    exact ⟨v, .ty T, _, _, isiD T d, rfl, .ty T, tyX_of i1 R1.sub, kit_ty e, z _ ρ1 q1 _ H1 Hs1 R1 S1 (.bl _)⟩⟩

/-! ## dicts with int keys -/
def keyI (k : PyData) (i : Int) : Bool := match k with
  | .int j => decide (j = i)
  | _ => false
def dGet (kvs : List (PyData × PyData)) (i : Int) : Option PyData := (kvs.find? fun p => keyI p.1 i).map (·.2)
def dPut (kvs : List (PyData × PyData)) (i : Int) (d : PyData) : List (PyData × PyData) :=
  if (kvs.any fun p => keyI p.1 i) = true then kvs.map (fun p => if keyI p.1 i = true then (p.1, d) else p) else kvs ++ [(.int i, d)]
section
variable {K : PySem.W.Frag} {H : Hp}
theorem dec_key (i j : Int) : decide ((Sum.inl i : Key) = Sum.inl j) = decide (i = j) := by
  by_cases h : i = j
  · subst h; simp
  · rw [decide_eq_false h, decide_eq_false fun z => h (Sum.inl.inj z)]
theorem IsK.get {i : Int} : ∀ {ps : List (Key × V)} {kvs : List (PyData × PyData)}, IsK K H ps kvs → (∀ d, dGet kvs i = some d → ∃ v, valV ps (.inl i) = some v ∧ Is K H v d) ∧ (dGet kvs i).isSome = (valV ps (.inl i)).isSome
  | _, _, .nil => ⟨fun d h => (nomatch h), rfl⟩
  | _, _, @IsK.cons _ _ j v d ps kvs h hl => by
    obtain ⟨h1, h2⟩ := IsK.get (i := i) hl
    by_cases e : j = i
    · subst e
      have e1 : dGet ((PyData.int j, d) :: kvs) j = some d := by unfold dGet; rw [List.find?_cons_of_pos (by simp [keyI])]; rfl
      have e2 : valV ((Sum.inl j, v) :: ps) (Sum.inl j) = some v := valV_pos rfl
      rw [e1, e2]
      exact ⟨fun d' q => by cases q; exact ⟨v, rfl, h⟩, rfl⟩
    · have e1 : dGet ((PyData.int j, d) :: kvs) i = dGet kvs i := by unfold dGet; rw [List.find?_cons_of_neg (by simp [keyI, e])]
      have e2 : valV ((Sum.inl j, v) :: ps) (Sum.inl i) = valV ps (Sum.inl i) := valV_neg fun z => e (Sum.inl.inj z)
      rw [e1, e2]
      exact ⟨h1, h2⟩
theorem IsK.any {i : Int} : ∀ {ps : List (Key × V)} {kvs : List (PyData × PyData)}, IsK K H ps kvs → (ps.any fun kv => decide (kv.1 = (Sum.inl i : Key))) = kvs.any fun p => keyI p.1 i
  | _, _, .nil => rfl
  | _, _, @IsK.cons _ _ j v d ps kvs h hl => by
    rw [List.any_cons, List.any_cons, hl.any, dec_key]
    rfl
theorem IsK.map {i : Int} {v' : V} {d' : PyData} (h' : Is K H v' d') : ∀ {ps : List (Key × V)} {kvs : List (PyData × PyData)}, IsK K H ps kvs →
    IsK K H (ps.map fun kv => if kv.1 = (Sum.inl i : Key) then (kv.1, v') else kv) (kvs.map fun p => if keyI p.1 i = true then (p.1, d') else p)
  | _, _, .nil => .nil
  | _, _, @IsK.cons _ _ j v d ps kvs h hl => by
    rw [List.map_cons, List.map_cons]
    by_cases e : j = i
    · subst e
      rw [if_pos rfl, if_pos (by simp [keyI])]
      exact .cons h' (hl.map h')
    · rw [if_neg (fun z => e (Sum.inl.inj z)), if_neg (by simp [keyI, e])]
      exact .cons h (hl.map h')
theorem IsK.append : ∀ {ps qs : List (Key × V)} {kvs lvs : List (PyData × PyData)}, IsK K H ps kvs → IsK K H qs lvs → IsK K H (ps ++ qs) (kvs ++ lvs)
  | _, _, _, _, .nil, h => h
  | _, _, _, _, .cons h hl, q => .cons h (hl.append q)
theorem IsK.put {i : Int} {v : V} {d : PyData} {ps : List (Key × V)} {kvs : List (PyData × PyData)} (h : IsK K H ps kvs) (hv : Is K H v d) : IsK K H (putK ps (.inl i) v) (dPut kvs i d) := by
  unfold putK dPut
  rw [h.any]
  split
  · exact h.map hv
  · exact h.append (.cons hv .nil)
theorem IsK.length : ∀ {ps : List (Key × V)} {kvs : List (PyData × PyData)}, IsK K H ps kvs → ps.length = kvs.length
  | _, _, .nil => rfl
  | _, _, .cons _ hl => by rw [List.length_cons, List.length_cons, hl.length]
theorem IsK.keys : ∀ {ps : List (Key × V)} {kvs : List (PyData × PyData)} {ks : List Int}, IsK K H ps kvs → kvs.map (·.1) = ks.map PyData.int → ps.map (·.1) = ks.map Sum.inl
  | _, _, [], .nil, _ => rfl
  | _, _, _ :: _, .nil, h => by simp at h
  | _, _, [], .cons _ _, h => by simp at h
  | _, _, k :: ks, .cons h hl, e => by
    rw [List.map_cons, List.map_cons] at e
    injection e with e1 e2
    cases e1
    rw [List.map_cons, List.map_cons, hl.keys e2]
end
def kDix (x y : PyData) (Q : PyData → Prop) : Prop := match x, y with
  | .dict kvs, .int i => ∃ d, dGet kvs i = some d ∧ Q d
  | _, _ => False
def kDin (neg : Bool) (x y : PyData) (Q : PyData → Prop) : Prop := match x, y with
  | .int i, .dict kvs => Q (.bool (if neg then !(dGet kvs i).isSome else (dGet kvs i).isSome))
  | _, _ => False
theorem de_dix (hu : X.A.units + 1 < cLine) (ha : DE X F a ta) (hb : DE X F b tb) (hs : NoSl b := by exact fun _ _ => rfl) : DE X F (.Subscript a b pos) (dOp kDix ta tb) :=
  pe_imp (pe_dget hu ha hb hs) fun σ H Q ⟨Hs, ρ, Q2, R, q, z⟩ => ⟨Hs, ρ, _, R, q, fun d1 ρ1 q1 v1 H1 Hs1 R1 S1 i1 => ⟨Hs1, ρ1, _, R1, q1, fun d2 ρ2 q2 v2 H2 Hs2 R2 S2 i2 => by
    have q2 : kDix d1 d2 fun d => Q2 d ρ2 := q2
    have i1 := i1.mono S2
    unfold kDix at q2
    split at q2
    · obtain ⟨d, e, q2⟩ := q2
      cases i2
      cases i1 with
      | dic h hl =>
        obtain ⟨w, ew, iw⟩ := hl.get.1 d e
        exact ⟨_, w, rfl, by rw [← ew]; exact DGet.k (k := Sum.inl _) (R2.sub _ _ h), z _ ρ2 q2 _ H2 Hs2 R2 (S1.trans S2) iw⟩
    · exact q2.elim⟩⟩
theorem cm_din (hu : X.A.units + 1 < cLine) (ha : DE X F a ta) (hb : DE X F b tb) : DC X F .In a b (dOp (kDin false) ta tb) :=
  pc_imp (pc_din hu ha hb) fun σ H Q ⟨Hs, ρ, Q2, R, q, z⟩ => ⟨Hs, ρ, _, R, q, fun d1 ρ1 q1 v1 H1 Hs1 R1 S1 i1 => ⟨Hs1, ρ1, _, R1, q1, fun d2 ρ2 q2 v2 H2 Hs2 R2 S2 i2 => by
    have q2 : kDin false d1 d2 fun d => Q2 d ρ2 := q2
    have i1 := i1.mono S2
    unfold kDin at q2
    split at q2
    · cases i1
      cases i2 with
      | dic h hl =>
        refine ⟨_, _, rfl, DGet.k (k := Sum.inl _) (R2.sub _ _ h), ?_⟩
        rw [← hl.get.2]
        exact z _ ρ2 q2 _ H2 Hs2 R2 (S1.trans S2) (.bl _)
    · exact q2.elim⟩⟩
/-- x[e], e in x, e not in x of a slot's own dict -/
def dDixN (i : Nat) (te : RE) : RE := fun ρ Q => slotD ρ i fun _ => te ρ fun y ρ1 => slotD ρ1 i fun x => kDix x y fun d => Q d ρ1
def dDinN (neg : Bool) (i : Nat) (te : RE) : RE := fun ρ Q => te ρ fun y ρ1 => slotD ρ1 i fun x => kDin neg y x fun d => Q d ρ1
theorem de_dixN (i : Nat) {x : Str} {p : Pos} (hu : X.A.units + 1 < cLine) (hb : DE X F b tb) (hN : X.N[i]? = some x := by rfl) (hv : Vis X.env.scope x := by first | exact Or.inl rfl | exact Or.inr (Or.inl rfl) | exact Or.inr (Or.inr rfl)) (hs : NoSl b := by exact fun _ _ => rfl) (hd : (x == ("__debug__" : Str)) = false := by decide)
    (hcd : (x == ("__classdict__" : Str)) = false := by decide) : DE X F (.Subscript (.Name x p) b pos) (dDixN i tb) :=
  pe_imp (pe_dget hu (pe_var hN hv hd hcd) hb hs) fun σ H Q ⟨Hs, ρ, Q2, R, q, z⟩ => by
    obtain ⟨v, _, ev, q, _⟩ := slotD_is R q
    refine ⟨v, ev, Hs, ρ, _, R, q, fun y ρ1 q1 w H1 Hs1 R1 S1 i1 => ?_⟩
    obtain ⟨v', d, ev', q1, iv⟩ := slotD_is R1 q1
    rw [ev] at ev'; cases ev'
    unfold kDix at q1
    split at q1
    · obtain ⟨d, e, q1⟩ := q1
      cases i1
      rcases iv with iv | ⟨p, rfl, iv⟩
      · cases iv with
        | dic h hl =>
          obtain ⟨w, ew, iw⟩ := hl.get.1 d e
          exact ⟨_, w, rfl, by rw [← ew]; exact DGet.k (k := Sum.inl _) (R1.sub _ _ h), z _ ρ1 q1 _ H1 Hs1 R1 S1 iw⟩
      · cases iv with
        | dic h hl =>
          obtain ⟨w, ew, iw⟩ := hl.get.1 d e
          exact ⟨_, w, rfl, by rw [← ew]; exact DGet.k (k := Sum.inl _) h, z _ ρ1 q1 _ H1 Hs1 R1 S1 iw⟩
    · exact q1.elim
theorem cm_dinN (i : Nat) {x : Str} {p : Pos} (hu : X.A.units + 1 < cLine) (hb : DE X F b tb) (hN : X.N[i]? = some x := by rfl) (hv : Vis X.env.scope x := by first | exact Or.inl rfl | exact Or.inr (Or.inl rfl) | exact Or.inr (Or.inr rfl)) (hd : (x == ("__debug__" : Str)) = false := by decide)
    (hcd : (x == ("__classdict__" : Str)) = false := by decide) : DC X F .In b (.Name x p) (dDinN false i tb) :=
  pc_imp (pc_din hu hb (pe_var hN hv hd hcd)) fun σ H Q ⟨Hs, ρ, Q2, R, q, z⟩ => ⟨Hs, ρ, _, R, q, fun y ρ1 q1 w H1 Hs1 R1 S1 i1 => by
    obtain ⟨v, d, ev, q1, iv⟩ := slotD_is R1 q1
    refine ⟨v, ev, ?_⟩
    unfold kDin at q1
    split at q1
    · cases i1
      rcases iv with iv | ⟨p, rfl, iv⟩
      · cases iv with
        | dic h hl =>
          refine ⟨_, _, rfl, DGet.k (k := Sum.inl _) (R1.sub _ _ h), ?_⟩
          rw [← hl.get.2]
          exact z _ ρ1 q1 _ H1 Hs1 R1 S1 (.bl _)
      · cases iv with
        | dic h hl =>
          refine ⟨_, _, rfl, DGet.k (k := Sum.inl _) h, ?_⟩
          rw [← hl.get.2]
          exact z _ ρ1 q1 _ H1 Hs1 R1 S1 (.bl _)
    · exact q1.elim⟩
theorem cm_dnotN (i : Nat) {x : Str} {p : Pos} (hu : X.A.units + 1 < cLine) (hb : DE X F b tb) (hN : X.N[i]? = some x := by rfl) (hv : Vis X.env.scope x := by first | exact Or.inl rfl | exact Or.inr (Or.inl rfl) | exact Or.inr (Or.inr rfl)) (hd : (x == ("__debug__" : Str)) = false := by decide)
    (hcd : (x == ("__classdict__" : Str)) = false := by decide) : DC X F .NotIn b (.Name x p) (dDinN true i tb) :=
  pc_imp (pc_dnotin hu hb (pe_var hN hv hd hcd)) fun σ H Q ⟨Hs, ρ, Q2, R, q, z⟩ => ⟨Hs, ρ, _, R, q, fun y ρ1 q1 w H1 Hs1 R1 S1 i1 => by
    obtain ⟨v, d, ev, q1, iv⟩ := slotD_is R1 q1
    refine ⟨v, ev, ?_⟩
    unfold kDin at q1
    split at q1
    · cases i1
      rcases iv with iv | ⟨p, rfl, iv⟩
      · cases iv with
        | dic h hl =>
          refine ⟨_, _, rfl, DGet.k (k := Sum.inl _) (R1.sub _ _ h), ?_⟩
          rw [← hl.get.2]
          exact z _ ρ1 q1 _ H1 Hs1 R1 S1 (.bl _)
      · cases iv with
        | dic h hl =>
          refine ⟨_, _, rfl, DGet.k (k := Sum.inl _) h, ?_⟩
          rw [← hl.get.2]
          exact z _ ρ1 q1 _ H1 Hs1 R1 S1 (.bl _)
    · exact q1.elim⟩
/-- e in x, e not in x of a slot's own list -/
def dInN (neg : Bool) (i : Nat) (te : RE) : RE := fun ρ Q => te ρ fun y ρ1 => slotD ρ1 i fun x => kIn neg y x fun d => Q d ρ1
theorem inN_core {neg : Bool} {Hs : Hp} {σ : L2.St} {H : Hp} {ρ : En} {y d : PyData} {w v : V} {Q : VK} {Q2 : PyData → Prop} (R : Rep X.K F Hs σ H ρ) (i1 : Is X.K Hs w y) (iv : Is X.K Hs v d ∨ ∃ p, v = .ref p ∧ OwnO X.K Hs H p d) (q : kIn neg y d Q2)
    (z : ∀ d, Q2 d → ∀ w H' Hs', Rep X.K F Hs' σ H' ρ → Same Hs Hs' → Is X.K Hs' w d → Q w H') : rIn X.K neg w v H Q := by
  rcases iv with iv | ⟨p, rfl, iv⟩
  · exact opD_in neg Hs σ H ρ y d w v Q Q2 R i1 iv q z
  · unfold kIn at q
    split at q
    · obtain ⟨f1, f2, q⟩ := q
      cases iv with
      | lst h hl => exact ⟨_, _, rfl, .inl (SqL.of h), i1.flat f1, hl.flat f2, by rw [inV_inD i1 f1 hl f2]; exact z _ q _ H Hs R (Same.refl _) (.bl _)⟩
    · cases iv
    · exact q.elim
theorem cm_inN (i : Nat) {x : Str} {p : Pos} (hb : DE X F b tb) (hN : X.N[i]? = some x := by rfl) (hv : Vis X.env.scope x := by first | exact Or.inl rfl | exact Or.inr (Or.inl rfl) | exact Or.inr (Or.inr rfl)) (hd : (x == ("__debug__" : Str)) = false := by decide)
    (hcd : (x == ("__classdict__" : Str)) = false := by decide) : DC X F .In b (.Name x p) (dInN false i tb) :=
  pc_imp (pc_of op_in_seq hb (pe_var hN hv hd hcd)) fun σ H Q ⟨Hs, ρ, Q2, R, q, z⟩ => ⟨Hs, ρ, _, R, q, fun y ρ1 q1 w H1 Hs1 R1 S1 i1 => by
    obtain ⟨v, d, ev, q1, iv⟩ := slotD_is R1 q1
    exact ⟨v, ev, inN_core R1 i1 iv q1 fun d qd w H' Hs' R' S' iw => z d ρ1 qd w H' Hs' R' (S1.trans S') iw⟩⟩
theorem cm_notInN (i : Nat) {x : Str} {p : Pos} (hb : DE X F b tb) (hN : X.N[i]? = some x := by rfl) (hv : Vis X.env.scope x := by first | exact Or.inl rfl | exact Or.inr (Or.inl rfl) | exact Or.inr (Or.inr rfl)) (hd : (x == ("__debug__" : Str)) = false := by decide)
    (hcd : (x == ("__classdict__" : Str)) = false := by decide) : DC X F .NotIn b (.Name x p) (dInN true i tb) :=
  pc_imp (pc_of op_notIn_seq hb (pe_var hN hv hd hcd)) fun σ H Q ⟨Hs, ρ, Q2, R, q, z⟩ => ⟨Hs, ρ, _, R, q, fun y ρ1 q1 w H1 Hs1 R1 S1 i1 => by
    obtain ⟨v, d, ev, q1, iv⟩ := slotD_is R1 q1
    exact ⟨v, ev, inN_core R1 i1 iv q1 fun d qd w H' Hs' R' S' iw => z d ρ1 qd w H' Hs' R' (S1.trans S') iw⟩⟩
/-- {} -/
theorem df_dnew : DF X F (.Dict [] [] pos) (dC (.dict [])) := pe_imp pe_dnewK fun σ H Q ⟨Hs, ρ, Q2, R, q, z⟩ => fun p hp => z _ ρ q p _ Hs (R.own hp) (Same.refl _) (R.privD hp .nil)
/-- sorted(d) -/
def kSortD : KL := fun ds Q => match ds with
  | [.dict kvs] => ∃ ks : List Int, kvs.map (·.1) = ks.map PyData.int ∧ ks.length < 64 ∧ ∀ ys : List Int, ys.Perm ks → ys.Pairwise (· ≤ ·) → Q (.list (ys.map PyData.int))
  | _ => False
theorem df_sortD (hc : X.calm = true) (hg : Gl X "sorted") (hm : X.mg "sorted" = none) (hv : bootBuiltins "sorted" = some (.builtin "sorted")) (ha : DE X F e ta) (he : starEach [e] X.env = (false, eval e X.env) :: starEach [] X.env := by rfl) :
    DF X F (.Call (.Name "sorted" p) [e] [] pos) (dCallB kSortD (dCons ta dNil)) := by
  refine df_callB (call_sortedDI hc) ?_ hg hm hv (da_cons ha da_nil he) (he := he)
  intro Hs σ H ρ ds vs Q Q2 R iv q z
  unfold kSortD at q
  split at q
  · obtain ⟨ks, ek, h64, q⟩ := q
    cases iv with
    | cons h0 hl0 =>
      cases hl0
      cases h0 with
      | dic h hl => exact ⟨_, _, ks, rfl, .inl (R.sub _ _ h), hl.keys ek, h64, fun ys p h1 h2 hp => z _ (q ys h1 h2) p _ Hs (R.own hp) (Same.refl _) (R.priv hp (IsL.of_ints ys))⟩
  · exact q.elim
end
end Yd
set_option Elab.async false
set_option linter.all false
set_option maxRecDepth 100000
set_option maxHeartbeats 2000000
/-! # enumerate and zip over lists and tuples of either kind, as the for loops of the layer take them -/
namespace Yd
open PySem PySem.Spec PyProof.Rows L2 LamX

/-! ### a list (false) or a tuple (true) -/
def sq (k : Bool) (xs : List V) : HO := if k = true then .tup xs else .lst xs
def SeqOk (k : Bool) (h : Heap) (a : Addr) (items : Array Value) : Prop := if k = true then h.IsTuple a items else h.IsList a items
def IterOk (k : Bool) (h : Heap) (it a : Addr) (i : Nat) : Prop := if k = true then h.IsTupleIter it a i else h.IsListIter it a i
theorem draws_sq {prog : Program} {w : World} {A : Around} (k : Bool) (hh : A.handled = none) (it a : Addr) (hne : a ≠ it) (items : Array Value) :
    Draws prog w A it [it, a] items.size (fun i v => items[i]? = some v) (fun i h => IterOk k h it a i ∧ SeqOk k h a items) := by
  cases k with
  | true => exact Draws.tuple hh it a hne items
  | false => exact Draws.list hh it a hne items
theorem sq_inj {k : Bool} {xs ys : List V} (h : sq k xs = sq k ys) : xs = ys := by
  cases k with
  | true => exact HO.tup.inj h
  | false => exact HO.lst.inj h
def objIt (k : Bool) (a : Addr) : Obj := if k = true then { cls := .type "tuple_iterator", data := .fields #[.ref a, .int 0 0] } else { cls := .type "list_iterator", data := .fields #[.ref a, .int 0 0] }
theorem begins_sq (k : Bool) (a : Addr) (items : Array Value) : Begins (.ref a) (objIt k a) fun h => SeqOk k h a items := by
  cases k with
  | true => exact begins_tuple a items
  | false => exact begins_list a items
theorem iter_new {k : Bool} {h : Heap} {it a : Addr} (e : h.get? it = some (objIt k a)) : IterOk k h it a 0 := by
  cases k with
  | true => exact ⟨_, e, rfl, rfl⟩
  | false => exact ⟨_, e, rfl, rfl⟩
theorem iter_at {k : Bool} {h h' : Heap} {it a : Addr} {i : Nat} (x : IterOk k h it a i) (e : ∀ o, h.get? it = some o → h'.get? it = some o) : IterOk k h' it a i := by
  cases k with
  | true => exact Heap.IsTupleIter.at (show h.IsTupleIter it a i from x) e
  | false => exact Heap.IsListIter.at (show h.IsListIter it a i from x) e
theorem iter_obj {k : Bool} {h : Heap} {it a : Addr} {i : Nat} (x : IterOk k h it a i) : ∃ o, h.get? it = some o ∧ ∀ v, o.data ≠ .cell v := by
  cases k with
  | true =>
    obtain ⟨o, e, c, d⟩ := (show h.IsTupleIter it a i from x)
    exact ⟨o, e, fun v z => by rw [d] at z; cases z⟩
  | false =>
    obtain ⟨o, e, c, d⟩ := (show h.IsListIter it a i from x)
    exact ⟨o, e, fun v z => by rw [d] at z; cases z⟩
section
variable {X : Cx} {pins : List (Addr × Obj)} {σ : L2.St} {H : Hp} {s : Shared} {a : Addr} {xs : List V} {k : Bool}
theorem inv_sq (I : Inv X pins σ H s) (h : H a = some (sq k xs)) : ∃ its : List Value, Vals xs its ∧ SeqOk k s.heap a its.toArray ∧ xs.length ≤ sizeLine := by
  cases k with
  | true =>
    obtain ⟨its, r, p, z⟩ := I.tuple (SqT.of (show H a = some (.tup xs) from h))
    exact ⟨its, r, p, z⟩
  | false =>
    obtain ⟨its, r, p, z⟩ := I.list (SqL.of (show H a = some (.lst xs) from h))
    exact ⟨its, r, p.isList, z⟩
end
/-- enumerate(v), one argument: its two new cells -/
theorem enum_new1 {v : Value} {o : Obj} {H : Heap → Prop} (B : Begins v o H) :
    Meets (Builtin.«enumerate.__new__» ⟨[.type "enumerate", v], []⟩) (fun _ R s => H s.heap ∧
      R (.ok (.ret (.ref (s.heap.push o).objs.size))) { s with heap := (s.heap.push o).push { cls := .type "enumerate", data := .fields #[.none, .bool false, .ref s.heap.objs.size, rawInt 0, .none, .none] } }) :=
  .of_wp fun prog w A R s hw => by
    obtain ⟨hp, gg, dd, tk, os⟩ := s
    obtain ⟨hb, hr⟩ := hw
    have hsub := sub_enumerate
    have step : ∀ {A' : Around} {E : Value → Shared → Prop} {Q : Value → Shared → Prop}, Q (.ref hp.objs.size) ⟨hp.push o, gg, dd, tk, os⟩ → wpAny (model prog w) A' (pyIter v) Q E ⟨hp, gg, dd, tk, os⟩ :=
      fun q => B.iter prog w _ _ ⟨hp, gg, dd, tk, os⟩ _ hb q
    wp_walk using step
    refine wpAny_stack_any fun st => wpAny_pure ?_
    split
    · rename_i c _ _ _ _ _
      cases (c == Value.type "enumerate")
      · wp_walk using step
        exact ⟨_, rfl, hr⟩
      · wp_walk using step
        exact ⟨_, rfl, hr⟩
    · wp_walk using step
      exact ⟨_, rfl, hr⟩
section
variable {prog : Program} {w : World} {A : Around} {E : Value → Shared → Prop} {s : Shared}
theorem call_enum1 {v : Value} {o : Obj} {H : Heap → Prop} {Q : Value → Shared → Prop} (B : Begins v o H) (hb : H s.heap)
    (hq : ∀ h', IsEnum h' (s.heap.objs.size + 1) s.heap.objs.size 0 .none → h'.get? s.heap.objs.size = some o → (∀ b ob, s.heap.get? b = some ob → h'.get? b = some ob) → Q (.ref (s.heap.objs.size + 1)) { s with heap := h' }) :
    wpAny (model prog w) A (call (.type "enumerate") [v]) Q E s := by
  refine callType_new F.called_enumerate (by decide) (F.typeCall_enumerate_1 _) (F.newCall_enumerate_1 _) (fun obj => F.args_object_init_2 obj _) F.entry_enumerate_new (enum_new1 B) ⟨hb, ?_⟩
  have size1 : (s.heap.push o).objs.size = s.heap.objs.size + 1 := Heap.size_push ..
  have isE : IsEnum ((s.heap.push o).push { cls := .type "enumerate", data := .fields #[.none, .bool false, .ref s.heap.objs.size, rawInt 0, .none, .none] }) (s.heap.objs.size + 1) s.heap.objs.size 0 .none := by
    have e0 := Heap.get?_push_size (s.heap.push o) (o := { cls := .type "enumerate", data := .fields #[.none, .bool false, .ref s.heap.objs.size, rawInt 0, .none, .none] }) rfl
    rw [size1] at e0
    exact e0
  show _ ∧ _
  rw [size1]
  exact ⟨⟨_, isE, rfl⟩, hq _ isE (Heap.get?_push_of_some _ (Heap.get?_push_size _ B.free)) fun b ob e => Heap.get?_push_of_some _ (Heap.get?_push_of_some _ e)⟩
end

/-- enumerate over the list or tuple at a -/
def ItE (k : Bool) (a : Addr) : It :=
  ⟨fun i H => ∃ (xs : List V) (x : V), H a = some (sq k xs) ∧ xs[i]? = some x,
    fun i H v H' => ∃ T x, v = .ref T ∧ H T = none ∧ H' = upd H T (.tup [.int (i : Nat), x]) ∧ ∀ xs, H a = some (sq k xs) → xs[i]? = some x,
    fun i H => ∃ xs : List V, H a = some (sq k xs) ∧ xs.length = i⟩
theorem turn_enumK {P : Program} {w : World} {K : PySem.W.Frag} {elts : List Expr} {kk : Nat} {tpos : Pos} (k : Bool) (a e it : Addr) (hne : e ≠ it) :
    Turn P w K (.Tuple elts kk tpos) (ItE k a) [e, it] e (fun i h => (∃ old, IsEnum h e it (0 + ((i : Nat) : Int)) old) ∧ IterOk k h it a i) where
  mem := by simp
  obj := fun i h st b hb => by
    obtain ⟨⟨old, he⟩, hi⟩ := st
    have cases2 : b = e ∨ b = it := by simpa using hb
    rcases cases2 with z | z
    · rw [z]; exact ⟨_, he, fun v q => nomatch q⟩
    · rw [z]; exact iter_obj hi
  keep := fun i h h' st kp => let ⟨⟨old, he⟩, hi⟩ := st; ⟨⟨old, kp e (by simp) _ he⟩, iter_at hi fun o q => kp it (by simp) o q⟩
  item := by
    intro X hP hw hK hc i pins s σ H E I hf st hg
    subst hP hw hK
    obtain ⟨xs, x, hq, hx⟩ := hg
    obtain ⟨its, rv, p, hz⟩ := inv_sq I hq
    obtain ⟨u, hu, ru⟩ := rv.get hx
    have ane : ∀ b ∈ ([e, it] : List Addr), a ≠ b := fun b hb z => by
      have q := (hf b hb).1
      rw [← z, hq] at q
      cases q
    have hi : i < its.toArray.size := by
      have q := (List.getElem?_eq_some_iff.mp hu).1
      simpa using q
    have W := GoesN.enumFrom (prog := X.prog) (w := X.w) (A := X.A) (elts := elts) (x1 := kk) (pos := tpos) 0 (draws_sq (A := X.A.in1) k (I.ok.hd hc) it a (ane it (by simp)) its.toArray) e hne (by
      have q := ane e (by simp)
      simp [hne, Ne.symm q]) (by simp)
    refine W.goes i s _ E hi ⟨st.1, st.2, p⟩ fun v h' tk hy st' kp _ => ?_
    obtain ⟨T, t, x', rfl, hT, hx', hTup⟩ := hy
    have ex : x' = u := by
      have q : its.toArray[i]? = some u := by simpa using hu
      rw [q] at hx'
      exact (Option.some.inj hx').symm
    subst ex
    have new : ObjOk X.prog X.w (upd H T (.tup [.int (i : Nat), x])) h' T (.tup [.int (i : Nat), x]) :=
      ⟨by show 2 ≤ sizeLine; decide, [.int (0 + ((i : Nat) : Int)) t, x'], .cons ⟨t, by rw [Int.zero_add]⟩ (.cons ru .nil), hTup⟩
    have I1 := I.turnedNew (t' := tk) (ch := [e, it]) (fun b ob hb q => kp b ob hb q) hf hT new
    refine ⟨.ref T, _, I1, rfl, ⟨T, x, rfl, I.hok.fresh hT, rfl, fun ys hy => ?_⟩, ⟨st'.1, st'.2.1⟩, fun b hb => ?_⟩
    · rw [hq] at hy
      rw [← sq_inj (Option.some.inj hy)]
      exact hx
    · have lt : b < s.heap.objs.size := by
        have cases2 : b = e ∨ b = it := by simpa using hb
        rcases cases2 with z | z
        · obtain ⟨old, he⟩ := st.1
          rw [z]; exact Heap.lt_size he
        · obtain ⟨o, eo, _⟩ := iter_obj st.2
          rw [z]; exact Heap.lt_size eo
      rw [upd_ne (Nat.ne_of_lt (Nat.lt_of_lt_of_le lt hT))]
      exact (hf b hb).1
  done := by
    intro X hP hw hK hc i pins s σ H E I hf st hg
    subst hP hw hK
    obtain ⟨xs, hq, hx⟩ := hg
    obtain ⟨its, rv, p, hz⟩ := inv_sq I hq
    obtain ⟨⟨old, he⟩, hi⟩ := st
    obtain ⟨f0, f1, f2, f3, f4, f5⟩ := hf it (by simp)
    have hl : its.toArray.size = i := by
      have q := rv.length
      simp only [List.size_toArray]
      omega
    refine wpAny_pyNext_enum_endD (draws_sq (A := X.A.in1) k (I.ok.hd hc) it a (fun z => by rw [← z, hq] at f0; cases f0) its.toArray) he ?_ fun h' eb => ⟨rfl, I.turned (t' := s.toks) (fun b o hb q => eb b o hb q) f0 f1 f3 f4 f5⟩
    rw [hl]
    exact ⟨hi, p⟩
  self := fun A i s Q E st h => let ⟨⟨_, he⟩, _⟩ := st; wpAny_pyIter_enum he h

def iEnumK (k : Bool) (ta : TA) : TI := fun σ H R => ta σ H fun vs H1 => ∃ a xs, vs = [.ref a] ∧ H1 a = some (sq k xs) ∧ R (ItE k a) H1
theorem pi_enumK {X : Cx} (k : Bool) {e : Expr} {ta : TA} {p pos tpos : Pos} {elts : List Expr} {kk : Nat} (hg : Gl X "enumerate") (hm : X.mg "enumerate" = none) (ha : PA X [e] ta) (hs : starEach [e] X.env = [(false, eval e X.env)] := by rfl) :
    PI X (.Tuple elts kk tpos) (.Call (.Name "enumerate" p) [e] [] pos) (iEnumK k ta) := by
  refine ⟨fun pins s σ H R I h => ?_⟩
  refine Call_ (ld_blt I hg hm boot_enumerate (PyProof.Rows.callWith_type1 (thn (ha.run pos pins s σ H _ I h) fun us s1 ⟨vs, H1, I1, r1, q1⟩ => ?_) hs rfl))
  obtain ⟨a, xs, ex, hq, q⟩ := q1
  subst ex
  obtain ⟨u, rfl, ru⟩ := vals1 r1
  cases ru
  obtain ⟨its, rv, p', hz⟩ := inv_sq I1 hq
  refine call_enum1 (begins_sq k a its.toArray) p' fun h' he hit hk => wpAny_pyIter_enum he ?_
  have I2 : Inv X pins σ H1 { s1 with heap := h' } := I1.kept (t' := s1.toks) hk
  refine ⟨s1.heap.objs.size + 1, [s1.heap.objs.size + 1, s1.heap.objs.size], _, _, H1, rfl, I2, turn_enumK k a (s1.heap.objs.size + 1) s1.heap.objs.size (Nat.succ_ne_self _), ⟨⟨.none, he⟩, iter_new hit⟩, fun b hb => ?_, q⟩
  have cases2 : b = s1.heap.objs.size + 1 ∨ b = s1.heap.objs.size := by simpa using hb
  have hle : s1.heap.objs.size ≤ b := by
    rcases cases2 with z | z
    · rw [z]; exact Nat.le_succ _
    · rw [z]; exact Nat.le_refl _
  exact I1.fpOk hle (I1.hok.fresh hle)

/-- zip over two lists or tuples -/
def ItZ (k l : Bool) (a b : Addr) : It :=
  ⟨fun i H => ∃ (xs ys : List V) (x y : V), H a = some (sq k xs) ∧ H b = some (sq l ys) ∧ xs[i]? = some x ∧ ys[i]? = some y,
    fun i H v H' => ∃ T x y, v = .ref T ∧ H T = none ∧ H' = upd H T (.tup [x, y]) ∧ (∀ xs, H a = some (sq k xs) → xs[i]? = some x) ∧ ∀ ys, H b = some (sq l ys) → ys[i]? = some y,
    fun i H => ∃ xs ys : List V, H a = some (sq k xs) ∧ H b = some (sq l ys) ∧ min xs.length ys.length = i⟩
theorem nat_ne {a b : Nat} (h : a ≠ b) : @Ne Addr a b := h
theorem nin {a b c : Addr} (h1 : c ≠ a) (h2 : c ≠ b) : c ∉ [a, b] := fun z => by
  rcases List.mem_cons.mp z with z | z
  · exact h1 z
  · exact h2 (List.mem_singleton.mp z)
theorem zsep {a b N : Addr} (a0 : a ≠ N + 4) (a1 : a ≠ N + 3) (a2 : a ≠ N + 1) (b0 : b ≠ N + 4) (b1 : b ≠ N + 3) (b2 : b ≠ N) : ZipSep2 (N + 4) (N + 2) (N + 3) N (N + 1) [N, a] [N + 1, b] :=
  ⟨nat_ne (by omega), nat_ne (by omega), nat_ne (by omega), nat_ne (by omega), by simp, nin (nat_ne (by omega)) a0.symm, nin (nat_ne (by omega)) a1.symm, nat_ne (by omega), by simp, nin (nat_ne (by omega)) b0.symm, nin (nat_ne (by omega)) b1.symm,
    nin (nat_ne (by omega)) b2.symm, nin (nat_ne (by omega)) a2.symm⟩
theorem wr4 {N c : Addr} (h : c ∈ [N + 4, N + 3, N, N + 1]) : c ∈ [N + 4, N + 2, N + 3, N, N + 1] := by
  simp only [List.mem_cons, List.not_mem_nil, or_false] at h ⊢
  rcases h with h | h | h | h <;> simp [h]
theorem turn_zipK {P : Program} {w : World} {K : PySem.W.Frag} {elts : List Expr} {kk : Nat} {tpos : Pos} (k l : Bool) (a b N : Addr) :
    Turn P w K (.Tuple elts kk tpos) (ItZ k l a b) [N + 4, N + 2, N + 3, N, N + 1] (N + 4)
      (fun i h => IsZip h (N + 4) (N + 2) (N + 3) .none ∧ IsTupOf2 h (N + 2) (.ref N) (.ref (N + 1)) ∧ (∃ a1 a2, IsTupOf2 h (N + 3) a1 a2) ∧ IterOk k h N a i ∧ IterOk l h (N + 1) b i) where
  mem := by simp
  obj := fun i h st c hc => by
    obtain ⟨hz, hTI, ⟨x, y, hTO⟩, h1, h2⟩ := st
    have cases5 : c = N + 4 ∨ c = N + 2 ∨ c = N + 3 ∨ c = N ∨ c = N + 1 := by simpa using hc
    rcases cases5 with q | q | q | q | q
    · rw [q]; exact ⟨_, hz, fun v q => nomatch q⟩
    · rw [q]; exact ⟨_, hTI, fun v q => nomatch q⟩
    · rw [q]; exact ⟨_, hTO, fun v q => nomatch q⟩
    · rw [q]; exact iter_obj h1
    · rw [q]; exact iter_obj h2
  keep := fun i h h' st kp => by
    obtain ⟨hz, hTI, ⟨x, y, hTO⟩, h1, h2⟩ := st
    exact ⟨kp (N + 4) (by simp) _ hz, kp (N + 2) (by simp) _ hTI, ⟨x, y, kp (N + 3) (by simp) _ hTO⟩, iter_at h1 fun o q => kp N (by simp) o q, iter_at h2 fun o q => kp (N + 1) (by simp) o q⟩
  item := by
    intro X hP hw hK hc i pins s σ H E I hf st hg
    subst hP hw hK
    obtain ⟨xs, ys, x, y, hqx, hqy, hx, hy⟩ := hg
    obtain ⟨its, rv, p, hz⟩ := inv_sq I hqx
    obtain ⟨its2, rv2, p2, hz2⟩ := inv_sq I hqy
    obtain ⟨u, hu, ru⟩ := rv.get hx
    obtain ⟨u2, hu2, ru2⟩ := rv2.get hy
    have ane : ∀ c ∈ ([N + 4, N + 2, N + 3, N, N + 1] : List Addr), a ≠ c := fun c hb z => by
      have q := (hf c hb).1
      rw [← z, hqx] at q
      cases q
    have bne : ∀ c ∈ ([N + 4, N + 2, N + 3, N, N + 1] : List Addr), b ≠ c := fun c hb z => by
      have q := (hf c hb).1
      rw [← z, hqy] at q
      cases q
    have i1 : i < its.toArray.size := by
      have q := (List.getElem?_eq_some_iff.mp hu).1
      simpa using q
    have i2 : i < its2.toArray.size := by
      have q := (List.getElem?_eq_some_iff.mp hu2).1
      simpa using q
    have a0 := ane (N + 4) (by simp)
    have a1 := ane (N + 3) (by simp)
    have a2 := ane (N + 1) (by simp)
    have a3 := ane N (by simp)
    have b0 := bne (N + 4) (by simp)
    have b1 := bne (N + 3) (by simp)
    have b2 := bne N (by simp)
    have b3 := bne (N + 1) (by simp)
    have S : ZipSep2 (N + 4) (N + 2) (N + 3) N (N + 1) [N, a] [N + 1, b] := zsep a0 a1 a2 b0 b1 b2
    have W := GoesN.zip2 (prog := X.prog) (w := X.w) (A := X.A) (elts := elts) (x1 := kk) (pos := tpos) S (draws_sq (A := X.A.in1) k (I.ok.hd hc) N a a3 its.toArray) (draws_sq (A := X.A.in1) l (I.ok.hd hc) (N + 1) b b3 its2.toArray)
    obtain ⟨sz, sTI, sTO, s1, s2⟩ := st
    refine W.goes i s _ E (by omega) ⟨sz, sTI, sTO, ⟨s1, p⟩, ⟨s2, p2⟩⟩ fun v h' tk hy st' kp _ => ?_
    obtain ⟨T, x', y', rfl, hT, hx', hy', hTup⟩ := hy
    have ex : x' = u := by
      have q : its.toArray[i]? = some u := by simpa using hu
      rw [q] at hx'
      exact (Option.some.inj hx').symm
    have ey : y' = u2 := by
      have q : its2.toArray[i]? = some u2 := by simpa using hu2
      rw [q] at hy'
      exact (Option.some.inj hy').symm
    subst ex ey
    have new : ObjOk X.prog X.w (upd H T (.tup [x, y])) h' T (.tup [x, y]) :=
      ⟨by show 2 ≤ sizeLine; decide, [x', y'], .cons ru (.cons ru2 .nil), hTup⟩
    have I1 := I.turnedNew (t' := tk) (ch := [N + 4, N + 3, N, N + 1]) (fun b ob hb q => kp b ob hb q) (fun b hb => hf b (wr4 hb)) hT new
    refine ⟨.ref T, _, I1, rfl, ⟨T, x, y, rfl, I.hok.fresh hT, rfl, fun l hl => ?_, fun l hl => ?_⟩, ⟨st'.1, st'.2.1, st'.2.2.1, st'.2.2.2.1.1, st'.2.2.2.2.1⟩, fun c hb => ?_⟩
    · rw [hqx] at hl
      rw [← sq_inj (Option.some.inj hl)]
      exact hx
    · rw [hqy] at hl
      rw [← sq_inj (Option.some.inj hl)]
      exact hy
    · have lt : c < s.heap.objs.size := by
        have cases5 : c = N + 4 ∨ c = N + 2 ∨ c = N + 3 ∨ c = N ∨ c = N + 1 := by simpa using hb
        obtain ⟨q1, q2, q3⟩ := sTO
        obtain ⟨o1, e1, _⟩ := iter_obj s1
        obtain ⟨o2, e2, _⟩ := iter_obj s2
        have z1 := Heap.lt_size sz
        have z2 := Heap.lt_size sTI
        have z3 := Heap.lt_size q3
        have z4 := Heap.lt_size e1
        have z5 := Heap.lt_size e2
        rcases cases5 with q | q | q | q | q <;> (rw [q]; assumption)
      rw [upd_ne (Nat.ne_of_lt (Nat.lt_of_lt_of_le lt hT))]
      exact (hf c hb).1
  done := by
    intro X hP hw hK hc i pins s σ H E I hf st hg
    subst hP hw hK
    obtain ⟨xs, ys, hqx, hqy, hend⟩ := hg
    obtain ⟨its, rv, p, hz⟩ := inv_sq I hqx
    obtain ⟨its2, rv2, p2, hz2⟩ := inv_sq I hqy
    have ane : ∀ c ∈ ([N + 4, N + 2, N + 3, N, N + 1] : List Addr), a ≠ c := fun c hb z => by
      have q := (hf c hb).1
      rw [← z, hqx] at q
      cases q
    have bne : ∀ c ∈ ([N + 4, N + 2, N + 3, N, N + 1] : List Addr), b ≠ c := fun c hb z => by
      have q := (hf c hb).1
      rw [← z, hqy] at q
      cases q
    have a0 := ane (N + 4) (by simp)
    have a1 := ane (N + 3) (by simp)
    have a2 := ane (N + 1) (by simp)
    have a3 := ane N (by simp)
    have b0 := bne (N + 4) (by simp)
    have b1 := bne (N + 3) (by simp)
    have b2 := bne N (by simp)
    have b3 := bne (N + 1) (by simp)
    have S : ZipSep2 (N + 4) (N + 2) (N + 3) N (N + 1) [N, a] [N + 1, b] := zsep a0 a1 a2 b0 b1 b2
    have W := GoesN.zip2 (prog := X.prog) (w := X.w) (A := X.A) (elts := elts) (x1 := kk) (pos := tpos) S (draws_sq (A := X.A.in1) k (I.ok.hd hc) N a a3 its.toArray) (draws_sq (A := X.A.in1) l (I.ok.hd hc) (N + 1) b b3 its2.toArray)
    obtain ⟨sz, sTI, sTO, s1, s2⟩ := st
    have en : min its.toArray.size its2.toArray.size = i := by
      have q1 := rv.length
      have q2 := rv2.length
      simp only [List.size_toArray]
      omega
    refine W.stops s (fun s1 => Inv X pins σ H s1) E (by rw [en]; exact ⟨sz, sTI, sTO, ⟨s1, p⟩, ⟨s2, p2⟩⟩) fun h' tk kp _ => ?_
    exact I.turnedL (t' := tk) (ch := [N + 4, N + 3, N, N + 1]) (fun c o hb q => kp c o hb q) (fun c hb => hf c (wr4 hb))
  self := fun A i s Q E st h => wpAny_pyIter_zip st.1 h
def iZipK (k l : Bool) (ta : TA) : TI := fun σ H R => ta σ H fun vs H1 => ∃ a b xs ys, vs = [.ref a, .ref b] ∧ H1 a = some (sq k xs) ∧ H1 b = some (sq l ys) ∧ R (ItZ k l a b) H1
theorem pi_zipK {X : Cx} (k l : Bool) {e e2 : Expr} {ta : TA} {p pos tpos : Pos} {elts : List Expr} {kk : Nat} (hg : Gl X "zip") (hm : X.mg "zip" = none) (ha : PA X [e, e2] ta)
    (hs : starEach [e, e2] X.env = (false, eval e X.env) :: starEach [e2] X.env := by rfl) (hpl : (backTo pos (starEach [e2] X.env)).any (·.1) = false := by rfl) :
    PI X (.Tuple elts kk tpos) (.Call (.Name "zip" p) [e, e2] [] pos) (iZipK k l ta) := by
  refine ⟨fun pins s σ H R I h => ?_⟩
  refine Call_ (ld_blt I hg hm PyProof.Rows.boot_zip (PyProof.Rows.callWith_type1 (thn (ha.run pos pins s σ H _ I h) fun us s1 ⟨vs, H1, I1, r1, q1⟩ => ?_) hs hpl))
  obtain ⟨a, b, xs, ys, ex, hqx, hqy, q⟩ := q1
  subst ex
  obtain ⟨u1, u2, rfl, ru, rw'⟩ := vals2 r1
  cases ru
  cases rw'
  obtain ⟨its, rv, p1, hz⟩ := inv_sq I1 hqx
  obtain ⟨its2, rv2, p2, hz2⟩ := inv_sq I1 hqy
  refine zip_begins2 (begins_sq k a its.toArray) (begins_sq l b its2.toArray) p1 p2 fun h' hz hTI hTO h1 h2 hsz hk => wpAny_pyIter_zip hz ?_
  have I2 : Inv X pins σ H1 { s1 with heap := h' } := I1.kept (t' := s1.toks) hk
  refine ⟨s1.heap.objs.size + 4, _, _, _, H1, rfl, I2, turn_zipK k l a b s1.heap.objs.size, ⟨hz, hTI, ⟨_, _, hTO⟩, iter_new h1, iter_new h2⟩, fun c hcm => ?_, q⟩
  have hle : s1.heap.objs.size ≤ c := by
    simp only [List.mem_cons, List.not_mem_nil, or_false] at hcm
    rcases hcm with z | z | z | z | z <;> (rw [z]; first | exact Nat.le_refl _ | exact Nat.le_add_right _ _)
  exact I1.fpOk hle (I1.hok.fresh hle)
end Yd
set_option Elab.async false
set_option linter.all false
set_option maxRecDepth 100000
set_option maxHeartbeats 1000000
/-! # The plain-data layer: statements and loops -/
namespace Yd
open PySem PySem.Spec PyProof.Rows L2 LamX

/-- the package's errors: which one, and what its one attribute holds -/
inductive EK where
  | units | world | index | param | norow | great
  deriving DecidableEq
def EK.field : EK → Str
  | .world => "place"
  | .great => "most"
  | _ => "value"
abbrev Ex := EK × PyData
inductive ExIs (K : PySem.W.Frag) (ct : EK → Addr) (Hs H : Hp) : Value → Option Addr → Ex → Prop
  | no {d : Option Addr} : ExIs K ct Hs H (.ref (ct .norow)) d (.norow, .none)
  | val {k : EK} {dd : Addr} {v : V} {x : PyData} (hk : k ≠ .norow) (hd : H dd = some (.xd [(k.field, v)])) (hv : Is K Hs v x) : ExIs K ct Hs H (.ref (ct k)) (some dd) (k, x)
theorem ExIs.grow {K : PySem.W.Frag} {ct : EK → Addr} {Hs H Hs' H' : Hp} {c : Value} {d : Option Addr} {x : Ex} (h : ExIs K ct Hs H c d x) (e : ExtN H H') (g : Same Hs Hs') : ExIs K ct Hs' H' c d x := by
  cases h with
  | no => exact .no
  | val hk hd hv => exact .val hk (e _ _ hd (fun _ z => nomatch z)) (hv.mono g)

structure Ends2 where
  nx : En → Prop
  rt : PyData → En → Prop
  bk : En → Prop := fun _ => False
  ct : En → Prop := fun _ => False
  ex : Ex → En → Prop := fun _ _ => False
abbrev RS := Ends2 → En → Prop

structure EndsOk (X : Cx) (ck : EK → Addr) (F : Fm) (W : WX) (Hs : Hp) (K : Ends2) (D : Ends) : Prop where
  nx : ∀ ρ', K.nx ρ' → ∀ σ' H' Hs', Rep X.K F Hs' σ' H' ρ' → Same Hs Hs' → D.nx σ' H'
  rt : ∀ d ρ', K.rt d ρ' → ∀ v σ' H' Hs', Rep X.K F Hs' σ' H' ρ' → Same Hs Hs' → Is X.K Hs' v d → D.rt v H'
  bk : ∀ ρ', K.bk ρ' → ∀ σ' H' Hs', Rep X.K F Hs' σ' H' ρ' → Same Hs Hs' → D.bk σ' H'
  ct : ∀ ρ', K.ct ρ' → ∀ σ' H' Hs', Rep X.K F Hs' σ' H' ρ' → Same Hs Hs' → D.ct σ' H'
  ex : ∀ x ρ', K.ex x ρ' → ∀ cls d σ' H' Hs', Rep X.K F Hs' σ' H' ρ' → Same Hs Hs' → ExIs X.K ck Hs' H' cls d x → W cls d σ' H'
theorem EndsOk.mono {X : Cx} {ct : EK → Addr} {F : Fm} {W : WX} {Hs Hs' : Hp} {K : Ends2} {D : Ends} (h : EndsOk X ct F W Hs K D) (e : Same Hs Hs') : EndsOk X ct F W Hs' K D :=
  ⟨fun ρ q σ H H2 R S => h.nx ρ q σ H H2 R (e.trans S), fun d ρ q v σ H H2 R S => h.rt d ρ q v σ H H2 R (e.trans S), fun ρ q σ H H2 R S => h.bk ρ q σ H H2 R (e.trans S), fun ρ q σ H H2 R S => h.ct ρ q σ H H2 R (e.trans S),
    fun x ρ q c d σ H H2 R S => h.ex x ρ q c d σ H H2 R (e.trans S)⟩

def liftS (X : Cx) (ct : EK → Addr) (F : Fm) (W : WX) (t : RS) : TS := fun D σ H => ∃ Hs ρ K, Rep X.K F Hs σ H ρ ∧ t K ρ ∧ EndsOk X ct F W Hs K D
def DS (X : Cx) (ct : EK → Addr) (F : Fm) (W : WX) (st : Stmt) (t : RS) : Prop := PS X st (liftS X ct F W t)
def DSs (X : Cx) (ct : EK → Addr) (F : Fm) (W : WX) (st : List Stmt) (t : RS) : Prop := PSs X st (liftS X ct F W t)

section
variable {X : Cx} {ct : EK → Addr} {F : Fm} {W : WX} {st : Stmt} {rest : List Stmt} {t u : RS} {e a b c : Expr} {ta tb tc : RE} {tx : RT} {pos : Pos} {es : List Expr}

/-! ## blocks -/
def dNext : RS := fun K ρ => K.nx ρ
def dSeq (t u : RS) : RS := fun K ρ => t { K with nx := u K } ρ
theorem dss_nil : DSs X ct F W [] dNext := pss_imp pss_nil fun D σ H ⟨Hs, ρ, K, R, q, ok⟩ => ok.nx ρ q σ H Hs R (Same.refl _)
theorem dss_cons (h1 : DS X ct F W st t) (h2 : DSs X ct F W rest u) : DSs X ct F W (st :: rest) (dSeq t u) := pss_imp (pss_cons h1 h2) fun D σ H ⟨Hs, ρ, K, R, q, ok⟩ =>
  ⟨Hs, ρ, _, R, q, ⟨fun ρ' q' σ' H' Hs' R' S' => ⟨Hs', ρ', K, R', q', ok.mono S'⟩, ok.rt, ok.bk, ok.ct, ok.ex⟩⟩
theorem dss_one (h1 : DS X ct F W st t) : DSs X ct F W [st] t := pss_one h1
theorem ds_pass : DS X ct F W (.Pass pos) dNext := ps_imp ps_pass fun D σ H ⟨Hs, ρ, K, R, q, ok⟩ => ok.nx ρ q σ H Hs R (Same.refl _)
def dDrop (t : RE) : RS := fun K ρ => t ρ fun _ ρ' => K.nx ρ'
theorem ds_expr (h : DE X F e ta) (hs : swapsWith e none pos.line X.env = pure false := by rfl) : DS X ct F W (.Expr e pos) (dDrop ta) :=
  ps_imp (ps_expr h hs) fun D σ H ⟨Hs, ρ, K, R, q, ok⟩ => ⟨Hs, ρ, _, R, q, fun d ρ1 q1 v H1 Hs1 R1 S1 i1 => ok.nx ρ1 q1 σ H1 Hs1 R1 S1⟩
def dRet (t : RE) : RS := fun K ρ => t ρ fun d ρ' => K.rt d ρ'
theorem ds_ret (h : DE X F e ta) : DS X ct F W (.Return (some e) pos) (dRet ta) :=
  ps_imp (ps_ret h) fun D σ H ⟨Hs, ρ, K, R, q, ok⟩ => ⟨Hs, ρ, _, R, q, fun d ρ1 q1 v H1 Hs1 R1 S1 i1 => ok.rt d ρ1 q1 v σ H1 Hs1 R1 S1 i1⟩
def dIfS (c : RT) (t u : RS) : RS := fun K ρ => c ρ fun b ρ1 => if b = true then t K ρ1 else u K ρ1
theorem ds_if {sa sb : List Stmt} (hc : DT X F c tx) (ha : DSs X ct F W sa t) (hb : DSs X ct F W sb u) : DS X ct F W (.If c sa sb pos) (dIfS tx t u) :=
  ps_imp (ps_if hc ha hb) fun D σ H ⟨Hs, ρ, K, R, q, ok⟩ => ⟨Hs, ρ, _, R, q, fun b ρ1 q1 H1 Hs1 R1 S1 => by
    cases b with
    | true => exact ⟨Hs1, ρ1, K, R1, q1, ok.mono S1⟩
    | false => exact ⟨Hs1, ρ1, K, R1, q1, ok.mono S1⟩⟩
/-- name = e -/
def dSet (i : Nat) (t : RE) : RS := fun K ρ => t ρ fun d ρ' => K.nx (ρ'.put i (.s d))
def dSetO (i : Nat) (t : RE) : RS := fun K ρ => t ρ fun d ρ' => K.nx (ρ'.put i (.o d))
theorem ds_set {i : Nat} {x : Str} {p : Pos} (hN : X.N.Nodup) (hi : X.N[i]? = some x) (hx : Loc X.env.scope x) (he : DE X F e ta) (hs : swapsWith e (some (.Name x p)) pos.line X.env = pure false := by rfl) (hf : X.fn x = true ∨ X.env.scope.names.lookup x = some .local := by first | exact .inl rfl | exact .inr rfl | assumption) :
    DS X ct F W (.Assign [.Name x p] e pos) (dSet i ta) :=
  ps_imp (ps_set hN hi hx he hs hf) fun D σ H ⟨Hs, ρ, K, R, q, ok⟩ => ⟨Hs, ρ, _, R, q, fun d ρ1 q1 v H1 Hs1 R1 S1 i1 => ok.nx _ q1 _ H1 Hs1 (R1.setS i i1) S1⟩
theorem ds_setO {i : Nat} {x : Str} {p : Pos} (hN : X.N.Nodup) (hi : X.N[i]? = some x) (hx : Loc X.env.scope x) (he : DF X F e ta) (hs : swapsWith e (some (.Name x p)) pos.line X.env = pure false := by rfl) (hf : X.fn x = true ∨ X.env.scope.names.lookup x = some .local := by first | exact .inl rfl | exact .inr rfl | assumption) :
    DS X ct F W (.Assign [.Name x p] e pos) (dSetO i ta) :=
  ps_imp (ps_set hN hi hx he hs hf) fun D σ H ⟨Hs, ρ, K, R, q, ok⟩ => ⟨Hs, ρ, _, R, q, fun d ρ1 q1 v H1 Hs1 R1 S1 i1 => ok.nx _ q1 _ H1 Hs1 (R1.setO i i1) S1⟩

/-! ## targets -/
abbrev RG := PyData → En → (En → Prop) → Prop
abbrev RGs := List PyData → En → (En → Prop) → Prop
def liftG (X : Cx) (F : Fm) (g : RG) : TG := fun v σ H Q => ∃ Hs ρ d Q2, Rep X.K F Hs σ H ρ ∧ Is X.K Hs v d ∧ g d ρ Q2 ∧ ∀ ρ', Q2 ρ' → ∀ σ' H' Hs', Rep X.K F Hs' σ' H' ρ' → Same Hs Hs' → Q σ' H'
def liftGs (X : Cx) (F : Fm) (g : RGs) : TGs := fun vs σ H Q => ∃ Hs ρ ds Q2, Rep X.K F Hs σ H ρ ∧ IsL X.K Hs vs ds ∧ g ds ρ Q2 ∧ ∀ ρ', Q2 ρ' → ∀ σ' H' Hs', Rep X.K F Hs' σ' H' ρ' → Same Hs Hs' → Q σ' H'
def DG (X : Cx) (F : Fm) (e : Expr) (g : RG) : Prop := PG X e (liftG X F g)
def DGs (X : Cx) (F : Fm) (e : List Expr) (g : RGs) : Prop := PGs X e (liftGs X F g)
theorem pg_imp {X : Cx} {e : Expr} {t t' : TG} (h : PG X e t) (k : ∀ v σ H Q, t' v σ H Q → t v σ H Q) : PG X e t' := ⟨fun pins s σ H v u Q I r q => h.run pins s σ H v u Q I r (k v σ H Q q)⟩
theorem pgs_imp {X : Cx} {e : List Expr} {t t' : TGs} (h : PGs X e t) (k : ∀ v σ H Q, t' v σ H Q → t v σ H Q) : PGs X e t' := ⟨fun pins s σ H v u Q I r q => h.run pins s σ H v u Q I r (k v σ H Q q)⟩
def dgName (i : Nat) : RG := fun d ρ Q => Q (ρ.put i (.s d))
def dgNil : RGs := fun ds ρ Q => match ds with
  | [] => Q ρ
  | _ => False
def dgCons (g : RG) (gs : RGs) : RGs := fun ds ρ Q => match ds with
  | d :: r => g d ρ fun ρ1 => gs r ρ1 Q
  | [] => False
def dgTup (n : Nat) (gs : RGs) : RG := fun d ρ Q => match d with
  | .tuple ds => ds.length = n ∧ gs ds ρ Q
  | _ => False
theorem dg_name {i : Nat} {x : Str} (hN : X.N.Nodup) (hi : X.N[i]? = some x) (hx : Loc X.env.scope x) (hf : X.fn x = true ∨ X.env.scope.names.lookup x = some .local := by first | exact .inl rfl | exact .inr rfl | assumption) : DG X F (.Name x pos) (dgName i) :=
  pg_imp (pg_name hN hi hx hf) fun v σ H Q ⟨Hs, ρ, d, Q2, R, i1, q, z⟩ => z _ q _ H Hs (R.setS i i1) (Same.refl _)
theorem dgs_nil : DGs X F [] dgNil := pgs_imp pgs_nil fun vs σ H Q ⟨Hs, ρ, ds, Q2, R, i1, q, z⟩ => by
  unfold dgNil at q
  split at q
  · cases i1; exact ⟨rfl, z _ q σ H Hs R (Same.refl _)⟩
  · exact q.elim
theorem dgs_cons {g : RG} {gs : RGs} (h1 : DG X F e g) (h2 : DGs X F es gs) (hs : (assignEach (e :: es) X.env).map (·.2) = assign e X.env :: (assignEach es X.env).map (·.2) := by rfl) : DGs X F (e :: es) (dgCons g gs) :=
  pgs_imp (pgs_cons h1 h2 hs) fun vs σ H Q ⟨Hs, ρ, ds, Q2, R, i1, q, z⟩ => by
    unfold dgCons at q
    split at q
    · cases i1 with
      | cons h hl =>
        exact ⟨_, _, rfl, Hs, ρ, _, _, R, h, q, fun ρ1 q1 σ1 H1 Hs1 R1 S1 => ⟨Hs1, ρ1, _, _, R1, hl.mono S1, q1, fun ρ2 q2 σ2 H2 Hs2 R2 S2 => z ρ2 q2 σ2 H2 Hs2 R2 (S1.trans S2)⟩⟩
    · exact q.elim
theorem dg_tup {k : Nat} {n : Nat} {gs : RGs} (hc : X.calm = true) (h : DGs X F es gs) (hn : (assignEach es X.env).length = n := by rfl) (hst : (assignEach es X.env).findIdx? (·.1) = none := by rfl) : DG X F (.Tuple es k pos) (dgTup n gs) :=
  pg_imp (pg_tup hc h hn hst) fun v σ H Q ⟨Hs, ρ, d, Q2, R, i1, q, z⟩ => by
    unfold dgTup at q
    split at q
    · cases i1 with
      | tup h hl => exact ⟨_, _, rfl, SqT.of (R.sub _ _ h), by rw [hl.length]; exact q.1, Hs, ρ, _, _, R, hl, q.2, z⟩
    · exact q.elim
/-- target = e -/
def dAsg (t : RE) (g : RG) : RS := fun K ρ => t ρ fun d ρ' => g d ρ' K.nx
theorem ds_asg {tg : Expr} {g : RG} (he : DE X F e ta) (hg : DG X F tg g) (hs : swapsWithSole [tg] e pos.line X.env = pure false := by rfl) (hw : swappedStores [tg] e X.env = pure none := by rfl)
    (h1 : (assignEach [tg] X.env).map (·.2) = [assign tg X.env] := by rfl) : DS X ct F W (.Assign [tg] e pos) (dAsg ta g) :=
  ps_imp (ps_asg he hg hs hw h1) fun D σ H ⟨Hs, ρ, K, R, q, ok⟩ => ⟨Hs, ρ, _, R, q, fun d ρ1 q1 v H1 Hs1 R1 S1 i1 => ⟨Hs1, ρ1, d, _, R1, i1, q1, fun ρ2 q2 σ2 H2 Hs2 R2 S2 => ok.nx ρ2 q2 σ2 H2 Hs2 R2 (S1.trans S2)⟩⟩
/-- a, b = x, y (plain local names); the second one private -/
def dPar (i j : Nat) (ta tb : RE) : RS := fun K ρ => ta ρ fun d ρ1 => tb ρ1 fun d' ρ2 => K.nx ((ρ2.put i (.s d)).put j (.s d'))
def dParO (i j : Nat) (ta tb : RE) : RS := fun K ρ => ta ρ fun d ρ1 => tb ρ1 fun d' ρ2 => K.nx ((ρ2.put i (.s d)).put j (.o d'))
theorem ds_par {i j : Nat} {x y : Str} {px py pt : Pos} {kt k2 pt2} (hc : X.calm = true) (hN : X.N.Nodup) (hi : X.N[i]? = some x) (hj : X.N[j]? = some y) (hij : i ≠ j)
    (hx : X.env.scope.names.lookup x = some .local) (hy : X.env.scope.names.lookup y = some .local) (ha : DE X F a ta) (hb : DE X F b tb)
    (hw : swappedStores [.Tuple [.Name x px, .Name y py] kt pt] (.Tuple [a, b] k2 pt2) X.env = pure (some [x, y]))
    (hs : swapsWithSole [.Tuple [.Name x px, .Name y py] kt pt] (.Tuple [a, b] k2 pt2) pos.line X.env = pure false := by rfl)
    (h1 : starEach [a, b] X.env = (false, eval a X.env) :: starEach [b] X.env := by rfl) (h2 : starEach [b] X.env = (false, eval b X.env) :: starEach [] X.env := by rfl) :
    DS X ct F W (.Assign [.Tuple [.Name x px, .Name y py] kt pt] (.Tuple [a, b] k2 pt2) pos) (dPar i j ta tb) :=
  ps_imp (ps_par hc hN hi hj hij hx hy (pa_cons ha (pa_cons hb pa_nil h2) h1) hw hs) fun D σ H ⟨Hs, ρ, K, R, q, ok⟩ => ⟨Hs, ρ, _, R, q, fun d ρ1 q1 v H1 Hs1 R1 S1 i1 => ⟨Hs1, ρ1, _, R1, q1, fun d' ρ2 q2 v' H2 Hs2 R2 S2 i2 =>
    ⟨v, v', rfl, ok.nx _ q2 _ H2 Hs2 ((R2.setS i (i1.mono S2)).setS j i2) (S1.trans S2)⟩⟩⟩
theorem Priv.put {K : PySem.W.Frag} {Hs H : Hp} {σ : L2.St} {ρ : En} {p : Addr} {d d' : PyData} {v : V} {i : Nat} (R : Rep K F Hs σ H ρ) (P : Priv K F Hs σ H ρ p d) (iv : Is K Hs v d') : Priv K F Hs (σ.set i (some v)) H (ρ.put i (.s d')) p d :=
  ⟨P.hn, P.h0, P.own, fun j e hj => by
    rcases set_get hj with ⟨_, _, z⟩ | ⟨hne, hj⟩
    · cases z
    · rw [List.getElem?_set_ne (Ne.symm hne)]; exact P.apart j e hj⟩
theorem ds_parO {i j : Nat} {x y : Str} {px py pt : Pos} {kt k2 pt2} (hc : X.calm = true) (hN : X.N.Nodup) (hi : X.N[i]? = some x) (hj : X.N[j]? = some y) (hij : i ≠ j)
    (hx : X.env.scope.names.lookup x = some .local) (hy : X.env.scope.names.lookup y = some .local) (ha : DE X F a ta) (hb : DF X F b tb)
    (hw : swappedStores [.Tuple [.Name x px, .Name y py] kt pt] (.Tuple [a, b] k2 pt2) X.env = pure (some [x, y]))
    (hs : swapsWithSole [.Tuple [.Name x px, .Name y py] kt pt] (.Tuple [a, b] k2 pt2) pos.line X.env = pure false := by rfl)
    (h1 : starEach [a, b] X.env = (false, eval a X.env) :: starEach [b] X.env := by rfl) (h2 : starEach [b] X.env = (false, eval b X.env) :: starEach [] X.env := by rfl) :
    DS X ct F W (.Assign [.Tuple [.Name x px, .Name y py] kt pt] (.Tuple [a, b] k2 pt2) pos) (dParO i j ta tb) :=
  ps_imp (ps_par hc hN hi hj hij hx hy (pa_cons ha (pa_cons hb pa_nil h2) h1) hw hs) fun D σ H ⟨Hs, ρ, K, R, q, ok⟩ => ⟨Hs, ρ, _, R, q, fun d ρ1 q1 v H1 Hs1 R1 S1 i1 => ⟨Hs1, ρ1, _, R1, q1, fun d' ρ2 q2 v' H2 Hs2 R2 S2 i2 =>
    ⟨v, .ref v', rfl, ok.nx _ q2 _ H2 Hs2 ((R2.setS i (i1.mono S2)).setO j (i2.put R2 (i1.mono S2))) (S1.trans S2)⟩⟩⟩

/-! ## writing to an own list or dict -/
def ownL (ρ : En) (i : Nat) (Q : List PyData → Prop) : Prop := match ρ.sl[i]? with
  | some (.o (.list ds)) => Q ds
  | _ => False
def ownD (ρ : En) (i : Nat) (Q : List (PyData × PyData) → Prop) : Prop := match ρ.sl[i]? with
  | some (.o (.dict ds)) => Q ds
  | _ => False
theorem ownL_is {K : PySem.W.Frag} {Hs H : Hp} {σ : L2.St} {ρ : En} {i : Nat} {Q : List PyData → Prop} (R : Rep K F Hs σ H ρ) (h : ownL ρ i Q) : ∃ p ds xs, ρ.sl[i]? = some (.o (.list ds)) ∧ σ[i]? = some (some (.ref p)) ∧ H p = some (.lst xs) ∧ IsL K Hs xs ds ∧ Q ds := by
  unfold ownL at h
  split at h
  · rename_i ds hd
    cases R.slo i _ hd with
    | o e hn h0 q =>
      cases q with
      | lst hp hl => exact ⟨_, ds, _, hd, e, hp, hl, h⟩
  · exact h.elim
theorem ownD_is {K : PySem.W.Frag} {Hs H : Hp} {σ : L2.St} {ρ : En} {i : Nat} {Q : List (PyData × PyData) → Prop} (R : Rep K F Hs σ H ρ) (h : ownD ρ i Q) : ∃ p ds xs, ρ.sl[i]? = some (.o (.dict ds)) ∧ σ[i]? = some (some (.ref p)) ∧ H p = some (.dK xs) ∧ IsK K Hs xs ds ∧ Q ds := by
  unfold ownD at h
  split at h
  · rename_i ds hd
    cases R.slo i _ hd with
    | o e hn h0 q =>
      cases q with
      | dic hp hl => exact ⟨_, ds, _, hd, e, hp, hl, h⟩
  · exact h.elim
def dAppend (i : Nat) (te : RE) : RS := fun K ρ => ownL ρ i fun _ => te ρ fun d ρ1 => ownL ρ1 i fun ds => ds.length ≤ 1000 ∧ K.nx (ρ1.put i (.o (.list (ds ++ [d]))))
theorem lst_code (xs : List V) (c : Addr) (q : Str) : HO.lst xs ≠ CodeO c q := fun z => nomatch z
theorem dk_code (xs : List (Key × V)) (c : Addr) (q : Str) : HO.dK xs ≠ CodeO c q := fun z => nomatch z
theorem lst_tbl (xs : List V) (ps : Array Value) : HO.lst xs ≠ .tbl ps := fun z => nomatch z
theorem dk_tbl (xs : List (Key × V)) (ps : Array Value) : HO.dK xs ≠ .tbl ps := fun z => nomatch z
theorem ds_append (i : Nat) {x : Str} {p ap cpos : Pos} (he : DE X F e ta) (hN : X.N[i]? = some x := by rfl) (hv : Vis X.env.scope x := by first | exact Or.inl rfl | exact Or.inr (Or.inl rfl) | exact Or.inr (Or.inr rfl)) (hd : (x == ("__debug__" : Str)) = false := by decide)
    (hcd : (x == ("__classdict__" : Str)) = false := by decide) (hbase : attributeBase (.Name x p) "append" X.env (eval (.Name x p) X.env) = eval (.Name x p) X.env := by rfl)
    (hfew : ((backTo cpos (starEach [e] X.env)).all (fun x => !x.1) && (backToKw cpos (keywordEach [] X.env)).all (fun x => x.1.isSome)
      && decide ([e].length + ([] : List Keyword).length + (if ([] : List Keyword).isEmpty then 0 else 1) < 30)) = true := by rfl)
    (hline : (ap.endLine == cpos.line) = true := by rfl) (hs : starEach [e] X.env = (false, eval e X.env) :: starEach [] X.env := by rfl) (hplain : (backTo cpos (starEach [] X.env)).any (·.1) = false := by rfl)
    (hsw : swapsWith (.Call (.Attribute (.Name x p) "append" ap) [e] [] cpos) none pos.line X.env = pure false := by rfl) :
    DS X ct F W (.Expr (.Call (.Attribute (.Name x p) "append" ap) [e] [] cpos) pos) (dAppend i ta) :=
  ps_imp (ps_expr (pe_bm PySem.F.plainAttrs_list PySem.F.slot_list_append PySem.F.type_list_append mt_append (pe_var hN hv hd hcd) (pa_cons he pa_nil hs) hbase hfew hline hs hplain) hsw) fun D σ H ⟨Hs, ρ, K, R, q, ok⟩ => by
    obtain ⟨a, ds, xs, hi, ea, ha, hl, q⟩ := ownL_is R q
    refine ⟨.ref a, ea, .inl ⟨rfl, xs, SqL.of ha⟩, Hs, ρ, _, R, q, fun d ρ1 q1 v H1 Hs1 R1 S1 i1 => ?_⟩
    obtain ⟨a', ds', xs', hi', ea', ha', hl', hz, q1⟩ := ownL_is R1 q1
    rw [ea] at ea'; cases ea'
    refine ⟨a, xs', v, rfl, rfl, ha', ?_, ?_⟩
    · rw [hl'.length]; exact small1000 hz
    · exact ok.nx _ q1 σ _ Hs1 (R1.write hi' ea (lst_tbl _) (lst_code _) (.lst upd_same (hl'.append (.one i1)))) S1
/-- x[i] = e of an own list -/
def dSetIx (i : Nat) (te ti : RE) : RS := fun K ρ => te ρ fun d ρ1 => ownL ρ1 i fun _ => ti ρ1 fun y ρ2 => ownL ρ2 i fun ds => kInt y fun n => ∃ j, ixN ds.length n = some j ∧ K.nx (ρ2.put i (.o (.list (ds.set j d))))
theorem ds_setIx (i : Nat) {x : Str} {p sp : Pos} (he : DE X F e ta) (hb : DE X F b tb) (hN : X.N[i]? = some x := by rfl) (hv : Vis X.env.scope x := by first | exact Or.inl rfl | exact Or.inr (Or.inl rfl) | exact Or.inr (Or.inr rfl)) (hd : (x == ("__debug__" : Str)) = false := by decide)
    (hcd : (x == ("__classdict__" : Str)) = false := by decide)
    (hg : ∀ v, assign (.Subscript (.Name x p) b sp) X.env v = (do
      let ov ← holding [v] (eval (.Name x p) X.env)
      let iv ← holding [v, ov] (eval b X.env)
      standAt sp
      holding [v, ov, iv] (setItem ov iv v)
      release [v, ov, iv] []) := by intro _; rfl)
    (hs : swapsWithSole [.Subscript (.Name x p) b sp] e pos.line X.env = pure false := by rfl) (hw : swappedStores [.Subscript (.Name x p) b sp] e X.env = pure none := by rfl)
    (h1 : (assignEach [.Subscript (.Name x p) b sp] X.env).map (·.2) = [assign (.Subscript (.Name x p) b sp) X.env] := by rfl) :
    DS X ct F W (.Assign [.Subscript (.Name x p) b sp] e pos) (dSetIx i ta tb) :=
  ps_imp (ps_asg he (pg_sub (pe_var hN hv hd hcd) hb set_list hg) hs hw h1) fun D σ H ⟨Hs, ρ, K, R, q, ok⟩ => ⟨Hs, ρ, _, R, q, fun d ρ1 q1 v H1 Hs1 R1 S1 i1 => by
    obtain ⟨a, ds, xs, hi, ea, ha, hl, q1⟩ := ownL_is R1 q1
    refine ⟨.ref a, ea, Hs1, ρ1, _, R1, q1, fun y ρ2 q2 w H2 Hs2 R2 S2 i2 => ?_⟩
    obtain ⟨a', ds', xs', hi', ea', ha', hl', q2⟩ := ownL_is R2 q2
    rw [ea] at ea'; cases ea'
    obtain ⟨n, rfl, rfl, j, ej, q2⟩ := kInt_is q2 i2
    refine ⟨a, xs', n, j, rfl, rfl, ha', by rw [hl'.length]; exact ej, ?_⟩
    exact ok.nx _ q2 σ _ Hs2 (R2.write hi' ea (lst_tbl _) (lst_code _) (.lst upd_same (hl'.set j (i1.mono S2)))) (S1.trans S2)⟩
/-- x[k] = e of an own dict -/
def dPutK (i : Nat) (te ti : RE) : RS := fun K ρ => te ρ fun d ρ1 => ownD ρ1 i fun _ => ti ρ1 fun y ρ2 => ownD ρ2 i fun ds => kInt y fun n => ds.length ≤ 1000 ∧ K.nx (ρ2.put i (.o (.dict (dPut ds n d))))
theorem ds_putK (i : Nat) {x : Str} {p sp : Pos} (hu : X.A.units + 1 < cLine) (he : DE X F e ta) (hb : DE X F b tb) (hN : X.N[i]? = some x := by rfl) (hv : Vis X.env.scope x := by first | exact Or.inl rfl | exact Or.inr (Or.inl rfl) | exact Or.inr (Or.inr rfl)) (hd : (x == ("__debug__" : Str)) = false := by decide)
    (hcd : (x == ("__classdict__" : Str)) = false := by decide) (hs : swapsWith e (some (.Subscript (.Name x p) b sp)) pos.line X.env = pure false := by rfl) : DS X ct F W (.Assign [.Subscript (.Name x p) b sp] e pos) (dPutK i ta tb) :=
  ps_imp (ps_dput hu (pe_var hN hv hd hcd) hb he hs) fun D σ H ⟨Hs, ρ, K, R, q, ok⟩ => ⟨Hs, ρ, _, R, q, fun d ρ1 q1 v H1 Hs1 R1 S1 i1 => by
    obtain ⟨a, ds, xs, hi, ea, ha, hl, q1⟩ := ownD_is R1 q1
    refine ⟨.ref a, ea, Hs1, ρ1, _, R1, q1, fun y ρ2 q2 w H2 Hs2 R2 S2 i2 => ?_⟩
    obtain ⟨a', ds', xs', hi', ea', ha', hl', q2⟩ := ownD_is R2 q2
    rw [ea] at ea'; cases ea'
    obtain ⟨n, rfl, rfl, hz, q2⟩ := kInt_is q2 i2
    refine ⟨a, _, rfl, DPut.k (k := Sum.inl n) ha' (by rw [hl'.length]; exact small1000 hz), ?_⟩
    exact ok.nx _ q2 σ _ Hs2 (R2.write hi' ea (dk_tbl _) (dk_code _) (.dic upd_same (hl'.put (i1.mono S2)))) (S1.trans S2)⟩

/-! ## loops -/
structure ItOk (K : PySem.W.Frag) (J : It) (Hs : Hp) (items : List PyData) : Prop where
  go : ∀ i H, Same Hs H → i < items.length → J.go i H
  stop : ∀ H, Same Hs H → J.stop items.length H
  yld : ∀ i H x H' d, Same Hs H → items[i]? = some d → J.yld i H x H' → (H' = H ∧ Is K Hs x d) ∨ ∃ T xs ds, x = .ref T ∧ H T = none ∧ H' = upd H T (.tup xs) ∧ IsL K Hs xs ds ∧ d = .tuple ds
abbrev RI := En → (List PyData → En → Prop) → Prop
def liftI (X : Cx) (F : Fm) (t : RI) : TI := fun σ H R => ∃ Hs ρ Q2, Rep X.K F Hs σ H ρ ∧ t ρ Q2 ∧ ∀ items ρ', Q2 items ρ' → ∀ J H' Hs', Rep X.K F Hs' σ H' ρ' → Same Hs Hs' → ItOk X.K J Hs' items → R J H'
def DI (X : Cx) (F : Fm) (tg iter : Expr) (t : RI) : Prop := PI X tg iter (liftI X F t)
theorem pi_imp {X : Cx} {tg e : Expr} {t t' : TI} (h : PI X tg e t) (k : ∀ σ H Q, t' σ H Q → t σ H Q) : PI X tg e t' := ⟨fun pins s σ H Q I q => h.run pins s σ H Q I (k σ H Q q)⟩
theorem getI {α : Type} {l : List α} {i : Nat} (h : i < l.length) : ∃ x, l[i]? = some x := ⟨l[i], by simp [h]⟩
theorem itOk_list {K : PySem.W.Frag} {Hs : Hp} {a : Addr} {xs : List V} {ds : List PyData} (h : Hs a = some (.lst xs)) (hl : IsL K Hs xs ds) : ItOk K (Itl K a) Hs ds where
  go := fun i H s hi => by
    obtain ⟨x, hx⟩ := getI (l := xs) (by rw [hl.length]; exact hi)
    exact ⟨xs, x, SqL.of (s _ _ h), hx⟩
  stop := fun H s => ⟨xs, SqL.of (s _ _ h), by rw [hl.length]; exact Nat.le_refl _⟩
  yld := fun i H x H' d s hd y => by
    obtain ⟨e, y⟩ := y
    obtain ⟨x', hx', ix⟩ := hl.getD hd
    have q := y xs (SqL.of (s _ _ h))
    rw [q] at hx'; cases hx'
    exact .inl ⟨e, ix⟩
theorem itOk_tup {K : PySem.W.Frag} {Hs : Hp} {a : Addr} {xs : List V} {ds : List PyData} (h : Hs a = some (.tup xs)) (hl : IsL K Hs xs ds) : ItOk K (Itt K a) Hs ds where
  go := fun i H s hi => by
    obtain ⟨x, hx⟩ := getI (l := xs) (by rw [hl.length]; exact hi)
    exact ⟨xs, x, SqT.of (s _ _ h), hx⟩
  stop := fun H s => ⟨xs, SqT.of (s _ _ h), by rw [hl.length]; exact Nat.le_refl _⟩
  yld := fun i H x H' d s hd y => by
    obtain ⟨e, y⟩ := y
    obtain ⟨x', hx', ix⟩ := hl.getD hd
    have q := y xs (SqT.of (s _ _ h))
    rw [q] at hx'; cases hx'
    exact .inl ⟨e, ix⟩
def rangeD (n : Nat) : List PyData := (List.range n).map fun (i : Nat) => PyData.int (i : Int)
theorem rangeD_get {n i : Nat} {d : PyData} (h : (rangeD n)[i]? = some d) : d = .int (i : Int) := by
  unfold rangeD at h
  rw [List.getElem?_map] at h
  obtain ⟨j, hj, rfl⟩ := Option.map_eq_some_iff.mp h
  obtain ⟨hl, e⟩ := List.getElem?_eq_some_iff.mp hj
  rw [List.getElem_range] at e
  rw [e]
theorem rangeD_length (n : Nat) : (rangeD n).length = n := by simp [rangeD]
theorem itOk_range {K : PySem.W.Frag} {Hs : Hp} (n : Nat) : ItOk K (Itr 0 n) Hs (rangeD n) where
  go := fun i H s hi => by rw [rangeD_length] at hi; exact hi
  stop := fun H s => by
    show n ≤ (rangeD n).length
    rw [rangeD_length]; exact Nat.le_refl _
  yld := fun i H x H' d s hd y => by
    obtain ⟨e, rfl⟩ := y
    rw [rangeD_get hd, Int.zero_add]
    exact .inl ⟨e, .int _⟩
/-- n - 1, .., 0 -/
def rangeDown (n : Nat) : List PyData := (rangeD n).reverse
theorem rangeDown_get {n i : Nat} {d : PyData} (h : (rangeDown n)[i]? = some d) : d = .int ((n : Int) - 1 - i) := by
  have hi : i < n := by
    have q := (List.getElem?_eq_some_iff.mp h).1
    simpa [rangeDown, rangeD] using q
  unfold rangeDown at h
  rw [List.getElem?_reverse (by rw [rangeD_length]; exact hi)] at h
  have e := rangeD_get h
  rw [e, rangeD_length]
  congr 1
  omega
theorem itOk_down {K : PySem.W.Frag} {Hs : Hp} (n : Nat) : ItOk K (Itc ((n : Int) - 1) (-1) n) Hs (rangeDown n) where
  go := fun i H s hi => by
    have q : (rangeDown n).length = n := by simp [rangeDown, rangeD]
    rw [q] at hi; exact hi
  stop := fun H s => by
    have q : (rangeDown n).length = n := by simp [rangeDown, rangeD]
    show n ≤ _
    rw [q]; exact Nat.le_refl _
  yld := fun i H x H' d s hd y => by
    obtain ⟨e, rfl⟩ := y
    rw [rangeDown_get hd]
    refine .inl ⟨e, ?_⟩
    have q : (n : Int) - 1 + (i : Int) * (-1) = (n : Int) - 1 - i := by omega
    rw [q]
    exact .int _
theorem sq_is {K : PySem.W.Frag} {Hs : Hp} {v : V} {d : PyData} (h : Is K Hs v d) : (∀ ds, d = .list ds → ∃ a xs, v = .ref a ∧ Hs a = some (sq false xs) ∧ IsL K Hs xs ds) ∧ (∀ ds, d = .tuple ds → ∃ a xs, v = .ref a ∧ Hs a = some (sq true xs) ∧ IsL K Hs xs ds) := by
  refine ⟨fun ds e => ?_, fun ds e => ?_⟩
  · subst e
    cases h with
    | lst h hl => exact ⟨_, _, rfl, h, hl⟩
  · subst e
    cases h with
    | tup h hl => exact ⟨_, _, rfl, h, hl⟩
/-- a list (false) or tuple (true) of these -/
def sqD (k : Bool) (ds : List PyData) : PyData := if k = true then .tuple ds else .list ds
def kSq (k : Bool) (d : PyData) (Q : List PyData → Prop) : Prop := match k, d with
  | false, .list ds => Q ds
  | true, .tuple ds => Q ds
  | _, _ => False
theorem kSq_is {K : PySem.W.Frag} {Hs : Hp} {v : V} {d : PyData} {k : Bool} {Q : List PyData → Prop} (q : kSq k d Q) (h : Is K Hs v d) : ∃ a xs ds, v = .ref a ∧ Hs a = some (sq k xs) ∧ IsL K Hs xs ds ∧ Q ds := by
  unfold kSq at q
  split at q
  · obtain ⟨a, xs, e, h, hl⟩ := (sq_is h).1 _ rfl
    exact ⟨a, xs, _, e, h, hl, q⟩
  · obtain ⟨a, xs, e, h, hl⟩ := (sq_is h).2 _ rfl
    exact ⟨a, xs, _, e, h, hl, q⟩
  · exact q.elim
def enumD (ds : List PyData) : List PyData := ds.zipIdx.map fun p => .tuple [.int (p.2 : Nat), p.1]
theorem enumD_get {ds : List PyData} {i : Nat} {d : PyData} (h : (enumD ds)[i]? = some d) : ∃ x, ds[i]? = some x ∧ d = .tuple [.int (i : Nat), x] := by
  unfold enumD at h
  rw [List.getElem?_map, List.getElem?_zipIdx] at h
  cases e : ds[i]? with
  | none => rw [e] at h; cases h
  | some x =>
    rw [e] at h
    have h2 := Option.some.inj h
    exact ⟨x, rfl, by rw [← h2]; simp⟩
theorem enumD_length (ds : List PyData) : (enumD ds).length = ds.length := by simp [enumD]
theorem itOk_enum {K : PySem.W.Frag} {Hs : Hp} {k : Bool} {a : Addr} {xs : List V} {ds : List PyData} (h : Hs a = some (sq k xs)) (hl : IsL K Hs xs ds) : ItOk K (ItE k a) Hs (enumD ds) where
  go := fun i H s hi => by
    rw [enumD_length] at hi
    obtain ⟨x, hx⟩ := getI (l := xs) (by rw [hl.length]; exact hi)
    exact ⟨xs, x, s _ _ h, hx⟩
  stop := fun H s => ⟨xs, s _ _ h, by rw [hl.length, enumD_length]⟩
  yld := fun i H x H' d s hd y => by
    obtain ⟨T, v, rfl, hT, rfl, y⟩ := y
    obtain ⟨dx, ed, rfl⟩ := enumD_get hd
    obtain ⟨x', hx', ix⟩ := hl.getD ed
    have q := y xs (s _ _ h)
    rw [q] at hx'; cases hx'
    exact .inr ⟨T, _, _, rfl, hT, rfl, .cons (.int _) (.one ix), rfl⟩
def zipD (ds es : List PyData) : List PyData := List.zipWith (fun x y => .tuple [x, y]) ds es
theorem zipD_get {ds es : List PyData} {i : Nat} {d : PyData} (h : (zipD ds es)[i]? = some d) : ∃ x y, ds[i]? = some x ∧ es[i]? = some y ∧ d = .tuple [x, y] := by
  unfold zipD at h
  rw [List.getElem?_zipWith] at h
  cases e1 : ds[i]? with
  | none => rw [e1] at h; cases h
  | some x =>
    cases e2 : es[i]? with
    | none => rw [e1, e2] at h; cases h
    | some y =>
      rw [e1, e2] at h
      exact ⟨x, y, rfl, rfl, (Option.some.inj h).symm⟩
theorem zipD_length (ds es : List PyData) : (zipD ds es).length = min ds.length es.length := by simp [zipD]
theorem itOk_zip {K : PySem.W.Frag} {Hs : Hp} {k l : Bool} {a b : Addr} {xs ys : List V} {ds es : List PyData} (h : Hs a = some (sq k xs)) (hl : IsL K Hs xs ds) (h' : Hs b = some (sq l ys)) (hl' : IsL K Hs ys es) : ItOk K (ItZ k l a b) Hs (zipD ds es) where
  go := fun i H s hi => by
    rw [zipD_length] at hi
    obtain ⟨x, hx⟩ := getI (l := xs) (i := i) (by rw [hl.length]; omega)
    obtain ⟨y, hy⟩ := getI (l := ys) (i := i) (by rw [hl'.length]; omega)
    exact ⟨xs, ys, x, y, s _ _ h, s _ _ h', hx, hy⟩
  stop := fun H s => ⟨xs, ys, s _ _ h, s _ _ h', by rw [hl.length, hl'.length, zipD_length]⟩
  yld := fun i H x H' d s hd y => by
    obtain ⟨T, v, w, rfl, hT, rfl, y1, y2⟩ := y
    obtain ⟨dx, dy, e1, e2, rfl⟩ := zipD_get hd
    obtain ⟨x', hx', ix⟩ := hl.getD e1
    obtain ⟨y', hy', iy⟩ := hl'.getD e2
    have q1 := y1 xs (s _ _ h)
    have q2 := y2 ys (s _ _ h')
    rw [q1] at hx'; cases hx'
    rw [q2] at hy'; cases hy'
    exact .inr ⟨T, _, _, rfl, hT, rfl, .cons ix (.one iy), rfl⟩

variable {tg iter : Expr} {p tpos : Pos} {elts : List Expr} {kk : Nat} {tA : RA}
def diList (te : RE) : RI := fun ρ Q => te ρ fun d ρ' => kSq false d fun ds => Q ds ρ'
def diTup (te : RE) : RI := fun ρ Q => te ρ fun d ρ' => kSq true d fun ds => Q ds ρ'
theorem di_list (he : DE X F e ta) : DI X F tg e (diList ta) := pi_imp (pi_list he) fun σ H R ⟨Hs, ρ, Q2, Rp, q, z⟩ => ⟨Hs, ρ, _, Rp, q, fun d ρ1 q1 v H1 Hs1 R1 S1 i1 => by
  obtain ⟨a, xs, ds, rfl, h, hl, q1⟩ := kSq_is q1 i1
  exact ⟨a, rfl, ⟨xs, SqL.of (R1.sub _ _ h)⟩, z ds ρ1 q1 _ H1 Hs1 R1 S1 (itOk_list h hl)⟩⟩
theorem di_tup (he : DE X F e ta) : DI X F tg e (diTup ta) := pi_imp (pi_tup he) fun σ H R ⟨Hs, ρ, Q2, Rp, q, z⟩ => ⟨Hs, ρ, _, Rp, q, fun d ρ1 q1 v H1 Hs1 R1 S1 i1 => by
  obtain ⟨a, xs, ds, rfl, h, hl, q1⟩ := kSq_is q1 i1
  exact ⟨a, rfl, ⟨xs, SqT.of (R1.sub _ _ h)⟩, z ds ρ1 q1 _ H1 Hs1 R1 S1 (itOk_tup h hl)⟩⟩
def diEnum (k : Bool) (te : RE) : RI := fun ρ Q => te ρ fun d ρ' => kSq k d fun ds => Q (enumD ds) ρ'
theorem di_enum (k : Bool) (hg : Gl X "enumerate") (hm : X.mg "enumerate" = none) (he : DE X F e ta) (hs : starEach [e] X.env = [(false, eval e X.env)] := by rfl) : DI X F (.Tuple elts kk tpos) (.Call (.Name "enumerate" p) [e] [] pos) (diEnum k ta) :=
  pi_imp (pi_enumK k hg hm (pa_cons he pa_nil hs) hs) fun σ H R ⟨Hs, ρ, Q2, Rp, q, z⟩ => ⟨Hs, ρ, _, Rp, q, fun d ρ1 q1 v H1 Hs1 R1 S1 i1 => by
    obtain ⟨a, xs, ds, rfl, h, hl, q1⟩ := kSq_is q1 i1
    exact ⟨a, xs, rfl, R1.sub _ _ h, z _ ρ1 q1 _ H1 Hs1 R1 S1 (itOk_enum h hl)⟩⟩
def diZip (k l : Bool) (ta tb : RE) : RI := fun ρ Q => ta ρ fun d ρ1 => tb ρ1 fun d' ρ2 => kSq k d fun ds => kSq l d' fun es => Q (zipD ds es) ρ2
theorem di_zip (k l : Bool) (hg : Gl X "zip") (hm : X.mg "zip" = none) (ha : DE X F a ta) (hb : DE X F b tb)
    (hs : starEach [a, b] X.env = (false, eval a X.env) :: starEach [b] X.env := by rfl) (hs2 : starEach [b] X.env = (false, eval b X.env) :: starEach [] X.env := by rfl) (hpl : (backTo pos (starEach [b] X.env)).any (·.1) = false := by rfl) :
    DI X F (.Tuple elts kk tpos) (.Call (.Name "zip" p) [a, b] [] pos) (diZip k l ta tb) :=
  pi_imp (pi_zipK k l hg hm (pa_cons ha (pa_cons hb pa_nil hs2) hs) hs hpl) fun σ H R ⟨Hs, ρ, Q2, Rp, q, z⟩ => ⟨Hs, ρ, _, Rp, q, fun d ρ1 q1 v H1 Hs1 R1 S1 i1 => ⟨Hs1, ρ1, _, R1, q1, fun d' ρ2 q2 v' H2 Hs2 R2 S2 i2 => by
    obtain ⟨x, xs, ds, rfl, h, hl, q2⟩ := kSq_is q2 (i1.mono S2)
    obtain ⟨y, ys, es, rfl, h', hl', q2⟩ := kSq_is q2 i2
    exact ⟨x, y, xs, ys, rfl, R2.sub _ _ h, R2.sub _ _ h', z _ ρ2 q2 _ H2 Hs2 R2 (S1.trans S2) (itOk_zip h hl h' hl')⟩⟩⟩
def diRange (te : RE) : RI := fun ρ Q => te ρ fun d ρ' => kInt d fun n => -(2 ^ 62) ≤ n ∧ n < 2 ^ 62 ∧ Q (rangeD n.toNat) ρ'
theorem di_range (hg : Gl X "range") (hm : X.mg "range" = none) (he : DE X F e ta) (hs : starEach [e] X.env = [(false, eval e X.env)] := by rfl) : DI X F tg (.Call (.Name "range" p) [e] [] pos) (diRange ta) :=
  pi_imp (pi_range1 hg hm (pa_cons he pa_nil hs) hs) fun σ H R ⟨Hs, ρ, Q2, Rp, q, z⟩ => ⟨Hs, ρ, _, Rp, q, fun d ρ1 q1 v H1 Hs1 R1 S1 i1 => by
    obtain ⟨n, rfl, rfl, h1, h2, q1⟩ := kInt_is q1 i1
    exact ⟨n, rfl, h1, h2, z _ ρ1 q1 _ H1 Hs1 R1 S1 (itOk_range n.toNat)⟩⟩

/-- the turns of a for loop -/
def forW (g : RG) (tb : RS) (K : Ends2) : List PyData → En → Prop
  | [], ρ => K.nx ρ
  | d :: ds, ρ => g d ρ fun ρ1 => tb { K with nx := forW g tb K ds, ct := forW g tb K ds, bk := K.nx } ρ1
def dFor (ti : RI) (g : RG) (tb : RS) : RS := fun K ρ => ti ρ fun items ρ1 => forW g tb K items ρ1
theorem ds_for {body : List Stmt} {ti : RI} {g : RG} {tb : RS} (hp : PassesOwn (model X.prog X.w) X.A X.env X.xe) (hc : X.calm = true) (hi : DI X F tg iter ti) (hg : DG X F tg g) (hb : DSs X ct F W body tb)
    (hs : ∀ x, foldedSetIterable iter X.env x = pure x := by intro _; rfl) : DS X ct F W (.For tg iter body [] pos) (dFor ti g tb) :=
  ps_imp (ps_for hp hc hi hg hb hs) fun D σ H ⟨Hs, ρ, K, R, q, ok⟩ => ⟨Hs, ρ, _, R, q, fun items ρ1 q1 J H1 Hs1 R1 S1 it => by
    refine ⟨fun i m σ2 H2 => ∃ Hs2 ρ2, Rep X.K F Hs2 σ2 H2 ρ2 ∧ Same Hs1 Hs2 ∧ i + m = items.length ∧ forW g tb K (items.drop i) ρ2, ⟨items.length, Hs1, ρ1, R1, Same.refl _, Nat.zero_add _, q1⟩, ?_⟩
    rintro i m σ2 H2 ⟨Hs2, ρ2, R2, S2, em, q2⟩
    cases m with
    | zero =>
      have ei : i = items.length := em
      subst ei
      rw [List.drop_length] at q2
      exact .inl ⟨it.stop H2 (S2.trans R2.sub), ok.nx ρ2 q2 σ2 H2 Hs2 R2 (S1.trans S2)⟩
    | succ m =>
      have hi : i < items.length := by omega
      obtain ⟨d, hd⟩ := getI hi
      have edrop : items.drop i = d :: items.drop (i + 1) := by
        have e0 := List.drop_eq_getElem_cons hi
        have e1 : items[i] = d := by
          have z := hd
          rw [List.getElem?_eq_getElem hi] at z
          exact Option.some.inj z
        rw [e0, e1]
      rw [edrop] at q2
      refine .inr ⟨it.go i H2 (S2.trans R2.sub) hi, fun σ3 H3 => ∃ Hs3 ρ3, Rep X.K F Hs3 σ3 H3 ρ3 ∧ Same Hs1 Hs3 ∧ forW g tb K (items.drop (i + 1)) ρ3, fun σ3 H3 ⟨Hs3, ρ3, R3, S3, q3⟩ => ⟨m, Nat.lt_succ_self m, Hs3, ρ3, R3, S3, by omega, q3⟩, fun x H' y => ?_⟩
      have fin : ∀ {Hs' : Hp}, Rep X.K F Hs' σ2 H' ρ2 → Same Hs1 Hs' → Is X.K Hs' x d → liftG X F g x σ2 H' fun σ3 H3 => liftS X ct F W tb { D with nx := fun σ3 H3 => ∃ Hs3 ρ3, Rep X.K F Hs3 σ3 H3 ρ3 ∧ Same Hs1 Hs3 ∧ forW g tb K (items.drop (i + 1)) ρ3, ct := fun σ3 H3 => ∃ Hs3 ρ3, Rep X.K F Hs3 σ3 H3 ρ3 ∧ Same Hs1 Hs3 ∧ forW g tb K (items.drop (i + 1)) ρ3, bk := D.nx } σ3 H3 := by
        intro Hs' R' S' ix
        refine ⟨Hs', ρ2, d, _, R', ix, q2, fun ρ3 q3 σ3 H3 Hs3 R3 S3 => ⟨Hs3, ρ3, _, R3, q3, ?_⟩⟩
        have S13 := S'.trans S3
        exact ⟨fun ρ4 q4 σ4 H4 Hs4 R4 S4 => ⟨Hs4, ρ4, R4, S13.trans S4, q4⟩, fun d ρ4 q4 v σ4 H4 Hs4 R4 S4 i4 => ok.rt d ρ4 q4 v σ4 H4 Hs4 R4 (S1.trans (S13.trans S4)) i4,
          fun ρ4 q4 σ4 H4 Hs4 R4 S4 => ok.nx ρ4 q4 σ4 H4 Hs4 R4 (S1.trans (S13.trans S4)), fun ρ4 q4 σ4 H4 Hs4 R4 S4 => ⟨Hs4, ρ4, R4, S13.trans S4, q4⟩,
          fun x ρ4 q4 c d σ4 H4 Hs4 R4 S4 i4 => ok.ex x ρ4 q4 c d σ4 H4 Hs4 R4 (S1.trans (S13.trans S4)) i4⟩
      rcases it.yld i H2 x H' d (S2.trans R2.sub) hd y with ⟨rfl, ix⟩ | ⟨T, xs, ds, rfl, hT, rfl, ixs, rfl⟩
      · exact fin R2 S2 (ix.mono S2)
      · have gr := Grow.laid (o := .tup xs) R2.sub R2.ntb R2.tab hT (fun _ z => nomatch z)
        exact fin (R2.grow gr) (S2.trans gr.shr) (.tup upd_same (ixs.mono (S2.trans gr.shr)))⟩
/-- a while loop, by an invariant and a measure -/
def dWhile (c : RT) (tb : RS) : RS := fun K ρ => ∃ V : Nat → En → Prop, (∃ m, V m ρ) ∧ ∀ m ρ, V m ρ → c ρ fun b ρ1 => if b = true then tb { K with nx := fun ρ2 => ∃ m', m' < m ∧ V m' ρ2, ct := fun ρ2 => ∃ m', m' < m ∧ V m' ρ2, bk := K.nx } ρ1 else K.nx ρ1
theorem ds_while {body : List Stmt} {tb : RS} (hp : PassesOwn (model X.prog X.w) X.A X.env X.xe) (hc : DT X F c tx) (hb : DSs X ct F W body tb) : DS X ct F W (.While c body [] pos) (dWhile tx tb) :=
  ps_imp (ps_while hp hc hb) fun D σ H ⟨Hs, ρ, K, R, ⟨V, ⟨m0, v0⟩, turn⟩, ok⟩ => by
    refine ⟨fun m σ2 H2 => ∃ Hs2 ρ2, Rep X.K F Hs2 σ2 H2 ρ2 ∧ Same Hs Hs2 ∧ V m ρ2, ⟨m0, Hs, ρ, R, Same.refl _, v0⟩, ?_⟩
    rintro m σ2 H2 ⟨Hs2, ρ2, R2, S2, v2⟩
    refine ⟨Hs2, ρ2, _, R2, turn m ρ2 v2, fun b ρ3 q3 H3 Hs3 R3 S3 => ?_⟩
    cases b with
    | true =>
      refine ⟨fun σ4 H4 => ∃ m', m' < m ∧ ∃ Hs4 ρ4, Rep X.K F Hs4 σ4 H4 ρ4 ∧ Same Hs Hs4 ∧ V m' ρ4, fun σ4 H4 ⟨m', hm, h⟩ => ⟨m', hm, h⟩, Hs3, ρ3, _, R3, q3, ?_⟩
      have S03 := S2.trans S3
      exact ⟨fun ρ4 ⟨m', hm, q4⟩ σ4 H4 Hs4 R4 S4 => ⟨m', hm, Hs4, ρ4, R4, S03.trans S4, q4⟩, fun d ρ4 q4 v σ4 H4 Hs4 R4 S4 i4 => ok.rt d ρ4 q4 v σ4 H4 Hs4 R4 (S03.trans S4) i4,
        fun ρ4 q4 σ4 H4 Hs4 R4 S4 => ok.nx ρ4 q4 σ4 H4 Hs4 R4 (S03.trans S4), fun ρ4 ⟨m', hm, q4⟩ σ4 H4 Hs4 R4 S4 => ⟨m', hm, Hs4, ρ4, R4, S03.trans S4, q4⟩,
        fun x ρ4 q4 c d σ4 H4 Hs4 R4 S4 i4 => ok.ex x ρ4 q4 c d σ4 H4 Hs4 R4 (S03.trans S4) i4⟩
    | false => exact ok.nx ρ3 q3 σ2 H3 Hs3 R3 (S2.trans S3)
end
end Yd
set_option Elab.async false
set_option linter.all false
set_option maxRecDepth 100000
set_option maxHeartbeats 1000000
/-! # The plain-data layer: comprehensions -/
namespace Yd
open PySem PySem.Spec PyProof.Rows L2 LamX

def Kin (F F' : Fm) : Prop := F'.T = F.T ∧ F'.rg = F.rg
section
variable {K : PySem.W.Frag} {F : Fm} {Hs : Hp} {σ : L2.St} {H : Hp} {ρ : En}
open Classical in
/-- a piece of code within: all that is there now, but what the slots own, is its ground -/
theorem Rep.within (R : Rep K F Hs σ H ρ) : ∃ F', Kin F F' ∧ Rep K F' Hs σ H ρ ∧
    (∀ a o, H a = some o → (∀ ps, o ≠ .tbl ps) → (∀ (j : Nat) (d : PyData), ρ.sl[j]? = some (.o d) → σ[j]? ≠ some (some (.ref a))) → F'.H0 a = some o) ∧ F'.Hs0 = Hs ∧
    ∀ σ' H' Hs' ρ', Rep K F' Hs' σ' H' ρ' → Same Hs Hs' ∧ Rep K F Hs' σ' H' ρ' := by
  let ow : Addr → Prop := fun a => ∃ (j : Nat) (d : PyData), ρ.sl[j]? = some (.o d) ∧ σ[j]? = some (some (.ref a))
  let F' : Fm := { H0 := fun a => if ow a then none else H a, Hs0 := Hs, T := F.T, rg := F.rg }
  have h0 : ∀ a o, F'.H0 a = some o → ¬ ow a ∧ H a = some o := fun a o e => by
    have e : (if ow a then none else H a) = some o := e
    by_cases q : ow a
    · rw [if_pos q] at e; cases e
    · rw [if_neg q] at e; exact ⟨q, e⟩
  have h1 : ∀ a o, ¬ ow a → H a = some o → F'.H0 a = some o := fun a o q e => by
    show (if ow a then none else H a) = some o
    rw [if_neg q]; exact e
  have nown : ∀ a, Old F.H0 a → ¬ ow a := fun a ha ⟨j, d, hj, sj⟩ => by
    cases R.slo j _ hj with
    | o e hn hz hw =>
      rw [e] at sj; cases sj
      exact hz ha
  have old : ∀ a, Old F.H0 a → Old F'.H0 a := fun a ha => by
    obtain ⟨o, ho, nt⟩ := R.there a ha
    exact ⟨o, h1 a o (nown a ha) ho, nt⟩
  refine ⟨F', ⟨rfl, rfl⟩, ⟨R.sub, Same.refl _, fun _ _ => rfl, fun a o e nt _ => (h0 a o e).2, fun a ⟨o, e, nt⟩ => ⟨o, (h0 a o e).2, nt⟩, R.ntb, fun S C L e => ?_, R.tab, R.len, fun i x hx => ?_, R.inj⟩,
    fun a o e nt ap => h1 a o (fun ⟨j, d, hj, sj⟩ => ap j d hj sj) e, rfl, fun σ' H' Hs' ρ' R' => ⟨R'.base, ?_⟩⟩
  · obtain ⟨q1, ⟨o1, o2, o3⟩, q2⟩ := R.rgo S C L e
    exact ⟨q1, ⟨old S o1, old C o2, old L o3⟩, q2⟩
  · cases R.slo i x hx with
    | u => exact .u
    | s e q => exact .s e q
    | o e hn hz q => exact .o e hn (fun ⟨o, eo, _⟩ => (h0 _ o eo).1 ⟨i, _, hx, e⟩) q
    | st e q => exact .st e q
  · refine ⟨R'.sub, R.base.trans R'.base, fun a ha => (R'.sep a (old a ha)).trans (R.sep a ha), fun a o e nt m => ?_, fun a ha => R'.there a (old a ha), R'.ntb, fun S C L e => ?_, R'.tab, R'.len, fun i x hx => ?_, R'.inj⟩
    · exact R'.frame a o (h1 a o (nown a ⟨o, e, nt⟩) (R.frame a o e nt m)) nt m
    · obtain ⟨q1, _, q2⟩ := R'.rgo S C L e
      obtain ⟨_, q3, _⟩ := R.rgo S C L e
      exact ⟨q1, q3, q2⟩
    · cases R'.slo i x hx with
      | u => exact .u
      | s e q => exact .s e q
      | o e hn hz q => exact .o e hn (fun ha => hz (old _ ha)) q
      | st e q => exact .st e q
theorem Rep.notMv (R : Rep K F Hs σ H ρ) {a : Addr} (h : ¬ Old F.H0 a) : ¬ F.mv a := fun ⟨S, C, L, e, z⟩ => by
  obtain ⟨_, ⟨o1, _, o3⟩, _⟩ := R.rgo S C L e
  rcases z with z | z
  · exact h (z ▸ o1)
  · exact h (z ▸ o3)
/-- a private list is still there behind a piece of code within -/
theorem Priv.kept {F' : Fm} {Hs' H' : Hp} {σ' : L2.St} {ρ' : En} {p : Addr} {ds : List PyData} (R : Rep K F Hs σ H ρ) (P : Priv K F Hs σ H ρ p (.list ds)) (kin : Kin F F')
    (inH : ∀ a o, H a = some o → (∀ ps, o ≠ .tbl ps) → (∀ (j : Nat) (d : PyData), ρ.sl[j]? = some (.o d) → σ[j]? ≠ some (some (.ref a))) → F'.H0 a = some o) (e0 : F'.Hs0 = Hs) (R' : Rep K F' Hs' σ' H' ρ') : Priv K F Hs' σ' H' ρ' p (.list ds) := by
  cases P with
  | mk hn h0 own ap =>
    cases own with
    | lst h hl =>
      have i0 := inH p _ h (lst_tbl _) ap
      have old : Old F'.H0 p := ⟨_, i0, lst_tbl _⟩
      have nm : ¬ F'.mv p := fun ⟨S, C, L, e, z⟩ => R.notMv h0 ⟨S, C, L, kin.2 ▸ e, z⟩
      refine ⟨by rw [R'.sep p old, e0]; exact hn, h0, .lst (R'.frame p _ i0 (lst_tbl _) nm) (hl.mono (by rw [← e0]; exact R'.base)), fun j e hj sj => ?_⟩
      cases R'.slo j _ hj with
      | o e1 hn' hz q =>
        rw [e1] at sj; cases sj
        exact hz old
theorem Priv.grow {Hs' H' : Hp} {p : Addr} {d : PyData} (P : Priv K F Hs σ H ρ p d) {T : List (Addr × Str)} (g : Grow T Hs H Hs' H') : Priv K F Hs' σ H' ρ p d :=
  ⟨(g.old p P.own.old).trans P.hn, P.h0, P.own.grow g.ext g.shr, P.apart⟩
/-- a private object is written -/
theorem Rep.writeP (R : Rep K F Hs σ H ρ) {p : Addr} {d : PyData} {o : HO} (P : Priv K F Hs σ H ρ p d) (ho : ∀ ps, o ≠ .tbl ps) : Rep K F Hs σ (upd H p o) ρ := by
  have ne : ∀ b, Old F.H0 b → b ≠ p := fun b hb z => P.h0 (z ▸ hb)
  have hOld := P.own.old
  refine ⟨fun b u hb => ?_, R.base, R.sep, fun b u hb nb m => ?_, fun b hb => ?_, R.ntb, fun S C L e => ?_, ?_, R.len, fun j x hj => ?_, R.inj⟩
  · rw [upd_ne (fun z => by rw [z, P.hn] at hb; cases hb)]; exact R.sub b u hb
  · rw [upd_ne (ne b ⟨u, hb, nb⟩)]; exact R.frame b u hb nb m
  · obtain ⟨u, hu, nu⟩ := R.there b hb
    exact ⟨u, by rw [upd_ne (ne b hb)]; exact hu, nu⟩
  · obtain ⟨⟨h1, cs, ls, h2, h3, h4, h5⟩, ⟨o1, o2, o3⟩, n1, n2, n3⟩ := R.rgo S C L e
    exact ⟨⟨by rw [upd_ne (ne S o1)]; exact h1, cs, ls, by rw [upd_ne (ne C o2)]; exact h2, by rw [upd_ne (ne L o3)]; exact h3, h4, h5⟩, ⟨o1, o2, o3⟩, n1, n2, n3⟩
  · intro q hq
    obtain ⟨ps, h1, h2, h3⟩ := R.tab q hq
    refine ⟨ps, ?_, h2, fun pos cv hcv => ?_⟩
    · rw [upd_ne (fun z => ?_)]
      · exact h1
      · rw [z] at h1
        obtain ⟨u, hu, nu⟩ := hOld
        rw [h1] at hu
        exact nu ps (Option.some.inj hu).symm
    · obtain ⟨c, e1, e2⟩ := h3 pos cv hcv
      refine ⟨c, e1, ?_⟩
      rw [upd_ne (fun z => ?_)]
      · exact e2
      · rw [z] at e2
        cases P.own with
        | lst q hl => rw [q] at e2; cases e2
        | dic q hl => rw [q] at e2; cases e2
  · cases R.slo j x hj with
    | u => exact .u
    | s e q => exact .s e q
    | @o b d2 e hn' h0' q' =>
      have hb : b ≠ p := fun z => P.apart j _ hj (by rw [e, z])
      refine .o e hn' h0' ?_
      cases q' with
      | lst q hl => exact .lst (by rw [upd_ne hb]; exact q) hl
      | dic q hl => exact .dic (by rw [upd_ne hb]; exact q) hl
    | st e q => exact .st e q
end

/-- the block's own slots cleared -/
def clr (ρ : En) : List Nat → En
  | [] => ρ
  | v :: vs => (clr ρ vs).put v .u
theorem set_len {α : Type} {l : List α} {i : Nat} {x : α} (h : ¬ i < l.length) : l.set i x = l := List.set_eq_of_length_le (Nat.le_of_not_lt h)
theorem Rep.clear {K : PySem.W.Frag} {F : Fm} {Hs H : Hp} {σ : L2.St} {ρ : En} (R : Rep K F Hs σ H ρ) : ∀ vs : List Nat, Rep K F Hs (wipe σ vs) H (clr ρ vs)
  | [] => R
  | v :: vs => by
    have ih := R.clear vs
    show Rep K F Hs ((wipe σ vs).set v none) H ((clr ρ vs).put v .u)
    by_cases h : v < (clr ρ vs).sl.length
    · exact (ih.drop v).anyU none (List.getElem?_set_self h)
    · have e1 : (wipe σ vs).set v none = wipe σ vs := set_len (by rw [ih.len]; exact h)
      have e2 : (clr ρ vs).put v .u = clr ρ vs := by unfold En.put; rw [set_len h]
      rw [e1, e2]; exact ih
theorem Rep.unclear1 {K : PySem.W.Frag} {F : Fm} {Hs H : Hp} {σ : L2.St} {ρ : En} {v : Nat} (R : Rep K F Hs (σ.set v none) H ρ) (e : ρ.put v .u = ρ) : Rep K F Hs σ H ρ := by
  by_cases h : v < ρ.sl.length
  · have hu : ρ.sl[v]? = some .u := by
      have z : (ρ.put v .u).sl[v]? = some .u := List.getElem?_set_self h
      rw [e] at z; exact z
    have hσ : v < σ.length := by have z := R.len; rw [List.length_set] at z; rw [z]; exact h
    have q := R.anyU (some σ[v] |>.getD none) hu
    rw [List.set_set] at q
    have es : σ.set v ((some σ[v]).getD none) = σ := by
      show σ.set v σ[v] = σ
      exact List.set_getElem_self hσ
    rw [es] at q
    exact q
  · have hσ : ¬ v < σ.length := by have z := R.len; rw [List.length_set] at z; rw [z]; exact h
    rw [set_len hσ] at R
    exact R
theorem put_comm (ρ : En) {i j : Nat} (x y : Sl) (h : i ≠ j) : (ρ.put i x).put j y = (ρ.put j y).put i x := by
  unfold En.put
  rw [List.set_comm _ _ h]
theorem clr_clr (ρ : En) : ∀ vs : List Nat, clr (clr ρ vs) vs = clr ρ vs ∧ ∀ v ∈ vs, (clr ρ vs).put v .u = clr ρ vs := by
  have key : ∀ vs : List Nat, ∀ ρ : En, ∀ v ∈ vs, (clr ρ vs).put v .u = clr ρ vs := by
    intro vs
    induction vs with
    | nil => intro ρ v hv; cases hv
    | cons a r ih =>
      intro ρ v hv
      show ((clr ρ r).put a .u).put v .u = (clr ρ r).put a .u
      by_cases e : a = v
      · subst e; exact put_put _ _ _ _
      · rw [put_comm _ _ _ e]
        rcases List.mem_cons.mp hv with h | h
        · exact absurd h.symm e
        · rw [ih ρ v h]
  intro vs
  refine ⟨?_, key vs ρ⟩
  have gen : ∀ ws : List Nat, (∀ v ∈ ws, v ∈ vs) → clr (clr ρ vs) ws = clr ρ vs := by
    intro ws
    induction ws with
    | nil => intro _; rfl
    | cons a r ih =>
      intro h
      show (clr (clr ρ vs) r).put a .u = clr ρ vs
      rw [ih fun v hv => h v (List.mem_cons_of_mem _ hv)]
      exact key vs ρ a (h a List.mem_cons_self)
  exact gen vs fun _ h => h
theorem Rep.unclear {K : PySem.W.Frag} {F : Fm} {Hs H : Hp} {σ : L2.St} {ρ : En} : ∀ (vs : List Nat), (∀ v ∈ vs, ρ.put v .u = ρ) → Rep K F Hs (wipe σ vs) H ρ → Rep K F Hs σ H ρ
  | [], _, R => R
  | v :: vs, h, R => Rep.unclear vs (fun w hw => h w (List.mem_cons_of_mem _ hw)) (Rep.unclear1 (σ := wipe σ vs) R (h v List.mem_cons_self))

/-- a target that stores into the block's own slots -/
def TgOk (X : Cx) (F : Fm) (g : TG) (gD : RG) (vs : List Nat) : Prop := ∀ (v : V) (σ : L2.St) (H Hs : Hp) (ρ : En) (d : PyData) (Q : L2.St → Hp → Prop) (Q2 : En → Prop), Rep X.K F Hs σ H ρ → Is X.K Hs v d → gD d ρ Q2 →
  (∀ ρ' σ', Rep X.K F Hs σ' H ρ' → wipe σ' vs = wipe σ vs → (∀ p x, Priv X.K F Hs σ H ρ p x → Priv X.K F Hs σ' H ρ' p x) → Q2 ρ' → Q σ' H) → g v σ H Q
theorem tg_name {X : Cx} {F : Fm} {i : Nat} : TgOk X F (gName i) (dgName i) [i] := fun v σ H Hs ρ d Q Q2 R iv q z =>
  z _ _ (R.setS i iv) (by show (σ.set i (some v)).set i none = σ.set i none; rw [List.set_set]) (fun p x P => P.put R iv) q
theorem tg_two {X : Cx} {F : Fm} {i j : Nat} (hij : i ≠ j) : TgOk X F (gTup X.K 2 (gCons (gName i) (gCons (gName j) gNil))) (dgTup 2 (dgCons (dgName i) (dgCons (dgName j) dgNil))) [i, j] := fun v σ H Hs ρ d Q Q2 R iv q z => by
  unfold dgTup at q
  split at q
  · obtain ⟨hl, q⟩ := q
    rename_i ds
    match ds, hl, iv, q with
    | [d1, d2], _, .tup h (.cons h1 (.cons h2 .nil)), q =>
      refine ⟨_, _, rfl, SqT.of (R.sub _ _ h), rfl, _, _, rfl, _, _, rfl, rfl, ?_⟩
      have R1 := R.setS i h1
      have R2 := R1.setS j h2
      refine z _ _ R2 ?_ (fun p x P => (P.put R h1).put R1 h2) q
      show (((σ.set i (some _)).set j (some _)).set j none).set i none = (σ.set j none).set i none
      rw [List.set_set, List.set_comm _ _ hij, List.set_set]
  · exact q.elim

def DTs (X : Cx) (F : Fm) (ifs : List Expr) (t : RT) : Prop := PTs X ifs (liftT X F t)
theorem pts_imp {X : Cx} {ifs : List Expr} {t t' : TT} (h : PTs X ifs t) (k : ∀ σ H Q, t' σ H Q → t σ H Q) : PTs X ifs t' := ⟨fun pins s σ H Q I q => h.run pins s σ H Q I (k σ H Q q)⟩
def dYes : RT := fun ρ Q => Q true ρ
theorem dts_nil {X : Cx} {F : Fm} : DTs X F [] dYes := pts_imp pts_nil fun σ H Q ⟨Hs, ρ, Q2, R, q, z⟩ => z true ρ q H Hs R (Same.refl _)
theorem dts_one {X : Cx} {F : Fm} {c : Expr} {t : RT} (h : DT X F c t) : DTs X F [c] t := pts_one h

/-- the turns of a comprehension -/
def lcW (gD : RG) (tt : RT) (te : RE) (vs : List Nat) (Q : PyData → En → Prop) : List PyData → List PyData → En → Prop
  | [], acc, ρ => Q (.list acc) ρ
  | d :: ds, acc, ρ => gD d ρ fun ρ1 => tt ρ1 fun b ρ2 => if b = true then te ρ2 fun y ρ3 => lcW gD tt te vs Q ds (acc ++ [y]) (clr ρ3 vs) else lcW gD tt te vs Q ds acc (clr ρ2 vs)
def dLc (ti : RI) (gD : RG) (tt : RT) (te : RE) (vs : List Nat) : RE := fun ρ Q => ti ρ fun items ρ1 => items.length ≤ 1000 ∧ lcW gD tt te vs Q items [] (clr ρ1 vs)
section
variable {X : Cx} {F : Fm} {elt tg iter : Expr} {ifs : List Expr} {scope : Scope} {own : List (Str × Nat)} {pos : Pos} {ti : RI} {g : TG} {gD : RG} {tt : RT} {te : RE}
/-- the block's readings, whatever ground they are at -/
def inT (X : Cx) (F : Fm) (t : RT) : TT := fun σ H Q => ∃ F', Kin F F' ∧ liftT X F' t σ H Q
def inE (X : Cx) (F : Fm) (t : RE) : TE := fun σ H Q => ∃ F', Kin F F' ∧ liftE X F' t σ H Q
theorem lc_main {σ : L2.St} {H : Hp} {Q : VK} (hg : TgOk X F g gD (own.map (·.2))) (q : liftF X F (dLc ti gD tt te (own.map (·.2))) σ H Q) : tLc (liftI X F ti) g (inT X F tt) (inE X F te) (own.map (·.2)) σ H Q := by
  obtain ⟨Hs, ρ, Q2, R, q, z⟩ := q
  generalize own.map (·.2) = vs at hg q ⊢
  refine ⟨Hs, ρ, _, R, q, fun items ρ1 ⟨hz, q1⟩ J H1 Hs1 R1 S1 it => ?_⟩
  intro D hD
  have Rw := R1.clear vs
  refine ⟨fun i m H2 => ∃ Hs2 ρ2 ds, Rep X.K F Hs2 (wipe σ vs) H2 ρ2 ∧ Same Hs1 Hs2 ∧ Priv X.K F Hs2 (wipe σ vs) H2 ρ2 D (.list ds) ∧ clr ρ2 vs = ρ2 ∧ i + m = items.length ∧ ds.length ≤ i ∧ lcW gD tt te vs Q2 (items.drop i) ds ρ2,
    ⟨items.length, Hs1, clr ρ1 vs, [], Rw.own hD, Same.refl _, Rw.priv hD .nil, (clr_clr ρ1 vs).1, Nat.zero_add _, Nat.le_refl _, q1⟩, ?_⟩
  rintro i m H2 ⟨Hs2, ρ2, ds, R2, S2, P2, ec, em, el, q2⟩
  have pc : ∀ v ∈ vs, ρ2.put v .u = ρ2 := fun v hv => by
    have z := (clr_clr ρ2 vs).2 v hv
    rw [ec] at z; exact z
  cases m with
  | zero =>
    have ei : i = items.length := em
    subst ei
    rw [List.drop_length] at q2
    have R2' := Rep.unclear vs pc R2
    refine .inl ⟨it.stop H2 (S2.trans R2.sub), z _ ρ2 q2 D H2 Hs2 R2' (S1.trans S2) ?_⟩
    refine ⟨P2.hn, P2.h0, P2.own, fun j e hj sj => ?_⟩
    cases R2.slo j _ hj with
    | o e1 _ _ _ =>
      have e2 := (wipe_some e1).1
      rw [e2] at sj
      cases sj
      exact P2.apart j e hj e1
  | succ m =>
    have hi : i < items.length := by omega
    obtain ⟨d, hd⟩ := getI hi
    have edrop : items.drop i = d :: items.drop (i + 1) := by
      have e0 := List.drop_eq_getElem_cons hi
      have e1 : items[i] = d := by
        have z := hd
        rw [List.getElem?_eq_getElem hi] at z
        exact Option.some.inj z
      rw [e0, e1]
    rw [edrop] at q2
    refine .inr ⟨it.go i H2 (S2.trans R2.sub) hi, fun H3 => ∃ Hs3 ρ3 ds3, Rep X.K F Hs3 (wipe σ vs) H3 ρ3 ∧ Same Hs1 Hs3 ∧ Priv X.K F Hs3 (wipe σ vs) H3 ρ3 D (.list ds3) ∧ clr ρ3 vs = ρ3 ∧ ds3.length ≤ i + 1 ∧ lcW gD tt te vs Q2 (items.drop (i + 1)) ds3 ρ3,
      fun H3 ⟨Hs3, ρ3, ds3, R3, S3, P3, e3, l3, q3⟩ => ⟨m, Nat.lt_succ_self m, Hs3, ρ3, ds3, R3, S3, P3, e3, by omega, l3, q3⟩, fun x H' y => ?_⟩
    have wIdem : ∀ (τ : L2.St), wipe τ vs = wipe σ vs → wipe τ vs = wipe σ vs := fun _ h => h
    -- the end of a turn: back to the cleared slots
    have back : ∀ {τ : L2.St} {H4 Hs4 : Hp} {ρ4 : En} {x4 : PyData}, wipe τ vs = wipe σ vs → Rep X.K F Hs4 τ H4 ρ4 → Priv X.K F Hs4 τ H4 ρ4 D x4 → Rep X.K F Hs4 (wipe σ vs) H4 (clr ρ4 vs) ∧ Priv X.K F Hs4 (wipe σ vs) H4 (clr ρ4 vs) D x4 := by
      intro τ H4 Hs4 ρ4 x4 ew R4 P4
      have R5 := R4.clear vs
      rw [ew] at R5
      refine ⟨R5, P4.hn, P4.h0, P4.own, fun j e hj sj => ?_⟩
      have hj4 : ρ4.sl[j]? = some (.o e) := by
        have gen : ∀ ws : List Nat, (clr ρ4 ws).sl[j]? = some (.o e) → ρ4.sl[j]? = some (.o e) := by
          intro ws
          induction ws with
          | nil => exact id
          | cons a r ih =>
            intro h
            rcases set_get h with ⟨_, _, z⟩ | ⟨_, h⟩
            · cases z
            · exact ih h
        exact gen vs hj
      rw [← ew] at sj
      exact P4.apart j e hj4 (wipe_some sj).1
    have fin : ∀ {Hs' : Hp}, Rep X.K F Hs' (wipe σ vs) H' ρ2 → Same Hs1 Hs' → Priv X.K F Hs' (wipe σ vs) H' ρ2 D (.list ds) → Is X.K Hs' x d → g x (wipe σ vs) H' fun σ2 H2 => wipe σ2 vs = wipe σ vs ∧ inT X F tt σ2 H2 fun b H3 =>
        if b = true then inE X F te σ2 H3 fun y H4 => ∃ acc, H4 D = some (.lst acc) ∧ acc.length < sizeLine ∧ (∃ Hs3 ρ3 ds3, Rep X.K F Hs3 (wipe σ vs) (upd H4 D (.lst (acc ++ [y]))) ρ3 ∧ Same Hs1 Hs3 ∧ Priv X.K F Hs3 (wipe σ vs) (upd H4 D (.lst (acc ++ [y]))) ρ3 D (.list ds3) ∧ clr ρ3 vs = ρ3 ∧ ds3.length ≤ i + 1 ∧ lcW gD tt te vs Q2 (items.drop (i + 1)) ds3 ρ3)
        else ∃ Hs3 ρ3 ds3, Rep X.K F Hs3 (wipe σ vs) H3 ρ3 ∧ Same Hs1 Hs3 ∧ Priv X.K F Hs3 (wipe σ vs) H3 ρ3 D (.list ds3) ∧ clr ρ3 vs = ρ3 ∧ ds3.length ≤ i + 1 ∧ lcW gD tt te vs Q2 (items.drop (i + 1)) ds3 ρ3 := by
      intro Hs' R' S' P' ix
      refine hg x (wipe σ vs) H' Hs' ρ2 d _ _ R' ix q2 fun ρ3 σ3 R3 ew hp q3 => ?_
      have ew' : wipe σ3 vs = wipe σ vs := by
        rw [ew]
        have gen : ∀ ws : List Nat, (∀ v ∈ ws, v ∈ vs) → wipe (wipe σ vs) ws = wipe σ vs := by
          intro ws
          induction ws with
          | nil => intro _; rfl
          | cons a r ih =>
            intro h
            show (wipe (wipe σ vs) r).set a none = wipe σ vs
            rw [ih fun v hv => h v (List.mem_cons_of_mem _ hv)]
            have ha : ∀ (us : List Nat), a ∈ us → (wipe σ us).set a none = wipe σ us := by
              intro us
              induction us with
              | nil => intro h; cases h
              | cons b t iht =>
                intro hb
                show ((wipe σ t).set b none).set a none = (wipe σ t).set b none
                by_cases e : b = a
                · subst e; rw [List.set_set]
                · rw [List.set_comm _ _ e]
                  rcases List.mem_cons.mp hb with z | z
                  · exact absurd z.symm e
                  · rw [iht z]
            exact ha vs (h a List.mem_cons_self)
        exact gen vs fun _ h => h
      have P3 := hp D _ P'
      refine ⟨ew', ?_⟩
      obtain ⟨F', kin, R3', inH, e0, out⟩ := R3.within
      refine ⟨F', kin, Hs', ρ3, _, R3', q3, fun b ρ4 q4 H4 Hs4 R4' S4 => ?_⟩
      have P4 := P3.kept R3 kin inH e0 R4'
      obtain ⟨_, R4⟩ := out _ _ _ _ R4'
      cases b with
      | false =>
        rw [if_neg Bool.false_ne_true] at q4
        simp only [Bool.false_eq_true, if_false]
        obtain ⟨R5, P5⟩ := back ew' R4 P4
        exact ⟨Hs4, _, ds, R5, S'.trans S4, P5, (clr_clr ρ4 vs).1, by omega, q4⟩
      | true =>
        rw [if_pos rfl] at q4
        simp only [if_true]
        obtain ⟨F5, kin5, R45, inH5, e05, out5⟩ := R4.within
        refine ⟨F5, kin5, Hs4, ρ4, _, R45, q4, fun yd ρ5 q5 yv H5 Hs5 R5' S5 iy => ?_⟩
        have P5 := P4.kept R4 kin5 inH5 e05 R5'
        obtain ⟨_, R5⟩ := out5 _ _ _ _ R5'
        obtain ⟨R6, P6⟩ := back ew' R5 P5
        cases P6 with
        | mk n6 h6 o6 a6 =>
          cases o6 with
          | @lst xs _ hx hl =>
            refine ⟨xs, hx, ?_, Hs5, _, ds ++ [yd], R6.writeP ⟨n6, h6, .lst hx hl, a6⟩ (lst_tbl _), S'.trans (S4.trans S5), ⟨n6, h6, .lst upd_same (hl.append (.one iy)), a6⟩, (clr_clr ρ5 vs).1, by simp; omega, q5⟩
            rw [hl.length]
            exact small1000 (by omega)
    rcases it.yld i H2 x H' d (S2.trans R2.sub) hd y with ⟨rfl, ix⟩ | ⟨T, xs, ds', rfl, hT, rfl, ixs, rfl⟩
    · exact fin R2 S2 P2 (ix.mono S2)
    · have gr := Grow.laid (o := .tup xs) R2.sub R2.ntb R2.tab hT (fun _ z => nomatch z)
      exact fin (R2.grow gr) (S2.trans gr.shr) (P2.grow gr) (.tup upd_same (ixs.mono (S2.trans gr.shr)))
theorem df_lc (hc : X.calm = true) (hN : X.N.Nodup) (hi : DI X F tg iter ti) (ok : BlkOk X.N X.env.scope scope own) (hgo : TgOk X F g gD (own.map (·.2)))
    (hg : ∀ (s : Shared) (H : Hp) (C : Addr) (cl : List (Str × Addr)) (fp : List Addr), PG (X.blk s H scope (compEnvC scope cl C X.env) fp) tg g)
    (ht : ∀ (s : Shared) (H : Hp) (C : Addr) (cl : List (Str × Addr)) (fp : List Addr) (F' : Fm), Kin F F' → DTs (X.blk s H scope (compEnvC scope cl C X.env) fp) F' ifs tt)
    (he : ∀ (s : Shared) (H : Hp) (C : Addr) (cl : List (Str × Addr)) (fp : List Addr) (F' : Fm), Kin F F' → DE (X.blk s H scope (compEnvC scope cl C X.env) fp) F' elt te) (hs : ∀ x, foldedSetIterable iter X.env x = pure x := by intro _; rfl) :
    DF X F (.ListComp elt [⟨tg, iter, ifs, 0⟩] scope pos) (dLc ti gD tt te (own.map (·.2))) :=
  pe_imp (pe_lc hc hN hi ok hg (tt := inT X F tt) (te := inE X F te) (fun s H C cl fp => ⟨fun pins s' σ' H' Q I ⟨F', k, q⟩ => (ht s H C cl fp F' k).run pins s' σ' H' Q I q⟩)
    (fun s H C cl fp => ⟨fun pins s' σ' H' Q I ⟨F', k, q⟩ => (he s H C cl fp F' k).run pins s' σ' H' Q I q⟩) hs) fun σ H Q q => lc_main hgo q
/-- name = [..] on one line, the name a plain local -/
theorem ds_setLc {ct : EK → Addr} {W : WX} {i : Nat} {y : Str} {py spos : Pos} (hc : X.calm = true) (hN : X.N.Nodup) (hy : X.N[i]? = some y) (hyl : X.env.scope.names.lookup y = some .local) (hsw : swapsWith (.ListComp elt [⟨tg, iter, ifs, 0⟩] scope pos) (some (.Name y py)) spos.line X.env = pure true)
    (hi : DI X F tg iter ti) (ok : BlkOk X.N X.env.scope scope own) (hgo : TgOk X F g gD (own.map (·.2)))
    (hg : ∀ (s : Shared) (H : Hp) (C : Addr) (cl : List (Str × Addr)) (fp : List Addr), PG (X.blk s H scope (compEnvC scope cl C X.env) fp) tg g)
    (ht : ∀ (s : Shared) (H : Hp) (C : Addr) (cl : List (Str × Addr)) (fp : List Addr) (F' : Fm), Kin F F' → DTs (X.blk s H scope (compEnvC scope cl C X.env) fp) F' ifs tt)
    (he : ∀ (s : Shared) (H : Hp) (C : Addr) (cl : List (Str × Addr)) (fp : List Addr) (F' : Fm), Kin F F' → DE (X.blk s H scope (compEnvC scope cl C X.env) fp) F' elt te) (hs : ∀ x, foldedSetIterable iter X.env x = pure x := by intro _; rfl) :
    DS X ct F W (.Assign [.Name y py] (.ListComp elt [⟨tg, iter, ifs, 0⟩] scope pos) spos) (dSetO i (dLc ti gD tt te (own.map (·.2)))) :=
  ps_imp (ps_setLc hc hN hy hyl hsw hi ok hg (tt := inT X F tt) (te := inE X F te) (fun s H C cl fp => ⟨fun pins s' σ' H' Q I ⟨F', k, q⟩ => (ht s H C cl fp F' k).run pins s' σ' H' Q I q⟩)
    (fun s H C cl fp => ⟨fun pins s' σ' H' Q I ⟨F', k, q⟩ => (he s H C cl fp F' k).run pins s' σ' H' Q I q⟩) hs) fun D σ H ⟨Hs, ρ, K, R, q, ok⟩ =>
    lc_main hgo ⟨Hs, ρ, fun d ρ' => K.nx (ρ'.put i (.o d)), R, q, fun d ρ' qd a H' Hs' R' S' P' => ok.nx _ qd _ H' Hs' (R'.setO i P') S'⟩
end
end Yd
set_option Elab.async false
set_option linter.all false
set_option maxRecDepth 100000
set_option maxHeartbeats 1000000
/-! # The plain-data layer: promises, calls -/
namespace Yd
open PySem PySem.Spec PyProof.Rows L2 LamX

abbrev Spc := List PyData → (PyData → Prop) → (Ex → Prop) → Prop
abbrev SpcS := List PyData → Nat → (PyData → Nat → Prop) → Prop
/-- a def that leaves all as it was -/
def spP (TT : List (Addr × Str) → Prop) (K : PySem.W.Frag) (ck : EK → Addr) (sp : Spc) : Sp := fun vs H Q E => ∃ T Hs ds Q2 R2, TT T ∧ Same Hs H ∧ NoTb Hs ∧ Tabs T H ∧ IsL K Hs vs ds ∧ sp ds Q2 R2 ∧
  (∀ d, Q2 d → ∀ v Hs' H', Grow T Hs H Hs' H' → Is K Hs' v d → Q v H') ∧ (∀ x, R2 x → ∀ cls dd Hs' H', Grow T Hs H Hs' H' → ExIs K ck Hs' H' cls dd x → E cls dd H')
/-- how things grow where the draws' state may turn -/
structure GrowS (T : List (Addr × Str)) (S L : Addr) (Hs H Hs' H' : Hp) : Prop where
  ext : ∀ b o, H b = some o → (∀ ps, o ≠ .tbl ps) → b ≠ S → b ≠ L → H' b = some o
  shr : Same Hs Hs'
  sub : Same Hs' H'
  ntb : NoTb Hs'
  old : ∀ a, Old H a → Hs' a = Hs a
  tab : Tabs T H'
/-- a def that takes the draws' state first -/
def spS (TT : List (Addr × Str) → Prop) (K : PySem.W.Frag) (sp : SpcS) : Sp := fun vs H Q _ => ∃ T Hs S C L g ws ds Q2, TT T ∧ vs = .ref S :: ws ∧ Same Hs H ∧ NoTb Hs ∧ Tabs T H ∧ IsL K Hs ws ds ∧ StOk H S C L g ∧ (Hs S = none ∧ Hs C = none ∧ Hs L = none) ∧ sp ds g Q2 ∧
  ∀ d g', Q2 d g' → ∀ v Hs' H', GrowS T S L Hs H Hs' H' → StOk H' S C L g' → Is K Hs' v d → Q v H'

theorem Rep.growS {K : PySem.W.Frag} {F : Fm} {Hs Hs' : Hp} {σ : L2.St} {H H' : Hp} {ρ : En} {S C L : Addr} {g : Nat} (R : Rep K F Hs σ H ρ) (e : F.rg = some (S, C, L)) (gr : GrowS F.T S L Hs H Hs' H') (st : StOk H' S C L g) : Rep K F Hs' σ H' ⟨ρ.sl, g⟩ := by
  obtain ⟨_, ⟨o1, o2, o3⟩, n1, n2, n3⟩ := R.rgo S C L e
  refine ⟨gr.sub, R.base.trans gr.shr, fun a h => (gr.old a (R.there a h)).trans (R.sep a h), fun a o h n m => ?_, fun a h => ?_, gr.ntb, fun S' C' L' e' => ?_, gr.tab, R.len, fun i x hx => ?_, R.inj⟩
  · exact gr.ext a o (R.frame a o h n m) n (fun z => m ⟨S, C, L, e, .inl z⟩) (fun z => m ⟨S, C, L, e, .inr z⟩)
  · obtain ⟨h1, cs, ls, h2, h3, _⟩ := st
    by_cases q1 : a = S
    · subst q1; exact ⟨_, h1, fun _ z => nomatch z⟩
    · by_cases q2 : a = L
      · subst q2; exact ⟨_, h3, fun _ z => nomatch z⟩
      · obtain ⟨o, ho, n⟩ := R.there a h
        exact ⟨o, gr.ext a o ho n q1 q2, n⟩
  · rw [e] at e'; cases e'
    exact ⟨st, ⟨o1, o2, o3⟩, (gr.old S (R.there S o1)).trans n1, (gr.old C (R.there C o2)).trans n2, (gr.old L (R.there L o3)).trans n3⟩
  · cases R.slo i x hx with
    | u => exact .u
    | s e h => exact .s e (h.mono gr.shr)
    | @o a d e2 hn h0 h =>
      have z1 : a ≠ S := fun z => h0 (z ▸ o1)
      have z2 : a ≠ L := fun z => h0 (z ▸ o3)
      refine .o e2 ((gr.old _ h.old).trans hn) h0 ?_
      cases h with
      | lst h hl => exact .lst (gr.ext _ _ h (lst_tbl _) z1 z2) (hl.mono gr.shr)
      | dic h hl => exact .dic (gr.ext _ _ h (dk_tbl _) z1 z2) (hl.mono gr.shr)
    | st e h => exact .st e h

/-! ## the entry of a def -/
def st0 (N : List Str) (ds : List PyData) : List Sl := ds.map Sl.s ++ List.replicate (N.length - ds.length) .u
def st0S (N : List Str) (ds : List PyData) : List Sl := .st :: (ds.map Sl.s ++ List.replicate (N.length - (ds.length + 1)) .u)
theorem tabs_nil {H : Hp} : Tabs [] H := fun p h => nomatch h
theorem start_get {N : List Str} {vs : List V} {i : Nat} {v : V} (h : vs[i]? = some v) : (L2.start N vs)[i]? = some (some v) := by
  have hi := (List.getElem?_eq_some_iff.mp h).1
  unfold L2.start
  rw [List.getElem?_append_left (by simpa using hi), List.getElem?_map, h]
  rfl
theorem map_s_get {N : List Str} {ds : List PyData} {i : Nat} {x : Sl} (h : (st0 N ds)[i]? = some x) : x = .u ∨ ∃ d, ds[i]? = some d ∧ x = .s d := by
  unfold st0 at h
  by_cases hi : i < ds.length
  · rw [List.getElem?_append_left (by simpa using hi), List.getElem?_map] at h
    obtain ⟨d, hd, rfl⟩ := Option.map_eq_some_iff.mp h
    exact .inr ⟨d, hd, rfl⟩
  · rw [List.getElem?_append_right (by simpa using hi)] at h
    rw [List.getElem?_replicate] at h
    split at h
    · exact .inl (Option.some.inj h).symm
    · cases h
theorem rep_start {K : PySem.W.Frag} {T : List (Addr × Str)} {Hs H : Hp} {N : List Str} {vs : List V} {ds : List PyData} (hs : Same Hs H) (nt : NoTb Hs) (ht : Tabs T H) (iv : IsL K Hs vs ds) (hl : ds.length ≤ N.length) :
    Rep K ⟨H, Hs, T, none⟩ Hs (L2.start N vs) H ⟨st0 N ds, 0⟩ where
  sub := hs
  base := Same.refl _
  sep := fun _ _ => rfl
  frame := fun _ _ e _ _ => e
  there := fun _ h => h
  ntb := nt
  rgo := fun S C L e => nomatch e
  tab := ht
  len := by
    unfold L2.start st0
    simp [iv.length]
  slo := fun i x hx => by
    rcases map_s_get hx with rfl | ⟨d, hd, rfl⟩
    · exact .u
    · obtain ⟨v, hv, iv'⟩ := iv.getD hd
      exact .s (start_get hv) iv'
  inj := fun i j d e a hi => by
    rcases map_s_get hi with z | ⟨_, _, z⟩ <;> cases z
theorem rep_startS {K : PySem.W.Frag} {T : List (Addr × Str)} {Hs H : Hp} {N : List Str} {ws : List V} {ds : List PyData} {S C L : Addr} {g : Nat} (hs : Same Hs H) (nt : NoTb Hs) (ht : Tabs T H) (iv : IsL K Hs ws ds) (hl : ds.length + 1 ≤ N.length)
    (st : StOk H S C L g) (hn : Hs S = none ∧ Hs C = none ∧ Hs L = none) : Rep K ⟨H, Hs, T, some (S, C, L)⟩ Hs (L2.start N (.ref S :: ws)) H ⟨st0S N ds, g⟩ where
  sub := hs
  base := Same.refl _
  sep := fun _ _ => rfl
  frame := fun _ _ e _ _ => e
  there := fun _ h => h
  ntb := nt
  rgo := fun S' C' L' e => by
    cases e
    obtain ⟨h1, cs, ls, h2, h3, h4, h5⟩ := st
    exact ⟨⟨h1, cs, ls, h2, h3, h4, h5⟩, ⟨⟨_, h1, fun _ z => nomatch z⟩, ⟨_, h2, fun _ z => nomatch z⟩, ⟨_, h3, fun _ z => nomatch z⟩⟩, hn⟩
  tab := ht
  len := by
    unfold L2.start st0S
    simp [iv.length]
  slo := fun i x hx => by
    cases i with
    | zero =>
      have e : x = .st := (Option.some.inj hx).symm
      subst e
      exact .st rfl rfl
    | succ i =>
      have hx : (ds.map Sl.s ++ List.replicate (N.length - (ds.length + 1)) .u)[i]? = some x := hx
      by_cases hi : i < ds.length
      · rw [List.getElem?_append_left (by simpa using hi), List.getElem?_map] at hx
        obtain ⟨d, hd, rfl⟩ := Option.map_eq_some_iff.mp hx
        obtain ⟨v, hv, iv'⟩ := iv.getD hd
        exact .s (start_get (i := i + 1) (by simpa using hv)) iv'
      · rw [List.getElem?_append_right (by simpa using hi), List.getElem?_replicate] at hx
        split at hx
        · cases hx; exact .u
        · cases hx
  inj := fun i j d e a hi => by
    cases i with
    | zero => cases hi
    | succ i =>
      have hx : (ds.map Sl.s ++ List.replicate (N.length - (ds.length + 1)) .u)[i]? = some (.o d) := hi
      by_cases hi : i < ds.length
      · rw [List.getElem?_append_left (by simpa using hi), List.getElem?_map] at hx
        obtain ⟨_, _, z⟩ := Option.map_eq_some_iff.mp hx
        cases z
      · rw [List.getElem?_append_right (by simpa using hi), List.getElem?_replicate] at hx
        split at hx
        · cases hx
        · cases hx

/-- behind a def: all grew -/
theorem Rep.done {K : PySem.W.Frag} {T : List (Addr × Str)} {Hs H Hs' H' : Hp} {σ' : L2.St} {ρ' : En} (R : Rep K ⟨H, Hs, T, none⟩ Hs' σ' H' ρ') : Grow T Hs H Hs' H' :=
  ⟨fun a o h n => R.frame a o h n (fun ⟨_, _, _, e, _⟩ => nomatch e), R.base, R.sub, R.ntb, R.sep, R.tab⟩
theorem Rep.doneS {K : PySem.W.Frag} {T : List (Addr × Str)} {Hs H Hs' H' : Hp} {σ' : L2.St} {ρ' : En} {S C L : Addr} (R : Rep K ⟨H, Hs, T, some (S, C, L)⟩ Hs' σ' H' ρ') : GrowS T S L Hs H Hs' H' ∧ StOk H' S C L ρ'.g :=
  ⟨⟨fun a o h n z1 z2 => R.frame a o h n (fun ⟨_, _, _, e, q⟩ => by cases e; rcases q with q | q; exact z1 q; exact z2 q), R.base, R.sub, R.ntb, R.sep, R.tab⟩, (R.rgo S C L rfl).1⟩

def defEnds (Q : PyData → Prop) (R : Ex → Prop) : Ends2 := { nx := fun _ => Q .none, rt := fun d _ => Q d, ex := fun x _ => R x }
def defEndsS (Q : PyData → Nat → Prop) : Ends2 := { nx := fun ρ => Q .none ρ.g, rt := fun d ρ => Q d ρ.g }
section
variable {P : Program} {w : World} {K : PySem.W.Frag} {mg : Str → Option Value} {base : Heap} {ck : EK → Addr} {TT : List (Addr × Str) → Prop}
/-- no exception is wished for -/
abbrev W0 : WX := fun _ _ _ _ => False
theorem liftS_start {X : Cx} {W : WX} {T : List (Addr × Str)} {Hs H : Hp} {N : List Str} {vs : List V} {ds : List PyData} {t : RS} {Q : VK} {Q2 : PyData → Prop} {R2 : Ex → Prop} (hs : Same Hs H) (nt : NoTb Hs) (ht : Tabs T H) (iv : IsL X.K Hs vs ds) (hl : ds.length ≤ N.length)
    (q : t (defEnds Q2 R2) ⟨st0 N ds, 0⟩) (hq : ∀ d, Q2 d → ∀ v Hs' H', Grow T Hs H Hs' H' → Is X.K Hs' v d → Q v H') (hW : ∀ x, R2 x → ∀ cls dd σ Hs' H', Grow T Hs H Hs' H' → ExIs X.K ck Hs' H' cls dd x → W cls dd σ H') :
    liftS X ck ⟨H, Hs, T, none⟩ W t { nx := fun _ H' => Q .non H', rt := Q } (L2.start N vs) H :=
  ⟨Hs, _, _, rep_start hs nt ht iv hl, q, ⟨fun ρ' q' σ' H' Hs' R' S' => hq _ q' _ Hs' H' R'.done .non, fun d ρ' q' v σ' H' Hs' R' S' i' => hq d q' v Hs' H' R'.done i', fun _ z => z.elim, fun _ z => z.elim,
    fun x ρ' q' cls d σ' H' Hs' R' S' i' => hW x q' cls d σ' Hs' H' R'.done i'⟩⟩
/-- THE RULE for a def that raises nothing -/
theorem dfn {x qual : Str} {st : Stmt} {f : Addr} {fd : FuncData} {N ps : List Str} {k : Nat} {sp : Spc} (Fn : Fun K x qual st f fd) (S : FnScope N ps (defScope st)) (hl : ∀ ds Q R, sp ds Q R → ds.length = ps.length)
    (hb : ∀ (cdv : Value) (A : Around) (outer : List Env) (s : Shared) (H : Hp) (E : XK) (F : Fm), Room k (A.deeper (envOfC qual (defScope st) s.heap.objs.size f cdv)) → TT F.T →
      ∃ t, DSs (cxOf CX0 P w K mg base N qual (defScope st) f cdv A outer s H E).nox ck F W0 (defBody st) t ∧ ∀ ds Q R, sp ds Q R → t (defEnds Q fun _ => False) ⟨st0 N ds, 0⟩) :
    FnOk P w K mg base CX0 (k + 1) f fd ps (spP TT K ck sp) := by
  have hN : ps.length ≤ N.length := by have := congrArg List.length S.pre; rw [List.length_take] at this; omega
  refine Fn.ok S (fun vs H Q E ⟨T, Hs, ds, Q2, R2, _, _, _, _, iv, q, _⟩ => by rw [iv.length]; exact hl _ _ _ q) fun cdv A outer s H vs Q E hr ⟨T, Hs, ds, Q2, R2, hT, hs, nt, ht, iv, q, hq, _⟩ => ?_
  obtain ⟨t, h, ht'⟩ := hb cdv A outer s H E ⟨H, Hs, T, none⟩ hr hT
  exact ⟨_, h, liftS_start (X := (cxOf CX0 P w K mg base N qual (defScope st) f cdv A outer s H E).nox) hs nt ht iv (by rw [hl _ _ _ q]; exact hN) (ht' ds Q2 R2 q) hq fun x z => z.elim⟩
/-- THE RULE for a def that may raise -/
theorem dfnX {x qual : Str} {st : Stmt} {f : Addr} {fd : FuncData} {N ps : List Str} {k : Nat} {sp : Spc} (Fn : Fun K x qual st f fd) (S : FnScope N ps (defScope st)) (hl : ∀ ds Q R, sp ds Q R → ds.length = ps.length)
    (hb : ∀ (cdv : Value) (A : Around) (outer : List Env) (s : Shared) (H : Hp) (E : XK) (F : Fm), Room k (A.deeper (envOfC qual (defScope st) s.heap.objs.size f cdv)) → TT F.T →
      ∃ t, DSs (cxOf (L2.CX P w) P w K mg base N qual (defScope st) f cdv A outer s H E) ck F (fun cls d _ H => E cls d H) (defBody st) t ∧ ∀ ds Q R, sp ds Q R → t (defEnds Q R) ⟨st0 N ds, 0⟩) :
    FnOk P w K mg base (L2.CX P w) (k + 1) f fd ps (spP TT K ck sp) := by
  have hN : ps.length ≤ N.length := by have := congrArg List.length S.pre; rw [List.length_take] at this; omega
  refine Fn.okX S (fun vs H Q E ⟨T, Hs, ds, Q2, R2, _, _, _, _, iv, q, _⟩ => by rw [iv.length]; exact hl _ _ _ q) fun cdv A outer s H vs Q E hr ⟨T, Hs, ds, Q2, R2, hT, hs, nt, ht, iv, q, hq, hx⟩ => ?_
  obtain ⟨t, h, ht'⟩ := hb cdv A outer s H E ⟨H, Hs, T, none⟩ hr hT
  exact ⟨_, h, liftS_start (X := cxOf (L2.CX P w) P w K mg base N qual (defScope st) f cdv A outer s H E) hs nt ht iv (by rw [hl _ _ _ q]; exact hN) (ht' ds Q2 R2 q) hq fun x z cls dd σ Hs' H' g i => hx x z cls dd Hs' H' g i⟩
/-- THE RULE for a def over the draws' state -/
theorem dfnS {x qual : Str} {st : Stmt} {f : Addr} {fd : FuncData} {N ps : List Str} {k : Nat} {sp : SpcS} (Fn : Fun K x qual st f fd) (S : FnScope N ps (defScope st)) (hl : ∀ ds g Q, sp ds g Q → ds.length + 1 = ps.length)
    (hb : ∀ (cdv : Value) (A : Around) (outer : List Env) (s : Shared) (H : Hp) (E : XK) (F : Fm), Room k (A.deeper (envOfC qual (defScope st) s.heap.objs.size f cdv)) → TT F.T →
      ∃ t, DSs (cxOf CX0 P w K mg base N qual (defScope st) f cdv A outer s H E).nox ck F W0 (defBody st) t ∧ ∀ ds g Q, sp ds g Q → t (defEndsS Q) ⟨st0S N ds, g⟩) :
    FnOk P w K mg base CX0 (k + 1) f fd ps (spS TT K sp) := by
  have hN : ps.length ≤ N.length := by have := congrArg List.length S.pre; rw [List.length_take] at this; omega
  refine Fn.ok S (fun vs H Q E ⟨T, Hs, Sa, C, L, g, ws, ds, Q2, _, ev, _, _, _, iv, _, _, q, _⟩ => by rw [ev, List.length_cons, iv.length]; exact hl _ _ _ q) fun cdv A outer s H vs Q E hr ⟨T, Hs, Sa, C, L, g, ws, ds, Q2, hT, ev, hs, nt, ht, iv, so, hn, q, hq⟩ => ?_
  subst ev
  obtain ⟨t, h, ht'⟩ := hb cdv A outer s H E ⟨H, Hs, T, some (Sa, C, L)⟩ hr hT
  refine ⟨_, h, Hs, _, _, rep_startS hs nt ht iv (by rw [hl _ _ _ q]; exact hN) so hn, ht' ds g Q2 q, ⟨fun ρ' q' σ' H' Hs' R' S' => ?_, fun d ρ' q' v σ' H' Hs' R' S' i' => ?_, fun _ z => z.elim, fun _ z => z.elim, fun _ _ z => z.elim⟩⟩
  · obtain ⟨g1, g2⟩ := R'.doneS
    exact hq _ _ q' _ Hs' H' g1 g2 .non
  · obtain ⟨g1, g2⟩ := R'.doneS
    exact hq d _ q' v Hs' H' g1 g2 i'
end

/-! ## calls -/
section
variable {X : Cx} {ck : EK → Addr} {F : Fm} {W : WX} {CX : CXT} {k : Nat} {f : Addr} {fd : FuncData} {ps : List Str} {sp : Spc} {sps : SpcS} {x : Str} {p pos : Pos} {e : Expr} {es : List Expr} {t : RA} {TT : List (Addr × Str) → Prop}
def dCall (sp : Spc) (t : RA) : RE := fun ρ Q => t ρ fun ds ρ' => sp ds (fun d => Q d ρ') (fun _ => False)
theorem de_call (hT : TT F.T) (Fn : FnOk X.prog X.w X.K X.mg X.base CX k f fd ps (spP TT X.K ck sp)) (hr : Room k X.A) (hg : Gl X x) (hm : X.mg x = some (.ref f)) (hk : PySem.W.keepIn X.K (.ref f) = true) (hb : Binds X.K fd ps []) (hx : Passes CX X E0)
    (ha : DA X F (e :: es) t) (hdb : (x == ("__debug__" : Str)) = false := by decide) (he : starEach (e :: es) X.env = (false, eval e X.env) :: starEach es X.env := by rfl) (hpl : (backTo pos (starEach es X.env)).any (·.1) = false := by rfl) :
    DE X F (.Call (.Name x p) (e :: es) [] pos) (dCall sp t) :=
  pe_imp (pe_call (dvs := []) Fn hr hg hm hk hb .nil hx ha hdb he hpl) fun σ H Q ⟨Hs, ρ, Q2, R, q, z⟩ => ⟨Hs, ρ, _, R, q, fun ds ρ1 q1 vs H1 Hs1 R1 S1 i1 => by
    show spP TT X.K ck sp (vs ++ []) H1 Q E0
    rw [List.append_nil]
    exact ⟨F.T, Hs1, ds, _, _, hT, R1.sub, R1.ntb, R1.tab, i1, q1, fun d qd v Hs' H' g iv => z d ρ1 qd v H' Hs' (R1.grow g) (S1.trans g.shr) iv, fun _ h => h.elim⟩⟩
def dCallS (i : Nat) (sp : SpcS) (t : RA) : RE := fun ρ Q => ρ.sl[i]? = some .st ∧ t ρ fun ds ρ' => sp ds ρ'.g fun d g => Q d ⟨ρ'.sl, g⟩
theorem st_is {K : PySem.W.Frag} {Hs H : Hp} {σ : L2.St} {ρ : En} {i : Nat} (R : Rep K F Hs σ H ρ) (h : ρ.sl[i]? = some .st) : ∃ S C L, F.rg = some (S, C, L) ∧ σ[i]? = some (some (.ref S)) := by
  cases R.slo i _ h with
  | st e q => exact ⟨_, _, _, e, q⟩
theorem de_callS (i : Nat) {y : Str} {py : Pos} (hT : TT F.T) (Fn : FnOk X.prog X.w X.K X.mg X.base CX k f fd ps (spS TT X.K sps)) (hr : Room k X.A) (hg : Gl X x) (hm : X.mg x = some (.ref f)) (hk : PySem.W.keepIn X.K (.ref f) = true) (hb : Binds X.K fd ps []) (hx : Passes CX X E0)
    (ha : DA X F es t) (hN : X.N[i]? = some y := by rfl) (hv : Vis X.env.scope y := by first | exact Or.inl rfl | exact Or.inr (Or.inl rfl) | exact Or.inr (Or.inr rfl)) (hd : (y == ("__debug__" : Str)) = false := by decide) (hcd : (y == ("__classdict__" : Str)) = false := by decide)
    (hdb : (x == ("__debug__" : Str)) = false := by decide) (he : starEach (.Name y py :: es) X.env = (false, eval (.Name y py) X.env) :: starEach es X.env := by rfl) (hpl : (backTo pos (starEach es X.env)).any (·.1) = false := by rfl) :
    DE X F (.Call (.Name x p) (.Name y py :: es) [] pos) (dCallS i sps t) :=
  pe_imp (pe_call (dvs := []) Fn hr hg hm hk hb .nil hx (pa_cons (pe_var hN hv hd hcd) ha he) hdb he hpl) fun σ H Q ⟨Hs, ρ, Q2, R, ⟨hs, q⟩, z⟩ => by
    obtain ⟨S, C, L, eg, es⟩ := st_is R hs
    refine ⟨.ref S, es, Hs, ρ, _, R, q, fun ds ρ1 q1 vs H1 Hs1 R1 S1 i1 => ?_⟩
    show spS TT X.K sps ((V.ref S :: vs) ++ []) H1 Q E0
    rw [List.append_nil]
    obtain ⟨so, _, hn⟩ := R1.rgo S C L eg
    exact ⟨F.T, Hs1, S, C, L, ρ1.g, vs, ds, _, hT, rfl, R1.sub, R1.ntb, R1.tab, i1, so, hn, q1, fun d g qd v Hs' H' gr so' iv => z d _ qd v H' Hs' (R1.growS eg gr so') (S1.trans gr.shr) iv⟩
/-- a call that may raise -/
abbrev RX := En → (PyData → En → Prop) → (Ex → En → Prop) → Prop
def liftX (X : Cx) (ck : EK → Addr) (F : Fm) (W : WX) (t : RX) : TE := fun σ H Q => ∃ Hs ρ Q2 R2, Rep X.K F Hs σ H ρ ∧ t ρ Q2 R2 ∧ (∀ d ρ', Q2 d ρ' → ∀ v H' Hs', Rep X.K F Hs' σ H' ρ' → Same Hs Hs' → Is X.K Hs' v d → Q v H') ∧
  ∀ x ρ', R2 x ρ' → ∀ cls d H' Hs', Rep X.K F Hs' σ H' ρ' → Same Hs Hs' → ExIs X.K ck Hs' H' cls d x → W cls d σ H'
def DX (X : Cx) (ck : EK → Addr) (F : Fm) (W : WX) (e : Expr) (t : RX) : Prop := PE X e (liftX X ck F W t)
def dCallX (sp : Spc) (t : RA) : RX := fun ρ Q R => t ρ fun ds ρ' => sp ds (fun d => Q d ρ') (fun x => R x ρ')
theorem dx_call (hT : TT F.T) (tk : Takes X W) (Fn : FnOk X.prog X.w X.K X.mg X.base (L2.CX X.prog X.w) k f fd ps (spP TT X.K ck sp)) (hr : Room k X.A) (hg : Gl X x) (hm : X.mg x = some (.ref f)) (hk : PySem.W.keepIn X.K (.ref f) = true) (hb : Binds X.K fd ps [])
    (ha : DA X F (e :: es) t) (hdb : (x == ("__debug__" : Str)) = false := by decide) (he : starEach (e :: es) X.env = (false, eval e X.env) :: starEach es X.env := by rfl) (hpl : (backTo pos (starEach es X.env)).any (·.1) = false := by rfl) :
    DX X ck F W (.Call (.Name x p) (e :: es) [] pos) (dCallX sp t) :=
  pe_imp (pe_callS (E := WE W) Fn hr hg hm hk hb (fun σ => passAt tk σ) ha hdb he hpl) fun σ H Q ⟨Hs, ρ, Q2, R2, R, q, z, zx⟩ => ⟨Hs, ρ, _, R, q, fun ds ρ1 q1 vs H1 Hs1 R1 S1 i1 =>
    ⟨F.T, Hs1, ds, _, _, hT, R1.sub, R1.ntb, R1.tab, i1, q1, fun d qd v Hs' H' g iv => z d ρ1 qd v H' Hs' (R1.grow g) (S1.trans g.shr) iv, fun x qx cls dd Hs' H' g ix => zx x ρ1 qx cls dd H' Hs' (R1.grow g) (S1.trans g.shr) ix⟩⟩
def dDropX (t : RX) : RS := fun K ρ => t ρ (fun _ ρ' => K.nx ρ') K.ex
theorem ds_exprX {t : RX} (h : DX X ck F W e t) (hs : swapsWith e none pos.line X.env = pure false := by rfl) : DS X ck F W (.Expr e pos) (dDropX t) :=
  ps_imp (ps_expr h hs) fun D σ H ⟨Hs, ρ, K, R, q, ok⟩ => ⟨Hs, ρ, _, _, R, q, fun d ρ1 q1 v H1 Hs1 R1 S1 i1 => ok.nx ρ1 q1 σ H1 Hs1 R1 S1, fun x ρ1 q1 cls d H1 Hs1 R1 S1 i1 => ok.ex x ρ1 q1 cls d σ H1 Hs1 R1 S1 i1⟩
def dSetX (i : Nat) (t : RX) : RS := fun K ρ => t ρ (fun d ρ' => K.nx (ρ'.put i (.s d))) K.ex
theorem ds_setX {t : RX} {i : Nat} (hN : X.N.Nodup) (hi : X.N[i]? = some x) (hx : Loc X.env.scope x) (he : DX X ck F W e t) (hs : swapsWith e (some (.Name x p)) pos.line X.env = pure false := by rfl) (hf : X.fn x = true ∨ X.env.scope.names.lookup x = some .local := by first | exact .inl rfl | exact .inr rfl | assumption) :
    DS X ck F W (.Assign [.Name x p] e pos) (dSetX i t) :=
  ps_imp (ps_set hN hi hx he hs hf) fun D σ H ⟨Hs, ρ, K, R, q, ok⟩ => ⟨Hs, ρ, _, _, R, q, fun d ρ1 q1 v H1 Hs1 R1 S1 i1 => ok.nx _ q1 _ H1 Hs1 (R1.setS i i1) S1, fun x ρ1 q1 cls d H1 Hs1 R1 S1 i1 => ok.ex x ρ1 q1 cls d σ H1 Hs1 R1 S1 i1⟩
end
end Yd
set_option Elab.async false
set_option linter.all false
set_option maxRecDepth 100000
set_option maxHeartbeats 1000000
/-! # The plain-data layer: defs by their names; further rules -/
namespace Yd
open PySem PySem.Spec PyProof.Rows L2 LamX

abbrev T1 : List (Addr × Str) → Prop := fun _ => True
/-- the module's name x stands for a def that keeps sp -/
structure Ok (P : Program) (w : World) (K : PySem.W.Frag) (mg : Str → Option Value) (base : Heap) (CX : CXT) (k : Nat) (x : Str) (ps : List Str) (sp : Sp) : Prop where
  ex : ∃ fd, FnOk P w K mg base CX k (He.ga K x) fd ps sp ∧ L2.Binds K fd ps []
  kp : PySem.W.keepIn K (.ref (He.ga K x)) = true
  at_ : mg x = some (.ref (He.ga K x))
section
variable {X : Cx} {ck : EK → Addr} {F : Fm} {W : WX} {CX : CXT} {j k : Nat} {ps : List Str} {sp : Spc} {sps : SpcS} {x : Str} {p pos : Pos} {e : Expr} {es : List Expr} {t : RA}
theorem dc (o : Ok X.prog X.w X.K X.mg X.base CX0 j x ps (spP T1 X.K ck sp)) (hr : Room k X.A) (ha : DA X F (e :: es) t) (hjk : j ≤ k := by decide) (hg : Gl X x := by rfl)
    (hdb : (x == ("__debug__" : Str)) = false := by decide) (he : starEach (e :: es) X.env = (false, eval e X.env) :: starEach es X.env := by rfl) (hpl : (backTo pos (starEach es X.env)).any (·.1) = false := by rfl) :
    DE X F (.Call (.Name x p) (e :: es) [] pos) (dCall sp t) := by
  obtain ⟨⟨fd, Fn, hb⟩, kp, at_⟩ := o
  exact de_call trivial Fn (hr.mono hjk) hg at_ kp hb pass0 ha hdb he hpl
/-- of a def that may raise, where it does not -/
theorem dcL (o : Ok X.prog X.w X.K X.mg X.base (L2.CX X.prog X.w) j x ps (spP T1 X.K ck sp)) (hr : Room k X.A) (ha : DA X F (e :: es) t) (hjk : j ≤ k := by decide) (hg : Gl X x := by rfl)
    (hdb : (x == ("__debug__" : Str)) = false := by decide) (he : starEach (e :: es) X.env = (false, eval e X.env) :: starEach es X.env := by rfl) (hpl : (backTo pos (starEach es X.env)).any (·.1) = false := by rfl) :
    DE X F (.Call (.Name x p) (e :: es) [] pos) (dCall sp t) := by
  obtain ⟨⟨fd, Fn, hb⟩, kp, at_⟩ := o
  exact de_call trivial Fn (hr.mono hjk) hg at_ kp hb passL ha hdb he hpl
/-- of a def over the draws' state, which stands in slot i -/
theorem dcS (i : Nat) {y : Str} {py : Pos} (o : Ok X.prog X.w X.K X.mg X.base CX0 j x ps (spS T1 X.K sps)) (hr : Room k X.A) (ha : DA X F es t) (hjk : j ≤ k := by decide) (hg : Gl X x := by rfl)
    (hN : X.N[i]? = some y := by rfl) (hv : Vis X.env.scope y := by first | exact Or.inl rfl | exact Or.inr (Or.inl rfl) | exact Or.inr (Or.inr rfl)) (hd : (y == ("__debug__" : Str)) = false := by decide) (hcd : (y == ("__classdict__" : Str)) = false := by decide)
    (hdb : (x == ("__debug__" : Str)) = false := by decide) (he : starEach (.Name y py :: es) X.env = (false, eval (.Name y py) X.env) :: starEach es X.env := by rfl) (hpl : (backTo pos (starEach es X.env)).any (·.1) = false := by rfl) :
    DE X F (.Call (.Name x p) (.Name y py :: es) [] pos) (dCallS i sps t) := by
  obtain ⟨⟨fd, Fn, hb⟩, kp, at_⟩ := o
  exact de_callS i trivial Fn (hr.mono hjk) hg at_ kp hb pass0 ha hN hv hd hcd hdb he hpl
/-- of a def that may raise -/
theorem dcX (tk : Takes X W) (o : Ok X.prog X.w X.K X.mg X.base (L2.CX X.prog X.w) j x ps (spP T1 X.K ck sp)) (hr : Room k X.A) (ha : DA X F (e :: es) t) (hjk : j ≤ k := by decide) (hg : Gl X x := by rfl)
    (hdb : (x == ("__debug__" : Str)) = false := by decide) (he : starEach (e :: es) X.env = (false, eval e X.env) :: starEach es X.env := by rfl) (hpl : (backTo pos (starEach es X.env)).any (·.1) = false := by rfl) :
    DX X ck F W (.Call (.Name x p) (e :: es) [] pos) (dCallX sp t) := by
  obtain ⟨⟨fd, Fn, hb⟩, kp, at_⟩ := o
  exact dx_call trivial tk Fn (hr.mono hjk) hg at_ kp hb ha hdb he hpl
end

/-! ## steps of a reading -/
theorem if_of {c : Bool} {A B : Prop} (h1 : c = true → A) (h2 : c = false → B) : if c = true then A else B := by
  cases c with
  | true => rw [if_pos rfl]; exact h1 rfl
  | false => rw [if_neg Bool.false_ne_true]; exact h2 rfl
theorem if_t {c : Bool} {A B : Prop} (hc : c = true) (h : A) : if c = true then A else B := by
  rw [if_pos hc]; exact h
theorem if_f {c : Bool} {A B : Prop} (hc : c = false) (h : B) : if c = true then A else B := by
  rw [hc, if_neg Bool.false_ne_true]; exact h
/-- a loop by an invariant over what is still to come -/
theorem for_ind {g : RG} {tb : RS} {K : Ends2} (I : List PyData → En → Prop) {items : List PyData} {ρ : En} (h0 : I items ρ) (hN : ∀ ρ, I [] ρ → K.nx ρ)
    (hS : ∀ d ds ρ, I (d :: ds) ρ → ∀ N : En → Prop, (∀ ρ', I ds ρ' → N ρ') → g d ρ fun ρ1 => tb { K with nx := N, ct := N, bk := K.nx } ρ1) : forW g tb K items ρ := by
  induction items generalizing ρ with
  | nil => exact hN ρ h0
  | cons d ds ih => exact hS d ds ρ h0 (forW g tb K ds) fun ρ' h => ih h
/-- a comprehension likewise -/
theorem lc_ind {gD : RG} {tt : RT} {te : RE} {vs : List Nat} {Q : PyData → En → Prop} (I : List PyData → List PyData → En → Prop) {items acc : List PyData} {ρ : En} (h0 : I items acc ρ) (hN : ∀ acc ρ, I [] acc ρ → Q (.list acc) ρ)
    (hS : ∀ d ds acc ρ, I (d :: ds) acc ρ → ∀ N : List PyData → En → Prop, (∀ acc ρ', I ds acc ρ' → N acc ρ') → gD d ρ fun ρ1 => tt ρ1 fun b ρ2 => if b = true then te ρ2 fun y ρ3 => N (acc ++ [y]) (clr ρ3 vs) else N acc (clr ρ2 vs)) : lcW gD tt te vs Q items acc ρ := by
  induction items generalizing acc ρ with
  | nil => exact hN acc ρ h0
  | cons d ds ih => exact hS d ds acc ρ h0 (fun acc ρ => lcW gD tt te vs Q ds acc ρ) fun acc ρ' h => ih h
end Yd
set_option Elab.async false
set_option linter.all false
set_option maxRecDepth 100000
set_option maxHeartbeats 1000000
/-! # The program's defs by their names -/
namespace Yd
open PySem PySem.Spec PyProof.Rows L2 LamX

def top (i : Nat) : Stmt := PySem.Challenge.pw_stairyard_k45_whole_least_and_most_more.main.body.getD i (.Pass ⟨0, 0, 0, 0⟩)
def inTop (i : Nat) : Stmt := match top i with
  | .ClassDef _ _ _ b _ _ _ _ _ _ _ => b.getD 0 (.Pass ⟨0, 0, 0, 0⟩)
  | _ => .Pass ⟨0, 0, 0, 0⟩
abbrev s_is_from : Stmt := top 11
abbrev s_need_units : Stmt := top 12
abbrev s_is_row : Stmt := top 15
abbrev s_zeros_of : Stmt := top 16
abbrev s_stair_from : Stmt := top 17
abbrev s_row_from : Stmt := top 18
abbrev s_up_stair : Stmt := top 20
abbrev s_down_stair : Stmt := top 21
abbrev s_is_deed : Stmt := top 25
abbrev s_is_step : Stmt := top 26
abbrev s_need_world : Stmt := top 27
abbrev s_counts_of : Stmt := top 28
abbrev s_counts_at : Stmt := top 29
abbrev s_first_walks : Stmt := top 31
abbrev s_great_walks : Stmt := top 32
abbrev s_ring_from : Stmt := top 33
abbrev s_asking_ring : Stmt := top 34
abbrev s_ring_found : Stmt := top 35
abbrev s_need_step : Stmt := top 37
abbrev s_with_deed : Stmt := top 38
abbrev s_dropped : Stmt := top 39
abbrev s_greatest_over : Stmt := top 40
abbrev s_greatest_rings : Stmt := top 41
abbrev s_least_more : Stmt := top 42
abbrev s_most_more : Stmt := top 43
abbrev s__law_mixed : Stmt := top 45
abbrev s__law_begin : Stmt := top 46
abbrev s__law_draw : Stmt := top 47
abbrev s__law_units : Stmt := top 48
abbrev s__law_sizes : Stmt := top 49
abbrev s__law_row : Stmt := top 50
abbrev s__law_beside : Stmt := top 51
abbrev s__law_stair : Stmt := top 52
abbrev s__law_row_of : Stmt := top 53
abbrev s__law_inside : Stmt := top 54
abbrev s__law_some_world : Stmt := top 55
abbrev s__law_count : Stmt := top 56
abbrev s__law_further : Stmt := top 57
abbrev s__law_leading : Stmt := top 58
abbrev s__law_needs_of : Stmt := top 59
abbrev s__law_like : Stmt := top 60
abbrev s__law_put_in : Stmt := top 61
abbrev s__law_lives : Stmt := top 62
abbrev s__law_heard : Stmt := top 63
abbrev s__law_rows_near : Stmt := top 64
abbrev s__law_more_right : Stmt := top 65
abbrev s__law_word : Stmt := top 66
abbrev s__law_by_rows : Stmt := top 67
abbrev s_law : Stmt := top 68
abbrev s_init_BadUnits : Stmt := inTop 2
abbrev s_init_BadWorld : Stmt := inTop 3
abbrev s_init_BadIndex : Stmt := inTop 4
abbrev s_init_BadParameter : Stmt := inTop 5
abbrev s_init_NoRow : Stmt := inTop 6
abbrev s_init_TooGreat : Stmt := inTop 7
def dd (x : Str) (s : Stmt) : He.DefD := ⟨(x, none), x, x, defArgs s, defBody s, defScope s, [], []⟩
def di (x q : Str) (s : Stmt) : He.DefD := ⟨(x, some "__init__"), "__init__", q, defArgs s, defBody s, defScope s, [], []⟩
def fn : List He.DefD := [dd "is_from" s_is_from,
  dd "need_units" s_need_units,
  dd "is_row" s_is_row,
  dd "zeros_of" s_zeros_of,
  dd "stair_from" s_stair_from,
  dd "row_from" s_row_from,
  dd "up_stair" s_up_stair,
  dd "down_stair" s_down_stair,
  dd "is_deed" s_is_deed,
  dd "is_step" s_is_step,
  dd "need_world" s_need_world,
  dd "counts_of" s_counts_of,
  dd "counts_at" s_counts_at,
  dd "first_walks" s_first_walks,
  dd "great_walks" s_great_walks,
  dd "ring_from" s_ring_from,
  dd "asking_ring" s_asking_ring,
  dd "ring_found" s_ring_found,
  dd "need_step" s_need_step,
  dd "with_deed" s_with_deed,
  dd "dropped" s_dropped,
  dd "greatest_over" s_greatest_over,
  dd "greatest_rings" s_greatest_rings,
  dd "least_more" s_least_more,
  dd "most_more" s_most_more,
  dd "_law_mixed" s__law_mixed,
  dd "_law_begin" s__law_begin,
  dd "_law_draw" s__law_draw,
  dd "_law_units" s__law_units,
  dd "_law_sizes" s__law_sizes,
  dd "_law_row" s__law_row,
  dd "_law_beside" s__law_beside,
  dd "_law_stair" s__law_stair,
  dd "_law_row_of" s__law_row_of,
  dd "_law_inside" s__law_inside,
  dd "_law_some_world" s__law_some_world,
  dd "_law_count" s__law_count,
  dd "_law_further" s__law_further,
  dd "_law_leading" s__law_leading,
  dd "_law_needs_of" s__law_needs_of,
  dd "_law_like" s__law_like,
  dd "_law_put_in" s__law_put_in,
  dd "_law_lives" s__law_lives,
  dd "_law_heard" s__law_heard,
  dd "_law_rows_near" s__law_rows_near,
  dd "_law_more_right" s__law_more_right,
  dd "_law_word" s__law_word,
  dd "_law_by_rows" s__law_by_rows,
  dd "law" s_law,
  di "BadUnits" "BadUnits.__init__" s_init_BadUnits,
  di "BadWorld" "BadWorld.__init__" s_init_BadWorld,
  di "BadIndex" "BadIndex.__init__" s_init_BadIndex,
  di "BadParameter" "BadParameter.__init__" s_init_BadParameter,
  di "NoRow" "NoRow.__init__" s_init_NoRow,
  di "TooGreat" "TooGreat.__init__" s_init_TooGreat]
def fa : List He.Fa := [.glo "is_from", .glo "need_units", .glo "is_row", .glo "zeros_of", .glo "stair_from", .glo "row_from", .glo "up_stair", .glo "down_stair", .glo "is_deed", .glo "is_step", .glo "need_world", .glo "counts_of", .glo "counts_at", .glo "first_walks", .glo "great_walks", .glo "ring_from", .glo "asking_ring", .glo "ring_found", .glo "need_step", .glo "with_deed", .glo "dropped", .glo "greatest_over", .glo "greatest_rings", .glo "least_more", .glo "most_more", .glo "_law_mixed", .glo "_law_begin", .glo "_law_draw", .glo "_law_units", .glo "_law_sizes", .glo "_law_row", .glo "_law_beside", .glo "_law_stair", .glo "_law_row_of", .glo "_law_inside", .glo "_law_some_world", .glo "_law_count", .glo "_law_further", .glo "_law_leading", .glo "_law_needs_of", .glo "_law_like", .glo "_law_put_in", .glo "_law_lives", .glo "_law_heard", .glo "_law_rows_near", .glo "_law_more_right", .glo "_law_word", .glo "_law_by_rows", .glo "law", .glo "YardError", .glo "BadUnits", .glo "BadWorld", .glo "BadIndex", .glo "BadParameter", .glo "NoRow", .glo "TooGreat", .free "len", .free "isinstance", .free "max", .free "min", .free "enumerate", .free "zip", .free "range", .free "reversed", .free "sorted", .free "tuple", .free "list", .free "int", .free "str", .free "bool", .free "repr", .free "ValueError", .int "MOST_UNITS" 3, .int "MOST_RATIO" 10, .int "MOST_PIECES" (10 ^ 60), .int "MOST_PLACES" 8, .int "MOST_STEPS" 14, .exc "YardError", .meth "BadUnits" "__init__", .meth "BadWorld" "__init__", .meth "BadIndex" "__init__", .meth "BadParameter" "__init__", .meth "NoRow" "__init__", .meth "TooGreat" "__init__", .noat "BadUnits" "value", .noat "BadWorld" "place", .noat "BadIndex" "value", .noat "BadParameter" "value", .noat "TooGreat" "most", .exm "BadUnits" "BadUnits" true, .exm "BadUnits" "BadWorld" false, .exm "BadUnits" "BadIndex" false, .exm "BadUnits" "BadParameter" false, .exm "BadUnits" "NoRow" false, .exm "BadUnits" "TooGreat" false, .exm "BadWorld" "BadUnits" false, .exm "BadWorld" "BadWorld" true, .exm "BadWorld" "BadIndex" false, .exm "BadWorld" "BadParameter" false, .exm "BadWorld" "NoRow" false, .exm "BadWorld" "TooGreat" false, .exm "BadIndex" "BadUnits" false, .exm "BadIndex" "BadWorld" false, .exm "BadIndex" "BadIndex" true, .exm "BadIndex" "BadParameter" false, .exm "BadIndex" "NoRow" false, .exm "BadIndex" "TooGreat" false, .exm "BadParameter" "BadUnits" false, .exm "BadParameter" "BadWorld" false, .exm "BadParameter" "BadIndex" false, .exm "BadParameter" "BadParameter" true, .exm "BadParameter" "NoRow" false, .exm "BadParameter" "TooGreat" false, .exm "NoRow" "BadUnits" false, .exm "NoRow" "BadWorld" false, .exm "NoRow" "BadIndex" false, .exm "NoRow" "BadParameter" false, .exm "NoRow" "NoRow" true, .exm "NoRow" "TooGreat" false, .exm "TooGreat" "BadUnits" false, .exm "TooGreat" "BadWorld" false, .exm "TooGreat" "BadIndex" false, .exm "TooGreat" "BadParameter" false, .exm "TooGreat" "NoRow" false, .exm "TooGreat" "TooGreat" true]
/-- a class over YardError with its own __init__ -/
def exoB (K : PySem.W.Frag) (C : Addr) : Bool := match K.lookup C with
  | some ⟨.type ty, _, .cls cd, sl⟩ => (match cd.mro, sl.toList with
    | .ref C2 :: bm, [_, _, _, _, some (.builtin n), _] => decide (ty = "type") && decide (C2 = C) && decide (n = "ValueError.__new__") && !cd.hasDel && cd.hasDict && PySem.HandSPX.refsVE bm
    | _, _ => false)
  | _ => false
theorem exoB_ok {K : PySem.W.Frag} {C : Addr} (q : exoB K C = true) : ∃ nm q N bs bm sn sub ab col dd k0 k1 k2 k3 k5, K.lookup C = some (excClassObj nm q C N bs bm true sn sub ab col dd k0 k1 k2 k3 k5 "ValueError.__new__") ∧ PySem.HandSPX.refsVE bm = true := by
  unfold exoB at q
  split at q
  · rename_i ty dd cd sl ho
    split at q
    · rename_i C2 bm k0 k1 k2 k3 n k5 hm hs
      simp only [Bool.and_eq_true, decide_eq_true_eq, Bool.not_eq_true'] at q
      obtain ⟨⟨⟨⟨⟨q0, q1⟩, q2⟩, q3⟩, q4⟩, q5⟩ := q
      obtain ⟨nm, bs, mro, ns, qn, hd, sn, sub, ab, col, dl⟩ := cd
      dsimp only at hm q3 q4
      subst q0 q1 q2 hm q3 q4
      have hsl : sl = #[k0, k1, k2, k3, some (.builtin "ValueError.__new__"), k5] := by
        cases sl with
        | mk l => exact congrArg Array.mk hs
      subst hsl
      exact ⟨nm, qn, ns, bs, bm, sn, sub, ab, col, dd, k0, k1, k2, k3, k5, ho, q5⟩
    · cases q
  · cases q
/-- what is read of the rest -/
def exK0 (K : PySem.W.Frag) : Bool :=
  ((["BadUnits", "BadWorld", "BadIndex", "BadParameter", "NoRow", "TooGreat"] : List Str).all fun x : Str =>
    He.eqO (PySem.W.findIn K (.ref (He.ga K x)) "__getattribute__") (some (some (.builtin "BaseException.__getattribute__"))) &&
    He.eqO (PySem.W.findIn K (.ref (He.ga K x)) "__getattr__") (some none) &&
    He.eqO (PySem.W.findIn K (.ref (He.ga K x)) "__setattr__") (some (some (.builtin "object.__setattr__"))) &&
    decide (PySem.W.typeIn K (.ref (He.ma K (He.ga K x) "__init__")) = some (.type "function")) &&
    exoB K (He.ga K x) && PySem.W.keepIn K (.ref (He.ga K x)) && decide (PySem.W.subIn K (.ref (He.ga K x)) (.type "BaseException") = some true) &&
    decide (PySem.W.typeIn K (.ref (He.ga K x)) = some (.type "type")) &&
    PySem.W.hasDictIn K (He.ga K x)) &&
  (He.eqO (PySem.W.findIn K (.ref (He.ga K "YardError")) "__init__") (some (some (.builtin "ValueError.__init__"))) &&
   decide (PySem.W.typeIn K (.ref (He.ga K "YardError")) = some (.type "type")) &&
   He.eqO (PySem.W.specialIn K (.ref (He.ga K "YardError")) "__getattribute__") (some (some (.builtin "type.__getattribute__"))) &&
   PySem.W.readsIn K (He.ga K "YardError") (.type "type") && (match PySem.W.findCls K (.ref (He.ga K "YardError")) (.type "type") "__init__" with
    | some (.val (.builtin n)) => decide (n = "ValueError.__init__")
    | _ => false))
def tf : List He.Defn := [("law", none), ("_law_more_right", none), ("_law_by_rows", none)]
/-- .. and the tables of the three defs with lambdas are three -/
def exK (K : PySem.W.Frag) : Bool := exK0 K && decide (((tf.map fun p => (He.cT K p).2) : List Addr).Nodup)
/-- what the head leaves, told of the module's names -/
structure G (K : PySem.W.Frag) (mg : Str → Option Value) : Prop where
  ex : ∃ (w : World) (h : Heap), K.In h ∧ h.Ns mainGlobals mg ∧ He.SaysX fa fn [] tf exK w h K
section
variable {K : PySem.W.Frag} {mg : Str → Option Value}
theorem G.glo (g : G K mg) (i : Nat) {x : Str} (h : fa[i]? = some (.glo x) := by rfl) : mg x = some (.ref (He.ga K x)) := by
  obtain ⟨w, hp, X, N, c⟩ := g.ex
  exact He.glo_ok X N (c.t.d.fact i h)
theorem G.free (g : G K mg) (i : Nat) {x : Str} (h : fa[i]? = some (.free x) := by rfl) : mg x = none := by
  obtain ⟨w, hp, X, N, c⟩ := g.ex
  exact He.free_ok X N (c.t.d.fact i h)
theorem G.int (g : G K mg) (i : Nat) {x : Str} {n : Int} (h : fa[i]? = some (.int x n) := by rfl) : ∃ t, mg x = some (.int n t) := by
  obtain ⟨w, hp, X, N, c⟩ := g.ex
  exact He.int_ok X N (c.t.d.fact i h)
theorem G.fact (g : G K mg) (i : Nat) {f : He.Fa} (h : fa[i]? = some f := by rfl) : f.ok K = true := by
  obtain ⟨w, hp, X, N, c⟩ := g.ex
  exact c.t.d.fact i h
theorem G.fun_ (g : G K mg) (i : Nat) {x : Str} {s : Stmt} (h : fn[i]? = some (dd x s) := by rfl) : ∃ fd, L2.Fun K x x s (He.ga K x) fd := by
  obtain ⟨w, hp, X, N, c⟩ := g.ex
  obtain ⟨fd, F⟩ := c.t.d.def_ i h
  exact ⟨fd, He5.fun_of F⟩
theorem G.init (g : G K mg) (i : Nat) {x q : Str} {s : Stmt} (h : fn[i]? = some (di x q s) := by rfl) : ∃ fd, L2.Fun K "__init__" q s (He.ma K (He.ga K x) "__init__") fd := by
  obtain ⟨w, hp, X, N, c⟩ := g.ex
  obtain ⟨fd, F⟩ := c.t.d.def_ i h
  exact ⟨fd, He5.fun_of F⟩

theorem g_is_from (g : G K mg) : mg "is_from" = some (.ref (He.ga K "is_from")) := g.glo 0
theorem g_need_units (g : G K mg) : mg "need_units" = some (.ref (He.ga K "need_units")) := g.glo 1
theorem g_is_row (g : G K mg) : mg "is_row" = some (.ref (He.ga K "is_row")) := g.glo 2
theorem g_zeros_of (g : G K mg) : mg "zeros_of" = some (.ref (He.ga K "zeros_of")) := g.glo 3
theorem g_stair_from (g : G K mg) : mg "stair_from" = some (.ref (He.ga K "stair_from")) := g.glo 4
theorem g_row_from (g : G K mg) : mg "row_from" = some (.ref (He.ga K "row_from")) := g.glo 5
theorem g_up_stair (g : G K mg) : mg "up_stair" = some (.ref (He.ga K "up_stair")) := g.glo 6
theorem g_down_stair (g : G K mg) : mg "down_stair" = some (.ref (He.ga K "down_stair")) := g.glo 7
theorem g_is_deed (g : G K mg) : mg "is_deed" = some (.ref (He.ga K "is_deed")) := g.glo 8
theorem g_is_step (g : G K mg) : mg "is_step" = some (.ref (He.ga K "is_step")) := g.glo 9
theorem g_need_world (g : G K mg) : mg "need_world" = some (.ref (He.ga K "need_world")) := g.glo 10
theorem g_counts_of (g : G K mg) : mg "counts_of" = some (.ref (He.ga K "counts_of")) := g.glo 11
theorem g_counts_at (g : G K mg) : mg "counts_at" = some (.ref (He.ga K "counts_at")) := g.glo 12
theorem g_first_walks (g : G K mg) : mg "first_walks" = some (.ref (He.ga K "first_walks")) := g.glo 13
theorem g_great_walks (g : G K mg) : mg "great_walks" = some (.ref (He.ga K "great_walks")) := g.glo 14
theorem g_ring_from (g : G K mg) : mg "ring_from" = some (.ref (He.ga K "ring_from")) := g.glo 15
theorem g_asking_ring (g : G K mg) : mg "asking_ring" = some (.ref (He.ga K "asking_ring")) := g.glo 16
theorem g_ring_found (g : G K mg) : mg "ring_found" = some (.ref (He.ga K "ring_found")) := g.glo 17
theorem g_need_step (g : G K mg) : mg "need_step" = some (.ref (He.ga K "need_step")) := g.glo 18
theorem g_with_deed (g : G K mg) : mg "with_deed" = some (.ref (He.ga K "with_deed")) := g.glo 19
theorem g_dropped (g : G K mg) : mg "dropped" = some (.ref (He.ga K "dropped")) := g.glo 20
theorem g_greatest_over (g : G K mg) : mg "greatest_over" = some (.ref (He.ga K "greatest_over")) := g.glo 21
theorem g_greatest_rings (g : G K mg) : mg "greatest_rings" = some (.ref (He.ga K "greatest_rings")) := g.glo 22
theorem g_least_more (g : G K mg) : mg "least_more" = some (.ref (He.ga K "least_more")) := g.glo 23
theorem g_most_more (g : G K mg) : mg "most_more" = some (.ref (He.ga K "most_more")) := g.glo 24
theorem g__law_mixed (g : G K mg) : mg "_law_mixed" = some (.ref (He.ga K "_law_mixed")) := g.glo 25
theorem g__law_begin (g : G K mg) : mg "_law_begin" = some (.ref (He.ga K "_law_begin")) := g.glo 26
theorem g__law_draw (g : G K mg) : mg "_law_draw" = some (.ref (He.ga K "_law_draw")) := g.glo 27
theorem g__law_units (g : G K mg) : mg "_law_units" = some (.ref (He.ga K "_law_units")) := g.glo 28
theorem g__law_sizes (g : G K mg) : mg "_law_sizes" = some (.ref (He.ga K "_law_sizes")) := g.glo 29
theorem g__law_row (g : G K mg) : mg "_law_row" = some (.ref (He.ga K "_law_row")) := g.glo 30
theorem g__law_beside (g : G K mg) : mg "_law_beside" = some (.ref (He.ga K "_law_beside")) := g.glo 31
theorem g__law_stair (g : G K mg) : mg "_law_stair" = some (.ref (He.ga K "_law_stair")) := g.glo 32
theorem g__law_row_of (g : G K mg) : mg "_law_row_of" = some (.ref (He.ga K "_law_row_of")) := g.glo 33
theorem g__law_inside (g : G K mg) : mg "_law_inside" = some (.ref (He.ga K "_law_inside")) := g.glo 34
theorem g__law_some_world (g : G K mg) : mg "_law_some_world" = some (.ref (He.ga K "_law_some_world")) := g.glo 35
theorem g__law_count (g : G K mg) : mg "_law_count" = some (.ref (He.ga K "_law_count")) := g.glo 36
theorem g__law_further (g : G K mg) : mg "_law_further" = some (.ref (He.ga K "_law_further")) := g.glo 37
theorem g__law_leading (g : G K mg) : mg "_law_leading" = some (.ref (He.ga K "_law_leading")) := g.glo 38
theorem g__law_needs_of (g : G K mg) : mg "_law_needs_of" = some (.ref (He.ga K "_law_needs_of")) := g.glo 39
theorem g__law_like (g : G K mg) : mg "_law_like" = some (.ref (He.ga K "_law_like")) := g.glo 40
theorem g__law_put_in (g : G K mg) : mg "_law_put_in" = some (.ref (He.ga K "_law_put_in")) := g.glo 41
theorem g__law_lives (g : G K mg) : mg "_law_lives" = some (.ref (He.ga K "_law_lives")) := g.glo 42
theorem g__law_heard (g : G K mg) : mg "_law_heard" = some (.ref (He.ga K "_law_heard")) := g.glo 43
theorem g__law_rows_near (g : G K mg) : mg "_law_rows_near" = some (.ref (He.ga K "_law_rows_near")) := g.glo 44
theorem g__law_more_right (g : G K mg) : mg "_law_more_right" = some (.ref (He.ga K "_law_more_right")) := g.glo 45
theorem g__law_word (g : G K mg) : mg "_law_word" = some (.ref (He.ga K "_law_word")) := g.glo 46
theorem g__law_by_rows (g : G K mg) : mg "_law_by_rows" = some (.ref (He.ga K "_law_by_rows")) := g.glo 47
theorem g_law (g : G K mg) : mg "law" = some (.ref (He.ga K "law")) := g.glo 48
theorem g_YardError (g : G K mg) : mg "YardError" = some (.ref (He.ga K "YardError")) := g.glo 49
theorem g_BadUnits (g : G K mg) : mg "BadUnits" = some (.ref (He.ga K "BadUnits")) := g.glo 50
theorem g_BadWorld (g : G K mg) : mg "BadWorld" = some (.ref (He.ga K "BadWorld")) := g.glo 51
theorem g_BadIndex (g : G K mg) : mg "BadIndex" = some (.ref (He.ga K "BadIndex")) := g.glo 52
theorem g_BadParameter (g : G K mg) : mg "BadParameter" = some (.ref (He.ga K "BadParameter")) := g.glo 53
theorem g_NoRow (g : G K mg) : mg "NoRow" = some (.ref (He.ga K "NoRow")) := g.glo 54
theorem g_TooGreat (g : G K mg) : mg "TooGreat" = some (.ref (He.ga K "TooGreat")) := g.glo 55
theorem f_len (g : G K mg) : mg "len" = none := g.free 56
theorem f_isinstance (g : G K mg) : mg "isinstance" = none := g.free 57
theorem f_max (g : G K mg) : mg "max" = none := g.free 58
theorem f_min (g : G K mg) : mg "min" = none := g.free 59
theorem f_enumerate (g : G K mg) : mg "enumerate" = none := g.free 60
theorem f_zip (g : G K mg) : mg "zip" = none := g.free 61
theorem f_range (g : G K mg) : mg "range" = none := g.free 62
theorem f_reversed (g : G K mg) : mg "reversed" = none := g.free 63
theorem f_sorted (g : G K mg) : mg "sorted" = none := g.free 64
theorem f_tuple (g : G K mg) : mg "tuple" = none := g.free 65
theorem f_list (g : G K mg) : mg "list" = none := g.free 66
theorem f_int (g : G K mg) : mg "int" = none := g.free 67
theorem f_str (g : G K mg) : mg "str" = none := g.free 68
theorem f_bool (g : G K mg) : mg "bool" = none := g.free 69
theorem f_repr (g : G K mg) : mg "repr" = none := g.free 70
theorem f_ValueError (g : G K mg) : mg "ValueError" = none := g.free 71
theorem c_MOST_UNITS (g : G K mg) : ∃ t, mg "MOST_UNITS" = some (.int 3 t) := g.int 72
theorem c_MOST_RATIO (g : G K mg) : ∃ t, mg "MOST_RATIO" = some (.int 10 t) := g.int 73
theorem c_MOST_PIECES (g : G K mg) : ∃ t, mg "MOST_PIECES" = some (.int (10 ^ 60) t) := g.int 74
theorem c_MOST_PLACES (g : G K mg) : ∃ t, mg "MOST_PLACES" = some (.int 8 t) := g.int 75
theorem c_MOST_STEPS (g : G K mg) : ∃ t, mg "MOST_STEPS" = some (.int 14 t) := g.int 76
theorem d_is_from (g : G K mg) : ∃ fd, L2.Fun K "is_from" "is_from" s_is_from (He.ga K "is_from") fd := g.fun_ 0
theorem d_need_units (g : G K mg) : ∃ fd, L2.Fun K "need_units" "need_units" s_need_units (He.ga K "need_units") fd := g.fun_ 1
theorem d_is_row (g : G K mg) : ∃ fd, L2.Fun K "is_row" "is_row" s_is_row (He.ga K "is_row") fd := g.fun_ 2
theorem d_zeros_of (g : G K mg) : ∃ fd, L2.Fun K "zeros_of" "zeros_of" s_zeros_of (He.ga K "zeros_of") fd := g.fun_ 3
theorem d_stair_from (g : G K mg) : ∃ fd, L2.Fun K "stair_from" "stair_from" s_stair_from (He.ga K "stair_from") fd := g.fun_ 4
theorem d_row_from (g : G K mg) : ∃ fd, L2.Fun K "row_from" "row_from" s_row_from (He.ga K "row_from") fd := g.fun_ 5
theorem d_up_stair (g : G K mg) : ∃ fd, L2.Fun K "up_stair" "up_stair" s_up_stair (He.ga K "up_stair") fd := g.fun_ 6
theorem d_down_stair (g : G K mg) : ∃ fd, L2.Fun K "down_stair" "down_stair" s_down_stair (He.ga K "down_stair") fd := g.fun_ 7
theorem d_is_deed (g : G K mg) : ∃ fd, L2.Fun K "is_deed" "is_deed" s_is_deed (He.ga K "is_deed") fd := g.fun_ 8
theorem d_is_step (g : G K mg) : ∃ fd, L2.Fun K "is_step" "is_step" s_is_step (He.ga K "is_step") fd := g.fun_ 9
theorem d_need_world (g : G K mg) : ∃ fd, L2.Fun K "need_world" "need_world" s_need_world (He.ga K "need_world") fd := g.fun_ 10
theorem d_counts_of (g : G K mg) : ∃ fd, L2.Fun K "counts_of" "counts_of" s_counts_of (He.ga K "counts_of") fd := g.fun_ 11
theorem d_counts_at (g : G K mg) : ∃ fd, L2.Fun K "counts_at" "counts_at" s_counts_at (He.ga K "counts_at") fd := g.fun_ 12
theorem d_first_walks (g : G K mg) : ∃ fd, L2.Fun K "first_walks" "first_walks" s_first_walks (He.ga K "first_walks") fd := g.fun_ 13
theorem d_great_walks (g : G K mg) : ∃ fd, L2.Fun K "great_walks" "great_walks" s_great_walks (He.ga K "great_walks") fd := g.fun_ 14
theorem d_ring_from (g : G K mg) : ∃ fd, L2.Fun K "ring_from" "ring_from" s_ring_from (He.ga K "ring_from") fd := g.fun_ 15
theorem d_asking_ring (g : G K mg) : ∃ fd, L2.Fun K "asking_ring" "asking_ring" s_asking_ring (He.ga K "asking_ring") fd := g.fun_ 16
theorem d_ring_found (g : G K mg) : ∃ fd, L2.Fun K "ring_found" "ring_found" s_ring_found (He.ga K "ring_found") fd := g.fun_ 17
theorem d_need_step (g : G K mg) : ∃ fd, L2.Fun K "need_step" "need_step" s_need_step (He.ga K "need_step") fd := g.fun_ 18
theorem d_with_deed (g : G K mg) : ∃ fd, L2.Fun K "with_deed" "with_deed" s_with_deed (He.ga K "with_deed") fd := g.fun_ 19
theorem d_dropped (g : G K mg) : ∃ fd, L2.Fun K "dropped" "dropped" s_dropped (He.ga K "dropped") fd := g.fun_ 20
theorem d_greatest_over (g : G K mg) : ∃ fd, L2.Fun K "greatest_over" "greatest_over" s_greatest_over (He.ga K "greatest_over") fd := g.fun_ 21
theorem d_greatest_rings (g : G K mg) : ∃ fd, L2.Fun K "greatest_rings" "greatest_rings" s_greatest_rings (He.ga K "greatest_rings") fd := g.fun_ 22
theorem d_least_more (g : G K mg) : ∃ fd, L2.Fun K "least_more" "least_more" s_least_more (He.ga K "least_more") fd := g.fun_ 23
theorem d_most_more (g : G K mg) : ∃ fd, L2.Fun K "most_more" "most_more" s_most_more (He.ga K "most_more") fd := g.fun_ 24
theorem d__law_mixed (g : G K mg) : ∃ fd, L2.Fun K "_law_mixed" "_law_mixed" s__law_mixed (He.ga K "_law_mixed") fd := g.fun_ 25
theorem d__law_begin (g : G K mg) : ∃ fd, L2.Fun K "_law_begin" "_law_begin" s__law_begin (He.ga K "_law_begin") fd := g.fun_ 26
theorem d__law_draw (g : G K mg) : ∃ fd, L2.Fun K "_law_draw" "_law_draw" s__law_draw (He.ga K "_law_draw") fd := g.fun_ 27
theorem d__law_units (g : G K mg) : ∃ fd, L2.Fun K "_law_units" "_law_units" s__law_units (He.ga K "_law_units") fd := g.fun_ 28
theorem d__law_sizes (g : G K mg) : ∃ fd, L2.Fun K "_law_sizes" "_law_sizes" s__law_sizes (He.ga K "_law_sizes") fd := g.fun_ 29
theorem d__law_row (g : G K mg) : ∃ fd, L2.Fun K "_law_row" "_law_row" s__law_row (He.ga K "_law_row") fd := g.fun_ 30
theorem d__law_beside (g : G K mg) : ∃ fd, L2.Fun K "_law_beside" "_law_beside" s__law_beside (He.ga K "_law_beside") fd := g.fun_ 31
theorem d__law_stair (g : G K mg) : ∃ fd, L2.Fun K "_law_stair" "_law_stair" s__law_stair (He.ga K "_law_stair") fd := g.fun_ 32
theorem d__law_row_of (g : G K mg) : ∃ fd, L2.Fun K "_law_row_of" "_law_row_of" s__law_row_of (He.ga K "_law_row_of") fd := g.fun_ 33
theorem d__law_inside (g : G K mg) : ∃ fd, L2.Fun K "_law_inside" "_law_inside" s__law_inside (He.ga K "_law_inside") fd := g.fun_ 34
theorem d__law_some_world (g : G K mg) : ∃ fd, L2.Fun K "_law_some_world" "_law_some_world" s__law_some_world (He.ga K "_law_some_world") fd := g.fun_ 35
theorem d__law_count (g : G K mg) : ∃ fd, L2.Fun K "_law_count" "_law_count" s__law_count (He.ga K "_law_count") fd := g.fun_ 36
theorem d__law_further (g : G K mg) : ∃ fd, L2.Fun K "_law_further" "_law_further" s__law_further (He.ga K "_law_further") fd := g.fun_ 37
theorem d__law_leading (g : G K mg) : ∃ fd, L2.Fun K "_law_leading" "_law_leading" s__law_leading (He.ga K "_law_leading") fd := g.fun_ 38
theorem d__law_needs_of (g : G K mg) : ∃ fd, L2.Fun K "_law_needs_of" "_law_needs_of" s__law_needs_of (He.ga K "_law_needs_of") fd := g.fun_ 39
theorem d__law_like (g : G K mg) : ∃ fd, L2.Fun K "_law_like" "_law_like" s__law_like (He.ga K "_law_like") fd := g.fun_ 40
theorem d__law_put_in (g : G K mg) : ∃ fd, L2.Fun K "_law_put_in" "_law_put_in" s__law_put_in (He.ga K "_law_put_in") fd := g.fun_ 41
theorem d__law_lives (g : G K mg) : ∃ fd, L2.Fun K "_law_lives" "_law_lives" s__law_lives (He.ga K "_law_lives") fd := g.fun_ 42
theorem d__law_heard (g : G K mg) : ∃ fd, L2.Fun K "_law_heard" "_law_heard" s__law_heard (He.ga K "_law_heard") fd := g.fun_ 43
theorem d__law_rows_near (g : G K mg) : ∃ fd, L2.Fun K "_law_rows_near" "_law_rows_near" s__law_rows_near (He.ga K "_law_rows_near") fd := g.fun_ 44
theorem d__law_more_right (g : G K mg) : ∃ fd, L2.Fun K "_law_more_right" "_law_more_right" s__law_more_right (He.ga K "_law_more_right") fd := g.fun_ 45
theorem d__law_word (g : G K mg) : ∃ fd, L2.Fun K "_law_word" "_law_word" s__law_word (He.ga K "_law_word") fd := g.fun_ 46
theorem d__law_by_rows (g : G K mg) : ∃ fd, L2.Fun K "_law_by_rows" "_law_by_rows" s__law_by_rows (He.ga K "_law_by_rows") fd := g.fun_ 47
theorem d_law (g : G K mg) : ∃ fd, L2.Fun K "law" "law" s_law (He.ga K "law") fd := g.fun_ 48
theorem d_init_BadUnits (g : G K mg) : ∃ fd, L2.Fun K "__init__" "BadUnits.__init__" s_init_BadUnits (He.ma K (He.ga K "BadUnits") "__init__") fd := g.init 49
theorem d_init_BadWorld (g : G K mg) : ∃ fd, L2.Fun K "__init__" "BadWorld.__init__" s_init_BadWorld (He.ma K (He.ga K "BadWorld") "__init__") fd := g.init 50
theorem d_init_BadIndex (g : G K mg) : ∃ fd, L2.Fun K "__init__" "BadIndex.__init__" s_init_BadIndex (He.ma K (He.ga K "BadIndex") "__init__") fd := g.init 51
theorem d_init_BadParameter (g : G K mg) : ∃ fd, L2.Fun K "__init__" "BadParameter.__init__" s_init_BadParameter (He.ma K (He.ga K "BadParameter") "__init__") fd := g.init 52
theorem d_init_NoRow (g : G K mg) : ∃ fd, L2.Fun K "__init__" "NoRow.__init__" s_init_NoRow (He.ma K (He.ga K "NoRow") "__init__") fd := g.init 53
theorem d_init_TooGreat (g : G K mg) : ∃ fd, L2.Fun K "__init__" "TooGreat.__init__" s_init_TooGreat (He.ma K (He.ga K "TooGreat") "__init__") fd := g.init 54
end
end Yd
set_option Elab.async false
set_option linter.all false
set_option maxRecDepth 100000
set_option maxHeartbeats 1000000
/-! # The plain-data layer: further rules -/
namespace Yd
open PySem PySem.Spec PyProof.Rows L2 LamX

abbrev kAddI : K2 := kI0 fun i j => .int (i + j)
abbrev kSubI : K2 := kI0 fun i j => .int (i - j)
abbrev kMulI : K2 := kI CMul fun i j => .int (i * j)
abbrev kDivI : K2 := kI CDiv fun i j => .int (i / j)
abbrev kModI : K2 := kI (fun _ j => 0 < j) fun i j => .int (i % j)
abbrev kLtI : K2 := kI0 fun i j => .bool (decide (i < j))
abbrev kLeI : K2 := kI0 fun i j => .bool (decide (i ≤ j))
abbrev kGtI : K2 := kI0 fun i j => .bool (decide (j < i))
abbrev kGeI : K2 := kI0 fun i j => .bool (decide (j ≤ i))
abbrev kIsN : PyData → (PyData → Prop) → Prop := fun x Q => Q (.bool (isNoneD x))
abbrev kNotN : PyData → (PyData → Prop) → Prop := fun x Q => Q (.bool (!isNoneD x))
abbrev kIsi (T : String) : PyData → (PyData → Prop) → Prop := fun x Q => Q (.bool (isiD T x))
section
variable {X : Cx} {F : Fm} {a b c e : Expr} {es : List Expr} {pos p p2 : Pos} {ta tb tc : RE}
theorem boot_isi : bootBuiltins "isinstance" = some (.builtin "isinstance") := PyProof.Rows.boot_isinstance
theorem de_is_int (hg : Gl X "isinstance") (hm : X.mg "isinstance" = none) (hg2 : Gl X "int") (hm2 : X.mg "int" = none) (ha : DE X F a ta) (he : starEach [a, .Name "int" p2] X.env = (false, eval a X.env) :: starEach [.Name "int" p2] X.env := by rfl)
    (he2 : starEach [.Name "int" p2] X.env = (false, eval (.Name "int" p2) X.env) :: starEach [] X.env := by rfl) (hpl : (backTo pos (starEach [.Name "int" p2] X.env)).any (·.1) = false := by rfl) :
    DE X F (.Call (.Name "isinstance" p) [a, .Name "int" p2] [] pos) (dUn (kIsi "int") ta) := de_isi hg hm boot_isi hg2 hm2 PyProof.Rows.boot_int (fun d => by cases d <;> first | rfl | (show (kitB _ _).isSome = true; decide +kernel) | decide +revert) (by decide) (by decide) ha he he2 hpl
theorem de_is_bool (hg : Gl X "isinstance") (hm : X.mg "isinstance" = none) (hg2 : Gl X "bool") (hm2 : X.mg "bool" = none) (ha : DE X F a ta) (he : starEach [a, .Name "bool" p2] X.env = (false, eval a X.env) :: starEach [.Name "bool" p2] X.env := by rfl)
    (he2 : starEach [.Name "bool" p2] X.env = (false, eval (.Name "bool" p2) X.env) :: starEach [] X.env := by rfl) (hpl : (backTo pos (starEach [.Name "bool" p2] X.env)).any (·.1) = false := by rfl) :
    DE X F (.Call (.Name "isinstance" p) [a, .Name "bool" p2] [] pos) (dUn (kIsi "bool") ta) := de_isi hg hm boot_isi hg2 hm2 PyProof.Rows.boot_bool (fun d => by cases d <;> first | rfl | (show (kitB _ _).isSome = true; decide +kernel) | decide +revert) (by decide) (by decide) ha he he2 hpl
theorem de_is_str (hg : Gl X "isinstance") (hm : X.mg "isinstance" = none) (hg2 : Gl X "str") (hm2 : X.mg "str" = none) (ha : DE X F a ta) (he : starEach [a, .Name "str" p2] X.env = (false, eval a X.env) :: starEach [.Name "str" p2] X.env := by rfl)
    (he2 : starEach [.Name "str" p2] X.env = (false, eval (.Name "str" p2) X.env) :: starEach [] X.env := by rfl) (hpl : (backTo pos (starEach [.Name "str" p2] X.env)).any (·.1) = false := by rfl) :
    DE X F (.Call (.Name "isinstance" p) [a, .Name "str" p2] [] pos) (dUn (kIsi "str") ta) := de_isi hg hm boot_isi hg2 hm2 PyProof.Rows.boot_str (fun d => by cases d <;> first | rfl | (show (kitB _ _).isSome = true; decide +kernel) | decide +revert) (by decide) (by decide) ha he he2 hpl
theorem de_is_tuple (hg : Gl X "isinstance") (hm : X.mg "isinstance" = none) (hg2 : Gl X "tuple") (hm2 : X.mg "tuple" = none) (ha : DE X F a ta) (he : starEach [a, .Name "tuple" p2] X.env = (false, eval a X.env) :: starEach [.Name "tuple" p2] X.env := by rfl)
    (he2 : starEach [.Name "tuple" p2] X.env = (false, eval (.Name "tuple" p2) X.env) :: starEach [] X.env := by rfl) (hpl : (backTo pos (starEach [.Name "tuple" p2] X.env)).any (·.1) = false := by rfl) :
    DE X F (.Call (.Name "isinstance" p) [a, .Name "tuple" p2] [] pos) (dUn (kIsi "tuple") ta) := de_isi hg hm boot_isi hg2 hm2 PyProof.Rows.boot_tuple (fun d => by cases d <;> first | rfl | (show (kitB _ _).isSome = true; decide +kernel) | decide +revert) (by decide) (by decide) ha he he2 hpl
theorem de_is_list (hg : Gl X "isinstance") (hm : X.mg "isinstance" = none) (hg2 : Gl X "list") (hm2 : X.mg "list" = none) (ha : DE X F a ta) (he : starEach [a, .Name "list" p2] X.env = (false, eval a X.env) :: starEach [.Name "list" p2] X.env := by rfl)
    (he2 : starEach [.Name "list" p2] X.env = (false, eval (.Name "list" p2) X.env) :: starEach [] X.env := by rfl) (hpl : (backTo pos (starEach [.Name "list" p2] X.env)).any (·.1) = false := by rfl) :
    DE X F (.Call (.Name "isinstance" p) [a, .Name "list" p2] [] pos) (dUn (kIsi "list") ta) := de_isi hg hm boot_isi hg2 hm2 PyProof.Rows.boot_list (fun d => by cases d <;> first | rfl | (show (kitB _ _).isSome = true; decide +kernel) | decide +revert) (by decide) (by decide) ha he he2 hpl

/-! ## xs + ys of either kind -/
def kCatA : K2 := fun x y Q => match x, y with
  | .tuple a, .tuple b => a.length + b.length ≤ 1000 ∧ Q (.tuple (a ++ b))
  | .list a, .list b => a.length + b.length ≤ 1000 ∧ Q (.list (a ++ b))
  | _, _ => False
theorem op_or {op : Value → Value → Sem Value} {r1 r2 : R2} (h1 : OpR X op r1) (h2 : OpR X op r2) : OpR X op (fun x y H Q => r1 x y H Q ∨ r2 x y H Q) := fun pins s σ H x y v u Q I rx ry h => by
  rcases h with h | h
  · exact h1 pins s σ H x y v u Q I rx ry h
  · exact h2 pins s σ H x y v u Q I rx ry h
theorem opD_catA : OpD X F (fun x y H Q => rCatA X.K x y H Q ∨ rCat x y H Q) kCatA := by
  intro Hs σ H ρ x y v u Q Q2 R ix iy q z
  unfold kCatA at q
  split at q
  · exact .inl (opD_catT Hs σ H ρ _ _ v u Q Q2 R ix iy q z)
  · refine .inr (opF_catL Hs σ H ρ _ _ v u Q Q2 R ix iy q fun d qd a H' Hs' R' S' P' => ?_)
    obtain ⟨Hs2, sh, R2, i2⟩ := R'.freeze P'
    exact z d qd _ H' Hs2 R2 (S'.trans sh) i2
  · exact q.elim
theorem de_addA (ha : DE X F a ta) (hb : DE X F b tb) : DE X F (.BinOp a .Add b pos) (dOp kCatA ta tb) := de_op (op_or op_catA op_cat) opD_catA ha hb

/-! ## t * n -/
theorem tuple_mul1W (l : Addr) (items : Array Value) (n : Nat) (dd : Option Addr) (sl : Array (Option Value)) (u : Tok) :
    Meets (Builtin.«tuple.__mul__» ⟨[.ref l, .int 1 u], []⟩) (fun _ R s => s.heap.get? l = some { cls := .type "tuple", dict := dd, data := .seq items n, slots := sl } ∧ R (.ok (.ret (Value.ref l))) s) :=
  .of_wp fun prog w A R s h => by
    obtain ⟨hp, g, d, tk, os⟩ := s
    obtain ⟨hl, h⟩ := h
    have f1 := AutoSeq1.idx_int
    have c0 : (decide ((1 : Int) < -(2 ^ 63)) || decide ((1 : Int) ≥ 2 ^ 63)) = false := by decide
    have c1 : (items.isEmpty || (1 : Int) == 1) = true := by simp
    wp_walk using wpAny_loadPart' hl
    repeat (first
      | (refine wpAny_ite_false (decide_eq_false (by rw [c0]; exact Bool.false_ne_true)) ?_; wp_walk using wpAny_loadPart' hl)
      | (refine wpAny_ite_true (decide_eq_true (by rw [c1])) ?_; wp_walk using wpAny_loadPart' hl))
    exact ⟨_, rfl, h⟩
/-- t * 1 is t -/
def rRepT1 (K : PySem.W.Frag) : R2 := fun x y H Q => ∃ l xs, x = .ref l ∧ y = .int 1 ∧ SqT K H l xs ∧ Q (.ref l) H
theorem op_repT1 : OpR X (binaryOp .Mult) (rRepT1 X.K) := by
  intro pins s σ H x y v u Q I rx ry h
  obtain ⟨l, xs, ex, ey, hT, q⟩ := h
  subst ex ey
  cases rx
  obtain ⟨t, et⟩ := ry
  subst et
  obtain ⟨its, r, ⟨⟨cl, dd, dat, sl⟩, ho, hc, n, hd⟩, hs⟩ := I.tuple hT
  dsimp only at hc hd
  subst hc
  subst hd
  have tt : s.TypeIs (.ref l) "tuple" := ⟨_, ho, rfl⟩
  have ti : s.TypeIs (.int 1 t) "int" := typeIs_int s 1 t
  have back := call_meets (prog := X.prog) (w := X.w) (A := X.A) (E := X.xe) (Q := EP X pins σ Q) F.slot_tuple_mul tt F.entry_tuple_mul (F.args_tuple_mul_2 _ _) (tuple_mul1W l its.toArray n dd sl t) ⟨ho, ⟨.ref l, H, I, rfl, q⟩⟩
  exact wpAny_binaryOp_repeat_ref (T := "tuple") (U := "int") (by decide) tt (fun s2 => typeIs_int s2 1 t) noFill_tuple_mul F.fills_int_mul F.slot_int_rmul repeat_tuple F.slot_int_index.lookup
    (call_meets F.slot_int_rmul ti F.entry_int_rmul (F.args_int_rmul_2 _ _) (int_rmul_tuple 1 t l its.toArray n dd sl) ⟨ho, rfl, tt, back⟩)
def kRepT : K2 := fun x y Q => match x, y with
  | .tuple a, .int k => a ≠ [] ∧ 1 ≤ k ∧ k ≤ 1000 ∧ a.length ≤ 1000 ∧ Q (.tuple (List.replicate k.toNat a).flatten)
  | _, _ => False
theorem opD_repT : OpD X F (fun x y H Q => rRepT X.K x y H Q ∨ rRepT1 X.K x y H Q) kRepT := by
  intro Hs σ H ρ x y v u Q Q2 R ix iy q z
  unfold kRepT at q
  split at q
  · obtain ⟨h0, h1, h2, h3, q⟩ := q
    cases iy
    cases ix with
    | tup h hl =>
      rename_i as k a xs
      by_cases hk : k = 1
      · subst hk
        refine .inr ⟨_, _, rfl, rfl, SqT.of (R.sub _ _ h), z _ q _ H Hs R (Same.refl _) (.tup h ?_)⟩
        show IsL X.K Hs xs (as ++ [])
        rw [List.append_nil]; exact hl
      · refine .inl ⟨_, _, _, rfl, rfl, SqT.of (R.sub _ _ h), fun e => h0 ?_, by omega, h2, by rw [hl.length]; exact h3, fun p hp => ?_⟩
        · subst e; cases hl; rfl
        · have g := Grow.laid (o := .tup (List.replicate k.toNat xs).flatten) R.sub R.ntb R.tab hp (fun _ z => nomatch z)
          exact z _ q _ _ _ (R.grow g) g.shr (.tup upd_same ((hl.flatRep _).mono g.shr))
  · exact q.elim
theorem de_mulT (ha : DE X F a ta) (hb : DE X F b tb) : DE X F (.BinOp a .Mult b pos) (dOp kRepT ta tb) := de_op (op_or op_repT op_repT1) opD_repT ha hb

/-! ## t[::-1] -/
theorem pick_rev (xs : Array Value) : ((List.range xs.size).filterMap fun (k : Nat) => xs[((xs.size : Int) - 1 + (k : Int) * (-1)).toNat]?).toArray = xs.toList.reverse.toArray := by
  have e : (List.range xs.size).filterMap (fun (k : Nat) => xs[((xs.size : Int) - 1 + (k : Int) * (-1)).toNat]?) = ((List.range xs.size).map fun k => xs.size - 1 - k).filterMap (xs[·]?) := by
    rw [List.filterMap_map]
    congr 1
    funext k
    have e2 : ((xs.size : Int) - 1 + (k : Int) * (-1)).toNat = xs.size - 1 - k := by omega
    show xs[((xs.size : Int) - 1 + (k : Int) * (-1)).toNat]? = xs[xs.size - 1 - k]?
    rw [e2]
  rw [e, PySem.W.krv_range, List.filterMap_reverse, PySem.W.krv_all]
theorem getItem_tuple_rev {prog : Program} {w : World} {A : Around} {E : Value → Shared → Prop} {s : Shared} {t sl : Addr} {items : Array Value} {vs : Value} {Q : Value → Shared → Prop} (ht : IsTup s.heap t items) (hs : s.heap.IsSliceOf sl .none .none vs) (ps : IsPart vs (some (-1)))
    (h : Q (.ref s.heap.objs.size) { s with heap := s.heap.push { cls := .type "tuple", data := .seq items.toList.reverse.toArray } }) (hsz : items.size ≤ sizeLine) : wpAny (model prog w) A (getItem (.ref t) (.ref sl)) Q E s := by
  obtain ⟨os, hos, hcs, hds⟩ := id hs
  have hTs : s.TypeIs (.ref sl) "slice" := ⟨os, hos, hcs⟩
  have hok : sizeOk (.seq items.toList.reverse.toArray) := by
    show items.toList.reverse.toArray.size ≤ sizeLine
    simpa using hsz
  unfold getItem
  try with_reducible refine wpAny_holding ?_
  first | refine wpAny_bind (wpAny_pure ?_) | skip
  refine wpAny_bind (wpAny_sequenceKey ht.typeIs (by decide) ?_)
  refine wpAny_bind (wpAny_callSpecial?_slot (name := Str.ofString "__getitem__") ht.typeIs PyProof.Rows.slot_tuple_getitem (wpAny_call_entry PyProof.Rows.slot_tuple_getitem ht.typeIs entry_tuple_getitem ?_ (args_tuple_getitem _ _)))
  show wpAny _ _ (Builtin.Tuple.tupleItemsOf (.ref t) >>= _) _ _ s
  refine wpAny_bind (tupleItemsOf_ ht (wpAny_bind (wpAny_typeOf hTs ?_)))
  rw [if_pos (by decide)]
  have hap : ∀ {Q2 : Int × Int × Nat → Shared → Prop} {E2 : Value → Shared → Prop} {A2 : Around}, Q2 ((items.size : Int) - 1, -1, items.size) s → wpAny (model prog w) A2 (Builtin.Slice.sliceApplied (.ref sl) (pure (items.size : Int))) Q2 E2 s := by
    intro Q2 E2 A2 hq
    unfold Builtin.Slice.sliceApplied Builtin.Slice.sliceFields
    refine wpAny_bind (wpAny_bind (wpAny_field hos hds (x := .none) rfl (wpAny_bind (wpAny_field hos hds (x := .none) rfl (wpAny_bind (wpAny_field hos hds (x := vs) rfl (wpAny_pure ?_)))))))
    refine wpAny_bind (HT.slicePart_ ps ?_)
    show wpAny _ _ (if ((-1 : Int) == 0) = true then _ else _) _ _ s
    rw [if_neg (by decide)]
    refine wpAny_bind (slicePart_none (wpAny_bind (slicePart_none (wpAny_bind (wpAny_pure ?_)))))
    have e1 : Builtin.Slice.sliceAdjust none none (-1) (items.size : Int) = ((items.size : Int) - 1, -1) := by
      unfold Builtin.Slice.sliceAdjust
      have z : (-1 : Int) < 0 := by decide
      simp only [if_pos z]
    have e2 : Builtin.Slice.slicePlaces ((items.size : Int) - 1) (-1) (-1) = items.size := by
      unfold Builtin.Slice.slicePlaces
      have z : ¬ ((-1 : Int) > 0) := by decide
      simp only [if_neg z]
      by_cases h0 : (items.size : Int) - 1 > -1
      · rw [if_pos h0]
        have z2 : (-(-1 : Int)) = 1 := by decide
        rw [z2, Int.ediv_one]
        omega
      · rw [if_neg h0]
        omega
    show wpAny _ _ (match Builtin.Slice.sliceAdjust none none (-1) (items.size : Int) with | (lo, hi) => pure (lo, (-1 : Int), Builtin.Slice.slicePlaces lo hi (-1))) _ _ s
    rw [e1]
    show wpAny _ _ (pure ((items.size : Int) - 1, (-1 : Int), Builtin.Slice.slicePlaces ((items.size : Int) - 1) (-1) (-1))) _ _ s
    rw [e2]
    exact wpAny_pure hq
  refine wpAny_bind (hap ?_)
  have hno : ¬ ((((items.size : Int) - 1) == 0 && (-1 : Int) == 1 && items.size == items.size) = true) := by
    intro q
    rw [Bool.and_eq_true, Bool.and_eq_true] at q
    exact absurd (eq_of_beq q.1.2) (by decide)
  show wpAny _ _ (if ((((items.size : Int) - 1) == 0 && (-1 : Int) == 1 && items.size == items.size) = true) then _ else _) _ _ s
  rw [if_neg hno, pick_rev]
  first
    | exact wpAny_bind (m := Builtin.Tuple.tupleExact _) (wpAny_newObj_type (wpAny_pure ⟨_, rfl, wpAny_pure h⟩) hok)
    | exact wpAny_bind (m := Builtin.Tuple.tupleExact _) (wpAny_newObj_type (wpAny_bind (wpAny_pure (wpAny_pure ⟨_, rfl, wpAny_pure h⟩))) hok)
    | exact wpAny_bind (wpAny_bind (m := Builtin.Tuple.tupleExact _) (wpAny_newObj_type (wpAny_pure (wpAny_pure ⟨_, rfl, wpAny_pure h⟩)) hok))
    | exact wpAny_bind (wpAny_bind (m := Builtin.Tuple.tupleExact _) (wpAny_newObj_type (wpAny_pure ⟨_, rfl, wpAny_pure h⟩) hok))
end
end Yd
set_option Elab.async false
set_option linter.all false
set_option maxRecDepth 100000
set_option maxHeartbeats 1000000
/-! # The plain-data layer: further rules, 2 -/
namespace Yd
open PySem PySem.Spec PyProof.Rows L2 LamX
section
variable {X : Cx} {F : Fm} {a b c e : Expr} {es : List Expr} {pos p p2 : Pos} {ta tb tc : RE}
def tRevT (K : PySem.W.Frag) (te : TE) : TE := fun σ H Q => te σ H fun x H1 => ∃ t xs, x = .ref t ∧ SqT K H1 t xs ∧ ∀ q, H1 q = none → Q (.ref q) (upd H1 q (.tup xs.reverse))
theorem pe_revT {te : TE} {k : Nat} {p1 p3 : Pos} (he : PE X e te) : PE X (.Subscript e (.Slice none none (some (.UnaryOp .USub (.Constant (.int 1) k p1) p2)) p3) pos) (tRevT X.K te) := by
  refine ⟨fun pins s σ H Q I h => Subscript_ (thn (he.run pins s σ H _ I h) fun v s1 ⟨x, H1, I1, r1, t, xs, ex, hx, q⟩ => ?_)⟩
  subst ex
  cases r1
  have hst : PO X (some (.UnaryOp .USub (.Constant (.int 1) k p1) p2)) (tPart (tUn (rU fun i => .int (-i)) (tC (.int 1)))) := po_some (pe_un un_neg pe_int)
  refine wpAny_Slice (thn (po_none.run pins s1 σ H1 (fun o H2 => o = none ∧ H2 = H1) I1 ⟨rfl, rfl⟩) fun vl s2 ⟨l, H2, I2, pl, el, e2⟩ => ?_)
  cases el
  cases e2
  cases pl
  refine thn (po_none.run pins s2 σ H1 (fun o H3 => o = none ∧ H3 = H1) I2 ⟨rfl, rfl⟩) fun vu s3 ⟨u, H3, I3, pu, eu, e3⟩ => ?_
  cases eu
  cases e3
  cases pu
  refine thn (hst.run pins s3 σ H1 (fun o H4 => o = some (-1) ∧ H4 = H1) I3 ⟨1, rfl, -1, rfl, rfl, rfl⟩) fun vs s4 ⟨o, H4, I4, ps, eo, e4⟩ => ?_
  cases eo
  cases e4
  have I5 : Inv X pins σ H1 { s4 with heap := s4.heap.push { cls := .type "slice", data := .fields #[.none, .none, vs] } } := I4.kept (t' := s4.toks) fun b ob q => Heap.get?_push_of_some _ q
  obtain ⟨its, r, ht, hz⟩ := I5.tuple hx
  show wpAny (model X.prog X.w) X.A (subscriptTail e (.Slice none none (some (.UnaryOp .USub (.Constant (.int 1) k p1) p2)) p3) (.ref t) (.ref s4.heap.objs.size)) (EP X pins σ Q) X.xe { s4 with heap := s4.heap.push { cls := .type "slice", data := .fields #[.none, .none, vs] } }
  refine tail_any (ops := [.ref t, .ref s4.heap.objs.size]) ht.typeIs PyProof.Rows.slot_tuple_getitem.lookup ?_ (by with_unfolding_all rfl)
  refine getItem_tuple_rev ht (Heap.IsSliceOf.new _ .none .none vs) ps ?_ (by rw [List.size_toArray, ← r.length]; exact hz)
  refine ⟨.ref _, _, I5.laid (t' := s4.toks) (o := .tup xs.reverse) (fun b ob q => Heap.get?_push_of_some _ q) (Nat.le_refl _) ?_, rfl, q _ (I5.hok.fresh (Nat.le_refl _))⟩
  exact ⟨by rw [List.length_reverse]; exact hz, _, r.reverse, IsTup.new _ _⟩
def kRevTu (x : PyData) (Q : PyData → Prop) : Prop := match x with
  | .tuple xs => Q (.tuple xs.reverse)
  | _ => False
theorem de_revT {k : Nat} {p1 p3 : Pos} (he : DE X F e ta) : DE X F (.Subscript e (.Slice none none (some (.UnaryOp .USub (.Constant (.int 1) k p1) p2)) p3) pos) (dUn kRevTu ta) :=
  pe_imp (pe_revT he) fun σ H Q ⟨Hs, ρ, Q2, R, q, z⟩ => ⟨Hs, ρ, _, R, q, fun d ρ1 q1 v H1 Hs1 R1 S1 i1 => by
    have q1 : kRevTu d fun d => Q2 d ρ1 := q1
    unfold kRevTu at q1
    split at q1
    · cases i1 with
      | @tup t xs ds h hl =>
        refine ⟨t, xs, rfl, SqT.of (R1.sub _ _ h), fun q hq => ?_⟩
        have g := Grow.laid (o := .tup xs.reverse) R1.sub R1.ntb R1.tab hq (fun _ z => nomatch z)
        exact z _ ρ1 q1 _ _ _ (R1.grow g) (S1.trans g.shr) (.tup upd_same (hl.reverse.mono g.shr))
    · exact q1.elim⟩

/-! ## reversed(range(n)) -/
def diDown (te : RE) : RI := fun ρ Q => te ρ fun d ρ' => kInt d fun n => 0 ≤ n ∧ n < 2 ^ 62 ∧ Q (rangeDown n.toNat) ρ'
theorem di_down {tg : Expr} {p3 pos3 : Pos} (hg : Gl X "reversed") (hm : X.mg "reversed" = none) (hg2 : Gl X "range") (hm2 : X.mg "range" = none) (he : DE X F e ta) (hs : starEach [.Call (.Name "range" p3) [e] [] pos3] X.env = (false, eval (.Call (.Name "range" p3) [e] [] pos3) X.env) :: starEach [] X.env := by rfl)
    (hs2 : starEach [e] X.env = (false, eval e X.env) :: starEach [] X.env := by rfl) : DI X F tg (.Call (.Name "reversed" p) [.Call (.Name "range" p3) [e] [] pos3] [] pos) (diDown ta) :=
  pi_imp (pi_revR hg hm (prg_1 hg2 hm2 he hs2) hs) fun σ H R ⟨Hs, ρ, Q2, Rp, q, z⟩ => ⟨Hs, ρ, _, Rp, q, fun d ρ1 q1 v H1 Hs1 R1 S1 i1 => by
    obtain ⟨n, rfl, rfl, h1, h2, q1⟩ := kInt_is q1 i1
    refine ⟨n, rfl, by decide, by decide, by omega, h2, ?_⟩
    have e1 : (n - 0).toNat = n.toNat := by omega
    have e2 : (0 : Int) + ((n.toNat : Nat) : Int) - 1 = ((n.toNat : Nat) : Int) - 1 := by omega
    rw [e1, e2]
    exact z _ ρ1 q1 _ H1 Hs1 R1 S1 (itOk_down n.toNat)⟩

def kListZip : K2 := fun x y Q => match x, y with
  | .tuple a, .tuple b => a.length = b.length ∧ 1 ≤ a.length ∧ a.length ≤ 1000 ∧ Q (.list (zipD a b))
  | _, _ => False
/-! ## {k: v} -/
theorem Priv.keptD {K : PySem.W.Frag} {Hs H : Hp} {σ : L2.St} {ρ : En} {F F' : Fm} {Hs' H' : Hp} {σ' : L2.St} {ρ' : En} {p : Addr} (R : Rep K F Hs σ H ρ) (P : Priv K F Hs σ H ρ p (.dict [])) (kin : Kin F F')
    (inH : ∀ a o, H a = some o → (∀ ps, o ≠ .tbl ps) → (∀ (j : Nat) (d : PyData), ρ.sl[j]? = some (.o d) → σ[j]? ≠ some (some (.ref a))) → F'.H0 a = some o) (e0 : F'.Hs0 = Hs) (R' : Rep K F' Hs' σ' H' ρ') : Priv K F Hs' σ' H' ρ' p (.dict []) := by
  cases P with
  | mk hn h0 own ap =>
    cases own with
    | dic h hl =>
      have i0 := inH p _ h (dk_tbl _) ap
      have old : Old F'.H0 p := ⟨_, i0, dk_tbl _⟩
      have nm : ¬ F'.mv p := fun ⟨S, C, L, e, z⟩ => R.notMv h0 ⟨S, C, L, kin.2 ▸ e, z⟩
      refine ⟨by rw [R'.sep p old, e0]; exact hn, h0, .dic (R'.frame p _ i0 (dk_tbl _) nm) (hl.mono (by rw [← e0]; exact R'.base)), fun j e hj sj => ?_⟩
      cases R'.slo j _ hj with
      | o e1 hn' hz q =>
        rw [e1] at sj; cases sj
        exact hz old
def dDisp1 (tk tv : RE) : RE := fun ρ Q => tk ρ fun y ρ1 => kInt y fun n => tv ρ1 fun d ρ2 => Q (.dict [(.int n, d)]) ρ2
def inE2 (X : Cx) (F : Fm) (t : RE) : TE := fun σ H Q => ∃ F', Kin F F' ∧ liftE X F' t σ H Q
theorem de_in2 {t : RE} (h : ∀ F', Kin F F' → DE X F' e t) : PE X e (inE2 X F t) := ⟨fun pins s σ H Q I ⟨F', k, q⟩ => (h F' k).run pins s σ H Q I q⟩
theorem df_disp1 (hk : ∀ F', Kin F F' → DE X F' a ta) (hv : ∀ F', Kin F F' → DE X F' b tb) : DF X F (.Dict [some a] [b] pos) (dDisp1 ta tb) :=
  pe_imp (pe_disp (pps_cons (de_in2 hk) (de_in2 hv) pps_nil) rfl rfl (by simp) (by simp)) fun σ H Q ⟨Hs, ρ, Q2, R, q, z⟩ => by
    intro D hD
    have R0 := R.own (o := .dK []) hD
    have P0 := R.privD hD (ps := []) (kvs := []) .nil
    obtain ⟨F1, kin, R1', inH, e0, out⟩ := R0.within
    refine ⟨F1, kin, Hs, ρ, _, R1', q, fun y ρ1 q1 v H1 Hs1 R1 S1 i1 => ?_⟩
    have P1 := P0.keptD R0 kin inH e0 R1
    obtain ⟨_, R1'⟩ := out _ _ _ _ R1
    obtain ⟨n, rfl, rfl, q1⟩ := kInt_is q1 i1
    obtain ⟨F2, kin2, R2', inH2, e02, out2⟩ := R1'.within
    refine ⟨F2, kin2, Hs1, ρ1, _, R2', q1, fun d ρ2 q2 w H2 Hs2 R2 S2 i2 => ?_⟩
    have P2 := P1.keptD R1' kin2 inH2 e02 R2
    obtain ⟨_, R2'⟩ := out2 _ _ _ _ R2
    have S02 := S1.trans S2
    cases P2 with
    | mk n2 h2 o2 a2 =>
      cases o2 with
      | @dic ps _ hd hl =>
        cases hl
        refine ⟨hd, [(.inl n, w)], rfl, by simp, ?_⟩
        have Rw := R2'.writeP (o := .dK [(.inl n, w)]) ⟨n2, h2, .dic hd .nil, a2⟩ (dk_tbl _)
        exact z _ ρ2 q2 D _ Hs2 Rw S02 ⟨n2, h2, .dic upd_same (.cons i2 .nil), a2⟩
end
end Yd
set_option Elab.async false
set_option linter.all false
set_option maxRecDepth 100000
set_option maxHeartbeats 1000000
/-! # The package's errors: their making, their raising -/
namespace Yd
open PySem PySem.Spec PyProof.Rows L2 LamX

def EK.cls : EK → Str
  | .units => "BadUnits"
  | .world => "BadWorld"
  | .index => "BadIndex"
  | .param => "BadParameter"
  | .norow => "NoRow"
  | .great => "TooGreat"
def ckK (K : PySem.W.Frag) (k : EK) : Addr := He.ga K k.cls
/-- what is known of one of the six classes -/
structure ExF (K : PySem.W.Frag) (x : Str) : Prop where
  ox : OexC K (He.ga K x)
  ga : PySem.W.findIn K (.ref (He.ga K x)) "__getattribute__" = some (some (.builtin "BaseException.__getattribute__"))
  gg : PySem.W.findIn K (.ref (He.ga K x)) "__getattr__" = some none
  tI : PySem.W.typeIn K (.ref (He.ma K (He.ga K x) "__init__")) = some (.type "function")
  hd : PySem.W.hasDictIn K (He.ga K x) = true
structure YdF (K : PySem.W.Frag) : Prop where
  hg : PySem.W.specialIn K (.ref (He.ga K "YardError")) "__getattribute__" = some (some (.builtin "type.__getattribute__"))
  hr : PySem.W.readsIn K (He.ga K "YardError") (.type "type") = true
  e : PySem.W.findCls K (.ref (He.ga K "YardError")) (.type "type") "__init__" = some (.val (.builtin "ValueError.__init__"))
section
variable {K : PySem.W.Frag} {mg : Str → Option Value}
theorem G.exk (g : G K mg) : exK0 K = true := by
  obtain ⟨w, hp, X, N, c⟩ := g.ex
  exact (Bool.and_eq_true_iff.mp c.more).1
theorem G.tabs3 (g : G K mg) : ((tf.map fun p => (He.cT K p).2) : List Addr).Nodup := by
  obtain ⟨w, hp, X, N, c⟩ := g.ex
  exact of_decide_eq_true (Bool.and_eq_true_iff.mp c.more).2
theorem G.exf (g : G K mg) {x : Str} (hx : x ∈ ([("BadUnits" : Str), "BadWorld", "BadIndex", "BadParameter", "NoRow", "TooGreat"] : List Str)) : ExF K x := by
  have h := (Bool.and_eq_true_iff.mp g.exk).1
  have h := List.all_eq_true.mp h x hx
  simp only [Bool.and_eq_true, decide_eq_true_eq] at h
  obtain ⟨⟨⟨⟨⟨⟨⟨⟨a1, a2⟩, a3⟩, a4⟩, a5⟩, a6⟩, a7⟩, a8⟩, a9⟩ := h
  exact ⟨⟨exoB_ok a5, He.eqO_ok a3, a7, a8, a6⟩, He.eqO_ok a1, He.eqO_ok a2, a4, a9⟩
theorem G.ydf (g : G K mg) : YdF K := by
  have h := (Bool.and_eq_true_iff.mp g.exk).2
  simp only [Bool.and_eq_true, decide_eq_true_eq] at h
  obtain ⟨⟨⟨⟨_, _⟩, a1⟩, a2⟩, a3⟩ := h
  refine ⟨He.eqO_ok a1, a2, ?_⟩
  split at a3
  · rename_i n hn
    rw [hn, of_decide_eq_true a3]
  · cases a3
end

/-! ## YardError.__init__(self, ..) -/
section
variable {X : Cx} {o e : Expr} {es : List Expr} {to te : TE} {ta : TA} {p p1 p2 pos : Pos}
theorem pe_yinit {pl : Sem Bool} (T : YdF X.K) (hg : Gl X "YardError") (hm : X.mg "YardError" = some (.ref (He.ga X.K "YardError"))) (ha : PA X (e :: es) ta)
    (hc : eval (.Call (.Attribute (.Name "YardError" p1) "__init__" p2) (e :: es) [] pos) X.env = (do
      let ov ← eval (.Name "YardError" p1) X.env
      standAt p2.atName
      let (f, first) ← holding [ov] (getMethod ov "__init__" pl)
      callWith pos f first (backTo pos (starEach (e :: es) X.env)) (backToKw pos (keywordEach [] X.env))) := by rfl)
    (he : starEach (e :: es) X.env = (false, eval e X.env) :: starEach es X.env := by rfl) (hpl : (backTo pos (starEach es X.env)).any (·.1) = false := by rfl) :
    PE X (.Call (.Attribute (.Name "YardError" p1) "__init__" p2) (e :: es) [] pos) (tVeI X.K ta) := by
  refine ⟨fun pins s σ H Q I h => PySem.W.methodCall_KW (ld_glob I hg hm ?_) hc⟩
  refine PySem.W.method_cls I.kIn T.hg (PySem.W.cls_value I.kIn T.hr T.e (by decide +kernel) ?_)
  show wpAny _ _ (callWith pos (Value.builtin "ValueError.__init__") [] (backTo pos (starEach (e :: es) X.env)) []) _ _ _
  refine PyProof.Rows.callWith_method1 (thn (ha.run pos pins _ σ H _ (I.tok _) h) fun us s1 ⟨vs, H1, I1, r1, a, C, ws, ev, hl, Tx, ea, q⟩ => ?_) he hpl
  subst ev
  cases r1 with
  | @cons _ u0 _ ur ra rw' =>
    cases (show u0 = Value.ref a from ra)
    exact oinit_ok Tx I1 ea (by rw [← Paired.length rw', sizeLine_eq]; omega) fun s' J => ⟨.non, H1, J, rfl, q⟩
end
/-! ## the five __init__ with a field -/
def spInit (K : PySem.W.Frag) (f : Str) : Sp := fun vs H Q _ => ∃ (a C : Addr) (v : V), vs = [.ref a, v] ∧ OexC K C ∧ PySem.W.findIn K (.ref C) f = some none ∧ H a = some (exo a C none) ∧
  ∀ dx, H dx = none → dx ≠ a → Q .non (upd (upd H dx (exd dx [(f, v)])) a (exo a C (some dx)))
def spInit0 (K : PySem.W.Frag) : Sp := fun vs H Q _ => ∃ (a C : Addr), vs = [.ref a] ∧ OexC K C ∧ H a = some (exo a C none) ∧ Q .non H
section
variable {P : Program} {w : World} {K : PySem.W.Frag} {mg : Str → Option Value} {base : Heap}
theorem ini_BadUnits (g : G K mg) : ∃ fd, FnOk P w K mg base CX0 1 (He.ma K (He.ga K "BadUnits") "__init__") fd ["self", "value"] (spInit K "value") ∧ L2.Binds K fd ["self", "value"] [] := by
  obtain ⟨fd, Fn⟩ := d_init_BadUnits g
  have S : FnScope ["self", "value"] ["self", "value"] (defScope s_init_BadUnits) := ⟨rfl, rfl, rfl, by decide +kernel, rfl, by decide +kernel, by decide +kernel⟩
  refine ⟨fd, Fn.ok S (fun vs H Q E ⟨a, C, v, e, _⟩ => by rw [e]; rfl) fun cdv A outer s H vs Q E hr h =>
    ⟨_, pss_cons (ps_expr (pe_yinit g.ydf rfl (g_YardError g) (pa_cons (pv 0) (pa_cons pe_str pa_nil)))) (pss_one (ps_ost (pv 0) (pv 1))), ?_⟩, Fn.binds fun _ _ _ _ _ _ us hl => match us, hl with | [_, _], _ => rfl⟩
  obtain ⟨a, C, v, rfl, T, hno, ha, q⟩ := h
  exact ⟨.ref a, rfl, _, C, _, rfl, by decide, T, ha, v, rfl, .ref a, rfl, a, C, rfl, T, hno, .inl ⟨ha, q⟩⟩
theorem ini_BadWorld (g : G K mg) : ∃ fd, FnOk P w K mg base CX0 1 (He.ma K (He.ga K "BadWorld") "__init__") fd ["self", "place"] (spInit K "place") ∧ L2.Binds K fd ["self", "place"] [] := by
  obtain ⟨fd, Fn⟩ := d_init_BadWorld g
  have S : FnScope ["self", "place"] ["self", "place"] (defScope s_init_BadWorld) := ⟨rfl, rfl, rfl, by decide +kernel, rfl, by decide +kernel, by decide +kernel⟩
  refine ⟨fd, Fn.ok S (fun vs H Q E ⟨a, C, v, e, _⟩ => by rw [e]; rfl) fun cdv A outer s H vs Q E hr h =>
    ⟨_, pss_cons (ps_expr (pe_yinit g.ydf rfl (g_YardError g) (pa_cons (pv 0) (pa_cons pe_str pa_nil)))) (pss_one (ps_ost (pv 0) (pv 1))), ?_⟩, Fn.binds fun _ _ _ _ _ _ us hl => match us, hl with | [_, _], _ => rfl⟩
  obtain ⟨a, C, v, rfl, T, hno, ha, q⟩ := h
  exact ⟨.ref a, rfl, _, C, _, rfl, by decide, T, ha, v, rfl, .ref a, rfl, a, C, rfl, T, hno, .inl ⟨ha, q⟩⟩
theorem ini_BadIndex (g : G K mg) : ∃ fd, FnOk P w K mg base CX0 1 (He.ma K (He.ga K "BadIndex") "__init__") fd ["self", "value"] (spInit K "value") ∧ L2.Binds K fd ["self", "value"] [] := by
  obtain ⟨fd, Fn⟩ := d_init_BadIndex g
  have S : FnScope ["self", "value"] ["self", "value"] (defScope s_init_BadIndex) := ⟨rfl, rfl, rfl, by decide +kernel, rfl, by decide +kernel, by decide +kernel⟩
  refine ⟨fd, Fn.ok S (fun vs H Q E ⟨a, C, v, e, _⟩ => by rw [e]; rfl) fun cdv A outer s H vs Q E hr h =>
    ⟨_, pss_cons (ps_expr (pe_yinit g.ydf rfl (g_YardError g) (pa_cons (pv 0) (pa_cons pe_str pa_nil)))) (pss_one (ps_ost (pv 0) (pv 1))), ?_⟩, Fn.binds fun _ _ _ _ _ _ us hl => match us, hl with | [_, _], _ => rfl⟩
  obtain ⟨a, C, v, rfl, T, hno, ha, q⟩ := h
  exact ⟨.ref a, rfl, _, C, _, rfl, by decide, T, ha, v, rfl, .ref a, rfl, a, C, rfl, T, hno, .inl ⟨ha, q⟩⟩
theorem ini_BadParameter (g : G K mg) : ∃ fd, FnOk P w K mg base CX0 1 (He.ma K (He.ga K "BadParameter") "__init__") fd ["self", "value"] (spInit K "value") ∧ L2.Binds K fd ["self", "value"] [] := by
  obtain ⟨fd, Fn⟩ := d_init_BadParameter g
  have S : FnScope ["self", "value"] ["self", "value"] (defScope s_init_BadParameter) := ⟨rfl, rfl, rfl, by decide +kernel, rfl, by decide +kernel, by decide +kernel⟩
  refine ⟨fd, Fn.ok S (fun vs H Q E ⟨a, C, v, e, _⟩ => by rw [e]; rfl) fun cdv A outer s H vs Q E hr h =>
    ⟨_, pss_cons (ps_expr (pe_yinit g.ydf rfl (g_YardError g) (pa_cons (pv 0) (pa_cons pe_str pa_nil)))) (pss_one (ps_ost (pv 0) (pv 1))), ?_⟩, Fn.binds fun _ _ _ _ _ _ us hl => match us, hl with | [_, _], _ => rfl⟩
  obtain ⟨a, C, v, rfl, T, hno, ha, q⟩ := h
  exact ⟨.ref a, rfl, _, C, _, rfl, by decide, T, ha, v, rfl, .ref a, rfl, a, C, rfl, T, hno, .inl ⟨ha, q⟩⟩
theorem ini_TooGreat (g : G K mg) : ∃ fd, FnOk P w K mg base CX0 1 (He.ma K (He.ga K "TooGreat") "__init__") fd ["self", "most"] (spInit K "most") ∧ L2.Binds K fd ["self", "most"] [] := by
  obtain ⟨fd, Fn⟩ := d_init_TooGreat g
  have S : FnScope ["self", "most"] ["self", "most"] (defScope s_init_TooGreat) := ⟨rfl, rfl, rfl, by decide +kernel, rfl, by decide +kernel, by decide +kernel⟩
  refine ⟨fd, Fn.ok S (fun vs H Q E ⟨a, C, v, e, _⟩ => by rw [e]; rfl) fun cdv A outer s H vs Q E hr h =>
    ⟨_, pss_cons (ps_expr (pe_yinit g.ydf rfl (g_YardError g) (pa_cons (pv 0) (pa_cons pe_str pa_nil)))) (pss_one (ps_ost (pv 0) (pv 1))), ?_⟩, Fn.binds fun _ _ _ _ _ _ us hl => match us, hl with | [_, _], _ => rfl⟩
  obtain ⟨a, C, v, rfl, T, hno, ha, q⟩ := h
  exact ⟨.ref a, rfl, _, C, _, rfl, by decide, T, ha, v, rfl, .ref a, rfl, a, C, rfl, T, hno, .inl ⟨ha, q⟩⟩
theorem ini_NoRow (g : G K mg) : ∃ fd, FnOk P w K mg base CX0 1 (He.ma K (He.ga K "NoRow") "__init__") fd ["self"] (spInit0 K) ∧ L2.Binds K fd ["self"] [] := by
  obtain ⟨fd, Fn⟩ := d_init_NoRow g
  have S : FnScope ["self"] ["self"] (defScope s_init_NoRow) := ⟨rfl, rfl, rfl, by decide +kernel, rfl, by decide +kernel, by decide +kernel⟩
  refine ⟨fd, Fn.ok S (fun vs H Q E ⟨a, C, e, _⟩ => by rw [e]; rfl) fun cdv A outer s H vs Q E hr h =>
    ⟨_, pss_one (ps_expr (pe_yinit g.ydf rfl (g_YardError g) (pa_cons (pv 0) (pa_cons pe_str pa_nil)))), ?_⟩, Fn.binds fun _ _ _ _ _ _ us hl => match us, hl with | [_], _ => rfl⟩
  obtain ⟨a, C, rfl, T, ha, q⟩ := h
  exact ⟨.ref a, rfl, _, C, _, rfl, by decide, T, ha, q⟩
end
/-! ## raise C(e) -/
def dRaise (k : EK) (t : RE) : RS := fun K ρ => t ρ fun d ρ' => K.ex (k, d) ρ'
def dRaise0 : RS := fun K ρ => K.ex (.norow, .none) ρ
section
variable {X : Cx} {F : Fm} {W : WX} {a : Expr} {ta : RE} {p pos pos2 : Pos} {kk : Nat}
theorem field_ne (k : EK) : (k.cls == ("__debug__" : Str)) = false := by cases k <;> decide
theorem rs_gen (k : EK) (hk : k ≠ .norow) {ps : List Str} {fd : FuncData} (E : ExF X.K k.cls) (F1 : FnOk X.prog X.w X.K X.mg X.base CX0 1 (He.ma X.K (He.ga X.K k.cls) "__init__") fd ps (spInit X.K k.field)) (hb : L2.Binds X.K fd ps [])
    (iC : PySem.W.findIn X.K (.ref (He.ga X.K k.cls)) "__init__" = some (some (.ref (He.ma X.K (He.ga X.K k.cls) "__init__")))) (hno : PySem.W.findIn X.K (.ref (He.ga X.K k.cls)) k.field = some none) (hm : X.mg k.cls = some (.ref (He.ga X.K k.cls)))
    (hc : X.calm = true) (hg : Gl X k.cls) (tk : Takes X W) (hr : Room kk X.A) (h2 : 2 ≤ kk) (ha : DE X F a ta)
    (he : starEach [a] X.env = (false, eval a X.env) :: starEach [] X.env := by rfl) : DS X (ckK X.K) F W (.Raise (some (.Call (.Name k.cls p) [a] [] pos)) none pos2) (dRaise k ta) :=
  ps_imp (ps_raise hc tk (pmk_oex E.ox iC E.tI F1 (hr.mono h2) hb .nil pass0 hg hm (pa_cons ha pa_nil he) (field_ne k) he rfl)) fun D σ H ⟨Hs, ρ, K, R, q, ok⟩ => by
    refine ⟨Hs, ρ, _, R, q, fun d ρ1 q1 v H1 Hs1 R1 S1 i1 => ⟨by simp, fun x hx => ?_⟩⟩
    refine ⟨x, _, v, rfl, E.ox, hno, upd_same, fun dx hdx ne => ⟨rfl, dx, [(k.field, v)], upd_same, ?_, ?_, ?_⟩⟩
    · rw [upd_ne ne, upd_same]
    · rw [upd_ne ne] at hdx; exact hdx
    · rw [upd_ne ne] at hdx
      have eH : upd (del (upd (upd (upd H1 x (exo x (He.ga X.K k.cls) none)) dx (exd dx [(k.field, v)])) x (exo x (He.ga X.K k.cls) (some dx))) x) dx (.xd [(k.field, v)]) = upd H1 dx (.xd [(k.field, v)]) := by
        funext b
        by_cases e1 : b = dx
        · subst e1; rw [upd_same, upd_same]
        · rw [upd_ne e1, upd_ne e1]
          by_cases e2 : b = x
          · subst e2; rw [del_same, hx]
          · rw [del_ne e2, upd_ne e2, upd_ne e1, upd_ne e2]
      show W (.ref (He.ga X.K k.cls)) (some dx) σ _
      rw [eH]
      exact ok.ex (k, d) ρ1 q1 (.ref (He.ga X.K k.cls)) (some dx) σ _ Hs1 (R1.own hdx) S1 (.val hk upd_same i1)
end
section
variable {X : Cx} {F : Fm} {W : WX} {a : Expr} {ta : RE} {p pos pos2 : Pos} {kk : Nat}
theorem rs_BadUnits (g : G X.K X.mg) (hc : X.calm = true) (tk : Takes X W) (hr : Room kk X.A) (ha : DE X F a ta) (hg : Gl X "BadUnits" := by rfl) (h2 : 2 ≤ kk := by decide) (he : starEach [a] X.env = (false, eval a X.env) :: starEach [] X.env := by rfl) :
    DS X (ckK X.K) F W (.Raise (some (.Call (.Name "BadUnits" p) [a] [] pos)) none pos2) (dRaise .units ta) := by
  obtain ⟨fd, F1, hb⟩ := ini_BadUnits (P := X.prog) (w := X.w) (base := X.base) g
  exact rs_gen .units (by decide) (g.exf (by decide +kernel)) F1 hb (He.meth_ok (g.fact 78 (f := .meth "BadUnits" "__init__"))).at_ (He.noat_ok (g.fact 84 (f := .noat "BadUnits" "value"))) (g_BadUnits g) hc hg tk hr h2 ha he
theorem rs_BadWorld (g : G X.K X.mg) (hc : X.calm = true) (tk : Takes X W) (hr : Room kk X.A) (ha : DE X F a ta) (hg : Gl X "BadWorld" := by rfl) (h2 : 2 ≤ kk := by decide) (he : starEach [a] X.env = (false, eval a X.env) :: starEach [] X.env := by rfl) :
    DS X (ckK X.K) F W (.Raise (some (.Call (.Name "BadWorld" p) [a] [] pos)) none pos2) (dRaise .world ta) := by
  obtain ⟨fd, F1, hb⟩ := ini_BadWorld (P := X.prog) (w := X.w) (base := X.base) g
  exact rs_gen .world (by decide) (g.exf (by decide +kernel)) F1 hb (He.meth_ok (g.fact 79 (f := .meth "BadWorld" "__init__"))).at_ (He.noat_ok (g.fact 85 (f := .noat "BadWorld" "place"))) (g_BadWorld g) hc hg tk hr h2 ha he
theorem rs_BadIndex (g : G X.K X.mg) (hc : X.calm = true) (tk : Takes X W) (hr : Room kk X.A) (ha : DE X F a ta) (hg : Gl X "BadIndex" := by rfl) (h2 : 2 ≤ kk := by decide) (he : starEach [a] X.env = (false, eval a X.env) :: starEach [] X.env := by rfl) :
    DS X (ckK X.K) F W (.Raise (some (.Call (.Name "BadIndex" p) [a] [] pos)) none pos2) (dRaise .index ta) := by
  obtain ⟨fd, F1, hb⟩ := ini_BadIndex (P := X.prog) (w := X.w) (base := X.base) g
  exact rs_gen .index (by decide) (g.exf (by decide +kernel)) F1 hb (He.meth_ok (g.fact 80 (f := .meth "BadIndex" "__init__"))).at_ (He.noat_ok (g.fact 86 (f := .noat "BadIndex" "value"))) (g_BadIndex g) hc hg tk hr h2 ha he
theorem rs_BadParameter (g : G X.K X.mg) (hc : X.calm = true) (tk : Takes X W) (hr : Room kk X.A) (ha : DE X F a ta) (hg : Gl X "BadParameter" := by rfl) (h2 : 2 ≤ kk := by decide) (he : starEach [a] X.env = (false, eval a X.env) :: starEach [] X.env := by rfl) :
    DS X (ckK X.K) F W (.Raise (some (.Call (.Name "BadParameter" p) [a] [] pos)) none pos2) (dRaise .param ta) := by
  obtain ⟨fd, F1, hb⟩ := ini_BadParameter (P := X.prog) (w := X.w) (base := X.base) g
  exact rs_gen .param (by decide) (g.exf (by decide +kernel)) F1 hb (He.meth_ok (g.fact 81 (f := .meth "BadParameter" "__init__"))).at_ (He.noat_ok (g.fact 87 (f := .noat "BadParameter" "value"))) (g_BadParameter g) hc hg tk hr h2 ha he
theorem rs_TooGreat (g : G X.K X.mg) (hc : X.calm = true) (tk : Takes X W) (hr : Room kk X.A) (ha : DE X F a ta) (hg : Gl X "TooGreat" := by rfl) (h2 : 2 ≤ kk := by decide) (he : starEach [a] X.env = (false, eval a X.env) :: starEach [] X.env := by rfl) :
    DS X (ckK X.K) F W (.Raise (some (.Call (.Name "TooGreat" p) [a] [] pos)) none pos2) (dRaise .great ta) := by
  obtain ⟨fd, F1, hb⟩ := ini_TooGreat (P := X.prog) (w := X.w) (base := X.base) g
  exact rs_gen .great (by decide) (g.exf (by decide +kernel)) F1 hb (He.meth_ok (g.fact 83 (f := .meth "TooGreat" "__init__"))).at_ (He.noat_ok (g.fact 88 (f := .noat "TooGreat" "most"))) (g_TooGreat g) hc hg tk hr h2 ha he
theorem pmk_norow {fd : FuncData} (E : ExF X.K "NoRow") (iC : PySem.W.findIn X.K (.ref (He.ga X.K "NoRow")) "__init__" = some (some (.ref (He.ma X.K (He.ga X.K "NoRow") "__init__")))) (F1 : FnOk X.prog X.w X.K X.mg X.base CX0 1 (He.ma X.K (He.ga X.K "NoRow") "__init__") fd ["self"] (spInit0 X.K)) (hb : L2.Binds X.K fd ["self"] [])
    (hm : X.mg "NoRow" = some (.ref (He.ga X.K "NoRow"))) (hr : Room 2 X.A) (hg : Gl X "NoRow") : PMk X (.Call (.Name "NoRow" p) [] [] pos) (fun _ H Q => Q (.ref (He.ga X.K "NoRow")) none H) := by
  intro pins s σ H Q I h
  obtain ⟨nm, q, N, bs, bm, sn, sub, ab, col, dd, k0, k1, k2, k3, k5, hC, hbm⟩ := E.ox.cls
  refine wpAny_Call_Name_kw (ld_glob I hg hm (PySem.W.callWith_K0 I.kIn E.ox.kC ?_))
  show wpAny _ _ (call (.ref (He.ga X.K "NoRow")) []) _ _ _
  obtain ⟨hp, g, dr, tk, os⟩ := s
  have hsz : hp.objs.size ≤ hp.objs.size + 1 := Nat.le_succ _
  have hn : H (hp.objs.size + 1) = none := I.hok.fresh hsz
  have kk : ∀ b o, hp.get? b = some o → ((hp.push (PySem.W.kdv_tup [])).push (PySem.HandSPX.excO (He.ga X.K "NoRow") hp.objs.size)).get? b = some o := fun b o e => Heap.get?_push_of_some _ (Heap.get?_push_of_some _ e)
  have hget : ((hp.push (PySem.W.kdv_tup [])).push (PySem.HandSPX.excO (He.ga X.K "NoRow") hp.objs.size)).get? (hp.objs.size + 1) = some (PySem.HandSPX.excO (He.ga X.K "NoRow") hp.objs.size) := by heap_get
  have I2 : Inv X pins σ (upd H (hp.objs.size + 1) (exo (hp.objs.size + 1) (He.ga X.K "NoRow") none)) ⟨(hp.push (PySem.W.kdv_tup [])).push (PySem.HandSPX.excO (He.ga X.K "NoRow") hp.objs.size), g, dr, tk, os⟩ := I.laid (t' := tk) kk hsz (exo_ok hget)
  have sp0 : spInit0 X.K [.ref (hp.objs.size + 1)] (upd H (hp.objs.size + 1) (exo (hp.objs.size + 1) (He.ga X.K "NoRow") none)) (fun v H2 => v = .non ∧ H2 = upd H (hp.objs.size + 1) (exo (hp.objs.size + 1) (He.ga X.K "NoRow") none)) (fun _ _ _ => False) :=
    ⟨_, _, rfl, E.ox, upd_same, rfl, rfl⟩
  refine wpAny_call (PySem.HandSPX.call_own F.excBase_ValueError (fun Y => PySem.HandSPX.refsVE_contains Y bm hbm) (I.kIn _ _ hC) (PySem.W.looks_findIn I.kIn iC) (fun self => PySem.W.bind_fn I.kIn self E.tI) (Nat.zero_le _)
    (codeAny_mono (F1.run _ X.stack _ _ ⟨[Value.ref (hp.objs.size + 1)], []⟩ [Value.ref (hp.objs.size + 1)] [.ref (hp.objs.size + 1)] _ (fun _ _ _ => False) (hr.make _ [] []) (I2.env0.make _ [] []) (hb _ [Value.ref (hp.objs.size + 1)] I2.kIn rfl) (.cons rfl .nil) sp0) fun r s' hq' => ?_))
  cases r with
  | error er => exact hq'.elim
  | ok fl =>
    cases fl with
    | ret u =>
      obtain ⟨v, H2, os2, bare2, un, hok, rv, ev, eH⟩ := hq'
      subst ev
      obtain ⟨h2, g2, d2, t2, os'⟩ := s'
      refine ⟨rv, ?_⟩
      have ea : H2 (hp.objs.size + 1) = some (exo (hp.objs.size + 1) (He.ga X.K "NoRow") none) := by rw [eH, upd_same]
      obtain ⟨t0, hoe⟩ := exo_at hok ea
      obtain ⟨Gh, r1, r2⟩ := restrict h2 fun b => decide (b ≠ hp.objs.size + 1)
      have gk : ∀ b, b ≠ hp.objs.size + 1 → Gh.get? b = h2.get? b := fun b hb => r1 b (decide_eq_true hb)
      have gn : Gh.get? (hp.objs.size + 1) = none := r2 _ (by simp)
      have old : ∀ {b : Addr} {o : Obj}, hp.get? b = some o → b ≠ hp.objs.size + 1 := fun {b o} z => Nat.ne_of_lt (Nat.lt_of_lt_of_le (Heap.lt_size z) hsz)
      have up : ∀ {b : Addr}, b ≠ hp.objs.size + 1 → H b = none → upd H (hp.objs.size + 1) (exo (hp.objs.size + 1) (He.ga X.K "NoRow") none) b = none := fun {b} hb n => by rw [upd_ne hb]; exact n
      have at2 : ∀ {b : Addr}, b ≠ hp.objs.size + 1 → H2 b = H b := fun {b} hb => by rw [eH, upd_ne hb]
      have U : Un (frs X.stack) [] H H hp Gh := {
        keep := fun b o z n hf hx => by rw [gk b (old z)]; exact un.keep b o (kk b o z) (up (old z) n) hf hx
        slot := fun b o z n hf hx => by rw [gk b (old z)]; exact un.slot b o (kk b o z) (up (old z) n) hf hx
        free := fun b o z n hx => n
        there := fun b o z hx => by rw [gk b (old z)]; exact un.there b o (kk b o z) hx
        tups := fun b xs z => z
        frzs := fun b o v z => z
        tbls := fun b ps z => ⟨#[], by rw [z]; simp⟩ }
      have hok3 : HOk X.prog X.w H Gh := fun b o z => by
        have hb : b ≠ hp.objs.size + 1 := ne_of_none z hn
        refine (hok b o (by rw [at2 hb]; exact z)).stay (fun c v hc y => ?_) (fun c hc => ?_) fun c xs hc => ?_
        · have hca : c ≠ hp.objs.size + 1 := by
            rcases hc with hc | hc
            · rw [hc]; exact hb
            · exact at_ne ea hc exo_own
          rw [gk c hca]; exact y
        · have hca : c ≠ hp.objs.size + 1 := at_ne ea hc exo_own
          rw [← at2 hca]; exact hc
        · have hca : c ≠ hp.objs.size + 1 := at_ne ea hc exo_tup
          rw [← at2 hca]; exact hc
      have J : Inv X pins σ H ⟨Gh, g2, d2, t2, os'⟩ := I.call' (ch := []) os2 U hok3 bare2 (fun b z => absurd z (by simp))
      exact ⟨hp.objs.size + 1, _, _, ⟨Gh, g2, d2, t2, os'⟩, H, .ref (He.ga X.K "NoRow"), none, rfl, J, fun b o z => by
        by_cases hb : b = hp.objs.size + 1
        · rw [hb, gn] at z; cases z
        · rw [← gk b hb]; exact z, gn, hoe, ⟨rfl, rfl⟩, rfl, rfl, hn, rfl, bare2, raises_own E.ox.exC E.ox.tyC, h⟩
    | next => exact hq'.elim
    | brk => exact hq'.elim
    | cont => exact hq'.elim
theorem rs_NoRow (g : G X.K X.mg) (hc : X.calm = true) (tk : Takes X W) (hr : Room kk X.A) (hg : Gl X "NoRow" := by rfl) (h2 : 2 ≤ kk := by decide) :
    DS X (ckK X.K) F W (.Raise (some (.Call (.Name "NoRow" p) [] [] pos)) none pos2) dRaise0 := by
  obtain ⟨fd, F1, hb⟩ := ini_NoRow (P := X.prog) (w := X.w) (base := X.base) g
  exact ps_imp (ps_raise hc tk (pmk_norow (g.exf (by decide +kernel)) (He.meth_ok (g.fact 82 (f := .meth "NoRow" "__init__"))).at_ F1 hb (g_NoRow g) (hr.mono h2) hg)) fun D σ H ⟨Hs, ρ, K, R, q, ok⟩ => ok.ex _ ρ q _ none σ H Hs R (Same.refl _) .no
end
end Yd
set_option Elab.async false
set_option linter.all false
set_option maxRecDepth 100000
set_option maxHeartbeats 2000000
/-! # list(zip(t1, t2)) -/
namespace Yd
open PySem PySem.Spec PyProof.Rows L2 LamX
section
variable {prog : Program} {w : World} {A : Around} {E : Value → Shared → Prop} {s : Shared} {z TI TO T i1 i2 : Addr} {fp1 fp2 : List Addr} {n1 n2 i : Nat} {P1 P2 : Nat → Value → Prop} {St1 St2 : Nat → Heap → Prop} {f : Bool} {oT : Obj}
theorem zh_item {Q : Value → Shared → Prop} (S : ZipSep2 z TI TO i1 i2 fp1 fp2) (D1 : Draws prog w A i1 fp1 n1 P1 St1) (D2 : Draws prog w A i2 fp2 n2 P2 St2)
    (hz : IsZipHeld s.heap z TI TO T f) (hT : s.heap.get? T = some oT) (hTI : IsTupOf2 s.heap TI (.ref i1) (.ref i2)) (st1 : St1 i s.heap) (st2 : St2 i s.heap) (hlt1 : i < n1) (hlt2 : i < n2)
    (hQ : ∀ x1 x2 h' tk, P1 i x1 → P2 i x2 → IsZipHeld h' z TI TO T true → St1 (i + 1) h' → St2 (i + 1) h' → IsTupOf2 h' s.heap.objs.size x1 x2 → h'.objs.size = s.heap.objs.size + 1 →
      (∀ c o, c ≠ z → c ≠ i1 → c ≠ i2 → s.heap.get? c = some o → h'.get? c = some o) → Q (.ref s.heap.objs.size) { s with heap := h', toks := tk }) :
    wpAny (model prog w) A (Builtin.«zip.__next__» ⟨[.ref z], []⟩) (fun fin s' => ∃ v, fin = .done (.ret v) ∧ Q v s') E s := by
  obtain ⟨hp, g, d, tk0, os⟩ := s
  show wpAny _ _ (field (.ref z) 2 >>= _) _ _ _
  refine wpAny_bind (wpAny_field hz rfl (x := .bool false) rfl ?_)
  show wpAny _ _ (field (.ref z) 3 >>= _) _ _ _
  refine wpAny_bind (wpAny_field hz rfl (x := .ref TI) rfl ?_)
  refine wpAny_bind (wpAny_seqItems hTI rfl ?_)
  show wpAny _ _ (Builtin.SmallTypes.ownedTupleIsFree (.ref z) >>= _) _ _ _
  refine wpAny_bind (wpAny_tupleHeld_zip hz hT fun h1 hz1 hs1 => ?_)
  simp only [Bool.false_eq_true, if_false]
  replace hs1 : Heap.SameBut z hp h1 := hs1
  refine wpAny_bind ?_
  rw [← Array.forIn_toList]
  simp only [List.forIn_cons, List.forIn_nil]
  refine wpAny_bind (wpAny_bind (wpAny_holding ?_))
  show wpAny _ _ (Builtin.SmallTypes.nextOf (.ref i1) >>= _) _ _ ⟨h1, g, d, tk0, os⟩
  refine wpAny_bind (D1.item i _ _ _ hlt1 (D1.over st1 hs1 S.zf1) fun x1 p1 tk1 hx1 sn1 hp1 => wpAny_pure ?_)
  replace hp1 : Heap.SameBut i1 h1 p1 := hp1
  refine wpAny_pure ?_
  refine wpAny_bind (wpAny_bind (wpAny_holding ?_))
  show wpAny _ _ (Builtin.SmallTypes.nextOf (.ref i2) >>= _) _ _ ⟨p1, g, d, tk1, os⟩
  refine wpAny_bind (D2.item i _ _ _ hlt2 (D2.over (D2.over st2 hs1 S.zf2) hp1 S.sep1_2) fun x2 p2 tk2 hx2 sn2 hp2 => wpAny_pure ?_)
  replace hp2 : Heap.SameBut i2 p1 p2 := hp2
  refine wpAny_pure (wpAny_pure ?_)
  show wpAny _ _ (newTuple [x1, x2] >>= _) _ _ ⟨p2, g, d, tk2, os⟩
  refine wpAny_bind (wpAny_newTuple ?_)
  have hsz : p2.objs.size = hp.objs.size := by rw [hp2.1, hp1.1, hs1.1]
  have hz3 : IsZipHeld p2 z TI TO T true := hp2.extBut _ _ S.zi2 (hp1.extBut _ _ S.zi1 hz1)
  have hk : ∀ c o, c ≠ z → c ≠ i1 → c ≠ i2 → hp.get? c = some o → p2.get? c = some o := fun c o c1 c2 c3 e => hp2.extBut _ _ c3 (hp1.extBut _ _ c2 (hs1.extBut _ _ c1 e))
  have hj1 : St1 (i + 1) p2 := D1.over sn1 hp2 S.sep2_1
  refine wpAny_pure ⟨_, rfl, ?_⟩
  show Q (.ref p2.objs.size) ⟨p2.push { cls := .type "tuple", data := .seq #[x1, x2] }, g, d, tk2, os⟩
  have hp : IsTupOf2 (p2.push { cls := .type "tuple", data := .seq #[x1, x2] }) p2.objs.size x1 x2 := Heap.get?_push_size _ rfl
  have hz4 : (p2.push { cls := .type "tuple", data := .seq #[x1, x2] }).objs.size = p2.objs.size + 1 := Heap.size_push ..
  rw [hsz] at hp hz4 ⊢
  exact hQ x1 x2 _ tk2 hx1 hx2 (Heap.get?_push_of_some _ hz3) (D1.frame _ _ _ hj1 fun b hb o e => Heap.get?_push_of_some _ e) (D2.frame _ _ _ sn2 fun b hb o e => Heap.get?_push_of_some _ e) hp hz4 fun c o c1 c2 c3 e => Heap.get?_push_of_some _ (hk c o c1 c2 c3 e)
theorem zh_end {Q : Fin → Shared → Prop} (S : ZipSep2 z TI TO i1 i2 fp1 fp2) (D1 : Draws prog w A i1 fp1 n1 P1 St1)
    (hz : IsZipHeld s.heap z TI TO T f) (hT : s.heap.get? T = some oT) (hTI : IsTupOf2 s.heap TI (.ref i1) (.ref i2)) (st1 : St1 n1 s.heap)
    (hE : ∀ h' e, (∀ c o, c ≠ z → c ≠ i1 → s.heap.get? c = some o → h'.get? c = some o) → (∃ o, h'.get? e = some o ∧ o.cls = .type "StopIteration") → E (.ref e) { s with heap := h' }) :
    wpAny (model prog w) A (Builtin.«zip.__next__» ⟨[.ref z], []⟩) Q E s := by
  obtain ⟨hp, g, d, tk0, os⟩ := s
  show wpAny _ _ (field (.ref z) 2 >>= _) _ _ _
  refine wpAny_bind (wpAny_field hz rfl (x := .bool false) rfl ?_)
  show wpAny _ _ (field (.ref z) 3 >>= _) _ _ _
  refine wpAny_bind (wpAny_field hz rfl (x := .ref TI) rfl ?_)
  refine wpAny_bind (wpAny_seqItems hTI rfl ?_)
  show wpAny _ _ (Builtin.SmallTypes.ownedTupleIsFree (.ref z) >>= _) _ _ _
  refine wpAny_bind (wpAny_tupleHeld_zip hz hT fun h1 hz1 hs1 => ?_)
  simp only [Bool.false_eq_true, if_false]
  replace hs1 : Heap.SameBut z hp h1 := hs1
  refine wpAny_bind ?_
  rw [← Array.forIn_toList]
  simp only [List.forIn_cons, List.forIn_nil]
  refine wpAny_bind (wpAny_bind (wpAny_holding ?_))
  show wpAny _ _ (Builtin.SmallTypes.nextOf (.ref i1) >>= _) _ _ ⟨h1, g, d, tk0, os⟩
  refine wpAny_bind (D1.done _ _ _ (D1.over st1 hs1 S.zf1) fun q e hq he => ?_)
  exact hE q e (fun c o c1 c2 x => hq _ _ c2 (hs1.extBut _ _ c1 x)) he
theorem zn_item {Q : Option Value → Shared → Prop} (S : ZipSep2 z TI TO i1 i2 fp1 fp2) (D1 : Draws prog w A.in1 i1 fp1 n1 P1 St1) (D2 : Draws prog w A.in1 i2 fp2 n2 P2 St2)
    (hz : IsZipHeld s.heap z TI TO T f) (hT : s.heap.get? T = some oT) (hTI : IsTupOf2 s.heap TI (.ref i1) (.ref i2)) (st1 : St1 i s.heap) (st2 : St2 i s.heap) (hlt1 : i < n1) (hlt2 : i < n2)
    (hQ : ∀ x1 x2 h' tk, P1 i x1 → P2 i x2 → IsZipHeld h' z TI TO T true → St1 (i + 1) h' → St2 (i + 1) h' → IsTupOf2 h' s.heap.objs.size x1 x2 → h'.objs.size = s.heap.objs.size + 1 →
      (∀ c o, c ≠ z → c ≠ i1 → c ≠ i2 → s.heap.get? c = some o → h'.get? c = some o) → Q (some (.ref s.heap.objs.size)) { s with heap := h', toks := tk }) :
    wpAny (model prog w) A (pyNext (.ref z)) Q E s := by
  have hTy : s.TypeIs (.ref z) "zip" := ⟨_, hz, rfl⟩
  unfold pyNext
  exact wpAny_bind (wpAny_attempt (wpAny_callSpecial?_slot (name := Str.ofString "__next__") hTy F.slot_zip_next
    (wpAny_call_entry F.slot_zip_next hTy F.entry_zip_next
      (zh_item S D1 D2 hz hT hTI st1 st2 hlt1 hlt2 fun x1 x2 h' tk a1 a2 a3 a4 a5 a6 a7 a8 => wpAny_pure (hQ x1 x2 h' tk a1 a2 a3 a4 a5 a6 a7 a8)) (F.args_zip_next_1 _))))
theorem zn_end {Q : Option Value → Shared → Prop} (S : ZipSep2 z TI TO i1 i2 fp1 fp2) (D1 : Draws prog w A.in1 i1 fp1 n1 P1 St1)
    (hz : IsZipHeld s.heap z TI TO T f) (hT : s.heap.get? T = some oT) (hTI : IsTupOf2 s.heap TI (.ref i1) (.ref i2)) (st1 : St1 n1 s.heap)
    (hQ : ∀ h', (∀ c o, c ≠ z → c ≠ i1 → s.heap.get? c = some o → h'.get? c = some o) → Q none { s with heap := h' }) :
    wpAny (model prog w) A (pyNext (.ref z)) Q E s := by
  have hTy : s.TypeIs (.ref z) "zip" := ⟨_, hz, rfl⟩
  unfold pyNext
  refine wpAny_bind (wpAny_attempt (wpAny_callSpecial?_slot (name := Str.ofString "__next__") hTy F.slot_zip_next
    (wpAny_call_entry F.slot_zip_next hTy F.entry_zip_next (zh_end S D1 hz hT hTI st1 fun h' e hk he => ?_) (F.args_zip_next_1 _))))
  obtain ⟨o, ho, hc⟩ := he
  refine wpAny_bind (wpAny_isInstance (T := "StopIteration") (b := true) ⟨o, ho, hc⟩ isSubtype_stop ?_)
  exact wpAny_pure (hQ _ hk)
end
end Yd
namespace Yd
open PySem PySem.Spec PyProof.Rows L2 LamX
/-- tuples laid one by one -/
inductive Mk : Hp → List Addr → List V → List V → Hp → Prop
  | nil {H : Hp} : Mk H [] [] [] H
  | cons {H H2 : Hp} {T : Addr} {Ts : List Addr} {x y : V} {xs ys : List V} (h : H T = none) (r : Mk (upd H T (.tup [x, y])) Ts xs ys H2) : Mk H (T :: Ts) (x :: xs) (y :: ys) H2
section
variable {X : Cx} {pins : List (Addr × Obj)} {σ : L2.St} {A : Around} {R : Result → Shared → Prop} {a b z TI TO i1 i2 S T : Addr} {xs ys : List V} {its its2 : List Value}
theorem seq_at {h h' : Heap} {a : Addr} {items : Array Value} (x : SeqOk true h a items) (e : ∀ o, h.get? a = some o → h'.get? a = some o) : SeqOk true h' a items :=
  Heap.IsTuple.at (show h.IsTuple a items from x) e
/-- amid the loop -/
structure ZL (X : Cx) (pins : List (Addr × Obj)) (σ : L2.St) (a b z TI TO i1 i2 S T : Addr) (its its2 : List Value) (i : Nat) (f : Bool) (H : Hp) (s : Shared) (acc : Array Value) (c : Nat) : Prop where
  inv : Inv X pins σ H s
  fp : ∀ q ∈ [z, i1, i2, S], FpOk X pins H q
  zip : IsZipHeld s.heap z TI TO T f
  live : ∃ oT, s.heap.get? T = some oT
  tap : T ∉ [z, i1, i2, S]
  ti : IsTupOf2 s.heap TI (.ref i1) (.ref i2)
  tip : TI ∉ [z, i1, i2, S]
  it1 : IterOk true s.heap i1 a i
  it2 : IterOk true s.heap i2 b i
  sq1 : SeqOk true s.heap a its.toArray
  sq2 : SeqOk true s.heap b its2.toArray
  ap : a ∉ [z, i1, i2, S] ∧ b ∉ [z, i1, i2, S]
  lst : s.heap.get? S = some (lstObj acc c)
  sap : S ≠ z ∧ S ≠ i1 ∧ S ≠ i2
theorem zl_loop (hc : X.calm = true) (hh : A.handled = none) (Sp : ZipSep2 z TI TO i1 i2 [i1, a] [i2, b]) (i12 : i1 ≠ i2) (res : Value) (hxy : its.length = its2.length) (hle : its.length ≤ 1000) :
    ∀ (k i : Nat) (s : Shared) (H : Hp) (acc : Array Value) (c : Nat) (out : List V) (f : Bool) (xs ys : List V), ZL X pins σ a b z TI TO i1 i2 S T its its2 i f H s acc c → Vals out acc.toList → acc.size = i → i + k = its.length →
      Vals xs (its.drop i) → Vals ys (its2.drop i) →
      (∀ s' acc' c' H2 Ts, Inv X pins σ H2 s' → Mk H Ts xs ys H2 → H2 S = none → s'.heap.get? S = some (lstObj acc' c') → Vals (out ++ Ts.map V.ref) acc'.toList → R (.ok (.ret res)) s') →
      codeAny (model X.prog X.w) A (.builtin "list.extend.loop" ⟨[.ref S, .ref z, res], []⟩) R s := by
  intro k
  induction k with
  | zero =>
    intro i s H acc c out f xs ys L hv ha hk hxs hys hR
    refine codeAny_builtin F.entry_extend_loop ?_
    rw [Around.under_plainId F.plain_extend_loop _]
    show wpAny _ A.in1 (pyNext (.ref z) >>= _) _ _ s
    obtain ⟨oT, eT⟩ := L.live
    have ane : a ≠ i1 := fun e => L.ap.1 (by simp [e])
    have hi : its.toArray.size = i := by simp; omega
    have D1 := draws_sq (prog := X.prog) (w := X.w) (A := A.in1.in1) true hh i1 a ane its.toArray
    refine wpAny_bind (zn_end (A := A.in1) (f := f) (oT := oT) Sp D1 L.zip eT L.ti (by rw [hi]; exact ⟨L.it1, L.sq1⟩) fun h' hkeep => ?_)
    have e1 : its.drop i = [] := List.drop_eq_nil_of_le (by omega)
    have e2 : its2.drop i = [] := List.drop_eq_nil_of_le (by omega)
    rw [e1] at hxs
    rw [e2] at hys
    cases hxs
    cases hys
    refine wpAny_pure (hR _ acc c H [] (L.inv.turnedL (t' := s.toks) (ch := [z, i1]) (fun q o hq e => hkeep q o (fun x => hq (by simp [x])) (fun x => hq (by simp [x])) e) fun q hq => L.fp q (by
      rcases List.mem_cons.mp hq with e | e
      · simp [e]
      · simp [List.mem_singleton.mp e])) .nil (L.fp S (by simp)).1 (hkeep _ _ L.sap.1 L.sap.2.1 L.lst) ?_)
    simpa using hv
  | succ k ih =>
    intro i s H acc c out f xs ys L hv ha hk hxs hys hR
    refine codeAny_builtin F.entry_extend_loop ?_
    rw [Around.under_plainId F.plain_extend_loop _]
    show wpAny _ A.in1 (pyNext (.ref z) >>= _) _ _ s
    obtain ⟨oT, eT⟩ := L.live
    have ane : a ≠ i1 := fun e => L.ap.1 (by simp [e])
    have bne : b ≠ i2 := fun e => L.ap.2 (by simp [e])
    have D1 := draws_sq (prog := X.prog) (w := X.w) (A := A.in1.in1) true hh i1 a ane its.toArray
    have D2 := draws_sq (prog := X.prog) (w := X.w) (A := A.in1.in1) true hh i2 b bne its2.toArray
    have hi1 : i < its.length := by omega
    have hi2 : i < its2.length := by omega
    rw [List.drop_eq_getElem_cons hi1] at hxs
    rw [List.drop_eq_getElem_cons hi2] at hys
    refine wpAny_bind (zn_item (A := A.in1) (f := f) (oT := oT) (i := i) Sp D1 D2 L.zip eT L.ti ⟨L.it1, L.sq1⟩ ⟨L.it2, L.sq2⟩ (by simpa using hi1) (by simpa using hi2) fun x1 x2 h' tk hx1 hx2 hz' st1' st2' hTup hsz hkeep => ?_)
    cases hxs with
    | @cons x _ xs' _ rx hxs' =>
    cases hys with
    | @cons y _ ys' _ ry hys' =>
    have ex : x1 = its[i] := by
      have q : its.toArray[i]? = some its[i] := by simp [hi1]
      rw [q] at hx1
      exact (Option.some.inj hx1).symm
    have ey : x2 = its2[i] := by
      have q : its2.toArray[i]? = some its2[i] := by simp [hi2]
      rw [q] at hx2
      exact (Option.some.inj hx2).symm
    rw [← ex] at rx
    rw [← ey] at ry
    have new : ObjOk X.prog X.w (upd H s.heap.objs.size (.tup [x, y])) h' s.heap.objs.size (.tup [x, y]) :=
      ⟨by show 2 ≤ sizeLine; decide, [x1, x2], .cons rx (.cons ry .nil), _, hTup, rfl, _, rfl⟩
    have I1 := L.inv.turnedNew (t' := tk) (ch := [z, i1, i2]) (fun q o hq e => hkeep q o (fun u => hq (by simp [u])) (fun u => hq (by simp [u])) (fun u => hq (by simp [u])) e) (fun q hq => L.fp q (by
      simp only [List.mem_cons, List.not_mem_nil, or_false] at hq ⊢
      rcases hq with e | e | e <;> simp [e])) (Nat.le_refl _) new
    have hS' : h'.get? S = some (lstObj acc c) := hkeep S _ L.sap.1 L.sap.2.1 L.sap.2.2 L.lst
    have lz : z < s.heap.objs.size := Heap.lt_size L.zip
    have l1 : i1 < s.heap.objs.size := by obtain ⟨_, e, _⟩ := iter_obj L.it1; exact Heap.lt_size e
    have l2 : i2 < s.heap.objs.size := by obtain ⟨_, e, _⟩ := iter_obj L.it2; exact Heap.lt_size e
    have lS : S < s.heap.objs.size := Heap.lt_size L.lst
    have fp' : ∀ q ∈ [z, i1, i2, S], FpOk X pins (upd H s.heap.objs.size (.tup [x, y])) q := fun q hq => by
      refine ⟨?_, (L.fp q hq).2⟩
      have lq : q < s.heap.objs.size := by
        simp only [List.mem_cons, List.not_mem_nil, or_false] at hq
        rcases hq with e | e | e | e <;> (rw [e]; assumption)
      rw [upd_ne (Nat.ne_of_lt lq)]
      exact (L.fp q hq).1
    have keep2 : ∀ q o, q ≠ S → h'.get? q = some o → (h'.update S (Obj.mapSeq (·.push (Value.ref s.heap.objs.size)))).get? q = some o := fun q o hq e => (Heap.get?_update_other _ _ (Ne.symm hq)).trans e
    have fS := fp' S (by simp)
    have I2 := I1.turned (it := S) (t' := tk) keep2 fS.1 fS.2.1 fS.2.2.2.1 fS.2.2.2.2.1 fS.2.2.2.2.2
    show wpAny _ A.in1 (updateSeq S (·.push (Value.ref s.heap.objs.size)) >>= _) _ _ _
    refine wpAny_bind ?_
    have aS : a ≠ S := fun e => L.ap.1 (by simp [e])
    have bS : b ≠ S := fun e => L.ap.2 (by simp [e])
    have big : (1000 : Nat) < sizeLine := by decide
    have hT0 : T ≠ z ∧ T ≠ i1 ∧ T ≠ i2 ∧ T ≠ S := ⟨fun e => L.tap (by simp [e]), fun e => L.tap (by simp [e]), fun e => L.tap (by simp [e]), fun e => L.tap (by simp [e])⟩
    have hTI0 : TI ≠ z ∧ TI ≠ i1 ∧ TI ≠ i2 ∧ TI ≠ S := ⟨fun e => L.tip (by simp [e]), fun e => L.tip (by simp [e]), fun e => L.tip (by simp [e]), fun e => L.tip (by simp [e])⟩
    have L3 : ∀ c', (h'.update S (Obj.mapSeq (·.push (Value.ref s.heap.objs.size)))).get? S = some (lstObj (acc.push (.ref s.heap.objs.size)) c') → ZL X pins σ a b z TI TO i1 i2 S T its its2 (i + 1) true (upd H s.heap.objs.size (.tup [x, y])) { s with heap := h'.update S (Obj.mapSeq (·.push (Value.ref s.heap.objs.size))), toks := tk } (acc.push (.ref s.heap.objs.size)) c' := fun c' eS => by
      have kT : ∀ q o, q ≠ z → q ≠ i1 → q ≠ i2 → q ≠ S → s.heap.get? q = some o → (h'.update S (Obj.mapSeq (·.push (Value.ref s.heap.objs.size)))).get? q = some o := fun q o h1 h2 h3 h4 e => keep2 q o h4 (hkeep q o h1 h2 h3 e)
      exact {
        inv := I2
        fp := fp'
        zip := keep2 z _ (Ne.symm L.sap.1) hz'
        live := ⟨oT, kT T oT hT0.1 hT0.2.1 hT0.2.2.1 hT0.2.2.2 eT⟩
        tap := L.tap
        ti := kT TI _ hTI0.1 hTI0.2.1 hTI0.2.2.1 hTI0.2.2.2 L.ti
        tip := L.tip
        it1 := iter_at st1'.1 fun o e => keep2 i1 o (Ne.symm L.sap.2.1) e
        it2 := iter_at st2'.1 fun o e => keep2 i2 o (Ne.symm L.sap.2.2) e
        sq1 := seq_at st1'.2 fun o e => keep2 a o aS e
        sq2 := seq_at st2'.2 fun o e => keep2 b o bS e
        ap := L.ap
        lst := eS
        sap := L.sap }
    refine wpAny_updateSeq hS' rfl (wpAny_pure ⟨plainId_quiet F.plain_extend_loop _, ih (i + 1) _ _ (acc.push (.ref s.heap.objs.size)) _ (out ++ [.ref s.heap.objs.size]) true xs' ys' (L3 _ (Heap.get?_update_self _ hS' rfl)) ?_ (by rw [Array.size_push, ha]) (by omega) hxs' hys' fun s' acc' c' H2 Ts I' mk hn' e' hv' => ?_⟩) (by omega) (by show (acc.push _).size ≤ sizeLine + 1; rw [Array.size_push]; omega)
    · rw [Array.toList_push]
      exact hv.append (.cons rfl .nil)
    · exact hR s' acc' c' H2 (s.heap.objs.size :: Ts) I' (.cons (L.inv.hok.fresh (Nat.le_refl _)) mk) hn' e' (by simpa using hv')
end
end Yd
namespace Yd
open PySem PySem.Spec PyProof.Rows L2 LamX
theorem zip_no_len : typeLookup (.type "zip") "__len__" = pure none := am_miss_of_fast (by decide +kernel)
theorem zip_no_hint : typeLookup (.type "zip") "__length_hint__" = pure none := am_miss_of_fast (by decide +kernel)
end Yd
set_option Elab.async false
set_option linter.all false
set_option maxRecDepth 100000
set_option maxHeartbeats 2000000
/-! # list(zip(t1, t2)), the end -/
namespace Yd
open PySem PySem.Spec PyProof.Rows L2 LamX
theorem Mk.length {H H2 : Hp} {Ts : List Addr} {xs ys : List V} (m : Mk H Ts xs ys H2) : Ts.length = xs.length := by
  induction m with
  | nil => rfl
  | cons h r ih => rw [List.length_cons, List.length_cons, ih]
section
variable {X : Cx} {pins : List (Addr × Obj)} {σ : L2.St} {H : Hp} {s : Shared} {A : Around} {R : Result → Shared → Prop} {a b z TI TO i1 i2 S : Addr} {xs ys : List V} {its its2 : List Value} {u1 u2 : Value} {c : Nat}
theorem zl_first (hc : X.calm = true) (hh : A.handled = none) (Sp : ZipSep2 z TI TO i1 i2 [i1, a] [i2, b]) (i12 : i1 ≠ i2) (res : Value) (hxy : its.length = its2.length) (hle : its.length ≤ 1000) (hne : 0 < its.length)
    (I : Inv X pins σ H s) (fp : ∀ q ∈ [z, TO, i1, i2, S], FpOk X pins H q) (hz : IsZip s.heap z TI TO .none) (hTI : IsTupOf2 s.heap TI (.ref i1) (.ref i2)) (hTO : IsTupOf2 s.heap TO u1 u2) (tip : TI ∉ [z, TO, i1, i2, S])
    (it1 : IterOk true s.heap i1 a 0) (it2 : IterOk true s.heap i2 b 0) (sq1 : SeqOk true s.heap a its.toArray) (sq2 : SeqOk true s.heap b its2.toArray) (ap : a ∉ [z, TO, i1, i2, S] ∧ b ∉ [z, TO, i1, i2, S])
    (lst : s.heap.get? S = some (lstObj #[] c)) (sap : S ≠ z ∧ S ≠ TO ∧ S ≠ i1 ∧ S ≠ i2) (vx : Vals xs its) (vy : Vals ys its2)
    (hR : ∀ s' acc' c' H2 Ts, Inv X pins σ H2 s' → Mk H Ts xs ys H2 → H2 S = none → s'.heap.get? S = some (lstObj acc' c') → Vals (Ts.map V.ref) acc'.toList → Ts.length = its.length → R (.ok (.ret res)) s') :
    codeAny (model X.prog X.w) A (.builtin "list.extend.loop" ⟨[.ref S, .ref z, res], []⟩) R s := by
  refine codeAny_builtin F.entry_extend_loop ?_
  rw [Around.under_plainId F.plain_extend_loop _]
  show wpAny _ A.in1 (pyNext (.ref z) >>= _) _ _ s
  have ane : a ≠ i1 := fun e => ap.1 (by simp [e])
  have bne : b ≠ i2 := fun e => ap.2 (by simp [e])
  have D1 := draws_sq (prog := X.prog) (w := X.w) (A := A.in1.in1) true hh i1 a ane its.toArray
  have D2 := draws_sq (prog := X.prog) (w := X.w) (A := A.in1.in1) true hh i2 b bne its2.toArray
  have hi1 : 0 < its.length := hne
  have hi2 : 0 < its2.length := by omega
  obtain ⟨v1, its', rfl⟩ : ∃ v l, its = v :: l := by cases its with
    | nil => exact absurd hne (by simp)
    | cons v l => exact ⟨v, l, rfl⟩
  obtain ⟨v2, its2', rfl⟩ : ∃ v l, its2 = v :: l := by cases its2 with
    | nil => exact absurd hi2 (by simp)
    | cons v l => exact ⟨v, l, rfl⟩
  refine wpAny_bind (wpAny_pyNext_zipD2_item (A := A.in1) (i := 0) Sp D1 D2 hz hTI hTO ⟨it1, sq1⟩ ⟨it2, sq2⟩ (by simp) (by simp) fun x1 x2 h' tk hx1 hx2 hz' hTO' st1' st2' hTup hsz hkeep => ?_)
  cases vx with
  | @cons x _ xs' _ rx hxs' =>
  cases vy with
  | @cons y _ ys' _ ry hys' =>
  have ex : x1 = v1 := by
    have q : (v1 :: its').toArray[0]? = some v1 := by simp
    rw [q] at hx1
    exact (Option.some.inj hx1).symm
  have ey : x2 = v2 := by
    have q : (v2 :: its2').toArray[0]? = some v2 := by simp
    rw [q] at hx2
    exact (Option.some.inj hx2).symm
  rw [← ex] at rx
  rw [← ey] at ry
  have new : ObjOk X.prog X.w (upd H s.heap.objs.size (.tup [x, y])) h' s.heap.objs.size (.tup [x, y]) :=
    ⟨by show 2 ≤ sizeLine; decide, [x1, x2], .cons rx (.cons ry .nil), _, hTup, rfl, _, rfl⟩
  have I1 := I.turnedNew (t' := tk) (ch := [z, TO, i1, i2]) (fun q o hq e => hkeep q o (fun u => hq (by simp [u])) (fun u => hq (by simp [u])) (fun u => hq (by simp [u])) (fun u => hq (by simp [u])) e) (fun q hq => fp q (by
    simp only [List.mem_cons, List.not_mem_nil, or_false] at hq ⊢
    rcases hq with e | e | e | e <;> simp [e])) (Nat.le_refl _) new
  have hS' : h'.get? S = some (lstObj #[] c) := hkeep S _ sap.1 sap.2.1 sap.2.2.1 sap.2.2.2 lst
  have lz : z < s.heap.objs.size := Heap.lt_size hz
  have lTO : TO < s.heap.objs.size := Heap.lt_size hTO
  have l1 : i1 < s.heap.objs.size := by obtain ⟨_, e, _⟩ := iter_obj it1; exact Heap.lt_size e
  have l2 : i2 < s.heap.objs.size := by obtain ⟨_, e, _⟩ := iter_obj it2; exact Heap.lt_size e
  have lS : S < s.heap.objs.size := Heap.lt_size lst
  have fp' : ∀ q ∈ [z, TO, i1, i2, S], FpOk X pins (upd H s.heap.objs.size (.tup [x, y])) q := fun q hq => by
    refine ⟨?_, (fp q hq).2⟩
    have lq : q < s.heap.objs.size := by
      simp only [List.mem_cons, List.not_mem_nil, or_false] at hq
      rcases hq with e | e | e | e | e <;> (rw [e]; assumption)
    rw [upd_ne (Nat.ne_of_lt lq)]
    exact (fp q hq).1
  have keep2 : ∀ q o, q ≠ S → h'.get? q = some o → (h'.update S (Obj.mapSeq (·.push (Value.ref s.heap.objs.size)))).get? q = some o := fun q o hq e => (Heap.get?_update_other _ _ (Ne.symm hq)).trans e
  have fS := fp' S (by simp)
  have I2 := I1.turned (it := S) (t' := tk) keep2 fS.1 fS.2.1 fS.2.2.2.1 fS.2.2.2.2.1 fS.2.2.2.2.2
  show wpAny _ A.in1 (updateSeq S (·.push (Value.ref s.heap.objs.size)) >>= _) _ _ _
  refine wpAny_bind ?_
  have aS : a ≠ S := fun e => ap.1 (by simp [e])
  have bS : b ≠ S := fun e => ap.2 (by simp [e])
  have nTI : TI ≠ z ∧ TI ≠ TO ∧ TI ≠ i1 ∧ TI ≠ i2 ∧ TI ≠ S := ⟨fun e => tip (by simp [e]), fun e => tip (by simp [e]), fun e => tip (by simp [e]), fun e => tip (by simp [e]), fun e => tip (by simp [e])⟩
  have tS : ∀ q, q < s.heap.objs.size → s.heap.objs.size ≠ q := fun q h => (Nat.ne_of_lt h).symm
  have L3 : ∀ c', (h'.update S (Obj.mapSeq (·.push (Value.ref s.heap.objs.size)))).get? S = some (lstObj ((#[] : Array Value).push (.ref s.heap.objs.size)) c') → ZL X pins σ a b z TI TO i1 i2 S s.heap.objs.size (v1 :: its') (v2 :: its2') 1 false (upd H s.heap.objs.size (.tup [x, y])) { s with heap := h'.update S (Obj.mapSeq (·.push (Value.ref s.heap.objs.size))), toks := tk } ((#[] : Array Value).push (.ref s.heap.objs.size)) c' := fun c' eS => by
    have hTIk : IsTupOf2 (h'.update S (Obj.mapSeq (·.push (Value.ref s.heap.objs.size)))) TI (.ref i1) (.ref i2) := keep2 TI _ nTI.2.2.2.2 (hkeep TI _ nTI.1 nTI.2.1 nTI.2.2.1 nTI.2.2.2.1 hTI)
    exact {
      inv := I2
      fp := fun q hq => fp' q (by
        simp only [List.mem_cons, List.not_mem_nil, or_false] at hq ⊢
        rcases hq with e | e | e | e <;> simp [e])
      zip := keep2 z _ (Ne.symm sap.1) hz'
      live := ⟨_, keep2 _ _ (tS S lS) hTup⟩
      tap := by
        simp only [List.mem_cons, List.not_mem_nil, or_false, not_or]
        exact ⟨tS z lz, tS i1 l1, tS i2 l2, tS S lS⟩
      ti := hTIk
      tip := by
        simp only [List.mem_cons, List.not_mem_nil, or_false, not_or]
        exact ⟨nTI.1, nTI.2.2.1, nTI.2.2.2.1, nTI.2.2.2.2⟩
      it1 := iter_at st1'.1 fun o e => keep2 i1 o (Ne.symm sap.2.2.1) e
      it2 := iter_at st2'.1 fun o e => keep2 i2 o (Ne.symm sap.2.2.2) e
      sq1 := seq_at st1'.2 fun o e => keep2 a o aS e
      sq2 := seq_at st2'.2 fun o e => keep2 b o bS e
      ap := by
        constructor
        · intro q
          simp only [List.mem_cons, List.not_mem_nil, or_false] at q
          exact ap.1 (by rcases q with e | e | e | e <;> simp [e])
        · intro q
          simp only [List.mem_cons, List.not_mem_nil, or_false] at q
          exact ap.2 (by rcases q with e | e | e | e <;> simp [e])
      lst := eS
      sap := ⟨sap.1, sap.2.2.1, sap.2.2.2⟩ }
  refine wpAny_updateSeq hS' rfl (wpAny_pure ⟨plainId_quiet F.plain_extend_loop _, zl_loop hc hh Sp i12 res hxy hle its'.length 1 _ _ ((#[] : Array Value).push (.ref s.heap.objs.size)) _ [.ref s.heap.objs.size] false xs' ys' (L3 _ (Heap.get?_update_self _ hS' rfl)) ?_ rfl (by simp; omega) (by simpa using hxs') (by simpa using hys') fun s' acc' c' H2 Ts I' mk hn' e' hv' => ?_⟩) (by simp) (by simp [sizeLine])
  · exact .cons rfl .nil
  · have hl : Ts.length = its'.length := by
      have q := mk.length
      rw [q, hxs'.length]
    exact hR s' acc' c' H2 (s.heap.objs.size :: Ts) I' (.cons (I.hok.fresh (Nat.le_refl _)) mk) hn' e' (by simpa using hv') (by simp [hl])

/-- list(z), z a zip that has not begun -/
theorem call_list_zip {Q' : Value → Shared → Prop} {E : Value → Shared → Prop} (hc : X.calm = true) (hh : A.handled = none) (Sp : ZipSep2 z TI TO i1 i2 [i1, a] [i2, b]) (i12 : i1 ≠ i2) (hxy : its.length = its2.length) (hle : its.length ≤ 1000) (hne : 0 < its.length)
    (I : Inv X pins σ H s) (fp : ∀ q ∈ [z, TO, i1, i2], FpOk X pins H q) (hz : IsZip s.heap z TI TO .none) (hTI : IsTupOf2 s.heap TI (.ref i1) (.ref i2)) (hTO : IsTupOf2 s.heap TO u1 u2) (tip : TI ∉ [z, TO, i1, i2])
    (it1 : IterOk true s.heap i1 a 0) (it2 : IterOk true s.heap i2 b 0) (sq1 : SeqOk true s.heap a its.toArray) (sq2 : SeqOk true s.heap b its2.toArray) (ap : a ∉ [z, TO, i1, i2] ∧ b ∉ [z, TO, i1, i2]) (vx : Vals xs its) (vy : Vals ys its2)
    (hQ : ∀ S s' H2 Ts, Inv X pins σ (upd H2 S (.lst (Ts.map V.ref))) s' → Mk H Ts xs ys H2 → H2 S = none → Q' (.ref S) s') :
    wpAny (model X.prog X.w) A (call (.type "list") [.ref z]) Q' E s := by
  have lz : z < s.heap.objs.size := Heap.lt_size hz
  have lTO : TO < s.heap.objs.size := Heap.lt_size hTO
  have lTI : TI < s.heap.objs.size := Heap.lt_size hTI
  have l1 : i1 < s.heap.objs.size := by obtain ⟨_, e, _⟩ := iter_obj it1; exact Heap.lt_size e
  have l2 : i2 < s.heap.objs.size := by obtain ⟨_, e, _⟩ := iter_obj it2; exact Heap.lt_size e
  have la : a < s.heap.objs.size := by
    have q : s.heap.IsTuple a its.toArray := sq1
    obtain ⟨o, e, _⟩ := q
    exact Heap.lt_size e
  have lb : b < s.heap.objs.size := by
    have q : s.heap.IsTuple b its2.toArray := sq2
    obtain ⟨o, e, _⟩ := q
    exact Heap.lt_size e
  have hSz : s.heap.objs.size ≠ z := (Nat.ne_of_lt lz).symm
  refine callType_codes (Q₁ := fun obj s₁ => obj = .ref s.heap.objs.size ∧ s₁ = { s with heap := s.heap.push { cls := .type "list", data := .seq #[] } }) F.called_list (F.typeCall_list_1 _) F.entry_list_init
    (code_list_new _ ⟨rfl, rfl⟩) fun obj s₁ h₁ => ?_
  obtain ⟨rfl, rfl⟩ := h₁
  have hS : (s.heap.push { cls := .type "list", data := .seq #[] }).get? s.heap.objs.size = some { cls := .type "list", data := .seq #[] } := Heap.get?_push_size _ rfl
  refine ⟨⟨_, hS, rfl⟩, F.args_list_init_2 _ _, ?_⟩
  show wpAny _ A.in1.in1 (do let old ← Builtin.List.listItems (.ref s.heap.objs.size); Builtin.List.listUpdate (.ref s.heap.objs.size) (fun _ => #[]); letGo old.toList.reverse; Builtin.List.listExtendWith (.ref s.heap.objs.size) (.ref z) .none) _ _ _
  refine wpAny_bind ?_
  unfold Builtin.List.listItems
  refine wpAny_bind (wpAny_seqItems hS rfl (wpAny_pure ?_))
  show wpAny _ A.in1.in1 (updateSeq s.heap.objs.size (fun _ => #[]) >>= fun _ => letGo (#[] : Array Value).toList.reverse >>= fun _ => Builtin.List.listExtendWith (.ref s.heap.objs.size) (.ref z) .none) _ _ _
  refine wpAny_bind (wpAny_updateSeq hS rfl ?_)
  have hS2 := Heap.get?_update_self (Obj.mapSeq (fun _ => (#[] : Array Value))) hS rfl
  refine wpAny_bind (wpAny_letGo ?_)
  unfold Builtin.List.listExtendWith
  have up : ∀ (h : Heap) (f : Obj → Obj), (∀ b o, s.heap.get? b = some o → h.get? b = some o) → ∀ b o, s.heap.get? b = some o → (h.update s.heap.objs.size f).get? b = some o := fun h f q b o e =>
    (Heap.get?_update_other _ _ (Ne.symm (Nat.ne_of_lt (Heap.lt_size e)))).trans (q b o e)
  have k1 : ∀ b o, s.heap.get? b = some o → (s.heap.push { cls := .type "list", data := .seq #[] }).get? b = some o := fun b o e => Heap.get?_push_of_some _ e
  have k2 := up _ (Obj.mapSeq (fun _ => (#[] : Array Value))) k1
  have gty : ∀ {h : Heap}, (∀ b o, s.heap.get? b = some o → h.get? b = some o) → ({ s with heap := h } : Shared).TypeIs (.ref z) "zip" := fun {h} q => ⟨_, q _ _ hz, rfl⟩
  refine wpAny_bind (wpAny_typeOf (gty k2) ?_)
  have h1 : Builtin.List.listSameRef (.ref s.heap.objs.size) (.ref z) = false := by simp [Builtin.List.listSameRef, hSz]
  have h2 : (Value.type "zip" == Value.type "list") = false := by decide
  have h3 : (Value.type "zip" == Value.type "tuple") = false := by decide
  simp only [h1, h2, h3, Bool.or_false, Bool.false_eq_true, if_false]
  refine wpAny_bind (wpAny_pyIter_zip (s := { s with heap := _ }) (k2 _ _ hz) ?_)
  refine wpAny_bind (wpAny_holding ?_)
  unfold Builtin.List.listLengthHint
  refine wpAny_bind (wpAny_specialOf (gty k2) zip_no_len ?_)
  show wpAny _ A.in1.in1 (specialOf (Value.ref z) (Str.ofString "__length_hint__") >>= _) _ _ _
  refine wpAny_bind (wpAny_specialOf (gty k2) zip_no_hint ?_)
  refine wpAny_pure ?_
  show wpAny _ A.in1.in1 (rule "list.extend.makes-room" >>= fun _ => Builtin.List.listTouch (.ref s.heap.objs.size) >>= fun _ =>
    again (.builtin "list.extend.loop" ⟨[.ref s.heap.objs.size, .ref z, .none], []⟩)) _ _ _
  refine wpAny_bind (wpAny_rule ?_)
  refine wpAny_bind ?_
  show wpAny _ A.in1.in1 (updateSeq s.heap.objs.size (·.push .none) >>= fun _ => updateSeq s.heap.objs.size (·.pop)) _ _ _
  refine wpAny_bind (wpAny_updateSeq hS2 rfl ?_)
  have hS3 := Heap.get?_update_self (Obj.mapSeq (·.push Value.none)) hS2 rfl
  refine wpAny_updateSeq (hz := by seq_fits) hS3 rfl ?_
  have hS4 := Heap.get?_update_self (Obj.mapSeq (·.pop)) hS3 rfl
  have k4 := up _ (Obj.mapSeq (·.pop)) (up _ (Obj.mapSeq (·.push Value.none)) k2)
  refine wpAny_pure ⟨plainId_quiet F.plain_extend_loop _, ?_⟩
  have I4 := I.kept (t' := s.toks) k4
  have fS : FpOk X pins H s.heap.objs.size := I.fpOk (Nat.le_refl _) (I.hok.fresh (Nat.le_refl _))
  have ne5 : ∀ q, q < s.heap.objs.size → q ≠ s.heap.objs.size := fun q h => Nat.ne_of_lt h
  have ap5 : ∀ q, q < s.heap.objs.size → q ∉ [z, TO, i1, i2] → q ∉ [z, TO, i1, i2, s.heap.objs.size] := fun q lq h e => by
    simp only [List.mem_cons, List.not_mem_nil, or_false] at e h
    rcases e with e | e | e | e | e
    · exact h (.inl e)
    · exact h (.inr (.inl e))
    · exact h (.inr (.inr (.inl e)))
    · exact h (.inr (.inr (.inr e)))
    · exact ne5 q lq e
  refine zl_first (A := A.in1) (u1 := u1) (u2 := u2) hc hh Sp i12 .none hxy hle hne I4 (fun q hq => ?_) (k4 _ _ hz) (k4 _ _ hTI) (k4 _ _ hTO) (ap5 TI lTI tip) (iter_at it1 fun o e => k4 _ _ e) (iter_at it2 fun o e => k4 _ _ e)
    (seq_at sq1 fun o e => k4 _ _ e) (seq_at sq2 fun o e => k4 _ _ e) ⟨ap5 a la ap.1, ap5 b lb ap.2⟩ hS4 ⟨(ne5 z lz).symm, (ne5 TO lTO).symm, (ne5 i1 l1).symm, (ne5 i2 l2).symm⟩ vx vy fun s' acc c' H2 Ts I' mk hn e hv hl => ⟨rfl, ?_⟩
  · simp only [List.mem_cons, List.not_mem_nil, or_false] at hq
    rcases hq with e | e | e | e | e
    · exact fp q (by simp [e])
    · exact fp q (by simp [e])
    · exact fp q (by simp [e])
    · exact fp q (by simp [e])
    · rw [e]; exact fS
  · have big : (1000 : Nat) < sizeLine := by decide
    refine hQ s.heap.objs.size s' H2 Ts ?_ mk hn
    have new : ObjOk X.prog X.w (upd H2 s.heap.objs.size (.lst (Ts.map V.ref))) s'.heap s.heap.objs.size (.lst (Ts.map V.ref)) :=
      ⟨by rw [List.length_map, hl]; omega, acc.toList, c', hv, by rw [Array.toArray_toList]; exact e⟩
    have q := I'.take (t' := s'.toks) (it := s.heap.objs.size) (fun b ob _ e => e) ⟨hn, fS.2⟩ new
    exact q
end

section
variable {X : Cx} {F : Fm} {e e2 : Expr} {ta tb : RE} {p p2 pos pos2 : Pos}
def tLZ (ta : TA) : TE := fun σ H Q => ta σ H fun vs H1 => ∃ a b xs ys, vs = [.ref a, .ref b] ∧ H1 a = some (.tup xs) ∧ H1 b = some (.tup ys) ∧ xs.length = ys.length ∧ 1 ≤ xs.length ∧ xs.length ≤ 1000 ∧
  ∀ Ts H2 S, Mk H1 Ts xs ys H2 → H2 S = none → Q (.ref S) (upd H2 S (.lst (Ts.map V.ref)))
theorem pe_listZip {ta : TA} (hc : X.calm = true) (hg : Gl X "list") (hm : X.mg "list" = none) (hg2 : Gl X "zip") (hm2 : X.mg "zip" = none) (ha : PA X [e, e2] ta)
    (hs : starEach [e, e2] X.env = (false, eval e X.env) :: starEach [e2] X.env := by rfl) (hpl : (backTo pos2 (starEach [e2] X.env)).any (·.1) = false := by rfl)
    (he : starEach [.Call (.Name "zip" p2) [e, e2] [] pos2] X.env = (false, eval (.Call (.Name "zip" p2) [e, e2] [] pos2) X.env) :: starEach [] X.env := by rfl) :
    PE X (.Call (.Name "list" p) [.Call (.Name "zip" p2) [e, e2] [] pos2] [] pos) (tLZ ta) := by
  refine ⟨fun pins s σ H Q I h => ?_⟩
  refine wpAny_Call_Name_kw (ld_blt I hg hm PyProof.Rows.boot_list ?_ (by decide) (by decide))
  refine PyProof.Rows.callWith_type1 ?_ he rfl
  rw [he]
  show wpAny _ _ (spliced ((false, eval (.Call (.Name "zip" p2) [e, e2] [] pos2) X.env) :: backTo pos (starEach [] X.env))) _ _ s
  refine Calls.spliced_cons ?_
  refine wpAny_Call_Name_kw (ld_blt I hg2 hm2 PyProof.Rows.boot_zip (PyProof.Rows.callWith_type1 (thn (ha.run pos2 pins s σ H _ I h) fun us s1 ⟨vs, H1, I1, r1, q1⟩ => ?_) hs hpl) (by decide) (by decide))
  obtain ⟨a, b, xs, ys, ex, hqx, hqy, hlen, hl1, hl2, q⟩ := q1
  subst ex
  obtain ⟨w1, w2, rfl, ru, rw'⟩ := vals2 r1
  cases ru
  cases rw'
  obtain ⟨its, rv, p1, hz⟩ := inv_sq (k := true) I1 hqx
  obtain ⟨its2, rv2, p2', hz2⟩ := inv_sq (k := true) I1 hqy
  refine zip_begins2 (begins_sq true a its.toArray) (begins_sq true b its2.toArray) p1 p2' fun h' hz hTI hTO h1 h2 hsz hk => ?_
  have I2 : Inv X pins σ H1 { s1 with heap := h' } := I1.kept (t' := s1.toks) hk
  refine Calls.spliced_nil ?_
  have la : a < s1.heap.objs.size := by
    have q : s1.heap.IsTuple a its.toArray := p1
    obtain ⟨o, e, _⟩ := q
    exact Heap.lt_size e
  have lb : b < s1.heap.objs.size := by
    have q : s1.heap.IsTuple b its2.toArray := p2'
    obtain ⟨o, e, _⟩ := q
    exact Heap.lt_size e
  have nea : ∀ c : Addr, c < s1.heap.objs.size → ∀ k : Nat, c ≠ s1.heap.objs.size + k := fun c hc k => Nat.ne_of_lt (Nat.lt_of_lt_of_le hc (Nat.le_add_right _ k))
  have ne4 : ∀ c : Addr, c < s1.heap.objs.size → c ∉ [s1.heap.objs.size + 4, s1.heap.objs.size + 3, s1.heap.objs.size, s1.heap.objs.size + 1] := fun c hc z => by
    simp only [List.mem_cons, List.not_mem_nil, or_false] at z
    rcases z with z | z | z | z
    · exact nea c hc 4 z
    · exact nea c hc 3 z
    · exact nea c hc 0 z
    · exact nea c hc 1 z
  refine call_list_zip (X := X) (a := a) (b := b) (z := s1.heap.objs.size + 4) (TI := s1.heap.objs.size + 2) (TO := s1.heap.objs.size + 3) (i1 := s1.heap.objs.size) (i2 := s1.heap.objs.size + 1) (its := its) (its2 := its2) (xs := xs) (ys := ys) hc (I.ok.hd hc)
    (zsep (nea a la 4) (nea a la 3) (nea a la 1) (nea b lb 4) (nea b lb 3) (nea b lb 0)) (nat_ne (by omega)) (by rw [← rv.length, ← rv2.length]; exact hlen) (by rw [← rv.length]; exact hl2) (by rw [← rv.length]; omega) I2 (fun q hq => ?_) hz hTI hTO ?_
    (iter_new h1) (iter_new h2) (seq_at p1 fun o e => hk _ _ e) (seq_at p2' fun o e => hk _ _ e) ⟨ne4 a la, ne4 b lb⟩ rv rv2 fun S s' H2 Ts I' mk hn => ?_
  · have hle : s1.heap.objs.size ≤ q := by
      simp only [List.mem_cons, List.not_mem_nil, or_false] at hq
      rcases hq with z | z | z | z <;> (rw [z]; first | exact Nat.le_refl _ | exact Nat.le_add_right _ _)
    exact I1.fpOk hle (I1.hok.fresh hle)
  · simp only [List.mem_cons, List.not_mem_nil, or_false, not_or]
    exact ⟨nat_ne (by omega), nat_ne (by omega), nat_ne (by omega), nat_ne (by omega)⟩
  · exact ⟨.ref S, _, I', rfl, q Ts H2 S mk hn⟩
theorem mk_rep {K : PySem.W.Frag} {σ : L2.St} {ρ : En} {H H2 : Hp} {Ts : List Addr} {xs ys : List V} (m : Mk H Ts xs ys H2) : ∀ {Hs : Hp} {ds es : List PyData}, Rep K F Hs σ H ρ → IsL K Hs xs ds → IsL K Hs ys es →
    ∃ Hs2, Rep K F Hs2 σ H2 ρ ∧ Same Hs Hs2 ∧ IsL K Hs2 (Ts.map V.ref) (zipD ds es) := by
  induction m with
  | nil =>
    intro Hs ds es R ix iy
    cases ix
    exact ⟨Hs, R, Same.refl _, .nil⟩
  | @cons H H2 T Ts x y xs ys h r ih =>
    intro Hs ds es R ix iy
    cases ix with
    | @cons _ _ d ds i1 ix =>
      cases iy with
      | @cons _ _ e es i2 iy =>
        have g := Grow.laid (o := .tup [x, y]) R.sub R.ntb R.tab h (fun _ z => nomatch z)
        obtain ⟨Hs2, R2, S2, il⟩ := ih (R.grow g) (ix.mono g.shr) (iy.mono g.shr)
        refine ⟨Hs2, R2, g.shr.trans S2, ?_⟩
        exact .cons (Is.mono S2 (.tup upd_same (.cons (i1.mono g.shr) (.cons (i2.mono g.shr) .nil)))) il
theorem df_listZip (hc : X.calm = true) (hg : Gl X "list") (hm : X.mg "list" = none) (hg2 : Gl X "zip") (hm2 : X.mg "zip" = none) (ha : DE X F e ta) (hb : DE X F e2 tb)
    (hs : starEach [e, e2] X.env = (false, eval e X.env) :: starEach [e2] X.env := by rfl) (hs2 : starEach [e2] X.env = (false, eval e2 X.env) :: starEach [] X.env := by rfl) (hpl : (backTo pos2 (starEach [e2] X.env)).any (·.1) = false := by rfl)
    (he : starEach [.Call (.Name "zip" p2) [e, e2] [] pos2] X.env = (false, eval (.Call (.Name "zip" p2) [e, e2] [] pos2) X.env) :: starEach [] X.env := by rfl) :
    DF X F (.Call (.Name "list" p) [.Call (.Name "zip" p2) [e, e2] [] pos2] [] pos) (dOp kListZip ta tb) :=
  pe_imp (pe_listZip hc hg hm hg2 hm2 (pa_cons ha (pa_cons hb pa_nil hs2) hs) hs hpl he) fun σ H Q ⟨Hs, ρ, Q2, R, q, z⟩ => by
    refine ⟨Hs, ρ, _, R, q, fun d1 ρ1 q1 v1 H1 Hs1 R1 S1 i1 => ⟨Hs1, ρ1, _, R1, q1, fun d2 ρ2 q2 v2 H2 Hs2 R2 S2 i2 => ?_⟩⟩
    have q2 : kListZip d1 d2 fun d => Q2 d ρ2 := q2
    unfold kListZip at q2
    split at q2
    · obtain ⟨h1, h2, h3, q2⟩ := q2
      cases i1 with
      | @tup a xs ds ha hla =>
      cases i2 with
      | @tup b ys es hb hlb =>
      have hla2 := hla.mono S2
      refine ⟨a, b, xs, ys, rfl, R2.sub _ _ (S2 _ _ ha), R2.sub _ _ hb, by rw [hla.length, hlb.length]; exact h1, by rw [hla.length]; exact h2, by rw [hla.length]; exact h3, fun Ts H3 S mk hn => ?_⟩
      obtain ⟨Hs3, R3, S3, il⟩ := mk_rep mk R2 hla2 hlb
      exact z _ ρ2 q2 S _ Hs3 (R3.own hn) (S1.trans (S2.trans S3)) (R3.priv hn il)
    · exact q2.elim
end
end Yd
set_option Elab.async false
set_option linter.all false
set_option maxRecDepth 100000
set_option maxHeartbeats 2000000
/-! # name = [f(..) for x in ..] where f may raise -/
namespace Yd
open PySem PySem.Spec PyProof.Rows L2 LamX
section
variable {M : Model} {A : Around} {E : Value → Shared → Prop} {s : Shared} {env : Env}
/-- what is left to be shown behind the block; of what is raised the frame is known -/
def cpF (M : Model) (A : Around) (E : Value → Shared → Prop) (u : Value → Sem Unit) (fr : Option Addr) (Q : Value → Shared → Prop) (acc : Value) (C : Addr) (r : Result) (s' : Shared) : Prop := match r with
  | .ok f => compPost M A E (some u) Q acc C (.ok f) s'
  | .error x => ∃ m, s'.heap.Ns C m ∧ ∀ h', Heap.SameBut C s'.heap h' → ∀ ce : Env, ce.locals = C → ce.frame = fr →
      wpAny M A (passOn "comprehension.variables-let-go" x ce : Sem Value) (fun _ _ => False) E { s' with heap := h' }
theorem comp_freeF {e : Expr} {scope : Scope} {pos : Pos} {newAcc first : Sem Value} {g : Comprehension} {gs : List Comprehension} {cl : List (Str × Addr)} {u : Value → Sem Unit} {fr : Option Addr} {Q : Value → Shared → Prop}
    (hcl : clausesOf e = g :: gs) (hs : ∀ x, foldedSetIterable g.iter env x = pure x) (hclos : closureFor scope env = pure cl) (hkind : scope.kind = .function) (hnames : ∀ x ∈ scope.names, x.2 = .local → scope.names.lookup x.1 = some .local)
    (h : wpAny M A first (fun x s1 => wpAny M A (pyIter x) (fun it s2 => wpAny M A newAcc (fun acc s3 => wpAny M A (newFunctionEnv scope env.globals cl [] env.qual none .none (some env)) (fun cenv s4 => cenv.frame = fr ∧
      codeAny M A (.compStart e 0 it acc { cenv with scope := relabel scope env }) (cpF M A E u fr Q acc cenv.locals) s4) E s3) E s2) E s1) E s) :
    wpAny M A (comprehension e scope env pos newAcc false first (some u)) Q E s := by
  unfold comprehension
  rw [hclos, hcl]
  refine wpAny_bind (wpAny_mono h (fun x s1 h1 => ?_) fun _ _ z => z)
  refine wpAny_bind (wpAny_standAt (wpAny_bind (wpAny_of_eq (hs x) ?_)))
  refine wpAny_bind (wpAny_holding (wpAny_mono h1 (fun it s2 h2 => ?_) fun _ _ z => z))
  refine wpAny_standIf (wpAny_bind (wpAny_mono h2 (fun acc s3 h3 => ?_) fun _ _ z => z))
  refine wpAny_bind (wpAny_pure (wpAny_bind (wpAny_mono h3 (fun cenv s4 h4 => ?_) fun _ _ z => z)))
  obtain ⟨hfr, h4⟩ := h4
  dsimp only
  generalize hvs : (scope.names.filter fun x => (x.2 == .local || x.2 == .cell) && x.1 != (".0" : Str)) = vs0
  have hv0 : ∀ x ∈ vs0, x.2 = .local → Env.kindOf { cenv with scope := relabel scope env } x.1 = some .local := fun x hx hl => by
    rw [← hvs] at hx
    exact lookup_relabel_local (hnames x (List.mem_filter.mp hx).1 hl)
  have hv : ∀ x ∈ vs0.reverse, x.2 = .local → Env.kindOf { cenv with scope := relabel scope env } x.1 = some .local := fun x hx => hv0 x (List.mem_reverse.mp hx)
  have hv' : ∀ x ∈ vs0.reverse.drop 1 ++ vs0.reverse.take 1, x.2 = .local → Env.kindOf { cenv with scope := relabel scope env } x.1 = some .local := fun x hx => by
    rcases List.mem_append.mp hx with z | z
    · exact hv x (List.mem_of_mem_drop z)
    · exact hv x (List.mem_of_mem_take z)
  refine wpAny_holding (wpAny_bind (wpAny_attempt (wpAny_holding (wpAny_run (codeAny_mono h4 fun r s' hr => ?_)))))
  cases r with
  | ok f =>
    refine wpAny_bind (wpAny_rule (wpAny_bind (wpAny_holding (wpAny_mono hr (fun _ s5 hr' => ?_) fun _ _ z => z))))
    obtain ⟨m, hn, hr'⟩ := hr'
    exact wpAny_bind (wpAny_comp_letGo (cenv := { cenv with scope := relabel scope env }) hkind _ s5 m hv' hn fun h' _ _ hs' => wpAny_pure (hr' h' hs'))
  | error x =>
    obtain ⟨m, hn, hr⟩ := hr
    exact wpAny_bind (wpAny_holding (wpAny_comp_letGo (cenv := { cenv with scope := relabel scope env }) hkind _ s' m hv hn fun h' _ _ hs' => wpAny_mono (hr h' hs' { cenv with scope := relabel scope env } rfl hfr) (fun _ _ z => z.elim) fun _ _ z => z))
end
theorem note_frame {e : Value} {c d : Env} (h : c.frame = d.frame) : noteFrame e c = noteFrame e d := by
  unfold noteFrame PySem.frameOf
  rw [h]
theorem funs_at {base base' h h' : Heap} : ∀ {l : List Env}, h.FunFrames base l → (∀ L ∈ frs l, h'.get? L = h.get? L ∧ base'.get? L = none) → h'.FunFrames base' l
  | [], _, _ => trivial
  | env :: l, ⟨hk, ⟨L, o, hf, _, ho, hd⟩, hr⟩, hn => by
    obtain ⟨n1, n2⟩ := hn L (List.mem_filterMap.mpr ⟨env, List.mem_cons_self, hf⟩)
    refine ⟨hk, ⟨L, o, hf, n2, n1.trans ho, hd⟩, funs_at hr fun b hb => ?_⟩
    obtain ⟨e, he, q⟩ := List.mem_filterMap.mp hb
    exact hn b (List.mem_filterMap.mpr ⟨e, List.mem_cons_of_mem _ he, q⟩)
section
variable {X : Cx} {pins : List (Addr × Obj)} {σ : L2.St} {H : Hp} {s : Shared}
/-- what a call within the block lets out: noted, the block's names let go, on it goes -/
theorem comp_raised {W : WX} {pinsb : List (Addr × Obj)} {σ0 : L2.St} {H3 H9 : Hp} {s3 s9 s' : Shared} {e : Value} {ce : Env} {fp : List Addr} {scope : Scope} {u : Value → Sem Unit} {Qf : Value → Shared → Prop} {acc : Value}
    (hst : X.stack = X.env :: X.outer) (hfr : X.env.frame = some X.env.locals) (tk : Takes X W) (hW : ∀ cls d σ σ' H, W cls d σ H → W cls d σ' H)
    (I3 : Inv X pins σ H3 s3) (f3 : ∀ b ∈ fp, FpOk X pins H3 b) (cL : ce.locals = s3.heap.objs.size) (cF : ce.frame = X.env.frame) (I9 : Inv (X.blk s3 H3 scope ce fp) pinsb σ0 H9 s9)
    (c : L2.CX X.prog X.w X.stack H9 s9 (WE W σ0) e s') :
    notedBy (model X.prog X.w) X.A ce (fun e s' => cpF (model X.prog X.w) X.A X.xe u X.env.frame Qf acc s3.heap.objs.size (.error e) s') e s' := by
  obtain ⟨a, B, H', cls, d, rfl, fl, hok, ub, na, os, ag, w⟩ := c
  have hA : X.A.frames = some (X.env :: X.outer) := by rw [I3.ok.frames, hst]
  rw [hst] at fl
  show wpAny (model X.prog X.w) X.A (noteFrame (.ref a) ce) _ _ s'
  rw [note_frame cF]
  refine HandSPX.looks_onZ Zc.steady hA hfr fl fun h1 hh1 up1 => ?_
  obtain ⟨m, ⟨oC, es, ep, eC, hd, hr⟩, _⟩ := I9.loc
  have eC : s9.heap.get? ce.locals = some oC := eC
  have nC : H9 ce.locals = none := I9.free
  rw [cL] at eC nC
  have fC : FpOk X pins H9 s3.heap.objs.size := I3.fpOk (Nat.le_refl _) nC
  have nCf : s3.heap.objs.size ∉ frs X.stack := fun z => (List.mem_cons.mp (I3.stkSub _ z)).elim fC.2.1 fC.2.2.1
  have bC : B.get? s3.heap.objs.size = some oC := ub.keep _ _ eC nC nCf
  have nC' : H' s3.heap.objs.size = none := ub.free _ _ eC nC
  obtain ⟨st1, bn1, ff1, oe, vs, T, oT, ts, he, hz, hdd, hv1, hnT, hTe, hT, hdT, h3⟩ := hh1
  refine ⟨m, ⟨oC, es, ep, st1 _ _ bC, hd, hr⟩, fun h' sb ce' e1 e2 => ?_⟩
  have aC : a ≠ s3.heap.objs.size := fun z => by rw [z, bC] at bn1; cases bn1
  have TC : T ≠ s3.heap.objs.size := fun z => by rw [z, bC] at hnT; cases hnT
  have sb2 : ∀ b, b ≠ s3.heap.objs.size → h'.get? b = h1.get? b := fun b hb => sb.2 b hb
  obtain ⟨B', b1, b2⟩ := restrict B fun b => decide (b ≠ s3.heap.objs.size)
  have b1 : ∀ b, b ≠ s3.heap.objs.size → B'.get? b = B.get? b := fun b hb => b1 b (decide_eq_true hb)
  have b2 : B'.get? s3.heap.objs.size = none := b2 _ (decide_eq_false (fun z => z rfl))
  have bne : ∀ b o, B'.get? b = some o → b ≠ s3.heap.objs.size := fun b o e z => by rw [z, b2] at e; cases e
  have hh2 : HandSPX.HeldZ B' (X.env :: X.outer) a (Zc cls d) X.env.locals h' := by
    refine ⟨fun b o e => ?_, by rw [b1 a aC]; exact bn1, funs_at ff1 fun L hL => ?_, oe, vs, T, oT, ts, (sb2 a aC).trans he, hz, hdd, hv1, by rw [b1 T TC]; exact hnT, hTe, (sb2 T TC).trans hT, hdT, h3⟩
    · have hb := bne b o e
      rw [b1 b hb] at e
      exact (sb2 b hb).trans (st1 b o e)
    · have hL' : L ≠ s3.heap.objs.size := fun z => nCf (by rw [hst, ← z]; exact hL)
      exact ⟨sb2 L hL', by rw [b1 L hL']; exact (ff1.mem hL).1⟩
  unfold PySem.passOn
  refine wpAny_bind (wpAny_field ((sb2 a aC).trans he) hdd hv1 ?_)
  rw [if_neg (show ¬ ((Value.ref T == Value.none) = true) from by simp)]
  have fin : wpAny (model X.prog X.w) X.A (setFlight (.ref a) ce'.frame) (fun _ s4 => wpAny (model X.prog X.w) X.A (throw (.ref a) : Sem Value) (fun _ _ => False) X.xe s4) X.xe { s' with heap := h' } := by
    rw [e2, hfr]
    refine HandSPX.setFlight_onZ hh2 fun h2 hh3 up3 => wpAny_throw (tk _ _ ?_)
    obtain ⟨G, g1, g2⟩ := restrict h2 fun b => (B'.get? b).isSome || decide (b ∈ frs X.stack)
    have st : B'.StaysIn h2 := hh3.1
    have gB : ∀ b o, B'.get? b = some o → G.get? b = some o := fun b o e => by
      rw [g1 b (by simp [e])]
      exact st b o e
    have gF : ∀ b, b ∈ frs X.stack → G.get? b = h2.get? b := fun b hb => g1 b (by simp [hb])
    have og : ∀ b o, G.get? b = some o → h2.get? b = some o ∧ ((B'.get? b).isSome = true ∨ b ∈ frs X.stack) := fun b o e => by
      cases q : ((B'.get? b).isSome || decide (b ∈ frs X.stack)) with
      | false => rw [g2 b q] at e; cases e
      | true =>
        rw [g1 b q] at e
        exact ⟨e, by simpa [Bool.or_eq_true] using q⟩
    have I7 : Inv X pins σ H9 s9 := I3.call' (ch := fp) I9.os I9.base I9.hok I9.bare fun b hb => ⟨(f3 b hb).2.2.2.1, (f3 b hb).2.1, (f3 b hb).2.2.2.2.1, (f3 b hb).2.2.2.2.2⟩
    have slotF : ∀ b o, s9.heap.get? b = some o → b ∈ frs X.stack → ∃ sl, G.get? b = some { o with slots := sl } := fun b o e hb => by
      obtain ⟨sl1, e1⟩ := ub.slot b o e hb
      have nb : b ≠ s3.heap.objs.size := fun z => nCf (by rw [← z]; exact hb)
      have nf : ∀ us, o.data ≠ .fields us := by
        obtain ⟨_, o', e', hnf⟩ := I7.stack.mem hb
        rw [e] at e'; cases e'
        exact hnf
      obtain ⟨sl2, e2⟩ := up1 b _ e1 nf
      obtain ⟨sl3, e3⟩ := up3 b _ ((sb2 b nb).trans e2) nf
      exact ⟨sl3, by rw [gF b hb]; exact e3⟩
    have J : Inv X pins σ H' { s9 with heap := G, gens := s'.gens, drawn := s'.drawn, toks := s'.toks } := by
      refine I7.call (ch := [s3.heap.objs.size]) ⟨fun b o e n hb hx => ?_, fun b o e n hb hx => slotF b o e hb, fun b o e n hx => ub.free b o e n, fun b o e hx => ?_, ub.tups, ub.frzs, ub.tbls⟩ (fun b o q => ?_) ag fun b hb => ?_
      · have hx : b ≠ s3.heap.objs.size := fun z => hx (by simp [z])
        exact gB b o (by rw [b1 b hx]; exact ub.keep b o e n hb)
      · have hx : b ≠ s3.heap.objs.size := fun z => hx (by simp [z])
        by_cases hb : b ∈ frs X.stack
        · obtain ⟨sl, q⟩ := slotF b o e hb
          exact ⟨_, q⟩
        · obtain ⟨o', q⟩ := ub.there b o e hb
          exact ⟨o', gB b o' (by rw [b1 b hx]; exact q)⟩
      · refine (hok b o q).stay (fun c v hc r => gB c v ?_) (fun _ r => r) fun _ _ r => r
        have hx : c ≠ s3.heap.objs.size := fun z => by
          have n := nC'
          rcases hc with hc | hc
          · rw [← z, hc, q] at n; cases n
          · rw [← z, hc] at n; cases n
        rw [b1 c hx]; exact r
      · have z : b = s3.heap.objs.size := by simpa using hb
        rw [z]
        exact ⟨fC.2.2.2.1, fC.2.1, fC.2.2.2.2.1, fC.2.2.2.2.2⟩
    refine ⟨a, B', { s9 with heap := G, gens := s'.gens, drawn := s'.drawn, toks := s'.toks }, pins, σ, H', cls, d, rfl, J, fun b o e hb => ?_, Heap.UpToSlots.of_keeps fun b o e => (og b o e).1, .inr (.inr (by rw [hst]; exact hh3)), na, os, ag, hW _ _ _ _ _ w⟩
    obtain ⟨e', h⟩ := og b o e
    rcases h with h | h
    · obtain ⟨o', q⟩ := Option.isSome_iff_exists.mp h
      have z := st b o' q
      rw [e'] at z; cases z
      exact q
    · exact absurd h hb
  first
    | exact wpAny_bind (wpAny_pure (wpAny_bind fin))
    | exact wpAny_bind fin
end

section
variable {X : Cx}
theorem lc_coreX {pins : List (Addr × Obj)} {s : Shared} {σ : L2.St} {H : Hp} {Q : VK} {W : WX} {elt tg iter : Expr} {scope : Scope} {own : List (Str × Nat)} {pos pos' : Pos} {wi : TI} {g : TG} {te : TE} {u : Value → Sem Unit} {Qf : Value → Shared → Prop}
    (hc : X.calm = true) (hN : X.N.Nodup) (hst : X.stack = X.env :: X.outer) (hfr : X.env.frame = some X.env.locals) (tk : Takes X W) (hW : ∀ cls d σ σ' H, W cls d σ H → W cls d σ' H) (I : Inv X pins σ H s) (hi : PI X tg iter wi) (ok : BlkOk X.N X.env.scope scope own)
    (hg : ∀ (s : Shared) (H : Hp) (C : Addr) (cl : List (Str × Addr)) (fp : List Addr), PG (X.blk s H scope (compEnvC scope cl C X.env) fp) tg g)
    (he : ∀ (s : Shared) (H : Hp) (C : Addr) (cl : List (Str × Addr)) (fp : List Addr) (xe : Value → Shared → Prop), (∀ σ, PassesAt (L2.CX X.prog X.w) ((X.blk s H scope (compEnvC scope cl C X.env) fp).wish xe) σ (WE W σ)) →
      PE ((X.blk s H scope (compEnvC scope cl C X.env) fp).wish xe) elt te) (hs : ∀ x, foldedSetIterable iter X.env x = pure x)
    (h : tLc wi g tYes te (own.map (·.2)) σ H Q)
    (hRR : ∀ D C s' m H', Inv X pins σ H' s' → Q (.ref D) H' → s'.heap.Ns C m → FpOk X pins H' C → compPost (model X.prog X.w) X.A X.xe (some u) Qf (.ref D) C (.ok .next) s') :
    wpAny (model X.prog X.w) X.A (comprehension (.ListComp elt [⟨tg, iter, [], 0⟩] scope pos) scope X.env pos' (newList []) false (eval iter X.env) (some u)) Qf X.xe s := by
  have hfree : ∀ y ∈ scope.names, y.2 = .free → ∃ c, X.env.cells.lookup y.1 = some c := fun y hy e => (ok.free y hy e).elim (fun k => I.ok.has _ (.inl k)) fun k => I.ok.has _ (.inr k)
  refine comp_freeF (fr := X.env.frame) rfl hs (closure_ok hfree) ok.kind (fun y hy e => by rw [ok.uniq y hy, e]) (thn (hi.run pins s σ H _ I h) fun xv s1 hx => thn hx fun itv s2 h2 => ?_)
  obtain ⟨it, fp, tn, J, H2, e, I2, T, st2, f2, q⟩ := h2
  subst e
  refine wpAny_newObj_type (newEnv_comp ?_) (by show 0 ≤ sizeLine; decide)
  generalize hD : s2.heap.objs.size = D
  have hDn : H2 D = none := I2.hok.fresh (Nat.le_of_eq hD)
  obtain ⟨Wt, ⟨m0, w0⟩, turn⟩ := q D hDn
  generalize hs3 : ({ s2 with heap := s2.heap.push { cls := .type "list", data := .seq ([] : List Value).toArray } } : Shared) = s3
  have h3 : s3.heap = s2.heap.push { cls := .type "list", data := .seq ([] : List Value).toArray } := by rw [← hs3]
  have I3 : Inv X pins σ (upd H2 D (.lst [])) s3 := by
    rw [← hs3]
    refine I2.laid (t' := s2.toks) (fun b o e => Heap.get?_push_of_some _ e) (Nat.le_of_eq hD) ⟨Nat.zero_le _, [], 0, .nil, ?_⟩
    rw [← hD]
    exact Heap.get?_push_size _ rfl
  have f3 : ∀ b ∈ fp, FpOk X pins (upd H2 D (.lst [])) b ∧ b < s3.heap.objs.size := fun b hb => by
    have hlt : b < s2.heap.objs.size := by
      obtain ⟨o, e, _⟩ := T.obj _ _ st2 b hb
      exact Heap.lt_size e
    refine ⟨⟨?_, (f2 b hb).2⟩, by rw [h3, Heap.size_push]; exact Nat.lt_succ_of_lt hlt⟩
    rw [upd_ne (by rw [← hD]; exact Nat.ne_of_lt hlt)]
    exact (f2 b hb).1
  have st3 : tn 0 s3.heap := T.keep _ _ _ st2 fun b _ o e => by rw [h3]; exact Heap.get?_push_of_some _ e
  have I4 := block_start I3 ok hN f3
  have pg := hg s3 (upd H2 D (.lst [])) s3.heap.objs.size (cellsFrom (s3.heap.objs.size + 1) scope.names (cloFrom X.env.cells scope.names [])) fp
  have pe := he s3 (upd H2 D (.lst [])) s3.heap.objs.size (cellsFrom (s3.heap.objs.size + 1) scope.names (cloFrom X.env.cells scope.names [])) fp
  refine ⟨rfl, ?_⟩
  show codeAny _ _ (.compStart (.ListComp elt [⟨tg, iter, [], 0⟩] scope pos) 0 (.ref it) (.ref D) (compEnvC scope (cellsFrom (s3.heap.objs.size + 1) scope.names (cloFrom X.env.cells scope.names [])) s3.heap.objs.size X.env))
    (cpF (model X.prog X.w) X.A X.xe u X.env.frame Qf (.ref D) s3.heap.objs.size) { s3 with heap := pushCells (s3.heap.push { cls := .type "dict", data := .dict #[] }) scope.names }
  have nfp : ∀ b ∈ fp, (upd H2 D (.lst [])) b = none := fun b hb => (f3 b hb).1.1
  generalize hce : compEnvC scope (cellsFrom (s3.heap.objs.size + 1) scope.names (cloFrom X.env.cells scope.names [])) s3.heap.objs.size X.env = ce at I4 pg pe ⊢
  have cL : ce.locals = s3.heap.objs.size := by subst hce; rfl
  have cF : ce.frame = X.env.frame := by subst hce; rfl
  generalize hH3 : upd H2 D (.lst []) = H3 at I3 I4 pg pe w0 nfp f3
  generalize hs4 : ({ s3 with heap := pushCells (s3.heap.push { cls := .type "dict", data := .dict #[] }) scope.names } : Shared) = s4 at I4 ⊢
  have st4 : tn 0 s4.heap := T.keep _ _ _ st3 fun b _ o e => by rw [← hs4]; exact pushCells_keeps _ _ _ _ (Heap.get?_push_of_some _ e)
  have stat : ∀ {σ' : L2.St} {H' : Hp} {s' : Shared}, Inv (X.blk s3 H3 scope ce fp) [] σ' H' s' → (∀ b ∈ fp, H' b = none) → ∀ b ∈ fp, FpOk (X.blk s3 H3 scope ce fp) [] H' b := fun {σ' H' s'} I' hn b hb =>
    ⟨hn b hb, (I'.ok.exf b hb).1, I'.ok.exfs b hb, .inl hb, fun x c e => (I'.ok.exf b hb).2 x c e, fun p hp => absurd (show p ∈ ([] : List (Addr × Obj)) ++ [] from hp) (by simp)⟩
  have pe' := pe (notedBy (model X.prog X.w) X.A ce fun e s' => cpF (model X.prog X.w) X.A X.xe u X.env.frame Qf (.ref D) s3.heap.objs.size (.error e) s') fun σ0 pinsb H9 s9 e s' I9 c =>
    comp_raised hst hfr tk hW I3 (fun b hb => (f3 b hb).1) cL cF I9.unwish c
  have loop : codeAny (model X.prog X.w) X.A (.compLoop (.ListComp elt [⟨tg, iter, [], 0⟩] scope pos) 0 (.ref it) (.ref D) ce) (cpF (model X.prog X.w) X.A X.xe u X.env.frame Qf (.ref D) s3.heap.objs.size) s4 := by
    refine compLoop_any (fun n s' => ∃ i H', Inv (X.blk s3 H3 scope ce fp) [] (wipe σ (own.map (·.2))) H' s' ∧ tn i s'.heap ∧ (∀ b ∈ fp, H' b = none) ∧ Wt i n H') ?_ m0 ⟨0, H3, I4, st4, nfp, w0⟩
    rintro n s5 ⟨i, H5, I5, st5, n5, w5⟩
    rcases turn i n H5 w5 with ⟨stop, qq⟩ | ⟨go, Nx, hNx, step⟩
    · have td := T.done (X.blk s3 H3 scope ce fp) rfl rfl rfl hc i [] s5 _ H5 (fun _ _ => False) I5 (stat I5 n5) st5 stop
      refine thnF td fun r s6 ⟨hr, I6⟩ => ?_
      subst hr
      have I7 : Inv X pins σ H5 s6 := I3.call' (ch := fp) I6.os I6.base I6.hok I6.bare fun b hb => ⟨(f3 b hb).1.2.2.2.1, (f3 b hb).1.2.1, (f3 b hb).1.2.2.2.2.1, (f3 b hb).1.2.2.2.2.2⟩
      have nC : H5 s3.heap.objs.size = none := by rw [← cL]; exact I6.free
      obtain ⟨m, hn, _⟩ := I6.loc
      have hn : s6.heap.Ns ce.locals m := hn
      rw [cL] at hn
      exact hRR D s3.heap.objs.size s6 m H5 I7 qq hn (I3.fpOk (Nat.le_refl _) nC)
    · have tj := T.item (X.blk s3 H3 scope ce fp) rfl rfl rfl hc i [] s5 _ H5 (fun _ _ => False) I5 (stat I5 n5) st5 go
      refine thnF tj fun r s6 ⟨uu, hr, h6⟩ => ?_
      subst hr
      refine thnF h6 fun _ s7 ⟨x, H7, I7, r7, y7, st7, n7⟩ => ?_
      have I7' := I7.pinned (stat I7 n7) (T.obj _ _ st7)
      refine thnF (pg.run _ s7 _ H7 x uu _ I7' r7 (step x H7 y7)) fun _ s8 ⟨σ8, H8, I8, hw8, q8⟩ => ?_
      refine wpAny_tests_nil ?_
      rw [if_pos rfl]
      have fin : ∀ {s' : Shared} {H' : Hp}, Inv (X.blk s3 H3 scope ce fp) ([] ++ pinsAt fp s7.heap) σ8 H' s' → Nx H' → ∃ m, m < n ∧ ∃ i H', Inv (X.blk s3 H3 scope ce fp) [] (wipe σ (own.map (·.2))) H' s' ∧ tn i s'.heap ∧ (∀ b ∈ fp, H' b = none) ∧ Wt i m H' := fun {s' H'} I' nx => by
        obtain ⟨m', hm, w'⟩ := hNx H' nx
        have pin' : ∀ b ∈ fp, ∀ o, s7.heap.get? b = some o → s'.heap.get? b = some o ∧ H' b = none := fun b hb o e =>
          let z := I'.pin (b, o) (List.mem_append_right _ (List.mem_append_right _ (mem_pinsAt hb e)))
          ⟨z.1, z.2.1⟩
        have hl : (wipe σ (own.map (·.2))).length = σ8.length := by rw [← hw8, wipe_length]
        refine ⟨m', hm, i + 1, H', (I'.unpinned (pins := [])).weak hl (fun j v e => ?_), T.keep _ _ _ st7 fun b hb o e => (pin' b hb o e).1, fun b hb => ?_, w'⟩
        · rw [← hw8] at e
          exact (wipe_some e).1
        · obtain ⟨o, e, _⟩ := T.obj _ _ st7 b hb
          exact (pin' b hb o e).2
      have q8' : te σ8 H8 fun y H4 => ∃ acc, H4 D = some (.lst acc) ∧ acc.length < sizeLine ∧ Nx (upd H4 D (.lst (acc ++ [y]))) := by
        have z : (if true = true then te σ8 H8 (fun y H4 => ∃ acc, H4 D = some (.lst acc) ∧ acc.length < sizeLine ∧ Nx (upd H4 D (.lst (acc ++ [y])))) else Nx H8) := q8
        rw [if_pos rfl] at z
        exact z
      refine wpAny_mono (pe'.run _ s8 σ8 H8 _ (I8.wish _) q8') (fun z s10 ⟨yv, H10, I10, r10, acc, hD10, hz10, nx⟩ => ?_) fun _ _ z => z
      exact app_ok (X := X.blk s3 H3 scope ce fp) I10.unwish hD10 hz10 r10 fun s11 I11 => fin I11 nx
  exact codeAny_compStart_list loop (T.self X.A 0 _ _ _ st4 loop)
theorem ps_setLcX {i : Nat} {y : Str} {py : Pos} {W : WX} {elt tg iter : Expr} {scope : Scope} {own : List (Str × Nat)} {pos spos : Pos} {wi : TI} {g : TG} {te : TE} (hc : X.calm = true) (hN : X.N.Nodup) (hst : X.stack = X.env :: X.outer) (hfr : X.env.frame = some X.env.locals) (tk : Takes X W)
    (hW : ∀ cls d σ σ' H, W cls d σ H → W cls d σ' H) (hy : X.N[i]? = some y) (hyl : X.env.scope.names.lookup y = some .local) (hsw : swapsWith (.ListComp elt [⟨tg, iter, [], 0⟩] scope pos) (some (.Name y py)) spos.line X.env = pure true) (hi : PI X tg iter wi) (ok : BlkOk X.N X.env.scope scope own)
    (hg : ∀ (s : Shared) (H : Hp) (C : Addr) (cl : List (Str × Addr)) (fp : List Addr), PG (X.blk s H scope (compEnvC scope cl C X.env) fp) tg g)
    (he : ∀ (s : Shared) (H : Hp) (C : Addr) (cl : List (Str × Addr)) (fp : List Addr) (xe : Value → Shared → Prop), (∀ σ, PassesAt (L2.CX X.prog X.w) ((X.blk s H scope (compEnvC scope cl C X.env) fp).wish xe) σ (WE W σ)) →
      PE ((X.blk s H scope (compEnvC scope cl C X.env) fp).wish xe) elt te) (hs : ∀ x, foldedSetIterable iter X.env x = pure x := by intro _; rfl) :
    PS X (.Assign [.Name y py] (.ListComp elt [⟨tg, iter, [], 0⟩] scope pos) spos) (tAsg (tLc wi g tYes te (own.map (·.2))) (gName i)) := by
  refine ⟨fun pins s σ H D I h => ?_⟩
  rw [exec_Assign_Name_used _ _ _ _ hsw]
  refine wpAny_bind (wpAny_standAt (wpAny_bind ?_))
  show wpAny _ X.A (do let _ ← comprehension (.ListComp elt [⟨tg, iter, [], 0⟩] scope pos) scope X.env (firstIterPos [⟨tg, iter, [], 0⟩] pos) (newList []) false (eval iter X.env) (some (assign (.Name y py) X.env))) _ _ s
  have h : tLc wi g tYes te (own.map (·.2)) σ H (fun x H1 => gName i x σ H1 D.nx) := h
  refine wpAny_bind (thn (lc_coreX (Qf := fun _ s' => SP X pins D .next s') hc hN hst hfr tk hW I hi ok hg he hs h fun L C s' m H' I' q hn f => ?_) fun _ s' hq => wpAny_pure (wpAny_pure hq))
  show wpAny _ _ (assign (.Name y py) X.env (.ref L)) _ _ _
  refine wpAny_assign_Name (store_ok2 (v := V.ref L) I' hN hy (.inl hyl) rfl (fun s2 I2 ⟨a, sb, ha⟩ => ?_) (.inr hyl))
  obtain ⟨f0, f1, f2, f3, f4, f5⟩ := f
  have haC : C ≠ a := by
    rcases ha with z | z
    · rw [z]; exact f1
    · exact fun e => f4 y a z e.symm
  exact ⟨m, hn.sameBut sb haC, fun h3 sb3 => ⟨_, H', I2.turned (t' := s2.toks) (fun b o hb e => (sb3.2 b hb).trans e) f0 f1 f3 f4 f5, q⟩⟩
end

/-! ## on plain data -/
def lcWX (gD : RG) (tx : RX) (vs : List Nat) (Q : PyData → En → Prop) (R : Ex → En → Prop) : List PyData → List PyData → En → Prop
  | [], acc, ρ => Q (.list acc) ρ
  | d :: ds, acc, ρ => gD d ρ fun ρ1 => tx ρ1 (fun y ρ3 => lcWX gD tx vs Q R ds (acc ++ [y]) (clr ρ3 vs)) R
def dSetLcX (i : Nat) (ti : RI) (gD : RG) (tx : RX) (vs : List Nat) : RS := fun K ρ => ti ρ fun items ρ1 => items.length ≤ 1000 ∧ lcWX gD tx vs (fun d ρ' => K.nx (ρ'.put i (.o d))) K.ex items [] (clr ρ1 vs)
section
variable {X : Cx} {F : Fm} {ck : EK → Addr} {W : WX} {elt tg iter : Expr} {scope : Scope} {own : List (Str × Nat)} {pos : Pos} {ti : RI} {g : TG} {gD : RG} {tx : RX}
def inX (X : Cx) (ck : EK → Addr) (F : Fm) (W : WX) (t : RX) : TE := fun σ H Q => ∃ F', Kin F F' ∧ liftX X ck F' W t σ H Q
theorem wipe_twice {σ σ3 : L2.St} {vs : List Nat} (ew : wipe σ3 vs = wipe (wipe σ vs) vs) : wipe σ3 vs = wipe σ vs := by
  rw [ew]
  have ha : ∀ (a : Nat) (us : List Nat), a ∈ us → (wipe σ us).set a none = wipe σ us := by
    intro a us
    induction us with
    | nil => intro h; cases h
    | cons b t iht =>
      intro hb
      show ((wipe σ t).set b none).set a none = (wipe σ t).set b none
      by_cases e : b = a
      · subst e; rw [List.set_set]
      · rw [List.set_comm _ _ e]
        rcases List.mem_cons.mp hb with z | z
        · exact absurd z.symm e
        · rw [iht z]
  have gen : ∀ ws : List Nat, (∀ v ∈ ws, v ∈ vs) → wipe (wipe σ vs) ws = wipe σ vs := by
    intro ws
    induction ws with
    | nil => intro _; rfl
    | cons a r ih =>
      intro h
      show (wipe (wipe σ vs) r).set a none = wipe σ vs
      rw [ih fun v hv => h v (List.mem_cons_of_mem _ hv)]
      exact ha a vs (h a List.mem_cons_self)
  exact gen vs fun _ h => h
theorem lc_mainX {σ : L2.St} {H Hs : Hp} {ρ : En} {Q : VK} {Q2 : PyData → En → Prop} {R2 : Ex → En → Prop} {vs : List Nat} (hg : TgOk X F g gD vs) (R : Rep X.K F Hs σ H ρ) (q : ti ρ fun items ρ1 => items.length ≤ 1000 ∧ lcWX gD tx vs Q2 R2 items [] (clr ρ1 vs))
    (z : ∀ d ρ', Q2 d ρ' → ∀ a H' Hs', Rep X.K F Hs' σ H' ρ' → Same Hs Hs' → Priv X.K F Hs' σ H' ρ' a d → Q (.ref a) H')
    (zx : ∀ x ρ', R2 x ρ' → ∀ cls d σ' H' Hs', Rep X.K F Hs' σ' H' ρ' → Same Hs Hs' → ExIs X.K ck Hs' H' cls d x → W cls d σ' H') : tLc (liftI X F ti) g tYes (inX X ck F W tx) vs σ H Q := by
  refine ⟨Hs, ρ, _, R, q, fun items ρ1 ⟨hz, q1⟩ J H1 Hs1 R1 S1 it => ?_⟩
  intro D hD
  have Rw := R1.clear vs
  refine ⟨fun i m H2 => ∃ Hs2 ρ2 ds, Rep X.K F Hs2 (wipe σ vs) H2 ρ2 ∧ Same Hs1 Hs2 ∧ Priv X.K F Hs2 (wipe σ vs) H2 ρ2 D (.list ds) ∧ clr ρ2 vs = ρ2 ∧ i + m = items.length ∧ ds.length ≤ i ∧ lcWX gD tx vs Q2 R2 (items.drop i) ds ρ2,
    ⟨items.length, Hs1, clr ρ1 vs, [], Rw.own hD, Same.refl _, Rw.priv hD .nil, (clr_clr ρ1 vs).1, Nat.zero_add _, Nat.le_refl _, q1⟩, ?_⟩
  rintro i m H2 ⟨Hs2, ρ2, ds, R2', S2, P2, ec, em, el, q2⟩
  have pc : ∀ v ∈ vs, ρ2.put v .u = ρ2 := fun v hv => by
    have z := (clr_clr ρ2 vs).2 v hv
    rw [ec] at z; exact z
  cases m with
  | zero =>
    have ei : i = items.length := em
    subst ei
    rw [List.drop_length] at q2
    have R3 := Rep.unclear vs pc R2'
    refine .inl ⟨it.stop H2 (S2.trans R2'.sub), z _ ρ2 q2 D H2 Hs2 R3 (S1.trans S2) ⟨P2.hn, P2.h0, P2.own, fun j e hj sj => ?_⟩⟩
    cases R2'.slo j _ hj with
    | o e1 _ _ _ =>
      have e2 := (wipe_some e1).1
      rw [e2] at sj
      cases sj
      exact P2.apart j e hj e1
  | succ m =>
    have hi : i < items.length := by omega
    obtain ⟨d, hd⟩ := getI hi
    have edrop : items.drop i = d :: items.drop (i + 1) := by
      have e1 : items[i] = d := by
        have z := hd
        rw [List.getElem?_eq_getElem hi] at z
        exact Option.some.inj z
      rw [List.drop_eq_getElem_cons hi, e1]
    rw [edrop] at q2
    refine .inr ⟨it.go i H2 (S2.trans R2'.sub) hi, fun H3 => ∃ Hs3 ρ3 ds3, Rep X.K F Hs3 (wipe σ vs) H3 ρ3 ∧ Same Hs1 Hs3 ∧ Priv X.K F Hs3 (wipe σ vs) H3 ρ3 D (.list ds3) ∧ clr ρ3 vs = ρ3 ∧ ds3.length ≤ i + 1 ∧ lcWX gD tx vs Q2 R2 (items.drop (i + 1)) ds3 ρ3,
      fun H3 ⟨Hs3, ρ3, ds3, R3, S3, P3, e3, l3, q3⟩ => ⟨m, Nat.lt_succ_self m, Hs3, ρ3, ds3, R3, S3, P3, e3, by omega, l3, q3⟩, fun x H' y => ?_⟩
    have back : ∀ {τ : L2.St} {H4 Hs4 : Hp} {ρ4 : En} {x4 : PyData}, wipe τ vs = wipe σ vs → Rep X.K F Hs4 τ H4 ρ4 → Priv X.K F Hs4 τ H4 ρ4 D x4 → Rep X.K F Hs4 (wipe σ vs) H4 (clr ρ4 vs) ∧ Priv X.K F Hs4 (wipe σ vs) H4 (clr ρ4 vs) D x4 := by
      intro τ H4 Hs4 ρ4 x4 ew R4 P4
      have R5 := R4.clear vs
      rw [ew] at R5
      refine ⟨R5, P4.hn, P4.h0, P4.own, fun j e hj sj => ?_⟩
      have gen : ∀ ws : List Nat, (clr ρ4 ws).sl[j]? = some (.o e) → ρ4.sl[j]? = some (.o e) := by
        intro ws
        induction ws with
        | nil => exact id
        | cons a r ih =>
          intro h
          rcases set_get h with ⟨_, _, z⟩ | ⟨_, h⟩
          · cases z
          · exact ih h
      rw [← ew] at sj
      exact P4.apart j e (gen vs hj) (wipe_some sj).1
    have fin : ∀ {Hs' : Hp}, Rep X.K F Hs' (wipe σ vs) H' ρ2 → Same Hs1 Hs' → Priv X.K F Hs' (wipe σ vs) H' ρ2 D (.list ds) → Is X.K Hs' x d → g x (wipe σ vs) H' fun σ2 H2 => wipe σ2 vs = wipe σ vs ∧ tYes σ2 H2 fun b H3 =>
        if b = true then inX X ck F W tx σ2 H3 fun y H4 => ∃ acc, H4 D = some (.lst acc) ∧ acc.length < sizeLine ∧ (∃ Hs3 ρ3 ds3, Rep X.K F Hs3 (wipe σ vs) (upd H4 D (.lst (acc ++ [y]))) ρ3 ∧ Same Hs1 Hs3 ∧ Priv X.K F Hs3 (wipe σ vs) (upd H4 D (.lst (acc ++ [y]))) ρ3 D (.list ds3) ∧ clr ρ3 vs = ρ3 ∧ ds3.length ≤ i + 1 ∧ lcWX gD tx vs Q2 R2 (items.drop (i + 1)) ds3 ρ3)
        else ∃ Hs3 ρ3 ds3, Rep X.K F Hs3 (wipe σ vs) H3 ρ3 ∧ Same Hs1 Hs3 ∧ Priv X.K F Hs3 (wipe σ vs) H3 ρ3 D (.list ds3) ∧ clr ρ3 vs = ρ3 ∧ ds3.length ≤ i + 1 ∧ lcWX gD tx vs Q2 R2 (items.drop (i + 1)) ds3 ρ3 := by
      intro Hs' R' S' P' ix
      refine hg x (wipe σ vs) H' Hs' ρ2 d _ _ R' ix q2 fun ρ3 σ3 R3 ew hp q3 => ?_
      have ew' := wipe_twice ew
      have P3 := hp D _ P'
      refine ⟨ew', ?_⟩
      simp only [tYes, if_true]
      obtain ⟨F5, kin5, R45, inH5, e05, out5⟩ := R3.within
      refine ⟨F5, kin5, Hs', ρ3, _, R2, R45, q3, fun yd ρ5 q5 yv H5 Hs5 R5' S5 iy => ?_, fun ex ρ5 q5 cls dd H5 Hs5 R5' S5 ix5 => ?_⟩
      · have P5 := P3.kept R3 kin5 inH5 e05 R5'
        obtain ⟨_, R5⟩ := out5 _ _ _ _ R5'
        obtain ⟨R6, P6⟩ := back ew' R5 P5
        cases P6 with
        | mk n6 h6 o6 a6 =>
          cases o6 with
          | @lst xs _ hx hl =>
            refine ⟨xs, hx, ?_, Hs5, _, ds ++ [yd], R6.writeP ⟨n6, h6, .lst hx hl, a6⟩ (lst_tbl _), S'.trans S5, ⟨n6, h6, .lst upd_same (hl.append (.one iy)), a6⟩, (clr_clr ρ5 vs).1, by simp; omega, q5⟩
            rw [hl.length]
            exact small1000 (by omega)
      · exact zx ex ρ5 q5 cls dd σ3 H5 Hs5 (out5 _ _ _ _ R5').2 (S1.trans (S'.trans S5)) ix5
    rcases it.yld i H2 x H' d (S2.trans R2'.sub) hd y with ⟨rfl, ix⟩ | ⟨T, xs, ds', rfl, hT, rfl, ixs, rfl⟩
    · exact fin R2' S2 P2 (ix.mono S2)
    · have gr := Grow.laid (o := .tup xs) R2'.sub R2'.ntb R2'.tab hT (fun _ z => nomatch z)
      exact fin (R2'.grow gr) (S2.trans gr.shr) (P2.grow gr) (.tup upd_same (ixs.mono (S2.trans gr.shr)))
theorem ds_setLcX {i : Nat} {y : Str} {py spos : Pos} (hc : X.calm = true) (hN : X.N.Nodup) (hst : X.stack = X.env :: X.outer) (hfr : X.env.frame = some X.env.locals) (tk : Takes X W)
    (hW : ∀ cls d σ σ' H, W cls d σ H → W cls d σ' H) (hy : X.N[i]? = some y) (hyl : X.env.scope.names.lookup y = some .local) (hsw : swapsWith (.ListComp elt [⟨tg, iter, [], 0⟩] scope pos) (some (.Name y py)) spos.line X.env = pure true)
    (hi : DI X F tg iter ti) (ok : BlkOk X.N X.env.scope scope own) (hgo : TgOk X F g gD (own.map (·.2)))
    (hg : ∀ (s : Shared) (H : Hp) (C : Addr) (cl : List (Str × Addr)) (fp : List Addr), PG (X.blk s H scope (compEnvC scope cl C X.env) fp) tg g)
    (he : ∀ (s : Shared) (H : Hp) (C : Addr) (cl : List (Str × Addr)) (fp : List Addr) (F' : Fm) (xe : Value → Shared → Prop), Kin F F' → (∀ σ, PassesAt (L2.CX X.prog X.w) ((X.blk s H scope (compEnvC scope cl C X.env) fp).wish xe) σ (WE W σ)) →
      DX ((X.blk s H scope (compEnvC scope cl C X.env) fp).wish xe) ck F' W elt tx) (hs : ∀ x, foldedSetIterable iter X.env x = pure x := by intro _; rfl) :
    DS X ck F W (.Assign [.Name y py] (.ListComp elt [⟨tg, iter, [], 0⟩] scope pos) spos) (dSetLcX i ti gD tx (own.map (·.2))) :=
  ps_imp (ps_setLcX (te := inX X ck F W tx) hc hN hst hfr tk hW hy hyl hsw hi ok hg (fun s H C cl fp xe hx => ⟨fun pins s' σ' H' Q I ⟨F', k, q⟩ => (he s H C cl fp F' xe k hx).run pins s' σ' H' Q I q⟩) hs) fun D σ H ⟨Hs, ρ, K, R, q, ok⟩ =>
    lc_mainX hgo R q (fun d ρ' qd a H' Hs' R' S' P' => ok.nx _ qd _ H' Hs' (R'.setO i P') S') fun x ρ' qx cls d σ' H' Hs' R' S' ix => ok.ex x ρ' qx cls d σ' H' Hs' R' S' ix
/-- a call that may raise, by what passes -/
theorem dcP {j k : Nat} {ps : List Str} {sp : Spc} {x : Str} {p pos : Pos} {e : Expr} {es : List Expr} {t : RA} (hx : ∀ σ, PassesAt (L2.CX X.prog X.w) X σ (WE W σ)) (o : Ok X.prog X.w X.K X.mg X.base (L2.CX X.prog X.w) j x ps (spP T1 X.K ck sp)) (hr : Room k X.A) (ha : DA X F (e :: es) t) (hjk : j ≤ k := by decide) (hg : Gl X x := by rfl)
    (hdb : (x == ("__debug__" : Str)) = false := by decide) (he : starEach (e :: es) X.env = (false, eval e X.env) :: starEach es X.env := by rfl) (hpl : (backTo pos (starEach es X.env)).any (·.1) = false := by rfl) :
    DX X ck F W (.Call (.Name x p) (e :: es) [] pos) (dCallX sp t) := by
  obtain ⟨⟨fd, Fn, hb⟩, kp, at_⟩ := o
  exact pe_imp (pe_callS (E := WE W) Fn (hr.mono hjk) hg at_ kp hb hx ha hdb he hpl) fun σ H Q ⟨Hs, ρ, Q2, R2, R, q, z, zx⟩ => ⟨Hs, ρ, _, R, q, fun ds ρ1 q1 vs H1 Hs1 R1 S1 i1 =>
    ⟨F.T, Hs1, ds, _, _, trivial, R1.sub, R1.ntb, R1.tab, i1, q1, fun d qd v Hs' H' g iv => z d ρ1 qd v H' Hs' (R1.grow g) (S1.trans g.shr) iv, fun x qx cls dd Hs' H' g ix => zx x ρ1 qx cls dd H' Hs' (R1.grow g) (S1.trans g.shr) ix⟩⟩
end
end Yd
set_option Elab.async false
set_option linter.all false
set_option maxRecDepth 100000
set_option maxHeartbeats 2000000
/-! # several clauses except X as n -/
namespace Yd
open PySem PySem.Spec PyProof.Rows L2 LamX
/-- behind a suite its name is gone -/
def Ends.gone (D : Ends) (i : Nat) : Ends := { nx := fun σ H => D.nx (σ.set i none) H, rt := D.rt, bk := fun σ H => D.bk (σ.set i none) H, ct := fun σ H => D.ct (σ.set i none) H }
abbrev Sui := Addr → Value → Option Addr → TS
def wAsM (K : PySem.W.Frag) (Wout : WX) (i : Nat) (D : Ends) : List (Value × Sui) → WX
  | [] => Wout
  | (c, ts) :: r => fun cls d σ H => ∃ b, PySem.W.exmOne K cls c = some b ∧ (b = true → ∀ a, H a = none → ts a cls d (Ends.gone D i) (σ.set i (some (.ref a))) H) ∧ (b = false → wAsM K Wout i D r cls d σ H)
inductive HdsAs (X : Cx) (n : Str) : List ExceptHandler → List (Value × Sui) → Prop
  | nil : HdsAs X n [] []
  | cons {x : Str} {c : Value} {ts : Sui} {b₀ : Stmt} {suite : List Stmt} {np pos' : Pos} {hds : List ExceptHandler} {l : List (Value × Sui)} (hc : Names X x c)
      (hsu : ∀ (a : Addr) (oe : Obj) (cls : Value) (d : Option Addr) (pn : List (Addr × Obj)), Zc cls d oe → (∃ vs, oe.data = .fields vs) → PSs (X.suite a ((a, oe) :: pn)) (b₀ :: suite) (ts a cls d)) (r : HdsAs X n hds l) :
      HdsAs X n (.ExceptHandler (some (.Name x np)) (some n) (b₀ :: suite) pos' :: hds) ((c, ts) :: l)
section
variable {X : Cx} {body : List Stmt} {h₀ : ExceptHandler} {hds : List ExceptHandler} {l : List (Value × Sui)} {pos : Pos} {tb : WX → TS} {Wout : WX} {i : Nat} {n : Str}
theorem ps_try_asM (hs : X.stack = X.env :: X.outer) (hf : X.env.frame = some X.env.locals) (hN : X.N.Nodup) (hi : X.N[i]? = some n) (hln : X.env.kindOf n = some .local) (tk : Takes X Wout)
    (hb : ∀ (W : WX) (pn : List (Addr × Obj)) (xe : Value → Shared → Prop), Takes (X.tr pn xe) W → PassesOwn (model X.prog X.w) X.A X.env xe → PSs (X.tr pn xe) body (tb W)) (hh : HdsAs X n (h₀ :: hds) l) :
    PS X (.Try body (h₀ :: hds) [] [] pos) (fun D σ H => tb (wAsM X.K Wout i D l) D σ H) := by
  refine ⟨fun pins s σ H D I h => ?_⟩
  have ok := I.ok
  have hfr : X.A.frames = some (X.env :: X.outer) := by rw [ok.frames, hs]
  have hloc : Loc X.env.scope n := .inl hln
  refine wpAny_Try_except ?_
  refine wpAny_mono ((hb (wAsM X.K Wout i D l) (X.pn ++ pins) (fun e s1 => wpAny (model X.prog X.w) X.A (noteFrame e X.env) (fun _ s2 => wpAny (model X.prog X.w) X.A (setFlight e none)
    (fun _ s3 => wpAny (model X.prog X.w) X.A (handleBy e X.env (h₀ :: hds)) (SP X pins D) X.xe s3) X.xe s2) X.xe s1) (fun u s' xx => ?_) PassesOwn.looking).run [] s σ H D (I.toTry _) h) (fun f s1 hsp => ?_) (fun e s1 he => he)
  · obtain ⟨a, B, sI, pins', σ', H', cls, d, rfl, J', nb, up, sky, na, os, ag, w⟩ := xx
    have J : Inv X pins σ' H' sI := J'.ofTry ok
    have sky' : Sky B (X.env :: X.outer) a (Zc cls d) X.env.locals s'.heap := by rw [← hs]; exact sky
    show wpAny (model X.prog X.w) X.A (noteFrame (.ref a) X.env) _ _ _
    refine Sky.land Zc.steady hfr hf sky' fun h3 fl3 up3 => ?_
    have J3 : Inv X pins σ' H' { s' with heap := h3 } := J.landed nb fl3.1 (up.trans up3) os ag
    obtain ⟨oe3, vs3, he3, hz3, hd3⟩ := fl3.there
    have nfr : a ∉ frs (X.env :: X.outer) := fun hm => by
      obtain ⟨_, o', e', hnf⟩ := fl3.2.2.1.mem hm
      rw [he3] at e'; cases e'
      exact hnf _ hd3
    have nL : a ≠ X.env.locals := fun z => nfr (List.mem_filterMap.mpr ⟨X.env, List.mem_cons_self, by rw [hf, z]⟩)
    have nF : a ∉ X.fs := fun hm => by
      obtain ⟨e, he, q⟩ := List.mem_filterMap.mp hm
      exact nfr (List.mem_filterMap.mpr ⟨e, List.mem_cons_of_mem _ he, q⟩)
    have S3 := J3.suite he3 hd3 na nL nF
    have go : ∀ {hds' : List ExceptHandler} {l' : List (Value × Sui)}, HdsAs X n hds' l' → wAsM X.K Wout i D l' cls d σ' H' →
        wpAny (model X.prog X.w) X.A (handleBy (.ref a) X.env hds') (SP X pins D) X.xe { s' with heap := h3 } := by
      intro hds' l' hk
      induction hk with
      | nil =>
        intro w
        refine wpAny_handleBy_nil ?_
        obtain ⟨k1, k2, k3, oe, vs, T, oT, ts', he, hz, hd, h1, hr⟩ := id fl3
        unfold PySem.passOn
        refine wpAny_bind (wpAny_field he hd h1 ?_)
        rw [if_neg (show ¬ ((Value.ref T == Value.none) = true) from by simp)]
        have fin : wpAny (model X.prog X.w) X.A (setFlight (.ref a) X.env.frame) (fun _ s4 => wpAny (model X.prog X.w) X.A (throw (.ref a) : Sem Flow) (SP X pins D) X.xe s4) X.xe { s' with heap := h3 } := by
          rw [hf]
          refine HandSPX.setFlight_upZ fl3 fun h4 hh4 up4 => wpAny_throw (tk _ _ ?_)
          exact ⟨a, B, sI, pins, σ', H', cls, d, rfl, J, nb, (up.trans up3).trans up4, .inr (.inr (by rw [hs]; exact hh4)), na, os, ag, w⟩
        first
          | exact wpAny_bind (wpAny_pure (wpAny_bind fin))
          | exact wpAny_bind fin
      | @cons x c ts b₀ suite np pos' hds2 l2 hc hsu r ih =>
        intro w
        obtain ⟨b, hb1, hyes, hno⟩ := w
        refine wpAny_handleBy_cons (codeAny_handlers_test ?_) (by intro q; cases q)
        have LT : PySem.W.Looks (model X.prog X.w) h3 (typeOf (.ref a)) cls := fun A Q E s k q => wpAny_typeOf_ref (k _ _ he3) (by rw [hz3.1]; exact q)
        have LM := PySem.W.exm_one (M := model X.prog X.w) (J3.kIn) LT hb1
        have test : ∀ {Q : Value → Shared → Prop} {E : Value → Shared → Prop}, Q c { s' with heap := h3 } → wpAny (model X.prog X.w) (X.A.mark (some (.ref a))) (eval (.Name x np) X.env) Q E { s' with heap := h3 } := fun {Q E} q => by
          obtain ⟨hg, hdbg, hm | ⟨hm, hv, hnn⟩⟩ := hc
          · exact ld_glob (X := X.suite a ((a, oe3) :: (X.pn ++ pins))) S3 hg hm q hdbg
          · exact ld_blt (X := X.suite a ((a, oe3) :: (X.pn ++ pins))) S3 hg hm hv q hnn hdbg
        refine test (LM.here ?_)
        cases b with
        | true =>
          refine codeAny_handlers_suite_as ?_
          refine HandSPX.lands_againZ fl3 fun h4 fl4 up4 => ?_
          have J4 : Inv X pins σ' H' { s' with heap := h4 } := J.landed nb fl4.1 ((up.trans up3).trans up4) os ag
          obtain ⟨oe4, vs4, he4, hz4, hd4⟩ := fl4.there
          have S4 := J4.suite he4 hd4 na nL nF
          refine store_ok (X := X.suite a ((a, oe4) :: (X.pn ++ pins))) (v := .ref a) S4 hN hi hloc rfl (fun s5 S5 => ?_) (.inr hln)
          refine wpAny_mono ((hsu a oe4 cls d (X.pn ++ pins) hz4 ⟨_, hd4⟩).run [] s5 _ H' _ S5 (hyes rfl a na)) (fun f s6 hsp => ?_) (fun _ _ z => False.elim z)
          have end_ : ∀ {σ6 : L2.St} {H6 : Hp} {Q : Shared → Prop}, Inv (X.suite a ((a, oe4) :: (X.pn ++ pins))) [] σ6 H6 s6 → (∀ s7, Inv X pins (σ6.set i none) H6 s7 → Q s7) →
              wpAny (model X.prog X.w) X.A (do bindName X.env n .none; unbindBehindTheSuite X.env n pos') (fun _ s7 => Q s7) X.xe s6 := fun {σ6 H6 Q} S6 hq => gone_ok (S6.unsuite ok) hN hi hln hq
          cases f with
          | next =>
            obtain ⟨σ6, H6, S6, q6⟩ := hsp
            exact end_ S6 fun s7 J7 => ⟨_, _, J7, q6⟩
          | brk =>
            obtain ⟨σ6, H6, S6, q6⟩ := hsp
            exact end_ S6 fun s7 J7 => ⟨_, _, J7, q6⟩
          | cont =>
            obtain ⟨σ6, H6, S6, q6⟩ := hsp
            exact end_ S6 fun s7 J7 => ⟨_, _, J7, q6⟩
          | ret u =>
            obtain ⟨v6, σ6, H6, S6, r6, q6⟩ := hsp
            exact end_ S6 fun s7 J7 => ⟨_, _, _, J7, r6, q6⟩
        | false =>
          show wpAny _ X.A (handleBy (.ref a) X.env hds2) _ _ _
          exact ih (hno rfl)
    exact go hh w
  · cases f with
    | next =>
      obtain ⟨σ', H', J', q⟩ := hsp
      exact wpAny_execs_nil ⟨σ', H', J'.ofTry ok, q⟩
    | brk =>
      obtain ⟨σ', H', J', q⟩ := hsp
      exact ⟨σ', H', J'.ofTry ok, q⟩
    | cont =>
      obtain ⟨σ', H', J', q⟩ := hsp
      exact ⟨σ', H', J'.ofTry ok, q⟩
    | ret u =>
      obtain ⟨v, σ', H', J', r, q⟩ := hsp
      exact ⟨v, σ', H', J'.ofTry ok, r, q⟩
end
end Yd
set_option Elab.async false
set_option linter.all false
set_option maxRecDepth 100000
set_option maxHeartbeats 2000000
/-! # Defs that are called where no repr is under way -/
namespace Yd
open PySem PySem.Spec PyProof.Rows L2 LamX
/-- the promise of a def, where no repr runs around its call -/
structure FnOkG (P : Program) (w : World) (K : PySem.W.Frag) (mg : Str → Option Value) (base : Heap) (k : Nat) (f : Addr) (fd : FuncData) (ps : List Str) (sp : Sp) : Prop where
  len : ∀ vs H Q E, sp vs H Q E → vs.length = ps.length
  run : ∀ (A : Around) (outer : List Env) (s : Shared) (H : Hp) (args : Args) (us : List Value) (vs : List V) (Q : VK), A.guards = some [] → Room k A → Env0 P w K mg base A outer s H → BindsTo s fd args (ps.zip us) → Vals vs us → sp vs H Q E0 →
    codeAny (model P w) A (.call (.ref f) args) (CR CX0 outer P w H s Q E0) s
structure OkG (P : Program) (w : World) (K : PySem.W.Frag) (mg : Str → Option Value) (base : Heap) (k : Nat) (x : Str) (ps : List Str) (sp : Sp) : Prop where
  ex : ∃ fd, FnOkG P w K mg base k (He.ga K x) fd ps sp ∧ L2.Binds K fd ps []
  kp : PySem.W.keepIn K (.ref (He.ga K x)) = true
  at_ : mg x = some (.ref (He.ga K x))
section
variable {X : Cx} {k j : Nat} {f : Addr} {fd : FuncData} {ps : List Str} {sp : Sp} {x : Str} {p pos : Pos} {e : Expr} {es : List Expr} {t : TA}
theorem run_fnG {pins : List (Addr × Obj)} {σ : L2.St} {H : Hp} {s : Shared} {Q : VK} {us : List Value} {vs : List V} (Fn : FnOkG X.prog X.w X.K X.mg X.base k f fd ps sp) (hG : X.A.guards = some []) (hr : Room k X.A) (hb : L2.Binds X.K fd ps []) (I : Inv X pins σ H s) (r : Vals vs us) (h : sp vs H Q E0) :
    wpAny (model X.prog X.w) X.A (call (.ref f) us) (EP X pins σ Q) X.xe s := by
  have hl : us.length = ps.length := by rw [← r.length]; exact Fn.len _ _ _ _ h
  have b := hb s us I.kIn (by rw [List.append_nil]; exact hl)
  rw [List.append_nil] at b
  refine wpAny_call (codeAny_mono (Fn.run X.A X.stack s H ⟨us, []⟩ us vs Q hG hr I.env0 b r h) fun r s' hq => ?_)
  cases r with
  | error e => exact (show False from hq).elim
  | ok fl =>
    cases fl with
    | ret u => exact I.after hq
    | next => exact False.elim hq
    | brk => exact False.elim hq
    | cont => exact False.elim hq
theorem pe_callG (Fn : FnOkG X.prog X.w X.K X.mg X.base k f fd ps sp) (hG : X.A.guards = some []) (hr : Room k X.A) (hg : Gl X x) (hm : X.mg x = some (.ref f)) (hk : PySem.W.keepIn X.K (.ref f) = true) (hb : L2.Binds X.K fd ps []) (ha : PA X (e :: es) t)
    (hdb : (x == ("__debug__" : Str)) = false := by decide) (he : starEach (e :: es) X.env = (false, eval e X.env) :: starEach es X.env := by rfl) (hpl : (backTo pos (starEach es X.env)).any (·.1) = false := by rfl) :
    PE X (.Call (.Name x p) (e :: es) [] pos) (fun σ H Q => t σ H fun vs H1 => sp vs H1 Q E0) := by
  refine ⟨fun pins s σ H Q I h => wpAny_Call_Name_kw (ld_glob I hg hm ?_ hdb)⟩
  exact PySem.W.callWith_K (h₀ := X.base) I.ok.mod.kin hk (thn (ha.run pos pins s σ H _ I h) fun us s1 ⟨vs, H1, I1, r, q⟩ => ⟨I1.kIn, run_fnG Fn hG hr hb I1 r q⟩) he hpl
theorem pe_callG0 (Fn : FnOkG X.prog X.w X.K X.mg X.base k f fd ps sp) (hG : X.A.guards = some []) (hr : Room k X.A) (hg : Gl X x) (hm : X.mg x = some (.ref f)) (hk : PySem.W.keepIn X.K (.ref f) = true) (hb : L2.Binds X.K fd ps []) (hdb : (x == ("__debug__" : Str)) = false := by decide) :
    PE X (.Call (.Name x p) [] [] pos) (fun σ H Q => sp [] H Q E0) := by
  refine ⟨fun pins s σ H Q I h => wpAny_Call_Name_kw (ld_glob I hg hm ?_ hdb)⟩
  exact PySem.W.callWith_K0 I.kIn hk (run_fnG (us := []) Fn hG hr hb I .nil h)
end
section
variable {X : Cx} {ck : EK → Addr} {F : Fm} {W : WX} {j k : Nat} {ps : List Str} {sp : Spc} {sps : SpcS} {x : Str} {p pos : Pos} {e : Expr} {es : List Expr} {t : RA} {TT : List (Addr × Str) → Prop}
theorem dcG (hG : X.A.guards = some []) (hT : TT F.T) (o : OkG X.prog X.w X.K X.mg X.base j x ps (spP TT X.K ck sp)) (hr : Room k X.A) (ha : DA X F (e :: es) t) (hjk : j ≤ k := by decide) (hg : Gl X x := by rfl)
    (hdb : (x == ("__debug__" : Str)) = false := by decide) (he : starEach (e :: es) X.env = (false, eval e X.env) :: starEach es X.env := by rfl) (hpl : (backTo pos (starEach es X.env)).any (·.1) = false := by rfl) :
    DE X F (.Call (.Name x p) (e :: es) [] pos) (dCall sp t) := by
  obtain ⟨⟨fd, Fn, hb⟩, kp, at_⟩ := o
  exact pe_imp (pe_callG Fn hG (hr.mono hjk) hg at_ kp hb ha hdb he hpl) fun σ H Q ⟨Hs, ρ, Q2, R, q, z⟩ => ⟨Hs, ρ, _, R, q, fun ds ρ1 q1 vs H1 Hs1 R1 S1 i1 =>
    ⟨F.T, Hs1, ds, _, _, hT, R1.sub, R1.ntb, R1.tab, i1, q1, fun d qd v Hs' H' g iv => z d ρ1 qd v H' Hs' (R1.grow g) (S1.trans g.shr) iv, fun _ h => h.elim⟩⟩
theorem dcG0 (hG : X.A.guards = some []) (hT : TT F.T) (o : OkG X.prog X.w X.K X.mg X.base j x [] (spP TT X.K ck sp)) (hr : Room k X.A) (hjk : j ≤ k := by decide) (hg : Gl X x := by rfl) (hdb : (x == ("__debug__" : Str)) = false := by decide) :
    DE X F (.Call (.Name x p) [] [] pos) (dCall sp dNil) := by
  obtain ⟨⟨fd, Fn, hb⟩, kp, at_⟩ := o
  exact pe_imp (pe_callG0 Fn hG (hr.mono hjk) hg at_ kp hb hdb) fun σ H Q ⟨Hs, ρ, Q2, R, q, z⟩ =>
    ⟨F.T, Hs, [], _, _, hT, R.sub, R.ntb, R.tab, .nil, q, fun d qd v Hs' H' g iv => z d ρ qd v H' Hs' (R.grow g) g.shr iv, fun _ h => h.elim⟩
theorem dcSG (i : Nat) {y : Str} {py : Pos} (hG : X.A.guards = some []) (hT : TT F.T) (o : OkG X.prog X.w X.K X.mg X.base j x ps (spS TT X.K sps)) (hr : Room k X.A) (ha : DA X F es t) (hjk : j ≤ k := by decide) (hg : Gl X x := by rfl)
    (hN : X.N[i]? = some y := by rfl) (hv : Vis X.env.scope y := by first | exact Or.inl rfl | exact Or.inr (Or.inl rfl) | exact Or.inr (Or.inr rfl)) (hd : (y == ("__debug__" : Str)) = false := by decide) (hcd : (y == ("__classdict__" : Str)) = false := by decide)
    (hdb : (x == ("__debug__" : Str)) = false := by decide) (he : starEach (.Name y py :: es) X.env = (false, eval (.Name y py) X.env) :: starEach es X.env := by rfl) (hpl : (backTo pos (starEach es X.env)).any (·.1) = false := by rfl) :
    DE X F (.Call (.Name x p) (.Name y py :: es) [] pos) (dCallS i sps t) := by
  obtain ⟨⟨fd, Fn, hb⟩, kp, at_⟩ := o
  refine pe_imp (pe_callG Fn hG (hr.mono hjk) hg at_ kp hb (pa_cons (pe_var hN hv hd hcd) ha he) hdb he hpl) fun σ H Q ⟨Hs, ρ, Q2, R, ⟨hs, q⟩, z⟩ => ?_
  obtain ⟨S, C, L, eg, es⟩ := st_is R hs
  refine ⟨.ref S, es, Hs, ρ, _, R, q, fun ds ρ1 q1 vs H1 Hs1 R1 S1 i1 => ?_⟩
  obtain ⟨so, _, hn⟩ := R1.rgo S C L eg
  exact ⟨F.T, Hs1, S, C, L, ρ1.g, vs, ds, _, hT, rfl, R1.sub, R1.ntb, R1.tab, i1, so, hn, q1, fun d g qd v Hs' H' gr so' iv => z d _ qd v H' Hs' (R1.growS eg gr so') (S1.trans gr.shr) iv⟩
end
/-! ## the rules for such defs -/
section
variable {P : Program} {w : World} {K : PySem.W.Frag} {mg : Str → Option Value} {base : Heap} {ck : EK → Addr} {TT : List (Addr × Str) → Prop}
theorem fnG {x : Str} {st : Stmt} {fd : FuncData} {N ps : List Str} {k : Nat} {sp : Sp} (Fn : Fun K x x st (He.ga K x) fd) (S : FnScope N ps (defScope st)) (hl : ∀ vs H Q E, sp vs H Q E → vs.length = ps.length)
    (hb : ∀ (cdv : Value) (A : Around) (outer : List Env) (s : Shared) (H : Hp) (vs : List V) (Q : VK), cdv = .ref (He.codeOf K (x, none)) → A.guards = some [] → Room k (A.deeper (envOfC x (defScope st) s.heap.objs.size (He.ga K x) cdv)) → sp vs H Q E0 →
      ∃ t, PSs (cxOf CX0 P w K mg base N x (defScope st) (He.ga K x) cdv A outer s H E0) (defBody st) t ∧ t { nx := fun _ H' => Q .non H', rt := Q } (L2.start N vs) H) : FnOkG P w K mg base (k + 1) (He.ga K x) fd ps sp := by
  obtain ⟨oc, od, kV, doc, pm, an, cdv, ct, osl, rfl, lk, hcd⟩ := Fn.ex
  obtain ⟨c, rfl⟩ := He.codeIn_ref hcd
  have ec : He.codeOf K (x, none) = c := He.codeOf_eq (p := (x, none)) lk rfl
  refine ⟨hl, fun A outer s H args us vs Q hG hr e0 hbi r hsp => ?_⟩
  exact run_ofS lk hcd S hr e0 hbi r (hl _ _ _ _ hsp) fun hr' => hb _ A outer s H vs Q (by rw [ec]) hG hr' hsp
theorem dfnG {x : Str} {st : Stmt} {fd : FuncData} {N ps : List Str} {k : Nat} {sp : Spc} (Fn : Fun K x x st (He.ga K x) fd) (S : FnScope N ps (defScope st)) (hl : ∀ ds Q R, sp ds Q R → ds.length = ps.length)
    (hb : ∀ (cdv : Value) (A : Around) (outer : List Env) (s : Shared) (H : Hp) (F : Fm), cdv = .ref (He.codeOf K (x, none)) → A.guards = some [] → Room k (A.deeper (envOfC x (defScope st) s.heap.objs.size (He.ga K x) cdv)) → TT F.T →
      ∃ t, DSs (cxOf CX0 P w K mg base N x (defScope st) (He.ga K x) cdv A outer s H E0).nox ck F W0 (defBody st) t ∧ ∀ ds Q R, sp ds Q R → t (defEnds Q fun _ => False) ⟨st0 N ds, 0⟩) :
    FnOkG P w K mg base (k + 1) (He.ga K x) fd ps (spP TT K ck sp) := by
  have hN : ps.length ≤ N.length := by have := congrArg List.length S.pre; rw [List.length_take] at this; omega
  refine fnG Fn S (fun vs H Q E ⟨T, Hs, ds, Q2, R2, _, _, _, _, iv, q, _⟩ => by rw [iv.length]; exact hl _ _ _ q) fun cdv A outer s H vs Q ec hG hr ⟨T, Hs, ds, Q2, R2, hT, hs, nt, ht, iv, q, hq, _⟩ => ?_
  obtain ⟨t, h, ht'⟩ := hb cdv A outer s H ⟨H, Hs, T, none⟩ ec hG hr hT
  exact ⟨_, h.nox, liftS_start (X := (cxOf CX0 P w K mg base N x (defScope st) (He.ga K x) cdv A outer s H E0).nox) hs nt ht iv (by rw [hl _ _ _ q]; exact hN) (ht' ds Q2 R2 q) hq fun x z => z.elim⟩
theorem dfnSG {x : Str} {st : Stmt} {fd : FuncData} {N ps : List Str} {k : Nat} {sp : SpcS} (Fn : Fun K x x st (He.ga K x) fd) (S : FnScope N ps (defScope st)) (hl : ∀ ds g Q, sp ds g Q → ds.length + 1 = ps.length)
    (hb : ∀ (cdv : Value) (A : Around) (outer : List Env) (s : Shared) (H : Hp) (F : Fm), cdv = .ref (He.codeOf K (x, none)) → A.guards = some [] → Room k (A.deeper (envOfC x (defScope st) s.heap.objs.size (He.ga K x) cdv)) → TT F.T →
      ∃ t, DSs (cxOf CX0 P w K mg base N x (defScope st) (He.ga K x) cdv A outer s H E0).nox ck F W0 (defBody st) t ∧ ∀ ds g Q, sp ds g Q → t (defEndsS Q) ⟨st0S N ds, g⟩) :
    FnOkG P w K mg base (k + 1) (He.ga K x) fd ps (spS TT K sp) := by
  have hN : ps.length ≤ N.length := by have := congrArg List.length S.pre; rw [List.length_take] at this; omega
  refine fnG Fn S (fun vs H Q E ⟨T, Hs, Sa, C, L, g, ws, ds, Q2, _, ev, _, _, _, iv, _, _, q, _⟩ => by rw [ev, List.length_cons, iv.length]; exact hl _ _ _ q) fun cdv A outer s H vs Q ec hG hr ⟨T, Hs, Sa, C, L, g, ws, ds, Q2, hT, ev, hs, nt, ht, iv, so, hn, q, hq⟩ => ?_
  subst ev
  obtain ⟨t, h, ht'⟩ := hb cdv A outer s H ⟨H, Hs, T, some (Sa, C, L)⟩ ec hG hr hT
  refine ⟨_, h.nox, Hs, _, _, rep_startS hs nt ht iv (by rw [hl _ _ _ q]; exact hN) so hn, ht' ds g Q2 q, ⟨fun ρ' q' σ' H' Hs' R' S' => ?_, fun d ρ' q' v σ' H' Hs' R' S' i' => ?_, fun _ z => z.elim, fun _ z => z.elim, fun _ _ z => z.elim⟩⟩
  · obtain ⟨g1, g2⟩ := R'.doneS
    exact hq _ _ q' _ Hs' H' g1 g2 .non
  · obtain ⟨g1, g2⟩ := R'.doneS
    exact hq d _ q' v Hs' H' g1 g2 i'
end
/-! ## repr -/
def reprOk (d : PyData) : Prop := d.showable = true ∧ d.canLay0 = true ∧ d.depth ≤ 40 ∧ d.shown.length ≤ sizeLine ∧ (isDisplay d = true ∨ ∃ b, d = .bool b)
theorem call_reprG {X : Cx} (hG : X.A.guards = some []) (hu : X.A.units + 64 < cLine) : CallR X (.builtin "repr") (fun vs H Q => ∃ v d, vs = [v] ∧ Dp X.K H v d ∧ reprOk d ∧ Q (.str d.shown) H) := by
  intro pins s σ H vs us Q I r h
  obtain ⟨v, d, rfl, hd, ⟨h1, h2, h3, h4, h5⟩, q⟩ := h
  cases r with
  | @cons _ u _ _ ru rr =>
    cases rr
    obtain ⟨as, rd⟩ := Dp.reads I d v u hd ru
    rcases h5 with h5 | ⟨b, rfl⟩
    · obtain ⟨a, rfl⟩ := isRef_of_reads rd h5
      exact repr_of_reads' rd h1 (PyData.noDict_hsm (PyData.hasDict_of_canLay d h2)) hG (by omega) (fun _ _ e => e) (fun h' u tk hk => ⟨.str d.shown, H, I.kept (t' := tk) hk, ⟨_, rfl⟩, q⟩) h4
    · cases rd
      refine P.repr_of_bool ⟨.str (PyData.shown (.bool b)), H, I.tok _, ⟨s.toks, ?_⟩, q⟩
      cases b <;> rfl
def kRepr : KL := fun ds Q => match ds with
  | [d] => reprOk d ∧ Q (.str d.shown)
  | _ => False
theorem callD_repr {X : Cx} {F : Fm} : CallD X F (fun vs H Q => ∃ v d, vs = [v] ∧ Dp X.K H v d ∧ reprOk d ∧ Q (.str d.shown) H) kRepr := by
  intro Hs σ H ρ ds vs Q Q2 R iv q z
  unfold kRepr at q
  split at q
  · cases iv with
    | @cons v _ d0 _ h hl =>
      cases hl
      exact ⟨v, _, rfl, (h.mono R.sub).dp q.1.2.1, q.1, z _ q.2 _ H Hs R (Same.refl _) (.str _)⟩
  · exact q.elim
theorem de_repr {X : Cx} {F : Fm} {e : Expr} {ta : RE} {p pos : Pos} (hG : X.A.guards = some []) (hu : X.A.units + 64 < cLine) (hg : Gl X "repr") (hm : X.mg "repr" = none) (ha : DE X F e ta) (he : starEach [e] X.env = (false, eval e X.env) :: starEach [] X.env := by rfl) :
    DE X F (.Call (.Name "repr" p) [e] [] pos) (dCallB kRepr (dCons ta dNil)) := de_callB (call_reprG hG hu) callD_repr hg hm (by decide +kernel) (da_cons ha da_nil he) (he := he)
end Yd
set_option Elab.async false
set_option linter.all false
set_option maxRecDepth 100000
set_option maxHeartbeats 2000000
/-! # The defs that call what they get, and catch -/
namespace Yd
open PySem PySem.Spec PyProof.Rows L2 LamX
def EK.word : EK → Str
  | .units => "units"
  | .world => "world"
  | .index => "index"
  | .param => "parameter"
  | .norow => "none"
  | .great => "great"
/-- what is told of what is caught -/
def exD : Ex → PyData
  | (.norow, _) => .tuple [.str "none"]
  | (k, d) => .tuple [.str k.word, d]
theorem G.exm {K : PySem.W.Frag} {mg : Str → Option Value} (g : G K mg) : ∀ a b : EK, PySem.W.exmOne K (.ref (ckK K a)) (.ref (ckK K b)) = some (decide (a = b))
  | .units, .units => He.exm_ok (g.fact 89 (f := .exm "BadUnits" "BadUnits" true))
  | .units, .world => He.exm_ok (g.fact 90 (f := .exm "BadUnits" "BadWorld" false))
  | .units, .index => He.exm_ok (g.fact 91 (f := .exm "BadUnits" "BadIndex" false))
  | .units, .param => He.exm_ok (g.fact 92 (f := .exm "BadUnits" "BadParameter" false))
  | .units, .norow => He.exm_ok (g.fact 93 (f := .exm "BadUnits" "NoRow" false))
  | .units, .great => He.exm_ok (g.fact 94 (f := .exm "BadUnits" "TooGreat" false))
  | .world, .units => He.exm_ok (g.fact 95 (f := .exm "BadWorld" "BadUnits" false))
  | .world, .world => He.exm_ok (g.fact 96 (f := .exm "BadWorld" "BadWorld" true))
  | .world, .index => He.exm_ok (g.fact 97 (f := .exm "BadWorld" "BadIndex" false))
  | .world, .param => He.exm_ok (g.fact 98 (f := .exm "BadWorld" "BadParameter" false))
  | .world, .norow => He.exm_ok (g.fact 99 (f := .exm "BadWorld" "NoRow" false))
  | .world, .great => He.exm_ok (g.fact 100 (f := .exm "BadWorld" "TooGreat" false))
  | .index, .units => He.exm_ok (g.fact 101 (f := .exm "BadIndex" "BadUnits" false))
  | .index, .world => He.exm_ok (g.fact 102 (f := .exm "BadIndex" "BadWorld" false))
  | .index, .index => He.exm_ok (g.fact 103 (f := .exm "BadIndex" "BadIndex" true))
  | .index, .param => He.exm_ok (g.fact 104 (f := .exm "BadIndex" "BadParameter" false))
  | .index, .norow => He.exm_ok (g.fact 105 (f := .exm "BadIndex" "NoRow" false))
  | .index, .great => He.exm_ok (g.fact 106 (f := .exm "BadIndex" "TooGreat" false))
  | .param, .units => He.exm_ok (g.fact 107 (f := .exm "BadParameter" "BadUnits" false))
  | .param, .world => He.exm_ok (g.fact 108 (f := .exm "BadParameter" "BadWorld" false))
  | .param, .index => He.exm_ok (g.fact 109 (f := .exm "BadParameter" "BadIndex" false))
  | .param, .param => He.exm_ok (g.fact 110 (f := .exm "BadParameter" "BadParameter" true))
  | .param, .norow => He.exm_ok (g.fact 111 (f := .exm "BadParameter" "NoRow" false))
  | .param, .great => He.exm_ok (g.fact 112 (f := .exm "BadParameter" "TooGreat" false))
  | .norow, .units => He.exm_ok (g.fact 113 (f := .exm "NoRow" "BadUnits" false))
  | .norow, .world => He.exm_ok (g.fact 114 (f := .exm "NoRow" "BadWorld" false))
  | .norow, .index => He.exm_ok (g.fact 115 (f := .exm "NoRow" "BadIndex" false))
  | .norow, .param => He.exm_ok (g.fact 116 (f := .exm "NoRow" "BadParameter" false))
  | .norow, .norow => He.exm_ok (g.fact 117 (f := .exm "NoRow" "NoRow" true))
  | .norow, .great => He.exm_ok (g.fact 118 (f := .exm "NoRow" "TooGreat" false))
  | .great, .units => He.exm_ok (g.fact 119 (f := .exm "TooGreat" "BadUnits" false))
  | .great, .world => He.exm_ok (g.fact 120 (f := .exm "TooGreat" "BadWorld" false))
  | .great, .index => He.exm_ok (g.fact 121 (f := .exm "TooGreat" "BadIndex" false))
  | .great, .param => He.exm_ok (g.fact 122 (f := .exm "TooGreat" "BadParameter" false))
  | .great, .norow => He.exm_ok (g.fact 123 (f := .exm "TooGreat" "NoRow" false))
  | .great, .great => He.exm_ok (g.fact 124 (f := .exm "TooGreat" "TooGreat" true))
theorem ExF.xf {K : PySem.W.Frag} {x : Str} (h : ExF K x) : XfC K (He.ga K x) := ⟨h.ga, h.gg, h.ox.exC, h.hd⟩
theorem G.xf {K : PySem.W.Frag} {mg : Str → Option Value} (g : G K mg) (k : EK) : XfC K (ckK K k) := (g.exf (x := k.cls) (by cases k <;> decide +kernel)).xf
theorem G.nof {K : PySem.W.Frag} {mg : Str → Option Value} (g : G K mg) : ∀ k : EK, k ≠ .norow → PySem.W.findIn K (.ref (ckK K k)) k.field = some none
  | .units, _ => He.noat_ok (g.fact 84 (f := .noat "BadUnits" "value"))
  | .world, _ => He.noat_ok (g.fact 85 (f := .noat "BadWorld" "place"))
  | .index, _ => He.noat_ok (g.fact 86 (f := .noat "BadIndex" "value"))
  | .param, _ => He.noat_ok (g.fact 87 (f := .noat "BadParameter" "value"))
  | .great, _ => He.noat_ok (g.fact 88 (f := .noat "TooGreat" "most"))
  | .norow, h => absurd rfl h
def tellB (K : PySem.W.Frag) (k : EK) (cls : Value) (d : Option Addr) (H : Hp) (Q : VK) : Prop := cls = .ref (ckK K k) ∧ ((k = .norow ∧ ∀ t, H t = none → Q (.ref t) (upd H t (.tup [.str "none"]))) ∨
  (k ≠ .norow ∧ ∃ dd v, d = some dd ∧ H dd = some (.xd [(k.field, v)]) ∧ ∀ t, H t = none → Q (.ref t) (upd H t (.tup [.str k.word, v]))))
def suK (K : PySem.W.Frag) (k : EK) : Sui := fun a cls d D σ H => σ[1]? = some (some (.ref a)) ∧ tellB K k cls d H D.rt
def EH (K : PySem.W.Frag) (ks : List EK) (Q : VK) : XK := fun cls d H => ∃ k ∈ ks, tellB K k cls d H Q
def TTh (K : PySem.W.Frag) (ks : List EK) : (XK → Hp → VK → Prop) → Hp → VK → Prop := fun tl H Q => tl (EH K ks Q) H (fun v H1 => ([v] : List V).length ≤ sizeLine ∧ ∀ p, H1 p = none → Q (.ref p) (upd H1 p (.lst [v])))
theorem eh_wish {K : PySem.W.Frag} {mg : Str → Option Value} (g : G K mg) {Wout : WX} {D : Ends} {cls : Value} {d : Option Addr} {σ : L2.St} {H : Hp} (hl : σ.length = 2) : ∀ ks : List EK, (∃ k ∈ ks, tellB K k cls d H D.rt) → wAsM K Wout 1 D (ks.map fun k => (.ref (ckK K k), suK K k)) cls d σ H
  | [], ⟨k, hk, _⟩ => nomatch hk
  | k' :: ks, ⟨k, hk, h⟩ => by
    have ec := h.1
    refine ⟨decide (k = k'), by rw [ec]; exact g.exm k k', fun e a ha => ?_, fun e => ?_⟩
    · have e := of_decide_eq_true e
      subst e
      refine ⟨?_, h⟩
      rw [List.getElem?_set_self (by omega)]
    · have e := of_decide_eq_false e
      refine eh_wish g hl ks ⟨k, ?_, h⟩
      rcases List.mem_cons.mp hk with z | z
      · exact absurd z e
      · exact z
theorem takes_len {X : Cx} {W : WX} (tk : Takes X W) : Takes X (fun cls d σ H => σ.length = X.N.length → W cls d σ H) := fun u s' ⟨a, B, sI, pins, σ, H, cls, d, e, I, nb, up, sky, na, os, ag, w⟩ =>
  tk u s' ⟨a, B, sI, pins, σ, H, cls, d, e, I, nb, up, sky, na, os, ag, w I.len⟩
section
variable {X : Cx}
/-- the suite return (word,) -/
theorem su_none {K : PySem.W.Frag} {a : Addr} {pn : List (Addr × Obj)} {oe : Obj} {cls : Value} {d : Option Addr} {k1 k2 : Nat} {p1 p2 p3 : Pos} :
    PSs (X.suite a ((a, oe) :: pn)) [.Return (some (.Tuple [.Constant (.str "none") k1 p1] k2 p2)) p3] (suK K .norow a cls d) :=
  pss_imp (pss_one (ps_ret (pe_tup (pa_cons pe_str pa_nil)))) fun D σ H h => by
    rcases h.2.2 with ⟨_, h⟩ | ⟨h, _⟩
    · exact ⟨by show 1 ≤ sizeLine; decide, h⟩
    · exact absurd rfl h
/-- the suite return (word, error.f) -/
theorem su_val (g : G X.K X.mg) (k : EK) (hk : k ≠ .norow) {n : Str} {a : Addr} {pn : List (Addr × Obj)} {oe : Obj} {cls : Value} {d : Option Addr} {k1 k2 : Nat} {p1 p2 p3 p4 p5 : Pos} (hz : Zc cls d oe) (hf : ∃ vs, oe.data = .fields vs)
    (hn : PE (X.suite a ((a, oe) :: pn)) (.Name n p4) (tVar 1)) (hb : attributeBase (.Name n p4) k.field (X.suite a ((a, oe) :: pn)).env (eval (.Name n p4) (X.suite a ((a, oe) :: pn)).env) = eval (.Name n p4) (X.suite a ((a, oe) :: pn)).env)
    (hs : starEach [.Constant (.str k.word) k1 p1, .Attribute (.Name n p4) k.field p5] (X.suite a ((a, oe) :: pn)).env = (false, eval (.Constant (.str k.word) k1 p1) (X.suite a ((a, oe) :: pn)).env) :: starEach [.Attribute (.Name n p4) k.field p5] (X.suite a ((a, oe) :: pn)).env)
    (hs2 : starEach [.Attribute (.Name n p4) k.field p5] (X.suite a ((a, oe) :: pn)).env = (false, eval (.Attribute (.Name n p4) k.field p5) (X.suite a ((a, oe) :: pn)).env) :: starEach [] (X.suite a ((a, oe) :: pn)).env) :
    PSs (X.suite a ((a, oe) :: pn)) [.Return (some (.Tuple [.Constant (.str k.word) k1 p1, .Attribute (.Name n p4) k.field p5] k2 p2)) p3] (suK X.K k a cls d) :=
  pss_imp (pss_one (ps_ret (pe_tup (pa_cons pe_str (pa_cons (pe_xf (g.xf k) (g.nof k hk) hz hf hn hb) pa_nil hs2) hs)))) fun D σ H h => by
    obtain ⟨h1, ec, h⟩ := h
    rcases h with ⟨z, _⟩ | ⟨_, dd, v, e1, e2, h⟩
    · exact absurd z hk
    · refine ⟨.ref a, h1, rfl, ec, dd, [(k.field, v)], v, e1, e2, ?_, by show 2 ≤ sizeLine; decide, h⟩
      simp [List.lookup]
end
end Yd
set_option Elab.async false
set_option linter.all false
set_option maxRecDepth 100000
set_option maxHeartbeats 2000000
/-! # _law_heard, _law_word -/
namespace Yd
open PySem PySem.Spec PyProof.Rows L2 LamX
section
variable {X : Cx}
abbrev cxH (X : Cx) (x : Str) (st : Stmt) (gg : Addr) (cdg : Value) (s : Shared) (H : Hp) : Cx := (cxOf C8.CX0 X.prog X.w X.K X.mg X.base ["_law_call", "error"] x (defScope st) gg cdg X.A X.stack s H C8.E0).nox
theorem sc_heard : FnScope ["_law_call", "error"] ["_law_call"] (defScope s__law_heard) := ⟨rfl, rfl, rfl, by decide +kernel, rfl, by decide +kernel, by decide +kernel⟩
theorem sc_word : FnScope ["_law_call", "error"] ["_law_call"] (defScope s__law_word) := ⟨rfl, rfl, rfl, by decide +kernel, rfl, by decide +kernel, by decide +kernel⟩
theorem gives_body {x q : Str} {sg : Scope} {gg : Addr} {cdg : Value} {f c' : Addr} {s : Shared} {H : Hp} {Q : VK} {tl : XK → Hp → VK → Prop} {ks : List EK} {h₀ : ExceptHandler} {hds : List ExceptHandler} {p1 p2 p3 p4 p5 : Pos} (g : G X.K X.mg)
    (act : ∀ (W : WX) (pn : List (Addr × Obj)) (xe : Value → Shared → Prop) (E : XK) (p1 p2 : Pos), Takes ((cxOf C8.CX0 X.prog X.w X.K X.mg X.base ["_law_call", "error"] x sg gg cdg X.A X.stack s H C8.E0).tr pn xe) W → (∀ cls d σ' H', E cls d H' → W cls d σ' H') →
      PE ((cxOf C8.CX0 X.prog X.w X.K X.mg X.base ["_law_call", "error"] x sg gg cdg X.A X.stack s H C8.E0).tr pn xe) (.Call (.Name "_law_call" p1) [] [] p2) (fun σZ HZ Q => σZ[0]? = some (some (.ref f)) ∧ HZ c' = some (CodeO c' q) ∧ tl E HZ Q))
    (hc : H c' = some (CodeO c' q)) (h : TTh X.K ks tl H Q) (hk : sg.names.lookup ("error" : Str) = some .local)
    (hh : HdsAs ((cxOf C8.CX0 X.prog X.w X.K X.mg X.base ["_law_call", "error"] x sg gg cdg X.A X.stack s H C8.E0).nox) "error" (h₀ :: hds) (ks.map fun k => (.ref (ckK X.K k), suK X.K k)))
    (hs : ∀ env : Env, starEach [.Call (.Name "_law_call" p1) [] [] p2] env = (false, eval (.Call (.Name "_law_call" p1) [] [] p2) env) :: starEach [] env) :
    ∃ t, PSs (cxOf C8.CX0 X.prog X.w X.K X.mg X.base ["_law_call", "error"] x sg gg cdg X.A X.stack s H C8.E0).nox [.Try [.Return (some (.List [.Call (.Name "_law_call" p1) [] [] p2] p3)) p4] (h₀ :: hds) [] [] p5] t ∧ t { nx := fun _ H' => Q .non H', rt := Q } (L2.start ["_law_call", "error"] [.ref f]) H := by
  refine ⟨_, pss_one (ps_try_asM (i := 1) (tb := fun W D σ H => ∃ Ech : XK, (∀ cls d σ' H', Ech cls d H' → σ'.length = 2 → W cls d σ' H') ∧ σ[0]? = some (some (.ref f)) ∧ H c' = some (CodeO c' q) ∧
      tl Ech H fun v H1 => ([v] : List V).length ≤ sizeLine ∧ ∀ p, H1 p = none → D.rt (.ref p) (upd H1 p (.lst [v]))) rfl rfl (show (["_law_call", "error"] : List Str).Nodup by decide) rfl hk L2.takes0 (fun W pn xe tk _ => ?_) hh), ?_⟩
  · refine ⟨fun pins s' σ H' D I h' => ?_⟩
    obtain ⟨Ech, hW, h1, h2, h3⟩ := h'
    have hp := act _ pn xe Ech p1 p2 (takes_len tk) hW
    have hq := pss_one (ps_ret (pos := p4) (pe_lst (pos := p3) (pa_cons hp pa_nil (hs _))))
    exact hq.run pins s' σ H' D I ⟨h1, h2, h3⟩
  · exact ⟨EH X.K ks Q, fun cls d σ' H' e hl => eh_wish g hl ks e, rfl, hc, h⟩
theorem heard_gives (g : G X.K X.mg) (gg : Addr) (cdg : Value) (q : Str) : GivesTo X ["_law_call", "error"] "_law_heard" (defScope s__law_heard) gg cdg (defBody s__law_heard) "_law_call" q (TTh X.K [.norow, .index, .param, .great]) := by
  intro f c' s H Q tl act hc h
  exact gives_body g act hc h rfl
    (.cons ⟨rfl, by decide, .inl (g_NoRow g)⟩ (fun a oe cls d pn _ _ => su_none)
      (.cons ⟨rfl, by decide, .inl (g_BadIndex g)⟩ (fun a oe cls d pn hz hf => su_val (X := cxH X "_law_heard" s__law_heard gg cdg s H) g .index (by decide) hz hf (pv 1) rfl rfl rfl)
        (.cons ⟨rfl, by decide, .inl (g_BadParameter g)⟩ (fun a oe cls d pn hz hf => su_val (X := cxH X "_law_heard" s__law_heard gg cdg s H) g .param (by decide) hz hf (pv 1) rfl rfl rfl)
          (.cons ⟨rfl, by decide, .inl (g_TooGreat g)⟩ (fun a oe cls d pn hz hf => su_val (X := cxH X "_law_heard" s__law_heard gg cdg s H) g .great (by decide) hz hf (pv 1) rfl rfl rfl) .nil)))) fun _ => rfl
theorem word_gives (g : G X.K X.mg) (gg : Addr) (cdg : Value) (q : Str) : GivesTo X ["_law_call", "error"] "_law_word" (defScope s__law_word) gg cdg (defBody s__law_word) "_law_call" q (TTh X.K [.units, .world, .param, .great]) := by
  intro f c' s H Q tl act hc h
  exact gives_body g act hc h rfl
    (.cons ⟨rfl, by decide, .inl (g_BadUnits g)⟩ (fun a oe cls d pn hz hf => su_val (X := cxH X "_law_word" s__law_word gg cdg s H) g .units (by decide) hz hf (pv 1) rfl rfl rfl)
      (.cons ⟨rfl, by decide, .inl (g_BadWorld g)⟩ (fun a oe cls d pn hz hf => su_val (X := cxH X "_law_word" s__law_word gg cdg s H) g .world (by decide) hz hf (pv 1) rfl rfl rfl)
        (.cons ⟨rfl, by decide, .inl (g_BadParameter g)⟩ (fun a oe cls d pn hz hf => su_val (X := cxH X "_law_word" s__law_word gg cdg s H) g .param (by decide) hz hf (pv 1) rfl rfl rfl)
          (.cons ⟨rfl, by decide, .inl (g_TooGreat g)⟩ (fun a oe cls d pn hz hf => su_val (X := cxH X "_law_word" s__law_word gg cdg s H) g .great (by decide) hz hf (pv 1) rfl rfl rfl) .nil)))) fun _ => rfl
end

/-! ## x(lambda: ..) on plain data -/
def dHeard (ks : List EK) (tx : RX) : RE := fun ρ Q => tx ρ (fun d ρ' => Q (.list [d]) ρ') (fun x ρ' => x.1 ∈ ks ∧ Q (exD x) ρ')
/-- what a def with lambdas knows of its code object -/
def LamF (X : Cx) (F : Fm) : Prop := ∃ c P, TabB X.base X.mg c P ∧ X.env.code = .ref c ∧ (P, X.env.qual ++ "<lambda>") ∈ F.T ∧ ∀ p ∈ F.T, p.1 = P → p.2 = X.env.qual ++ "<lambda>"
section
variable {X : Cx} {F : Fm} {x : Str} {st : Stmt} {fd : FuncData} {ks : List EK} {params : Arguments} {body : Expr} {scope : Scope} {tx : RX} {k : Nat} {p lpos pos : Pos}
theorem de_lam (Fn : Fun X.K x x st (He.ga X.K x) fd) (Sg : FnScope ["_law_call", "error"] ["_law_call"] (defScope st)) (hb : L2.Binds X.K fd ["_law_call"] []) (hva : Vis (defScope st) "_law_call") (hm : X.mg x = some (.ref (He.ga X.K x))) (hg : Gl X x)
    (hG : ∀ gg cdg q, GivesTo X ["_law_call", "error"] x (defScope st) gg cdg (defBody st) "_law_call" q (TTh X.K ks)) (lf : LamF X F) (hr : Room (k + 2) X.A) (L : LamS X.env.scope scope) (hdef : defaultsOf params X.env = ([], []))
    (hbind : ∀ (q : Str) (cl : List (Str × Addr)) (pm cv ctv : Value), bindArgs (PySem.W.kla_fn "<lambda>" q params body scope cl pm cv ctv) ⟨[], []⟩ = pure [])
    (hbody : ∀ (A : Around) (outer : List Env) (s : Shared) (H : Hp) (E : XK) (f c' : Addr), Room k (A.deeper (lamEnv X scope s.heap.objs.size f c')) → DX (lamCx X A outer s H E scope f c') (ckK X.K) F (fun cls d _ H => E cls d H) body tx)
    (hdb : (x == ("__debug__" : Str)) = false := by decide) : DE X F (.Call (.Name x p) [.Lambda params body scope lpos] [] pos) (dHeard ks tx) := by
  obtain ⟨oc, od, kV, doc, pm, an, cdv, ct, osl, rfl, lk, hcd⟩ := Fn.ex
  obtain ⟨c, P, TB, hcode, hmT, hu⟩ := lf
  refine pe_imp (pe_lamcall (T := F.T) (t := fun E => liftX X (ckK X.K) F (fun cls d _ H => E cls d H) tx) hg hm Fn.2 lk hcd hb Sg rfl hva (hG _ _ _) TB hcode hmT hu hr L hdef hbind (fun A outer s H E f c' hr2 => hbody A outer s H E f c' hr2) hdb) fun σ H Q ⟨Hs, ρ, Q2, R, q, z⟩ => ?_
  refine ⟨R.tab, fun H1 eN T1 => ?_⟩
  have gr : Grow F.T Hs H Hs H1 := ⟨eN, Same.refl _, fun b o e => eN b o (R.sub b o e) fun ps z => R.ntb b ps (by rw [e, z]), R.ntb, fun _ _ => rfl, T1⟩
  refine ⟨Hs, ρ, _, _, R.grow gr, q, fun d ρ' qd v H' Hs' R' S' iv => ⟨by show 1 ≤ sizeLine; decide, fun l hl => ?_⟩, fun y ρ' qy cls dd H' Hs' R' S' iy => ?_⟩
  · have g2 := Grow.laid (o := .lst [v]) R'.sub R'.ntb R'.tab hl (fun _ z => nomatch z)
    exact z _ ρ' qd (.ref l) _ _ (R'.grow g2) (S'.trans g2.shr) (.lst upd_same (.cons (iv.mono g2.shr) .nil))
  · obtain ⟨hk, qy⟩ := qy
    cases iy with
    | no =>
      refine ⟨.norow, hk, rfl, .inl ⟨rfl, fun t ht => ?_⟩⟩
      have g2 := Grow.laid (o := .tup [.str "none"]) R'.sub R'.ntb R'.tab ht (fun _ z => nomatch z)
      exact z _ ρ' qy (.ref t) _ _ (R'.grow g2) (S'.trans g2.shr) (.tup upd_same (.cons (.str _) .nil))
    | @val k dd v xd hne hd hv =>
      refine ⟨k, hk, rfl, .inr ⟨hne, dd, v, rfl, hd, fun t ht => ?_⟩⟩
      have g2 := Grow.laid (o := .tup [.str k.word, v]) R'.sub R'.ntb R'.tab ht (fun _ z => nomatch z)
      have e : exD (k, xd) = .tuple [.str k.word, xd] := by cases k <;> first | rfl | exact absurd rfl hne
      rw [e] at qy
      exact z _ ρ' qy (.ref t) _ _ (R'.grow g2) (S'.trans g2.shr) (.tup upd_same (.cons (.str _) (.cons (hv.mono g2.shr) .nil)))
theorem de_heard (g : G X.K X.mg) (lf : LamF X F) (hr : Room (k + 2) X.A) (L : LamS X.env.scope scope)
    (hbody : ∀ (A : Around) (outer : List Env) (s : Shared) (H : Hp) (E : XK) (f c' : Addr), Room k (A.deeper (lamEnv X scope s.heap.objs.size f c')) → DX (lamCx X A outer s H E scope f c') (ckK X.K) F (fun cls d _ H => E cls d H) body tx)
    (hg : Gl X "_law_heard" := by rfl) (hdef : defaultsOf params X.env = ([], []) := by rfl)
    (hbind : ∀ (q : Str) (cl : List (Str × Addr)) (pm cv ctv : Value), bindArgs (PySem.W.kla_fn "<lambda>" q params body scope cl pm cv ctv) ⟨[], []⟩ = pure [] := by intros; rfl) :
    DE X F (.Call (.Name "_law_heard" p) [.Lambda params body scope lpos] [] pos) (dHeard [.norow, .index, .param, .great] tx) := by
  obtain ⟨fd, Fn⟩ := d__law_heard g
  exact de_lam Fn sc_heard (Fn.binds fun _ _ _ _ _ _ us hl => match us, hl with | [_], _ => rfl) (.inl rfl) (g__law_heard g) hg (fun gg cdg q => heard_gives g gg cdg q) lf hr L hdef hbind hbody
theorem de_word (g : G X.K X.mg) (lf : LamF X F) (hr : Room (k + 2) X.A) (L : LamS X.env.scope scope)
    (hbody : ∀ (A : Around) (outer : List Env) (s : Shared) (H : Hp) (E : XK) (f c' : Addr), Room k (A.deeper (lamEnv X scope s.heap.objs.size f c')) → DX (lamCx X A outer s H E scope f c') (ckK X.K) F (fun cls d _ H => E cls d H) body tx)
    (hg : Gl X "_law_word" := by rfl) (hdef : defaultsOf params X.env = ([], []) := by rfl)
    (hbind : ∀ (q : Str) (cl : List (Str × Addr)) (pm cv ctv : Value), bindArgs (PySem.W.kla_fn "<lambda>" q params body scope cl pm cv ctv) ⟨[], []⟩ = pure [] := by intros; rfl) :
    DE X F (.Call (.Name "_law_word" p) [.Lambda params body scope lpos] [] pos) (dHeard [.units, .world, .param, .great] tx) := by
  obtain ⟨fd, Fn⟩ := d__law_word g
  exact de_lam Fn sc_word (Fn.binds fun _ _ _ _ _ _ us hl => match us, hl with | [_], _ => rfl) (.inl rfl) (g__law_word g) hg (fun gg cdg q => word_gives g gg cdg q) lf hr L hdef hbind hbody
end
end Yd
set_option Elab.async false
set_option linter.all false
set_option maxRecDepth 100000
set_option maxHeartbeats 0
/-! # The head -/
namespace Yd
open PySem PySem.Spec PyProof.Rows L2 LamX
/-! ## a Hook whose part tells of the statics, too -/
abbrev KY (g : Addr → Option Obj) : PySem.W.Frag := He.frT g (cStatics :: He.asD g 5)
def obY (g : Addr → Option Obj) : He.AlX := (He.obsT fa fn [] (KY g), exK (KY g) && He.tabsB g tf (KY g))
theorem saysY {w : World} {h : Heap} (e : obY h.get? = He.valX fn [] w) : He.SaysX fa fn [] tf exK w h (KY h.get?) := by
  have e1 := congrArg (fun z : He.AlX => z.1) e
  have e2 : (exK (KY h.get?) && He.tabsB h.get? tf (KY h.get?)) = true := congrArg (fun z : He.AlX => z.2) e
  rw [Bool.and_eq_true] at e2
  have at_ : ∀ p ∈ tf, PySem.W.codeHdIn (KY h.get?) (He.cT (KY h.get?) p).1 (He.cT (KY h.get?) p).2 = true ∧ ∃ o, h.get? (He.cT (KY h.get?) p).2 = some o ∧ He.emptyTab o = true := by
    intro p hp
    have z := List.all_eq_true.mp e2.2 p hp
    rw [Bool.and_eq_true] at z
    refine ⟨z.1, ?_⟩
    have z2 := z.2
    split at z2
    · rename_i o ho
      exact ⟨o, ho, z2⟩
    · cases z2
  refine ⟨e1, e2.1, fun p hp => (at_ p hp).1, fun p hp => ?_, fun p hp => ?_⟩
  · obtain ⟨o, q, z⟩ := (at_ p hp).2
    exact He.frT_none q z
  · obtain ⟨o, q, z⟩ := (at_ p hp).2
    rw [q, He.emptyTab_eq z]
def hk : PySem.W.Hook where
  α := He.AlX
  obs := fun s => obY s.heap.get?
  val := fun w => He.valX fn [] w
  says := fun w h => ∃ K : PySem.W.Frag, K.In h ∧ He.SaysX fa fn [] tf exK w h K
  of := fun _ _ e => ⟨_, He.frT_in, saysY e⟩
  keeps := fun _ _ _ ⟨K, hK, c⟩ k => ⟨K, PySem.W.Frag.In.keeps hK k, ⟨c.t, c.more, c.hd, c.out, fun p hp => k _ _ (c.empty p hp)⟩⟩
abbrev R0 : PySem.W.OpenRow := PySem.W.OpenLaw.row PySem.Challenge.rw_stairyard_k45_whole_least_and_most_more
abbrev qv : Program := PySem.W.view R0.prog [68]
def ob (s : PySem.W.SharedT) : He.AlX := obY (HandSHeadRun.getT s)
theorem ob_eq (s : PySem.W.SharedT) : ob s = hk.obs s.abs := by
  have e : HandSHeadRun.getT s = s.abs.heap.get? := funext (HandSHeadRun.getT_eq s)
  show obY (HandSHeadRun.getT s) = obY s.abs.heap.get?
  rw [e]
def nm0 : List Str := ["YardError", "BadUnits", "BadWorld", "BadIndex", "BadParameter", "NoRow", "TooGreat", "MOST_UNITS", "MOST_RATIO", "is_from", "need_units", "MOST_PIECES", "is_row", "zeros_of", "stair_from", "row_from", "up_stair", "down_stair", "MOST_PLACES", "MOST_STEPS", "is_deed", "is_step", "need_world", "counts_of", "counts_at", "first_walks", "great_walks", "ring_from", "asking_ring", "ring_found"]
def nm1 : List Str := ["need_step", "with_deed", "dropped", "greatest_over", "greatest_rings", "least_more", "most_more", "_law_mixed", "_law_begin", "_law_draw", "_law_units", "_law_sizes", "_law_row", "_law_beside", "_law_stair", "_law_row_of", "_law_inside", "_law_some_world", "_law_count", "_law_further", "_law_leading", "_law_needs_of", "_law_like", "_law_put_in", "_law_lives", "_law_heard", "_law_rows_near", "_law_more_right", "_law_word", "_law_by_rows"]
def nms : List Str := nm0 ++ nm1
theorem run (w : World) : HandSHeadRun.RunEq R0 qv hk ob 4000 nms w := by
  intro os
  kernel_rfl
end Yd
set_option Elab.async false
set_option linter.all false
set_option maxRecDepth 100000
set_option maxHeartbeats 1000000
/-! # What each def does, on plain data -/
namespace Yd
open PySem PySem.Spec PyProof.Rows L2 LamX
open Mt (Deed Stp Wd)

/-! ## plain data of what the defs handle -/
abbrev ti (xs : List Int) : PyData := .tuple (xs.map PyData.int)
abbrev li (xs : List Int) : PyData := .list (xs.map PyData.int)
def eD : Deed → PyData
  | .pass => .tuple [.str "pass"]
  | .ask r => .tuple [.str "ask", ti r]
  | .bring r => .tuple [.str "bring", ti r]
def eS (s : Stp) : PyData := .tuple [.int (s.a : Nat), eD s.d, .int (s.b : Nat)]
def eW (w : Wd) : PyData := .tuple [.int (w.n : Nat), .tuple (w.st.map eS)]
def eL (l : Mt.Ln) : PyData := .dict (l.map fun e => (PyData.int (e.1 : Nat), PyData.tuple [.int e.2.1, ti e.2.2]))

/-! ## the checks, on any data -/
def isFrom (v : PyData) (lo hi : Int) : Bool := match v with
  | .int i => decide (lo ≤ i) && decide (i ≤ hi)
  | _ => false
def okUnits (v : PyData) : Bool := match v with
  | .tuple ds => decide (ds.length ≤ 3) && ds.all fun d => isFrom d 2 10
  | _ => false
def isRow (n : Nat) (v : PyData) : Bool := match v with
  | .tuple ds => decide (ds.length = n + 1) && ds.all fun d => isFrom d 0 (10 ^ 60)
  | _ => false
def isDeed (n : Nat) (v : PyData) : Bool := match v with
  | .tuple [.str x] => decide (x = "pass")
  | .tuple [.str x, r] => (decide (x = "ask") || decide (x = "bring")) && isRow n r
  | _ => false
def isStep (n : Nat) (m : Int) (v : PyData) : Bool := match v with
  | .tuple [a, d, b] => isFrom a 0 (m - 1) && (isDeed n d && isFrom b 0 (m - 1))
  | _ => false

def sp_is_from : Spc := fun ds Q _ => ∃ v lo hi, ds = [v, .int lo, .int hi] ∧ Q (.bool (isFrom v lo hi))
def sp_need_units : Spc := fun ds Q R => ∃ v, ds = [v] ∧ (okUnits v = true → Q v) ∧ (okUnits v = false → R (.units, v))
def sp_is_row : Spc := fun ds Q _ => ∃ us v, ds = [.tuple us, v] ∧ Q (.bool (isRow us.length v))
def sp_zeros_of : Spc := fun ds Q _ => ∃ us : List Int, ds = [ti us] ∧ us.length ≤ 3 ∧ Q (ti (Mt.zeros us))
def Sm (xs : List Int) : Prop := ∀ x ∈ xs, -(2 ^ 64) < x ∧ x < 2 ^ 64
def sp_stair_from : Spc := fun ds Q _ => ∃ us row : List Int, ds = [ti us, ti row] ∧ us.length ≤ 3 ∧ row.length = us.length + 1 ∧ Sm us ∧ Q (ti (Mt.stair us row))
def sp_row_from : Spc := fun ds Q _ => ∃ us row : List Int, ds = [ti us, ti row] ∧ us.length ≤ 3 ∧ row.length = us.length + 1 ∧ Sm us ∧ Q (ti (Mt.rowOf us row))
def sp_up_stair : Spc := fun ds Q _ => ∃ us row : List Int, ds = [ti us, li row] ∧ us.length ≤ 3 ∧ row.length = us.length + 1 ∧ Sm us ∧ Q (ti (Mt.up us row))
def sp_down_stair : Spc := fun ds Q _ => ∃ us row : List Int, ds = [ti us, li row] ∧ us.length ≤ 3 ∧ row.length = us.length + 1 ∧ (∀ u ∈ us, 0 < u ∧ u < 1000) ∧ Mt.Pos row ∧ Q (ti (Mt.down us row))
def sp_is_deed : Spc := fun ds Q _ => ∃ us v, ds = [.tuple us, v] ∧ Q (.bool (isDeed us.length v))
def sp_is_step : Spc := fun ds Q _ => ∃ us m v, ds = [.tuple us, .int m, v] ∧ Q (.bool (isStep us.length m v))
/-- the world as the package takes it; what else it might be told of -/
def sp_need_world : Spc := fun ds Q R => ∃ u v, ds = [u, v] ∧ ((okUnits u = false ∧ R (.units, u)) ∨
  (okUnits u = true ∧ ((v = .none ∧ R (.world, .tuple [])) ∨ ∃ us n st, u = .tuple us ∧ v = .tuple [.int n, .tuple st] ∧ 1 ≤ n ∧ n ≤ 8 ∧ st.length ≤ 14 ∧ (∀ s ∈ st, isStep us.length n s = true) ∧ Q v)))
def Usm (us : List Int) : Prop := us.length ≤ 3 ∧ ∀ u ∈ us, 2 ≤ u ∧ u ≤ 10
/-- a world that the law draws, or makes of one -/
structure Wsm (us : List Int) (w : Wd) : Prop where
  un : Usm us
  ok : Mt.Wok us w
  n : w.n ≤ 50
  st : w.st.length ≤ 100
def sp_counts_of : Spc := fun ds Q _ => ∃ us d, ds = [ti us, eD d] ∧ Usm us ∧ Mt.Dok us d ∧ Q (ti (Mt.counts us d))
def cnts (us : List Int) (st : List Stp) (k : Nat) : List Int := st.map fun s => Mt.cnt us s.d k
def sp_counts_at : Spc := fun ds Q _ => ∃ us w k, ds = [ti us, eW w, .int (k : Nat)] ∧ Wsm us w ∧ k ≤ us.length ∧ Q (li (cnts us w.st k))
/-- the steps and what they count -/
def zed (st : List Stp) (cs : List Int) : Mt.Es := List.zipWith (fun s c => (s.a, c, s.b)) st cs
structure Gsm (w : Wd) (cs : List Int) : Prop where
  pos : 0 < w.n
  n : w.n ≤ 50
  st : w.st.length ≤ 100
  be : ∀ s ∈ w.st, s.a < w.n ∧ s.b < w.n
  cs : cs.length = w.st.length
def Rch (st : List Stp) (p q : Nat) : Prop := Mt.Rc (fun a _ b => ∃ s ∈ st, s.a = a ∧ s.b = b) p q
/-- which places 0 reaches -/
def sp_first_walks : Spc := fun ds Q _ => ∃ w, ds = [eW w] ∧ (0 < w.n ∧ w.n ≤ 50 ∧ w.st.length ≤ 100 ∧ ∀ s ∈ w.st, s.a < w.n ∧ s.b < w.n) ∧
  ∀ (kvs : List (PyData × PyData)) (ks : List Nat), kvs.map (·.1) = ks.map (fun (k : Nat) => PyData.int (k : Int)) → ks.Nodup → (∀ p, p ∈ ks ↔ Rch w.st 0 p) → Q (.dict kvs)
def sp_great_walks : Spc := fun ds Q _ => ∃ w cs st, ds = [eW w, li cs, .int (st : Nat)] ∧ Gsm w cs ∧ Q (.list ((Mt.gw (zed w.st cs) w.n st).map eL))
def sp_ring_from : Spc := fun ds Q _ => ∃ w cs p, ds = [eW w, li cs, .int (p : Nat)] ∧ Gsm w cs ∧ (¬ Mt.ringAt (zed w.st cs) w.n p → Q .none) ∧ (Mt.ringAt (zed w.st cs) w.n p → ∀ d, isNoneD d = false → Q d)
def sp_asking_ring : Spc := fun ds Q _ => ∃ w cs, ds = [eW w, li cs] ∧ Gsm w cs ∧ ((¬ ∃ p, Rch w.st 0 p ∧ Mt.ringAt (zed w.st cs) w.n p) → Q .none) ∧
  ((∃ p, Rch w.st 0 p ∧ Mt.ringAt (zed w.st cs) w.n p) → ∀ a b, Q (.tuple [a, b]))
def sp_ring_found : Spc := fun ds Q _ => ∃ us w, ds = [ti us, eW w] ∧ Wsm us w ∧ (Mt.Lives us w → Q .none) ∧ (¬ Mt.Lives us w → ∀ d, isNoneD d = false → Q d)
/-- a world, well made; an index of any kind -/
def okWorld (n : Nat) (v : PyData) : Prop := ∃ m st, v = .tuple [.int m, .tuple st] ∧ 1 ≤ m ∧ m ≤ 8 ∧ st.length ≤ 14 ∧ ∀ s ∈ st, isStep n m s = true
def stLen (v : PyData) : Nat := match v with
  | .tuple [_, .tuple st] => st.length
  | _ => 0
def sp_need_step : Spc := fun ds Q R => ∃ u v i, ds = [u, v, i] ∧ ((okUnits u = false ∧ R (.units, u)) ∨ (okUnits u = true ∧ ((v = .none ∧ R (.world, .tuple [])) ∨ ∃ us, u = .tuple us ∧ okWorld us.length v ∧
  (isFrom i 0 ((stLen v : Nat) - 1) = true → Q i) ∧ (isFrom i 0 ((stLen v : Nat) - 1) = false → R (.index, i)))))
def sp_with_deed : Spc := fun ds Q R => ∃ u v i d, ds = [u, v, i, d] ∧ ((okUnits u = false ∧ R (.units, u)) ∨ (okUnits u = true ∧ ((v = .none ∧ R (.world, .tuple [])) ∨ ∃ us, u = .tuple us ∧ okWorld us.length v ∧
  ((isFrom i 0 ((stLen v : Nat) - 1) = false ∧ R (.index, i)) ∨ (isFrom i 0 ((stLen v : Nat) - 1) = true ∧ ((isDeed us.length d = false ∧ R (.param, d)) ∨ (isDeed us.length d = true ∧
    ∃ m st k a o b, v = .tuple [.int m, .tuple st] ∧ i = .int (k : Nat) ∧ st[k]? = some (.tuple [a, o, b]) ∧ ((m + 1 > 8 ∧ R (.great, .int 8)) ∨ (m + 1 ≤ 8 ∧ ((st.length + 1 > 14 ∧ R (.great, .int 14)) ∨ (st.length + 1 ≤ 14 ∧
      Q (.tuple [.int (m + 1), .tuple ((st.take k ++ [.tuple [a, o, .int m]] ++ st.drop (k + 1)) ++ [.tuple [.int m, d, b]])]))))))))))))
def sp_dropped : Spc := fun ds Q _ => (∃ xs k, ds = [.tuple xs, .int (k : Nat)] ∧ k < xs.length ∧ xs.length ≤ 1000 ∧ Q (.tuple (xs.take k ++ xs.drop (k + 1)))) ∨ ∃ xs k, ds = [.list xs, .int (k : Nat)] ∧ k < xs.length ∧ xs.length ≤ 1000 ∧ Q (.list (xs.take k ++ xs.drop (k + 1)))
def sp_greatest_over : Spc := fun ds Q R => ∃ us w i s k, ds = [ti us, eW w, .int (i : Nat), .int (k : Nat)] ∧ Wsm us w ∧ w.st[i]? = some s ∧ k ≤ us.length ∧ (Mt.OthW us w i k → R (.norow, .none)) ∧
  (¬ Mt.OthW us w i k → ((¬ Rch w.st 0 s.a ∨ ¬ Rch (Mt.bare w.st i) s.b s.a) → Q .none) ∧ (Rch w.st 0 s.a → Rch (Mt.bare w.st i) s.b s.a → ∀ g, Mt.Top us w i s k g → Q (.int g)))
def sp_greatest_rings : Spc := fun ds Q R => ∃ us w i s, ds = [ti us, eW w, .int (i : Nat)] ∧ Wsm us w ∧ w.st[i]? = some s ∧ ((∃ k ≤ us.length, Mt.OthW us w i k) → R (.norow, .none)) ∧
  ((∀ k ≤ us.length, ¬ Mt.OthW us w i k) → ((¬ Rch w.st 0 s.a ∨ ¬ Rch (Mt.bare w.st i) s.b s.a) → Q .none) ∧
    (Rch w.st 0 s.a → Rch (Mt.bare w.st i) s.b s.a → ∀ gs : List Int, gs.length = us.length + 1 → (∀ k ≤ us.length, Mt.Top us w i s k (gs.getD k 0)) → Q (li gs)))
/-- the package's checks let this world through -/
structure Wlaw (us : List Int) (w : Wd) : Prop where
  sm : Wsm us w
  n : w.n ≤ 8
  st : w.st.length ≤ 14
  row : ∀ s ∈ w.st, isDeed us.length (eD s.d) = true
def sp_least_more : Spc := fun ds Q R => ∃ u v i, ds = [u, v, i] ∧ ((okUnits u = false ∧ R (.units, u)) ∨ (okUnits u = true ∧ v = .none ∧ R (.world, .tuple [])) ∨ ∃ us w, u = ti us ∧ v = eW w ∧ Wlaw us w ∧
  ((isFrom i 0 ((w.st.length : Nat) - 1) = false ∧ R (.index, i)) ∨ ∃ k s, i = .int (k : Nat) ∧ w.st[k]? = some s ∧ ((∃ j ≤ us.length, Mt.OthW us w k j) → R (.norow, .none)) ∧
    ((∀ j ≤ us.length, ¬ Mt.OthW us w k j) → ((¬ Rch w.st 0 s.a ∨ ¬ Rch (Mt.bare w.st k) s.b s.a) → Q (ti (Mt.zeros us))) ∧
      (Rch w.st 0 s.a → Rch (Mt.bare w.st k) s.b s.a → ∀ gs : List Int, gs.length = us.length + 1 → (∀ j ≤ us.length, Mt.Top us w k s j (gs.getD j 0)) → Q (ti (Mt.rowOf us (Mt.up us gs)))))))
def sp_most_more : Spc := fun ds Q R => ∃ u v i, ds = [u, v, i] ∧ ((okUnits u = false ∧ R (.units, u)) ∨ (okUnits u = true ∧ v = .none ∧ R (.world, .tuple [])) ∨ ∃ us w, u = ti us ∧ v = eW w ∧ Wlaw us w ∧
  ((isFrom i 0 ((w.st.length : Nat) - 1) = false ∧ R (.index, i)) ∨ ∃ k s, i = .int (k : Nat) ∧ w.st[k]? = some s ∧ (¬ Mt.Lives us w → R (.norow, .none)) ∧
    (Mt.Lives us w → ((¬ Rch w.st 0 s.a ∨ ¬ Rch (Mt.bare w.st k) s.b s.a) → Q .none) ∧
      (Rch w.st 0 s.a → Rch (Mt.bare w.st k) s.b s.a → ∀ gs : List Int, gs.length = us.length + 1 → (∀ j ≤ us.length, Mt.Top us w k s j (gs.getD j 0)) → Q (ti (Mt.rowOf us (Mt.down us (gs.map fun x => -x))))))))

/-! ## the law's own defs -/
def sp__law_mixed : Spc := fun ds Q _ => ∃ c k : Int, ds = [.int c, .int k] ∧ 0 ≤ k ∧ k < 2 ^ 62 ∧ ∀ r : Int, Q (.int r)
/-- how many draws there may be -/
abbrev lim : Nat := 2 ^ 40
def sp__law_draw : SpcS := fun ds g Q => ∃ l : Int, ds = [.int l] ∧ 0 < l ∧ l < 2 ^ 29 ∧ g + 1 ≤ lim ∧ ∀ r : Int, 0 ≤ r → r < l → Q (.int r) (g + 1)
def sp__law_units : SpcS := fun ds g Q => ds = [] ∧ g + 3 ≤ lim ∧ ∀ (us : List Int) (g' : Nat), us.length ≤ 2 → (∀ u ∈ us, 2 ≤ u ∧ u ≤ 4) → g' ≤ g + 3 → Q (ti us) g'
def sizes (us : List Int) : List Int := us.reverse.foldl (fun acc u => (acc.headD 0 * u) :: acc) [1]
def sp__law_sizes : Spc := fun ds Q _ => ∃ us : List Int, ds = [ti us] ∧ us.length ≤ 3 ∧ (∀ u ∈ us, 2 ≤ u ∧ u ≤ 10) ∧ ∀ ss : List Int, ss.length = us.length + 1 → (∀ s ∈ ss, 1 ≤ s ∧ s ≤ 1000) → Q (ti ss)
def sp__law_row : SpcS := fun ds g Q => ∃ (us : List Int) (m : Int), ds = [ti us, .int m] ∧ us.length ≤ 3 ∧ (∀ u ∈ us, 2 ≤ u ∧ u ≤ 10) ∧ 0 ≤ m ∧ m ≤ 1000 ∧ g + 8 ≤ lim ∧
  ∀ (r : List Int) (g' : Nat), r.length = us.length + 1 → (∀ x ∈ r, 0 ≤ x ∧ x ≤ 1000) → g' ≤ g + 8 → Q (ti r) g'
def sp__law_beside : Spc := fun ds Q _ => ∃ a b : List Int, ds = [ti a, ti b] ∧ a.length = b.length ∧ a.length ≤ 100 ∧ Q (ti (List.zipWith (· + ·) a b))
def sp__law_stair : Spc := sp_stair_from
def sp__law_row_of : Spc := fun ds Q _ => ∃ us st : List Int, ds = [ti us, li st] ∧ us.length ≤ 3 ∧ st.length = us.length + 1 ∧ Sm us ∧ Q (ti (Mt.rowOf us st))
open Classical in
noncomputable def leB (a b : List Int) : Bool := decide (Mt.Le a b)
def sp__law_inside : Spc := fun ds Q _ => ∃ us a b : List Int, ds = [ti us, ti a, ti b] ∧ us.length ≤ 3 ∧ a.length = us.length + 1 ∧ b.length = us.length + 1 ∧ Sm us ∧ Q (.bool (leB (Mt.stair us a) (Mt.stair us b)))
def sp__law_some_world : SpcS := fun ds g Q => ∃ us : List Int, ds = [ti us, .int 4, .int 7, .int 12] ∧ us.length ≤ 2 ∧ (∀ u ∈ us, 2 ≤ u ∧ u ≤ 4) ∧ g + 100 ≤ lim ∧
  ∀ (w : Wd) (g' : Nat), Mt.Wok us w → w.n ≤ 4 → 0 < w.st.length → w.st.length ≤ 7 → (∀ s ∈ w.st, isDeed us.length (eD s.d) = true) → g' ≤ g + 100 → Q (eW w) g'
def sp__law_count : Spc := fun ds Q _ => ∃ us d k, ds = [ti us, eD d, .int (k : Nat)] ∧ Usm us ∧ Mt.Dok us d ∧ k ≤ us.length ∧ Q (.int (Mt.cnt us d k))
def sp__law_further : Spc := fun ds Q _ => ∃ us w k h, ds = [ti us, eW w, .int (k : Nat), li h] ∧ Wsm us w ∧ k ≤ us.length ∧ h.length = w.n ∧ Q (li (Mt.further (Mt.es us w.st k) h))
def ln (f : List Nat) : PyData := .list (f.map fun (n : Nat) => PyData.int (n : Int))
def sp__law_leading : Spc := fun ds Q _ => ∃ (w : Wd) (f : List Nat), ds = [eW w, ln f] ∧ (0 < w.n ∧ w.n ≤ 50 ∧ w.st.length ≤ 100 ∧ ∀ s ∈ w.st, s.a < w.n ∧ s.b < w.n) ∧ f.length ≤ 500 ∧ (∀ x ∈ f, x < w.n) ∧ Q (ln (Mt.lead (Mt.es [] w.st 0) w.n f))
/-- what the needs tell of place 0 -/
def sp__law_needs_of : Spc := fun ds Q _ => ∃ us w, ds = [ti us, eW w] ∧ Wsm us w ∧ ∀ (d : PyData) (rest : List PyData), (isNoneD d = true ↔ ¬ Mt.Lives us w) → Q (.tuple (d :: rest))
def sp__law_lives : Spc := fun ds Q _ => ∃ us w, ds = [ti us, eW w] ∧ Wsm us w ∧ ∀ b : Bool, (b = true ↔ Mt.Lives us w) → Q (.bool b)
def sp__law_put_in : Spc := fun ds Q _ => ∃ n st k a o b d, ds = [.tuple [.int n, .tuple st], .int (k : Nat), d] ∧ st[k]? = some (.tuple [a, o, b]) ∧ st.length ≤ 100 ∧
  Q (.tuple [.int (n + 1), .tuple ((st.take k ++ [.tuple [a, o, .int n]] ++ st.drop (k + 1)) ++ [.tuple [.int n, d, b]])])
def Rw (n : Nat) (r : List Int) : Prop := r.length = n + 1 ∧ Mt.Pos r
def sp__law_rows_near : SpcS := fun ds g Q => ∃ (us : List Int) (r : Option (List Int)), ds = [ti us, match r with | some r => ti r | none => .none] ∧ us.length ≤ 3 ∧ (∀ u ∈ us, 2 ≤ u ∧ u ≤ 10) ∧ (∀ x, r = some x → Rw us.length x) ∧ g + 100 ≤ lim ∧
  ∀ (rs : List (List Int)) (g' : Nat), rs.length ≤ 20 → (∀ x ∈ rs, Rw us.length x) → g' ≤ g + 100 → Q (.list (rs.map ti)) g'
end Yd
set_option Elab.async false
set_option linter.all false
set_option maxRecDepth 100000
set_option maxHeartbeats 1000000
namespace Yd
open PySem PySem.Spec PyProof.Rows L2 LamX
def t_is_from : RS := (dRet (dAndV (dUn (kIsi "int") (dVar 0)) (dAndV (dNotV (dUn (kIsi "bool") (dVar 0))) (dChain (fun i j => decide (i ≤ j)) (fun i j => decide (i ≤ j)) (dVar 1) (dVar 0) (dVar 2)))))
def t_need_units : RS := (dSeq (dIfS (dOr (dNot (dTest (dUn (kIsi "tuple") (dVar 0)))) (dTest (dOp kGtI (dCallB kLen (dCons (dVar 0) dNil)) (dC (.int 3))))) (dRaise .units (dVar 0)) dNext)
  (dSeq (dFor (diTup (dVar 0)) (dgName 1) (dIfS (dNot (dTest (dCall sp_is_from (dCons (dVar 1) (dCons (dC (.int 2)) (dCons (dC (.int 10)) dNil)))))) (dRaise .units (dVar 0)) dNext))
  (dRet (dVar 0))))
def t_is_row : RS := (dSeq (dIfS (dOr (dNot (dTest (dUn (kIsi "tuple") (dVar 1)))) (dTest (dOp (kEqS true) (dCallB kLen (dCons (dVar 1) dNil)) (dOp kAddI (dCallB kLen (dCons (dVar 0) dNil)) (dC (.int 1)))))) (dRet (dC (.bool false))) dNext)
  (dSeq (dFor (diTup (dVar 1)) (dgName 2) (dIfS (dNot (dTest (dCall sp_is_from (dCons (dVar 2) (dCons (dC (.int 0)) (dCons (dC (.int (10 ^ 60))) dNil)))))) (dRet (dC (.bool false))) dNext))
  (dRet (dC (.bool true)))))
def t_zeros_of : RS := (dRet (dOp kRepT (dTup (dCons (dC (.int 0)) dNil)) (dOp kAddI (dCallB kLen (dCons (dVar 0) dNil)) (dC (.int 1)))))
def t_stair_from : RS := (dSeq (dSetO 2 (dLst (dCons (dIxN 1 (dC (.int 0))) dNil)))
  (dSeq (dFor (diZip true true (dVar 0) (dSl kSl (dVar 1) (dPart (dC (.int 1))) dNoPart)) (dgTup 2 (dgCons (dgName 3) (dgCons (dgName 4) dgNil))) (dAppend 2 (dOp kAddI (dOp kMulI (dVar 3) (dIxN 2 (dUn kNeg (dC (.int 1))))) (dVar 4))))
  (dRet (dCallB kTupleOf (dCons (dVar 2) dNil)))))
def t_row_from : RS := (dSeq (dSetO 2 (dLst (dCons (dIxN 1 (dC (.int 0))) dNil)))
  (dSeq (dFor (diEnum true (dVar 0)) (dgTup 2 (dgCons (dgName 3) (dgCons (dgName 4) dgNil))) (dAppend 2 (dOp kSubI (dIxN 1 (dOp kAddI (dVar 3) (dC (.int 1)))) (dOp kMulI (dVar 4) (dIxN 1 (dVar 3))))))
  (dRet (dCallB kTupleOf (dCons (dVar 2) dNil)))))
def t_up_stair : RS := (dSeq (dSetO 2 (dLst (dCons (dCallB kMax2 (dCons (dC (.int 0)) (dCons (dIxN 1 (dC (.int 0))) dNil))) dNil)))
  (dSeq (dFor (diZip true false (dVar 0) (dSl kSl (dVar 1) (dPart (dC (.int 1))) dNoPart)) (dgTup 2 (dgCons (dgName 3) (dgCons (dgName 4) dgNil))) (dAppend 2 (dCallB kMax2 (dCons (dVar 4) (dCons (dOp kMulI (dVar 3) (dIxN 2 (dUn kNeg (dC (.int 1))))) dNil)))))
  (dRet (dCallB kTupleOf (dCons (dVar 2) dNil)))))
def t_down_stair : RS := (dSeq (dIfS (dTest (dOp kLtI (dCallB kMinL (dCons (dVar 1) dNil)) (dC (.int 0)))) (dRet (dC .none)) dNext)
  (dSeq (dSetO 2 (dLst (dCons (dIxN 1 (dUn kNeg (dC (.int 1)))) dNil)))
  (dSeq (dFor (diDown (dCallB kLen (dCons (dVar 0) dNil))) (dgName 3) (dAppend 2 (dCallB kMin2 (dCons (dIxN 1 (dVar 3)) (dCons (dOp kDivI (dIxN 2 (dUn kNeg (dC (.int 1)))) (dIxN 0 (dVar 3))) dNil)))))
  (dRet (dUn kRevT (dVar 2))))))
def t_is_deed : RS := (dSeq (dIfS (dOr (dNot (dTest (dUn (kIsi "tuple") (dVar 1)))) (dOr (dTest (dOp (kIn true) (dCallB kLen (dCons (dVar 1) dNil)) (dTup (dCons (dC (.int 1)) (dCons (dC (.int 2)) dNil))))) (dNot (dTest (dUn (kIsi "str") (dIxN 1 (dC (.int 0)))))))) (dRet (dC (.bool false))) dNext)
  (dSeq (dIfS (dTest (dOp (kEqS false) (dCallB kLen (dCons (dVar 1) dNil)) (dC (.int 1)))) (dRet (dOp (kEqS false) (dIxN 1 (dC (.int 0))) (dC (.str "pass")))) dNext)
  (dRet (dAndV (dOp (kIn false) (dIxN 1 (dC (.int 0))) (dTup (dCons (dC (.str "ask")) (dCons (dC (.str "bring")) dNil)))) (dCall sp_is_row (dCons (dVar 0) (dCons (dIxN 1 (dC (.int 1))) dNil)))))))
def t_is_step : RS := (dSeq (dIfS (dOr (dNot (dTest (dUn (kIsi "tuple") (dVar 2)))) (dTest (dOp (kEqS true) (dCallB kLen (dCons (dVar 2) dNil)) (dC (.int 3))))) (dRet (dC (.bool false))) dNext)
  (dRet (dAndV (dCall sp_is_from (dCons (dIxN 2 (dC (.int 0))) (dCons (dC (.int 0)) (dCons (dOp kSubI (dVar 1) (dC (.int 1))) dNil)))) (dAndV (dCall sp_is_deed (dCons (dVar 0) (dCons (dIxN 2 (dC (.int 1))) dNil))) (dCall sp_is_from (dCons (dIxN 2 (dC (.int 2))) (dCons (dC (.int 0)) (dCons (dOp kSubI (dVar 1) (dC (.int 1))) dNil))))))))
def t_need_world : RS := (dSeq (dDropX (dCallX sp_need_units (dCons (dVar 0) dNil)))
  (dSeq (dIfS (dOr (dNot (dTest (dUn (kIsi "tuple") (dVar 1)))) (dTest (dOp (kEqS true) (dCallB kLen (dCons (dVar 1) dNil)) (dC (.int 2))))) (dRaise .world (dTup dNil)) dNext)
  (dSeq (dIfS (dNot (dTest (dCall sp_is_from (dCons (dIxN 1 (dC (.int 0))) (dCons (dC (.int 1)) (dCons (dC (.int 8)) dNil)))))) (dRaise .world (dTup (dCons (dC (.int 0)) dNil))) dNext)
  (dSeq (dIfS (dOr (dNot (dTest (dUn (kIsi "tuple") (dIxN 1 (dC (.int 1)))))) (dTest (dOp kGtI (dCallB kLen (dCons (dIxN 1 (dC (.int 1))) dNil)) (dC (.int 14))))) (dRaise .world (dTup (dCons (dC (.int 1)) dNil))) dNext)
  (dSeq (dFor (diEnum true (dIxN 1 (dC (.int 1)))) (dgTup 2 (dgCons (dgName 2) (dgCons (dgName 3) dgNil))) (dIfS (dNot (dTest (dCall sp_is_step (dCons (dVar 0) (dCons (dIxN 1 (dC (.int 0))) (dCons (dVar 3) dNil)))))) (dRaise .world (dTup (dCons (dC (.int 1)) (dCons (dVar 2) dNil)))) dNext))
  (dRet (dVar 1)))))))
def t_counts_of : RS := (dSeq (dIfS (dTest (dOp (kEqS false) (dIxN 1 (dC (.int 0))) (dC (.str "pass")))) (dRet (dOp kRepT (dTup (dCons (dC (.int 0)) dNil)) (dOp kAddI (dCallB kLen (dCons (dVar 0) dNil)) (dC (.int 1))))) dNext)
  (dSeq (dSet 2 (dCall sp_stair_from (dCons (dVar 0) (dCons (dIxN 1 (dC (.int 1))) dNil))))
  (dRet (dIf (dTest (dOp (kEqS false) (dIxN 1 (dC (.int 0))) (dC (.str "ask")))) (dVar 2) (dCallB kTupleOf (dCons (dLc (diTup (dVar 2)) (dgName 3) dYes (dUn kNeg (dVar 3)) [3]) dNil))))))
def t_counts_at : RS := (dRet (dLc (diTup (dIxN 1 (dC (.int 1)))) (dgName 3) dYes (dOp kIx (dCall sp_counts_of (dCons (dVar 0) (dCons (dIxN 3 (dC (.int 1))) dNil))) (dVar 2)) [3]))
def t_first_walks : RS := (dSeq (dSetO 1 (dDisp1 (dC (.int 0)) (dTup dNil)))
  (dSeq (dSetO 2 (dLst (dCons (dC (.int 0)) dNil)))
  (dSeq (dWhile (dTest (dOp (kEqD true) (dVar 2) (dLst dNil))) (dSeq (dSet 3 (dIxN 2 (dC (.int 0))))
  (dSeq (dSetO 2 (dSl kSlL (dVar 2) (dPart (dC (.int 1))) dNoPart))
  (dFor (diEnum true (dIxN 0 (dC (.int 1)))) (dgTup 2 (dgCons (dgName 4) (dgCons (dgName 5) dgNil))) (dIfS (dAnd (dTest (dOp (kEqS false) (dIxN 5 (dC (.int 0))) (dVar 3))) (dTest (dDinN true 1 (dIxN 5 (dC (.int 2)))))) (dSeq (dPutK 1 (dOp kCatT (dDixN 1 (dVar 3)) (dTup (dCons (dVar 4) dNil))) (dIxN 5 (dC (.int 2))))
  (dAppend 2 (dIxN 5 (dC (.int 2))))) dNext)))))
  (dRet (dVar 1)))))
def t_great_walks : RS := (dSeq (dSetO 3 (dDisp1 (dVar 2) (dTup (dCons (dC (.int 0)) (dCons (dTup dNil) dNil)))))
  (dSeq (dSetO 4 (dLst (dCons (dVar 3) dNil)))
  (dSeq (dFor (diRange (dIxN 0 (dC (.int 0)))) (dgName 5) (dSeq (dSetO 6 (dC (.dict [])))
  (dSeq (dFor (diEnum true (dIxN 0 (dC (.int 1)))) (dgTup 2 (dgCons (dgName 7) (dgCons (dgName 8) dgNil))) (dIfS (dTest (dDinN false 3 (dIxN 8 (dC (.int 0))))) (dSeq (dSet 9 (dOp kAddI (dOp kIx (dDixN 3 (dIxN 8 (dC (.int 0)))) (dC (.int 0))) (dIxN 1 (dVar 7))))
  (dIfS (dOr (dTest (dDinN true 6 (dIxN 8 (dC (.int 2))))) (dTest (dOp kLtI (dOp kIx (dDixN 6 (dIxN 8 (dC (.int 2)))) (dC (.int 0))) (dVar 9)))) (dPutK 6 (dTup (dCons (dVar 9) (dCons (dOp kCatT (dOp kIx (dDixN 3 (dIxN 8 (dC (.int 0)))) (dC (.int 1))) (dTup (dCons (dVar 7) dNil))) dNil))) (dIxN 8 (dC (.int 2)))) dNext)) dNext))
  (dSeq (dSet 3 (dVar 6))
  (dAppend 4 (dVar 3))))))
  (dRet (dVar 4)))))
def t_ring_from : RS := (dSeq (dFor (diList (dSl kSl (dCall sp_great_walks (dCons (dVar 0) (dCons (dVar 1) (dCons (dVar 2) dNil)))) (dPart (dC (.int 1))) dNoPart)) (dgName 3) (dIfS (dAnd (dTest (dDinN false 3 (dVar 2))) (dTest (dOp kGtI (dOp kIx (dDixN 3 (dVar 2)) (dC (.int 0))) (dC (.int 0))))) (dRet (dOp kIx (dDixN 3 (dVar 2)) (dC (.int 1)))) dNext))
  (dRet (dC .none)))
def t_asking_ring : RS := (dSeq (dSet 2 (dCall sp_first_walks (dCons (dVar 0) dNil)))
  (dSeq (dFor (diList (dCallB kSortD (dCons (dVar 2) dNil))) (dgName 3) (dSeq (dSet 4 (dCall sp_ring_from (dCons (dVar 0) (dCons (dVar 1) (dCons (dVar 3) dNil)))))
  (dIfS (dTest (dUn kNotN (dVar 4))) (dRet (dTup (dCons (dDixN 2 (dVar 3)) (dCons (dVar 4) dNil)))) dNext)))
  (dRet (dC .none))))
def t_ring_found : RS := (dSeq (dFor (diRange (dOp kAddI (dCallB kLen (dCons (dVar 0) dNil)) (dC (.int 1)))) (dgName 2) (dSeq (dSet 3 (dCall sp_asking_ring (dCons (dVar 1) (dCons (dCall sp_counts_at (dCons (dVar 0) (dCons (dVar 1) (dCons (dVar 2) dNil)))) dNil))))
  (dIfS (dTest (dUn kNotN (dVar 3))) (dRet (dTup (dCons (dVar 2) (dCons (dIxN 3 (dC (.int 0))) (dCons (dIxN 3 (dC (.int 1))) dNil))))) dNext)))
  (dRet (dC .none)))
def t_need_step : RS := (dSeq (dDropX (dCallX sp_need_world (dCons (dVar 0) (dCons (dVar 1) dNil))))
  (dSeq (dIfS (dNot (dTest (dCall sp_is_from (dCons (dVar 2) (dCons (dC (.int 0)) (dCons (dOp kSubI (dCallB kLen (dCons (dIxN 1 (dC (.int 1))) dNil)) (dC (.int 1))) dNil)))))) (dRaise .index (dVar 2)) dNext)
  (dRet (dVar 2))))
def t_with_deed : RS := (dSeq (dDropX (dCallX sp_need_step (dCons (dVar 0) (dCons (dVar 1) (dCons (dVar 2) dNil)))))
  (dSeq (dIfS (dNot (dTest (dCall sp_is_deed (dCons (dVar 0) (dCons (dVar 3) dNil))))) (dRaise .param (dVar 3)) dNext)
  (dSeq (dAsg (dVar 1) (dgTup 2 (dgCons (dgName 4) (dgCons (dgName 5) dgNil))))
  (dSeq (dIfS (dTest (dOp kGtI (dOp kAddI (dVar 4) (dC (.int 1))) (dC (.int 8)))) (dRaise .great (dC (.int 8))) dNext)
  (dSeq (dIfS (dTest (dOp kGtI (dOp kAddI (dCallB kLen (dCons (dVar 5) dNil)) (dC (.int 1))) (dC (.int 14)))) (dRaise .great (dC (.int 14))) dNext)
  (dSeq (dAsg (dIxN 5 (dVar 2)) (dgTup 3 (dgCons (dgName 6) (dgCons (dgName 7) (dgCons (dgName 8) dgNil)))))
  (dSeq (dSet 9 (dOp kCatT (dOp kCatT (dSl kSl (dVar 5) dNoPart (dPart (dVar 2))) (dTup (dCons (dTup (dCons (dVar 6) (dCons (dVar 7) (dCons (dVar 4) dNil)))) dNil))) (dSl kSl (dVar 5) (dPart (dOp kAddI (dVar 2) (dC (.int 1)))) dNoPart)))
  (dRet (dTup (dCons (dOp kAddI (dVar 4) (dC (.int 1))) (dCons (dOp kCatT (dVar 9) (dTup (dCons (dTup (dCons (dVar 4) (dCons (dVar 3) (dCons (dVar 8) dNil)))) dNil))) dNil)))))))))))
def t_dropped : RS := (dRet (dOp kCatA (dSl kSl (dVar 0) dNoPart (dPart (dVar 1))) (dSl kSl (dVar 0) (dPart (dOp kAddI (dVar 1) (dC (.int 1)))) dNoPart)))
def t_greatest_over : RS := (dSeq (dSet 4 (dCall sp_counts_at (dCons (dVar 0) (dCons (dVar 1) (dCons (dVar 3) dNil)))))
  (dSeq (dSet 5 (dTup (dCons (dIxN 1 (dC (.int 0))) (dCons (dCall sp_dropped (dCons (dIxN 1 (dC (.int 1))) (dCons (dVar 2) dNil))) dNil))))
  (dSeq (dSet 6 (dCall sp_dropped (dCons (dVar 4) (dCons (dVar 2) dNil))))
  (dSeq (dSet 7 (dCall sp_first_walks (dCons (dVar 1) dNil)))
  (dSeq (dFor (diList (dCallB kSortD (dCons (dVar 7) dNil))) (dgName 8) (dIfS (dTest (dUn kNotN (dCall sp_ring_from (dCons (dVar 5) (dCons (dVar 6) (dCons (dVar 8) dNil)))))) dRaise0 dNext))
  (dSeq (dAsg (dOp kIx (dIxN 1 (dC (.int 1))) (dVar 2)) (dgTup 3 (dgCons (dgName 9) (dgCons (dgName 10) (dgCons (dgName 11) dgNil)))))
  (dSeq (dIfS (dTest (dDinN true 7 (dVar 9))) (dRet (dC .none)) dNext)
  (dSeq (dSetO 12 (dLc (diList (dCall sp_great_walks (dCons (dVar 5) (dCons (dVar 6) (dCons (dVar 11) dNil))))) (dgName 13) (dTest (dDinN false 13 (dVar 9))) (dOp kIx (dDixN 13 (dVar 9)) (dC (.int 0))) [13]))
  (dRet (dIf (dTest (dOp (kEqD false) (dVar 12) (dLst dNil))) (dC .none) (dOp kAddI (dIxN 4 (dVar 2)) (dCallB kMaxL (dCons (dVar 12) dNil)))))))))))))
def t_greatest_rings : RS := (dSeq (dSetLcX 3 (diRange (dOp kAddI (dCallB kLen (dCons (dVar 0) dNil)) (dC (.int 1)))) (dgName 4) (dCallX sp_greatest_over (dCons (dVar 0) (dCons (dVar 1) (dCons (dVar 2) (dCons (dVar 4) dNil))))) [4])
  (dRet (dIf (dTest (dInN false 3 (dC .none))) (dC .none) (dVar 3))))
def t_least_more : RS := (dSeq (dDropX (dCallX sp_need_step (dCons (dVar 0) (dCons (dVar 1) (dCons (dVar 2) dNil)))))
  (dSeq (dSetX 3 (dCallX sp_greatest_rings (dCons (dVar 0) (dCons (dVar 1) (dCons (dVar 2) dNil)))))
  (dRet (dIf (dTest (dUn kIsN (dVar 3))) (dCall sp_zeros_of (dCons (dVar 0) dNil)) (dCall sp_row_from (dCons (dVar 0) (dCons (dCall sp_up_stair (dCons (dVar 0) (dCons (dVar 3) dNil))) dNil)))))))
def t_most_more : RS := (dSeq (dDropX (dCallX sp_need_step (dCons (dVar 0) (dCons (dVar 1) (dCons (dVar 2) dNil)))))
  (dSeq (dIfS (dTest (dUn kNotN (dCall sp_ring_found (dCons (dVar 0) (dCons (dVar 1) dNil))))) dRaise0 dNext)
  (dSeq (dSetX 3 (dCallX sp_greatest_rings (dCons (dVar 0) (dCons (dVar 1) (dCons (dVar 2) dNil)))))
  (dSeq (dIfS (dTest (dUn kIsN (dVar 3))) (dRet (dC .none)) dNext)
  (dRet (dCall sp_row_from (dCons (dVar 0) (dCons (dCall sp_down_stair (dCons (dVar 0) (dCons (dLc (diList (dVar 3)) (dgName 4) dYes (dUn kNeg (dVar 4)) [4]) dNil))) dNil))))))))
def t__law_mixed : RS := (dSeq (dSet 0 (dOp kModI (dCallB kIntOf (dCons (dVar 0) dNil)) (dC (.int 2147483647))))
  (dRet (dOp kModI (dOp kMulI (dOp kModI (dOp kAddI (dOp kAddI (dOp kMulI (dVar 0) (dOp kAddI (dC (.int 48271)) (dOp kMulI (dOp kMulI (dC (.int 2)) (dVar 1)) (dVar 1)))) (dOp kMulI (dC (.int 69621)) (dVar 1))) (dC (.int 11))) (dC (.int 2147483647))) (dC (.int 69621))) (dC (.int 2147483629)))))
def t__law_units : RS := (dRet (dCallB kTupleOf (dCons (dLc (diRange (dCallS 0 sp__law_draw (dCons (dC (.int 3)) dNil))) (dgName 1) dYes (dOp kAddI (dC (.int 2)) (dCallS 0 sp__law_draw (dCons (dC (.int 3)) dNil))) [1]) dNil)))
def t__law_sizes : RS := (dSeq (dSet 1 (dTup (dCons (dC (.int 1)) dNil)))
  (dSeq (dFor (diTup (dUn kRevTu (dVar 0))) (dgName 2) (dSet 1 (dOp kCatT (dTup (dCons (dOp kMulI (dIxN 1 (dC (.int 0))) (dVar 2)) dNil)) (dVar 1))))
  (dRet (dVar 1))))
def t__law_row : RS := (dSeq (dPar 3 4 (dTup dNil) (dCallS 0 sp__law_draw (dCons (dOp kAddI (dVar 2) (dC (.int 1))) dNil)))
  (dSeq (dFor (diTup (dCall sp__law_sizes (dCons (dVar 1) dNil))) (dgName 5) (dSeq (dSet 6 (dCallS 0 sp__law_draw (dCons (dOp kAddI (dOp kDivI (dCallB kIntOf (dCons (dVar 4) dNil)) (dVar 5)) (dC (.int 1))) dNil)))
  (dPar 3 4 (dOp kCatT (dVar 3) (dTup (dCons (dVar 6) dNil))) (dOp kSubI (dVar 4) (dOp kMulI (dVar 6) (dVar 5))))))
  (dRet (dVar 3))))
def t__law_beside : RS := (dRet (dCallB kTupleOf (dCons (dLc (diZip true true (dVar 0) (dVar 1)) (dgTup 2 (dgCons (dgName 2) (dgCons (dgName 3) dgNil))) dYes (dOp kAddI (dVar 2) (dVar 3)) [2, 3]) dNil)))
def t__law_stair : RS := (dSeq (dSetO 2 (dLst (dCons (dIxN 1 (dC (.int 0))) dNil)))
  (dSeq (dFor (diZip true true (dVar 0) (dSl kSl (dVar 1) (dPart (dC (.int 1))) dNoPart)) (dgTup 2 (dgCons (dgName 3) (dgCons (dgName 4) dgNil))) (dAppend 2 (dOp kAddI (dOp kMulI (dVar 3) (dIxN 2 (dUn kNeg (dC (.int 1))))) (dVar 4))))
  (dRet (dCallB kTupleOf (dCons (dVar 2) dNil)))))
def t__law_row_of : RS := (dSeq (dSetO 2 (dLst (dCons (dIxN 1 (dC (.int 0))) dNil)))
  (dSeq (dFor (diEnum true (dVar 0)) (dgTup 2 (dgCons (dgName 3) (dgCons (dgName 4) dgNil))) (dAppend 2 (dOp kSubI (dIxN 1 (dOp kAddI (dVar 3) (dC (.int 1)))) (dOp kMulI (dVar 4) (dIxN 1 (dVar 3))))))
  (dRet (dCallB kTupleOf (dCons (dVar 2) dNil)))))
def t__law_inside : RS := (dSeq (dSetO 3 (dOp kListZip (dCall sp__law_stair (dCons (dVar 0) (dCons (dVar 1) dNil))) (dCall sp__law_stair (dCons (dVar 0) (dCons (dVar 2) dNil)))))
  (dRet (dOp (kEqD false) (dLc (diList (dVar 3)) (dgTup 2 (dgCons (dgName 4) (dgCons (dgName 5) dgNil))) (dTest (dOp kGtI (dVar 4) (dVar 5))) (dC (.int 1)) [4, 5]) (dLst dNil))))
def t__law_some_world : RS := (dSeq (dPar 5 6 (dOp kAddI (dC (.int 1)) (dCallS 0 sp__law_draw (dCons (dVar 2) dNil))) (dTup dNil))
  (dSeq (dFor (diRange (dOp kAddI (dC (.int 1)) (dCallS 0 sp__law_draw (dCons (dVar 3) dNil)))) (dgName 7) (dSeq (dPar 8 9 (dCallS 0 sp__law_draw (dCons (dVar 5) dNil)) (dCallS 0 sp__law_draw (dCons (dVar 5) dNil)))
  (dSeq (dPar 10 11 (dCallS 0 sp__law_draw (dCons (dC (.int 6)) dNil)) (dC (.str "ask")))
  (dSeq (dIfS (dTest (dOp kLeI (dVar 9) (dVar 8))) (dSet 11 (dIf (dTest (dOp (kEqS false) (dVar 10) (dC (.int 0)))) (dC (.str "ask")) (dIf (dTest (dOp (kEqS false) (dVar 10) (dC (.int 1)))) (dC (.str "pass")) (dC (.str "bring"))))) (dIfS (dTest (dOp kLtI (dVar 10) (dC (.int 3)))) (dSet 11 (dIf (dTest (dOp kLtI (dVar 10) (dC (.int 2)))) (dC (.str "bring")) (dC (.str "pass")))) dNext))
  (dSeq (dSet 12 (dCallS 0 sp__law_row (dCons (dVar 1) (dCons (dIf (dTest (dOp (kEqS false) (dVar 11) (dC (.str "ask")))) (dVar 4) (dOp kAddI (dVar 4) (dOp kDivI (dVar 4) (dC (.int 2))))) dNil))))
  (dSeq (dSet 13 (dIf (dTest (dOp (kEqS false) (dVar 11) (dC (.str "pass")))) (dTup (dCons (dC (.str "pass")) dNil)) (dTup (dCons (dVar 11) (dCons (dVar 12) dNil)))))
  (dSet 6 (dOp kCatT (dVar 6) (dTup (dCons (dTup (dCons (dVar 8) (dCons (dVar 13) (dCons (dVar 9) dNil)))) dNil))))))))))
  (dRet (dTup (dCons (dVar 5) (dCons (dVar 6) dNil))))))
def t__law_count : RS := (dSeq (dIfS (dTest (dOp (kEqS false) (dIxN 1 (dC (.int 0))) (dC (.str "pass")))) (dRet (dC (.int 0))) dNext)
  (dSeq (dSet 3 (dOp kIx (dCall sp__law_stair (dCons (dVar 0) (dCons (dIxN 1 (dC (.int 1))) dNil))) (dVar 2)))
  (dRet (dIf (dTest (dOp (kEqS false) (dIxN 1 (dC (.int 0))) (dC (.str "ask")))) (dVar 3) (dUn kNeg (dVar 3))))))
def t__law_further : RS := (dSeq (dSetO 4 (dCallB kListOf (dCons (dVar 3) dNil)))
  (dSeq (dFor (diTup (dIxN 1 (dC (.int 1)))) (dgTup 3 (dgCons (dgName 5) (dgCons (dgName 6) (dgCons (dgName 7) dgNil)))) (dSeq (dSet 8 (dOp kAddI (dCall sp__law_count (dCons (dVar 0) (dCons (dVar 6) (dCons (dVar 2) dNil)))) (dIxN 3 (dVar 7))))
  (dSetIx 4 (dCallB kMax2 (dCons (dIxN 4 (dVar 5)) (dCons (dVar 8) dNil))) (dVar 5))))
  (dRet (dVar 4))))
def t__law_leading : RS := (dSeq (dSetO 2 (dCallB kListOf (dCons (dVar 1) dNil)))
  (dSeq (dFor (diRange (dIxN 0 (dC (.int 0)))) (dgName 3) (dFor (diTup (dIxN 0 (dC (.int 1)))) (dgTup 3 (dgCons (dgName 4) (dgCons (dgName 5) (dgCons (dgName 6) dgNil)))) (dIfS (dAnd (dTest (dInN false 2 (dVar 6))) (dTest (dInN true 2 (dVar 4)))) (dAppend 2 (dVar 4)) dNext)))
  (dRet (dVar 2))))
def t__law_needs_of : RS := (dSeq (dParO 2 3 (dLc (diRange (dIxN 1 (dC (.int 0)))) (dgName 8) dYes (dLst dNil) [8]) (dLst dNil))
  (dSeq (dFor (diRange (dOp kAddI (dCallB kLen (dCons (dVar 0) dNil)) (dC (.int 1)))) (dgName 4) (dSeq (dSetO 5 (dLc (diRange (dIxN 1 (dC (.int 0)))) (dgName 8) dYes (dC (.int 0)) [8]))
  (dSeq (dIfS (dTest (dOp kGtI (dVar 4) (dC (.int 0)))) (dSetO 5 (dLc (diList (dVar 2)) (dgName 10) dYes (dOp kMulI (dIxN 0 (dOp kSubI (dVar 4) (dC (.int 1)))) (dIxN 10 (dUn kNeg (dC (.int 1))))) [10])) dNext)
  (dSeq (dFor (diRange (dIxN 1 (dC (.int 0)))) (dgName 6) (dSet 5 (dCall sp__law_further (dCons (dVar 0) (dCons (dVar 1) (dCons (dVar 4) (dCons (dVar 5) dNil)))))))
  (dSeq (dSet 7 (dCall sp__law_further (dCons (dVar 0) (dCons (dVar 1) (dCons (dVar 4) (dCons (dVar 5) dNil))))))
  (dSeq (dFor (diRange (dIxN 1 (dC (.int 0)))) (dgName 8) (dIfS (dTest (dOp (kEqS true) (dIxN 7 (dVar 8)) (dIxN 5 (dVar 8)))) (dAppend 3 (dVar 8)) dNext))
  (dSetO 2 (dLc (diZip false false (dVar 2) (dVar 5)) (dgTup 2 (dgCons (dgName 10) (dgCons (dgName 11) dgNil))) dYes (dOp kCatL (dVar 10) (dLst (dCons (dVar 11) dNil))) [10, 11]))))))))
  (dSeq (dParO 3 9 (dCall sp__law_leading (dCons (dVar 1) (dCons (dVar 3) dNil))) (dLst dNil))
  (dSeq (dFor (diEnum false (dVar 2)) (dgTup 2 (dgCons (dgName 8) (dgCons (dgName 10) dgNil))) (dAppend 9 (dIf (dTest (dInN false 3 (dVar 8))) (dC .none) (dCall sp__law_row_of (dCons (dVar 0) (dCons (dVar 10) dNil))))))
  (dRet (dCallB kTupleOf (dCons (dVar 9) dNil)))))))
def t__law_put_in : RS := (dSeq (dAsg (dVar 0) (dgTup 2 (dgCons (dgName 3) (dgCons (dgName 4) dgNil))))
  (dSeq (dAsg (dIxN 4 (dVar 1)) (dgTup 3 (dgCons (dgName 5) (dgCons (dgName 6) (dgCons (dgName 7) dgNil)))))
  (dSeq (dSet 8 (dOp kCatT (dOp kCatT (dSl kSl (dVar 4) dNoPart (dPart (dVar 1))) (dTup (dCons (dTup (dCons (dVar 5) (dCons (dVar 6) (dCons (dVar 3) dNil)))) dNil))) (dSl kSl (dVar 4) (dPart (dOp kAddI (dVar 1) (dC (.int 1)))) dNoPart)))
  (dRet (dTup (dCons (dOp kAddI (dVar 3) (dC (.int 1))) (dCons (dOp kCatT (dVar 8) (dTup (dCons (dTup (dCons (dVar 3) (dCons (dVar 2) (dCons (dVar 7) dNil)))) dNil))) dNil)))))))
def t__law_lives : RS := (dRet (dUn kNotN (dOp kIx (dCall sp__law_needs_of (dCons (dVar 0) (dCons (dVar 1) dNil))) (dC (.int 0)))))
def t__law_rows_near : RS := (dSeq (dSetO 3 (dLst (dCons (dCallS 0 sp__law_row (dCons (dVar 1) (dCons (dC (.int 30)) dNil))) (dCons (dCallS 0 sp__law_row (dCons (dVar 1) (dCons (dC (.int 12)) dNil))) dNil))))
  (dSeq (dIfS (dTest (dUn kNotN (dVar 2))) (dSeq (dSetO 3 (dOp kCatL (dVar 3) (dLst (dCons (dVar 2) (dCons (dCall sp__law_beside (dCons (dVar 2) (dCons (dIxN 3 (dC (.int 1))) dNil))) dNil)))))
  (dFor (diRange (dC (.int 3))) (dgName 4) (dSeq (dParO 5 6 (dCallS 0 sp__law_draw (dCons (dCallB kLen (dCons (dVar 2) dNil)) dNil)) (dCallB kListOf (dCons (dVar 2) dNil)))
  (dSeq (dSetIx 6 (dCallB kMax2 (dCons (dC (.int 0)) (dCons (dOp kAddI (dIxN 6 (dVar 5)) (dOp kIx (dLst (dCons (dC (.int 1)) (dCons (dUn kNeg (dC (.int 1))) (dCons (dUn kNeg (dC (.int 2))) dNil)))) (dVar 4))) dNil))) (dVar 5))
  (dAppend 3 (dCallB kTupleOf (dCons (dVar 6) dNil))))))) dNext)
  (dRet (dVar 3))))
end Yd
set_option Elab.async false
set_option linter.all false
set_option maxRecDepth 100000
set_option maxHeartbeats 1000000
namespace Yd
open PySem PySem.Spec PyProof.Rows L2 LamX
theorem sc_is_from : FnScope ["value", "low", "high"] ["value", "low", "high"] (defScope s_is_from) := ⟨rfl, rfl, rfl, by decide +kernel, rfl, by decide +kernel, by decide +kernel⟩
theorem der_is_from {P : Program} {w : World} {K : PySem.W.Frag} {mg : Str → Option Value} {base : Heap} (g : G K mg)  (f : Addr) (cdv : Value) (A : Around) (outer : List Env) (s : Shared) (H : Hp) (E : XK) (Fm0 : Fm)
    (hr : Room 0 (A.deeper (envOfC "is_from" (defScope s_is_from) s.heap.objs.size f cdv))) : DSs (cxOf (CX0) P w K mg base ["value", "low", "high"] "is_from" (defScope s_is_from) f cdv A outer s H E).nox (ckK K) Fm0 W0 (defBody s_is_from) t_is_from := by
  have sc := sc_is_from
  exact (dss_one (ds_ret (de_and (de_is_int rfl (f_isinstance g) rfl (f_int g) (dv 0)) (de_and (de_not (de_is_bool rfl (f_isinstance g) rfl (f_bool g) (dv 0))) (de_one (de_chain op_le op_le (dv 1) (dv 0) (dv 2)))))))
theorem sc_need_units : FnScope ["value", "ratio"] ["value"] (defScope s_need_units) := ⟨rfl, rfl, rfl, by decide +kernel, rfl, by decide +kernel, by decide +kernel⟩
theorem der_need_units {P : Program} {w : World} {K : PySem.W.Frag} {mg : Str → Option Value} {base : Heap} (g : G K mg) (o_is_from : Ok P w K mg base (CX0) 1 "is_from" ["value", "low", "high"] (spP T1 K (ckK K) sp_is_from)) (f : Addr) (cdv : Value) (A : Around) (outer : List Env) (s : Shared) (H : Hp) (E : XK) (Fm0 : Fm)
    (hr : Room 2 (A.deeper (envOfC "need_units" (defScope s_need_units) s.heap.objs.size f cdv))) : DSs (cxOf (L2.CX P w) P w K mg base ["value", "ratio"] "need_units" (defScope s_need_units) f cdv A outer s H E) (ckK K) Fm0 (fun cls d _ H => E cls d H) (defBody s_need_units) t_need_units := by
  have sc := sc_need_units
  obtain ⟨_, c_MOST_RATIO_⟩ := c_MOST_RATIO g
  obtain ⟨_, c_MOST_UNITS_⟩ := c_MOST_UNITS g
  have tk : Takes (cxOf (L2.CX P w) P w K mg base ["value", "ratio"] "need_units" (defScope s_need_units) f cdv A outer s H E) (fun cls d _ H => E cls d H) := takes_of rfl rfl rfl rfl
  exact (dss_cons (ds_if (dt_w (dw_or (dt_not (dt_val (de_is_tuple rfl (f_isinstance g) rfl (f_tuple g) (dv 0)))) (dw_or1 (dt_c (cm_gt (de_len rfl (f_len g) (dv 0)) (de_globI rfl c_MOST_UNITS_)))))) (dss_one (rs_BadUnits g rfl tk hr (dv 0))) dss_nil)
    (dss_cons (ds_for (passes_of rfl) rfl (di_tup (dv 0)) (dg_name (i := 1) sc.nd rfl (.inl rfl)) (dss_one (ds_if (dt_not (dt_val (dc o_is_from hr (da_cons (dv 1) (da_cons de_int (da_cons (de_globI rfl c_MOST_RATIO_) da_nil)))))) (dss_one (rs_BadUnits g rfl tk hr (dv 0))) dss_nil)))
    (dss_one (ds_ret (dv 0)))))
theorem sc_is_row : FnScope ["units", "value", "number"] ["units", "value"] (defScope s_is_row) := ⟨rfl, rfl, rfl, by decide +kernel, rfl, by decide +kernel, by decide +kernel⟩
theorem der_is_row {P : Program} {w : World} {K : PySem.W.Frag} {mg : Str → Option Value} {base : Heap} (g : G K mg) (o_is_from : Ok P w K mg base (CX0) 1 "is_from" ["value", "low", "high"] (spP T1 K (ckK K) sp_is_from)) (f : Addr) (cdv : Value) (A : Around) (outer : List Env) (s : Shared) (H : Hp) (E : XK) (Fm0 : Fm)
    (hr : Room 1 (A.deeper (envOfC "is_row" (defScope s_is_row) s.heap.objs.size f cdv))) : DSs (cxOf (CX0) P w K mg base ["units", "value", "number"] "is_row" (defScope s_is_row) f cdv A outer s H E).nox (ckK K) Fm0 W0 (defBody s_is_row) t_is_row := by
  have sc := sc_is_row
  obtain ⟨_, c_MOST_PIECES_⟩ := c_MOST_PIECES g
  exact (dss_cons (ds_if (dt_w (dw_or (dt_not (dt_val (de_is_tuple rfl (f_isinstance g) rfl (f_tuple g) (dv 1)))) (dw_or1 (dt_c (cm_ne (de_len rfl (f_len g) (dv 1)) (de_addI (de_len rfl (f_len g) (dv 0)) de_int)))))) (dss_one (ds_ret de_bl)) dss_nil)
    (dss_cons (ds_for (PassesOwn.never) rfl (di_tup (dv 1)) (dg_name (i := 2) sc.nd rfl (.inl rfl)) (dss_one (ds_if (dt_not (dt_val (dc o_is_from hr (da_cons (dv 2) (da_cons de_int (da_cons (de_globI rfl c_MOST_PIECES_) da_nil)))))) (dss_one (ds_ret de_bl)) dss_nil)))
    (dss_one (ds_ret de_bl))))
theorem sc_zeros_of : FnScope ["units"] ["units"] (defScope s_zeros_of) := ⟨rfl, rfl, rfl, by decide +kernel, rfl, by decide +kernel, by decide +kernel⟩
theorem der_zeros_of {P : Program} {w : World} {K : PySem.W.Frag} {mg : Str → Option Value} {base : Heap} (g : G K mg)  (f : Addr) (cdv : Value) (A : Around) (outer : List Env) (s : Shared) (H : Hp) (E : XK) (Fm0 : Fm)
    (hr : Room 0 (A.deeper (envOfC "zeros_of" (defScope s_zeros_of) s.heap.objs.size f cdv))) : DSs (cxOf (CX0) P w K mg base ["units"] "zeros_of" (defScope s_zeros_of) f cdv A outer s H E).nox (ckK K) Fm0 W0 (defBody s_zeros_of) t_zeros_of := by
  have sc := sc_zeros_of
  exact (dss_one (ds_ret (de_mulT (de_tup (da_cons de_int da_nil)) (de_addI (de_len rfl (f_len g) (dv 0)) de_int))))
theorem sc_stair_from : FnScope ["units", "row", "found", "ratio", "number"] ["units", "row"] (defScope s_stair_from) := ⟨rfl, rfl, rfl, by decide +kernel, rfl, by decide +kernel, by decide +kernel⟩
theorem der_stair_from {P : Program} {w : World} {K : PySem.W.Frag} {mg : Str → Option Value} {base : Heap} (g : G K mg)  (f : Addr) (cdv : Value) (A : Around) (outer : List Env) (s : Shared) (H : Hp) (E : XK) (Fm0 : Fm)
    (hr : Room 0 (A.deeper (envOfC "stair_from" (defScope s_stair_from) s.heap.objs.size f cdv))) : DSs (cxOf (CX0) P w K mg base ["units", "row", "found", "ratio", "number"] "stair_from" (defScope s_stair_from) f cdv A outer s H E).nox (ckK K) Fm0 W0 (defBody s_stair_from) t_stair_from := by
  have sc := sc_stair_from
  exact (dss_cons (ds_setO (i := 2) sc.nd rfl (.inl rfl) (df_lst (da_cons (de_ixN 1 de_int) da_nil)))
    (dss_cons (ds_for (PassesOwn.never) rfl (di_zip true true rfl (f_zip g) (dv 0) (de_slice (dv 1) (do_some de_int) do_none)) (dg_tup rfl (dgs_cons (dg_name (i := 3) sc.nd rfl (.inl rfl)) (dgs_cons (dg_name (i := 4) sc.nd rfl (.inl rfl)) dgs_nil))) (dss_one (ds_append 2 (de_addI (de_mul (dv 3) (de_ixN 2 (de_neg de_int))) (dv 4)))))
    (dss_one (ds_ret (de_tupleOf rfl (f_tuple g) PyProof.Rows.boot_tuple (dv 2))))))
theorem sc_row_from : FnScope ["units", "stair", "found", "index", "ratio"] ["units", "stair"] (defScope s_row_from) := ⟨rfl, rfl, rfl, by decide +kernel, rfl, by decide +kernel, by decide +kernel⟩
theorem der_row_from {P : Program} {w : World} {K : PySem.W.Frag} {mg : Str → Option Value} {base : Heap} (g : G K mg)  (f : Addr) (cdv : Value) (A : Around) (outer : List Env) (s : Shared) (H : Hp) (E : XK) (Fm0 : Fm)
    (hr : Room 0 (A.deeper (envOfC "row_from" (defScope s_row_from) s.heap.objs.size f cdv))) : DSs (cxOf (CX0) P w K mg base ["units", "stair", "found", "index", "ratio"] "row_from" (defScope s_row_from) f cdv A outer s H E).nox (ckK K) Fm0 W0 (defBody s_row_from) t_row_from := by
  have sc := sc_row_from
  exact (dss_cons (ds_setO (i := 2) sc.nd rfl (.inl rfl) (df_lst (da_cons (de_ixN 1 de_int) da_nil)))
    (dss_cons (ds_for (PassesOwn.never) rfl (di_enum true rfl (f_enumerate g) (dv 0)) (dg_tup rfl (dgs_cons (dg_name (i := 3) sc.nd rfl (.inl rfl)) (dgs_cons (dg_name (i := 4) sc.nd rfl (.inl rfl)) dgs_nil))) (dss_one (ds_append 2 (de_sub (de_ixN 1 (de_addI (dv 3) de_int)) (de_mul (dv 4) (de_ixN 1 (dv 3)))))))
    (dss_one (ds_ret (de_tupleOf rfl (f_tuple g) PyProof.Rows.boot_tuple (dv 2))))))
theorem sc_up_stair : FnScope ["units", "numbers", "found", "ratio", "number"] ["units", "numbers"] (defScope s_up_stair) := ⟨rfl, rfl, rfl, by decide +kernel, rfl, by decide +kernel, by decide +kernel⟩
theorem der_up_stair {P : Program} {w : World} {K : PySem.W.Frag} {mg : Str → Option Value} {base : Heap} (g : G K mg)  (f : Addr) (cdv : Value) (A : Around) (outer : List Env) (s : Shared) (H : Hp) (E : XK) (Fm0 : Fm)
    (hr : Room 0 (A.deeper (envOfC "up_stair" (defScope s_up_stair) s.heap.objs.size f cdv))) : DSs (cxOf (CX0) P w K mg base ["units", "numbers", "found", "ratio", "number"] "up_stair" (defScope s_up_stair) f cdv A outer s H E).nox (ckK K) Fm0 W0 (defBody s_up_stair) t_up_stair := by
  have sc := sc_up_stair
  exact (dss_cons (ds_setO (i := 2) sc.nd rfl (.inl rfl) (df_lst (da_cons (de_max2 rfl rfl (f_max g) (by decide +kernel) (da_cons de_int (da_cons (de_ixN 1 de_int) da_nil))) da_nil)))
    (dss_cons (ds_for (PassesOwn.never) rfl (di_zip true false rfl (f_zip g) (dv 0) (de_slice (dv 1) (do_some de_int) do_none)) (dg_tup rfl (dgs_cons (dg_name (i := 3) sc.nd rfl (.inl rfl)) (dgs_cons (dg_name (i := 4) sc.nd rfl (.inl rfl)) dgs_nil))) (dss_one (ds_append 2 (de_max2 rfl rfl (f_max g) (by decide +kernel) (da_cons (dv 4) (da_cons (de_mul (dv 3) (de_ixN 2 (de_neg de_int))) da_nil))))))
    (dss_one (ds_ret (de_tupleOf rfl (f_tuple g) PyProof.Rows.boot_tuple (dv 2))))))
theorem sc_down_stair : FnScope ["units", "numbers", "found", "index"] ["units", "numbers"] (defScope s_down_stair) := ⟨rfl, rfl, rfl, by decide +kernel, rfl, by decide +kernel, by decide +kernel⟩
theorem der_down_stair {P : Program} {w : World} {K : PySem.W.Frag} {mg : Str → Option Value} {base : Heap} (g : G K mg)  (f : Addr) (cdv : Value) (A : Around) (outer : List Env) (s : Shared) (H : Hp) (E : XK) (Fm0 : Fm)
    (hr : Room 0 (A.deeper (envOfC "down_stair" (defScope s_down_stair) s.heap.objs.size f cdv))) : DSs (cxOf (CX0) P w K mg base ["units", "numbers", "found", "index"] "down_stair" (defScope s_down_stair) f cdv A outer s H E).nox (ckK K) Fm0 W0 (defBody s_down_stair) t_down_stair := by
  have sc := sc_down_stair
  exact (dss_cons (ds_if (dt_c (cm_lt (de_minL rfl rfl (f_min g) (by decide +kernel) (dv 1)) de_int)) (dss_one (ds_ret de_non)) dss_nil)
    (dss_cons (ds_setO (i := 2) sc.nd rfl (.inl rfl) (df_lst (da_cons (de_ixN 1 (de_neg de_int)) da_nil)))
    (dss_cons (ds_for (PassesOwn.never) rfl (di_down rfl (f_reversed g) rfl (f_range g) (de_len rfl (f_len g) (dv 0))) (dg_name (i := 3) sc.nd rfl (.inl rfl)) (dss_one (ds_append 2 (de_min2 rfl rfl (f_min g) (by decide +kernel) (da_cons (de_ixN 1 (dv 3)) (da_cons (de_fdiv (de_ixN 2 (de_neg de_int)) (de_ixN 0 (dv 3))) da_nil))))))
    (dss_one (ds_ret (de_tupRev rfl rfl (f_tuple g) rfl (f_reversed g) (dv 2)))))))
theorem sc_is_deed : FnScope ["units", "value"] ["units", "value"] (defScope s_is_deed) := ⟨rfl, rfl, rfl, by decide +kernel, rfl, by decide +kernel, by decide +kernel⟩
theorem der_is_deed {P : Program} {w : World} {K : PySem.W.Frag} {mg : Str → Option Value} {base : Heap} (g : G K mg) (o_is_row : Ok P w K mg base (CX0) 2 "is_row" ["units", "value"] (spP T1 K (ckK K) sp_is_row)) (f : Addr) (cdv : Value) (A : Around) (outer : List Env) (s : Shared) (H : Hp) (E : XK) (Fm0 : Fm)
    (hr : Room 2 (A.deeper (envOfC "is_deed" (defScope s_is_deed) s.heap.objs.size f cdv))) : DSs (cxOf (CX0) P w K mg base ["units", "value"] "is_deed" (defScope s_is_deed) f cdv A outer s H E).nox (ckK K) Fm0 W0 (defBody s_is_deed) t_is_deed := by
  have sc := sc_is_deed
  exact (dss_cons (ds_if (dt_w (dw_or (dt_not (dt_val (de_is_tuple rfl (f_isinstance g) rfl (f_tuple g) (dv 1)))) (dw_or (dt_c (cm_notIn (de_len rfl (f_len g) (dv 1)) (de_tup (da_cons de_int (da_cons de_int da_nil))))) (dw_or1 (dt_not (dt_val (de_is_str rfl (f_isinstance g) rfl (f_str g) (de_ixN 1 de_int)))))))) (dss_one (ds_ret de_bl)) dss_nil)
    (dss_cons (ds_if (dt_c (cm_eq (de_len rfl (f_len g) (dv 1)) de_int)) (dss_one (ds_ret (de_c (cm_eq (de_ixN 1 de_int) de_str)))) dss_nil)
    (dss_one (ds_ret (de_and (de_c (cm_in (de_ixN 1 de_int) (de_tup (da_cons de_str (da_cons de_str da_nil))))) (de_one (dc o_is_row hr (da_cons (dv 0) (da_cons (de_ixN 1 de_int) da_nil)))))))))
theorem sc_is_step : FnScope ["units", "places", "value"] ["units", "places", "value"] (defScope s_is_step) := ⟨rfl, rfl, rfl, by decide +kernel, rfl, by decide +kernel, by decide +kernel⟩
theorem der_is_step {P : Program} {w : World} {K : PySem.W.Frag} {mg : Str → Option Value} {base : Heap} (g : G K mg) (o_is_from : Ok P w K mg base (CX0) 1 "is_from" ["value", "low", "high"] (spP T1 K (ckK K) sp_is_from)) (o_is_deed : Ok P w K mg base (CX0) 3 "is_deed" ["units", "value"] (spP T1 K (ckK K) sp_is_deed)) (f : Addr) (cdv : Value) (A : Around) (outer : List Env) (s : Shared) (H : Hp) (E : XK) (Fm0 : Fm)
    (hr : Room 3 (A.deeper (envOfC "is_step" (defScope s_is_step) s.heap.objs.size f cdv))) : DSs (cxOf (CX0) P w K mg base ["units", "places", "value"] "is_step" (defScope s_is_step) f cdv A outer s H E).nox (ckK K) Fm0 W0 (defBody s_is_step) t_is_step := by
  have sc := sc_is_step
  exact (dss_cons (ds_if (dt_w (dw_or (dt_not (dt_val (de_is_tuple rfl (f_isinstance g) rfl (f_tuple g) (dv 2)))) (dw_or1 (dt_c (cm_ne (de_len rfl (f_len g) (dv 2)) de_int))))) (dss_one (ds_ret de_bl)) dss_nil)
    (dss_one (ds_ret (de_and (dc o_is_from hr (da_cons (de_ixN 2 de_int) (da_cons de_int (da_cons (de_sub (dv 1) de_int) da_nil)))) (de_and (dc o_is_deed hr (da_cons (dv 0) (da_cons (de_ixN 2 de_int) da_nil))) (de_one (dc o_is_from hr (da_cons (de_ixN 2 de_int) (da_cons de_int (da_cons (de_sub (dv 1) de_int) da_nil))))))))))
theorem sc_need_world : FnScope ["units", "value", "index", "step"] ["units", "value"] (defScope s_need_world) := ⟨rfl, rfl, rfl, by decide +kernel, rfl, by decide +kernel, by decide +kernel⟩
theorem der_need_world {P : Program} {w : World} {K : PySem.W.Frag} {mg : Str → Option Value} {base : Heap} (g : G K mg) (o_need_units : Ok P w K mg base (L2.CX P w) 3 "need_units" ["value"] (spP T1 K (ckK K) sp_need_units)) (o_is_from : Ok P w K mg base (CX0) 1 "is_from" ["value", "low", "high"] (spP T1 K (ckK K) sp_is_from)) (o_is_step : Ok P w K mg base (CX0) 4 "is_step" ["units", "places", "value"] (spP T1 K (ckK K) sp_is_step)) (f : Addr) (cdv : Value) (A : Around) (outer : List Env) (s : Shared) (H : Hp) (E : XK) (Fm0 : Fm)
    (hr : Room 4 (A.deeper (envOfC "need_world" (defScope s_need_world) s.heap.objs.size f cdv))) : DSs (cxOf (L2.CX P w) P w K mg base ["units", "value", "index", "step"] "need_world" (defScope s_need_world) f cdv A outer s H E) (ckK K) Fm0 (fun cls d _ H => E cls d H) (defBody s_need_world) t_need_world := by
  have sc := sc_need_world
  obtain ⟨_, c_MOST_PLACES_⟩ := c_MOST_PLACES g
  obtain ⟨_, c_MOST_STEPS_⟩ := c_MOST_STEPS g
  have tk : Takes (cxOf (L2.CX P w) P w K mg base ["units", "value", "index", "step"] "need_world" (defScope s_need_world) f cdv A outer s H E) (fun cls d _ H => E cls d H) := takes_of rfl rfl rfl rfl
  exact (dss_cons (ds_exprX (dcX tk o_need_units hr (da_cons (dv 0) da_nil)))
    (dss_cons (ds_if (dt_w (dw_or (dt_not (dt_val (de_is_tuple rfl (f_isinstance g) rfl (f_tuple g) (dv 1)))) (dw_or1 (dt_c (cm_ne (de_len rfl (f_len g) (dv 1)) de_int))))) (dss_one (rs_BadWorld g rfl tk hr (de_tup da_nil))) dss_nil)
    (dss_cons (ds_if (dt_not (dt_val (dc o_is_from hr (da_cons (de_ixN 1 de_int) (da_cons de_int (da_cons (de_globI rfl c_MOST_PLACES_) da_nil)))))) (dss_one (rs_BadWorld g rfl tk hr (de_tup (da_cons de_int da_nil)))) dss_nil)
    (dss_cons (ds_if (dt_w (dw_or (dt_not (dt_val (de_is_tuple rfl (f_isinstance g) rfl (f_tuple g) (de_ixN 1 de_int)))) (dw_or1 (dt_c (cm_gt (de_len rfl (f_len g) (de_ixN 1 de_int)) (de_globI rfl c_MOST_STEPS_)))))) (dss_one (rs_BadWorld g rfl tk hr (de_tup (da_cons de_int da_nil)))) dss_nil)
    (dss_cons (ds_for (passes_of rfl) rfl (di_enum true rfl (f_enumerate g) (de_ixN 1 de_int)) (dg_tup rfl (dgs_cons (dg_name (i := 2) sc.nd rfl (.inl rfl)) (dgs_cons (dg_name (i := 3) sc.nd rfl (.inl rfl)) dgs_nil))) (dss_one (ds_if (dt_not (dt_val (dc o_is_step hr (da_cons (dv 0) (da_cons (de_ixN 1 de_int) (da_cons (dv 3) da_nil)))))) (dss_one (rs_BadWorld g rfl tk hr (de_tup (da_cons de_int (da_cons (dv 2) da_nil))))) dss_nil)))
    (dss_one (ds_ret (dv 1))))))))
theorem sc_counts_of : FnScope ["units", "deed", "stair", "number"] ["units", "deed"] (defScope s_counts_of) := ⟨rfl, rfl, rfl, by decide +kernel, rfl, by decide +kernel, by decide +kernel⟩
theorem der_counts_of {P : Program} {w : World} {K : PySem.W.Frag} {mg : Str → Option Value} {base : Heap} (g : G K mg) (o_stair_from : Ok P w K mg base (CX0) 1 "stair_from" ["units", "row"] (spP T1 K (ckK K) sp_stair_from)) (f : Addr) (cdv : Value) (A : Around) (outer : List Env) (s : Shared) (H : Hp) (E : XK) (Fm0 : Fm)
    (hr : Room 1 (A.deeper (envOfC "counts_of" (defScope s_counts_of) s.heap.objs.size f cdv))) : DSs (cxOf (CX0) P w K mg base ["units", "deed", "stair", "number"] "counts_of" (defScope s_counts_of) f cdv A outer s H E).nox (ckK K) Fm0 W0 (defBody s_counts_of) t_counts_of := by
  have sc := sc_counts_of
  exact (dss_cons (ds_if (dt_c (cm_eq (de_ixN 1 de_int) de_str)) (dss_one (ds_ret (de_mulT (de_tup (da_cons de_int da_nil)) (de_addI (de_len rfl (f_len g) (dv 0)) de_int)))) dss_nil)
    (dss_cons (ds_set (i := 2) sc.nd rfl (.inl rfl) (dc o_stair_from hr (da_cons (dv 0) (da_cons (de_ixN 1 de_int) da_nil))))
    (dss_one (ds_ret (de_if (dt_c (cm_eq (de_ixN 1 de_int) de_str)) (dv 2) (de_tupleOf rfl (f_tuple g) PyProof.Rows.boot_tuple (de_fr (df_lc (own := [("number", 3)]) rfl sc.nd (di_tup (dv 2)) (blkOk_by rfl) tg_name (fun _ _ _ _ _ => pg_name (i := 3) sc.nd rfl (.inl rfl)) (fun _ _ _ _ _ F2 kin => dts_nil) (fun _ _ _ _ _ F2 kin => (de_neg (dv 3)))))))))))
theorem sc_counts_at : FnScope ["units", "world", "unit", "step"] ["units", "world", "unit"] (defScope s_counts_at) := ⟨rfl, rfl, rfl, by decide +kernel, rfl, by decide +kernel, by decide +kernel⟩
theorem der_counts_at {P : Program} {w : World} {K : PySem.W.Frag} {mg : Str → Option Value} {base : Heap} (g : G K mg) (o_counts_of : Ok P w K mg base (CX0) 2 "counts_of" ["units", "deed"] (spP T1 K (ckK K) sp_counts_of)) (f : Addr) (cdv : Value) (A : Around) (outer : List Env) (s : Shared) (H : Hp) (E : XK) (Fm0 : Fm)
    (hr : Room 2 (A.deeper (envOfC "counts_at" (defScope s_counts_at) s.heap.objs.size f cdv))) : DSs (cxOf (CX0) P w K mg base ["units", "world", "unit", "step"] "counts_at" (defScope s_counts_at) f cdv A outer s H E).nox (ckK K) Fm0 W0 (defBody s_counts_at) t_counts_at := by
  have sc := sc_counts_at
  exact (dss_one (ds_ret (de_fr (df_lc (own := [("step", 3)]) rfl sc.nd (di_tup (de_ixN 1 de_int)) (blkOk_by rfl) tg_name (fun _ _ _ _ _ => pg_name (i := 3) sc.nd rfl (.inl rfl)) (fun _ _ _ _ _ F2 kin => dts_nil) (fun _ _ _ _ _ F2 kin => (de_ix (dc o_counts_of hr (da_cons (dv 0) (da_cons (de_ixN 3 de_int) da_nil))) (dv 2)))))))
theorem sc_first_walks : FnScope ["world", "found", "line", "place", "index", "step"] ["world"] (defScope s_first_walks) := ⟨rfl, rfl, rfl, by decide +kernel, rfl, by decide +kernel, by decide +kernel⟩
theorem der_first_walks {P : Program} {w : World} {K : PySem.W.Frag} {mg : Str → Option Value} {base : Heap} (g : G K mg)  (f : Addr) (cdv : Value) (A : Around) (outer : List Env) (s : Shared) (H : Hp) (E : XK) (Fm0 : Fm)
    (hr : Room 0 (A.deeper (envOfC "first_walks" (defScope s_first_walks) s.heap.objs.size f cdv))) : DSs (cxOf (CX0) P w K mg base ["world", "found", "line", "place", "index", "step"] "first_walks" (defScope s_first_walks) f cdv A outer s H E).nox (ckK K) Fm0 W0 (defBody s_first_walks) t_first_walks := by
  have sc := sc_first_walks
  exact (dss_cons (ds_setO (i := 1) sc.nd rfl (.inl rfl) (df_disp1 (fun F2 kin => de_int) (fun F2 kin => (de_tup da_nil))))
    (dss_cons (ds_setO (i := 2) sc.nd rfl (.inl rfl) (df_lst (da_cons de_int da_nil)))
    (dss_cons (ds_while (PassesOwn.never) (dt_c (cm_neD hr.units (dv 2) (de_fr (df_lst da_nil)))) (dss_cons (ds_set (i := 3) sc.nd rfl (.inl rfl) (de_ixN 2 de_int))
    (dss_cons (ds_setO (i := 2) sc.nd rfl (.inl rfl) (df_slice (dv 2) (do_some de_int) do_none))
    (dss_one (ds_for (PassesOwn.never) rfl (di_enum true rfl (f_enumerate g) (de_ixN 0 de_int)) (dg_tup rfl (dgs_cons (dg_name (i := 4) sc.nd rfl (.inl rfl)) (dgs_cons (dg_name (i := 5) sc.nd rfl (.inl rfl)) dgs_nil))) (dss_one (ds_if (dt_w (dw_and (dt_c (cm_eq (de_ixN 5 de_int) (dv 3))) (dw_and1 (dt_c (cm_dnotN 1 (hu_of hr) (de_ixN 5 de_int)))))) (dss_cons (ds_putK 1 (hu_of hr) (de_addT (de_dixN 1 (hu_of hr) (dv 3)) (de_tup (da_cons (dv 4) da_nil))) (de_ixN 5 de_int))
    (dss_one (ds_append 2 (de_ixN 5 de_int)))) dss_nil)))))))
    (dss_one (ds_ret (dv 1))))))
theorem sc_great_walks : FnScope ["world", "counts", "start", "line", "found", "turn", "following", "index", "step", "total"] ["world", "counts", "start"] (defScope s_great_walks) := ⟨rfl, rfl, rfl, by decide +kernel, rfl, by decide +kernel, by decide +kernel⟩
theorem der_great_walks {P : Program} {w : World} {K : PySem.W.Frag} {mg : Str → Option Value} {base : Heap} (g : G K mg)  (f : Addr) (cdv : Value) (A : Around) (outer : List Env) (s : Shared) (H : Hp) (E : XK) (Fm0 : Fm)
    (hr : Room 0 (A.deeper (envOfC "great_walks" (defScope s_great_walks) s.heap.objs.size f cdv))) : DSs (cxOf (CX0) P w K mg base ["world", "counts", "start", "line", "found", "turn", "following", "index", "step", "total"] "great_walks" (defScope s_great_walks) f cdv A outer s H E).nox (ckK K) Fm0 W0 (defBody s_great_walks) t_great_walks := by
  have sc := sc_great_walks
  exact (dss_cons (ds_setO (i := 3) sc.nd rfl (.inl rfl) (df_disp1 (fun F2 kin => (dv 2)) (fun F2 kin => (de_tup (da_cons de_int (da_cons (de_tup da_nil) da_nil))))))
    (dss_cons (ds_setO (i := 4) sc.nd rfl (.inl rfl) (df_lst (da_cons (dv 3) da_nil)))
    (dss_cons (ds_for (PassesOwn.never) rfl (di_range rfl (f_range g) (de_ixN 0 de_int)) (dg_name (i := 5) sc.nd rfl (.inl rfl)) (dss_cons (ds_setO (i := 6) sc.nd rfl (.inl rfl) df_dnew)
    (dss_cons (ds_for (PassesOwn.never) rfl (di_enum true rfl (f_enumerate g) (de_ixN 0 de_int)) (dg_tup rfl (dgs_cons (dg_name (i := 7) sc.nd rfl (.inl rfl)) (dgs_cons (dg_name (i := 8) sc.nd rfl (.inl rfl)) dgs_nil))) (dss_one (ds_if (dt_c (cm_dinN 3 (hu_of hr) (de_ixN 8 de_int))) (dss_cons (ds_set (i := 9) sc.nd rfl (.inl rfl) (de_addI (de_ix (de_dixN 3 (hu_of hr) (de_ixN 8 de_int)) de_int) (de_ixN 1 (dv 7))))
    (dss_one (ds_if (dt_w (dw_or (dt_c (cm_dnotN 6 (hu_of hr) (de_ixN 8 de_int))) (dw_or1 (dt_c (cm_lt (de_ix (de_dixN 6 (hu_of hr) (de_ixN 8 de_int)) de_int) (dv 9)))))) (dss_one (ds_putK 6 (hu_of hr) (de_tup (da_cons (dv 9) (da_cons (de_addT (de_ix (de_dixN 3 (hu_of hr) (de_ixN 8 de_int)) de_int) (de_tup (da_cons (dv 7) da_nil))) da_nil))) (de_ixN 8 de_int))) dss_nil))) dss_nil)))
    (dss_cons (ds_set (i := 3) sc.nd rfl (.inl rfl) (dv 6))
    (dss_one (ds_append 4 (dv 3)))))))
    (dss_one (ds_ret (dv 4))))))
theorem sc_ring_from : FnScope ["world", "counts", "place", "line"] ["world", "counts", "place"] (defScope s_ring_from) := ⟨rfl, rfl, rfl, by decide +kernel, rfl, by decide +kernel, by decide +kernel⟩
theorem der_ring_from {P : Program} {w : World} {K : PySem.W.Frag} {mg : Str → Option Value} {base : Heap} (g : G K mg) (o_great_walks : Ok P w K mg base (CX0) 1 "great_walks" ["world", "counts", "start"] (spP T1 K (ckK K) sp_great_walks)) (f : Addr) (cdv : Value) (A : Around) (outer : List Env) (s : Shared) (H : Hp) (E : XK) (Fm0 : Fm)
    (hr : Room 1 (A.deeper (envOfC "ring_from" (defScope s_ring_from) s.heap.objs.size f cdv))) : DSs (cxOf (CX0) P w K mg base ["world", "counts", "place", "line"] "ring_from" (defScope s_ring_from) f cdv A outer s H E).nox (ckK K) Fm0 W0 (defBody s_ring_from) t_ring_from := by
  have sc := sc_ring_from
  exact (dss_cons (ds_for (PassesOwn.never) rfl (di_list (de_slice (dc o_great_walks hr (da_cons (dv 0) (da_cons (dv 1) (da_cons (dv 2) da_nil)))) (do_some de_int) do_none)) (dg_name (i := 3) sc.nd rfl (.inl rfl)) (dss_one (ds_if (dt_w (dw_and (dt_c (cm_dinN 3 (hu_of hr) (dv 2))) (dw_and1 (dt_c (cm_gt (de_ix (de_dixN 3 (hu_of hr) (dv 2)) de_int) de_int))))) (dss_one (ds_ret (de_ix (de_dixN 3 (hu_of hr) (dv 2)) de_int))) dss_nil)))
    (dss_one (ds_ret de_non)))
theorem sc_asking_ring : FnScope ["world", "counts", "walks", "place", "ring"] ["world", "counts"] (defScope s_asking_ring) := ⟨rfl, rfl, rfl, by decide +kernel, rfl, by decide +kernel, by decide +kernel⟩
theorem der_asking_ring {P : Program} {w : World} {K : PySem.W.Frag} {mg : Str → Option Value} {base : Heap} (g : G K mg) (o_first_walks : Ok P w K mg base (CX0) 1 "first_walks" ["world"] (spP T1 K (ckK K) sp_first_walks)) (o_ring_from : Ok P w K mg base (CX0) 2 "ring_from" ["world", "counts", "place"] (spP T1 K (ckK K) sp_ring_from)) (f : Addr) (cdv : Value) (A : Around) (outer : List Env) (s : Shared) (H : Hp) (E : XK) (Fm0 : Fm)
    (hr : Room 2 (A.deeper (envOfC "asking_ring" (defScope s_asking_ring) s.heap.objs.size f cdv))) : DSs (cxOf (CX0) P w K mg base ["world", "counts", "walks", "place", "ring"] "asking_ring" (defScope s_asking_ring) f cdv A outer s H E).nox (ckK K) Fm0 W0 (defBody s_asking_ring) t_asking_ring := by
  have sc := sc_asking_ring
  exact (dss_cons (ds_set (i := 2) sc.nd rfl (.inl rfl) (dc o_first_walks hr (da_cons (dv 0) da_nil)))
    (dss_cons (ds_for (PassesOwn.never) rfl (di_list (de_fr (df_sortD rfl rfl (f_sorted g) (by decide +kernel) (dv 2)))) (dg_name (i := 3) sc.nd rfl (.inl rfl)) (dss_cons (ds_set (i := 4) sc.nd rfl (.inl rfl) (dc o_ring_from hr (da_cons (dv 0) (da_cons (dv 1) (da_cons (dv 3) da_nil)))))
    (dss_one (ds_if (dt_c (cm_notN (dv 4))) (dss_one (ds_ret (de_tup (da_cons (de_dixN 2 (hu_of hr) (dv 3)) (da_cons (dv 4) da_nil))))) dss_nil))))
    (dss_one (ds_ret de_non))))
theorem sc_ring_found : FnScope ["units", "world", "unit", "found"] ["units", "world"] (defScope s_ring_found) := ⟨rfl, rfl, rfl, by decide +kernel, rfl, by decide +kernel, by decide +kernel⟩
theorem der_ring_found {P : Program} {w : World} {K : PySem.W.Frag} {mg : Str → Option Value} {base : Heap} (g : G K mg) (o_asking_ring : Ok P w K mg base (CX0) 3 "asking_ring" ["world", "counts"] (spP T1 K (ckK K) sp_asking_ring)) (o_counts_at : Ok P w K mg base (CX0) 3 "counts_at" ["units", "world", "unit"] (spP T1 K (ckK K) sp_counts_at)) (f : Addr) (cdv : Value) (A : Around) (outer : List Env) (s : Shared) (H : Hp) (E : XK) (Fm0 : Fm)
    (hr : Room 3 (A.deeper (envOfC "ring_found" (defScope s_ring_found) s.heap.objs.size f cdv))) : DSs (cxOf (CX0) P w K mg base ["units", "world", "unit", "found"] "ring_found" (defScope s_ring_found) f cdv A outer s H E).nox (ckK K) Fm0 W0 (defBody s_ring_found) t_ring_found := by
  have sc := sc_ring_found
  exact (dss_cons (ds_for (PassesOwn.never) rfl (di_range rfl (f_range g) (de_addI (de_len rfl (f_len g) (dv 0)) de_int)) (dg_name (i := 2) sc.nd rfl (.inl rfl)) (dss_cons (ds_set (i := 3) sc.nd rfl (.inl rfl) (dc o_asking_ring hr (da_cons (dv 1) (da_cons (dc o_counts_at hr (da_cons (dv 0) (da_cons (dv 1) (da_cons (dv 2) da_nil)))) da_nil))))
    (dss_one (ds_if (dt_c (cm_notN (dv 3))) (dss_one (ds_ret (de_tup (da_cons (dv 2) (da_cons (de_ixN 3 de_int) (da_cons (de_ixN 3 de_int) da_nil)))))) dss_nil))))
    (dss_one (ds_ret de_non)))
theorem sc_need_step : FnScope ["units", "world", "step"] ["units", "world", "step"] (defScope s_need_step) := ⟨rfl, rfl, rfl, by decide +kernel, rfl, by decide +kernel, by decide +kernel⟩
theorem der_need_step {P : Program} {w : World} {K : PySem.W.Frag} {mg : Str → Option Value} {base : Heap} (g : G K mg) (o_need_world : Ok P w K mg base (L2.CX P w) 5 "need_world" ["units", "value"] (spP T1 K (ckK K) sp_need_world)) (o_is_from : Ok P w K mg base (CX0) 1 "is_from" ["value", "low", "high"] (spP T1 K (ckK K) sp_is_from)) (f : Addr) (cdv : Value) (A : Around) (outer : List Env) (s : Shared) (H : Hp) (E : XK) (Fm0 : Fm)
    (hr : Room 5 (A.deeper (envOfC "need_step" (defScope s_need_step) s.heap.objs.size f cdv))) : DSs (cxOf (L2.CX P w) P w K mg base ["units", "world", "step"] "need_step" (defScope s_need_step) f cdv A outer s H E) (ckK K) Fm0 (fun cls d _ H => E cls d H) (defBody s_need_step) t_need_step := by
  have sc := sc_need_step
  have tk : Takes (cxOf (L2.CX P w) P w K mg base ["units", "world", "step"] "need_step" (defScope s_need_step) f cdv A outer s H E) (fun cls d _ H => E cls d H) := takes_of rfl rfl rfl rfl
  exact (dss_cons (ds_exprX (dcX tk o_need_world hr (da_cons (dv 0) (da_cons (dv 1) da_nil))))
    (dss_cons (ds_if (dt_not (dt_val (dc o_is_from hr (da_cons (dv 2) (da_cons de_int (da_cons (de_sub (de_len rfl (f_len g) (de_ixN 1 de_int)) de_int) da_nil)))))) (dss_one (rs_BadIndex g rfl tk hr (dv 2))) dss_nil)
    (dss_one (ds_ret (dv 2)))))
theorem sc_with_deed : FnScope ["units", "world", "step", "deed", "places", "steps", "start", "own", "goal", "changed"] ["units", "world", "step", "deed"] (defScope s_with_deed) := ⟨rfl, rfl, rfl, by decide +kernel, rfl, by decide +kernel, by decide +kernel⟩
theorem der_with_deed {P : Program} {w : World} {K : PySem.W.Frag} {mg : Str → Option Value} {base : Heap} (g : G K mg) (o_need_step : Ok P w K mg base (L2.CX P w) 6 "need_step" ["units", "world", "step"] (spP T1 K (ckK K) sp_need_step)) (o_is_deed : Ok P w K mg base (CX0) 3 "is_deed" ["units", "value"] (spP T1 K (ckK K) sp_is_deed)) (f : Addr) (cdv : Value) (A : Around) (outer : List Env) (s : Shared) (H : Hp) (E : XK) (Fm0 : Fm)
    (hr : Room 6 (A.deeper (envOfC "with_deed" (defScope s_with_deed) s.heap.objs.size f cdv))) : DSs (cxOf (L2.CX P w) P w K mg base ["units", "world", "step", "deed", "places", "steps", "start", "own", "goal", "changed"] "with_deed" (defScope s_with_deed) f cdv A outer s H E) (ckK K) Fm0 (fun cls d _ H => E cls d H) (defBody s_with_deed) t_with_deed := by
  have sc := sc_with_deed
  obtain ⟨_, c_MOST_PLACES_⟩ := c_MOST_PLACES g
  obtain ⟨_, c_MOST_STEPS_⟩ := c_MOST_STEPS g
  have tk : Takes (cxOf (L2.CX P w) P w K mg base ["units", "world", "step", "deed", "places", "steps", "start", "own", "goal", "changed"] "with_deed" (defScope s_with_deed) f cdv A outer s H E) (fun cls d _ H => E cls d H) := takes_of rfl rfl rfl rfl
  exact (dss_cons (ds_exprX (dcX tk o_need_step hr (da_cons (dv 0) (da_cons (dv 1) (da_cons (dv 2) da_nil)))))
    (dss_cons (ds_if (dt_not (dt_val (dc o_is_deed hr (da_cons (dv 0) (da_cons (dv 3) da_nil))))) (dss_one (rs_BadParameter g rfl tk hr (dv 3))) dss_nil)
    (dss_cons (ds_asg (dv 1) (dg_tup rfl (dgs_cons (dg_name (i := 4) sc.nd rfl (.inl rfl)) (dgs_cons (dg_name (i := 5) sc.nd rfl (.inl rfl)) dgs_nil))))
    (dss_cons (ds_if (dt_c (cm_gt (de_addI (dv 4) de_int) (de_globI rfl c_MOST_PLACES_))) (dss_one (rs_TooGreat g rfl tk hr (de_globI rfl c_MOST_PLACES_))) dss_nil)
    (dss_cons (ds_if (dt_c (cm_gt (de_addI (de_len rfl (f_len g) (dv 5)) de_int) (de_globI rfl c_MOST_STEPS_))) (dss_one (rs_TooGreat g rfl tk hr (de_globI rfl c_MOST_STEPS_))) dss_nil)
    (dss_cons (ds_asg (de_ixN 5 (dv 2)) (dg_tup rfl (dgs_cons (dg_name (i := 6) sc.nd rfl (.inl rfl)) (dgs_cons (dg_name (i := 7) sc.nd rfl (.inl rfl)) (dgs_cons (dg_name (i := 8) sc.nd rfl (.inl rfl)) dgs_nil)))))
    (dss_cons (ds_set (i := 9) sc.nd rfl (.inl rfl) (de_addT (de_addT (de_slice (dv 5) do_none (do_some (dv 2))) (de_tup (da_cons (de_tup (da_cons (dv 6) (da_cons (dv 7) (da_cons (dv 4) da_nil)))) da_nil))) (de_slice (dv 5) (do_some (de_addI (dv 2) de_int)) do_none)))
    (dss_one (ds_ret (de_tup (da_cons (de_addI (dv 4) de_int) (da_cons (de_addT (dv 9) (de_tup (da_cons (de_tup (da_cons (dv 4) (da_cons (dv 3) (da_cons (dv 8) da_nil)))) da_nil))) da_nil))))))))))))
theorem sc_dropped : FnScope ["items", "index"] ["items", "index"] (defScope s_dropped) := ⟨rfl, rfl, rfl, by decide +kernel, rfl, by decide +kernel, by decide +kernel⟩
theorem der_dropped {P : Program} {w : World} {K : PySem.W.Frag} {mg : Str → Option Value} {base : Heap} (g : G K mg)  (f : Addr) (cdv : Value) (A : Around) (outer : List Env) (s : Shared) (H : Hp) (E : XK) (Fm0 : Fm)
    (hr : Room 0 (A.deeper (envOfC "dropped" (defScope s_dropped) s.heap.objs.size f cdv))) : DSs (cxOf (CX0) P w K mg base ["items", "index"] "dropped" (defScope s_dropped) f cdv A outer s H E).nox (ckK K) Fm0 W0 (defBody s_dropped) t_dropped := by
  have sc := sc_dropped
  exact (dss_one (ds_ret (de_addA (de_slice (dv 0) do_none (do_some (dv 1))) (de_slice (dv 0) (do_some (de_addI (dv 1) de_int)) do_none))))
theorem sc_greatest_over : FnScope ["units", "world", "step", "unit", "counts", "bare", "others", "met", "place", "start", "deed", "goal", "sums", "line"] ["units", "world", "step", "unit"] (defScope s_greatest_over) := ⟨rfl, rfl, rfl, by decide +kernel, rfl, by decide +kernel, by decide +kernel⟩
theorem der_greatest_over {P : Program} {w : World} {K : PySem.W.Frag} {mg : Str → Option Value} {base : Heap} (g : G K mg) (o_counts_at : Ok P w K mg base (CX0) 3 "counts_at" ["units", "world", "unit"] (spP T1 K (ckK K) sp_counts_at)) (o_dropped : Ok P w K mg base (CX0) 1 "dropped" ["items", "index"] (spP T1 K (ckK K) sp_dropped)) (o_first_walks : Ok P w K mg base (CX0) 1 "first_walks" ["world"] (spP T1 K (ckK K) sp_first_walks)) (o_ring_from : Ok P w K mg base (CX0) 2 "ring_from" ["world", "counts", "place"] (spP T1 K (ckK K) sp_ring_from)) (o_great_walks : Ok P w K mg base (CX0) 1 "great_walks" ["world", "counts", "start"] (spP T1 K (ckK K) sp_great_walks)) (f : Addr) (cdv : Value) (A : Around) (outer : List Env) (s : Shared) (H : Hp) (E : XK) (Fm0 : Fm)
    (hr : Room 3 (A.deeper (envOfC "greatest_over" (defScope s_greatest_over) s.heap.objs.size f cdv))) : DSs (cxOf (L2.CX P w) P w K mg base ["units", "world", "step", "unit", "counts", "bare", "others", "met", "place", "start", "deed", "goal", "sums", "line"] "greatest_over" (defScope s_greatest_over) f cdv A outer s H E) (ckK K) Fm0 (fun cls d _ H => E cls d H) (defBody s_greatest_over) t_greatest_over := by
  have sc := sc_greatest_over
  have tk : Takes (cxOf (L2.CX P w) P w K mg base ["units", "world", "step", "unit", "counts", "bare", "others", "met", "place", "start", "deed", "goal", "sums", "line"] "greatest_over" (defScope s_greatest_over) f cdv A outer s H E) (fun cls d _ H => E cls d H) := takes_of rfl rfl rfl rfl
  exact (dss_cons (ds_set (i := 4) sc.nd rfl (.inl rfl) (dc o_counts_at hr (da_cons (dv 0) (da_cons (dv 1) (da_cons (dv 3) da_nil)))))
    (dss_cons (ds_set (i := 5) sc.nd rfl (.inl rfl) (de_tup (da_cons (de_ixN 1 de_int) (da_cons (dc o_dropped hr (da_cons (de_ixN 1 de_int) (da_cons (dv 2) da_nil))) da_nil))))
    (dss_cons (ds_set (i := 6) sc.nd rfl (.inl rfl) (dc o_dropped hr (da_cons (dv 4) (da_cons (dv 2) da_nil))))
    (dss_cons (ds_set (i := 7) sc.nd rfl (.inl rfl) (dc o_first_walks hr (da_cons (dv 1) da_nil)))
    (dss_cons (ds_for (passes_of rfl) rfl (di_list (de_fr (df_sortD rfl rfl (f_sorted g) (by decide +kernel) (dv 7)))) (dg_name (i := 8) sc.nd rfl (.inl rfl)) (dss_one (ds_if (dt_c (cm_notN (dc o_ring_from hr (da_cons (dv 5) (da_cons (dv 6) (da_cons (dv 8) da_nil)))))) (dss_one (rs_NoRow g rfl tk hr)) dss_nil)))
    (dss_cons (ds_asg (de_ix (de_ixN 1 de_int) (dv 2)) (dg_tup rfl (dgs_cons (dg_name (i := 9) sc.nd rfl (.inr rfl)) (dgs_cons (dg_name (i := 10) sc.nd rfl (.inl rfl)) (dgs_cons (dg_name (i := 11) sc.nd rfl (.inl rfl)) dgs_nil)))))
    (dss_cons (ds_if (dt_c (cm_dnotN 7 (hu_of hr) (dv 9))) (dss_one (ds_ret de_non)) dss_nil)
    (dss_cons (ds_setLc (own := [("line", 13)]) (i := 12) rfl sc.nd rfl rfl (by rfl) (di_list (dc o_great_walks hr (da_cons (dv 5) (da_cons (dv 6) (da_cons (dv 11) da_nil))))) (blkOk_by rfl) tg_name (fun _ _ _ _ _ => pg_name (i := 13) sc.nd rfl (.inl rfl)) (fun _ _ _ _ _ F2 kin => dts_one (dt_c (cm_dinN 13 (hu_of hr) (dv 9)))) (fun _ _ _ _ _ F2 kin => (de_ix (de_dixN 13 (hu_of hr) (dv 9)) de_int)))
    (dss_one (ds_ret (de_if (dt_c (cm_eqD hr.units (dv 12) (de_fr (df_lst da_nil)))) de_non (de_addI (de_ixN 4 (dv 2)) (de_maxL rfl rfl (f_max g) (by decide +kernel) (dv 12))))))))))))))
theorem sc_greatest_rings : FnScope ["units", "world", "step", "found", "unit"] ["units", "world", "step"] (defScope s_greatest_rings) := ⟨rfl, rfl, rfl, by decide +kernel, rfl, by decide +kernel, by decide +kernel⟩
theorem der_greatest_rings {P : Program} {w : World} {K : PySem.W.Frag} {mg : Str → Option Value} {base : Heap} (g : G K mg) (o_greatest_over : Ok P w K mg base (L2.CX P w) 4 "greatest_over" ["units", "world", "step", "unit"] (spP T1 K (ckK K) sp_greatest_over)) (f : Addr) (cdv : Value) (A : Around) (outer : List Env) (s : Shared) (H : Hp) (E : XK) (Fm0 : Fm)
    (hr : Room 4 (A.deeper (envOfC "greatest_rings" (defScope s_greatest_rings) s.heap.objs.size f cdv))) : DSs (cxOf (L2.CX P w) P w K mg base ["units", "world", "step", "found", "unit"] "greatest_rings" (defScope s_greatest_rings) f cdv A outer s H E) (ckK K) Fm0 (fun cls d _ H => E cls d H) (defBody s_greatest_rings) t_greatest_rings := by
  have sc := sc_greatest_rings
  have tk : Takes (cxOf (L2.CX P w) P w K mg base ["units", "world", "step", "found", "unit"] "greatest_rings" (defScope s_greatest_rings) f cdv A outer s H E) (fun cls d _ H => E cls d H) := takes_of rfl rfl rfl rfl
  exact (dss_cons (ds_setLcX (own := [("unit", 4)]) (i := 3) rfl sc.nd rfl rfl tk (fun _ _ _ _ _ h => h) rfl rfl (by rfl) (di_range rfl (f_range g) (de_addI (de_len rfl (f_len g) (dv 0)) de_int)) (blkOk_by rfl) tg_name (fun _ _ _ _ _ => pg_name (i := 4) sc.nd rfl (.inl rfl)) (fun _ _ _ _ _ F2 xe kin hx => (dcP hx o_greatest_over hr (da_cons (dv 0) (da_cons (dv 1) (da_cons (dv 2) (da_cons (dv 4) da_nil)))))))
    (dss_one (ds_ret (de_if (dt_c (cm_inN 3 de_non)) de_non (dv 3)))))
theorem sc_least_more : FnScope ["units", "world", "step", "sums"] ["units", "world", "step"] (defScope s_least_more) := ⟨rfl, rfl, rfl, by decide +kernel, rfl, by decide +kernel, by decide +kernel⟩
theorem der_least_more {P : Program} {w : World} {K : PySem.W.Frag} {mg : Str → Option Value} {base : Heap} (g : G K mg) (o_need_step : Ok P w K mg base (L2.CX P w) 6 "need_step" ["units", "world", "step"] (spP T1 K (ckK K) sp_need_step)) (o_greatest_rings : Ok P w K mg base (L2.CX P w) 5 "greatest_rings" ["units", "world", "step"] (spP T1 K (ckK K) sp_greatest_rings)) (o_zeros_of : Ok P w K mg base (CX0) 1 "zeros_of" ["units"] (spP T1 K (ckK K) sp_zeros_of)) (o_row_from : Ok P w K mg base (CX0) 1 "row_from" ["units", "stair"] (spP T1 K (ckK K) sp_row_from)) (o_up_stair : Ok P w K mg base (CX0) 1 "up_stair" ["units", "numbers"] (spP T1 K (ckK K) sp_up_stair)) (f : Addr) (cdv : Value) (A : Around) (outer : List Env) (s : Shared) (H : Hp) (E : XK) (Fm0 : Fm)
    (hr : Room 6 (A.deeper (envOfC "least_more" (defScope s_least_more) s.heap.objs.size f cdv))) : DSs (cxOf (L2.CX P w) P w K mg base ["units", "world", "step", "sums"] "least_more" (defScope s_least_more) f cdv A outer s H E) (ckK K) Fm0 (fun cls d _ H => E cls d H) (defBody s_least_more) t_least_more := by
  have sc := sc_least_more
  have tk : Takes (cxOf (L2.CX P w) P w K mg base ["units", "world", "step", "sums"] "least_more" (defScope s_least_more) f cdv A outer s H E) (fun cls d _ H => E cls d H) := takes_of rfl rfl rfl rfl
  exact (dss_cons (ds_exprX (dcX tk o_need_step hr (da_cons (dv 0) (da_cons (dv 1) (da_cons (dv 2) da_nil)))))
    (dss_cons (ds_setX (i := 3) sc.nd rfl (.inl rfl) (dcX tk o_greatest_rings hr (da_cons (dv 0) (da_cons (dv 1) (da_cons (dv 2) da_nil)))))
    (dss_one (ds_ret (de_if (dt_c (cm_isN (dv 3))) (dc o_zeros_of hr (da_cons (dv 0) da_nil)) (dc o_row_from hr (da_cons (dv 0) (da_cons (dc o_up_stair hr (da_cons (dv 0) (da_cons (dv 3) da_nil))) da_nil))))))))
theorem sc_most_more : FnScope ["units", "world", "step", "sums", "number"] ["units", "world", "step"] (defScope s_most_more) := ⟨rfl, rfl, rfl, by decide +kernel, rfl, by decide +kernel, by decide +kernel⟩
theorem der_most_more {P : Program} {w : World} {K : PySem.W.Frag} {mg : Str → Option Value} {base : Heap} (g : G K mg) (o_need_step : Ok P w K mg base (L2.CX P w) 6 "need_step" ["units", "world", "step"] (spP T1 K (ckK K) sp_need_step)) (o_ring_found : Ok P w K mg base (CX0) 4 "ring_found" ["units", "world"] (spP T1 K (ckK K) sp_ring_found)) (o_greatest_rings : Ok P w K mg base (L2.CX P w) 5 "greatest_rings" ["units", "world", "step"] (spP T1 K (ckK K) sp_greatest_rings)) (o_row_from : Ok P w K mg base (CX0) 1 "row_from" ["units", "stair"] (spP T1 K (ckK K) sp_row_from)) (o_down_stair : Ok P w K mg base (CX0) 1 "down_stair" ["units", "numbers"] (spP T1 K (ckK K) sp_down_stair)) (f : Addr) (cdv : Value) (A : Around) (outer : List Env) (s : Shared) (H : Hp) (E : XK) (Fm0 : Fm)
    (hr : Room 6 (A.deeper (envOfC "most_more" (defScope s_most_more) s.heap.objs.size f cdv))) : DSs (cxOf (L2.CX P w) P w K mg base ["units", "world", "step", "sums", "number"] "most_more" (defScope s_most_more) f cdv A outer s H E) (ckK K) Fm0 (fun cls d _ H => E cls d H) (defBody s_most_more) t_most_more := by
  have sc := sc_most_more
  have tk : Takes (cxOf (L2.CX P w) P w K mg base ["units", "world", "step", "sums", "number"] "most_more" (defScope s_most_more) f cdv A outer s H E) (fun cls d _ H => E cls d H) := takes_of rfl rfl rfl rfl
  exact (dss_cons (ds_exprX (dcX tk o_need_step hr (da_cons (dv 0) (da_cons (dv 1) (da_cons (dv 2) da_nil)))))
    (dss_cons (ds_if (dt_c (cm_notN (dc o_ring_found hr (da_cons (dv 0) (da_cons (dv 1) da_nil))))) (dss_one (rs_NoRow g rfl tk hr)) dss_nil)
    (dss_cons (ds_setX (i := 3) sc.nd rfl (.inl rfl) (dcX tk o_greatest_rings hr (da_cons (dv 0) (da_cons (dv 1) (da_cons (dv 2) da_nil)))))
    (dss_cons (ds_if (dt_c (cm_isN (dv 3))) (dss_one (ds_ret de_non)) dss_nil)
    (dss_one (ds_ret (dc o_row_from hr (da_cons (dv 0) (da_cons (dc o_down_stair hr (da_cons (dv 0) (da_cons (de_fr (df_lc (own := [("number", 4)]) rfl sc.nd (di_list (dv 3)) (blkOk_by rfl) tg_name (fun _ _ _ _ _ => pg_name (i := 4) sc.nd rfl (.inl rfl)) (fun _ _ _ _ _ F2 kin => dts_nil) (fun _ _ _ _ _ F2 kin => (de_neg (dv 4))))) da_nil))) da_nil)))))))))
theorem sc__law_mixed : FnScope ["_law_cell", "_law_k"] ["_law_cell", "_law_k"] (defScope s__law_mixed) := ⟨rfl, rfl, rfl, by decide +kernel, rfl, by decide +kernel, by decide +kernel⟩
theorem der__law_mixed {P : Program} {w : World} {K : PySem.W.Frag} {mg : Str → Option Value} {base : Heap} (g : G K mg)  (f : Addr) (cdv : Value) (A : Around) (outer : List Env) (s : Shared) (H : Hp) (E : XK) (Fm0 : Fm)
    (hr : Room 0 (A.deeper (envOfC "_law_mixed" (defScope s__law_mixed) s.heap.objs.size f cdv))) : DSs (cxOf (CX0) P w K mg base ["_law_cell", "_law_k"] "_law_mixed" (defScope s__law_mixed) f cdv A outer s H E).nox (ckK K) Fm0 W0 (defBody s__law_mixed) t__law_mixed := by
  have sc := sc__law_mixed
  exact (dss_cons (ds_set (i := 0) sc.nd rfl (.inl rfl) (de_mod (de_intOf rfl (f_int g) (dv 0)) de_int))
    (dss_one (ds_ret (de_mod (de_mul (de_mod (de_addI (de_addI (de_mul (dv 0) (de_addI de_int (de_mul (de_mul de_int (dv 1)) (dv 1)))) (de_mul de_int (dv 1))) de_int) de_int) de_int) de_int))))
theorem sc__law_units : FnScope ["_law_state", "_law_step"] ["_law_state"] (defScope s__law_units) := ⟨rfl, rfl, rfl, by decide +kernel, rfl, by decide +kernel, by decide +kernel⟩
theorem der__law_units {P : Program} {w : World} {K : PySem.W.Frag} {mg : Str → Option Value} {base : Heap} (g : G K mg) (o__law_draw : Ok P w K mg base (CX0) 2 "_law_draw" ["_law_state", "_law_limit"] (spS T1 K sp__law_draw)) (f : Addr) (cdv : Value) (A : Around) (outer : List Env) (s : Shared) (H : Hp) (E : XK) (Fm0 : Fm)
    (hr : Room 2 (A.deeper (envOfC "_law_units" (defScope s__law_units) s.heap.objs.size f cdv))) : DSs (cxOf (CX0) P w K mg base ["_law_state", "_law_step"] "_law_units" (defScope s__law_units) f cdv A outer s H E).nox (ckK K) Fm0 W0 (defBody s__law_units) t__law_units := by
  have sc := sc__law_units
  exact (dss_one (ds_ret (de_tupleOf rfl (f_tuple g) PyProof.Rows.boot_tuple (de_fr (df_lc (own := [("_law_step", 1)]) rfl sc.nd (di_range rfl (f_range g) (dcS 0 o__law_draw hr (da_cons de_int da_nil))) (blkOk_by rfl) tg_name (fun _ _ _ _ _ => pg_name (i := 1) sc.nd rfl (.inl rfl)) (fun _ _ _ _ _ F2 kin => dts_nil) (fun _ _ _ _ _ F2 kin => (de_addI de_int (dcS 0 o__law_draw hr (da_cons de_int da_nil)))))))))
theorem sc__law_sizes : FnScope ["_law_units_so", "_law_found", "_law_ratio"] ["_law_units_so"] (defScope s__law_sizes) := ⟨rfl, rfl, rfl, by decide +kernel, rfl, by decide +kernel, by decide +kernel⟩
theorem der__law_sizes {P : Program} {w : World} {K : PySem.W.Frag} {mg : Str → Option Value} {base : Heap} (g : G K mg)  (f : Addr) (cdv : Value) (A : Around) (outer : List Env) (s : Shared) (H : Hp) (E : XK) (Fm0 : Fm)
    (hr : Room 0 (A.deeper (envOfC "_law_sizes" (defScope s__law_sizes) s.heap.objs.size f cdv))) : DSs (cxOf (CX0) P w K mg base ["_law_units_so", "_law_found", "_law_ratio"] "_law_sizes" (defScope s__law_sizes) f cdv A outer s H E).nox (ckK K) Fm0 W0 (defBody s__law_sizes) t__law_sizes := by
  have sc := sc__law_sizes
  exact (dss_cons (ds_set (i := 1) sc.nd rfl (.inl rfl) (de_tup (da_cons de_int da_nil)))
    (dss_cons (ds_for (PassesOwn.never) rfl (di_tup (de_revT (dv 0))) (dg_name (i := 2) sc.nd rfl (.inl rfl)) (dss_one (ds_set (i := 1) sc.nd rfl (.inl rfl) (de_addT (de_tup (da_cons (de_mul (de_ixN 1 de_int) (dv 2)) da_nil)) (dv 1)))))
    (dss_one (ds_ret (dv 1)))))
theorem sc__law_row : FnScope ["_law_state", "_law_units_so", "_law_most", "_law_found", "_law_left", "_law_size", "_law_number"] ["_law_state", "_law_units_so", "_law_most"] (defScope s__law_row) := ⟨rfl, rfl, rfl, by decide +kernel, rfl, by decide +kernel, by decide +kernel⟩
theorem der__law_row {P : Program} {w : World} {K : PySem.W.Frag} {mg : Str → Option Value} {base : Heap} (g : G K mg) (o__law_draw : Ok P w K mg base (CX0) 2 "_law_draw" ["_law_state", "_law_limit"] (spS T1 K sp__law_draw)) (o__law_sizes : Ok P w K mg base (CX0) 1 "_law_sizes" ["_law_units_so"] (spP T1 K (ckK K) sp__law_sizes)) (f : Addr) (cdv : Value) (A : Around) (outer : List Env) (s : Shared) (H : Hp) (E : XK) (Fm0 : Fm)
    (hr : Room 2 (A.deeper (envOfC "_law_row" (defScope s__law_row) s.heap.objs.size f cdv))) : DSs (cxOf (CX0) P w K mg base ["_law_state", "_law_units_so", "_law_most", "_law_found", "_law_left", "_law_size", "_law_number"] "_law_row" (defScope s__law_row) f cdv A outer s H E).nox (ckK K) Fm0 W0 (defBody s__law_row) t__law_row := by
  have sc := sc__law_row
  exact (dss_cons (ds_par (i := 3) (j := 4) rfl sc.nd rfl rfl (by decide) rfl rfl (de_tup da_nil) (dcS 0 o__law_draw hr (da_cons (de_addI (dv 2) de_int) da_nil)) (by rfl))
    (dss_cons (ds_for (PassesOwn.never) rfl (di_tup (dc o__law_sizes hr (da_cons (dv 1) da_nil))) (dg_name (i := 5) sc.nd rfl (.inl rfl)) (dss_cons (ds_set (i := 6) sc.nd rfl (.inl rfl) (dcS 0 o__law_draw hr (da_cons (de_addI (de_fdiv (de_intOf rfl (f_int g) (dv 4)) (dv 5)) de_int) da_nil)))
    (dss_one (ds_par (i := 3) (j := 4) rfl sc.nd rfl rfl (by decide) rfl rfl (de_addT (dv 3) (de_tup (da_cons (dv 6) da_nil))) (de_sub (dv 4) (de_mul (dv 6) (dv 5))) (by rfl)))))
    (dss_one (ds_ret (dv 3)))))
theorem sc__law_beside : FnScope ["_law_one", "_law_other", "_law_near", "_law_far"] ["_law_one", "_law_other"] (defScope s__law_beside) := ⟨rfl, rfl, rfl, by decide +kernel, rfl, by decide +kernel, by decide +kernel⟩
theorem der__law_beside {P : Program} {w : World} {K : PySem.W.Frag} {mg : Str → Option Value} {base : Heap} (g : G K mg)  (f : Addr) (cdv : Value) (A : Around) (outer : List Env) (s : Shared) (H : Hp) (E : XK) (Fm0 : Fm)
    (hr : Room 0 (A.deeper (envOfC "_law_beside" (defScope s__law_beside) s.heap.objs.size f cdv))) : DSs (cxOf (CX0) P w K mg base ["_law_one", "_law_other", "_law_near", "_law_far"] "_law_beside" (defScope s__law_beside) f cdv A outer s H E).nox (ckK K) Fm0 W0 (defBody s__law_beside) t__law_beside := by
  have sc := sc__law_beside
  exact (dss_one (ds_ret (de_tupleOf rfl (f_tuple g) PyProof.Rows.boot_tuple (de_fr (df_lc (own := [("_law_near", 2), ("_law_far", 3)]) rfl sc.nd (di_zip true true rfl (f_zip g) (dv 0) (dv 1)) (blkOk_by rfl) (tg_two (by decide)) (fun _ _ _ _ _ => pg_tup rfl (pgs_cons (pg_name (i := 2) sc.nd rfl (.inl rfl)) (pgs_cons (pg_name (i := 3) sc.nd rfl (.inl rfl)) pgs_nil))) (fun _ _ _ _ _ F2 kin => dts_nil) (fun _ _ _ _ _ F2 kin => (de_addI (dv 2) (dv 3))))))))
theorem sc__law_stair : FnScope ["_law_units_so", "_law_row_here", "_law_found", "_law_ratio", "_law_number"] ["_law_units_so", "_law_row_here"] (defScope s__law_stair) := ⟨rfl, rfl, rfl, by decide +kernel, rfl, by decide +kernel, by decide +kernel⟩
theorem der__law_stair {P : Program} {w : World} {K : PySem.W.Frag} {mg : Str → Option Value} {base : Heap} (g : G K mg)  (f : Addr) (cdv : Value) (A : Around) (outer : List Env) (s : Shared) (H : Hp) (E : XK) (Fm0 : Fm)
    (hr : Room 0 (A.deeper (envOfC "_law_stair" (defScope s__law_stair) s.heap.objs.size f cdv))) : DSs (cxOf (CX0) P w K mg base ["_law_units_so", "_law_row_here", "_law_found", "_law_ratio", "_law_number"] "_law_stair" (defScope s__law_stair) f cdv A outer s H E).nox (ckK K) Fm0 W0 (defBody s__law_stair) t__law_stair := by
  have sc := sc__law_stair
  exact (dss_cons (ds_setO (i := 2) sc.nd rfl (.inl rfl) (df_lst (da_cons (de_ixN 1 de_int) da_nil)))
    (dss_cons (ds_for (PassesOwn.never) rfl (di_zip true true rfl (f_zip g) (dv 0) (de_slice (dv 1) (do_some de_int) do_none)) (dg_tup rfl (dgs_cons (dg_name (i := 3) sc.nd rfl (.inl rfl)) (dgs_cons (dg_name (i := 4) sc.nd rfl (.inl rfl)) dgs_nil))) (dss_one (ds_append 2 (de_addI (de_mul (dv 3) (de_ixN 2 (de_neg de_int))) (dv 4)))))
    (dss_one (ds_ret (de_tupleOf rfl (f_tuple g) PyProof.Rows.boot_tuple (dv 2))))))
theorem sc__law_row_of : FnScope ["_law_units_so", "_law_stair_here", "_law_found", "_law_place", "_law_ratio"] ["_law_units_so", "_law_stair_here"] (defScope s__law_row_of) := ⟨rfl, rfl, rfl, by decide +kernel, rfl, by decide +kernel, by decide +kernel⟩
theorem der__law_row_of {P : Program} {w : World} {K : PySem.W.Frag} {mg : Str → Option Value} {base : Heap} (g : G K mg)  (f : Addr) (cdv : Value) (A : Around) (outer : List Env) (s : Shared) (H : Hp) (E : XK) (Fm0 : Fm)
    (hr : Room 0 (A.deeper (envOfC "_law_row_of" (defScope s__law_row_of) s.heap.objs.size f cdv))) : DSs (cxOf (CX0) P w K mg base ["_law_units_so", "_law_stair_here", "_law_found", "_law_place", "_law_ratio"] "_law_row_of" (defScope s__law_row_of) f cdv A outer s H E).nox (ckK K) Fm0 W0 (defBody s__law_row_of) t__law_row_of := by
  have sc := sc__law_row_of
  exact (dss_cons (ds_setO (i := 2) sc.nd rfl (.inl rfl) (df_lst (da_cons (de_ixN 1 de_int) da_nil)))
    (dss_cons (ds_for (PassesOwn.never) rfl (di_enum true rfl (f_enumerate g) (dv 0)) (dg_tup rfl (dgs_cons (dg_name (i := 3) sc.nd rfl (.inl rfl)) (dgs_cons (dg_name (i := 4) sc.nd rfl (.inl rfl)) dgs_nil))) (dss_one (ds_append 2 (de_sub (de_ixN 1 (de_addI (dv 3) de_int)) (de_mul (dv 4) (de_ixN 1 (dv 3)))))))
    (dss_one (ds_ret (de_tupleOf rfl (f_tuple g) PyProof.Rows.boot_tuple (dv 2))))))
theorem sc__law_inside : FnScope ["_law_units_so", "_law_near", "_law_far", "_law_pairs_so", "_law_left", "_law_right"] ["_law_units_so", "_law_near", "_law_far"] (defScope s__law_inside) := ⟨rfl, rfl, rfl, by decide +kernel, rfl, by decide +kernel, by decide +kernel⟩
theorem der__law_inside {P : Program} {w : World} {K : PySem.W.Frag} {mg : Str → Option Value} {base : Heap} (g : G K mg) (o__law_stair : Ok P w K mg base (CX0) 1 "_law_stair" ["_law_units_so", "_law_row_here"] (spP T1 K (ckK K) sp__law_stair)) (f : Addr) (cdv : Value) (A : Around) (outer : List Env) (s : Shared) (H : Hp) (E : XK) (Fm0 : Fm)
    (hr : Room 1 (A.deeper (envOfC "_law_inside" (defScope s__law_inside) s.heap.objs.size f cdv))) : DSs (cxOf (CX0) P w K mg base ["_law_units_so", "_law_near", "_law_far", "_law_pairs_so", "_law_left", "_law_right"] "_law_inside" (defScope s__law_inside) f cdv A outer s H E).nox (ckK K) Fm0 W0 (defBody s__law_inside) t__law_inside := by
  have sc := sc__law_inside
  exact (dss_cons (ds_setO (i := 3) sc.nd rfl (.inl rfl) (df_listZip rfl rfl (f_list g) rfl (f_zip g) (dc o__law_stair hr (da_cons (dv 0) (da_cons (dv 1) da_nil))) (dc o__law_stair hr (da_cons (dv 0) (da_cons (dv 2) da_nil)))))
    (dss_one (ds_ret (de_c (cm_eqD hr.units (de_fr (df_lc (own := [("_law_left", 4), ("_law_right", 5)]) rfl sc.nd (di_list (dv 3)) (blkOk_by rfl) (tg_two (by decide)) (fun _ _ _ _ _ => pg_tup rfl (pgs_cons (pg_name (i := 4) sc.nd rfl (.inl rfl)) (pgs_cons (pg_name (i := 5) sc.nd rfl (.inl rfl)) pgs_nil))) (fun _ _ _ _ _ F2 kin => dts_one (dt_c (cm_gt (dv 4) (dv 5)))) (fun _ _ _ _ _ F2 kin => de_int))) (de_fr (df_lst da_nil)))))))
theorem sc__law_some_world : FnScope ["_law_state", "_law_units_so", "_law_places", "_law_many_so", "_law_most", "_law_places_so", "_law_steps_so", "_law_turn", "_law_start", "_law_goal", "_law_pick", "_law_word_here", "_law_row_here", "_law_deed_so"] ["_law_state", "_law_units_so", "_law_places", "_law_many_so", "_law_most"] (defScope s__law_some_world) := ⟨rfl, rfl, rfl, by decide +kernel, rfl, by decide +kernel, by decide +kernel⟩
theorem der__law_some_world {P : Program} {w : World} {K : PySem.W.Frag} {mg : Str → Option Value} {base : Heap} (g : G K mg) (o__law_draw : Ok P w K mg base (CX0) 2 "_law_draw" ["_law_state", "_law_limit"] (spS T1 K sp__law_draw)) (o__law_row : Ok P w K mg base (CX0) 3 "_law_row" ["_law_state", "_law_units_so", "_law_most"] (spS T1 K sp__law_row)) (f : Addr) (cdv : Value) (A : Around) (outer : List Env) (s : Shared) (H : Hp) (E : XK) (Fm0 : Fm)
    (hr : Room 3 (A.deeper (envOfC "_law_some_world" (defScope s__law_some_world) s.heap.objs.size f cdv))) : DSs (cxOf (CX0) P w K mg base ["_law_state", "_law_units_so", "_law_places", "_law_many_so", "_law_most", "_law_places_so", "_law_steps_so", "_law_turn", "_law_start", "_law_goal", "_law_pick", "_law_word_here", "_law_row_here", "_law_deed_so"] "_law_some_world" (defScope s__law_some_world) f cdv A outer s H E).nox (ckK K) Fm0 W0 (defBody s__law_some_world) t__law_some_world := by
  have sc := sc__law_some_world
  exact (dss_cons (ds_par (i := 5) (j := 6) rfl sc.nd rfl rfl (by decide) rfl rfl (de_addI de_int (dcS 0 o__law_draw hr (da_cons (dv 2) da_nil))) (de_tup da_nil) (by rfl))
    (dss_cons (ds_for (PassesOwn.never) rfl (di_range rfl (f_range g) (de_addI de_int (dcS 0 o__law_draw hr (da_cons (dv 3) da_nil)))) (dg_name (i := 7) sc.nd rfl (.inl rfl)) (dss_cons (ds_par (i := 8) (j := 9) rfl sc.nd rfl rfl (by decide) rfl rfl (dcS 0 o__law_draw hr (da_cons (dv 5) da_nil)) (dcS 0 o__law_draw hr (da_cons (dv 5) da_nil)) (by rfl))
    (dss_cons (ds_par (i := 10) (j := 11) rfl sc.nd rfl rfl (by decide) rfl rfl (dcS 0 o__law_draw hr (da_cons de_int da_nil)) de_str (by rfl))
    (dss_cons (ds_if (dt_c (cm_le (dv 9) (dv 8))) (dss_one (ds_set (i := 11) sc.nd rfl (.inl rfl) (de_if (dt_c (cm_eq (dv 10) de_int)) de_str (de_if (dt_c (cm_eq (dv 10) de_int)) de_str de_str)))) (dss_one (ds_if (dt_c (cm_lt (dv 10) de_int)) (dss_one (ds_set (i := 11) sc.nd rfl (.inl rfl) (de_if (dt_c (cm_lt (dv 10) de_int)) de_str de_str))) dss_nil)))
    (dss_cons (ds_set (i := 12) sc.nd rfl (.inl rfl) (dcS 0 o__law_row hr (da_cons (dv 1) (da_cons (de_if (dt_c (cm_eq (dv 11) de_str)) (dv 4) (de_addI (dv 4) (de_fdiv (dv 4) de_int))) da_nil))))
    (dss_cons (ds_set (i := 13) sc.nd rfl (.inl rfl) (de_if (dt_c (cm_eq (dv 11) de_str)) (de_tup (da_cons de_str da_nil)) (de_tup (da_cons (dv 11) (da_cons (dv 12) da_nil)))))
    (dss_one (ds_set (i := 6) sc.nd rfl (.inl rfl) (de_addT (dv 6) (de_tup (da_cons (de_tup (da_cons (dv 8) (da_cons (dv 13) (da_cons (dv 9) da_nil)))) da_nil)))))))))))
    (dss_one (ds_ret (de_tup (da_cons (dv 5) (da_cons (dv 6) da_nil)))))))
theorem sc__law_count : FnScope ["_law_units_so", "_law_deed_so", "_law_unit", "_law_number"] ["_law_units_so", "_law_deed_so", "_law_unit"] (defScope s__law_count) := ⟨rfl, rfl, rfl, by decide +kernel, rfl, by decide +kernel, by decide +kernel⟩
theorem der__law_count {P : Program} {w : World} {K : PySem.W.Frag} {mg : Str → Option Value} {base : Heap} (g : G K mg) (o__law_stair : Ok P w K mg base (CX0) 1 "_law_stair" ["_law_units_so", "_law_row_here"] (spP T1 K (ckK K) sp__law_stair)) (f : Addr) (cdv : Value) (A : Around) (outer : List Env) (s : Shared) (H : Hp) (E : XK) (Fm0 : Fm)
    (hr : Room 1 (A.deeper (envOfC "_law_count" (defScope s__law_count) s.heap.objs.size f cdv))) : DSs (cxOf (CX0) P w K mg base ["_law_units_so", "_law_deed_so", "_law_unit", "_law_number"] "_law_count" (defScope s__law_count) f cdv A outer s H E).nox (ckK K) Fm0 W0 (defBody s__law_count) t__law_count := by
  have sc := sc__law_count
  exact (dss_cons (ds_if (dt_c (cm_eq (de_ixN 1 de_int) de_str)) (dss_one (ds_ret de_int)) dss_nil)
    (dss_cons (ds_set (i := 3) sc.nd rfl (.inl rfl) (de_ix (dc o__law_stair hr (da_cons (dv 0) (da_cons (de_ixN 1 de_int) da_nil))) (dv 2)))
    (dss_one (ds_ret (de_if (dt_c (cm_eq (de_ixN 1 de_int) de_str)) (dv 3) (de_neg (dv 3)))))))
theorem sc__law_further : FnScope ["_law_units_so", "_law_world_so", "_law_unit", "_law_here", "_law_found", "_law_start", "_law_deed_so", "_law_goal", "_law_number"] ["_law_units_so", "_law_world_so", "_law_unit", "_law_here"] (defScope s__law_further) := ⟨rfl, rfl, rfl, by decide +kernel, rfl, by decide +kernel, by decide +kernel⟩
theorem der__law_further {P : Program} {w : World} {K : PySem.W.Frag} {mg : Str → Option Value} {base : Heap} (g : G K mg) (o__law_count : Ok P w K mg base (CX0) 2 "_law_count" ["_law_units_so", "_law_deed_so", "_law_unit"] (spP T1 K (ckK K) sp__law_count)) (f : Addr) (cdv : Value) (A : Around) (outer : List Env) (s : Shared) (H : Hp) (E : XK) (Fm0 : Fm)
    (hr : Room 2 (A.deeper (envOfC "_law_further" (defScope s__law_further) s.heap.objs.size f cdv))) : DSs (cxOf (CX0) P w K mg base ["_law_units_so", "_law_world_so", "_law_unit", "_law_here", "_law_found", "_law_start", "_law_deed_so", "_law_goal", "_law_number"] "_law_further" (defScope s__law_further) f cdv A outer s H E).nox (ckK K) Fm0 W0 (defBody s__law_further) t__law_further := by
  have sc := sc__law_further
  exact (dss_cons (ds_setO (i := 4) sc.nd rfl (.inl rfl) (df_listOf rfl (f_list g) PyProof.Rows.boot_list (dv 3)))
    (dss_cons (ds_for (PassesOwn.never) rfl (di_tup (de_ixN 1 de_int)) (dg_tup rfl (dgs_cons (dg_name (i := 5) sc.nd rfl (.inl rfl)) (dgs_cons (dg_name (i := 6) sc.nd rfl (.inl rfl)) (dgs_cons (dg_name (i := 7) sc.nd rfl (.inl rfl)) dgs_nil)))) (dss_cons (ds_set (i := 8) sc.nd rfl (.inl rfl) (de_addI (dc o__law_count hr (da_cons (dv 0) (da_cons (dv 6) (da_cons (dv 2) da_nil)))) (de_ixN 3 (dv 7))))
    (dss_one (ds_setIx 4 (de_max2 rfl rfl (f_max g) (by decide +kernel) (da_cons (de_ixN 4 (dv 5)) (da_cons (dv 8) da_nil))) (dv 5)))))
    (dss_one (ds_ret (dv 4)))))
theorem sc__law_leading : FnScope ["_law_world_so", "_law_places_so", "_law_found", "_law_turn", "_law_start", "_law_deed_so", "_law_goal"] ["_law_world_so", "_law_places_so"] (defScope s__law_leading) := ⟨rfl, rfl, rfl, by decide +kernel, rfl, by decide +kernel, by decide +kernel⟩
theorem der__law_leading {P : Program} {w : World} {K : PySem.W.Frag} {mg : Str → Option Value} {base : Heap} (g : G K mg)  (f : Addr) (cdv : Value) (A : Around) (outer : List Env) (s : Shared) (H : Hp) (E : XK) (Fm0 : Fm)
    (hr : Room 0 (A.deeper (envOfC "_law_leading" (defScope s__law_leading) s.heap.objs.size f cdv))) : DSs (cxOf (CX0) P w K mg base ["_law_world_so", "_law_places_so", "_law_found", "_law_turn", "_law_start", "_law_deed_so", "_law_goal"] "_law_leading" (defScope s__law_leading) f cdv A outer s H E).nox (ckK K) Fm0 W0 (defBody s__law_leading) t__law_leading := by
  have sc := sc__law_leading
  exact (dss_cons (ds_setO (i := 2) sc.nd rfl (.inl rfl) (df_listOf rfl (f_list g) PyProof.Rows.boot_list (dv 1)))
    (dss_cons (ds_for (PassesOwn.never) rfl (di_range rfl (f_range g) (de_ixN 0 de_int)) (dg_name (i := 3) sc.nd rfl (.inl rfl)) (dss_one (ds_for (PassesOwn.never) rfl (di_tup (de_ixN 0 de_int)) (dg_tup rfl (dgs_cons (dg_name (i := 4) sc.nd rfl (.inl rfl)) (dgs_cons (dg_name (i := 5) sc.nd rfl (.inl rfl)) (dgs_cons (dg_name (i := 6) sc.nd rfl (.inl rfl)) dgs_nil)))) (dss_one (ds_if (dt_w (dw_and (dt_c (cm_inN 2 (dv 6))) (dw_and1 (dt_c (cm_notInN 2 (dv 4)))))) (dss_one (ds_append 2 (dv 4))) dss_nil)))))
    (dss_one (ds_ret (dv 2)))))
theorem sc__law_needs_of : FnScope ["_law_units_so", "_law_world_so", "_law_some", "_law_lost", "_law_unit", "_law_here", "_law_turn", "_law_more", "_law_place", "_law_found", "_law_items", "_law_number"] ["_law_units_so", "_law_world_so"] (defScope s__law_needs_of) := ⟨rfl, rfl, rfl, by decide +kernel, rfl, by decide +kernel, by decide +kernel⟩
theorem der__law_needs_of {P : Program} {w : World} {K : PySem.W.Frag} {mg : Str → Option Value} {base : Heap} (g : G K mg) (o__law_further : Ok P w K mg base (CX0) 3 "_law_further" ["_law_units_so", "_law_world_so", "_law_unit", "_law_here"] (spP T1 K (ckK K) sp__law_further)) (o__law_leading : Ok P w K mg base (CX0) 1 "_law_leading" ["_law_world_so", "_law_places_so"] (spP T1 K (ckK K) sp__law_leading)) (o__law_row_of : Ok P w K mg base (CX0) 1 "_law_row_of" ["_law_units_so", "_law_stair_here"] (spP T1 K (ckK K) sp__law_row_of)) (f : Addr) (cdv : Value) (A : Around) (outer : List Env) (s : Shared) (H : Hp) (E : XK) (Fm0 : Fm)
    (hr : Room 3 (A.deeper (envOfC "_law_needs_of" (defScope s__law_needs_of) s.heap.objs.size f cdv))) : DSs (cxOf (CX0) P w K mg base ["_law_units_so", "_law_world_so", "_law_some", "_law_lost", "_law_unit", "_law_here", "_law_turn", "_law_more", "_law_place", "_law_found", "_law_items", "_law_number"] "_law_needs_of" (defScope s__law_needs_of) f cdv A outer s H E).nox (ckK K) Fm0 W0 (defBody s__law_needs_of) t__law_needs_of := by
  have sc := sc__law_needs_of
  exact (dss_cons (ds_parO (i := 2) (j := 3) rfl sc.nd rfl rfl (by decide) rfl rfl (de_fr (df_lc (own := [("_law_place", 8)]) rfl sc.nd (di_range rfl (f_range g) (de_ixN 1 de_int)) (blkOk_by rfl) tg_name (fun _ _ _ _ _ => pg_name (i := 8) sc.nd rfl (.inl rfl)) (fun _ _ _ _ _ F2 kin => dts_nil) (fun _ _ _ _ _ F2 kin => (de_fr (df_lst da_nil))))) (df_lst da_nil) (by rfl))
    (dss_cons (ds_for (PassesOwn.never) rfl (di_range rfl (f_range g) (de_addI (de_len rfl (f_len g) (dv 0)) de_int)) (dg_name (i := 4) sc.nd rfl (.inr rfl)) (dss_cons (ds_setLc (own := [("_law_place", 8)]) (i := 5) rfl sc.nd rfl rfl (by rfl) (di_range rfl (f_range g) (de_ixN 1 de_int)) (blkOk_by rfl) tg_name (fun _ _ _ _ _ => pg_name (i := 8) sc.nd rfl (.inl rfl)) (fun _ _ _ _ _ F2 kin => dts_nil) (fun _ _ _ _ _ F2 kin => de_int))
    (dss_cons (ds_if (dt_c (cm_gt (dv 4) de_int)) (dss_one (ds_setLc (own := [("_law_items", 10)]) (i := 5) rfl sc.nd rfl rfl (by rfl) (di_list (dv 2)) (blkOk_by rfl) tg_name (fun _ _ _ _ _ => pg_name (i := 10) sc.nd rfl (.inl rfl)) (fun _ _ _ _ _ F2 kin => dts_nil) (fun _ _ _ _ _ F2 kin => (de_mul (de_ixN 0 (de_sub (dv 4) de_int)) (de_ixN 10 (de_neg de_int)))))) dss_nil)
    (dss_cons (ds_for (PassesOwn.never) rfl (di_range rfl (f_range g) (de_ixN 1 de_int)) (dg_name (i := 6) sc.nd rfl (.inl rfl)) (dss_one (ds_set (i := 5) sc.nd rfl (.inl rfl) (dc o__law_further hr (da_cons (dv 0) (da_cons (dv 1) (da_cons (dv 4) (da_cons (dv 5) da_nil))))))))
    (dss_cons (ds_set (i := 7) sc.nd rfl (.inl rfl) (dc o__law_further hr (da_cons (dv 0) (da_cons (dv 1) (da_cons (dv 4) (da_cons (dv 5) da_nil))))))
    (dss_cons (ds_for (PassesOwn.never) rfl (di_range rfl (f_range g) (de_ixN 1 de_int)) (dg_name (i := 8) sc.nd rfl (.inl rfl)) (dss_one (ds_if (dt_c (cm_ne (de_ixN 7 (dv 8)) (de_ixN 5 (dv 8)))) (dss_one (ds_append 3 (dv 8))) dss_nil)))
    (dss_one (ds_setLc (own := [("_law_items", 10), ("_law_number", 11)]) (i := 2) rfl sc.nd rfl rfl (by rfl) (di_zip false false rfl (f_zip g) (dv 2) (dv 5)) (blkOk_by rfl) (tg_two (by decide)) (fun _ _ _ _ _ => pg_tup rfl (pgs_cons (pg_name (i := 10) sc.nd rfl (.inl rfl)) (pgs_cons (pg_name (i := 11) sc.nd rfl (.inl rfl)) pgs_nil))) (fun _ _ _ _ _ F2 kin => dts_nil) (fun _ _ _ _ _ F2 kin => (de_fr (df_addL (dv 10) (de_fr (df_lst (da_cons (dv 11) da_nil))))))))))))))
    (dss_cons (ds_parO (i := 3) (j := 9) rfl sc.nd rfl rfl (by decide) rfl rfl (dc o__law_leading hr (da_cons (dv 1) (da_cons (dv 3) da_nil))) (df_lst da_nil) (by rfl))
    (dss_cons (ds_for (PassesOwn.never) rfl (di_enum false rfl (f_enumerate g) (dv 2)) (dg_tup rfl (dgs_cons (dg_name (i := 8) sc.nd rfl (.inl rfl)) (dgs_cons (dg_name (i := 10) sc.nd rfl (.inl rfl)) dgs_nil))) (dss_one (ds_append 9 (de_if (dt_c (cm_inN 3 (dv 8))) de_non (dc o__law_row_of hr (da_cons (dv 0) (da_cons (dv 10) da_nil)))))))
    (dss_one (ds_ret (de_tupleOf rfl (f_tuple g) PyProof.Rows.boot_tuple (dv 9))))))))
theorem sc__law_put_in : FnScope ["_law_world_so", "_law_index", "_law_deed_so", "_law_places_so", "_law_steps_so", "_law_start", "_law_old", "_law_goal", "_law_near"] ["_law_world_so", "_law_index", "_law_deed_so"] (defScope s__law_put_in) := ⟨rfl, rfl, rfl, by decide +kernel, rfl, by decide +kernel, by decide +kernel⟩
theorem der__law_put_in {P : Program} {w : World} {K : PySem.W.Frag} {mg : Str → Option Value} {base : Heap} (g : G K mg)  (f : Addr) (cdv : Value) (A : Around) (outer : List Env) (s : Shared) (H : Hp) (E : XK) (Fm0 : Fm)
    (hr : Room 0 (A.deeper (envOfC "_law_put_in" (defScope s__law_put_in) s.heap.objs.size f cdv))) : DSs (cxOf (CX0) P w K mg base ["_law_world_so", "_law_index", "_law_deed_so", "_law_places_so", "_law_steps_so", "_law_start", "_law_old", "_law_goal", "_law_near"] "_law_put_in" (defScope s__law_put_in) f cdv A outer s H E).nox (ckK K) Fm0 W0 (defBody s__law_put_in) t__law_put_in := by
  have sc := sc__law_put_in
  exact (dss_cons (ds_asg (dv 0) (dg_tup rfl (dgs_cons (dg_name (i := 3) sc.nd rfl (.inl rfl)) (dgs_cons (dg_name (i := 4) sc.nd rfl (.inl rfl)) dgs_nil))))
    (dss_cons (ds_asg (de_ixN 4 (dv 1)) (dg_tup rfl (dgs_cons (dg_name (i := 5) sc.nd rfl (.inl rfl)) (dgs_cons (dg_name (i := 6) sc.nd rfl (.inl rfl)) (dgs_cons (dg_name (i := 7) sc.nd rfl (.inl rfl)) dgs_nil)))))
    (dss_cons (ds_set (i := 8) sc.nd rfl (.inl rfl) (de_addT (de_addT (de_slice (dv 4) do_none (do_some (dv 1))) (de_tup (da_cons (de_tup (da_cons (dv 5) (da_cons (dv 6) (da_cons (dv 3) da_nil)))) da_nil))) (de_slice (dv 4) (do_some (de_addI (dv 1) de_int)) do_none)))
    (dss_one (ds_ret (de_tup (da_cons (de_addI (dv 3) de_int) (da_cons (de_addT (dv 8) (de_tup (da_cons (de_tup (da_cons (dv 3) (da_cons (dv 2) (da_cons (dv 7) da_nil)))) da_nil))) da_nil))))))))
theorem sc__law_lives : FnScope ["_law_units_so", "_law_world_so"] ["_law_units_so", "_law_world_so"] (defScope s__law_lives) := ⟨rfl, rfl, rfl, by decide +kernel, rfl, by decide +kernel, by decide +kernel⟩
theorem der__law_lives {P : Program} {w : World} {K : PySem.W.Frag} {mg : Str → Option Value} {base : Heap} (g : G K mg) (o__law_needs_of : Ok P w K mg base (CX0) 4 "_law_needs_of" ["_law_units_so", "_law_world_so"] (spP T1 K (ckK K) sp__law_needs_of)) (f : Addr) (cdv : Value) (A : Around) (outer : List Env) (s : Shared) (H : Hp) (E : XK) (Fm0 : Fm)
    (hr : Room 4 (A.deeper (envOfC "_law_lives" (defScope s__law_lives) s.heap.objs.size f cdv))) : DSs (cxOf (CX0) P w K mg base ["_law_units_so", "_law_world_so"] "_law_lives" (defScope s__law_lives) f cdv A outer s H E).nox (ckK K) Fm0 W0 (defBody s__law_lives) t__law_lives := by
  have sc := sc__law_lives
  exact (dss_one (ds_ret (de_c (cm_notN (de_ix (dc o__law_needs_of hr (da_cons (dv 0) (da_cons (dv 1) da_nil))) de_int)))))
theorem sc__law_rows_near : FnScope ["_law_state", "_law_units_so", "_law_row_here", "_law_found", "_law_turn", "_law_spot", "_law_near"] ["_law_state", "_law_units_so", "_law_row_here"] (defScope s__law_rows_near) := ⟨rfl, rfl, rfl, by decide +kernel, rfl, by decide +kernel, by decide +kernel⟩
theorem der__law_rows_near {P : Program} {w : World} {K : PySem.W.Frag} {mg : Str → Option Value} {base : Heap} (g : G K mg) (o__law_row : Ok P w K mg base (CX0) 3 "_law_row" ["_law_state", "_law_units_so", "_law_most"] (spS T1 K sp__law_row)) (o__law_beside : Ok P w K mg base (CX0) 1 "_law_beside" ["_law_one", "_law_other"] (spP T1 K (ckK K) sp__law_beside)) (o__law_draw : Ok P w K mg base (CX0) 2 "_law_draw" ["_law_state", "_law_limit"] (spS T1 K sp__law_draw)) (f : Addr) (cdv : Value) (A : Around) (outer : List Env) (s : Shared) (H : Hp) (E : XK) (Fm0 : Fm)
    (hr : Room 3 (A.deeper (envOfC "_law_rows_near" (defScope s__law_rows_near) s.heap.objs.size f cdv))) : DSs (cxOf (CX0) P w K mg base ["_law_state", "_law_units_so", "_law_row_here", "_law_found", "_law_turn", "_law_spot", "_law_near"] "_law_rows_near" (defScope s__law_rows_near) f cdv A outer s H E).nox (ckK K) Fm0 W0 (defBody s__law_rows_near) t__law_rows_near := by
  have sc := sc__law_rows_near
  exact (dss_cons (ds_setO (i := 3) sc.nd rfl (.inl rfl) (df_lst (da_cons (dcS 0 o__law_row hr (da_cons (dv 1) (da_cons de_int da_nil))) (da_cons (dcS 0 o__law_row hr (da_cons (dv 1) (da_cons de_int da_nil))) da_nil))))
    (dss_cons (ds_if (dt_c (cm_notN (dv 2))) (dss_cons (ds_setO (i := 3) sc.nd rfl (.inl rfl) (df_addL (dv 3) (de_fr (df_lst (da_cons (dv 2) (da_cons (dc o__law_beside hr (da_cons (dv 2) (da_cons (de_ixN 3 de_int) da_nil))) da_nil))))))
    (dss_one (ds_for (PassesOwn.never) rfl (di_range rfl (f_range g) de_int) (dg_name (i := 4) sc.nd rfl (.inl rfl)) (dss_cons (ds_parO (i := 5) (j := 6) rfl sc.nd rfl rfl (by decide) rfl rfl (dcS 0 o__law_draw hr (da_cons (de_len rfl (f_len g) (dv 2)) da_nil)) (df_listOf rfl (f_list g) PyProof.Rows.boot_list (dv 2)) (by rfl))
    (dss_cons (ds_setIx 6 (de_max2 rfl rfl (f_max g) (by decide +kernel) (da_cons de_int (da_cons (de_addI (de_ixN 6 (dv 5)) (de_ix (de_fr (df_lst (da_cons de_int (da_cons (de_neg de_int) (da_cons (de_neg de_int) da_nil))))) (dv 4))) da_nil))) (dv 5))
    (dss_one (ds_append 3 (de_tupleOf rfl (f_tuple g) PyProof.Rows.boot_tuple (dv 6))))))))) dss_nil)
    (dss_one (ds_ret (dv 3)))))
end Yd
set_option Elab.async false
set_option linter.all false
set_option maxRecDepth 100000
set_option maxHeartbeats 1000000
/-! # Readings, step by step -/
namespace Yd
open PySem PySem.Spec PyProof.Rows L2 LamX
section
variable {ρ : En} {K : Ends2} {Q : PyData → En → Prop} {Qb : Bool → En → Prop} {Qa : List PyData → En → Prop} {ta tb tc : RE} {tx ty : RT} {t : RA} {u v : RS} {ti0 : RI} {g : RG} {gs : RGs} {d : PyData} {ds : List PyData} {i j : Nat}
@[simp ↓] theorem r_var : dVar i ρ Q = (match ρ.sl[i]? with | some (.s d) => Q d ρ | some (.o d) => Q d (ρ.put i (.s d)) | _ => False) := rfl
@[simp ↓] theorem r_put {l : List Sl} {n : Nat} {x : Sl} : En.put ⟨l, n⟩ i x = ⟨l.set i x, n⟩ := rfl
@[simp ↓] theorem r_c : dC d ρ Q = Q d ρ := rfl
@[simp ↓] theorem r_nil : dNil ρ Qa = Qa [] ρ := rfl
@[simp ↓] theorem r_cons : dCons ta t ρ Qa = ta ρ fun x ρ1 => t ρ1 fun xs ρ2 => Qa (x :: xs) ρ2 := rfl
@[simp ↓] theorem r_tup : dTup t ρ Q = t ρ fun ds ρ' => ds.length ≤ 1000 ∧ Q (.tuple ds) ρ' := rfl
@[simp ↓] theorem r_lst : dLst t ρ Q = t ρ fun ds ρ' => ds.length ≤ 1000 ∧ Q (.list ds) ρ' := rfl
@[simp ↓] theorem r_op {k : K2} : dOp k ta tb ρ Q = ta ρ fun x ρ1 => tb ρ1 fun y ρ2 => k x y fun d => Q d ρ2 := rfl
@[simp ↓] theorem r_kI {C : Int → Int → Prop} {f : Int → Int → PyData} {Q1 : PyData → Prop} {a b : Int} : kI C f (.int a) (.int b) Q1 = (C a b ∧ Q1 (f a b)) := rfl
@[simp ↓] theorem r_kI0 {f : Int → Int → PyData} {Q1 : PyData → Prop} {a b : Int} : kI0 f (.int a) (.int b) Q1 = Q1 (f a b) := rfl
@[simp ↓] theorem r_chain {k k' : Int → Int → Bool} : dChain k k' ta tb tc ρ Q = ta ρ fun x ρ1 => tb ρ1 fun y ρ2 => kChA k x y (fun j => tc ρ2 fun z ρ3 => kChB k' j z fun d => Q d ρ3) (Q (.bool false) ρ2) := rfl
@[simp ↓] theorem r_chA {k : Int → Int → Bool} {a b : Int} {T : Int → Prop} {N : Prop} : kChA k (.int a) (.int b) T N = (if k a b = true then T b else N) := rfl
@[simp ↓] theorem r_chB {k : Int → Int → Bool} {a b : Int} {Q1 : PyData → Prop} : kChB k a (.int b) Q1 = Q1 (.bool (k a b)) := rfl
@[simp ↓] theorem r_un {k : PyData → (PyData → Prop) → Prop} : dUn k ta ρ Q = ta ρ fun x ρ1 => k x fun d => Q d ρ1 := rfl
@[simp ↓] theorem r_neg {a : Int} {Q1 : PyData → Prop} : kNeg (.int a) Q1 = Q1 (.int (-a)) := rfl
@[simp ↓] theorem r_kB {b : Bool} {Q1 : Bool → Prop} : kB (.bool b) Q1 = Q1 b := rfl
@[simp ↓] theorem r_test : dTest ta ρ Qb = ta ρ fun d ρ' => kB d fun b => Qb b ρ' := rfl
@[simp ↓] theorem r_not : dNot tx ρ Qb = tx ρ fun b ρ' => Qb (!b) ρ' := rfl
@[simp ↓] theorem r_and : dAnd tx ty ρ Qb = tx ρ fun c ρ1 => if c = true then ty ρ1 Qb else Qb false ρ1 := rfl
@[simp ↓] theorem r_or : dOr tx ty ρ Qb = tx ρ fun c ρ1 => if c = true then Qb true ρ1 else ty ρ1 Qb := rfl
@[simp ↓] theorem r_andV : dAndV ta tb ρ Q = ta ρ fun x ρ1 => kB x fun c => if c = true then tb ρ1 Q else Q (.bool false) ρ1 := rfl
@[simp ↓] theorem r_orV : dOrV ta tb ρ Q = ta ρ fun x ρ1 => kB x fun c => if c = true then Q (.bool true) ρ1 else tb ρ1 Q := rfl
@[simp ↓] theorem r_notV : dNotV ta ρ Q = ta ρ fun x ρ1 => kB x fun c => Q (.bool (!c)) ρ1 := rfl
@[simp ↓] theorem r_if : dIf tx ta tb ρ Q = tx ρ fun c ρ1 => if c = true then ta ρ1 Q else tb ρ1 Q := rfl
@[simp ↓] theorem r_eqSi {neg : Bool} {a b : Int} {Q1 : PyData → Prop} : kEqS neg (.int a) (.int b) Q1 = Q1 (.bool (if neg then !decide (a = b) else decide (a = b))) := rfl
@[simp ↓] theorem r_eqSs {neg : Bool} {a b : Str} {Q1 : PyData → Prop} : kEqS neg (.str a) (.str b) Q1 = Q1 (.bool (if neg then !decide (a = b) else decide (a = b))) := rfl
@[simp ↓] theorem r_eqD {neg : Bool} {a b : PyData} {Q1 : PyData → Prop} : kEqD neg a b Q1 = (SeqAt.shaped a = true ∧ SeqAt.shaped b = true ∧ Q1 (.bool (if neg then !PyData.eqv a b else PyData.eqv a b))) := rfl
@[simp ↓] theorem r_inT {neg : Bool} {x : PyData} {Q1 : PyData → Prop} : kIn neg x (.tuple ds) Q1 = (flatD x = true ∧ ds.all flatD = true ∧ Q1 (.bool (if neg then !inD x ds else inD x ds))) := rfl
@[simp ↓] theorem r_inL {neg : Bool} {x : PyData} {Q1 : PyData → Prop} : kIn neg x (.list ds) Q1 = (flatD x = true ∧ ds.all flatD = true ∧ Q1 (.bool (if neg then !inD x ds else inD x ds))) := rfl
@[simp ↓] theorem r_catT {a b : List PyData} {Q1 : PyData → Prop} : kCatT (.tuple a) (.tuple b) Q1 = (a.length + b.length ≤ 1000 ∧ Q1 (.tuple (a ++ b))) := rfl
@[simp ↓] theorem r_catAT {a b : List PyData} {Q1 : PyData → Prop} : kCatA (.tuple a) (.tuple b) Q1 = (a.length + b.length ≤ 1000 ∧ Q1 (.tuple (a ++ b))) := rfl
@[simp ↓] theorem r_catAL {a b : List PyData} {Q1 : PyData → Prop} : kCatA (.list a) (.list b) Q1 = (a.length + b.length ≤ 1000 ∧ Q1 (.list (a ++ b))) := rfl
@[simp ↓] theorem r_catL {a b : List PyData} {Q1 : PyData → Prop} : kCatL (.list a) (.list b) Q1 = (a.length + b.length ≤ 1000 ∧ Q1 (.list (a ++ b))) := rfl
@[simp ↓] theorem r_repL {a : List PyData} {k : Int} {Q1 : PyData → Prop} : kRepL (.list a) (.int k) Q1 = (0 ≤ k ∧ k ≤ 1000 ∧ a.length ≤ 1000 ∧ Q1 (.list (List.replicate k.toNat a).flatten)) := rfl
@[simp ↓] theorem r_repT {a : List PyData} {k : Int} {Q1 : PyData → Prop} : kRepT (.tuple a) (.int k) Q1 = (a ≠ [] ∧ 1 ≤ k ∧ k ≤ 1000 ∧ a.length ≤ 1000 ∧ Q1 (.tuple (List.replicate k.toNat a).flatten)) := rfl
@[simp ↓] theorem r_ixT {k : Int} {Q1 : PyData → Prop} : kIx (.tuple ds) (.int k) Q1 = (∃ d, atI ds k = some d ∧ Q1 d) := rfl
@[simp ↓] theorem r_ixL {k : Int} {Q1 : PyData → Prop} : kIx (.list ds) (.int k) Q1 = (∃ d, atI ds k = some d ∧ Q1 d) := rfl
@[simp ↓] theorem r_slotD {Q1 : PyData → Prop} : slotD ρ i Q1 = (match ρ.sl[i]? with | some (.s d) => Q1 d | some (.o d) => Q1 d | _ => False) := rfl
@[simp ↓] theorem r_ixN : dIxN i ta ρ Q = slotD ρ i fun _ => ta ρ fun y ρ1 => slotD ρ1 i fun x => kIx x y fun d => Q d ρ1 := rfl
@[simp ↓] theorem r_kInt {n : Int} {Q1 : Int → Prop} : kInt (.int n) Q1 = Q1 n := rfl
@[simp ↓] theorem r_noPart {Qo : Option Int → En → Prop} : dNoPart ρ Qo = Qo none ρ := rfl
@[simp ↓] theorem r_part {Qo : Option Int → En → Prop} : dPart ta ρ Qo = ta ρ fun d ρ' => kInt d fun n => Qo (some n) ρ' := rfl
@[simp ↓] theorem r_slT {lo hi : Option Int} {Q1 : PyData → Prop} : kSl lo hi (.tuple ds) Q1 = Q1 (.tuple (cutG ds lo hi)) := rfl
@[simp ↓] theorem r_slL {lo hi : Option Int} {Q1 : PyData → Prop} : kSl lo hi (.list ds) Q1 = Q1 (.list (cutG ds lo hi)) := rfl
@[simp ↓] theorem r_slLL {lo hi : Option Int} {Q1 : PyData → Prop} : kSlL lo hi (.list ds) Q1 = Q1 (.list (cutG ds lo hi)) := rfl
@[simp ↓] theorem r_sl {k : Option Int → Option Int → PyData → (PyData → Prop) → Prop} {tl th : RO} : dSl k ta tl th ρ Q = ta ρ fun x ρ1 => tl ρ1 fun lo ρ2 => th ρ2 fun hi ρ3 => k lo hi x fun d => Q d ρ3 := rfl
@[simp ↓] theorem r_callB {k : KL} : dCallB k t ρ Q = t ρ fun ds ρ' => k ds fun d => Q d ρ' := rfl
@[simp ↓] theorem r_lenT {Q1 : PyData → Prop} : kLen [.tuple ds] Q1 = Q1 (.int (ds.length : Nat)) := rfl
@[simp ↓] theorem r_lenL {Q1 : PyData → Prop} : kLen [.list ds] Q1 = Q1 (.int (ds.length : Nat)) := rfl
@[simp ↓] theorem r_intOf {n : Int} {Q1 : PyData → Prop} : kIntOf [.int n] Q1 = Q1 (.int n) := rfl
@[simp ↓] theorem r_listL {Q1 : PyData → Prop} : kListOf [.list ds] Q1 = Q1 (.list ds) := rfl
@[simp ↓] theorem r_listT {Q1 : PyData → Prop} : kListOf [.tuple ds] Q1 = Q1 (.list ds) := rfl
@[simp ↓] theorem r_tupL {Q1 : PyData → Prop} : kTupleOf [.list ds] Q1 = Q1 (.tuple ds) := rfl
@[simp ↓] theorem r_tupT {Q1 : PyData → Prop} : kTupleOf [.tuple ds] Q1 = Q1 (.tuple ds) := rfl
@[simp ↓] theorem r_max2 {a b : Int} {Q1 : PyData → Prop} : kMax2 [.int a, .int b] Q1 = Q1 (.int (if b > a then b else a)) := rfl
@[simp ↓] theorem r_min2 {a b : Int} {Q1 : PyData → Prop} : kMin2 [.int a, .int b] Q1 = Q1 (.int (if b < a then b else a)) := rfl
@[simp ↓] theorem r_revT {Q1 : PyData → Prop} : kRevT (.list ds) Q1 = Q1 (.tuple ds.reverse) := rfl
@[simp ↓] theorem r_revTu {Q1 : PyData → Prop} : kRevTu (.tuple ds) Q1 = Q1 (.tuple ds.reverse) := rfl
@[simp ↓] theorem r_next : dNext K ρ = K.nx ρ := rfl
@[simp ↓] theorem r_seq : dSeq u v K ρ = u { K with nx := v K } ρ := rfl
@[simp ↓] theorem r_drop : dDrop ta K ρ = ta ρ fun _ ρ' => K.nx ρ' := rfl
@[simp ↓] theorem r_ret : dRet ta K ρ = ta ρ fun d ρ' => K.rt d ρ' := rfl
@[simp ↓] theorem r_ifS : dIfS tx u v K ρ = tx ρ fun b ρ1 => if b = true then u K ρ1 else v K ρ1 := rfl
@[simp ↓] theorem r_set : dSet i ta K ρ = ta ρ fun d ρ' => K.nx (ρ'.put i (.s d)) := rfl
@[simp ↓] theorem r_setO : dSetO i ta K ρ = ta ρ fun d ρ' => K.nx (ρ'.put i (.o d)) := rfl
@[simp ↓] theorem r_gName {Qg : En → Prop} : dgName i d ρ Qg = Qg (ρ.put i (.s d)) := rfl
@[simp ↓] theorem r_gNil {Qg : En → Prop} : dgNil [] ρ Qg = Qg ρ := rfl
@[simp ↓] theorem r_gCons {Qg : En → Prop} : dgCons g gs (d :: ds) ρ Qg = g d ρ fun ρ1 => gs ds ρ1 Qg := rfl
@[simp ↓] theorem r_gTup {n : Nat} {Qg : En → Prop} : dgTup n gs (.tuple ds) ρ Qg = (ds.length = n ∧ gs ds ρ Qg) := rfl
@[simp ↓] theorem r_asg : dAsg ta g K ρ = ta ρ fun d ρ' => g d ρ' K.nx := rfl
@[simp ↓] theorem r_par : dPar i j ta tb K ρ = ta ρ fun d ρ1 => tb ρ1 fun d' ρ2 => K.nx ((ρ2.put i (.s d)).put j (.s d')) := rfl
@[simp ↓] theorem r_parO : dParO i j ta tb K ρ = ta ρ fun d ρ1 => tb ρ1 fun d' ρ2 => K.nx ((ρ2.put i (.s d)).put j (.o d')) := rfl
@[simp ↓] theorem r_ownL {Q1 : List PyData → Prop} : ownL ρ i Q1 = (match ρ.sl[i]? with | some (.o (.list ds)) => Q1 ds | _ => False) := rfl
@[simp ↓] theorem r_ownD {Q1 : List (PyData × PyData) → Prop} : ownD ρ i Q1 = (match ρ.sl[i]? with | some (.o (.dict ds)) => Q1 ds | _ => False) := rfl
@[simp ↓] theorem r_append : dAppend i ta K ρ = ownL ρ i fun _ => ta ρ fun d ρ1 => ownL ρ1 i fun ds => ds.length ≤ 1000 ∧ K.nx (ρ1.put i (.o (.list (ds ++ [d])))) := rfl
@[simp ↓] theorem r_setIx : dSetIx i ta tb K ρ = ta ρ fun d ρ1 => ownL ρ1 i fun _ => tb ρ1 fun y ρ2 => ownL ρ2 i fun ds => kInt y fun n => ∃ j, ixN ds.length n = some j ∧ K.nx (ρ2.put i (.o (.list (ds.set j d)))) := rfl
@[simp ↓] theorem r_putK : dPutK i ta tb K ρ = ta ρ fun d ρ1 => ownD ρ1 i fun _ => tb ρ1 fun y ρ2 => ownD ρ2 i fun ds => kInt y fun n => ds.length ≤ 1000 ∧ K.nx (ρ2.put i (.o (.dict (dPut ds n d)))) := rfl
@[simp ↓] theorem r_kSqL {Q1 : List PyData → Prop} : kSq false (.list ds) Q1 = Q1 ds := rfl
@[simp ↓] theorem r_kSqT {Q1 : List PyData → Prop} : kSq true (.tuple ds) Q1 = Q1 ds := rfl
@[simp ↓] theorem r_iList : diList ta ρ Qa = ta ρ fun d ρ' => kSq false d fun ds => Qa ds ρ' := rfl
@[simp ↓] theorem r_iTup : diTup ta ρ Qa = ta ρ fun d ρ' => kSq true d fun ds => Qa ds ρ' := rfl
@[simp ↓] theorem r_iEnum {k : Bool} : diEnum k ta ρ Qa = ta ρ fun d ρ' => kSq k d fun ds => Qa (enumD ds) ρ' := rfl
@[simp ↓] theorem r_iZip {k l : Bool} : diZip k l ta tb ρ Qa = ta ρ fun d ρ1 => tb ρ1 fun d' ρ2 => kSq k d fun ds => kSq l d' fun es => Qa (zipD ds es) ρ2 := rfl
@[simp ↓] theorem r_iRange : diRange ta ρ Qa = ta ρ fun d ρ' => kInt d fun n => -(2 ^ 62) ≤ n ∧ n < 2 ^ 62 ∧ Qa (rangeD n.toNat) ρ' := rfl
@[simp ↓] theorem r_iDown : diDown ta ρ Qa = ta ρ fun d ρ' => kInt d fun n => 0 ≤ n ∧ n < 2 ^ 62 ∧ Qa (rangeDown n.toNat) ρ' := rfl
@[simp ↓] theorem r_for : dFor ti0 g u K ρ = ti0 ρ fun items ρ1 => forW g u K items ρ1 := rfl
@[simp ↓] theorem r_forNil : forW g u K [] ρ = K.nx ρ := rfl
@[simp ↓] theorem r_lc {tt : RT} {vs : List Nat} : dLc ti0 g tt ta vs ρ Q = ti0 ρ fun items ρ1 => items.length ≤ 1000 ∧ lcW g tt ta vs Q items [] (clr ρ1 vs) := rfl
@[simp ↓] theorem r_lcNil {tt : RT} {vs : List Nat} {acc : List PyData} : lcW g tt ta vs Q [] acc ρ = Q (.list acc) ρ := rfl
@[simp ↓] theorem r_clrN : clr ρ [] = ρ := rfl
@[simp ↓] theorem r_clrC {k : Nat} {ks : List Nat} : clr ρ (k :: ks) = (clr ρ ks).put k .u := rfl
@[simp ↓] theorem r_yes : dYes ρ Qb = Qb true ρ := rfl
@[simp ↓] theorem r_call {sp : Spc} : dCall sp t ρ Q = t ρ fun ds ρ' => sp ds (fun d => Q d ρ') (fun _ => False) := rfl
@[simp ↓] theorem r_callS {sps : SpcS} : dCallS i sps t ρ Q = (ρ.sl[i]? = some .st ∧ t ρ fun ds ρ' => sps ds ρ'.g fun d g => Q d ⟨ρ'.sl, g⟩) := rfl
@[simp ↓] theorem r_callX {sp : Spc} {Qx : Ex → En → Prop} : dCallX sp t ρ Q Qx = t ρ fun ds ρ' => sp ds (fun d => Q d ρ') (fun x => Qx x ρ') := rfl
@[simp ↓] theorem r_dropX {tx : RX} : dDropX tx K ρ = tx ρ (fun _ ρ' => K.nx ρ') K.ex := rfl
@[simp ↓] theorem r_setX {tx : RX} : dSetX i tx K ρ = tx ρ (fun d ρ' => K.nx (ρ'.put i (.s d))) K.ex := rfl
@[simp ↓] theorem r_raise {k : EK} : dRaise k ta K ρ = ta ρ fun d ρ' => K.ex (k, d) ρ' := rfl
@[simp ↓] theorem r_raise0 : dRaise0 K ρ = K.ex (.norow, .none) ρ := rfl
@[simp ↓] theorem r_disp1 : dDisp1 ta tb ρ Q = ta ρ fun y ρ1 => kInt y fun n => tb ρ1 fun d ρ2 => Q (.dict [(.int n, d)]) ρ2 := rfl
@[simp ↓] theorem r_dinI {neg : Bool} {kvs : List (PyData × PyData)} {n : Int} {Q1 : PyData → Prop} : kDin neg (.int n) (.dict kvs) Q1 = Q1 (.bool (if neg then !(dGet kvs n).isSome else (dGet kvs n).isSome)) := rfl
@[simp ↓] theorem r_dixI {kvs : List (PyData × PyData)} {n : Int} {Q1 : PyData → Prop} : kDix (.dict kvs) (.int n) Q1 = (∃ d, dGet kvs n = some d ∧ Q1 d) := rfl
@[simp ↓] theorem r_dinN {neg : Bool} : dDinN neg i ta ρ Q = ta ρ fun y ρ1 => slotD ρ1 i fun x => kDin neg y x fun d => Q d ρ1 := rfl
@[simp ↓] theorem r_dixN : dDixN i ta ρ Q = slotD ρ i fun _ => ta ρ fun y ρ1 => slotD ρ1 i fun x => kDix x y fun d => Q d ρ1 := rfl
@[simp ↓] theorem r_inN {neg : Bool} : dInN neg i ta ρ Q = ta ρ fun y ρ1 => slotD ρ1 i fun x => kIn neg y x fun d => Q d ρ1 := rfl
@[simp ↓] theorem r_isi {T : String} {Q1 : PyData → Prop} : kIsi T d Q1 = Q1 (.bool (isiD T d)) := rfl
@[simp ↓] theorem r_isN {Q1 : PyData → Prop} : kIsN d Q1 = Q1 (.bool (isNoneD d)) := rfl
@[simp ↓] theorem r_notN {Q1 : PyData → Prop} : kNotN d Q1 = Q1 (.bool (!isNoneD d)) := rfl
@[simp ↓] theorem r_endsN {Q1 : PyData → Prop} {R1 : Ex → Prop} : (defEnds Q1 R1).nx ρ = Q1 .none := rfl
@[simp ↓] theorem r_endsR {Q1 : PyData → Prop} {R1 : Ex → Prop} : (defEnds Q1 R1).rt d ρ = Q1 d := rfl
@[simp ↓] theorem r_endsX {Q1 : PyData → Prop} {R1 : Ex → Prop} {x : Ex} : (defEnds Q1 R1).ex x ρ = R1 x := rfl
@[simp ↓] theorem r_endsSN {Q1 : PyData → Nat → Prop} : (defEndsS Q1).nx ρ = Q1 .none ρ.g := rfl
@[simp ↓] theorem r_endsSR {Q1 : PyData → Nat → Prop} : (defEndsS Q1).rt d ρ = Q1 d ρ.g := rfl
end
@[simp] theorem isi_int (v : PyData) : isiD "int" v = (match v with | .int _ => true | .bool _ => true | _ => false) := by cases v <;> first | rfl | kernel_rfl
@[simp] theorem isi_bool (v : PyData) : isiD "bool" v = (match v with | .bool _ => true | _ => false) := by cases v <;> first | rfl | kernel_rfl
@[simp] theorem isi_tuple (v : PyData) : isiD "tuple" v = (match v with | .tuple _ => true | _ => false) := by cases v <;> first | rfl | kernel_rfl
@[simp] theorem isi_list (v : PyData) : isiD "list" v = (match v with | .list _ => true | _ => false) := by cases v <;> first | rfl | kernel_rfl
@[simp] theorem isi_str (v : PyData) : isiD "str" v = (match v with | .str _ => true | _ => false) := by cases v <;> first | rfl | kernel_rfl
@[simp ↓] theorem r_ti {xs : List Int} : ti xs = .tuple (xs.map PyData.int) := rfl
@[simp ↓] theorem r_li {xs : List Int} : li xs = .list (xs.map PyData.int) := rfl
@[simp ↓] theorem r_st0 {N : List Str} {ds : List PyData} : st0 N ds = ds.map Sl.s ++ List.replicate (N.length - ds.length) .u := rfl
@[simp ↓] theorem r_st0S {N : List Str} {ds : List PyData} : st0S N ds = .st :: (ds.map Sl.s ++ List.replicate (N.length - (ds.length + 1)) .u) := rfl
@[simp] theorem atI_nat {α : Type} (ds : List α) (k : Nat) : atI ds (k : Int) = ds[k]? := by
  unfold atI ixN
  rw [if_pos (by omega)]
  by_cases h : k < ds.length
  · rw [if_pos (by omega)]; simp
  · rw [if_neg (by omega)]
    rw [List.getElem?_eq_none (by omega)]
    rfl
@[simp] theorem atI_0 {α : Type} (ds : List α) : atI ds 0 = ds[0]? := atI_nat ds 0
@[simp] theorem atI_1 {α : Type} (ds : List α) : atI ds 1 = ds[1]? := atI_nat ds 1
@[simp] theorem atI_2 {α : Type} (ds : List α) : atI ds 2 = ds[2]? := atI_nat ds 2
@[simp] theorem atI_last {α : Type} (xs : List α) (x : α) : atI (xs ++ [x]) (-1) = some x := by
  unfold atI ixN
  rw [if_neg (by omega), if_pos (by simp; omega)]
  have e : (-1 + (((xs ++ [x]).length : Nat) : Int)).toNat = xs.length := by
    rw [List.length_append, List.length_singleton]; omega
  rw [e]
  simp
@[simp] theorem cut_1 {α : Type} (xs : List α) : cutG xs (some 1) none = xs.drop 1 := by
  unfold cutG
  have e : HT.sIx xs.length 0 (some 1) = min 1 xs.length := HT.sIx_nat xs.length 0 1
  rw [e, HT.sIx_none]
  cases xs with
  | nil => rfl
  | cons x xs =>
    have e2 : min 1 (x :: xs).length = 1 := by simp
    rw [e2]
    apply List.take_of_length_le
    simp
@[simp] theorem cut_from {α : Type} (xs : List α) (k : Nat) : cutG xs (some (k : Int)) none = xs.drop k := by
  unfold cutG
  rw [HT.sIx_nat, HT.sIx_none]
  by_cases h : k ≤ xs.length
  · rw [Nat.min_eq_left h]
    apply List.take_of_length_le
    simp
  · rw [Nat.min_eq_right (by omega), List.drop_eq_nil_of_le (Nat.le_refl _), List.drop_eq_nil_of_le (by omega)]
    simp
@[simp] theorem cut_from1 {α : Type} (xs : List α) (k : Nat) : cutG xs (some ((k : Int) + 1)) none = xs.drop (k + 1) := cut_from xs (k + 1)
@[simp] theorem cut_to {α : Type} (xs : List α) (k : Nat) : cutG xs none (some (k : Int)) = xs.take k := by
  unfold cutG
  rw [HT.sIx_nat, HT.sIx_none, List.drop_zero, Nat.sub_zero]
  by_cases h : k ≤ xs.length
  · rw [Nat.min_eq_left h]
  · rw [Nat.min_eq_right (by omega), List.take_of_length_le (Nat.le_refl _), List.take_of_length_le (by omega)]
theorem q_is_from {v : PyData} {lo hi : Int} {Q : PyData → Prop} {R : Ex → Prop} : sp_is_from [v, .int lo, .int hi] Q R ↔ Q (.bool (isFrom v lo hi)) :=
  ⟨fun ⟨_, _, _, e, q⟩ => by cases e; exact q, fun q => ⟨_, _, _, rfl, q⟩⟩
theorem q_is_row {us : List PyData} {v : PyData} {Q : PyData → Prop} {R : Ex → Prop} : sp_is_row [.tuple us, v] Q R ↔ Q (.bool (isRow us.length v)) :=
  ⟨fun ⟨_, _, e, q⟩ => by cases e; exact q, fun q => ⟨_, _, rfl, q⟩⟩
theorem q_is_deed {us : List PyData} {v : PyData} {Q : PyData → Prop} {R : Ex → Prop} : sp_is_deed [.tuple us, v] Q R ↔ Q (.bool (isDeed us.length v)) :=
  ⟨fun ⟨_, _, e, q⟩ => by cases e; exact q, fun q => ⟨_, _, rfl, q⟩⟩
theorem q_is_step {us : List PyData} {m : Int} {v : PyData} {Q : PyData → Prop} {R : Ex → Prop} : sp_is_step [.tuple us, .int m, v] Q R ↔ Q (.bool (isStep us.length m v)) :=
  ⟨fun ⟨_, _, _, e, q⟩ => by cases e; exact q, fun q => ⟨_, _, _, rfl, q⟩⟩
end Yd
set_option Elab.async false
set_option linter.all false
set_option maxRecDepth 100000
set_option maxHeartbeats 1000000
/-! # Readings: the checks -/
namespace Yd
open PySem PySem.Spec PyProof.Rows L2 LamX
theorem pu_is_from (ds : List PyData) (Q : PyData → Prop) (R : Ex → Prop) (h : sp_is_from ds Q R) : t_is_from (defEnds Q fun _ => False) ⟨st0 ["value", "low", "high"] ds, 0⟩ := by
  obtain ⟨v, lo, hi, rfl, hq⟩ := h
  cases v with
  | int i =>
    simp [t_is_from]
    unfold isFrom at hq
    by_cases h : lo ≤ i
    · simpa [h] using hq
    · simpa [h] using hq
  | _ => simpa [t_is_from, isFrom] using hq
theorem pu_need_units (ds : List PyData) (Q : PyData → Prop) (R : Ex → Prop) (h : sp_need_units ds Q R) : t_need_units (defEnds Q R) ⟨st0 ["value", "ratio"] ds, 0⟩ := by
  obtain ⟨v, rfl, h1, h2⟩ := h
  cases v with
  | tuple xs =>
    simp [t_need_units]
    by_cases h3 : 3 < (xs.length : Int)
    · rw [if_pos h3]
      refine h2 ?_
      simp [okUnits]
      omega
    · rw [if_neg h3]
      have ok : okUnits (.tuple xs) = xs.all fun d => isFrom d 2 10 := by
        simp [okUnits]
        omega
      rw [ok] at h1 h2
      refine for_ind (fun rest ρ => (∃ x, ρ = ⟨[.s (.tuple xs), x], 0⟩) ∧ (rest.all (fun d => isFrom d 2 10) = xs.all fun d => isFrom d 2 10)) ⟨⟨_, rfl⟩, rfl⟩ ?_ ?_
      · rintro ρ ⟨⟨x, rfl⟩, e⟩
        simp at e ⊢
        exact h1 (by simpa using e)
      · rintro d rest ρ ⟨⟨x, rfl⟩, e⟩ N hN
        simp [q_is_from]
        rw [List.all_cons] at e
        cases hf : isFrom d 2 10 with
        | true =>
          rw [hf, Bool.true_and] at e
          simp
          exact hN _ ⟨⟨_, rfl⟩, e⟩
        | false =>
          rw [hf, Bool.false_and] at e
          simp
          exact h2 e.symm
  | _ => simpa [t_need_units, okUnits] using h2
theorem pu_is_row (ds : List PyData) (Q : PyData → Prop) (R : Ex → Prop) (h : sp_is_row ds Q R) : t_is_row (defEnds Q fun _ => False) ⟨st0 ["units", "value", "number"] ds, 0⟩ := by
  obtain ⟨us, v, rfl, hq⟩ := h
  cases v with
  | tuple xs =>
    have key : ∀ b : Int, b = 10 ^ 60 → isRow us.length (.tuple xs) = (decide (xs.length = us.length + 1) && xs.all fun d => isFrom d 0 b) := fun b hb => by rw [hb]; rfl
    simp [t_is_row]
    have ok := key 1000000000000000000000000000000000000000000000000000000000000 (by decide)
    generalize (1000000000000000000000000000000000000000000000000000000000000 : Int) = b at ok ⊢
    rw [ok] at hq
    by_cases h3 : (xs.length : Int) = us.length + 1
    · rw [if_pos h3]
      have e0 : xs.length = us.length + 1 := by omega
      rw [decide_eq_true e0, Bool.true_and] at hq
      refine for_ind (fun rest ρ => (∃ x, ρ = ⟨[.s (.tuple us), .s (.tuple xs), x], 0⟩) ∧ (rest.all (fun d => isFrom d 0 b) = xs.all fun d => isFrom d 0 b)) ⟨⟨_, rfl⟩, rfl⟩ ?_ ?_
      · rintro ρ ⟨⟨x, rfl⟩, e⟩
        rw [← e] at hq
        simpa using hq
      · rintro d rest ρ ⟨⟨x, rfl⟩, e⟩ N hN
        simp [q_is_from]
        rw [List.all_cons] at e
        cases hf : isFrom d 0 b with
        | true =>
          rw [hf, Bool.true_and] at e
          simp
          exact hN _ ⟨⟨_, rfl⟩, e⟩
        | false =>
          rw [hf, Bool.false_and] at e
          rw [← e] at hq
          simp
          exact hq
    · rw [if_neg h3]
      have e0 : ¬ xs.length = us.length + 1 := by omega
      rw [decide_eq_false e0, Bool.false_and] at hq
      exact hq
  | _ => simpa [t_is_row, isRow] using hq
theorem pu_zeros_of (ds : List PyData) (Q : PyData → Prop) (R : Ex → Prop) (h : sp_zeros_of ds Q R) : t_zeros_of (defEnds Q fun _ => False) ⟨st0 ["units"] ds, 0⟩ := by
  obtain ⟨us, rfl, h1, hq⟩ := h
  simp [t_zeros_of]
  exact ⟨by omega, by omega, by simpa [Mt.zeros] using hq⟩
theorem zip_ti (us xs : List Int) : zipD (us.map PyData.int) (xs.map PyData.int) = (List.zip us xs).map fun p => .tuple [.int p.1, .int p.2] := by
  unfold zipD
  rw [List.zipWith_map, List.zip, List.map_zipWith]
theorem sm_mul {us : List Int} (h : Sm us) {u : Int} (hu : u ∈ us) (x : Int) : CMul u x := .inl (h u hu)
theorem pu_stair (K : Ends2) (Q : PyData → Prop) (hK : ∀ d ρ, K.rt d ρ = Q d) (us row : List Int) (h2 : row.length = us.length + 1) (h1 : us.length ≤ 3) (h3 : Sm us) (hq : Q (ti (Mt.stair us row))) :
    t_stair_from K ⟨[.s (ti us), .s (ti row), .u, .u, .u], 0⟩ := by
  cases row with
  | nil => simp at h2
  | cons x row =>
    simp [t_stair_from]
    rw [zip_ti]
    refine for_ind (fun rest ρ => ∃ (a : List Int) (l : Int) (vs xs : List Int) (y z : Sl), rest = (List.zip vs xs).map (fun p => .tuple [.int p.1, .int p.2]) ∧ ρ = ⟨[.s (ti us), .s (ti (x :: row)), .o (li (a ++ [l])), y, z], 0⟩ ∧ vs.length = xs.length ∧ a.length + vs.length = us.length ∧
      (∀ u ∈ vs, u ∈ us) ∧ a ++ l :: Mt.stairGo l vs xs = x :: Mt.stairGo x us row) ⟨[], x, us, row, .u, .u, rfl, rfl, by simpa using h2.symm, by simp, fun _ h => h, rfl⟩ ?_ ?_
    · rintro ρ ⟨a, l, vs, xs, y, z, e, rfl, e1, e2, hm, e3⟩
      cases vs with
      | cons v vs =>
        cases xs with
        | nil => simp at e1
        | cons x xs => simp at e
      | nil =>
        simp [hK]
        simp [Mt.stairGo] at e3
        have : Q (ti (a ++ [l])) := by
          rw [e3]; exact hq
        simpa using this
    · rintro d rest ρ ⟨a, l, vs, xs, y, z, e, rfl, e1, e2, hm, e3⟩ N hN
      cases vs with
      | nil => simp at e
      | cons v vs =>
        cases xs with
        | nil => simp at e1
        | cons n xs =>
          simp at e
          obtain ⟨rfl, rfl⟩ := e
          simp
          refine ⟨sm_mul h3 (hm v (by simp)) l, by simp at e2; omega, hN _ ⟨a ++ [l], v * l + n, vs, xs, .s (.int v), .s (.int n), rfl, by simp, by simpa using e1, by simp at e2 ⊢; omega, fun u hu => hm u (List.mem_cons_of_mem _ hu), ?_⟩⟩
          rw [← e3]
          simp [Mt.stairGo]
theorem pu_stair_from (ds : List PyData) (Q : PyData → Prop) (R : Ex → Prop) (h : sp_stair_from ds Q R) : t_stair_from (defEnds Q fun _ => False) ⟨st0 ["units", "row", "found", "ratio", "number"] ds, 0⟩ := by
  obtain ⟨us, row, rfl, h1, h2, h3, hq⟩ := h
  exact pu_stair _ Q (fun _ _ => rfl) us row h2 h1 h3 hq
theorem ends_rt {Q : PyData → Prop} {R : Ex → Prop} : ∀ d ρ, (defEnds Q R).rt d ρ = Q d := fun _ _ => rfl
theorem zip_til (us xs : List Int) : zipD (us.map PyData.int) (xs.map PyData.int) = (List.zip us xs).map fun p => .tuple [.int p.1, .int p.2] := zip_ti us xs
theorem pu_up_stair (ds : List PyData) (Q : PyData → Prop) (R : Ex → Prop) (h : sp_up_stair ds Q R) : t_up_stair (defEnds Q fun _ => False) ⟨st0 ["units", "numbers", "found", "ratio", "number"] ds, 0⟩ := by
  obtain ⟨us, row, rfl, h1, h2, h3, hq⟩ := h
  cases row with
  | nil => simp at h2
  | cons x row =>
    simp [t_up_stair]
    rw [zip_ti]
    refine for_ind (fun rest ρ => ∃ (a : List Int) (l : Int) (vs xs : List Int) (y z : Sl), rest = (List.zip vs xs).map (fun p => .tuple [.int p.1, .int p.2]) ∧ ρ = ⟨[.s (ti us), .s (li (x :: row)), .o (li (a ++ [l])), y, z], 0⟩ ∧ vs.length = xs.length ∧ a.length + vs.length = us.length ∧
      (∀ u ∈ vs, u ∈ us) ∧ a ++ l :: Mt.upGo l vs xs = Mt.mx 0 x :: Mt.upGo (Mt.mx 0 x) us row) ⟨[], Mt.mx 0 x, us, row, .u, .u, rfl, by simp [Mt.mx], by simpa using h2.symm, by simp, fun _ h => h, rfl⟩ ?_ ?_
    · rintro ρ ⟨a, l, vs, xs, y, z, e, rfl, e1, e2, hm, e3⟩
      cases vs with
      | cons v vs =>
        cases xs with
        | nil => simp at e1
        | cons x xs => simp at e
      | nil =>
        simp
        simp [Mt.upGo] at e3
        have : Q (ti (a ++ [l])) := by
          rw [e3]; exact hq
        simpa using this
    · rintro d rest ρ ⟨a, l, vs, xs, y, z, e, rfl, e1, e2, hm, e3⟩ N hN
      cases vs with
      | nil => simp at e
      | cons v vs =>
        cases xs with
        | nil => simp at e1
        | cons n xs =>
          simp at e
          obtain ⟨rfl, rfl⟩ := e
          simp
          refine ⟨sm_mul h3 (hm v (by simp)) l, by simp at e2; omega, hN _ ⟨a ++ [l], Mt.mx n (v * l), vs, xs, .s (.int v), .s (.int n), rfl, by simp [Mt.mx], by simpa using e1, by simp at e2 ⊢; omega, fun u hu => hm u (List.mem_cons_of_mem _ hu), ?_⟩⟩
          rw [← e3]
          simp [Mt.upGo]
end Yd
set_option Elab.async false
set_option linter.all false
set_option maxRecDepth 100000
set_option maxHeartbeats 1000000
/-! # Readings: rows, deeds, steps, worlds -/
namespace Yd
open PySem PySem.Spec PyProof.Rows L2 LamX
def enF (i : Nat) (ds : List PyData) : List PyData := (ds.zipIdx i).map fun p => .tuple [.int (p.2 : Nat), p.1]
theorem enumD_eq (ds : List PyData) : enumD ds = enF 0 ds := rfl
@[simp] theorem enF_nil (i : Nat) : enF i [] = [] := rfl
@[simp] theorem enF_cons (i : Nat) (d : PyData) (ds : List PyData) : enF i (d :: ds) = .tuple [.int (i : Nat), d] :: enF (i + 1) ds := rfl
theorem pu_row (K : Ends2) (Q : PyData → Prop) (hK : ∀ d ρ, K.rt d ρ = Q d) (sv : PyData) (us st : List Int) (hv : sv = ti st ∨ sv = li st) (h2 : st.length = us.length + 1) (h1 : us.length ≤ 3) (h3 : Sm us) (hq : Q (ti (Mt.rowOf us st))) :
    t_row_from K ⟨[.s (ti us), .s sv, .u, .u, .u], 0⟩ := by
  have at_ : ∀ (k : Nat) (x : Int) (Q1 : PyData → Prop), st[k]? = some x → Q1 (.int x) → kIx sv (.int (k : Nat)) Q1 := by
    intro k x Q1 e q
    rcases hv with rfl | rfl
    · simp [e]; exact q
    · simp [e]; exact q
  cases st with
  | nil => simp at h2
  | cons x0 st =>
    simp [t_row_from]
    refine at_ 0 x0 _ rfl ?_
    rw [enumD_eq]
    refine for_ind (fun rest ρ => ∃ (a : List Int) (i : Nat) (vs xs : List Int) (l : Int) (y z : Sl), rest = enF i (vs.map PyData.int) ∧ ρ = ⟨[.s (ti us), .s sv, .o (li a), y, z], 0⟩ ∧ vs.length = xs.length ∧ i + vs.length = us.length ∧ a.length = i + 1 ∧
      (∀ u ∈ vs, u ∈ us) ∧ (x0 :: st).drop i = l :: xs ∧ a ++ Mt.rowGo l vs xs = x0 :: Mt.rowGo x0 us st) ⟨[x0], 0, us, st, x0, .u, .u, rfl, rfl, by simpa using h2.symm, by simp, rfl, fun _ h => h, rfl, rfl⟩ ?_ ?_
    · rintro ρ ⟨a, i, vs, xs, l, y, z, e, rfl, e1, e2, e4, hm, e5, e3⟩
      cases vs with
      | cons v vs => simp at e
      | nil =>
        cases xs with
        | cons x xs => simp at e1
        | nil =>
          simp [hK]
          simp [Mt.rowGo] at e3
          have : Q (ti a) := by
            rw [e3]; exact hq
          simpa using this
    · rintro d rest ρ ⟨a, i, vs, xs, l, y, z, e, rfl, e1, e2, e4, hm, e5, e3⟩ N hN
      cases vs with
      | nil => simp at e
      | cons v vs =>
        cases xs with
        | nil => simp at e1
        | cons n xs =>
          simp at e
          obtain ⟨rfl, rfl⟩ := e
          have g1 : (x0 :: st)[i]? = some l := by
            have z := congrArg (fun t : List Int => t[0]?) e5
            simpa using z
          have g2 : (x0 :: st)[i + 1]? = some n := by
            have z := congrArg (fun t : List Int => t[1]?) e5
            simpa using z
          have g3 : (x0 :: st).drop (i + 1) = n :: xs := by
            have z := congrArg (fun t : List Int => t.drop 1) e5
            simpa [List.drop_drop, Nat.add_comm] using z
          simp
          refine at_ (i + 1) n _ g2 ?_
          refine at_ i l _ g1 ?_
          simp
          refine ⟨sm_mul h3 (hm v (by simp)) l, by simp at e2; omega, hN _ ⟨a ++ [n - v * l], i + 1, vs, xs, n, .s (.int (i : Nat)), .s (.int v), rfl, by simp, by simpa using e1, by simp at e2 ⊢; omega, by simp [e4], fun u hu => hm u (List.mem_cons_of_mem _ hu), g3, ?_⟩⟩
          rw [← e3]
          simp [Mt.rowGo]
theorem pu_row_from (ds : List PyData) (Q : PyData → Prop) (R : Ex → Prop) (h : sp_row_from ds Q R) : t_row_from (defEnds Q fun _ => False) ⟨st0 ["units", "stair", "found", "index", "ratio"] ds, 0⟩ := by
  obtain ⟨us, row, rfl, h1, h2, h3, hq⟩ := h
  exact pu_row _ Q (fun _ _ => rfl) (ti row) us row (.inl rfl) h2 h1 h3 hq
theorem pu__law_row_of (ds : List PyData) (Q : PyData → Prop) (R : Ex → Prop) (h : sp__law_row_of ds Q R) : t__law_row_of (defEnds Q fun _ => False) ⟨st0 ["_law_units_so", "_law_stair_here", "_law_found", "_law_place", "_law_ratio"] ds, 0⟩ := by
  obtain ⟨us, row, rfl, h1, h2, h3, hq⟩ := h
  exact pu_row _ Q (fun _ _ => rfl) (li row) us row (.inr rfl) h2 h1 h3 hq
theorem pu__law_stair (ds : List PyData) (Q : PyData → Prop) (R : Ex → Prop) (h : sp__law_stair ds Q R) : t__law_stair (defEnds Q fun _ => False) ⟨st0 ["_law_units_so", "_law_row_here", "_law_found", "_law_ratio", "_law_number"] ds, 0⟩ := by
  obtain ⟨us, row, rfl, h1, h2, h3, hq⟩ := h
  exact pu_stair _ Q (fun _ _ => rfl) us row h2 h1 h3 hq
theorem eqv_int (a b : Int) : PyData.eqv (.int a) (.int b) = decide (a = b) := by
  rw [PyData.eqv]
  by_cases h : a = b <;> simp [h]
theorem eqv_str (a b : Str) : PyData.eqv (.str a) (.str b) = decide (a = b) := by
  rw [PyData.eqv]
  by_cases h : a = b <;> simp [h]
theorem in_askbring (x : Str) : inD (.str x) [.str "ask", .str "bring"] = (decide (x = "ask") || decide (x = "bring")) := by
  unfold inD
  rw [List.any_cons, List.any_cons, List.any_nil, Bool.or_false, eqv_str, eqv_str]
  rw [show decide (("ask" : Str) = x) = decide (x = "ask") from decide_eq_decide.mpr eq_comm, show decide (("bring" : Str) = x) = decide (x = "bring") from decide_eq_decide.mpr eq_comm]
theorem in_12 (n : Int) : inD (.int n) [.int 1, .int 2] = (decide (n = 1) || decide (n = 2)) := by
  unfold inD
  rw [List.any_cons, List.any_cons, List.any_nil, Bool.or_false, eqv_int, eqv_int]
  rw [show decide ((1 : Int) = n) = decide (n = 1) from decide_eq_decide.mpr eq_comm, show decide ((2 : Int) = n) = decide (n = 2) from decide_eq_decide.mpr eq_comm]
theorem pu_is_deed (ds : List PyData) (Q : PyData → Prop) (R : Ex → Prop) (h : sp_is_deed ds Q R) : t_is_deed (defEnds Q fun _ => False) ⟨st0 ["units", "value"] ds, 0⟩ := by
  obtain ⟨us, v, rfl, hq⟩ := h
  have key : ∀ v : PyData, isiD "tuple" v = false → Q (.bool false) → t_is_deed (defEnds Q fun _ => False) ⟨[.s (.tuple us), .s v], 0⟩ := fun v hv hq =>
    if_t (c := !isiD "tuple" v) (A := if true = true then Q (.bool false) else _) (by rw [hv]; rfl) (if_t rfl hq)
  cases v with
  | tuple xs =>
    match xs, hq with
    | [], hq =>
      have hq : Q (.bool false) := hq
      simpa [t_is_deed, in_12, flatD] using hq
    | [x], hq =>
      cases x with
      | str x =>
        have hq : Q (.bool (decide (x = "pass"))) := hq
        simpa [t_is_deed, in_12, flatD] using hq
      | _ =>
        have hq : Q (.bool false) := hq
        simpa [t_is_deed, in_12, flatD] using hq
    | [x, r], hq =>
      cases x with
      | str x =>
        have hq : Q (.bool ((decide (x = "ask") || decide (x = "bring")) && isRow us.length r)) := hq
        simp [t_is_deed, flatD, q_is_row, in_askbring, in_12]
        by_cases hx : x = "ask" ∨ x = "bring"
        · rw [if_pos hx]
          have e2 : (decide (x = "ask") || decide (x = "bring")) = true := by simpa using hx
          rw [e2, Bool.true_and] at hq
          exact hq
        · rw [if_neg hx]
          have e2 : (decide (x = "ask") || decide (x = "bring")) = false := by simpa using hx
          rw [e2, Bool.false_and] at hq
          exact hq
      | _ =>
        have hq : Q (.bool false) := hq
        simpa [t_is_deed, in_12, flatD] using hq
    | x :: y :: z :: r, hq =>
      have e : isDeed us.length (.tuple (x :: y :: z :: r)) = false := by cases x <;> rfl
      rw [e] at hq
      simp [t_is_deed, in_12, flatD]
      have h1 : ¬ ((r.length : Int) + 1 + 1 + 1 = 1 ∨ (r.length : Int) + 1 + 1 + 1 = 2) := by omega
      rw [if_pos ⟨by omega, by omega⟩]
      exact hq
  | _ => exact key _ (by simp) hq
theorem and_if {Q : PyData → Prop} {a b : Bool} (h : Q (.bool (a && b))) : if a = true then Q (.bool b) else Q (.bool false) := by
  cases a <;> simpa using h
theorem pu_is_step (ds : List PyData) (Q : PyData → Prop) (R : Ex → Prop) (h : sp_is_step ds Q R) : t_is_step (defEnds Q fun _ => False) ⟨st0 ["units", "places", "value"] ds, 0⟩ := by
  obtain ⟨us, m, v, rfl, hq⟩ := h
  cases v with
  | tuple xs =>
    match xs, hq with
    | [], hq =>
      have hq : Q (.bool false) := hq
      simpa [t_is_step] using hq
    | [x], hq =>
      have hq : Q (.bool false) := hq
      simpa [t_is_step] using hq
    | [x, y], hq =>
      have hq : Q (.bool false) := hq
      simpa [t_is_step] using hq
    | [a, d, b], hq =>
      have hq : Q (.bool (isFrom a 0 (m - 1) && (isDeed us.length d && isFrom b 0 (m - 1)))) := hq
      simp [t_is_step, q_is_from, q_is_deed]
      cases h1 : isFrom a 0 (m - 1) <;> cases h2 : isDeed us.length d <;> rw [h1, h2] at hq <;> simpa using hq
    | x :: y :: z :: u :: r, hq =>
      have hq : Q (.bool false) := hq
      simp [t_is_step]
      rw [if_neg (by omega)]
      exact hq
  | _ =>
    have hq : Q (.bool false) := hq
    simpa [t_is_step] using hq
theorem okU {u : PyData} (h : okUnits u = true) : ∃ us, u = .tuple us := by
  cases u with
  | tuple us => exact ⟨us, rfl⟩
  | _ => exact absurd h (by simp [okUnits])
theorem pu_need_world (ds : List PyData) (Q : PyData → Prop) (R : Ex → Prop) (h : sp_need_world ds Q R) : t_need_world (defEnds Q R) ⟨st0 ["units", "value", "index", "step"] ds, 0⟩ := by
  obtain ⟨u, v, rfl, h⟩ := h
  simp [t_need_world]
  rcases h with ⟨h1, h2⟩ | ⟨h1, h⟩
  · exact ⟨u, rfl, fun z => absurd z (by rw [h1]; simp), fun _ => h2⟩
  · refine ⟨u, rfl, fun _ => ?_, fun z => absurd z (by rw [h1]; simp)⟩
    rcases h with ⟨rfl, h2⟩ | ⟨us, n, st, rfl, rfl, g1, g2, g3, g4, hq⟩
    · simp
      exact h2
    · simp [q_is_from]
      have e : isFrom (.int n) 1 8 = true := by simp [isFrom]; omega
      rw [e]
      simp
      rw [if_neg (by omega), enumD_eq]
      refine for_ind (fun rest ρ => ∃ i vs y z, rest = enF i vs ∧ ρ = ⟨[.s (.tuple us), .s (.tuple [.int n, .tuple st]), y, z], 0⟩ ∧ ∀ s ∈ vs, s ∈ st) ⟨0, st, .u, .u, rfl, rfl, fun _ h => h⟩ ?_ ?_
      · rintro ρ ⟨i, vs, y, z, e, rfl, hm⟩
        simp
        exact hq
      · rintro d rest ρ ⟨i, vs, y, z, e, rfl, hm⟩ N hN
        cases vs with
        | nil => simp at e
        | cons s vs =>
          simp at e
          obtain ⟨rfl, rfl⟩ := e
          simp [q_is_step, g4 s (hm s (by simp))]
          exact hN _ ⟨i + 1, vs, _, _, rfl, rfl, fun x hx => hm x (List.mem_cons_of_mem _ hx)⟩
theorem pu_need_step (ds : List PyData) (Q : PyData → Prop) (R : Ex → Prop) (h : sp_need_step ds Q R) : t_need_step (defEnds Q R) ⟨st0 ["units", "world", "step"] ds, 0⟩ := by
  obtain ⟨u, v, i, rfl, h⟩ := h
  simp [t_need_step]
  rcases h with ⟨h1, h2⟩ | ⟨h1, h⟩
  · exact ⟨u, v, rfl, .inl ⟨h1, h2⟩⟩
  · rcases h with ⟨rfl, h2⟩ | ⟨us, rfl, ⟨m, st, rfl, g1, g2, g3, g4⟩, hq, hr⟩
    · exact ⟨u, _, rfl, .inr ⟨h1, .inl ⟨rfl, h2⟩⟩⟩
    · refine ⟨_, _, rfl, .inr ⟨h1, .inr ⟨us, m, st, rfl, rfl, g1, g2, g3, g4, ?_⟩⟩⟩
      simp [q_is_from]
      have hq : isFrom i 0 ((st.length : Int) - 1) = true → Q i := hq
      have hr : isFrom i 0 ((st.length : Int) - 1) = false → R (.index, i) := hr
      cases hi : isFrom i 0 ((st.length : Int) - 1) with
      | true => simpa using hq hi
      | false => simpa using hr hi
theorem pu_with_deed (ds : List PyData) (Q : PyData → Prop) (R : Ex → Prop) (h : sp_with_deed ds Q R) : t_with_deed (defEnds Q R) ⟨st0 ["units", "world", "step", "deed", "places", "steps", "start", "own", "goal", "changed"] ds, 0⟩ := by
  obtain ⟨u, v, i, d, rfl, h⟩ := h
  simp [t_with_deed]
  rcases h with ⟨h1, h2⟩ | ⟨h1, h⟩
  · exact ⟨u, v, i, rfl, .inl ⟨h1, h2⟩⟩
  · rcases h with ⟨rfl, h2⟩ | ⟨us, rfl, okw, h⟩
    · exact ⟨u, _, i, rfl, .inr ⟨h1, .inl ⟨rfl, h2⟩⟩⟩
    · refine ⟨_, _, i, rfl, .inr ⟨h1, .inr ⟨us, rfl, okw, ?_⟩⟩⟩
      rcases h with ⟨hi, h⟩ | ⟨hi, h⟩
      · exact ⟨fun z => absurd z (by rw [hi]; simp), fun _ => h⟩
      · refine ⟨fun _ => ?_, fun z => absurd z (by rw [hi]; simp)⟩
        simp [q_is_deed]
        rcases h with ⟨hd, h⟩ | ⟨hd, h⟩
        · simpa [hd] using h
        · simp [hd]
          obtain ⟨m, st, k, a, o, b, rfl, rfl, hk, h⟩ := h
          have lk : k < st.length := (List.getElem?_eq_some_iff.mp hk).1
          obtain ⟨m', st', e', _, _, hz, _⟩ := okw
          injection e' with e'
          injection e' with e1 e'
          injection e' with e2 e'
          injection e1 with e1
          injection e2 with e2
          subst e1 e2
          simp
          rcases h with ⟨hm, h⟩ | ⟨hm, h⟩
          · rw [if_pos (by omega)]
            exact h
          · rw [if_neg (by omega)]
            rcases h with ⟨hm2, h⟩ | ⟨hm2, h⟩
            · rw [if_pos (by omega)]
              exact h
            · rw [if_neg (by omega)]
              refine ⟨_, hk, ?_⟩
              simp
              refine ⟨by omega, by omega, by omega, ?_⟩
              simpa using h
end Yd
set_option Elab.async false
set_option linter.all false
set_option maxRecDepth 100000
set_option maxHeartbeats 1000000
/-! # Readings: counts, dropped, stairs down -/
namespace Yd
open PySem PySem.Spec PyProof.Rows L2 LamX
theorem pu_dropped (ds : List PyData) (Q : PyData → Prop) (R : Ex → Prop) (h : sp_dropped ds Q R) : t_dropped (defEnds Q fun _ => False) ⟨st0 ["items", "index"] ds, 0⟩ := by
  rcases h with ⟨xs, k, rfl, h1, h2, hq⟩ | ⟨xs, k, rfl, h1, h2, hq⟩
  · simp [t_dropped]
    exact ⟨by omega, hq⟩
  · simp [t_dropped]
    exact ⟨by omega, hq⟩
/-- a comprehension over one list, each item turned -/
theorem lc_map {α : Type} {g : RG} {te : RE} {vs : List Nat} {Q : PyData → En → Prop} (e r : α → PyData) (P : α → Prop) (I : En → Prop) (hS : ∀ a ρ, P a → I ρ → ∀ N : PyData → En → Prop, (∀ ρ', I ρ' → N (r a) ρ') → g (e a) ρ fun ρ1 => te ρ1 fun y ρ3 => N y (clr ρ3 vs))
    (xs : List α) (acc : List PyData) (ρ : En) (hP : ∀ a ∈ xs, P a) (hI : I ρ) (hQ : ∀ ρ, I ρ → Q (.list (acc ++ xs.map r)) ρ) : lcW g dYes te vs Q (xs.map e) acc ρ := by
  induction xs generalizing acc ρ with
  | nil =>
    have z := hQ ρ hI
    rw [List.map_nil, List.append_nil] at z
    exact z
  | cons a xs ih =>
    have z : g (e a) ρ fun ρ1 => te ρ1 fun y ρ3 => lcW g dYes te vs Q (xs.map e) (acc ++ [y]) (clr ρ3 vs) := by
      refine hS a ρ (hP a List.mem_cons_self) hI (fun y ρ3 => lcW g dYes te vs Q (xs.map e) (acc ++ [y]) ρ3) fun ρ' hI' => ?_
      refine ih (acc ++ [r a]) ρ' (fun x hx => hP x (List.mem_cons_of_mem _ hx)) hI' fun ρ2 h2 => ?_
      have z := hQ ρ2 h2
      rw [List.map_cons] at z
      rw [List.append_assoc]
      exact z
    exact z
theorem usm_sm {us : List Int} (h : Usm us) : Sm us := fun x hx => by
  have := h.2 x hx
  omega
theorem pu_counts_of (ds : List PyData) (Q : PyData → Prop) (R : Ex → Prop) (h : sp_counts_of ds Q R) : t_counts_of (defEnds Q fun _ => False) ⟨st0 ["units", "deed", "stair", "number"] ds, 0⟩ := by
  obtain ⟨us, d, rfl, hu, hd, hq⟩ := h
  have h1 := hu.1
  cases d with
  | pass =>
    simp [t_counts_of, eD]
    exact ⟨by omega, by omega, by simpa [Mt.counts, Mt.zeros] using hq⟩
  | ask r =>
    obtain ⟨hl, _⟩ := hd
    simp [t_counts_of, eD]
    rw [if_neg (by decide)]
    refine ⟨us, r, rfl, hu.1, hl, usm_sm hu, ?_⟩
    have hq : Q (ti (Mt.stair us r)) := hq
    simpa using hq
  | bring r =>
    obtain ⟨hl, _⟩ := hd
    simp [t_counts_of, eD]
    rw [if_neg (by decide)]
    refine ⟨us, r, rfl, hu.1, hl, usm_sm hu, ?_⟩
    show (if ("bring" : Str) = "ask" then _ else _)
    rw [if_neg (by decide)]
    have hs := Mt.stair_len hl
    simp
    refine ⟨by rw [hs]; omega, ?_⟩
    refine lc_map PyData.int (fun i => PyData.int (-i)) (fun _ => True) (fun ρ => ∃ a b c, ρ = ⟨[a, b, c, .u], 0⟩) ?_ _ _ _ (fun _ _ => trivial) ⟨_, _, _, rfl⟩ ?_
    · rintro i ρ _ ⟨a, b, c, rfl⟩ N hN
      simp
      exact hN _ ⟨_, _, _, rfl⟩
    · rintro ρ ⟨a, b, c, rfl⟩
      have hq : Q (ti ((Mt.stair us r).map fun x => -x)) := hq
      simpa [Function.comp_def] using hq
theorem cnts_get {us : List Int} {d : Mt.Deed} (hd : Mt.Dok us d) {k : Nat} (hk : k ≤ us.length) : (Mt.counts us d)[k]? = some (Mt.cnt us d k) := by
  have hl : k < (Mt.counts us d).length := by
    cases d with
    | pass => simp [Mt.counts, Mt.zeros]; omega
    | ask r => rw [Mt.counts, Mt.stair_len hd.1]; omega
    | bring r => rw [Mt.counts, List.length_map, Mt.stair_len hd.1]; omega
  unfold Mt.cnt
  rw [List.getD_eq_getElem?_getD, List.getElem?_eq_getElem hl]
  rfl
theorem pu_counts_at (ds : List PyData) (Q : PyData → Prop) (R : Ex → Prop) (h : sp_counts_at ds Q R) : t_counts_at (defEnds Q fun _ => False) ⟨st0 ["units", "world", "unit", "step"] ds, 0⟩ := by
  obtain ⟨us, w, k, rfl, hw, hk, hq⟩ := h
  have hst := hw.st
  simp [t_counts_at, eW]
  refine ⟨by omega, ?_⟩
  refine lc_map eS (fun s => PyData.int (Mt.cnt us s.d k)) (fun s => s ∈ w.st) (fun ρ => ρ = ⟨[.s (ti us), .s (eW w), .s (.int (k : Nat)), .u], 0⟩) ?_ _ _ _ (fun _ h => h) rfl ?_
  · rintro s ρ hs rfl N hN
    have hd := (hw.ok.2 s hs).2.2
    simp [eS]
    refine ⟨us, s.d, rfl, hw.un, hd, ?_⟩
    simp [cnts_get hd hk]
    exact hN _ rfl
  · rintro ρ rfl
    have hq : Q (li (cnts us w.st k)) := hq
    simpa [cnts, Function.comp_def] using hq
theorem rangeD_succ (n : Nat) : rangeD (n + 1) = rangeD n ++ [.int (n : Nat)] := by
  unfold rangeD
  rw [List.range_succ, List.map_append]
  rfl
theorem down_zero : rangeDown 0 = [] := rfl
theorem down_succ (n : Nat) : rangeDown (n + 1) = .int (n : Nat) :: rangeDown n := by
  unfold rangeDown
  rw [rangeD_succ, List.reverse_append]
  rfl
theorem getLast_at {xs : List Int} {x : Int} (h : xs.getLast? = some x) : atI (xs.map PyData.int) (-1) = some (.int x) := by
  obtain ⟨ys, rfl⟩ := List.getLast?_eq_some_iff.mp h
  rw [List.map_append]
  exact atI_last _ _
theorem pu_down_stair (ds : List PyData) (Q : PyData → Prop) (R : Ex → Prop) (h : sp_down_stair ds Q R) : t_down_stair (defEnds Q fun _ => False) ⟨st0 ["units", "numbers", "found", "index"] ds, 0⟩ := by
  obtain ⟨us, row, rfl, h1, h2, h3, h4, hq⟩ := h
  simp [t_down_stair, kMinL]
  have hne : row ≠ [] := fun e => by rw [e] at h2; simp at h2
  obtain ⟨last, hlast⟩ : ∃ x, row.getLast? = some x := by
    cases hx : row.getLast? with
    | none => exact absurd (List.getLast?_eq_none_iff.mp hx) hne
    | some x => exact ⟨x, rfl⟩
  refine ⟨row, rfl, by omega, fun m hm _ => ?_⟩
  rw [if_neg (by have := h4 m hm; omega)]
  refine ⟨_, getLast_at hlast, by omega, ?_⟩
  have hD : Mt.down (us.drop us.length) (row.drop us.length) = [last] := by
    rw [List.drop_length]
    obtain ⟨ys, e⟩ := List.getLast?_eq_some_iff.mp hlast
    have hy : ys.length = us.length := by rw [e] at h2; simpa using h2
    rw [e, ← hy, List.drop_left]
    rfl
  refine for_ind (fun rest ρ => ∃ (i : Nat) (h : Int) (t : List Int) (y : Sl), rest = rangeDown i ∧ i ≤ us.length ∧ Mt.down (us.drop i) (row.drop i) = h :: t ∧ ρ = ⟨[.s (ti us), .s (li row), .o (li (t.reverse ++ [h])), y], 0⟩) ⟨us.length, last, [], .u, rfl, Nat.le_refl _, hD, rfl⟩ ?_ ?_
  · rintro ρ ⟨i, h, t, y, e, hi, hd, rfl⟩
    cases i with
    | succ i => rw [down_succ] at e; cases e
    | zero =>
      rw [List.drop_zero, List.drop_zero] at hd
      have hq : Q (ti (Mt.down us row)) := hq
      rw [hd] at hq
      simp
      simpa using hq
  · rintro d rest ρ ⟨i, h, t, y, e, hi, hd, rfl⟩ N hN
    cases i with
    | zero => cases e
    | succ i =>
      rw [down_succ] at e
      injection e with e1 e2
      subst e1 e2
      have hu : us[i]? = some us[i] := List.getElem?_eq_getElem (by omega)
      have hr : row[i]? = some row[i] := List.getElem?_eq_getElem (by omega)
      have du : us.drop i = us[i] :: us.drop (i + 1) := List.drop_eq_getElem_cons (by omega)
      have dr : row.drop i = row[i] :: row.drop (i + 1) := List.drop_eq_getElem_cons (by omega)
      have hm := h3 us[i] (List.getElem_mem _)
      simp [hu, hr]
      refine ⟨⟨hm.1, by omega⟩, ?_, hN _ ⟨i, Mt.mn row[i] (h / us[i]), h :: t, .s (.int (i : Nat)), rfl, by omega, ?_, by simp [Mt.mn]⟩⟩
      · have hl := Mt.down_len (us := us.drop (i + 1)) (xs := row.drop (i + 1)) (by rw [List.length_drop, List.length_drop]; omega)
        rw [hd, List.length_cons, List.length_drop] at hl
        omega
      · rw [du, dr]
        show Mt.mn row[i] ((Mt.down (us.drop (i + 1)) (row.drop (i + 1))).headD 0 / us[i]) :: Mt.down (us.drop (i + 1)) (row.drop (i + 1)) = _
        rw [hd]
        rfl
end Yd
set_option Elab.async false
set_option linter.all false
set_option maxRecDepth 100000
set_option maxHeartbeats 1000000
/-! # Readings: walks and rings -/
namespace Yd
open PySem PySem.Spec PyProof.Rows L2 LamX
open Mt (Stp Wd)
def kI' (ks : List Nat) : List PyData := ks.map fun (k : Nat) => PyData.int (k : Int)
theorem keyI_nat (a b : Nat) : keyI (.int (a : Int)) (b : Int) = decide (a = b) := by
  unfold keyI
  exact decide_eq_decide.mpr (by omega)
theorem dget_keys : ∀ {kvs : List (PyData × PyData)} {ks : List Nat} (k : Nat), kvs.map (·.1) = kI' ks → (dGet kvs (k : Int)).isSome = decide (k ∈ ks)
  | [], [], k, _ => rfl
  | [], _ :: _, _, h => by simp [kI'] at h
  | _ :: _, [], _, h => by simp [kI'] at h
  | (x, d) :: kvs, a :: ks, k, h => by
    have h : x :: kvs.map (·.1) = PyData.int (a : Int) :: kI' ks := h
    injection h with h1 h2
    subst h1
    have ih := dget_keys k h2
    unfold dGet at ih ⊢
    by_cases e : a = k
    · subst e
      rw [List.find?_cons_of_pos (by rw [keyI_nat]; simp)]
      simp
    · rw [List.find?_cons_of_neg (by rw [keyI_nat]; simp [e]), ih]
      simp [Ne.symm e]
theorem dget_mem {kvs : List (PyData × PyData)} {i : Int} {d : PyData} (h : dGet kvs i = some d) : ∃ k, (k, d) ∈ kvs := by
  unfold dGet at h
  obtain ⟨p, hp, e⟩ := Option.map_eq_some_iff.mp h
  exact ⟨p.1, by rw [← e]; exact List.mem_of_find?_eq_some hp⟩
theorem dput_new {kvs : List (PyData × PyData)} {ks : List Nat} {k : Nat} {d : PyData} (h : kvs.map (·.1) = kI' ks) (n : k ∉ ks) : dPut kvs (k : Int) d = kvs ++ [(.int (k : Int), d)] := by
  unfold dPut
  rw [if_neg]
  intro z
  obtain ⟨p, hp, e⟩ := List.any_eq_true.mp z
  have hm : p.1 ∈ kI' ks := by rw [← h]; exact List.mem_map.mpr ⟨p, hp, rfl⟩
  obtain ⟨a, ha, ea⟩ := List.mem_map.mp hm
  rw [← ea, keyI_nat] at e
  have : a = k := by simpa using e
  exact n (this ▸ ha)
/-- what stands while the places are found -/
structure FW (st : List Stp) (n : Nat) (ks : List Nat) (kvs : List (PyData × PyData)) (line : List Nat) : Prop where
  keys : kvs.map (·.1) = kI' ks
  nd : ks.Nodup
  low : ∀ k ∈ ks, k < n
  rch : ∀ k ∈ ks, Rch st 0 k
  zero : 0 ∈ ks
  sub : ∀ k ∈ line, k ∈ ks
  vals : ∀ p ∈ kvs, ∃ t, p.2 = .tuple t ∧ t.length < ks.length
  lnd : line.Nodup
theorem FW.len {st : List Stp} {n : Nat} {ks : List Nat} {kvs : List (PyData × PyData)} {line : List Nat} (h : FW st n ks kvs line) : ks.length ≤ n := Mt.nodup_le n ks h.low h.nd
theorem FW.get {st : List Stp} {n : Nat} {ks : List Nat} {kvs : List (PyData × PyData)} {line : List Nat} (h : FW st n ks kvs line) {k : Nat} (hk : k ∈ ks) : ∃ t, dGet kvs (k : Int) = some (.tuple t) ∧ t.length < ks.length := by
  have e := dget_keys k h.keys
  rw [decide_eq_true hk] at e
  obtain ⟨d, hd⟩ := Option.isSome_iff_exists.mp e
  obtain ⟨x, hx⟩ := dget_mem hd
  obtain ⟨t, e1, e2⟩ := h.vals _ hx
  have e1 : d = .tuple t := e1
  exact ⟨t, by rw [hd, e1], e2⟩
theorem FW.add {st : List Stp} {n : Nat} {ks : List Nat} {kvs : List (PyData × PyData)} {line : List Nat} (h : FW st n ks kvs line) {k : Nat} {t : List PyData} (n' : k ∉ ks) (hl : k < n) (hr : Rch st 0 k) (ht : t.length ≤ ks.length) : FW st n (ks ++ [k]) (kvs ++ [(.int (k : Int), .tuple t)]) (line ++ [k]) where
  keys := by rw [List.map_append, h.keys]; simp [kI']
  nd := List.nodup_append.mpr ⟨h.nd, by simp, fun a ha b hb => by simp at hb; rw [hb]; exact fun e => n' (e ▸ ha)⟩
  low := fun x hx => by
    rcases List.mem_append.mp hx with hx | hx
    · exact h.low x hx
    · have : x = k := by simpa using hx
      rw [this]; exact hl
  rch := fun x hx => by
    rcases List.mem_append.mp hx with hx | hx
    · exact h.rch x hx
    · have : x = k := by simpa using hx
      rw [this]; exact hr
  zero := List.mem_append_left _ h.zero
  sub := fun x hx => by
    rcases List.mem_append.mp hx with hx | hx
    · exact List.mem_append_left _ (h.sub x hx)
    · exact List.mem_append_right _ hx
  vals := fun p hp => by
    rw [List.length_append, List.length_singleton]
    rcases List.mem_append.mp hp with hp | hp
    · obtain ⟨t, e1, e2⟩ := h.vals p hp
      exact ⟨t, e1, by omega⟩
    · have : p = (.int (k : Int), .tuple t) := by simpa using hp
      rw [this]
      exact ⟨t, rfl, by omega⟩
  lnd := List.nodup_append.mpr ⟨h.lnd, by simp, fun a ha b hb => by simp at hb; rw [hb]; exact fun e => n' (e ▸ h.sub a ha)⟩
theorem FW.llen {st : List Stp} {n : Nat} {ks : List Nat} {kvs : List (PyData × PyData)} {line : List Nat} (h : FW st n ks kvs line) : line.length ≤ n := Mt.nodup_le n line (fun x hx => h.low x (h.sub x hx)) h.lnd
theorem dget_none {kvs : List (PyData × PyData)} {ks : List Nat} (k : Nat) (h : kvs.map (·.1) = kI' ks) : dGet kvs (k : Int) = none ↔ k ∉ ks := by
  have e := dget_keys k h
  cases hd : dGet kvs (k : Int) with
  | none => rw [hd] at e; simpa using e
  | some d => rw [hd] at e; simpa using e
theorem Rch.step {st : List Stp} {p : Nat} {s : Stp} (h : Rch st 0 p) (hs : s ∈ st) (e : s.a = p) : Rch st 0 s.b := h.trans ⟨_, 0, .one ⟨s, hs, e, rfl⟩⟩
theorem rch_closed {st : List Stp} {ks : List Nat} (h0 : 0 ∈ ks) (hc : ∀ s ∈ st, s.a ∈ ks → s.b ∈ ks) {p : Nat} (h : Rch st 0 p) : p ∈ ks := by
  obtain ⟨l, t, w⟩ := h
  have key : ∀ {a b : Nat} {l : List Nat} {t : Int}, Mt.Wl (fun a _ b => ∃ s ∈ st, s.a = a ∧ s.b = b) a l b t → a ∈ ks → b ∈ ks := by
    intro a b l t w
    induction w with
    | nil p => exact id
    | cons h w ih =>
      intro ha
      obtain ⟨s, hs, e1, e2⟩ := h
      exact ih (e2 ▸ hc s hs (e1 ▸ ha))
  exact key w h0
theorem ints_shape : ∀ (xs : List Int), PyData.canLayAll0 (xs.map PyData.int) = true ∧ PyData.depthAll (xs.map PyData.int) = 0
  | [] => ⟨rfl, rfl⟩
  | x :: xs => by
    obtain ⟨h1, h2⟩ := ints_shape xs
    refine ⟨?_, ?_⟩
    · show PyData.canLayAll0 (PyData.int x :: xs.map PyData.int) = true
      simp only [PyData.canLayAll0, PyData.canLay0, h1, Bool.and_self]
    · show PyData.depthAll (PyData.int x :: xs.map PyData.int) = 0
      simp only [PyData.depthAll, PyData.depth, h2, Nat.max_self]
theorem shaped_li (xs : List Int) : SeqAt.shaped (li xs) = true := by
  obtain ⟨h1, h2⟩ := ints_shape xs
  unfold SeqAt.shaped
  simp only [PyData.canLay0, PyData.depth, h1, h2]
  decide
theorem shaped_ti (xs : List Int) : SeqAt.shaped (ti xs) = true := by
  obtain ⟨h1, h2⟩ := ints_shape xs
  unfold SeqAt.shaped
  simp only [PyData.canLay0, PyData.depth, h1, h2]
  decide
theorem kI_li (ks : List Nat) : kI' ks = (ks.map fun (k : Nat) => (k : Int)).map PyData.int := by
  unfold kI'
  rw [List.map_map]
  rfl
theorem shaped_kI (ks : List Nat) : SeqAt.shaped (.list (kI' ks)) = true := by
  rw [kI_li]
  exact shaped_li _
theorem eqv_ln (ks : List Nat) : PyData.eqv (.list (kI' ks)) (.list []) = decide (ks = []) := by
  cases ks with
  | nil => rfl
  | cons k ks => rfl
@[simp ↓] theorem r_while {c : RT} {tb : RS} {K : Ends2} {ρ : En} : dWhile c tb K ρ = ∃ V : Nat → En → Prop, (∃ m, V m ρ) ∧ ∀ m ρ, V m ρ → c ρ fun b ρ1 => if b = true then tb { K with nx := fun ρ2 => ∃ m', m' < m ∧ V m' ρ2, ct := fun ρ2 => ∃ m', m' < m ∧ V m' ρ2, bk := K.nx } ρ1 else K.nx ρ1 := rfl
theorem pu_first_walks (ds : List PyData) (Q : PyData → Prop) (R : Ex → Prop) (h : sp_first_walks ds Q R) : t_first_walks (defEnds Q fun _ => False) ⟨st0 ["world", "found", "line", "place", "index", "step"] ds, 0⟩ := by
  obtain ⟨w, rfl, ⟨hn, hn2, hst, hs⟩, hq⟩ := h
  simp [t_first_walks]
  refine ⟨fun m ρ => ∃ ks kvs line a b c, FW w.st w.n ks kvs line ∧ (∀ s ∈ w.st, s.a ∈ ks → s.a ∉ line → s.b ∈ ks) ∧ m = 2 * (w.n - ks.length) + line.length ∧ ρ = ⟨[.s (eW w), .o (.dict kvs), .o (.list (kI' line)), a, b, c], 0⟩,
    ⟨_, [0], [(.int 0, .tuple [])], [0], .u, .u, .u, ⟨rfl, by simp, fun k hk => by simp at hk; omega, fun k hk => by simp at hk; rw [hk]; exact Mt.Rc.refl 0, by simp, fun k hk => hk, fun p hp => by simp at hp; rw [hp]; exact ⟨[], rfl, by simp⟩, by simp⟩, fun s _ h1 h2 => absurd h1 h2, rfl, rfl⟩, ?_⟩
  rintro m ρ ⟨ks, kvs, line, a, b, c, F, hc, rfl, rfl⟩
  simp
  refine ⟨shaped_kI line, by decide, ?_⟩
  rw [eqv_ln]
  cases line with
  | nil =>
    simp
    refine hq kvs ks F.keys F.nd fun p => ⟨F.rch p, fun hp => rch_closed F.zero (fun s hs ha => hc s hs ha (by simp)) hp⟩
  | cons p line =>
    simp [kI', eW]
    rw [enumD_eq]
    refine for_ind (fun rest ρ => ∃ (j : Nat) (vs done : List Stp) (ks2 : List Nat) (kvs2 : List (PyData × PyData)) (line2 : List Nat) (b c : Sl), rest = enF j (vs.map eS) ∧ w.st = done ++ vs ∧ FW w.st w.n ks2 kvs2 line2 ∧ p ∈ ks2 ∧ (∀ s ∈ w.st, s.a ∈ ks2 → s.a ∉ line2 → s.a ≠ p → s.b ∈ ks2) ∧ (∀ s ∈ done, s.a = p → s.b ∈ ks2) ∧
      2 * (w.n - ks2.length) + line2.length + 1 ≤ 2 * (w.n - ks.length) + (line.length + 1) ∧ ρ = ⟨[.s (eW w), .o (.dict kvs2), .o (.list (kI' line2)), .s (.int (p : Nat)), b, c], 0⟩)
      ⟨0, w.st, [], ks, kvs, line, b, c, rfl, rfl, ⟨F.keys, F.nd, F.low, F.rch, F.zero, fun k hk => F.sub k (List.mem_cons_of_mem _ hk), F.vals, (List.nodup_cons.mp F.lnd).2⟩, F.sub p (by simp), fun s hs h1 h2 h3 => hc s hs h1 (by simp [h2, h3]), fun s h => (nomatch h), by omega, rfl⟩ ?_ ?_
    · rintro ρ ⟨j, vs, done, ks2, kvs2, line2, b, c, e, e2, F2, hp, h1, h2, h3, rfl⟩
      cases vs with
      | cons s vs => simp at e
      | nil =>
        refine ⟨2 * (w.n - ks2.length) + line2.length, ?_, ks2, kvs2, line2, F2, fun s hs ha hl => ?_, rfl, .s (.int (p : Nat)), b, c, rfl⟩
        · have := h3; simp; omega
        · by_cases z : s.a = p
          · exact h2 s (by rw [e2] at hs; simpa using hs) z
          · exact h1 s hs ha hl z
    · rintro d rest ρ ⟨j, vs, done, ks2, kvs2, line2, b, c, e, e2, F2, hp, h1, h2, h3, rfl⟩ N hN
      cases vs with
      | nil => simp at e
      | cons s vs =>
        simp at e
        obtain ⟨rfl, rfl⟩ := e
        have hsm : s ∈ w.st := by rw [e2]; simp
        simp [eS]
        by_cases z : s.a = p
        · simp [z]
          by_cases hb : s.b ∈ ks2
          · rw [if_neg (fun q => (dget_none s.b F2.keys).mp q hb)]
            refine hN _ ⟨j + 1, vs, done ++ [s], ks2, kvs2, line2, _, _, rfl, by rw [e2]; simp, F2, hp, h1, fun x hx hx2 => ?_, h3, rfl⟩
            rcases List.mem_append.mp hx with hx | hx
            · exact h2 x hx hx2
            · have : x = s := by simpa using hx
              rw [this]; exact hb
          · rw [if_pos ((dget_none s.b F2.keys).mpr hb)]
            obtain ⟨t, ht, hlt⟩ := F2.get hp
            have hlen := F2.len
            have hkv : kvs2.length = ks2.length := by
              have := congrArg List.length F2.keys
              simpa [kI'] using this
            have hll := F2.llen
            have hlow := (hs s hsm).2
            have F3 := F2.add (t := t ++ [.int (j : Nat)]) hb hlow (Rch.step (F2.rch p hp) hsm z) (by simp; omega)
            have l3 := F3.len
            rw [List.length_append, List.length_singleton] at l3
            refine ⟨_, ht, ?_⟩
            simp
            refine ⟨by omega, by omega, by simp [kI']; omega, hN _ ⟨j + 1, vs, done ++ [s], ks2 ++ [s.b], kvs2 ++ [(.int (s.b : Int), .tuple (t ++ [.int (j : Nat)]))], line2 ++ [s.b], .s (.int (j : Nat)), .s (eS s), rfl, by rw [e2]; simp, F3, by simp [hp], fun x hx ha hl hne => ?_, fun x hx hx2 => ?_, ?_, ?_⟩⟩
            · rcases List.mem_append.mp ha with ha | ha
              · exact List.mem_append_left _ (h1 x hx ha (fun q => hl (List.mem_append_left _ q)) hne)
              · exact absurd (List.mem_append_right _ ha) hl
            · rcases List.mem_append.mp hx with hx | hx
              · exact List.mem_append_left _ (h2 x hx hx2)
              · have : x = s := by simpa using hx
                rw [this]; simp
            · simp; omega
            · rw [dput_new F2.keys hb]
              simp [kI', eS, z]
        · rw [if_neg (by omega)]
          refine hN _ ⟨j + 1, vs, done ++ [s], ks2, kvs2, line2, _, _, rfl, by rw [e2]; simp, F2, hp, h1, fun x hx hx2 => ?_, h3, rfl⟩
          rcases List.mem_append.mp hx with hx | hx
          · exact h2 x hx hx2
          · have : x = s := by simpa using hx
            rw [this] at hx2
            exact absurd hx2 z
end Yd
set_option Elab.async false
set_option linter.all false
set_option maxRecDepth 100000
set_option maxHeartbeats 1000000
/-! # Readings: the greatest walks, rings -/
namespace Yd
open PySem PySem.Spec PyProof.Rows L2 LamX
open Mt (Stp Wd Ln lget lput)
def ev (v : Int × List Int) : PyData := .tuple [.int v.1, ti v.2]
def eLk (l : Ln) : List (PyData × PyData) := l.map fun e => (PyData.int (e.1 : Nat), ev e.2)
theorem eL_eq (l : Ln) : eL l = .dict (eLk l) := rfl
theorem dget_eL (p : Nat) : ∀ l : Ln, dGet (eLk l) (p : Int) = (lget l p).map ev
  | [] => rfl
  | e :: l => by
    rw [Mt.lget_cons]
    have ih := dget_eL p l
    show dGet ((PyData.int (e.1 : Nat), ev e.2) :: eLk l) (p : Int) = _
    unfold dGet at ih ⊢
    by_cases h : e.1 = p
    · rw [if_pos h, List.find?_cons_of_pos (by rw [keyI_nat]; simp [h])]; rfl
    · rw [if_neg h, List.find?_cons_of_neg (by rw [keyI_nat]; simp [h])]; exact ih
theorem any_eL (p : Nat) : ∀ l : Ln, ((eLk l).any fun q => keyI q.1 (p : Int)) = l.any fun e => decide (e.1 = p)
  | [] => rfl
  | e :: l => by
    show ((PyData.int (e.1 : Nat), ev e.2) :: eLk l).any _ = _
    rw [List.any_cons, List.any_cons, any_eL p l, keyI_nat]
theorem map_eL (p : Nat) (v : Int × List Int) : ∀ l : Ln, ((eLk l).map fun q => if keyI q.1 (p : Int) = true then (q.1, ev v) else q) = eLk (l.map fun e => if e.1 = p then (e.1, v) else e)
  | [] => rfl
  | e :: l => by
    show (((PyData.int (e.1 : Nat), ev e.2) :: eLk l).map _) = (PyData.int _, ev _) :: eLk _
    rw [List.map_cons, map_eL p v l, keyI_nat]
    by_cases h : e.1 = p
    · simp [h]
    · simp [h]
theorem dput_eL (p : Nat) (v : Int × List Int) (l : Ln) : dPut (eLk l) (p : Int) (ev v) = eLk (lput l p v) := by
  unfold dPut lput
  rw [any_eL]
  by_cases h : (l.any fun e => decide (e.1 = p)) = true
  · rw [if_pos h, if_pos h, map_eL]
  · rw [if_neg h, if_neg h]
    unfold eLk
    rw [List.map_append]
    rfl
/-- no longer than t -/
def PB (t : Nat) (l : Ln) : Prop := ∀ e ∈ l, e.2.2.length ≤ t
theorem PB.get {t : Nat} {l : Ln} (h : PB t l) {p : Nat} {s : Int} {pa : List Int} (e : lget l p = some (s, pa)) : pa.length ≤ t := by
  unfold lget at e
  obtain ⟨x, hx, e2⟩ := Option.map_eq_some_iff.mp e
  have := h x (List.mem_of_find?_eq_some hx)
  rw [e2] at this
  exact this
theorem PB.put {t : Nat} {l : Ln} (h : PB t l) {p : Nat} {v : Int × List Int} (hv : v.2.length ≤ t) : PB t (lput l p v) := by
  unfold lput
  split
  · intro e he
    obtain ⟨x, hx, rfl⟩ := List.mem_map.mp he
    by_cases hp : x.1 = p
    · rw [if_pos hp]; exact hv
    · rw [if_neg hp]; exact h x hx
  · intro e he
    rcases List.mem_append.mp he with he | he
    · exact h e he
    · have : e = (p, v) := by simpa using he
      rw [this]; exact hv
theorem lput_len (l : Ln) (p : Nat) (v : Int × List Int) : (lput l p v).length ≤ l.length + 1 := by
  unfold lput
  split
  · rw [List.length_map]; omega
  · rw [List.length_append]; simp
theorem pu_great_walks (ds : List PyData) (Q : PyData → Prop) (R : Ex → Prop) (h : sp_great_walks ds Q R) : t_great_walks (defEnds Q fun _ => False) ⟨st0 ["world", "counts", "start", "line", "found", "turn", "following", "index", "step", "total"] ds, 0⟩ := by
  obtain ⟨w, cs, st, rfl, G, hq⟩ := h
  have hn := G.n
  have hst := G.st
  simp [t_great_walks, eW]
  refine ⟨by omega, ?_⟩
  refine for_ind (fun rest ρ => ∃ (k t : Nat) (pre : List Ln) (line : Ln) (a b c d e : Sl), rest.length = k ∧ t + k = w.n ∧ pre.length = t ∧ PB t line ∧ pre ++ Mt.gws (zed w.st cs) k line = Mt.gw (zed w.st cs) w.n st ∧
    ρ = ⟨[.s (eW w), .s (li cs), .s (.int (st : Nat)), .s (eL line), .o (.list (pre.map eL ++ [eL line])), a, b, c, d, e], 0⟩) ⟨w.n, 0, [], [(st, 0, [])], .u, .u, .u, .u, .u, by rw [rangeD_length], by omega, rfl, fun e he => by simp at he; rw [he]; simp, rfl, rfl⟩ ?_ ?_
  · rintro ρ ⟨k, t, pre, line, a, b, c, d, e, hk, ht, hp, hb, he, rfl⟩
    have : k = 0 := by rw [← hk]; rfl
    subst this
    simp
    have he : pre ++ [line] = Mt.gw (zed w.st cs) w.n st := he
    rw [← he] at hq
    simpa using hq
  · rintro d rest ρ ⟨k, t, pre, line, a, b, c, dd, e, hk, ht, hp, hb, he, rfl⟩ N hN
    cases k with
    | zero => simp at hk
    | succ k =>
      simp [eW]
      rw [enumD_eq]
      refine for_ind (fun rest2 ρ => ∃ (j : Nat) (vs : List Stp) (ds : List Int) (fo : Ln) (x y z : Sl), rest2 = enF j (vs.map eS) ∧ vs.length = ds.length ∧ w.st.drop j = vs ∧ cs.drop j = ds ∧ PB (t + 1) fo ∧ fo.length ≤ j ∧ Mt.gfold line j (zed vs ds) fo = Mt.gline (zed w.st cs) line ∧
        ρ = ⟨[.s (eW w), .s (li cs), .s (.int (st : Nat)), .s (eL line), .o (.list (pre.map eL ++ [eL line])), .s d, .o (.dict (eLk fo)), x, y, z], 0⟩) ⟨0, w.st, cs, [], c, dd, e, rfl, G.cs.symm, rfl, rfl, fun e he => by (cases he), Nat.le_refl _, rfl, rfl⟩ ?_ ?_
      · rintro ρ ⟨j, vs, ds, fo, x, y, z, e1, e2, e3, e4, e5, e6, e7, rfl⟩
        cases vs with
        | cons s vs => simp at e1
        | nil =>
          have e7 : fo = Mt.gline (zed w.st cs) line := by
            have z : zed [] ds = [] := by cases ds <;> rfl
            rw [z] at e7
            exact e7
          simp
          refine ⟨by omega, hN _ ⟨k, t + 1, pre ++ [line], fo, .s d, .s (eL fo), x, y, z, by simpa using hk, by omega, by simp [hp], e5, ?_, by simp [eL_eq]⟩⟩
          rw [← he, e7]
          simp [Mt.gws]
      · rintro d2 rest2 ρ ⟨j, vs, ds, fo, x, y, z, e1, e2, e3, e4, e5, e6, e7, rfl⟩ N2 hN2
        cases vs with
        | nil => simp at e1
        | cons s vs =>
          cases ds with
          | nil => simp at e2
          | cons cv ds =>
            simp at e1
            obtain ⟨rfl, rfl⟩ := e1
            have hz : zed (s :: vs) (cv :: ds) = (s.a, cv, s.b) :: zed vs ds := rfl
            rw [hz] at e7
            have e7 : Mt.gfold line (j + 1) (zed vs ds) (Mt.gone line fo j (s.a, cv, s.b)) = Mt.gline (zed w.st cs) line := e7
            have hcs : cs[j]? = some cv := by
              have z := congrArg (fun t : List Int => t[0]?) e4
              simpa using z
            have hs1 : w.st.drop (j + 1) = vs := by
              have z := congrArg (fun t : List Stp => t.drop 1) e3
              simpa [List.drop_drop, Nat.add_comm] using z
            have hc1 : cs.drop (j + 1) = ds := by
              have z := congrArg (fun t : List Int => t.drop 1) e4
              simpa [List.drop_drop, Nat.add_comm] using z
            have hjl : j < w.st.length := by
              apply Decidable.byContradiction
              intro z
              rw [List.drop_eq_nil_of_le (by omega)] at e3
              cases e3
            have hb1 : PB (t + 1) fo := e5
            have go : ∀ (fo2 : Ln) (x y z : Sl), Mt.gone line fo j (s.a, cv, s.b) = fo2 → PB (t + 1) fo2 → fo2.length ≤ j + 1 → N2 ⟨[.s (eW w), .s (li cs), .s (.int (st : Nat)), .s (eL line), .o (.list (pre.map eL ++ [eL line])), .s d, .o (.dict (eLk fo2)), x, y, z], 0⟩ := fun fo2 x y z h1 h2 h3 =>
              hN2 _ ⟨j + 1, vs, ds, fo2, x, y, z, rfl, by simpa using e2, hs1, hc1, h2, h3, by rw [← h1]; exact e7, rfl⟩
            cases hl : lget line s.a with
            | none =>
              simp [eS, eL_eq, dget_eL, hl]
              exact go fo _ _ _ (by unfold Mt.gone; rw [hl]) e5 (by omega)
            | some v =>
              obtain ⟨u, pa⟩ := v
              have hpa := hb.get hl
              have hpl : (eLk fo).length = fo.length := by simp [eLk]
              have put : ∀ x y z : Sl, Mt.gone line fo j (s.a, cv, s.b) = lput fo s.b (u + cv, pa ++ [(j : Int)]) → N2 ⟨[.s (eW w), .s (li cs), .s (.int (st : Nat)), .s (eL line), .o (.list (pre.map eL ++ [eL line])), .s d, .o (.dict (dPut (eLk fo) (s.b : Int) (.tuple [.int (u + cv), .tuple (pa.map PyData.int ++ [.int (j : Nat)])]))), x, y, z], 0⟩ := fun x y z hg => by
                have e : PyData.tuple [.int (u + cv), .tuple (pa.map PyData.int ++ [.int (j : Nat)])] = ev (u + cv, pa ++ [(j : Int)]) := by simp [ev]
                rw [e, dput_eL]
                exact go _ x y z hg (e5.put (by simp; omega)) (Nat.le_trans (lput_len _ _ _) (by omega))
              cases hf : lget fo s.b with
              | none =>
                simp [eS, eL_eq, dget_eL, hl, hf, hcs, ev]
                refine ⟨by omega, by omega, ?_⟩
                exact put _ _ _ (by unfold Mt.gone; rw [hl]; simp only [hf])
              | some v2 =>
                obtain ⟨u2, pa2⟩ := v2
                simp [eS, eL_eq, dget_eL, hl, hf, hcs, ev]
                by_cases hlt : u2 < u + cv
                · rw [if_pos hlt]
                  refine ⟨by omega, by omega, ?_⟩
                  exact put _ _ _ (by unfold Mt.gone; rw [hl]; simp only [hf]; rw [if_pos hlt])
                · rw [if_neg hlt]
                  exact go fo _ _ _ (by unfold Mt.gone; rw [hl]; simp only [hf]; rw [if_neg hlt]) e5 (by omega)
theorem pu_ring_from (ds : List PyData) (Q : PyData → Prop) (R : Ex → Prop) (h : sp_ring_from ds Q R) : t_ring_from (defEnds Q fun _ => False) ⟨st0 ["world", "counts", "place", "line"] ds, 0⟩ := by
  obtain ⟨w, cs, p, rfl, G, h1, h2⟩ := h
  simp [t_ring_from]
  refine ⟨w, cs, p, rfl, G, ?_⟩
  simp
  have hg : ∀ (i : Nat) (line : Ln), (Mt.gw (zed w.st cs) w.n p)[i]? = some line → 0 < i → ∀ s pa, lget line p = some (s, pa) → 0 < s → Mt.ringAt (zed w.st cs) w.n p := fun i line hi h0 s pa hl hs => Mt.ringAt_iff.mpr ⟨i, line, s, pa, h0, hi, hl, hs⟩
  have e0 : (List.map eL (Mt.gw (zed w.st cs) w.n p)).tail = (Mt.gw (zed w.st cs) w.n p).tail.map eL := by simp
  simp only [e0]
  refine for_ind (fun rest ρ => ∃ (i : Nat) (ls : List Ln) (x : Sl), rest = ls.map eL ∧ 0 < i ∧ (Mt.gw (zed w.st cs) w.n p).drop i = ls ∧ (∀ j line s pa, 0 < j → j < i → (Mt.gw (zed w.st cs) w.n p)[j]? = some line → lget line p = some (s, pa) → ¬ 0 < s) ∧
    ρ = ⟨[.s (eW w), .s (li cs), .s (.int (p : Nat)), x], 0⟩) ⟨1, _, .u, rfl, by omega, by simp, fun j line s pa a b => by omega, rfl⟩ ?_ ?_
  · rintro ρ ⟨i, ls, x, e, hi, hd, hn, rfl⟩
    cases ls with
    | cons a b => simp at e
    | nil =>
      simp
      refine h1 fun hr => ?_
      obtain ⟨j, line, s, pa, h0, hj, hl, hs⟩ := Mt.ringAt_iff.mp hr
      have hlt : j < i := by
        have z := List.drop_eq_nil_iff.mp hd
        have := (List.getElem?_eq_some_iff.mp hj).1
        omega
      exact hn j line s pa h0 hlt hj hl hs
  · rintro d rest ρ ⟨i, ls, x, e, hi, hd, hn, rfl⟩ N hN
    cases ls with
    | nil => simp at e
    | cons line ls =>
      simp at e
      obtain ⟨rfl, rfl⟩ := e
      have hat : (Mt.gw (zed w.st cs) w.n p)[i]? = some line := by
        have z := congrArg (fun t : List Ln => t[0]?) hd
        simpa using z
      have hd1 : (Mt.gw (zed w.st cs) w.n p).drop (i + 1) = ls := by
        have z := congrArg (fun t : List Ln => t.drop 1) hd
        simpa [List.drop_drop, Nat.add_comm] using z
      have nxt : (∀ s pa, lget line p = some (s, pa) → ¬ 0 < s) → N ⟨[.s (eW w), .s (li cs), .s (.int (p : Nat)), .s (eL line)], 0⟩ := fun hz => hN _ ⟨i + 1, ls, _, rfl, by omega, hd1, fun j l2 s pa a b hj hl => by
        by_cases hji : j = i
        · subst hji
          rw [hat] at hj
          cases hj
          exact hz s pa hl
        · exact hn j l2 s pa a (by omega) hj hl, rfl⟩
      cases hl : lget line p with
      | none =>
        simp [eL_eq, dget_eL, hl]
        exact nxt fun s pa z => by rw [hl] at z; cases z
      | some v =>
        obtain ⟨s, pa⟩ := v
        simp [eL_eq, dget_eL, hl, ev]
        by_cases hs : 0 < s
        · rw [if_pos hs]
          exact h2 (hg i line hat hi s pa hl hs) _ rfl
        · rw [if_neg hs]
          exact nxt fun s2 pa2 z => by rw [hl] at z; cases z; exact hs
@[simp ↓] theorem r_sortD {Q1 : PyData → Prop} {kvs : List (PyData × PyData)} : kSortD [.dict kvs] Q1 = (∃ ks : List Int, kvs.map (·.1) = ks.map PyData.int ∧ ks.length < 64 ∧ ∀ ys : List Int, ys.Perm ks → ys.Pairwise (· ≤ ·) → Q1 (.list (ys.map PyData.int))) := rfl
theorem q_ring_from {w : Wd} {cs : List Int} {p : Nat} {Q : PyData → Prop} {R : Ex → Prop} (G : Gsm w cs) (h1 : ¬ Mt.ringAt (zed w.st cs) w.n p → Q .none) (h2 : Mt.ringAt (zed w.st cs) w.n p → ∀ d, isNoneD d = false → Q d) : sp_ring_from [eW w, li cs, .int (p : Nat)] Q R := ⟨w, cs, p, rfl, G, h1, h2⟩
theorem nats_of {ks : List Nat} {ys : List Int} (h : ys.Perm (ks.map fun (k : Nat) => (k : Int))) : ∃ ps : List Nat, ys = ps.map (fun (k : Nat) => (k : Int)) ∧ ∀ p, p ∈ ps ↔ p ∈ ks := by
  have e : ys = (ys.map Int.toNat).map (fun (k : Nat) => (k : Int)) := by
    rw [List.map_map]
    have : ∀ y ∈ ys, ((fun (k : Nat) => (k : Int)) ∘ Int.toNat) y = y := fun y hy => by
      obtain ⟨k, _, rfl⟩ := List.mem_map.mp (h.mem_iff.mp hy)
      simp
    exact ((List.map_congr_left this).trans (List.map_id' ys)).symm
  refine ⟨ys.map Int.toNat, e, fun p => ?_⟩
  constructor
  · intro hp
    obtain ⟨y, hy, rfl⟩ := List.mem_map.mp hp
    obtain ⟨k, hk, rfl⟩ := List.mem_map.mp (h.mem_iff.mp hy)
    simpa using hk
  · intro hp
    exact List.mem_map.mpr ⟨(p : Int), h.mem_iff.mpr (List.mem_map.mpr ⟨p, hp, rfl⟩), by simp⟩
theorem pu_asking_ring (ds : List PyData) (Q : PyData → Prop) (R : Ex → Prop) (h : sp_asking_ring ds Q R) : t_asking_ring (defEnds Q fun _ => False) ⟨st0 ["world", "counts", "walks", "place", "ring"] ds, 0⟩ := by
  obtain ⟨w, cs, rfl, G, h1, h2⟩ := h
  simp [t_asking_ring]
  have hn := G.n
  refine ⟨w, rfl, ⟨G.pos, G.n, G.st, G.be⟩, fun kvs ks hk nd hks => ?_⟩
  simp
  have hkl : ks.length ≤ w.n := Mt.nodup_le w.n ks (fun x hx => by
    obtain ⟨l, t, wl⟩ := (hks x).mp hx
    cases l with
    | nil => cases wl; exact G.pos
    | cons a l =>
      have hb : Mt.Be w.n (fun a _ b => ∃ s ∈ w.st, s.a = a ∧ s.b = b) := fun p c q ⟨s, hs, e1, e2⟩ => by
        have := G.be s hs
        omega
      exact wl.low hb x (wl.last (by simp))) nd
  refine ⟨ks.map fun (k : Nat) => (k : Int), by rw [hk, List.map_map]; rfl, by rw [List.length_map]; omega, fun ys hy hs => ?_⟩
  obtain ⟨ps, rfl, hps⟩ := nats_of hy
  refine for_ind (fun rest ρ => ∃ (qs : List Nat) (a b : Sl), rest = (qs.map fun (k : Nat) => (k : Int)).map PyData.int ∧ (∀ q ∈ qs, q ∈ ks) ∧ (∀ q ∈ ks, q ∉ qs → ¬ Mt.ringAt (zed w.st cs) w.n q) ∧ ρ = ⟨[.s (eW w), .s (li cs), .s (.dict kvs), a, b], 0⟩)
    ⟨ps, .u, .u, rfl, fun q hq => (hps q).mp hq, fun q hq n => absurd ((hps q).mpr hq) n, rfl⟩ ?_ ?_
  · rintro ρ ⟨qs, a, b, e, hq, hr, rfl⟩
    cases qs with
    | cons q qs => simp at e
    | nil =>
      simp
      refine h1 fun ⟨p, hp, hrp⟩ => ?_
      exact hr p ((hks p).mpr hp) (by simp) hrp
  · rintro d rest ρ ⟨qs, a, b, e, hq, hr, rfl⟩ N hN
    cases qs with
    | nil => simp at e
    | cons q qs =>
      simp at e
      obtain ⟨rfl, rfl⟩ := e
      have hqk : q ∈ ks := hq q (by simp)
      simp
      refine q_ring_from G (fun hn => ?_) fun hrp d hd => ?_
      · simp [isNoneD]
        refine hN _ ⟨qs, _, _, by simp, fun x hx => hq x (List.mem_cons_of_mem _ hx), fun x hx hnx => ?_, rfl⟩
        by_cases hxq : x = q
        · rw [hxq]; exact hn
        · exact hr x hx (by simp [hxq, hnx])
      · simp [hd]
        have e := dget_keys q hk
        rw [decide_eq_true hqk] at e
        obtain ⟨v, hv⟩ := Option.isSome_iff_exists.mp e
        exact ⟨v, hv, h2 ⟨q, (hks q).mp hqk, hrp⟩ v d⟩
theorem zed_es (us : List Int) (st : List Stp) (k : Nat) : zed st (cnts us st k) = Mt.es us st k := by
  unfold zed cnts Mt.es
  rw [List.zipWith_map_right, List.zipWith_self]
  rfl
theorem rch_es {us : List Int} {st : List Stp} {k : Nat} {p q : Nat} : Rch st p q ↔ Mt.Rc (Mt.es us st k).ed p q := by
  constructor
  · exact Mt.Rc.cost fun a c b ⟨s, hs, e1, e2⟩ => ⟨Mt.cnt us s.d k, List.mem_map.mpr ⟨s, hs, by unfold Mt.edge; rw [e1, e2]⟩⟩
  · exact Mt.Rc.cost fun a c b h => by
      obtain ⟨s, hs, e⟩ := List.mem_map.mp h
      unfold Mt.edge at e
      injection e with e1 e2
      injection e2 with e2 e3
      exact ⟨0, s, hs, e1, e3⟩
theorem Wsm.g {us : List Int} {w : Wd} (h : Wsm us w) (k : Nat) : Gsm w (cnts us w.st k) := ⟨h.ok.1, h.n, h.st, fun s hs => ⟨(h.ok.2 s hs).1, (h.ok.2 s hs).2.1⟩, by simp [cnts]⟩
/-- a ring that grows, by what asking_ring asks -/
theorem ask_pr {us : List Int} {w : Wd} (h : Wsm us w) (k : Nat) : (∃ p, Rch w.st 0 p ∧ Mt.ringAt (Mt.es us w.st k) w.n p) ↔ Mt.PR (Mt.es us w.st k).ed 0 := by
  constructor
  · rintro ⟨p, hp, l, s, n, _, wl, hs⟩
    exact ⟨p, l, s, rch_es.mp hp, n, wl, hs⟩
  · intro hp
    obtain ⟨q, l, s, r, n, wl, hs, hl⟩ := hp.short (Mt.es_be h.ok (fun _ z => z) k)
    exact ⟨q, rch_es.mpr r, l, s, n, hl, wl, hs⟩
theorem pu_ring_found (ds : List PyData) (Q : PyData → Prop) (R : Ex → Prop) (h : sp_ring_found ds Q R) : t_ring_found (defEnds Q fun _ => False) ⟨st0 ["units", "world", "unit", "found"] ds, 0⟩ := by
  obtain ⟨us, w, rfl, W, h1, h2⟩ := h
  have hu := W.un.1
  simp [t_ring_found]
  refine ⟨by omega, by omega, ?_⟩
  have er : ((us.length : Int) + 1).toNat = us.length + 1 := by omega
  refine for_ind (fun rest ρ => ∃ (i : Nat) (a b : Sl), rest = (rangeD (us.length + 1)).drop i ∧ (∀ k < i, ¬ Mt.PR (Mt.es us w.st k).ed 0) ∧ ρ = ⟨[.s (ti us), .s (eW w), a, b], 0⟩) ⟨0, .u, .u, rfl, fun k hk => by omega, rfl⟩ ?_ ?_
  · rintro ρ ⟨i, a, b, e, hi, rfl⟩
    simp
    refine h1 fun k hk => hi k ?_
    have z := List.drop_eq_nil_iff.mp e.symm
    rw [rangeD_length] at z
    omega
  · rintro d rest ρ ⟨i, a, b, e, hi, rfl⟩ N hN
    have hlt : i < us.length + 1 := by
      apply Decidable.byContradiction
      intro z
      rw [List.drop_eq_nil_of_le (by rw [rangeD_length]; omega)] at e
      cases e
    have hd : d = .int (i : Nat) := by
      have z := congrArg (fun t : List PyData => t[0]?) e
      have z2 : (rangeD (us.length + 1))[i]? = some d := by simpa using z.symm
      exact rangeD_get z2
    have hrest : rest = (rangeD (us.length + 1)).drop (i + 1) := by
      have z := congrArg (fun t : List PyData => t.drop 1) e
      simpa [List.drop_drop, Nat.add_comm] using z
    subst hd
    simp
    refine ⟨us, w, i, rfl, W, by omega, w, cnts us w.st i, rfl, W.g i, ?_, ?_⟩
    · intro hno
      rw [zed_es] at hno
      simp [isNoneD]
      refine hN _ ⟨i + 1, _, _, hrest, fun k hk => ?_, rfl⟩
      by_cases hki : k = i
      · subst hki
        exact fun z => hno ((ask_pr W k).mpr z)
      · exact hi k (by omega)
    · intro hyes a b
      rw [zed_es] at hyes
      simp [isNoneD]
      exact h2 (fun L => L i (by omega) ((ask_pr W i).mp hyes)) _ rfl
end Yd
set_option Elab.async false
set_option linter.all false
set_option maxRecDepth 100000
set_option maxHeartbeats 1000000
/-! # Readings: the greatest that a step may carry -/
namespace Yd
open PySem PySem.Spec PyProof.Rows L2 LamX
open Mt (Stp Wd Ln lget lput)
theorem q_dropT {xs : List PyData} {k : Nat} {Q : PyData → Prop} {R : Ex → Prop} (h : k < xs.length) (h2 : xs.length ≤ 1000) (q : Q (.tuple (xs.take k ++ xs.drop (k + 1)))) : sp_dropped [.tuple xs, .int (k : Nat)] Q R := .inl ⟨xs, k, rfl, h, h2, q⟩
theorem q_dropL {xs : List PyData} {k : Nat} {Q : PyData → Prop} {R : Ex → Prop} (h : k < xs.length) (h2 : xs.length ≤ 1000) (q : Q (.list (xs.take k ++ xs.drop (k + 1)))) : sp_dropped [.list xs, .int (k : Nat)] Q R := .inr ⟨xs, k, rfl, h, h2, q⟩
/-- the world without the step at i -/
def bw (w : Wd) (i : Nat) : Wd := ⟨w.n, Mt.bare w.st i⟩
theorem bw_g {us : List Int} {w : Wd} (h : Wsm us w) (i k : Nat) : Gsm (bw w i) (cnts us (Mt.bare w.st i) k) := by
  refine ⟨h.ok.1, h.n, ?_, fun s hs => ?_, by simp [cnts, bw]⟩
  · show (Mt.bare w.st i).length ≤ 100
    have := h.st
    unfold Mt.bare
    rw [List.length_append, List.length_take, List.length_drop]
    omega
  · have := h.ok.2 s (Mt.bare_sub s hs)
    exact ⟨this.1, this.2.1⟩
theorem bw_be {us : List Int} {w : Wd} (h : Wsm us w) (i k : Nat) : Mt.Be w.n (Mt.es us (Mt.bare w.st i) k).ed := Mt.es_be h.ok (fun _ z => Mt.bare_sub _ z) k
theorem bare_rc {us : List Int} {w : Wd} {i k : Nat} {p q : Nat} (h : Mt.Rc (Mt.es us (Mt.bare w.st i) k).ed p q) : Mt.Rc (Mt.es us w.st k).ed p q := h.cost fun a c b z => by
  obtain ⟨s, hs, e⟩ := List.mem_map.mp z
  exact ⟨c, List.mem_map.mpr ⟨s, Mt.bare_sub s hs, e⟩⟩
theorem oth_ring {us : List Int} {w : Wd} (h : Wsm us w) (i k : Nat) : Mt.OthW us w i k ↔ ∃ q, Rch w.st 0 q ∧ Mt.ringAt (Mt.es us (Mt.bare w.st i) k) w.n q := by
  constructor
  · rintro ⟨q, l, t, h1, h2, h3, h4⟩
    obtain ⟨q', l', t', r, n, wl, ht, hl⟩ := Mt.ring_short (bw_be h i k) (p := q) l.length q l t (Nat.le_refl _) (Mt.Rc.refl q) h2 h3 h4
    exact ⟨q', rch_es.mpr (h1.trans (bare_rc r)), l', t', n, hl, wl, ht⟩
  · rintro ⟨q, h1, l, t, n, hl, wl, ht⟩
    exact ⟨q, l, t, rch_es.mp h1, n, wl, ht⟩
def sumsOf (a : Nat) (ls : List Ln) : List Int := ls.filterMap fun l => (lget l a).map (·.1)
theorem cnts_bare (us : List Int) (st : List Stp) (i k : Nat) : (cnts us st k).take i ++ (cnts us st k).drop (i + 1) = cnts us (Mt.bare st i) k := by
  unfold cnts Mt.bare
  rw [List.map_append, List.map_take, List.map_drop]
theorem eqv_li (xs : List Int) : PyData.eqv (li xs) (.list []) = decide (xs = []) := by
  cases xs with
  | nil => rfl
  | cons x xs => rfl
theorem sums_app (a : Nat) (done : List Ln) (l : Ln) : sumsOf a (done ++ [l]) = sumsOf a done ++ (match lget l a with | some v => [v.1] | none => []) := by
  unfold sumsOf
  rw [List.filterMap_append]
  cases h : lget l a <;> simp [h]
theorem sums_mem {es : Mt.Es} {n b a : Nat} {x : Int} (h : x ∈ sumsOf a (Mt.gw es n b)) : ∃ l, l.length ≤ n ∧ Mt.Wl es.ed b l a x := by
  obtain ⟨line, hl, e⟩ := List.mem_filterMap.mp h
  obtain ⟨v, hv, rfl⟩ := Option.map_eq_some_iff.mp e
  obtain ⟨i, hi⟩ := List.mem_iff_getElem?.mp hl
  have g := Mt.gw_at hi
  obtain ⟨v1, v2⟩ := v
  obtain ⟨⟨l, hll, w⟩, _⟩ := g.some_ a v1 v2 hv
  have := (List.getElem?_eq_some_iff.mp hi).1
  rw [Mt.gw_len] at this
  exact ⟨l, by omega, w⟩
theorem sums_top {es : Mt.Es} {n b a : Nat} {l : List Nat} {t : Int} (hl : l.length ≤ n) (w : Mt.Wl es.ed b l a t) : ∃ x ∈ sumsOf a (Mt.gw es n b), t ≤ x := by
  have hi : l.length < (Mt.gw es n b).length := by rw [Mt.gw_len]; omega
  have e := List.getElem?_eq_getElem hi
  have g := Mt.gw_at e
  cases hp : lget (Mt.gw es n b)[l.length] a with
  | none => exact absurd w (g.none_ a hp l t rfl)
  | some v =>
    obtain ⟨v1, v2⟩ := v
    exact ⟨v1, List.mem_filterMap.mpr ⟨_, List.getElem_mem hi, by rw [hp]; rfl⟩, (g.some_ a v1 v2 hp).2 l t rfl w⟩
theorem pu_greatest_over (ds : List PyData) (Q : PyData → Prop) (R : Ex → Prop) (h : sp_greatest_over ds Q R) : t_greatest_over (defEnds Q R) ⟨st0 ["units", "world", "step", "unit", "counts", "bare", "others", "met", "place", "start", "deed", "goal", "sums", "line"] ds, 0⟩ := by
  obtain ⟨us, w, i, s, k, rfl, W, hs, hk, hno, hgo⟩ := h
  have hn := W.n
  have hst := W.st
  have hi : i < w.st.length := (List.getElem?_eq_some_iff.mp hs).1
  have hsm : s ∈ w.st := List.mem_of_getElem? hs
  have hbs := W.ok.2 s hsm
  have hgi : (cnts us w.st k)[i]? = some (Mt.cnt us s.d k) := by
    unfold cnts
    rw [List.getElem?_map, hs]; rfl
  simp [t_greatest_over]
  refine ⟨us, w, k, rfl, W, hk, ?_⟩
  simp [eW]
  refine q_dropT (by simpa using hi) (by simp; omega) ?_
  refine q_dropL (by simp [cnts]; exact hi) (by simp [cnts]; omega) ?_
  have eb : PyData.tuple [.int (w.n : Nat), .tuple ((w.st.map eS).take i ++ (w.st.map eS).drop (i + 1))] = eW (bw w i) := by
    unfold eW bw Mt.bare
    rw [List.map_append, List.map_take, List.map_drop]
  have eo : PyData.list (((cnts us w.st k).map PyData.int).take i ++ ((cnts us w.st k).map PyData.int).drop (i + 1)) = li (cnts us (Mt.bare w.st i) k) := by
    rw [← cnts_bare, ← List.map_take, ← List.map_drop, ← List.map_append]
  refine ⟨w, rfl, ⟨W.ok.1, W.n, W.st, fun s hs => ⟨(W.ok.2 s hs).1, (W.ok.2 s hs).2.1⟩⟩, fun kvs ks hkk nd hks => ?_⟩
  simp only [eb, eo]
  have hkl : ks.length ≤ w.n := Mt.nodup_le w.n ks (fun x hx => by
    obtain ⟨l, t, wl⟩ := (hks x).mp hx
    cases l with
    | nil => cases wl; exact W.ok.1
    | cons a l =>
      have hb : Mt.Be w.n (fun a _ b => ∃ s ∈ w.st, s.a = a ∧ s.b = b) := fun p c q ⟨s, hs, e1, e2⟩ => by
        have := W.ok.2 s hs
        omega
      exact wl.low hb x (wl.last (by simp))) nd
  simp
  refine ⟨ks.map fun (k : Nat) => (k : Int), by rw [hkk, List.map_map]; rfl, by rw [List.length_map]; omega, fun ys hy hs2 => ?_⟩
  obtain ⟨ps, rfl, hps⟩ := nats_of hy
  have G := bw_g W i k
  have ez : zed (bw w i).st (cnts us (Mt.bare w.st i) k) = Mt.es us (Mt.bare w.st i) k := zed_es us (Mt.bare w.st i) k
  refine for_ind (fun rest ρ => ∃ (qs : List Nat) (a : Sl), rest = (qs.map fun (k : Nat) => (k : Int)).map PyData.int ∧ (∀ q ∈ qs, q ∈ ks) ∧ (∀ q ∈ ks, q ∉ qs → ¬ Mt.ringAt (Mt.es us (Mt.bare w.st i) k) w.n q) ∧
    ρ = ⟨[.s (ti us), .s (eW w), .s (.int (i : Nat)), .s (.int (k : Nat)), .s (li (cnts us w.st k)), .s (eW (bw w i)), .s (li (cnts us (Mt.bare w.st i) k)), .s (.dict kvs), a, .u, .u, .u, .u, .u], 0⟩)
    ⟨ps, .u, rfl, fun q hq => (hps q).mp hq, fun q hq n => absurd ((hps q).mpr hq) n, rfl⟩ ?_ ?_
  · rintro ρ ⟨qs, a, e, hq, hr, rfl⟩
    cases qs with
    | cons q qs => simp at e
    | nil =>
      have hnr : ¬ Mt.OthW us w i k := fun z => by
        obtain ⟨q, h1, h2⟩ := (oth_ring W i k).mp z
        exact hr q ((hks q).mpr h1) (by simp) h2
      obtain ⟨go1, go2⟩ := hgo hnr
      simp [eW, hs, eS]
      by_cases hin : s.a ∈ ks
      · rw [if_neg (fun q => (dget_none s.a hkk).mp q hin)]
        have hra := (hks s.a).mp hin
        refine ⟨bw w i, cnts us (Mt.bare w.st i) k, s.b, rfl, G, ?_⟩
        rw [ez]
        have hbn : (bw w i).n = w.n := rfl
        rw [hbn]
        simp
        refine ⟨by rw [Mt.gw_len]; omega, ?_⟩
        refine lc_ind (fun rest acc ρ => ∃ (ls done : List Ln), rest = ls.map eL ∧ acc = (sumsOf s.a done).map PyData.int ∧ done ++ ls = Mt.gw (Mt.es us (Mt.bare w.st i) k) w.n s.b ∧
          ρ = ⟨[.s (ti us), .s (eW w), .s (.int (i : Nat)), .s (.int (k : Nat)), .s (li (cnts us w.st k)), .s (eW (bw w i)), .s (li (cnts us (Mt.bare w.st i) k)), .s (.dict kvs), a, .s (.int (s.a : Nat)), .s (eD s.d), .s (.int (s.b : Nat)), .u, .u], 0⟩)
          ⟨_, [], rfl, rfl, rfl, rfl⟩ ?_ ?_
        · rintro acc ρ ⟨ls, done, e, rfl, e2, rfl⟩
          cases ls with
          | cons l ls => simp at e
          | nil =>
            rw [List.append_nil] at e2
            subst e2
            simp
            refine ⟨shaped_li _, by decide, ?_⟩
            have ee : PyData.eqv (.list ((sumsOf s.a (Mt.gw (Mt.es us (Mt.bare w.st i) k) w.n s.b)).map PyData.int)) (.list []) = decide (sumsOf s.a (Mt.gw (Mt.es us (Mt.bare w.st i) k) w.n s.b) = []) := eqv_li _
            rw [ee]
            by_cases hem : sumsOf s.a (Mt.gw (Mt.es us (Mt.bare w.st i) k) w.n s.b) = []
            · simp [hem]
              refine go1 (.inr fun z => ?_)
              obtain ⟨l, t, wl⟩ := rch_es (us := us) (k := k) |>.mp z
              obtain ⟨l', t', wl', hl'⟩ := Mt.rc_short (bw_be W i k) hbs.2.1 l.length l t (Nat.le_refl _) wl
              obtain ⟨x, hx, _⟩ := sums_top (n := w.n) (by omega) wl'
              rw [hem] at hx
              cases hx
            · simp [hem, hgi, kMaxL]
              refine ⟨_, rfl, List.length_pos_iff.mpr hem, fun m hm hmax => ?_⟩
              obtain ⟨l0, _, wl0⟩ := sums_mem hm
              refine go2 hra (rch_es (us := us) (k := k) |>.mpr ⟨l0, m, wl0⟩) _ ⟨⟨l0, ?_⟩, fun l t wl hl => ?_⟩
              · have e3 : Mt.cnt us s.d k + m - Mt.cnt us s.d k = m := by omega
                rw [e3]; exact wl0
              · obtain ⟨x, hx, hle⟩ := sums_top (n := w.n) hl wl
                have := hmax x hx
                omega
        · rintro d rest acc ρ ⟨ls, done, e, rfl, e2, rfl⟩ N hN
          cases ls with
          | nil => simp at e
          | cons l ls =>
            simp at e
            obtain ⟨rfl, rfl⟩ := e
            cases hl : lget l s.a with
            | none =>
              simp [eL_eq, dget_eL, hl]
              exact hN _ _ ⟨ls, done ++ [l], rfl, by rw [sums_app, hl]; simp, by rw [← e2]; simp, rfl⟩
            | some v =>
              obtain ⟨v1, v2⟩ := v
              simp [eL_eq, dget_eL, hl, ev]
              exact hN _ _ ⟨ls, done ++ [l], rfl, by rw [sums_app, hl]; simp, by rw [← e2]; simp, rfl⟩
      · rw [if_pos ((dget_none s.a hkk).mpr hin)]
        exact go1 (.inl fun z => hin ((hks s.a).mpr z))
  · rintro d rest ρ ⟨qs, a, e, hq, hr, rfl⟩ N hN
    cases qs with
    | nil => simp at e
    | cons q qs =>
      simp at e
      obtain ⟨rfl, rfl⟩ := e
      have hqk : q ∈ ks := hq q (by simp)
      simp
      refine q_ring_from G (fun hnr => ?_) fun hrp d hd => ?_
      · simp [isNoneD]
        refine hN _ ⟨qs, _, by simp, fun x hx => hq x (List.mem_cons_of_mem _ hx), fun x hx hnx => ?_, rfl⟩
        by_cases hxq : x = q
        · rw [hxq]
          rw [ez] at hnr
          exact hnr
        · exact hr x hx (by simp [hxq, hnx])
      · simp [hd]
        rw [ez] at hrp
        exact hno ((oth_ring W i k).mpr ⟨q, (hks q).mp hqk, hrp⟩)
end Yd
set_option Elab.async false
set_option linter.all false
set_option maxRecDepth 100000
set_option maxHeartbeats 1000000
/-! # Readings: least_more, most_more -/
namespace Yd
open PySem PySem.Spec PyProof.Rows L2 LamX
open Mt (Stp Wd Ln lget lput)
theorem ok_ti {us : List Int} (h : Usm us) : okUnits (ti us) = true := by
  unfold okUnits
  simp
  refine ⟨h.1, fun x hx => ?_⟩
  have := h.2 x hx
  simp [isFrom]
  omega
theorem ok_step {us : List Int} {w : Wd} (h : Wlaw us w) {s : Stp} (hs : s ∈ w.st) : isStep us.length (w.n : Nat) (eS s) = true := by
  have h1 := h.sm.ok.2 s hs
  have h2 := h.row s hs
  show (isFrom (.int (s.a : Nat)) 0 ((w.n : Nat) - 1) && (isDeed us.length (eD s.d) && isFrom (.int (s.b : Nat)) 0 ((w.n : Nat) - 1))) = true
  rw [h2]
  simp [isFrom]
  omega
theorem ok_world {us : List Int} {w : Wd} (h : Wlaw us w) : okWorld us.length (eW w) := by
  refine ⟨w.n, w.st.map eS, rfl, by have := h.sm.ok.1; omega, by have := h.n; omega, by rw [List.length_map]; exact h.st, fun s hs => ?_⟩
  obtain ⟨x, hx, rfl⟩ := List.mem_map.mp hs
  exact ok_step h hx
theorem stLen_eW (w : Wd) : stLen (eW w) = w.st.length := by
  unfold stLen eW
  simp
theorem ti_len (us : List Int) : (us.map PyData.int).length = us.length := List.length_map ..
theorem pu_least_more (ds : List PyData) (Q : PyData → Prop) (R : Ex → Prop) (h : sp_least_more ds Q R) : t_least_more (defEnds Q R) ⟨st0 ["units", "world", "step", "sums"] ds, 0⟩ := by
  obtain ⟨u, v, i, rfl, h⟩ := h
  simp [t_least_more]
  rcases h with ⟨h1, h2⟩ | ⟨h1, rfl, h2⟩ | ⟨us, w, rfl, rfl, W, h⟩
  · exact ⟨u, v, i, rfl, .inl ⟨h1, h2⟩⟩
  · exact ⟨u, _, i, rfl, .inr ⟨h1, .inl ⟨rfl, h2⟩⟩⟩
  · refine ⟨_, _, i, rfl, .inr ⟨ok_ti W.sm.un, .inr ⟨_, rfl, by rw [ti_len]; exact ok_world W, ?_⟩⟩⟩
    rw [stLen_eW]
    rcases h with ⟨hi, h⟩ | ⟨k, s, rfl, hs, hno, hgo⟩
    · exact ⟨fun z => absurd z (by rw [hi]; simp), fun _ => h⟩
    · have hk := (List.getElem?_eq_some_iff.mp hs).1
      refine ⟨fun _ => ?_, fun z => absurd z (by simp [isFrom]; omega)⟩
      refine ⟨us, w, k, s, rfl, W.sm, hs, fun z => hno z, fun z => ?_⟩
      obtain ⟨g1, g2⟩ := hgo z
      refine ⟨fun z2 => ?_, fun z2 z3 gs hl ht => ?_⟩
      · simp [isNoneD]
        exact ⟨us, rfl, W.sm.un.1, g1 z2⟩
      · simp [isNoneD]
        refine ⟨us, gs, rfl, W.sm.un.1, hl, usm_sm W.sm.un, ?_⟩
        exact ⟨us, Mt.up us gs, rfl, W.sm.un.1, Mt.up_len hl, usm_sm W.sm.un, g2 z2 z3 gs hl ht⟩
theorem pu_most_more (ds : List PyData) (Q : PyData → Prop) (R : Ex → Prop) (h : sp_most_more ds Q R) : t_most_more (defEnds Q R) ⟨st0 ["units", "world", "step", "sums", "number"] ds, 0⟩ := by
  obtain ⟨u, v, i, rfl, h⟩ := h
  simp [t_most_more]
  rcases h with ⟨h1, h2⟩ | ⟨h1, rfl, h2⟩ | ⟨us, w, rfl, rfl, W, h⟩
  · exact ⟨u, v, i, rfl, .inl ⟨h1, h2⟩⟩
  · exact ⟨u, _, i, rfl, .inr ⟨h1, .inl ⟨rfl, h2⟩⟩⟩
  · refine ⟨_, _, i, rfl, .inr ⟨ok_ti W.sm.un, .inr ⟨_, rfl, by rw [ti_len]; exact ok_world W, ?_⟩⟩⟩
    rw [stLen_eW]
    rcases h with ⟨hi, h⟩ | ⟨k, s, rfl, hs, hno, hgo⟩
    · exact ⟨fun z => absurd z (by rw [hi]; simp), fun _ => h⟩
    · have hk := (List.getElem?_eq_some_iff.mp hs).1
      refine ⟨fun _ => ?_, fun z => absurd z (by simp [isFrom]; omega)⟩
      refine ⟨us, w, rfl, W.sm, fun L => ?_, fun L d hd => ?_⟩
      · obtain ⟨g1, g2⟩ := hgo L
        simp [isNoneD]
        refine ⟨us, w, k, s, rfl, W.sm, hs, fun ⟨j, hj, z⟩ => absurd L (Mt.dead_self W.sm.ok hs hj z), fun z => ?_⟩
        refine ⟨fun z2 => ?_, fun z2 z3 gs hl ht => ?_⟩
        · simp [isNoneD]
          exact g1 z2
        · simp [isNoneD]
          refine ⟨by have := W.sm.un.1; omega, ?_⟩
          refine lc_map PyData.int (fun i => PyData.int (-i)) (fun _ => True) (fun ρ => ∃ b c d, ρ = ⟨[.s (ti us), b, c, d, .u], 0⟩) ?_ _ _ _ (fun _ _ => trivial) ⟨_, _, _, rfl⟩ ?_
          · rintro i ρ _ ⟨b, c, d, rfl⟩ N hN
            simp
            exact hN _ ⟨b, c, d, rfl⟩
          · rintro ρ ⟨b, c, d, rfl⟩
            have hg := (Mt.lives_top W.sm.ok hs z (g := fun j => gs.getD j 0) (rch_es.mp z2) ht).1.mp L
            have hp : Mt.Pos (gs.map fun x => -x) := fun x hx => by
              obtain ⟨y, hy, rfl⟩ := List.mem_map.mp hx
              obtain ⟨j, hj⟩ := List.mem_iff_getElem?.mp hy
              have hjl := (List.getElem?_eq_some_iff.mp hj).1
              have := hg j (by omega)
              rw [List.getD_eq_getElem?_getD, hj] at this
              have : y ≤ 0 := this
              omega
            have hl2 : (gs.map fun x => -x).length = us.length + 1 := by rw [List.length_map]; exact hl
            refine ⟨us, gs.map fun x => -x, ?_, W.sm.un.1, hl2, fun u hu => by have := W.sm.un.2 u hu; omega, hp, ?_⟩
            · simp [Function.comp_def]
            · exact ⟨us, Mt.down us (gs.map fun x => -x), rfl, W.sm.un.1, Mt.down_len hl2, usm_sm W.sm.un, g2 z2 z3 gs hl ht⟩
      · simp [hd]
        exact hno L
end Yd
set_option Elab.async false
set_option linter.all false
set_option maxRecDepth 100000
set_option maxHeartbeats 1000000
/-! # Readings: the law's own small defs -/
namespace Yd
open PySem PySem.Spec PyProof.Rows L2 LamX
open Mt (Stp Wd Ln lget lput)
theorem pu__law_mixed (ds : List PyData) (Q : PyData → Prop) (R : Ex → Prop) (h : sp__law_mixed ds Q R) : t__law_mixed (defEnds Q fun _ => False) ⟨st0 ["_law_cell", "_law_k"] ds, 0⟩ := by
  obtain ⟨c, k, rfl, h1, h2, hq⟩ := h
  simp [t__law_mixed]
  refine ⟨.inl (by omega), .inl (by omega), .inl ⟨?_, ?_⟩, .inl (by omega), .inr (by omega), hq _⟩
  · have := Int.emod_nonneg c (show (2147483647 : Int) ≠ 0 by decide)
    omega
  · have := Int.emod_lt_of_pos c (show (0 : Int) < 2147483647 by decide)
    omega
theorem pu__law_beside (ds : List PyData) (Q : PyData → Prop) (R : Ex → Prop) (h : sp__law_beside ds Q R) : t__law_beside (defEnds Q fun _ => False) ⟨st0 ["_law_one", "_law_other", "_law_near", "_law_far"] ds, 0⟩ := by
  obtain ⟨a, b, rfl, h1, h2, hq⟩ := h
  simp [t__law_beside]
  rw [zip_ti]
  refine ⟨by simp; omega, ?_⟩
  refine lc_map (fun p : Int × Int => PyData.tuple [.int p.1, .int p.2]) (fun p => PyData.int (p.1 + p.2)) (fun _ => True) (fun ρ => ∃ a b, ρ = ⟨[a, b, .u, .u], 0⟩) ?_ _ _ _ (fun _ _ => trivial) ⟨_, _, rfl⟩ ?_
  · rintro ⟨x, y⟩ ρ _ ⟨a, b, rfl⟩ N hN
    simp
    exact hN _ ⟨a, b, rfl⟩
  · rintro ρ ⟨_, _, rfl⟩
    have e : List.zipWith (· + ·) a b = (List.zip a b).map fun p => p.1 + p.2 := by
      rw [List.zip, List.map_zipWith]
    rw [e] at hq
    simpa [Function.comp_def] using hq
theorem pu__law_put_in (ds : List PyData) (Q : PyData → Prop) (R : Ex → Prop) (h : sp__law_put_in ds Q R) : t__law_put_in (defEnds Q fun _ => False) ⟨st0 ["_law_world_so", "_law_index", "_law_deed_so", "_law_places_so", "_law_steps_so", "_law_start", "_law_old", "_law_goal", "_law_near"] ds, 0⟩ := by
  obtain ⟨n, st, k, a, o, b, d, rfl, hk, hl, hq⟩ := h
  have lk : k < st.length := (List.getElem?_eq_some_iff.mp hk).1
  simp [t__law_put_in]
  refine ⟨_, hk, ?_⟩
  simp
  refine ⟨by omega, by omega, by omega, by simpa using hq⟩
theorem pu__law_count (ds : List PyData) (Q : PyData → Prop) (R : Ex → Prop) (h : sp__law_count ds Q R) : t__law_count (defEnds Q fun _ => False) ⟨st0 ["_law_units_so", "_law_deed_so", "_law_unit", "_law_number"] ds, 0⟩ := by
  obtain ⟨us, d, k, rfl, hu, hd, hk, hq⟩ := h
  cases d with
  | pass =>
    simp [t__law_count, eD]
    have e : Mt.cnt us .pass k = 0 := by
      unfold Mt.cnt Mt.counts Mt.zeros
      rw [List.getD_eq_getElem?_getD, List.getElem?_replicate]
      split <;> rfl
    rw [e] at hq
    exact hq
  | ask r =>
    have hg := cnts_get hd hk
    obtain ⟨hl, _⟩ := hd
    simp [t__law_count, eD]
    rw [if_neg (by decide)]
    refine ⟨us, r, rfl, hu.1, hl, usm_sm hu, ?_⟩
    have hg : (Mt.stair us r)[k]? = some (Mt.cnt us (.ask r) k) := hg
    simp [hg]
    exact hq
  | bring r =>
    obtain ⟨hl, _⟩ := hd
    have hs := Mt.stair_len hl
    have hg : (Mt.stair us r)[k]? = some (Mt.stair us r)[k] := List.getElem?_eq_getElem (by omega)
    have e : Mt.cnt us (.bring r) k = -(Mt.stair us r)[k] := by
      unfold Mt.cnt Mt.counts
      rw [Mt.getD_neg, List.getD_eq_getElem?_getD, hg]
      rfl
    rw [e] at hq
    simp [t__law_count, eD]
    rw [if_neg (by decide)]
    refine ⟨us, r, rfl, hu.1, hl, usm_sm hu, ?_⟩
    simp [hg]
    rw [if_neg (by decide)]
    exact hq
theorem pu__law_lives (ds : List PyData) (Q : PyData → Prop) (R : Ex → Prop) (h : sp__law_lives ds Q R) : t__law_lives (defEnds Q fun _ => False) ⟨st0 ["_law_units_so", "_law_world_so"] ds, 0⟩ := by
  obtain ⟨us, w, rfl, W, hq⟩ := h
  simp [t__law_lives]
  refine ⟨us, w, rfl, W, fun d rest hd => ?_⟩
  simp
  refine hq _ ?_
  cases hn : isNoneD d with
  | true => rw [hn] at hd; simpa using hd
  | false => rw [hn] at hd; simpa using hd
theorem q_count {us : List Int} {d : Mt.Deed} {k : Nat} {Q : PyData → Prop} {R : Ex → Prop} (h1 : Usm us) (h2 : Mt.Dok us d) (h3 : k ≤ us.length) (q : Q (.int (Mt.cnt us d k))) : sp__law_count [ti us, eD d, .int (k : Nat)] Q R := ⟨us, d, k, rfl, h1, h2, h3, q⟩
theorem get_li {h : List Int} {i : Nat} (hi : i < h.length) : h[i]? = some (h.getD i 0) := by
  rw [List.getD_eq_getElem?_getD, List.getElem?_eq_getElem hi]; rfl
theorem pu__law_further (ds : List PyData) (Q : PyData → Prop) (R : Ex → Prop) (h : sp__law_further ds Q R) : t__law_further (defEnds Q fun _ => False) ⟨st0 ["_law_units_so", "_law_world_so", "_law_unit", "_law_here", "_law_found", "_law_start", "_law_deed_so", "_law_goal", "_law_number"] ds, 0⟩ := by
  obtain ⟨us, w, k, h, rfl, W, hk, hl, hq⟩ := h
  simp [t__law_further, eW]
  refine for_ind (fun rest ρ => ∃ (vs : List Stp) (fo : List Int) (a b c d : Sl), rest = vs.map eS ∧ (∀ s ∈ vs, s ∈ w.st) ∧ fo.length = w.n ∧ (Mt.es us vs k).foldl (Mt.fstep h) fo = Mt.further (Mt.es us w.st k) h ∧
    ρ = ⟨[.s (ti us), .s (eW w), .s (.int (k : Nat)), .s (li h), .o (li fo), a, b, c, d], 0⟩) ⟨w.st, h, .u, .u, .u, .u, rfl, fun _ h => h, hl, rfl, rfl⟩ ?_ ?_
  · rintro ρ ⟨vs, fo, a, b, c, d, e, hm, hf, he, rfl⟩
    cases vs with
    | cons s vs => simp at e
    | nil =>
      have he : fo = Mt.further (Mt.es us w.st k) h := he
      rw [← he] at hq
      simpa using hq
  · rintro d rest ρ ⟨vs, fo, a, b, c, dd, e, hm, hf, he, rfl⟩ N hN
    cases vs with
    | nil => simp at e
    | cons s vs =>
      simp at e
      obtain ⟨rfl, rfl⟩ := e
      have hs := hm s (by simp)
      have hok := W.ok.2 s hs
      obtain ⟨x, hx⟩ : ∃ x, h[s.b]? = some x := ⟨_, List.getElem?_eq_getElem (by omega)⟩
      obtain ⟨y, hy⟩ : ∃ y, fo[s.a]? = some y := ⟨_, List.getElem?_eq_getElem (by omega)⟩
      have ex : h.getD s.b 0 = x := by rw [List.getD_eq_getElem?_getD, hx]; rfl
      have ey : fo.getD s.a 0 = y := by rw [List.getD_eq_getElem?_getD, hy]; rfl
      have hix : ixN fo.length (s.a : Int) = some s.a := by
        unfold ixN
        rw [if_pos (by omega), if_pos (by omega)]
        simp
      have he2 : (Mt.es us vs k).foldl (Mt.fstep h) (Mt.fstep h fo (Mt.edge us k s)) = Mt.further (Mt.es us w.st k) h := he
      have hstep : Mt.fstep h fo (Mt.edge us k s) = fo.set s.a (Mt.mx y (Mt.cnt us s.d k + x)) := by
        unfold Mt.fstep Mt.edge
        simp only [ex, ey]
      rw [hstep] at he2
      have hN2 : ∀ a b c d : Sl, N ⟨[.s (ti us), .s (eW w), .s (.int (k : Nat)), .s (li h), .o (li (fo.set s.a (Mt.mx y (Mt.cnt us s.d k + x)))), a, b, c, d], 0⟩ := fun a b c d => hN _ ⟨vs, _, a, b, c, d, rfl, fun z hz => hm z (List.mem_cons_of_mem _ hz), by rw [List.length_set]; exact hf, he2, rfl⟩
      simp only [eS]
      simp
      refine q_count W.un hok.2.2 hk ?_
      simp [hx, hy, hix]
      have z := hN2 (.s (.int (s.a : Nat))) (.s (eD s.d)) (.s (.int (s.b : Nat))) (.s (.int (Mt.cnt us s.d k + x)))
      simpa [List.map_set, Mt.mx] using z
end Yd
set_option Elab.async false
set_option linter.all false
set_option maxRecDepth 100000
set_option maxHeartbeats 1000000
/-! # Readings: what leads to the lost, the needs -/
namespace Yd
open PySem PySem.Spec PyProof.Rows L2 LamX
open Mt (Stp Wd)
theorem flat_kI (ks : List Nat) : (kI' ks).all flatD = true := by
  unfold kI'
  rw [List.all_map, List.all_eq_true]
  intro x _
  rfl
theorem inD_kI (k : Nat) : ∀ ks : List Nat, inD (.int (k : Int)) (kI' ks) = decide (k ∈ ks)
  | [] => rfl
  | a :: ks => by
    have ih := inD_kI k ks
    have h : inD (.int (k : Int)) (kI' (a :: ks)) = (PyData.eqv (.int (a : Int)) (.int (k : Int)) || inD (.int (k : Int)) (kI' ks)) := rfl
    rw [h, ih, eqv_int]
    by_cases e : a = k
    · subst e; simp
    · have e2 : ¬ (a : Int) = (k : Int) := by omega
      simp [e2, Ne.symm e]
/-- what came to f -/
structure Ld (n : Nat) (f fo : List Nat) : Prop where
  ex : ∃ nw, fo = f ++ nw ∧ nw.Nodup ∧ (∀ x ∈ nw, x < n) ∧ ∀ x ∈ nw, x ∉ f
theorem Ld.len {n : Nat} {f fo : List Nat} (h : Ld n f fo) : fo.length ≤ f.length + n := by
  obtain ⟨nw, e, nd, lo, _⟩ := h.ex
  have := Mt.nodup_le n nw lo nd
  rw [e, List.length_append]
  omega
theorem Ld.add {n : Nat} {f fo : List Nat} (h : Ld n f fo) {k : Nat} (hk : k < n) (hn : k ∉ fo) : Ld n f (fo ++ [k]) := by
  obtain ⟨nw, e, nd, lo, nf⟩ := h.ex
  subst e
  have h1 : k ∉ f := fun z => hn (List.mem_append_left _ z)
  have h2 : k ∉ nw := fun z => hn (List.mem_append_right _ z)
  refine ⟨nw ++ [k], by rw [List.append_assoc], List.nodup_append.mpr ⟨nd, by simp, fun a ha b hb => by simp at hb; rw [hb]; exact fun e => h2 (e ▸ ha)⟩, fun x hx => ?_, fun x hx => ?_⟩
  · rcases List.mem_append.mp hx with hx | hx
    · exact lo x hx
    · have : x = k := by simpa using hx
      rw [this]; exact hk
  · rcases List.mem_append.mp hx with hx | hx
    · exact nf x hx
    · have : x = k := by simpa using hx
      rw [this]; exact h1
theorem pu__law_leading (ds : List PyData) (Q : PyData → Prop) (R : Ex → Prop) (h : sp__law_leading ds Q R) : t__law_leading (defEnds Q fun _ => False) ⟨st0 ["_law_world_so", "_law_places_so", "_law_found", "_law_turn", "_law_start", "_law_deed_so", "_law_goal"] ds, 0⟩ := by
  obtain ⟨w, f, rfl, ⟨hn, hn2, hst, hs⟩, hf, hfl, hq⟩ := h
  simp [t__law_leading, eW, ln]
  refine ⟨by omega, ?_⟩
  refine for_ind (fun rest ρ => ∃ (t : Nat) (a b c d : Sl), rest.length + t = w.n ∧ Ld w.n f (Mt.lead (Mt.es [] w.st 0) t f) ∧ ρ = ⟨[.s (eW w), .s (ln f), .o (.list (kI' (Mt.lead (Mt.es [] w.st 0) t f))), a, b, c, d], 0⟩) ⟨0, .u, .u, .u, .u, by rw [rangeD_length]; omega, ⟨[], by simp [Mt.lead], by simp, by simp, by simp⟩, rfl⟩ ?_ ?_
  · rintro ρ ⟨t, a, b, c, d, e, L, rfl⟩
    have : t = w.n := by simpa using e
    subst this
    simp
    exact hq
  · rintro d rest ρ ⟨t, a, b, c, dd, e, L, rfl⟩ N hN
    simp [eW]
    refine for_ind (fun rest2 ρ => ∃ (vs : List Stp) (fo : List Nat) (x y z : Sl), rest2 = vs.map eS ∧ (∀ s ∈ vs, s ∈ w.st) ∧ Ld w.n f fo ∧ (Mt.es [] vs 0).foldl Mt.lstep fo = Mt.lead (Mt.es [] w.st 0) (t + 1) f ∧
      ρ = ⟨[.s (eW w), .s (ln f), .o (.list (kI' fo)), .s d, x, y, z], 0⟩) ⟨w.st, _, b, c, dd, rfl, fun _ h => h, L, rfl, rfl⟩ ?_ ?_
    · rintro ρ ⟨vs, fo, x, y, z, e1, hm, L2, he, rfl⟩
      cases vs with
      | cons s vs => simp at e1
      | nil =>
        have he : fo = Mt.lead (Mt.es [] w.st 0) (t + 1) f := he
        rw [List.length_cons] at e
        refine hN _ ⟨t + 1, .s d, x, y, z, by omega, by rw [← he]; exact L2, by rw [he]⟩
    · rintro d2 rest2 ρ ⟨vs, fo, x, y, z, e1, hm, L2, he, rfl⟩ N2 hN2
      cases vs with
      | nil => simp at e1
      | cons s vs =>
        simp at e1
        obtain ⟨rfl, rfl⟩ := e1
        have hsm := hm s (by simp)
        have hlen := L2.len
        have he : (Mt.es [] vs 0).foldl Mt.lstep (Mt.lstep fo (Mt.edge [] 0 s)) = Mt.lead (Mt.es [] w.st 0) (t + 1) f := he
        have hl : Mt.lstep fo (Mt.edge [] 0 s) = if s.b ∈ fo ∧ s.a ∉ fo then fo ++ [s.a] else fo := rfl
        rw [hl] at he
        have nxt : ∀ fo2 : List Nat, Ld w.n f fo2 → (Mt.es [] vs 0).foldl Mt.lstep fo2 = Mt.lead (Mt.es [] w.st 0) (t + 1) f → ∀ x y z : Sl, N2 ⟨[.s (eW w), .s (ln f), .o (.list (kI' fo2)), .s d, x, y, z], 0⟩ := fun fo2 h1 h2 x y z => hN2 _ ⟨vs, fo2, x, y, z, rfl, fun q hq => hm q (List.mem_cons_of_mem _ hq), h1, h2, rfl⟩
        simp only [eS]
        simp [flat_kI, flatD, inD_kI]
        by_cases hb : s.b ∈ fo
        · by_cases ha : s.a ∈ fo
          · rw [if_neg (fun z => z.2 ha)] at he
            simp [hb, ha]
            exact nxt fo L2 he _ _ _
          · rw [if_pos ⟨hb, ha⟩] at he
            simp [hb, ha]
            refine ⟨by simp [kI']; omega, ?_⟩
            have z := nxt _ (L2.add (hs s hsm).1 ha) he (.s (.int (s.a : Nat))) (.s (eD s.d)) (.s (.int (s.b : Nat)))
            simpa [kI'] using z
        · rw [if_neg (fun z => hb z.1)] at he
          simp [hb]
          exact nxt fo L2 he _ _ _
end Yd
set_option Elab.async false
set_option linter.all false
set_option maxRecDepth 100000
set_option maxHeartbeats 2000000
/-! # Readings: the needs -/
namespace Yd
open PySem PySem.Spec PyProof.Rows L2 LamX
open Mt (Stp Wd)
theorem range_at {n i : Nat} {d : PyData} {rest : List PyData} (e : d :: rest = (rangeD n).drop i) : i < n ∧ d = .int (i : Nat) ∧ rest = (rangeD n).drop (i + 1) := by
  have hlt : i < n := by
    apply Decidable.byContradiction
    intro z
    rw [List.drop_eq_nil_of_le (by rw [rangeD_length]; omega)] at e
    cases e
  refine ⟨hlt, ?_, ?_⟩
  · have z := congrArg (fun t : List PyData => t[0]?) e
    have z2 : (rangeD n)[i]? = some d := by simpa using z.symm
    exact rangeD_get z2
  · have z := congrArg (fun t : List PyData => t.drop 1) e
    simpa [List.drop_drop, Nat.add_comm] using z
theorem range_end {n i : Nat} (e : [] = (rangeD n).drop i) : n ≤ i := by
  have z := List.drop_eq_nil_iff.mp e.symm
  rw [rangeD_length] at z
  exact z
theorem range_map (n : Nat) : rangeD n = (List.range n).map fun (i : Nat) => PyData.int (i : Int) := rfl
/-- what the units done have found -/
structure Nd (us : List Int) (w : Wd) (u : Nat) (lost : List Nat) : Prop where
  low : ∀ y ∈ lost, y < w.n
  len : lost.length ≤ u * w.n
  out : ∀ y ∈ lost, ∃ k h, k ≤ us.length ∧ h.length = w.n ∧ Mt.Lost (Mt.es us w.st k) w.n h y
  all : ∀ k < u, ∃ h, h.length = w.n ∧ ∀ y, Mt.Lost (Mt.es us w.st k) w.n h y → y ∈ lost
theorem Nd.lives {us : List Int} {w : Wd} {lost : List Nat} (W : Wsm us w) (h : Nd us w (us.length + 1) lost) : 0 ∈ Mt.lead (Mt.es [] w.st 0) w.n lost ↔ ¬ Mt.Lives us w := by
  have hb : Mt.Be w.n (Mt.es [] w.st 0).ed := fun p c q e => by
    obtain ⟨s, hs, he⟩ := List.mem_map.mp e
    unfold Mt.edge at he
    injection he with e1 e2
    injection e2 with e2 e3
    have := W.ok.2 s hs
    omega
  rw [Mt.lead_iff hb W.ok.1]
  constructor
  · rintro ⟨y, hy, r⟩ L
    obtain ⟨k, h', hk, hl, hlost⟩ := h.out y hy
    have pr := Mt.lost_ring (Mt.es_be W.ok (fun _ z => z) k) hl hlost
    exact L k hk (pr.from (rch_es.mp (rch_es.mpr r)))
  · intro nl
    have : ∃ k, k ≤ us.length ∧ Mt.PR (Mt.es us w.st k).ed 0 := by
      apply Classical.byContradiction
      intro z
      exact nl fun k hk p => z ⟨k, hk, p⟩
    obtain ⟨k, hk, p⟩ := this
    obtain ⟨h', hl, ha⟩ := h.all k (by omega)
    obtain ⟨q, hq, r⟩ := Mt.ring_lost (Mt.es_be W.ok (fun _ z => z) k) hl W.ok.1 p
    exact ⟨q, ha q hq, rch_es.mp (rch_es.mpr r)⟩
theorem q_further {us : List Int} {w : Wd} {k : Nat} {h : List Int} {Q : PyData → Prop} {R : Ex → Prop} (W : Wsm us w) (hk : k ≤ us.length) (hl : h.length = w.n) (q : Q (li (Mt.further (Mt.es us w.st k) h))) : sp__law_further [ti us, eW w, .int (k : Nat), li h] Q R := ⟨us, w, k, h, rfl, W, hk, hl, q⟩
def lls (rows : List (List Int)) : PyData := .list (rows.map li)
theorem seq_i {u v : RS} {K : Ends2} {ρ : En} (h : u { K with nx := v K } ρ) : dSeq u v K ρ := h
section
variable {us : List Int} {w : Wd} {K : Ends2} {x2 x3 x4 x5 x6 x7 x8 x9 x10 x11 : Sl}
theorem sg_A (W : Wsm us w) (h : K.nx ⟨[.s (ti us), .s (eW w), x2, x3, x4, .o (li (List.replicate w.n 0)), x6, x7, .u, x9, x10, x11], 0⟩) :
    dSetO 5 (dLc (diRange (dIxN 1 (dC (.int 0)))) (dgName 8) dYes (dC (.int 0)) [8]) K ⟨[.s (ti us), .s (eW w), x2, x3, x4, x5, x6, x7, x8, x9, x10, x11], 0⟩ := by
  have hn := W.n
  simp [eW]
  refine ⟨by omega, by rw [rangeD_length]; omega, ?_⟩
  rw [range_map]
  refine lc_map (fun (i : Nat) => PyData.int (i : Int)) (fun _ => PyData.int 0) (fun _ => True) (fun ρ => ρ = ⟨[.s (ti us), .s (eW w), x2, x3, x4, x5, x6, x7, .u, x9, x10, x11], 0⟩) ?_ _ _ _ (fun _ _ => trivial) rfl ?_
  · rintro i ρ _ rfl N hN
    simp
    exact hN _ rfl
  · rintro ρ rfl
    simp
    have e : List.replicate w.n (PyData.int 0) = (List.range w.n).map fun _ => PyData.int 0 := by
      rw [List.map_const', List.length_range]
    simpa [Function.comp_def, e] using h
theorem sg_B {rows : List (List Int)} {u : Nat} (W : Wsm us w) (hu : u ≤ us.length) (hr : ∀ r ∈ rows, r.length = u) (hrl : rows.length = w.n) (h2 : x2 = .s (lls rows) ∨ x2 = .o (lls rows))
    (h : ∀ (h0 : List Int) (y2 y10 : Sl), h0.length = w.n → (y2 = .s (lls rows) ∨ y2 = .o (lls rows)) → K.nx ⟨[.s (ti us), .s (eW w), y2, x3, .s (.int (u : Nat)), .o (li h0), x6, x7, x8, x9, y10, x11], 0⟩) :
    dIfS (dTest (dOp kGtI (dVar 4) (dC (.int 0)))) (dSetO 5 (dLc (diList (dVar 2)) (dgName 10) dYes (dOp kMulI (dIxN 0 (dOp kSubI (dVar 4) (dC (.int 1)))) (dIxN 10 (dUn kNeg (dC (.int 1))))) [10])) dNext K
      ⟨[.s (ti us), .s (eW w), x2, x3, .s (.int (u : Nat)), .o (li (List.replicate w.n 0)), x6, x7, x8, x9, x10, x11], 0⟩ := by
  have hn := W.n
  cases u with
  | zero =>
    simp
    have z := h (List.replicate w.n 0) x2 x10 (by simp) h2
    simpa using z
  | succ u =>
    obtain ⟨uv, huv⟩ : ∃ x, us[u]? = some x := ⟨_, List.getElem?_eq_getElem (by omega)⟩
    have e1 : (u : Int) + 1 - 1 = (u : Nat) := by omega
    have hsm : -(2 ^ 64) < uv ∧ uv < 2 ^ 64 := usm_sm W.un uv (List.mem_of_getElem? huv)
    have fin : ∀ Q : PyData → En → Prop, (∀ y2 : Sl, (y2 = .s (lls rows) ∨ y2 = .o (lls rows)) → Q (.list (rows.map fun r => .int (uv * r.getLastD 0))) ⟨[.s (ti us), .s (eW w), y2, x3, .s (.int ((u + 1 : Nat) : Int)), .o (li (List.replicate w.n 0)), x6, x7, x8, x9, .u, x11], 0⟩) →
        lcW (dgName 10) dYes (dOp kMulI (dIxN 0 (dOp kSubI (dVar 4) (dC (.int 1)))) (dIxN 10 (dUn kNeg (dC (.int 1))))) [10] Q (rows.map li) [] ⟨[.s (ti us), .s (eW w), .s (lls rows), x3, .s (.int ((u + 1 : Nat) : Int)), .o (li (List.replicate w.n 0)), x6, x7, x8, x9, .u, x11], 0⟩ := by
      intro Q hQ
      refine lc_map li (fun r => PyData.int (uv * r.getLastD 0)) (fun r => r ∈ rows) (fun ρ => ρ = ⟨[.s (ti us), .s (eW w), .s (lls rows), x3, .s (.int ((u + 1 : Nat) : Int)), .o (li (List.replicate w.n 0)), x6, x7, x8, x9, .u, x11], 0⟩) ?_ _ _ _ (fun _ h => h) rfl ?_
      · rintro r ρ hrm rfl N hN
        have hl := hr r hrm
        obtain ⟨lastv, hlast⟩ : ∃ x, r.getLast? = some x := by
          cases hx : r.getLast? with
          | none => rw [List.getLast?_eq_none_iff.mp hx] at hl; simp at hl
          | some x => exact ⟨x, rfl⟩
        have eD : r.getLastD 0 = lastv := by
          rw [List.getLastD_eq_getLast?, hlast]; rfl
        rw [eD] at hN
        simp [e1, huv, getLast_at hlast]
        exact ⟨.inl hsm, by simpa using hN _ rfl⟩
      · rintro ρ rfl
        exact hQ _ (.inl rfl)
    have go := fin (fun d ρ' => K.nx (ρ'.put 5 (Sl.o d))) fun y2 hy2 => by
      have z := h (rows.map fun r => uv * r.getLastD 0) y2 .u (by simpa using hrl) hy2
      simpa [Function.comp_def] using z
    rcases h2 with rfl | rfl
    · simp [lls]
      exact ⟨by omega, by simpa [lls] using go⟩
    · simp [lls]
      exact ⟨by omega, by simpa [lls] using go⟩
theorem sg_C {h0 : List Int} {u : Nat} (W : Wsm us w) (hu : u ≤ us.length) (hl : h0.length = w.n) (h : ∀ y5 y6 : Sl, (y5 = .s (li (Mt.iter (Mt.es us w.st u) w.n h0)) ∨ y5 = .o (li (Mt.iter (Mt.es us w.st u) w.n h0))) → K.nx ⟨[.s (ti us), .s (eW w), x2, x3, .s (.int (u : Nat)), y5, y6, x7, x8, x9, x10, x11], 0⟩) :
    dFor (diRange (dIxN 1 (dC (.int 0)))) (dgName 6) (dSet 5 (dCall sp__law_further (dCons (dVar 0) (dCons (dVar 1) (dCons (dVar 4) (dCons (dVar 5) dNil)))))) K
      ⟨[.s (ti us), .s (eW w), x2, x3, .s (.int (u : Nat)), .o (li h0), x6, x7, x8, x9, x10, x11], 0⟩ := by
  have hn := W.n
  simp [eW]
  refine ⟨by omega, ?_⟩
  refine for_ind (fun rest ρ => ∃ (t : Nat) (y5 y6 : Sl), rest.length + t = w.n ∧ (y5 = .s (li (Mt.iter (Mt.es us w.st u) t h0)) ∨ y5 = .o (li (Mt.iter (Mt.es us w.st u) t h0))) ∧ ρ = ⟨[.s (ti us), .s (eW w), x2, x3, .s (.int (u : Nat)), y5, y6, x7, x8, x9, x10, x11], 0⟩)
    ⟨0, _, x6, by rw [rangeD_length]; omega, .inr rfl, rfl⟩ ?_ ?_
  · rintro ρ ⟨t, y5, y6, e, h5, rfl⟩
    have : t = w.n := by simpa using e
    subst this
    exact h y5 y6 h5
  · rintro d rest ρ ⟨t, y5, y6, e, h5, rfl⟩ N hN
    have step : ∀ y6 : Sl, N ⟨[.s (ti us), .s (eW w), x2, x3, .s (.int (u : Nat)), .s (li (Mt.iter (Mt.es us w.st u) (t + 1) h0)), y6, x7, x8, x9, x10, x11], 0⟩ := fun y6 => hN _ ⟨t + 1, _, y6, by rw [List.length_cons] at e; omega, .inl rfl, rfl⟩
    have hlen : (Mt.iter (Mt.es us w.st u) t h0).length = w.n := by rw [Mt.iter_len]; exact hl
    rcases h5 with rfl | rfl
    · simp
      refine q_further W hu hlen ?_
      exact step _
    · simp
      refine q_further W hu hlen ?_
      exact step _
theorem sg_D {h0 : List Int} {u : Nat} (W : Wsm us w) (hu : u ≤ us.length) (hl : h0.length = w.n) (h5 : x5 = .s (li (Mt.iter (Mt.es us w.st u) w.n h0)) ∨ x5 = .o (li (Mt.iter (Mt.es us w.st u) w.n h0)))
    (h : K.nx ⟨[.s (ti us), .s (eW w), x2, x3, .s (.int (u : Nat)), .s (li (Mt.iter (Mt.es us w.st u) w.n h0)), x6, .s (li (Mt.iter (Mt.es us w.st u) (w.n + 1) h0)), x8, x9, x10, x11], 0⟩) :
    dSet 7 (dCall sp__law_further (dCons (dVar 0) (dCons (dVar 1) (dCons (dVar 4) (dCons (dVar 5) dNil))))) K ⟨[.s (ti us), .s (eW w), x2, x3, .s (.int (u : Nat)), x5, x6, x7, x8, x9, x10, x11], 0⟩ := by
  have hlen : (Mt.iter (Mt.es us w.st u) w.n h0).length = w.n := by rw [Mt.iter_len]; exact hl
  rcases h5 with rfl | rfl
  · simp
    refine q_further W hu hlen ?_
    exact h
  · simp
    refine q_further W hu hlen ?_
    exact h
theorem sg_E {h0 : List Int} {u : Nat} {lost : List Nat} (W : Wsm us w) (hu : u ≤ us.length) (hl : h0.length = w.n) (N0 : Nd us w u lost)
    (h : ∀ (lost2 : List Nat) (y8 : Sl), Nd us w (u + 1) lost2 → K.nx ⟨[.s (ti us), .s (eW w), x2, .o (.list (kI' lost2)), .s (.int (u : Nat)), .s (li (Mt.iter (Mt.es us w.st u) w.n h0)), x6, .s (li (Mt.iter (Mt.es us w.st u) (w.n + 1) h0)), y8, x9, x10, x11], 0⟩) :
    dFor (diRange (dIxN 1 (dC (.int 0)))) (dgName 8) (dIfS (dTest (dOp (kEqS true) (dIxN 7 (dVar 8)) (dIxN 5 (dVar 8)))) (dAppend 3 (dVar 8)) dNext) K
      ⟨[.s (ti us), .s (eW w), x2, .o (.list (kI' lost)), .s (.int (u : Nat)), .s (li (Mt.iter (Mt.es us w.st u) w.n h0)), x6, .s (li (Mt.iter (Mt.es us w.st u) (w.n + 1) h0)), x8, x9, x10, x11], 0⟩ := by
  have hn := W.n
  have hu3 := W.un.1
  have l1 : (Mt.iter (Mt.es us w.st u) w.n h0).length = w.n := by rw [Mt.iter_len]; exact hl
  have l2 : (Mt.iter (Mt.es us w.st u) (w.n + 1) h0).length = w.n := by rw [Mt.iter_len]; exact hl
  have hlen0 := N0.len
  have hum : u * w.n ≤ 3 * 50 := Nat.mul_le_mul (by omega) hn
  simp [eW]
  refine ⟨by omega, ?_⟩
  refine for_ind (fun rest ρ => ∃ (i : Nat) (nw : List Nat) (y8 : Sl), rest = (rangeD w.n).drop i ∧ nw.length ≤ i ∧ i ≤ w.n ∧ (∀ y ∈ nw, Mt.Lost (Mt.es us w.st u) w.n h0 y) ∧ (∀ y < i, Mt.Lost (Mt.es us w.st u) w.n h0 y → y ∈ nw) ∧
    ρ = ⟨[.s (ti us), .s (eW w), x2, .o (.list (kI' (lost ++ nw))), .s (.int (u : Nat)), .s (li (Mt.iter (Mt.es us w.st u) w.n h0)), x6, .s (li (Mt.iter (Mt.es us w.st u) (w.n + 1) h0)), y8, x9, x10, x11], 0⟩)
    ⟨0, [], x8, rfl, Nat.le_refl _, Nat.zero_le _, by simp, fun y hy => by omega, by rw [List.append_nil]; rfl⟩ ?_ ?_
  · rintro ρ ⟨i, nw, y8, e, hnl, hiw, ho, ha, rfl⟩
    have hi := range_end e
    refine h (lost ++ nw) y8 ⟨fun y hy => ?_, ?_, fun y hy => ?_, fun k hk => ?_⟩
    · rcases List.mem_append.mp hy with hy | hy
      · exact N0.low y hy
      · exact (ho y hy).1
    · rw [List.length_append, Nat.add_mul]; omega
    · rcases List.mem_append.mp hy with hy | hy
      · exact N0.out y hy
      · exact ⟨u, h0, hu, hl, ho y hy⟩
    · by_cases hku : k = u
      · subst hku
        exact ⟨h0, hl, fun y hy => List.mem_append_right _ (ha y (by have := hy.1; omega) hy)⟩
      · obtain ⟨h', hl', hall⟩ := N0.all k (by omega)
        exact ⟨h', hl', fun y hy => List.mem_append_left _ (hall y hy)⟩
  · rintro d rest ρ ⟨i, nw, y8, e, hnl, hiw, ho, ha, rfl⟩ N hN
    obtain ⟨hlt, rfl, e2⟩ := range_at e
    obtain ⟨p, hp⟩ : ∃ x, (Mt.iter (Mt.es us w.st u) w.n h0)[i]? = some x := ⟨_, List.getElem?_eq_getElem (by omega)⟩
    obtain ⟨q, hq⟩ : ∃ x, (Mt.iter (Mt.es us w.st u) (w.n + 1) h0)[i]? = some x := ⟨_, List.getElem?_eq_getElem (by omega)⟩
    have ep : (Mt.iter (Mt.es us w.st u) w.n h0).getD i 0 = p := by rw [List.getD_eq_getElem?_getD, hp]; rfl
    have eq : (Mt.iter (Mt.es us w.st u) (w.n + 1) h0).getD i 0 = q := by rw [List.getD_eq_getElem?_getD, hq]; rfl
    simp [hp, hq]
    by_cases hpq : q = p
    · rw [if_pos hpq]
      refine hN _ ⟨i + 1, nw, _, e2, by omega, by omega, ho, fun y hy hly => ?_, rfl⟩
      by_cases hyi : y = i
      · subst hyi
        exact absurd (by rw [ep, eq]; exact hpq) hly.2
      · exact ha y (by omega) hly
    · rw [if_neg hpq]
      have hli : Mt.Lost (Mt.es us w.st u) w.n h0 i := ⟨hlt, by rw [ep, eq]; exact hpq⟩
      refine ⟨by simp [kI']; omega, ?_⟩
      have z := hN ⟨[.s (ti us), .s (eW w), x2, .o (.list (kI' (lost ++ (nw ++ [i])))), .s (.int (u : Nat)), .s (li (Mt.iter (Mt.es us w.st u) w.n h0)), x6, .s (li (Mt.iter (Mt.es us w.st u) (w.n + 1) h0)), .s (.int (i : Nat)), x9, x10, x11], 0⟩
        ⟨i + 1, nw ++ [i], .s (.int (i : Nat)), e2, by simp; omega, by omega, fun y hy => ?_, fun y hy hly => ?_, rfl⟩
      · simpa [kI'] using z
      · rcases List.mem_append.mp hy with hy | hy
        · exact ho y hy
        · have : y = i := by simpa using hy
          rw [this]; exact hli
      · by_cases hyi : y = i
        · rw [hyi]; simp
        · exact List.mem_append_left _ (ha y (by omega) hly)
theorem sg_F {rows : List (List Int)} {here : List Int} {u : Nat} (W : Wsm us w) (hu : u ≤ us.length) (hr : ∀ r ∈ rows, r.length = u) (hrl : rows.length = w.n) (hhl : here.length = w.n) (h2 : x2 = .s (lls rows) ∨ x2 = .o (lls rows))
    (h : ∀ (rows2 : List (List Int)), rows2.length = w.n → (∀ r ∈ rows2, r.length = u + 1) → K.nx ⟨[.s (ti us), .s (eW w), .o (lls rows2), x3, x4, .s (li here), x6, x7, x8, x9, .u, .u], 0⟩) :
    dSetO 2 (dLc (diZip false false (dVar 2) (dVar 5)) (dgTup 2 (dgCons (dgName 10) (dgCons (dgName 11) dgNil))) dYes (dOp kCatL (dVar 10) (dLst (dCons (dVar 11) dNil))) [10, 11]) K
      ⟨[.s (ti us), .s (eW w), x2, x3, x4, .s (li here), x6, x7, x8, x9, x10, x11], 0⟩ := by
  have hn := W.n
  have hu3 := W.un.1
  have hz : zipD (rows.map li) (here.map PyData.int) = (List.zip rows here).map fun p => .tuple [li p.1, .int p.2] := by
    unfold zipD
    rw [List.zipWith_map, List.zip, List.map_zipWith]
  have go : lcW (dgTup 2 (dgCons (dgName 10) (dgCons (dgName 11) dgNil))) dYes (dOp kCatL (dVar 10) (dLst (dCons (dVar 11) dNil))) [10, 11] (fun d ρ' => K.nx (ρ'.put 2 (.o d))) ((List.zip rows here).map fun p => .tuple [li p.1, .int p.2]) []
      ⟨[.s (ti us), .s (eW w), .s (lls rows), x3, x4, .s (li here), x6, x7, x8, x9, .u, .u], 0⟩ := by
    refine lc_map (fun p : List Int × Int => PyData.tuple [li p.1, .int p.2]) (fun p => li (p.1 ++ [p.2])) (fun p => p.1.length = u) (fun ρ => ρ = ⟨[.s (ti us), .s (eW w), .s (lls rows), x3, x4, .s (li here), x6, x7, x8, x9, .u, .u], 0⟩) ?_ _ _ _ (fun p hp => hr p.1 (List.of_mem_zip hp).1) rfl ?_
    · rintro ⟨r, x⟩ ρ hrl2 rfl N hN
      have hrl2 : r.length = u := hrl2
      simp
      exact ⟨by omega, by simpa using hN _ rfl⟩
    · rintro ρ rfl
      have z := h ((List.zip rows here).map fun p => p.1 ++ [p.2]) (by rw [List.length_map, List.length_zip]; omega) (fun r hrm => by
        obtain ⟨p, hp, rfl⟩ := List.mem_map.mp hrm
        have := hr p.1 (List.of_mem_zip hp).1
        simp; omega)
      simpa [lls, Function.comp_def] using z
  have hzl : (zipD (rows.map li) (here.map PyData.int)).length ≤ 1000 := by
    rw [zipD_length, List.length_map, List.length_map]; omega
  rcases h2 with rfl | rfl
  · simp [lls]
    refine ⟨by simpa using hzl, ?_⟩
    have hz2 : zipD (rows.map fun xs => .list (xs.map PyData.int)) (here.map PyData.int) = (List.zip rows here).map fun p => .tuple [li p.1, .int p.2] := hz
    first
      | (rw [hz2]; exact go)
      | (have go' := go; rw [← hz] at go'; exact go')
  · simp [lls]
    refine ⟨by simpa using hzl, ?_⟩
    have hz2 : zipD (rows.map fun xs => .list (xs.map PyData.int)) (here.map PyData.int) = (List.zip rows here).map fun p => .tuple [li p.1, .int p.2] := hz
    first
      | (rw [hz2]; exact go)
      | (have go' := go; rw [← hz] at go'; exact go')
end
theorem q_leading {w : Wd} {f : List Nat} {Q : PyData → Prop} {R : Ex → Prop} (h1 : 0 < w.n ∧ w.n ≤ 50 ∧ w.st.length ≤ 100 ∧ ∀ s ∈ w.st, s.a < w.n ∧ s.b < w.n) (h2 : f.length ≤ 500) (h3 : ∀ x ∈ f, x < w.n) (q : Q (ln (Mt.lead (Mt.es [] w.st 0) w.n f))) : sp__law_leading [eW w, .list (kI' f)] Q R := ⟨w, f, rfl, h1, h2, h3, q⟩
theorem q_row_of {us st : List Int} {Q : PyData → Prop} {R : Ex → Prop} (h1 : us.length ≤ 3) (h2 : st.length = us.length + 1) (h3 : Sm us) (q : Q (ti (Mt.rowOf us st))) : sp__law_row_of [ti us, li st] Q R := ⟨us, st, rfl, h1, h2, h3, q⟩
def ndI (us : List Int) (L : List Nat) (i : Nat) (r : List Int) : PyData := if i ∈ L then .none else ti (Mt.rowOf us r)
def ndL (us : List Int) (L : List Nat) (i : Nat) : List (List Int) → List PyData
  | [] => []
  | r :: rs => ndI us L i r :: ndL us L (i + 1) rs
theorem ndL_add (us : List Int) (L : List Nat) (r : List Int) : ∀ (rs : List (List Int)) (i : Nat), ndL us L i (rs ++ [r]) = ndL us L i rs ++ [ndI us L (i + rs.length) r]
  | [], i => rfl
  | _ :: rs, i => by
    have ih := ndL_add us L r rs (i + 1)
    show _ :: ndL us L (i + 1) (rs ++ [r]) = _ :: _
    rw [ih]
    have e : i + 1 + rs.length = i + (rs.length + 1) := by omega
    simp [ndL, e]
theorem ndL_len (us : List Int) (L : List Nat) : ∀ (rs : List (List Int)) (i : Nat), (ndL us L i rs).length = rs.length
  | [], i => rfl
  | _ :: rs, i => by simp [ndL, ndL_len us L rs (i + 1)]
theorem sg_G {us : List Int} {w : Wd} {K : Ends2} {rows : List (List Int)} {L : List Nat} {a b c d e g h : Sl} (W : Wsm us w) (hrl : rows.length = w.n) (hr : ∀ r ∈ rows, r.length = us.length + 1)
    (hK : ∀ (a b c d e g h : Sl), K.nx ⟨[.s (ti us), .s (eW w), .s (lls rows), .s (ln L), a, b, c, d, e, .o (.list (ndL us L 0 rows)), g, h], 0⟩) :
    forW (dgTup 2 (dgCons (dgName 8) (dgCons (dgName 10) dgNil))) (dAppend 9 (dIf (dTest (dInN false 3 (dVar 8))) (dC .none) (dCall sp__law_row_of (dCons (dVar 0) (dCons (dVar 10) dNil))))) K (enumD (rows.map li))
      ⟨[.s (ti us), .s (eW w), .s (lls rows), .s (ln L), a, b, c, d, e, .o (.list []), g, h], 0⟩ := by
  have hn := W.n
  rw [enumD_eq]
  refine for_ind (fun rest ρ => ∃ (i : Nat) (dn vs : List (List Int)) (a b c d e g h : Sl), rest = enF i (vs.map li) ∧ rows = dn ++ vs ∧ dn.length = i ∧ ρ = ⟨[.s (ti us), .s (eW w), .s (lls rows), .s (ln L), a, b, c, d, e, .o (.list (ndL us L 0 dn)), g, h], 0⟩)
    ⟨0, [], rows, a, b, c, d, e, g, h, rfl, rfl, rfl, rfl⟩ ?_ ?_
  · rintro ρ ⟨i, dn, vs, a, b, c, d, e, g, h, e1, e2, e3, rfl⟩
    cases vs with
    | cons s vs => simp at e1
    | nil =>
      rw [List.append_nil] at e2
      subst e2
      exact hK _ _ _ _ _ _ _
  · rintro dd rest ρ ⟨i, dn, vs, a, b, c, d, e, g, h, e1, e2, e3, rfl⟩ N hN
    cases vs with
    | nil => simp at e1
    | cons r vs =>
      simp at e1
      obtain ⟨rfl, rfl⟩ := e1
      have hrr : r.length = us.length + 1 := hr r (by rw [e2]; simp)
      have hlen : rows.length = dn.length + (vs.length + 1) := by rw [e2]; simp
      have hnd := ndL_len us L dn 0
      have nxt : ∀ (a b c d e g h : Sl), N ⟨[.s (ti us), .s (eW w), .s (lls rows), .s (ln L), a, b, c, d, e, .o (.list (ndL us L 0 dn ++ [ndI us L i r])), g, h], 0⟩ := fun a b c d e g h => by
        refine hN _ ⟨i + 1, dn ++ [r], vs, a, b, c, d, e, g, h, rfl, by rw [e2]; simp, by simp; omega, ?_⟩
        rw [ndL_add, Nat.zero_add, e3]
      have e0 : ln L = .list (kI' L) := rfl
      rw [e0] at nxt ⊢
      simp [flat_kI, flatD, inD_kI]
      by_cases hm : i ∈ L
      · simp [hm]
        refine ⟨by omega, ?_⟩
        have z := nxt a b c d (.s (.int (i : Nat))) (.s (li r)) h
        rw [ndI, if_pos hm] at z
        exact z
      · simp [hm]
        refine q_row_of W.un.1 hrr (usm_sm W.un) ?_
        refine ⟨by omega, ?_⟩
        have z := nxt a b c d (.s (.int (i : Nat))) (.s (li r)) h
        rw [ndI, if_neg hm] at z
        exact z
theorem pu__law_needs_of (ds : List PyData) (Q : PyData → Prop) (R : Ex → Prop) (h : sp__law_needs_of ds Q R) : t__law_needs_of (defEnds Q fun _ => False) ⟨st0 ["_law_units_so", "_law_world_so", "_law_some", "_law_lost", "_law_unit", "_law_here", "_law_turn", "_law_more", "_law_place", "_law_found", "_law_items", "_law_number"] ds, 0⟩ := by
  obtain ⟨us, w, rfl, W, hq⟩ := h
  have hn := W.n
  have hpos := W.ok.1
  have hu := W.un.1
  simp [t__law_needs_of, eW]
  refine ⟨by omega, by rw [rangeD_length]; omega, ?_⟩
  rw [range_map]
  refine lc_map (fun (i : Nat) => PyData.int (i : Int)) (fun _ => li []) (fun _ => True) (fun ρ => ρ = ⟨[.s (ti us), .s (eW w), .u, .u, .u, .u, .u, .u, .u, .u, .u, .u], 0⟩) ?_ _ _ _ (fun _ _ => trivial) rfl ?_
  · rintro i ρ _ rfl N hN
    simp
    exact hN _ rfl
  · rintro ρ rfl
    simp
    refine ⟨by omega, by omega, ?_⟩
    refine for_ind (fun rest ρ => ∃ (u : Nat) (rows : List (List Int)) (lost : List Nat) (s2 : Sl) (a b c d e f g h : Sl), rest = (rangeD (us.length + 1)).drop u ∧ u ≤ us.length + 1 ∧ rows.length = w.n ∧ (∀ r ∈ rows, r.length = u) ∧ Nd us w u lost ∧ (s2 = .s (lls rows) ∨ s2 = .o (lls rows)) ∧
      ρ = ⟨[.s (ti us), .s (eW w), s2, .o (.list (kI' lost)), a, b, c, d, e, f, g, h], 0⟩)
      ⟨0, (List.range w.n).map fun _ => [], [], .s (lls ((List.range w.n).map fun _ => [])), .u, .u, .u, .u, .u, .u, .u, .u, rfl, by omega, by simp, fun r hr => by simp at hr; rw [hr.2]; rfl, ⟨by simp, by simp, by simp, fun k hk => by omega⟩, .inl rfl, by simp [lls, kI', Function.comp_def]⟩ ?_ ?_
    · rintro ρ ⟨u, rows, lost, s2, a, b, c, d, e, f, g, h, er, hul, hrl, hr, N0, hs2, rfl⟩
      have eu := range_end er
      have : u = us.length + 1 := by omega
      subst this
      have hlead := N0.lives W
      have hll := N0.len
      have hum : (us.length + 1) * w.n ≤ 4 * 50 := Nat.mul_le_mul (by omega) hn
      have wk : 0 < w.n ∧ w.n ≤ 50 ∧ w.st.length ≤ 100 ∧ ∀ s ∈ w.st, s.a < w.n ∧ s.b < w.n := ⟨hpos, hn, W.st, fun s hs => ⟨(W.ok.2 s hs).1, (W.ok.2 s hs).2.1⟩⟩
      have fin : ∀ (a b c d e g h : Sl), dRet (dCallB kTupleOf (dCons (dVar 9) dNil)) (defEnds Q fun x => False) ⟨[.s (ti us), .s (eW w), .s (lls rows), .s (ln (Mt.lead (Mt.es [] w.st 0) w.n lost)), a, b, c, d, e, .o (.list (ndL us (Mt.lead (Mt.es [] w.st 0) w.n lost) 0 rows)), g, h], 0⟩ := fun a b c d e g h => by
        simp
        cases rows with
        | nil => exact absurd hrl (by rw [List.length_nil]; omega)
        | cons r rs =>
          refine hq _ _ ?_
          rw [← hlead]
          unfold ndI
          by_cases z : 0 ∈ Mt.lead (Mt.es [] w.st 0) w.n lost
          · rw [if_pos z]; simp [z, isNoneD]
          · rw [if_neg z]; simp [z, isNoneD]
      refine seq_i ?_
      rcases hs2 with rfl | rfl
      · simp [ln]
        refine q_leading wk (by omega) N0.low ?_
        simp [lls]
        exact sg_G W hrl hr fin
      · simp [ln]
        refine q_leading wk (by omega) N0.low ?_
        simp [lls]
        exact sg_G W hrl hr fin
    · rintro d0 rest ρ ⟨u, rows, lost, s2, a, b, c, d, e, f, g, h, er, hul, hrl, hr, N0, hs2, rfl⟩ N hN
      obtain ⟨hlt, rfl, er2⟩ := range_at er
      have hui : u ≤ us.length := by omega
      refine seq_i (sg_A W ?_)
      refine seq_i (sg_B W hui hr hrl hs2 fun h0 y2 y10 hl0 hy2 => ?_)
      refine seq_i (sg_C W hui hl0 fun y5 y6 hy5 => ?_)
      refine seq_i (sg_D W hui hl0 hy5 ?_)
      refine seq_i (sg_E W hui hl0 N0 fun lost2 y8 N2 => ?_)
      refine sg_F W hui hr hrl (by rw [Mt.iter_len]; exact hl0) hy2 fun rows2 hrl2 hr2 => ?_
      exact hN _ ⟨u + 1, rows2, lost2, _, _, _, _, _, _, _, _, _, er2, by omega, hrl2, hr2, N2, .inr rfl, rfl⟩
end Yd
set_option Elab.async false
set_option linter.all false
set_option maxRecDepth 100000
set_option maxHeartbeats 2000000
/-! # Readings: the law's draws -/
namespace Yd
open PySem PySem.Spec PyProof.Rows L2 LamX
open Mt (Stp Wd Deed)
theorem pu__law_sizes (ds : List PyData) (Q : PyData → Prop) (R : Ex → Prop) (h : sp__law_sizes ds Q R) : t__law_sizes (defEnds Q fun _ => False) ⟨st0 ["_law_units_so", "_law_found", "_law_ratio"] ds, 0⟩ := by
  obtain ⟨us, rfl, hl, hu, hq⟩ := h
  simp [t__law_sizes]
  refine for_ind (fun rest ρ => ∃ (vs ss : List Int) (y : Sl), rest = vs.map PyData.int ∧ (∀ u ∈ vs, 2 ≤ u ∧ u ≤ 10) ∧ ss ≠ [] ∧ vs.length + ss.length = us.length + 1 ∧ (∀ s ∈ ss, 1 ≤ s ∧ s ≤ 10 ^ (ss.length - 1)) ∧ ρ = ⟨[.s (ti us), .s (ti ss), y], 0⟩)
    ⟨us.reverse, [1], .u, by simp, fun u hm => hu u (by simpa using hm), by simp, by simp, by simp, rfl⟩ ?_ ?_
  · rintro ρ ⟨vs, ss, y, e, hv, h0, hlen, hs, rfl⟩
    have : vs = [] := by simpa using e.symm
    subst this
    rw [List.length_nil, Nat.zero_add] at hlen
    simp
    refine hq ss hlen fun s hm => ⟨(hs s hm).1, ?_⟩
    have h1 := (hs s hm).2
    have h2 : (10 : Int) ^ (ss.length - 1) ≤ 10 ^ 3 := by
      have : (10 : Nat) ^ (ss.length - 1) ≤ 10 ^ 3 := Nat.pow_le_pow_right (by omega) (by omega)
      have := Int.ofNat_le.mpr this
      simpa using this
    omega
  · rintro d rest ρ ⟨vs, ss, y, e, hv, h0, hlen, hs, rfl⟩ N hN
    cases vs with
    | nil => simp at e
    | cons u vs =>
      cases ss with
      | nil => exact absurd rfl h0
      | cons s ss =>
        simp at e
        obtain ⟨rfl, rfl⟩ := e
        have hu1 := hv u (by simp)
        have hs1 := hs s (by simp)
        have hle : (10 : Int) ^ ss.length ≤ 10 ^ 3 := by
          have : (10 : Nat) ^ ss.length ≤ 10 ^ 3 := Nat.pow_le_pow_right (by omega) (by rw [List.length_cons, List.length_cons] at hlen; omega)
          have := Int.ofNat_le.mpr this
          simpa using this
        have e1 : (s :: ss).length - 1 = ss.length := by simp
        rw [e1] at hs1 hs
        simp
        refine ⟨.inl ⟨by omega, by omega⟩, by rw [List.length_cons, List.length_cons] at hlen; omega, hN _ ⟨vs, s * u :: s :: ss, _, rfl, fun x hx => hv x (List.mem_cons_of_mem _ hx), by simp, by rw [List.length_cons, List.length_cons] at hlen ⊢; omega, fun x hx => ?_, rfl⟩⟩
        have e2 : (s * u :: s :: ss).length - 1 = ss.length + 1 := by simp
        rw [e2]
        have hp : (10 : Int) ^ (ss.length + 1) = 10 ^ ss.length * 10 := Int.pow_succ 10 ss.length
        have hp0 : (1 : Int) ≤ 10 ^ ss.length := by omega
        rcases List.mem_cons.mp hx with rfl | hx
        · have a1 : 1 * 1 ≤ s * u := Int.mul_le_mul hs1.1 (by omega) (by omega) (by omega)
          have a2 : s * u ≤ 10 ^ ss.length * 10 := Int.mul_le_mul hs1.2 hu1.2 (by omega) (by omega)
          exact ⟨by omega, by omega⟩
        · have := hs x hx
          exact ⟨this.1, by omega⟩
theorem q_draw {l : Int} {g : Nat} {Q : PyData → Nat → Prop} (h1 : 0 < l) (h2 : l < 2 ^ 29) (h3 : g + 1 ≤ lim) (q : ∀ r : Int, 0 ≤ r → r < l → Q (.int r) (g + 1)) : sp__law_draw [.int l] g Q := ⟨l, rfl, h1, h2, h3, q⟩
theorem q_sizes {us : List Int} {Q : PyData → Prop} {R : Ex → Prop} (h1 : us.length ≤ 3) (h2 : ∀ u ∈ us, 2 ≤ u ∧ u ≤ 10) (q : ∀ ss : List Int, ss.length = us.length + 1 → (∀ s ∈ ss, 1 ≤ s ∧ s ≤ 1000) → Q (ti ss)) : sp__law_sizes [ti us] Q R := ⟨us, rfl, h1, h2, q⟩
theorem pu__law_row (ds : List PyData) (g : Nat) (Q : PyData → Nat → Prop) (h : sp__law_row ds g Q) : t__law_row (defEndsS Q) ⟨st0S ["_law_state", "_law_units_so", "_law_most", "_law_found", "_law_left", "_law_size", "_law_number"] ds, g⟩ := by
  obtain ⟨us, m, rfl, hl, hu, hm0, hm1, hg, hq⟩ := h
  simp [t__law_row]
  refine q_draw (by omega) (by omega) (by omega) fun r hr0 hr1 => ?_
  refine q_sizes hl hu fun ss hsl hss => ?_
  simp
  refine for_ind (fun rest ρ => ∃ (vs rs : List Int) (left : Int) (a b : Sl), rest = vs.map PyData.int ∧ (∀ s ∈ vs, 1 ≤ s ∧ s ≤ 1000) ∧ rs.length + vs.length = us.length + 1 ∧ 0 ≤ left ∧ left ≤ 1000 ∧ (∀ x ∈ rs, 0 ≤ x ∧ x ≤ 1000) ∧
    ρ = ⟨[.st, .s (ti us), .s (.int m), .s (ti rs), .s (.int left), a, b], g + 1 + rs.length⟩)
    ⟨ss, [], r, .u, .u, rfl, hss, by simpa using hsl, hr0, by omega, by simp, rfl⟩ ?_ ?_
  · rintro ρ ⟨vs, rs, left, a, b, e, hv, hlen, hl0, hl1, hrs, rfl⟩
    have : vs = [] := by simpa using e.symm
    subst this
    rw [List.length_nil, Nat.add_zero] at hlen
    simp
    exact hq rs _ hlen hrs (by omega)
  · rintro d rest ρ ⟨vs, rs, left, a, b, e, hv, hlen, hl0, hl1, hrs, rfl⟩ N hN
    cases vs with
    | nil => simp at e
    | cons s vs =>
      simp at e
      obtain ⟨rfl, rfl⟩ := e
      have hs := hv s (by simp)
      rw [List.length_cons] at hlen
      simp
      have q0 : 0 ≤ left / s := Int.ediv_nonneg hl0 (by omega)
      have q1 : left / s ≤ left := by
        have := Int.ediv_le_self s hl0
        exact this
      have q2 : left / s * s ≤ left := Int.ediv_mul_le left (by omega)
      refine ⟨⟨by omega, by omega⟩, q_draw (by omega) (by omega) (by omega) fun x hx0 hx1 => ?_⟩
      have a1 : 0 ≤ x * s := Int.mul_nonneg hx0 (by omega)
      have a2 : x * s ≤ left / s * s := Int.mul_le_mul_of_nonneg_right (by omega) (by omega)
      refine ⟨by omega, ?_⟩
      simp
      refine ⟨.inl ⟨by omega, by omega⟩, ?_⟩
      have z := hN ⟨[.st, .s (ti us), .s (.int m), .s (ti (rs ++ [x])), .s (.int (left - x * s)), .s (.int s), .s (.int x)], g + 1 + (rs.length + 1)⟩ ⟨vs, rs ++ [x], left - x * s, _, _, rfl, fun y hy => hv y (List.mem_cons_of_mem _ hy), by rw [List.length_append, List.length_singleton]; omega, by omega, by omega, fun y hy => by
        rcases List.mem_append.mp hy with hy | hy
        · exact hrs y hy
        · have : y = x := by simpa using hy
          omega, by rw [List.length_append, List.length_singleton]⟩
      simpa [Nat.add_assoc] using z
theorem pu__law_units (ds : List PyData) (g : Nat) (Q : PyData → Nat → Prop) (h : sp__law_units ds g Q) : t__law_units (defEndsS Q) ⟨st0S ["_law_state", "_law_step"] ds, g⟩ := by
  obtain ⟨rfl, hg, hq⟩ := h
  simp [t__law_units]
  refine q_draw (by omega) (by omega) (by omega) fun r hr0 hr1 => ?_
  simp
  refine ⟨by omega, by omega, by rw [rangeD_length]; omega, ?_⟩
  refine lc_ind (fun rest acc ρ => ∃ (us : List Int), us.length + rest.length = r.toNat ∧ (∀ u ∈ us, 2 ≤ u ∧ u ≤ 4) ∧ acc = us.map PyData.int ∧ ρ = ⟨[.st, .u], g + 1 + us.length⟩) ⟨[], by rw [rangeD_length]; simp, by simp, rfl, rfl⟩ ?_ ?_
  · rintro acc ρ ⟨us, hl, hu, rfl, rfl⟩
    rw [List.length_nil] at hl
    simp
    exact hq us _ (by omega) hu (by omega)
  · rintro d rest acc ρ ⟨us, hl, hu, rfl, rfl⟩ N hN
    rw [List.length_cons] at hl
    simp
    refine q_draw (by omega) (by omega) (by omega) fun x hx0 hx1 => ?_
    simp
    have z := hN ((us ++ [2 + x]).map PyData.int) ⟨[.st, .u], g + 1 + (us.length + 1)⟩ ⟨us ++ [2 + x], by rw [List.length_append, List.length_singleton]; omega, fun y hy => by
        rcases List.mem_append.mp hy with hy | hy
        · exact hu y hy
        · have : y = 2 + x := by simpa using hy
          omega, rfl, by rw [List.length_append, List.length_singleton]⟩
    simpa [Nat.add_assoc] using z
theorem q_stair {us row : List Int} {Q : PyData → Prop} {R : Ex → Prop} (h1 : us.length ≤ 3) (h2 : row.length = us.length + 1) (h3 : Sm us) (q : Q (ti (Mt.stair us row))) : sp__law_stair [ti us, ti row] Q R := ⟨us, row, rfl, h1, h2, h3, q⟩
theorem pu__law_inside (ds : List PyData) (Q : PyData → Prop) (R : Ex → Prop) (h : sp__law_inside ds Q R) : t__law_inside (defEnds Q fun _ => False) ⟨st0 ["_law_units_so", "_law_near", "_law_far", "_law_pairs_so", "_law_left", "_law_right"] ds, 0⟩ := by
  obtain ⟨us, a, b, rfl, hl, ha, hb, hs, hq⟩ := h
  simp [t__law_inside]
  refine q_stair hl ha hs ?_
  refine q_stair hl hb hs ?_
  generalize hA : Mt.stair us a = A at hq ⊢
  generalize hB : Mt.stair us b = B at hq ⊢
  have lA : A.length = us.length + 1 := by rw [← hA]; exact Mt.stair_len ha
  have lB : B.length = us.length + 1 := by rw [← hB]; exact Mt.stair_len hb
  have hz : zipD (A.map PyData.int) (B.map PyData.int) = (List.zip A B).map fun p => .tuple [.int p.1, .int p.2] := by
    unfold zipD
    rw [List.zipWith_map, List.zip, List.map_zipWith]
  refine ⟨by simp; omega, by simp; omega, by simp; omega, ?_⟩
  rw [hz]
  simp
  refine ⟨by omega, ?_⟩
  refine lc_ind (fun rest acc ρ => ∃ (A' B' : List Int) (m : Nat), rest = (List.zip A' B').map (fun p => .tuple [.int p.1, .int p.2]) ∧ A'.length = B'.length ∧ acc = List.replicate m (.int 1) ∧ (Mt.Le A B ↔ m = 0 ∧ Mt.Le A' B') ∧
    ∃ s3, ρ = ⟨[.s (ti us), .s (ti a), .s (ti b), s3, .u, .u], 0⟩) ⟨A, B, 0, rfl, by omega, rfl, by simp, _, rfl⟩ ?_ ?_
  · rintro acc ρ ⟨A', B', m, e, hl2, rfl, hi, s3, rfl⟩
    have hA' : A' = [] := by
      cases A' with
      | nil => rfl
      | cons x xs =>
        cases B' with
        | nil => simp at hl2
        | cons y ys => simp at e
    subst hA'
    have hB' : B' = [] := by
      cases B' with
      | nil => rfl
      | cons y ys => simp at hl2
    subst hB'
    have hle : leB A B = PyData.eqv (.list (List.replicate m (.int 1))) (.list []) := by
      unfold leB
      cases m with
      | zero => simp [hi, Mt.Le]; rfl
      | succ m => simp [hi]; rfl
    rw [← hle]
    refine ⟨?_, by rfl, hq⟩
    simpa [kI'] using shaped_kI (List.replicate m 1)
  · rintro d rest acc ρ ⟨A', B', m, e, hl2, rfl, hi, s3, rfl⟩ N hN
    cases A' with
    | nil => simp at e
    | cons x xs =>
      cases B' with
      | nil => simp at hl2
      | cons y ys =>
        simp at e
        obtain ⟨rfl, rfl⟩ := e
        have hl3 : xs.length = ys.length := by simpa using hl2
        simp
        by_cases hxy : y < x
        · rw [if_pos hxy]
          have e2 : List.replicate m (PyData.int 1) ++ [.int 1] = List.replicate (m + 1) (.int 1) := List.replicate_succ'.symm
          rw [e2]
          refine hN _ _ ⟨xs, ys, m + 1, rfl, hl3, rfl, ?_, s3, rfl⟩
          rw [hi]
          have : ¬ x ≤ y := by omega
          simp [Mt.Le, this]
        · rw [if_neg hxy]
          refine hN _ _ ⟨xs, ys, m, rfl, hl3, rfl, ?_, s3, rfl⟩
          rw [hi]
          have : x ≤ y := by omega
          simp [Mt.Le, this]
theorem q_row {us : List Int} {m : Int} {g : Nat} {Q : PyData → Nat → Prop} (h1 : us.length ≤ 3) (h2 : ∀ u ∈ us, 2 ≤ u ∧ u ≤ 10) (h3 : 0 ≤ m ∧ m ≤ 1000) (h4 : g + 8 ≤ lim) (q : ∀ (r : List Int) (g' : Nat), r.length = us.length + 1 → (∀ x ∈ r, 0 ≤ x ∧ x ≤ 1000) → g' ≤ g + 8 → Q (ti r) g') : sp__law_row [ti us, .int m] g Q := ⟨us, m, rfl, h1, h2, h3.1, h3.2, h4, q⟩
theorem sw_p1 {K : Ends2} {x0 x1 x2 x3 x4 x6 x7 x8 x9 x10 x11 x12 x13 : Sl} {n : Int} {g : Nat} (h0 : x0 = .st) (h1 : 0 < n) (h2 : n ≤ 100) (h3 : g + 2 ≤ lim) (h : ∀ x y : Int, 0 ≤ x → x < n → 0 ≤ y → y < n → K.nx ⟨[x0, x1, x2, x3, x4, .s (.int n), x6, x7, .s (.int x), .s (.int y), x10, x11, x12, x13], g + 2⟩) :
    (dPar 8 9 (dCallS 0 sp__law_draw (dCons (dVar 5) dNil)) (dCallS 0 sp__law_draw (dCons (dVar 5) dNil))) K ⟨[x0, x1, x2, x3, x4, .s (.int n), x6, x7, x8, x9, x10, x11, x12, x13], g⟩ := by
  subst h0
  simp
  refine q_draw (by omega) (by omega) (by omega) fun x hx0 hx1 => ?_
  refine q_draw (by omega) (by omega) (by omega) fun y hy0 hy1 => ?_
  exact h x y hx0 hx1 hy0 hy1
theorem sw_p2 {K : Ends2} {x0 x1 x2 x3 x4 x5 x6 x7 x8 x9 x10 x11 x12 x13 : Sl} {g : Nat} (h0 : x0 = .st) (h3 : g + 1 ≤ lim) (h : ∀ p : Int, K.nx ⟨[x0, x1, x2, x3, x4, x5, x6, x7, x8, x9, .s (.int p), .s (.str "ask"), x12, x13], g + 1⟩) :
    (dPar 10 11 (dCallS 0 sp__law_draw (dCons (dC (.int 6)) dNil)) (dC (.str "ask"))) K ⟨[x0, x1, x2, x3, x4, x5, x6, x7, x8, x9, x10, x11, x12, x13], g⟩ := by
  subst h0
  simp
  refine q_draw (by omega) (by omega) (by omega) fun x hx0 hx1 => ?_
  exact h x
theorem sw_word {K : Ends2} {x0 x1 x2 x3 x4 x5 x6 x7 x12 x13 : Sl} {a b p : Int} {g : Nat} (h : ∀ x : Str, (x = "ask" ∨ x = "pass" ∨ x = "bring") → K.nx ⟨[x0, x1, x2, x3, x4, x5, x6, x7, .s (.int a), .s (.int b), .s (.int p), .s (.str x), x12, x13], g⟩) :
    (dIfS (dTest (dOp kLeI (dVar 9) (dVar 8))) (dSet 11 (dIf (dTest (dOp (kEqS false) (dVar 10) (dC (.int 0)))) (dC (.str "ask")) (dIf (dTest (dOp (kEqS false) (dVar 10) (dC (.int 1)))) (dC (.str "pass")) (dC (.str "bring"))))) (dIfS (dTest (dOp kLtI (dVar 10) (dC (.int 3)))) (dSet 11 (dIf (dTest (dOp kLtI (dVar 10) (dC (.int 2)))) (dC (.str "bring")) (dC (.str "pass")))) dNext)) K
      ⟨[x0, x1, x2, x3, x4, x5, x6, x7, .s (.int a), .s (.int b), .s (.int p), .s (.str "ask"), x12, x13], g⟩ := by
  have h1 := h "ask" (.inl rfl)
  have h2 := h "pass" (.inr (.inl rfl))
  have h3 := h "bring" (.inr (.inr rfl))
  simp
  split
  · split
    · exact h1
    · split
      · exact h2
      · exact h3
  · split
    · split
      · exact h3
      · exact h2
    · exact h1
theorem sw_row {K : Ends2} {us : List Int} {x0 x2 x3 x5 x6 x7 x8 x9 x10 x12 x13 : Sl} {x : Str} {g : Nat} (h1 : us.length ≤ 3) (h2 : ∀ u ∈ us, 2 ≤ u ∧ u ≤ 10) (h4 : g + 8 ≤ lim) (h0 : x0 = .st) (h : ∀ (r : List Int) (g' : Nat), r.length = us.length + 1 → (∀ x ∈ r, 0 ≤ x ∧ x ≤ 1000) → g' ≤ g + 8 → K.nx ⟨[x0, .s (ti us), x2, x3, .s (.int 12), x5, x6, x7, x8, x9, x10, .s (.str x), .s (ti r), x13], g'⟩) :
    (dSet 12 (dCallS 0 sp__law_row (dCons (dVar 1) (dCons (dIf (dTest (dOp (kEqS false) (dVar 11) (dC (.str "ask")))) (dVar 4) (dOp kAddI (dVar 4) (dOp kDivI (dVar 4) (dC (.int 2))))) dNil)))) K ⟨[x0, .s (ti us), x2, x3, .s (.int 12), x5, x6, x7, x8, x9, x10, .s (.str x), x12, x13], g⟩ := by
  subst h0
  simp
  split
  · exact q_row h1 h2 (by omega) h4 h
  · exact ⟨⟨by omega, by omega⟩, q_row h1 h2 (by omega) h4 h⟩
theorem sw_deed {K : Ends2} {us r : List Int} {x0 x1 x2 x3 x4 x5 x6 x7 x8 x9 x10 x13 : Sl} {x : Str} {g : Nat} (hx : x = "ask" ∨ x = "pass" ∨ x = "bring") (hr : r.length = us.length + 1) (hr2 : ∀ x ∈ r, 0 ≤ x ∧ x ≤ 1000) (h : ∀ d : Deed, Mt.Dok us d → isDeed us.length (eD d) = true → K.nx ⟨[x0, x1, x2, x3, x4, x5, x6, x7, x8, x9, x10, .s (.str x), .s (ti r), .s (eD d)], g⟩) :
    (dSet 13 (dIf (dTest (dOp (kEqS false) (dVar 11) (dC (.str "pass")))) (dTup (dCons (dC (.str "pass")) dNil)) (dTup (dCons (dVar 11) (dCons (dVar 12) dNil))))) K ⟨[x0, x1, x2, x3, x4, x5, x6, x7, x8, x9, x10, .s (.str x), .s (ti r), x13], g⟩ := by
  have hrow : isRow us.length (ti r) = true := by
    have e : isRow us.length (ti r) = (decide ((r.map PyData.int).length = us.length + 1) && (r.map PyData.int).all fun d => isFrom d 0 (10 ^ 60)) := rfl
    rw [e]
    simp [hr, isFrom]
    intro y hy
    have := hr2 y hy
    omega
  have hp : Mt.Pos r := fun y hy => (hr2 y hy).1
  rcases hx with rfl | rfl | rfl
  · have z := h (.ask r) ⟨hr, hp⟩ (by
      show ((decide (("ask" : Str) = "ask") || decide (("ask" : Str) = "bring")) && isRow us.length (ti r)) = true
      simp [hrow])
    simp
    rw [if_neg (by decide)]
    exact z
  · have z := h .pass trivial (by rfl)
    simp
    exact z
  · have z := h (.bring r) ⟨hr, hp⟩ (by
      show ((decide (("bring" : Str) = "ask") || decide (("bring" : Str) = "bring")) && isRow us.length (ti r)) = true
      simp [hrow])
    simp
    rw [if_neg (by decide)]
    exact z
theorem pu__law_some_world (ds : List PyData) (g : Nat) (Q : PyData → Nat → Prop) (h : sp__law_some_world ds g Q) : t__law_some_world (defEndsS Q) ⟨st0S ["_law_state", "_law_units_so", "_law_places", "_law_many_so", "_law_most", "_law_places_so", "_law_steps_so", "_law_turn", "_law_start", "_law_goal", "_law_pick", "_law_word_here", "_law_row_here", "_law_deed_so"] ds, g⟩ := by
  obtain ⟨us, rfl, hl, hu, hg, hq⟩ := h
  simp [t__law_some_world]
  refine q_draw (by omega) (by omega) (by omega) fun n1 hn0 hn1 => ?_
  simp
  refine q_draw (by omega) (by omega) (by omega) fun m1 hm0 hm1 => ?_
  simp
  refine ⟨by omega, by omega, ?_⟩
  refine for_ind (fun rest ρ => ∃ (st : List Stp) (a b c d e f h : Sl) (g' : Nat), st.length + rest.length = (1 + m1).toNat ∧ (∀ s ∈ st, s.a < (1 + n1).toNat ∧ s.b < (1 + n1).toNat ∧ Mt.Dok us s.d ∧ isDeed us.length (eD s.d) = true) ∧ g' ≤ g + 2 + 11 * st.length ∧
    ρ = ⟨[.st, .s (ti us), .s (.int 4), .s (.int 7), .s (.int 12), .s (.int (1 + n1)), .s (.tuple (st.map eS)), a, b, c, d, e, f, h], g'⟩)
    ⟨[], .u, .u, .u, .u, .u, .u, .u, g + 1 + 1, by rw [rangeD_length]; simp, by simp, by simp, rfl⟩ ?_ ?_
  · rintro ρ ⟨st, a, b, c, d, e, f, h, g', hlen, hst, hg', rfl⟩
    rw [List.length_nil, Nat.add_zero] at hlen
    simp
    have z := hq ⟨(1 + n1).toNat, st⟩ g' ⟨by show 0 < (1 + n1).toNat; omega, fun s hs => ⟨(hst s hs).1, (hst s hs).2.1, (hst s hs).2.2.1⟩⟩ (by show (1 + n1).toNat ≤ 4; omega) (by show 0 < st.length; omega) (by show st.length ≤ 7; omega) (fun s hs => (hst s hs).2.2.2) (by omega)
    have e1 : (((1 + n1).toNat : Nat) : Int) = 1 + n1 := by omega
    unfold eW at z
    rw [e1] at z
    exact z
  · rintro d0 rest ρ ⟨st, a, b, c, d, e, f, h, g', hlen, hst, hg', rfl⟩ N hN
    rw [List.length_cons] at hlen
    simp only [r_gName, r_put, List.set_cons_succ, List.set_cons_zero]
    refine seq_i (sw_p1 rfl (by omega) (by omega) (by omega) fun x y hx0 hx1 hy0 hy1 => ?_)
    refine seq_i (sw_p2 rfl (by omega) fun p => ?_)
    refine seq_i (sw_word fun wd hwd => ?_)
    refine seq_i (sw_row (by omega) (fun u hm => ⟨(hu u hm).1, by have := (hu u hm).2; omega⟩) (by omega) rfl fun r g2 hr1 hr2 hg2 => ?_)
    refine seq_i (sw_deed hwd hr1 hr2 fun dd hd1 hd2 => ?_)
    simp
    refine ⟨by omega, ?_⟩
    have z := hN ⟨[.st, .s (ti us), .s (.int 4), .s (.int 7), .s (.int 12), .s (.int (1 + n1)), .s (.tuple ((st ++ [(⟨x.toNat, dd, y.toNat⟩ : Stp)]).map eS)), .s d0, .s (.int x), .s (.int y), .s (.int p), .s (.str wd), .s (ti r), .s (eD dd)], g2⟩
      ⟨st ++ [(⟨x.toNat, dd, y.toNat⟩ : Stp)], _, _, _, _, _, _, _, g2, by rw [List.length_append, List.length_singleton]; omega, fun q hq => by
        rcases List.mem_append.mp hq with hq | hq
        · exact hst q hq
        · have : q = (⟨x.toNat, dd, y.toNat⟩ : Stp) := by simpa using hq
          subst this
          exact ⟨by show x.toNat < _; omega, by show y.toNat < _; omega, hd1, hd2⟩, by rw [List.length_append, List.length_singleton]; omega, rfl⟩
    have e1 : ((x.toNat : Nat) : Int) = x := by omega
    have e2 : ((y.toNat : Nat) : Int) = y := by omega
    rw [List.map_append] at z
    simp only [List.map_cons, List.map_nil, eS, e1, e2] at z
    exact z
end Yd
set_option Elab.async false
set_option linter.all false
set_option maxRecDepth 100000
set_option maxHeartbeats 2000000
/-! # Readings: rows near a row -/
namespace Yd
open PySem PySem.Spec PyProof.Rows L2 LamX
open Mt (Stp Wd Deed)
theorem q_beside {a b : List Int} {Q : PyData → Prop} {R : Ex → Prop} (h1 : a.length = b.length) (h2 : a.length ≤ 100) (q : Q (ti (List.zipWith (· + ·) a b))) : sp__law_beside [ti a, ti b] Q R := ⟨a, b, rfl, h1, h2, q⟩
theorem pu__law_rows_near (ds : List PyData) (g : Nat) (Q : PyData → Nat → Prop) (h : sp__law_rows_near ds g Q) : t__law_rows_near (defEndsS Q) ⟨st0S ["_law_state", "_law_units_so", "_law_row_here", "_law_found", "_law_turn", "_law_spot", "_law_near"] ds, g⟩ := by
  obtain ⟨us, ro, rfl, hl, hu, hr, hg, hq⟩ := h
  cases ro with
  | none =>
    simp [t__law_rows_near]
    refine q_row hl hu (by omega) (by omega) fun r1 g1 hr1 hx1 hg1 => ?_
    refine q_row hl hu (by omega) (by omega) fun r2 g2 hr2 hx2 hg2 => ?_
    simp [isNoneD]
    refine hq [r1, r2] g2 (by simp) (fun x hx => ?_) (by omega)
    rcases (by simpa using hx : x = r1 ∨ x = r2) with rfl | rfl
    · exact ⟨hr1, fun y hy => (hx1 y hy).1⟩
    · exact ⟨hr2, fun y hy => (hx2 y hy).1⟩
  | some r =>
    have hrr := hr r rfl
    simp [t__law_rows_near]
    refine q_row hl hu (by omega) (by omega) fun r1 g1 hr1 hx1 hg1 => ?_
    refine q_row hl hu (by omega) (by omega) fun r2 g2 hr2 hx2 hg2 => ?_
    simp [isNoneD]
    refine q_beside (by have := hrr.1; omega) (by have := hrr.1; omega) ?_
    simp
    have zw : List.zipWith (fun x y => PyData.int (x + y)) r r2 = (List.zipWith (· + ·) r r2).map PyData.int := by rw [List.map_zipWith]
    have hz : Rw us.length (List.zipWith (· + ·) r r2) := by
      refine ⟨by rw [List.length_zipWith]; have := hrr.1; omega, fun y hy => ?_⟩
      obtain ⟨i, hi, rfl⟩ := List.mem_iff_getElem.mp hy
      rw [List.getElem_zipWith]
      rw [List.length_zipWith] at hi
      have a1 := hrr.2 r[i] (List.getElem_mem (by omega))
      have a2 := (hx2 r2[i] (List.getElem_mem (by omega))).1
      omega
    refine for_ind (fun rest ρ => ∃ (i : Nat) (rs : List (List Int)) (a b c : Sl), rest = (rangeD 3).drop i ∧ i ≤ 3 ∧ rs.length = 4 + i ∧ (∀ x ∈ rs, Rw us.length x) ∧ ρ = ⟨[.st, .s (ti us), .s (ti r), .o (.list (rs.map ti)), a, b, c], g2 + i⟩)
      ⟨0, [r1, r2, r, List.zipWith (· + ·) r r2], .u, .u, .u, rfl, by omega, rfl, fun x hx => ?_, ?_⟩ ?_ ?_
    · simp at hx
      rcases hx with rfl | rfl | rfl | rfl
      · exact ⟨hr1, fun y hy => (hx1 y hy).1⟩
      · exact ⟨hr2, fun y hy => (hx2 y hy).1⟩
      · exact hrr
      · exact hz
    · rw [zw]; rfl
    · rintro ρ ⟨i, rs, a, b, c, e, hi3, hlen, hrs, rfl⟩
      have hi := range_end e
      simp
      exact hq rs _ (by omega) hrs (by omega)
    · rintro d rest ρ ⟨i, rs, a, b, c, e, hi3, hlen, hrs, rfl⟩ N hN
      obtain ⟨hlt, rfl, e2⟩ := range_at e
      have hrl := hrr.1
      simp
      refine q_draw (by omega) (by omega) (by omega) fun x hx0 hx1 => ?_
      obtain ⟨j, rfl⟩ : ∃ j : Nat, x = (j : Int) := ⟨x.toNat, by omega⟩
      obtain ⟨v, hv⟩ : ∃ v, r[j]? = some v := ⟨_, List.getElem?_eq_getElem (by omega)⟩
      simp [hv]
      obtain ⟨dv, hdv⟩ : ∃ z : Int, [PyData.int 1, PyData.int (-1), PyData.int (-2)][i]? = some (.int z) := by
        rcases (by omega : i = 0 ∨ i = 1 ∨ i = 2) with rfl | rfl | rfl
        · exact ⟨_, rfl⟩
        · exact ⟨_, rfl⟩
        · exact ⟨_, rfl⟩
      have hix : ixN r.length (j : Int) = some j := by
        unfold ixN
        rw [if_pos (by omega), if_pos (by omega)]
        simp
      rw [hix]
      refine ⟨_, hdv, ?_⟩
      simp
      refine ⟨by omega, ?_⟩
      have nx : ∀ y : Int, 0 ≤ y → N ⟨[.st, .s (.tuple (us.map PyData.int)), .s (.tuple (r.map PyData.int)), .o (.list (rs.map ti ++ [.tuple ((r.map PyData.int).set j (.int y))])), .s (.int (i : Int)), .s (.int (j : Int)), .s (.list ((r.map PyData.int).set j (.int y)))], g2 + i + 1⟩ := fun y hy => by
        have e1 : (r.map PyData.int).set j (.int y) = (r.set j y).map PyData.int := by rw [List.map_set]
        have z := hN ⟨[.st, .s (ti us), .s (ti r), .o (.list ((rs ++ [r.set j y]).map ti)), .s (.int (i : Int)), .s (.int (j : Int)), .s (.list ((r.set j y).map PyData.int))], g2 + (i + 1)⟩ ⟨i + 1, rs ++ [r.set j y], _, _, _, e2, by omega, by rw [List.length_append, List.length_singleton]; omega, fun x hx => by
          rcases List.mem_append.mp hx with hx | hx
          · exact hrs x hx
          · have : x = r.set j y := by simpa using hx
            subst this
            refine ⟨by rw [List.length_set]; exact hrl, fun q hq => ?_⟩
            rcases List.mem_or_eq_of_mem_set hq with hq | hq
            · exact hrr.2 q hq
            · omega, rfl⟩
        rw [List.map_append] at z
        rw [e1]
        exact z
      exact nx _ (by split <;> omega)
end Yd
set_option Elab.async false
set_option linter.all false
set_option maxRecDepth 100000
set_option maxHeartbeats 1000000
/-! # Readings: greatest_rings -/
namespace Yd
open PySem PySem.Spec PyProof.Rows L2 LamX
open Mt (Stp Wd)
@[simp ↓] theorem r_setLcX {i : Nat} {ti0 : RI} {g : RG} {tx : RX} {vs : List Nat} {K : Ends2} {ρ : En} : dSetLcX i ti0 g tx vs K ρ = ti0 ρ fun items ρ1 => items.length ≤ 1000 ∧ lcWX g tx vs (fun d ρ' => K.nx (ρ'.put i (.o d))) K.ex items [] (clr ρ1 vs) := rfl
theorem lcx_ind {gD : RG} {tx : RX} {vs : List Nat} {Q : PyData → En → Prop} {R : Ex → En → Prop} (I : List PyData → List PyData → En → Prop) {items acc : List PyData} {ρ : En} (h0 : I items acc ρ) (hN : ∀ acc ρ, I [] acc ρ → Q (.list acc) ρ)
    (hS : ∀ d ds acc ρ, I (d :: ds) acc ρ → ∀ N : List PyData → En → Prop, (∀ acc ρ', I ds acc ρ' → N acc ρ') → gD d ρ fun ρ1 => tx ρ1 (fun y ρ3 => N (acc ++ [y]) (clr ρ3 vs)) R) : lcWX gD tx vs Q R items acc ρ := by
  induction items generalizing acc ρ with
  | nil => exact hN acc ρ h0
  | cons d ds ih => exact hS d ds acc ρ h0 (fun acc ρ => lcWX gD tx vs Q R ds acc ρ) fun acc ρ' h => ih h
theorem inD_none_ints : ∀ gs : List Int, inD .none (gs.map PyData.int) = false
  | [] => rfl
  | g :: gs => by
    have ih := inD_none_ints gs
    have h : inD .none ((g :: gs).map PyData.int) = (PyData.eqv (.int g) .none || inD .none (gs.map PyData.int)) := rfl
    rw [h, ih]; rfl
theorem inD_none_rep : ∀ n : Nat, inD .none (List.replicate (n + 1) .none) = true := fun n => by
  have h : inD .none (List.replicate (n + 1) PyData.none) = (PyData.eqv .none .none || inD .none (List.replicate n .none)) := rfl
  rw [h]; rfl
theorem flat_ints (gs : List Int) : (gs.map PyData.int).all flatD = true := by
  rw [List.all_map, List.all_eq_true]; intro x _; rfl
theorem pu_greatest_rings (ds : List PyData) (Q : PyData → Prop) (R : Ex → Prop) (h : sp_greatest_rings ds Q R) : t_greatest_rings (defEnds Q R) ⟨st0 ["units", "world", "step", "found", "unit"] ds, 0⟩ := by
  obtain ⟨us, w, i, s, rfl, W, hs, hR, hq⟩ := h
  have hu := W.un.1
  simp [t_greatest_rings]
  refine ⟨by omega, by omega, ?_⟩
  have er : ((us.length : Int) + 1).toNat = us.length + 1 := by omega
  refine ⟨by rw [rangeD_length]; omega, ?_⟩
  by_cases hC : Rch w.st 0 s.a ∧ Rch (Mt.bare w.st i) s.b s.a
  · refine lcx_ind (fun rest acc ρ => ∃ (k : Nat) (gs : List Int), rest = (rangeD (us.length + 1)).drop k ∧ acc = gs.map PyData.int ∧ gs.length = k ∧ k ≤ us.length + 1 ∧ (∀ j < k, ¬ Mt.OthW us w i j) ∧ (∀ j < k, Mt.Top us w i s j (gs.getD j 0)) ∧
      ρ = ⟨[.s (ti us), .s (eW w), .s (.int (i : Nat)), .u, .u], 0⟩) ⟨0, [], by simp [er], rfl, rfl, by omega, fun j h => absurd h (by omega), fun j h => absurd h (by omega), rfl⟩ ?_ ?_
    · rintro acc ρ ⟨k, gs, e, rfl, hl, hk, hn, ht, rfl⟩
      have z := range_end e
      have ek : k = us.length + 1 := by omega
      subst ek
      simp [inD_none_ints, flatD]
      exact (hq fun j hj => hn j (by omega)).2 hC.1 hC.2 gs hl fun j hj => ht j (by omega)
    · rintro d rest acc ρ ⟨k, gs, e, rfl, hl, hk, hn, ht, rfl⟩ N hN
      obtain ⟨hlt, rfl, hrest⟩ := range_at e
      simp
      refine ⟨us, w, i, s, k, rfl, W, hs, by omega, fun ho => hR ⟨k, by omega, ho⟩, fun hno => ⟨fun hbad => ?_, fun _ _ g hg => ?_⟩⟩
      · rcases hbad with z | z
        · exact absurd hC.1 z
        · exact absurd hC.2 z
      · have q := hN ((gs ++ [g]).map PyData.int) ⟨[.s (ti us), .s (eW w), .s (.int (i : Nat)), .u, .u], 0⟩ ⟨k + 1, gs ++ [g], hrest, rfl, by rw [List.length_append, List.length_singleton, hl], by omega, fun j hj => ?_, fun j hj => ?_, rfl⟩
        · simpa using q
        · by_cases hjk : j = k
          · rw [hjk]; exact hno
          · exact hn j (by omega)
        · by_cases hjk : j = k
          · subst hjk
            have : (gs ++ [g]).getD j 0 = g := by rw [← hl]; simp
            rw [this]; exact hg
          · have : (gs ++ [g]).getD j 0 = gs.getD j 0 := by
              have : j < gs.length := by omega
              simp [List.getElem?_append_left this]
            rw [this]; exact ht j (by omega)
  · have hC' : ¬ Rch w.st 0 s.a ∨ ¬ Rch (Mt.bare w.st i) s.b s.a := by
      by_cases h1 : Rch w.st 0 s.a
      · exact .inr fun h2 => hC ⟨h1, h2⟩
      · exact .inl h1
    refine lcx_ind (fun rest acc ρ => ∃ (k : Nat), rest = (rangeD (us.length + 1)).drop k ∧ acc = List.replicate k .none ∧ k ≤ us.length + 1 ∧ (∀ j < k, ¬ Mt.OthW us w i j) ∧
      ρ = ⟨[.s (ti us), .s (eW w), .s (.int (i : Nat)), .u, .u], 0⟩) ⟨0, by simp [er], rfl, by omega, fun j h => absurd h (by omega), rfl⟩ ?_ ?_
    · rintro acc ρ ⟨k, e, rfl, hk, hn, rfl⟩
      have z := range_end e
      have ek : k = us.length + 1 := by omega
      subst ek
      simp [inD_none_rep, flatD]
      exact (hq fun j hj => hn j (by omega)).1 hC'
    · rintro d rest acc ρ ⟨k, e, rfl, hk, hn, rfl⟩ N hN
      obtain ⟨hlt, rfl, hrest⟩ := range_at e
      simp
      refine ⟨us, w, i, s, k, rfl, W, hs, by omega, fun ho => hR ⟨k, by omega, ho⟩, fun hno => ⟨fun _ => ?_, fun h1 h2 => absurd ⟨h1, h2⟩ hC⟩⟩
      have q := hN (List.replicate (k + 1) .none) ⟨[.s (ti us), .s (eW w), .s (.int (i : Nat)), .u, .u], 0⟩ ⟨k + 1, hrest, rfl, by omega, fun j hj => ?_, rfl⟩
      · rw [List.replicate_succ'] at q
        simpa using q
      · by_cases hjk : j = k
        · rw [hjk]; exact hno
        · exact hn j (by omega)
end Yd
set_option Elab.async false
set_option linter.all false
set_option maxRecDepth 100000
set_option maxHeartbeats 1000000
/-! # What the law's last defs do; data that repr shows -/
namespace Yd
open PySem PySem.Spec PyProof.Rows L2 LamX
open Mt (Deed Stp Wd)
/-- the tables of the defs with lambdas, the names of what they hold -/
def lamQ (x : Str) : Str := x ++ ".<locals>." ++ "<lambda>"
def tabsL (K : PySem.W.Frag) : List (Addr × Str) := tf.map fun p => ((He.cT K p).2, lamQ p.1)
def TL (K : PySem.W.Frag) : List (Addr × Str) → Prop := fun T => T = tabsL K
theorem nodup_inj {α β : Type} {f : α → β} : ∀ {l : List α}, (l.map f).Nodup → ∀ a ∈ l, ∀ b ∈ l, f a = f b → a = b
  | [], _, a, ha, _, _, _ => nomatch ha
  | x :: l, h, a, ha, b, hb, e => by
    rw [List.map_cons, List.nodup_cons] at h
    rcases List.mem_cons.mp ha with rfl | ha
    · rcases List.mem_cons.mp hb with rfl | hb
      · rfl
      · exact absurd (List.mem_map.mpr ⟨b, hb, e.symm⟩) h.1
    · rcases List.mem_cons.mp hb with hb | hb
      · rw [hb] at e
        exact absurd (List.mem_map.mpr ⟨a, ha, e⟩) h.1
      · exact nodup_inj h.2 a ha b hb e
theorem lamF_of {X : Cx} {F : Fm} (g : G X.K X.mg) {x : Str} (hx : (x, none) ∈ tf) (tb : ∀ p ∈ tf, TabB X.base X.mg (He.cT X.K p).1 (He.cT X.K p).2) (ec : X.env.code = .ref (He.codeOf X.K (x, none))) (eq : X.env.qual ++ "<lambda>" = lamQ x) (hT : TL X.K F.T) : LamF X F := by
  refine ⟨_, _, tb (x, none) hx, ec, ?_, ?_⟩
  · rw [eq, hT]
    exact List.mem_map.mpr ⟨(x, none), hx, rfl⟩
  · intro p hp e
    rw [hT] at hp
    obtain ⟨q, hq, rfl⟩ := List.mem_map.mp hp
    have z := nodup_inj (f := fun p => (He.cT X.K p).2) g.tabs3 q hq (x, none) hx e
    rw [eq, z]

def sp__law_like : Spc := fun ds Q _ => ∃ d, ds = [d, d] ∧ reprOk d ∧ Q (.bool true)
def sp__law_by_rows : Spc := fun ds Q _ => ds = [] ∧ Q (.bool true)
/-- a world as the law draws it -/
structure Wdrawn (us : List Int) (w : Wd) : Prop where
  ul : us.length ≤ 2
  un : ∀ u ∈ us, 2 ≤ u ∧ u ≤ 4
  ok : Mt.Wok us w
  n : w.n ≤ 4
  st : w.st.length ≤ 7
  row : ∀ s ∈ w.st, isDeed us.length (eD s.d) = true
def sp__law_more_right : SpcS := fun ds g Q => ∃ us w k s, ds = [ti us, eW w, .int (k : Nat)] ∧ Wdrawn us w ∧ w.st[k]? = some s ∧ g + 200 ≤ lim ∧ ∀ g', g' ≤ g + 200 → Q (.bool true) g'

/-! ## what repr shows -/
structure Gd (m c : Nat) (d : PyData) : Prop where
  lay : d.canLay0 = true
  sh : d.showable = true
  dp : d.depth ≤ m
  it : d.intsShort 100 = true
  wt : d.weight ≤ c
structure Gdl (m c : Nat) (xs : List PyData) : Prop where
  lay : PyData.canLayAll0 xs = true
  sh : PyData.showableAll xs = true
  dp : PyData.depthAll xs ≤ m
  it : PyData.intsShortAll 100 xs = true
  wt : PyData.weightAll xs ≤ c
theorem Gd.mono {m c m' c' : Nat} {d : PyData} (h : Gd m c d) (hm : m ≤ m') (hc : c ≤ c') : Gd m' c' d := ⟨h.lay, h.sh, Nat.le_trans h.dp hm, h.it, Nat.le_trans h.wt hc⟩
theorem Gdl.mono {m c m' c' : Nat} {d : List PyData} (h : Gdl m c d) (hm : m ≤ m') (hc : c ≤ c') : Gdl m' c' d := ⟨h.lay, h.sh, Nat.le_trans h.dp hm, h.it, Nat.le_trans h.wt hc⟩
theorem gdl_nil {m c : Nat} : Gdl m c [] := ⟨rfl, rfl, Nat.zero_le _, rfl, Nat.zero_le _⟩
theorem gdl_cons {m c1 c2 : Nat} {d : PyData} {xs : List PyData} (h : Gd m c1 d) (hl : Gdl m c2 xs) : Gdl m (c1 + 1 + c2) (d :: xs) where
  lay := by simp only [PyData.canLayAll0, h.lay, hl.lay, Bool.and_self]
  sh := by simp only [PyData.showableAll, h.sh, hl.sh, Bool.and_self]
  dp := by
    have h1 := h.dp
    have h2 := hl.dp
    simp only [PyData.depthAll]
    omega
  it := by simp only [PyData.intsShortAll, h.it, hl.it, Bool.and_self]
  wt := by
    have h1 := h.wt
    have h2 := hl.wt
    simp only [PyData.weightAll]
    omega
theorem gdl_all {m c : Nat} : ∀ {xs : List PyData}, (∀ d ∈ xs, Gd m c d) → Gdl m (xs.length * (c + 1)) xs
  | [], _ => gdl_nil
  | d :: xs, h => (gdl_cons (h d List.mem_cons_self) (gdl_all fun e he => h e (List.mem_cons_of_mem _ he))).mono (Nat.le_refl _) (by rw [List.length_cons, Nat.add_mul]; omega)
theorem gdl_app {m c1 c2 : Nat} {ys : List PyData} (h2 : Gdl m c2 ys) : ∀ {xs : List PyData}, Gdl m c1 xs → Gdl m (c1 + c2) (xs ++ ys)
  | [], _ => h2.mono (Nat.le_refl _) (Nat.le_add_left _ _)
  | x :: xs, h => by
    have a1 := h.lay
    have a2 := h.sh
    have a3 := h.dp
    have a4 := h.it
    have a5 := h.wt
    simp only [PyData.canLayAll0, PyData.showableAll, PyData.depthAll, PyData.intsShortAll, PyData.weightAll, Bool.and_eq_true] at a1 a2 a3 a4 a5
    have q := gdl_app (m := m) (c1 := PyData.weightAll xs) h2 (xs := xs) ⟨a1.2, a2.2, by omega, a4.2, Nat.le_refl _⟩
    refine (gdl_cons (c1 := x.weight) ⟨a1.1, a2.1, by omega, a4.1, Nat.le_refl _⟩ q).mono (Nat.le_refl _) (by omega)
theorem gd_tup {m c : Nat} {xs : List PyData} (h : Gdl m c xs) : Gd (m + 1) c (.tuple xs) :=
  ⟨by simp only [PyData.canLay0]; exact h.lay, by simp only [PyData.showable]; exact h.sh, by have := h.dp; simp only [PyData.depth]; omega, by simp only [PyData.intsShort]; exact h.it, by simp only [PyData.weight]; exact h.wt⟩
theorem gd_lst {m c : Nat} {xs : List PyData} (h : Gdl m c xs) : Gd (m + 1) c (.list xs) :=
  ⟨by simp only [PyData.canLay0]; exact h.lay, by simp only [PyData.showable]; exact h.sh, by have := h.dp; simp only [PyData.depth]; omega, by simp only [PyData.intsShort]; exact h.it, by simp only [PyData.weight]; exact h.wt⟩
theorem log2_60 {n : Nat} (h : n ≤ 10 ^ 60) : n.log2 < 200 := by
  by_cases h0 : n = 0
  · subst h0; decide
  · rw [Nat.log2_lt h0]
    exact Nat.lt_of_le_of_lt h (by decide)
theorem gd_int {m : Nat} {i : Int} (h : i.natAbs ≤ 10 ^ 60) : Gd m 201 (.int i) := by
  have hl := log2_60 h
  refine ⟨rfl, ?_, Nat.zero_le _, ?_, ?_⟩
  · simp only [PyData.showable, decide_eq_true_eq]; omega
  · have e := int_text_length_le10 (k := 61) (by decide) (Nat.lt_of_le_of_lt h (by decide))
    unfold PyData.intsShort
    refine decide_eq_true ?_
    show (Str.ofString (toString i)).length ≤ 100
    rw [PySem.ofString_length]; omega
  · simp only [PyData.weight]
    split <;> omega
theorem gd_none {m : Nat} : Gd m 0 .none := ⟨rfl, rfl, Nat.zero_le _, rfl, Nat.zero_le _⟩
theorem gd_bool {m : Nat} {b : Bool} : Gd m 0 (.bool b) := ⟨rfl, rfl, Nat.zero_le _, rfl, Nat.zero_le _⟩
theorem gd_str {m : Nat} {x : Str} (h : PyData.strOk x = true) : Gd m x.cps.size (.str x) := ⟨by simp only [PyData.canLay0]; exact h, rfl, Nat.zero_le _, rfl, Nat.le_refl _⟩
theorem Gd.repr {m c : Nat} {d : PyData} (h : Gd m c d) (hm : m ≤ 40) (hc : c ≤ 100000) (hd : isDisplay d = true) : reprOk d := by
  refine ⟨h.sh, h.lay, Nat.le_trans h.dp hm, ?_, .inl hd⟩
  have q := PyData.shown_le 100 (by decide) d (PyData.leavesShort_of_canLay0 100 d h.lay h.it)
  have hw := h.wt
  rw [sizeLine_eq]
  omega
theorem repr_bool (b : Bool) : reprOk (.bool b) := ⟨rfl, rfl, Nat.zero_le _, by cases b <;> decide, .inr ⟨b, rfl⟩⟩
end Yd
set_option Elab.async false
set_option linter.all false
set_option maxRecDepth 100000
set_option maxHeartbeats 1000000
namespace Yd
open PySem PySem.Spec PyProof.Rows L2 LamX
def t__law_like : RS := (dRet (dOp (kEqS false) (dCallB kRepr (dCons (dVar 0) dNil)) (dCallB kRepr (dCons (dVar 1) dNil))))
def t__law_more_tail : RS := (dSeq (dSet 9 (dOp kRepT (dTup (dCons (dC (.int 0)) dNil)) (dOp kAddI (dCallB kLen (dCons (dVar 1) dNil)) (dC (.int 1)))))
  (dSeq (dIfS (dAnd (dTest (dVar 6)) (dTest (dOp (kEqD true) (dVar 7) (dVar 9)))) (dRet (dC (.bool false))) dNext)
  (dSeq (dFor (diList (dCallS 0 sp__law_rows_near (dCons (dVar 1) (dCons (dVar 7) dNil)))) (dgName 10) (dSeq (dSet 11 (dCall sp__law_put_in (dCons (dVar 2) (dCons (dVar 3) (dCons (dTup (dCons (dC (.str "bring")) (dCons (dVar 10) dNil))) dNil)))))
  (dSeq (dSet 12 (dAndV (dUn kNotN (dVar 7)) (dCall sp__law_inside (dCons (dVar 1) (dCons (dVar 7) (dCons (dVar 10) dNil))))))
  (dIfS (dNot (dTest (dCall sp__law_like (dCons (dCall sp__law_lives (dCons (dVar 1) (dCons (dVar 11) dNil))) (dCons (dVar 12) dNil))))) (dRet (dC (.bool false))) dNext))))
  (dSeq (dFor (diList (dCallS 0 sp__law_rows_near (dCons (dVar 1) (dCons (dVar 8) dNil)))) (dgName 10) (dSeq (dSet 11 (dCall sp__law_put_in (dCons (dVar 2) (dCons (dVar 3) (dCons (dTup (dCons (dC (.str "ask")) (dCons (dVar 10) dNil))) dNil)))))
  (dSeq (dSet 12 (dAndV (dVar 6) (dOrV (dUn kIsN (dVar 8)) (dCall sp__law_inside (dCons (dVar 1) (dCons (dVar 10) (dCons (dVar 8) dNil)))))))
  (dIfS (dNot (dTest (dCall sp__law_like (dCons (dCall sp__law_lives (dCons (dVar 1) (dCons (dVar 11) dNil))) (dCons (dVar 12) dNil))))) (dRet (dC (.bool false))) dNext))))
  (dRet (dC (.bool true)))))))
def t__law_more_rest : RS := (dSeq (dSet 6 (dCall sp__law_lives (dCons (dVar 1) (dCons (dVar 2) dNil))))
  (dSeq (dIfS (dOr (dNot (dTest (dCall sp__law_like (dCons (dOp (kEqD false) (dVar 5) (dTup (dCons (dC (.str "none")) dNil))) (dCons (dNotV (dVar 6)) dNil))))) (dAnd (dTest (dVar 6)) (dTest (dOp (kEqD false) (dVar 4) (dTup (dCons (dC (.str "none")) dNil)))))) (dRet (dC (.bool false))) dNext)
  (dSeq (dSet 7 (dIf (dTest (dUn (kIsi "list") (dVar 4))) (dIxN 4 (dC (.int 0))) (dC .none)))
  (dSeq (dSet 8 (dIf (dTest (dUn (kIsi "list") (dVar 5))) (dIxN 5 (dC (.int 0))) (dC .none)))
  t__law_more_tail))))
def t__law_more_right : RS := (dSeq (dSet 4 (dHeard [.norow, .index, .param, .great] (dCallX sp_least_more (dCons (dVar 1) (dCons (dVar 2) (dCons (dVar 3) dNil))))))
  (dSeq (dSet 5 (dHeard [.norow, .index, .param, .great] (dCallX sp_most_more (dCons (dVar 1) (dCons (dVar 2) (dCons (dVar 3) dNil))))))
  t__law_more_rest))
def t__law_by_rows : RS := (dSeq (dSet 0 (dTup (dCons (dC (.int 8)) (dCons (dOp kRepT (dTup (dCons (dTup (dCons (dC (.int 0)) (dCons (dTup (dCons (dC (.str "pass")) dNil)) (dCons (dC (.int 0)) dNil)))) dNil)) (dC (.int 14))) dNil))))
  (dSeq (dSetO 1 (dLst (dCons (dHeard [.units, .world, .param, .great] (dCallX sp_with_deed (dCons (dTup (dCons (dC (.int 1)) dNil)) (dCons (dC .none) (dCons (dC .none) (dCons (dC .none) dNil)))))) dNil)))
  (dSeq (dAppend 1 (dHeard [.units, .world, .param, .great] (dCallX sp_least_more (dCons (dTup (dCons (dC (.int 1)) dNil)) (dCons (dC .none) (dCons (dC .none) dNil))))))
  (dSeq (dAppend 1 (dHeard [.units, .world, .param, .great] (dCallX sp_most_more (dCons (dTup (dCons (dC (.int 1)) dNil)) (dCons (dC .none) (dCons (dC .none) dNil))))))
  (dSeq (dAppend 1 (dHeard [.units, .world, .param, .great] (dCallX sp_with_deed (dCons (dTup (dCons (dC (.int 2)) dNil)) (dCons (dC .none) (dCons (dC .none) (dCons (dC .none) dNil)))))))
  (dSeq (dAppend 1 (dHeard [.units, .world, .param, .great] (dCallX sp_least_more (dCons (dTup (dCons (dC (.int 2)) dNil)) (dCons (dC .none) (dCons (dC .none) dNil))))))
  (dSeq (dAppend 1 (dHeard [.units, .world, .param, .great] (dCallX sp_most_more (dCons (dTup (dCons (dC (.int 2)) dNil)) (dCons (dC .none) (dCons (dC .none) dNil))))))
  (dSeq (dAppend 1 (dHeard [.units, .world, .param, .great] (dCallX sp_with_deed (dCons (dTup (dCons (dC (.int 2)) dNil)) (dCons (dVar 0) (dCons (dC (.int 0)) (dCons (dC .none) dNil)))))))
  (dSeq (dAppend 1 (dHeard [.units, .world, .param, .great] (dCallX sp_with_deed (dCons (dTup (dCons (dC (.int 2)) dNil)) (dCons (dVar 0) (dCons (dC (.int 0)) (dCons (dTup (dCons (dC (.str "pass")) dNil)) dNil)))))))
  (dSeq (dSetO 2 (dOp kCatL (dOp kRepL (dLst (dCons (dTup (dCons (dC (.str "units")) (dCons (dTup (dCons (dC (.int 1)) dNil)) dNil))) dNil)) (dC (.int 3))) (dOp kRepL (dLst (dCons (dTup (dCons (dC (.str "world")) (dCons (dTup dNil) dNil))) dNil)) (dC (.int 3)))))
  (dRet (dCall sp__law_like (dCons (dVar 1) (dCons (dOp kCatL (dVar 2) (dLst (dCons (dTup (dCons (dC (.str "parameter")) (dCons (dC .none) dNil))) (dCons (dTup (dCons (dC (.str "great")) (dCons (dC (.int 8)) dNil))) dNil)))) dNil))))))))))))))
def t_odd_3 : RS := (dIfS (dNot (dTest (dCall sp__law_like (dCons (dVar 9) (dCons (dOp kRepL (dLst (dCons (dTup (dCons (dC (.str "index")) (dCons (dVar 8) dNil))) dNil)) (dC (.int 3))) dNil))))) (dRet (dC (.bool false))) dNext)
def t_odd_2 : RS := (dSeq (dAppend 9 (dHeard [.norow, .index, .param, .great] (dCallX sp_with_deed (dCons (dVar 3) (dCons (dVar 4) (dCons (dVar 8) (dCons (dC .none) dNil))))))) t_odd_3)
def t_odd_1 : RS := (dSeq (dAppend 9 (dHeard [.norow, .index, .param, .great] (dCallX sp_most_more (dCons (dVar 3) (dCons (dVar 4) (dCons (dVar 8) dNil)))))) t_odd_2)
def t_odd_0 : RS := (dSeq (dSetO 9 (dLst (dCons (dHeard [.norow, .index, .param, .great] (dCallX sp_least_more (dCons (dVar 3) (dCons (dVar 4) (dCons (dVar 8) dNil))))) dNil))) t_odd_1)
def t_lap_15 : RS := (dIfS (dNot (dTest (dCall sp__law_like (dCons (dVar 9) (dCons (dLst (dCons (dTup (dCons (dC (.str "great")) (dCons (dC (.int 8)) dNil))) (dCons (dTup (dCons (dC (.str "great")) (dCons (dC (.int 14)) dNil))) dNil))) dNil))))) (dRet (dC (.bool false))) dNext)
def t_lap_14 : RS := (dSeq (dAppend 9 (dHeard [.norow, .index, .param, .great] (dCallX sp_with_deed (dCons (dVar 3) (dCons (dVar 11) (dCons (dVar 5) (dCons (dTup (dCons (dC (.str "pass")) dNil)) dNil))))))) t_lap_15)
def t_lap_13 : RS := (dSeq (dSetO 9 (dLst (dCons (dHeard [.norow, .index, .param, .great] (dCallX sp_with_deed (dCons (dVar 3) (dCons (dVar 10) (dCons (dVar 5) (dCons (dTup (dCons (dC (.str "pass")) dNil)) dNil)))))) dNil))) t_lap_14)
def t_lap_12 : RS := (dSeq (dSet 11 (dTup (dCons (dIxN 4 (dC (.int 0))) (dCons (dSl kSl (dOp kRepT (dIxN 4 (dC (.int 1))) (dC (.int 14))) dNoPart (dPart (dC (.int 14)))) dNil)))) t_lap_13)
def t_lap_11 : RS := (dSeq (dSet 10 (dTup (dCons (dC (.int 8)) (dCons (dIxN 4 (dC (.int 1))) dNil)))) t_lap_12)
def t_lap_10 : RS := (dSeq (dIfS (dNot (dTest (dCall sp__law_like (dCons (dVar 9) (dCons (dTup (dCons (dC (.str "parameter")) (dCons (dVar 8) dNil))) dNil))))) (dRet (dC (.bool false))) dNext) t_lap_11)
def t_lap_9 : RS := (dSeq (dSet 9 (dHeard [.norow, .index, .param, .great] (dCallX sp_with_deed (dCons (dVar 3) (dCons (dVar 4) (dCons (dVar 5) (dCons (dVar 8) dNil))))))) t_lap_10)
def t_lap_8 : RS := (dSeq (dSet 8 (dOp kIx (dLst (dCons (dC .none) (dCons (dTup (dCons (dC (.str "pass")) (dCons (dC (.int 0)) dNil))) (dCons (dTup (dCons (dC (.str "give")) (dCons (dVar 7) dNil))) (dCons (dTup (dCons (dC (.str "ask")) (dCons (dOp kRepT (dTup (dCons (dC (.int 1)) dNil)) (dC (.int 5))) dNil))) dNil))))) (dCallS 1 sp__law_draw (dCons (dC (.int 4)) dNil)))) t_lap_9)
def t_lap_7 : RS := (dSeq (dFor (diTup (dTup (dCons (dUn kNeg (dC (.int 1))) (dCons (dCallB kLen (dCons (dIxN 4 (dC (.int 1))) dNil)) (dCons (dC (.bool true)) (dCons (dC .none) dNil)))))) (dgName 8) t_odd_0) t_lap_8)
def t_lap_6 : RS := (dSeq (dIfS (dNot (dTest (dCallS 1 sp__law_more_right (dCons (dVar 3) (dCons (dVar 4) (dCons (dVar 5) dNil)))))) (dRet (dC (.bool false))) dNext) t_lap_7)
def t_lap_5 : RS := (dSeq (dIfS (dNot (dTest (dCall sp__law_like (dCons (dVar 7) (dCons (dCall sp__law_put_in (dCons (dVar 4) (dCons (dVar 5) (dCons (dVar 6) dNil)))) dNil))))) (dRet (dC (.bool false))) dNext) t_lap_6)
def t_lap_4 : RS := (dSeq (dSet 7 (dCall sp_with_deed (dCons (dVar 3) (dCons (dVar 4) (dCons (dVar 5) (dCons (dVar 6) dNil)))))) t_lap_5)
def t_lap_3 : RS := (dSeq (dSet 6 (dOp kIx (dLst (dCons (dTup (dCons (dC (.str "pass")) dNil)) (dCons (dTup (dCons (dC (.str "ask")) (dCons (dCallS 1 sp__law_row (dCons (dVar 3) (dCons (dC (.int 5)) dNil))) dNil))) dNil))) (dCallS 1 sp__law_draw (dCons (dC (.int 2)) dNil)))) t_lap_4)
def t_lap_2 : RS := (dSeq (dSet 5 (dCallS 1 sp__law_draw (dCons (dCallB kLen (dCons (dIxN 4 (dC (.int 1))) dNil)) dNil))) t_lap_3)
def t_lap_1 : RS := (dSeq (dSet 4 (dCallS 1 sp__law_some_world (dCons (dVar 3) (dCons (dC (.int 4)) (dCons (dC (.int 7)) (dCons (dC (.int 12)) dNil)))))) t_lap_2)
def t_lap_0 : RS := (dSeq (dSet 3 (dCallS 1 sp__law_units dNil)) t_lap_1)
def t_law : RS := (dSeq (dFor (diRange (dC (.int 2))) (dgName 2) t_lap_0)
  (dRet (dCall sp__law_by_rows dNil)))
end Yd
set_option Elab.async false
set_option linter.all false
set_option maxRecDepth 100000
set_option maxHeartbeats 1000000
namespace Yd
open PySem PySem.Spec PyProof.Rows L2 LamX
theorem sc__law_like : FnScope ["_law_got", "_law_due"] ["_law_got", "_law_due"] (defScope s__law_like) := ⟨rfl, rfl, rfl, by decide +kernel, rfl, by decide +kernel, by decide +kernel⟩
theorem der__law_like {P : Program} {w : World} {K : PySem.W.Frag} {mg : Str → Option Value} {base : Heap} (g : G K mg)  (cdv : Value) (A : Around) (outer : List Env) (s : Shared) (H : Hp) (Fm0 : Fm) (hG0 : A.guards = some [])
    (hr : Room 0 (A.deeper (envOfC "_law_like" (defScope s__law_like) s.heap.objs.size (He.ga K "_law_like") cdv))) : DSs (cxOf CX0 P w K mg base ["_law_got", "_law_due"] "_law_like" (defScope s__law_like) (He.ga K "_law_like") cdv A outer s H E0).nox (ckK K) Fm0 W0 (defBody s__law_like) t__law_like := by
  have sc := sc__law_like
  have hG : (cxOf CX0 P w K mg base ["_law_got", "_law_due"] "_law_like" (defScope s__law_like) (He.ga K "_law_like") cdv A outer s H E0).nox.A.guards = some [] := hG0
  exact (dss_one (ds_ret (de_c (cm_eq (de_repr hG hr.units rfl (f_repr g) (dv 0)) (de_repr hG hr.units rfl (f_repr g) (dv 1))))))
theorem sc__law_more_right : FnScope ["_law_state", "_law_units_so", "_law_world_so", "_law_index", "_law_least", "_law_most", "_law_itself", "_law_low", "_law_high", "_law_zeros", "_law_row_here", "_law_far", "_law_due"] ["_law_state", "_law_units_so", "_law_world_so", "_law_index"] (defScope s__law_more_right) := ⟨rfl, rfl, rfl, by decide +kernel, rfl, by decide +kernel, by decide +kernel⟩
theorem der__law_more_right {P : Program} {w : World} {K : PySem.W.Frag} {mg : Str → Option Value} {base : Heap} (g : G K mg) (o_least_more : Ok P w K mg base (L2.CX P w) 7 "least_more" ["units", "world", "step"] (spP T1 K (ckK K) sp_least_more)) (o_most_more : Ok P w K mg base (L2.CX P w) 7 "most_more" ["units", "world", "step"] (spP T1 K (ckK K) sp_most_more)) (o__law_lives : Ok P w K mg base (CX0) 5 "_law_lives" ["_law_units_so", "_law_world_so"] (spP T1 K (ckK K) sp__law_lives)) (o__law_like : OkG P w K mg base 1 "_law_like" ["_law_got", "_law_due"] (spP T1 K (ckK K) sp__law_like)) (o__law_rows_near : Ok P w K mg base (CX0) 4 "_law_rows_near" ["_law_state", "_law_units_so", "_law_row_here"] (spS T1 K sp__law_rows_near)) (o__law_put_in : Ok P w K mg base (CX0) 1 "_law_put_in" ["_law_world_so", "_law_index", "_law_deed_so"] (spP T1 K (ckK K) sp__law_put_in)) (o__law_inside : Ok P w K mg base (CX0) 2 "_law_inside" ["_law_units_so", "_law_near", "_law_far"] (spP T1 K (ckK K) sp__law_inside)) (cdv : Value) (A : Around) (outer : List Env) (s : Shared) (H : Hp) (Fm0 : Fm) (hG0 : A.guards = some []) (tb : ∀ p ∈ tf, TabB base mg (He.cT K p).1 (He.cT K p).2) (ec : cdv = .ref (He.codeOf K ("_law_more_right", none))) (hT : TL K Fm0.T)
    (hr : Room 9 (A.deeper (envOfC "_law_more_right" (defScope s__law_more_right) s.heap.objs.size (He.ga K "_law_more_right") cdv))) : DSs (cxOf CX0 P w K mg base ["_law_state", "_law_units_so", "_law_world_so", "_law_index", "_law_least", "_law_most", "_law_itself", "_law_low", "_law_high", "_law_zeros", "_law_row_here", "_law_far", "_law_due"] "_law_more_right" (defScope s__law_more_right) (He.ga K "_law_more_right") cdv A outer s H E0).nox (ckK K) Fm0 W0 (defBody s__law_more_right) t__law_more_right := by
  have sc := sc__law_more_right
  have hG : (cxOf CX0 P w K mg base ["_law_state", "_law_units_so", "_law_world_so", "_law_index", "_law_least", "_law_most", "_law_itself", "_law_low", "_law_high", "_law_zeros", "_law_row_here", "_law_far", "_law_due"] "_law_more_right" (defScope s__law_more_right) (He.ga K "_law_more_right") cdv A outer s H E0).nox.A.guards = some [] := hG0
  have lf : LamF (cxOf CX0 P w K mg base ["_law_state", "_law_units_so", "_law_world_so", "_law_index", "_law_least", "_law_most", "_law_itself", "_law_low", "_law_high", "_law_zeros", "_law_row_here", "_law_far", "_law_due"] "_law_more_right" (defScope s__law_more_right) (He.ga K "_law_more_right") cdv A outer s H E0).nox Fm0 := lamF_of g (x := "_law_more_right") (by decide) tb (by rw [ec]; rfl) rfl hT
  exact (dss_cons (ds_set (i := 4) sc.nd rfl (.inl rfl) (de_heard (k := 7) g lf (hr.mono (by decide)) (lamS_by rfl) (fun A2 outer2 s2 H2 E2 f2 c2 hr2 => dcX (takes_of rfl rfl rfl rfl) o_least_more hr2 (da_cons (dv 1) (da_cons (dv 2) (da_cons (dv 3) da_nil))))))
    (dss_cons (ds_set (i := 5) sc.nd rfl (.inl rfl) (de_heard (k := 7) g lf (hr.mono (by decide)) (lamS_by rfl) (fun A2 outer2 s2 H2 E2 f2 c2 hr2 => dcX (takes_of rfl rfl rfl rfl) o_most_more hr2 (da_cons (dv 1) (da_cons (dv 2) (da_cons (dv 3) da_nil))))))
    (dss_cons (ds_set (i := 6) sc.nd rfl (.inl rfl) (dc o__law_lives hr (da_cons (dv 1) (da_cons (dv 2) da_nil))))
    (dss_cons (ds_if (dt_w (dw_or (dt_not (dt_val (dcG hG trivial o__law_like hr (da_cons (de_c (cm_eqD hr.units (dv 5) (de_tup (da_cons de_str da_nil)))) (da_cons (de_not (dv 6)) da_nil))))) (dw_or1 (dt_w (dw_and (dt_val (dv 6)) (dw_and1 (dt_c (cm_eqD hr.units (dv 4) (de_tup (da_cons de_str da_nil)))))))))) (dss_one (ds_ret de_bl)) dss_nil)
    (dss_cons (ds_set (i := 7) sc.nd rfl (.inl rfl) (de_if (dt_val (de_is_list rfl (f_isinstance g) rfl (f_list g) (dv 4))) (de_ixN 4 de_int) de_non))
    (dss_cons (ds_set (i := 8) sc.nd rfl (.inl rfl) (de_if (dt_val (de_is_list rfl (f_isinstance g) rfl (f_list g) (dv 5))) (de_ixN 5 de_int) de_non))
    (dss_cons (ds_set (i := 9) sc.nd rfl (.inl rfl) (de_mulT (de_tup (da_cons de_int da_nil)) (de_addI (de_len rfl (f_len g) (dv 1)) de_int)))
    (dss_cons (ds_if (dt_w (dw_and (dt_val (dv 6)) (dw_and1 (dt_c (cm_neD hr.units (dv 7) (dv 9)))))) (dss_one (ds_ret de_bl)) dss_nil)
    (dss_cons (ds_for (PassesOwn.never) rfl (di_list (dcS 0 o__law_rows_near hr (da_cons (dv 1) (da_cons (dv 7) da_nil)))) (dg_name (i := 10) sc.nd rfl (.inl rfl)) (dss_cons (ds_set (i := 11) sc.nd rfl (.inl rfl) (dc o__law_put_in hr (da_cons (dv 2) (da_cons (dv 3) (da_cons (de_tup (da_cons de_str (da_cons (dv 10) da_nil))) da_nil)))))
    (dss_cons (ds_set (i := 12) sc.nd rfl (.inl rfl) (de_and (de_c (cm_notN (dv 7))) (de_one (dc o__law_inside hr (da_cons (dv 1) (da_cons (dv 7) (da_cons (dv 10) da_nil)))))))
    (dss_one (ds_if (dt_not (dt_val (dcG hG trivial o__law_like hr (da_cons (dc o__law_lives hr (da_cons (dv 1) (da_cons (dv 11) da_nil))) (da_cons (dv 12) da_nil))))) (dss_one (ds_ret de_bl)) dss_nil)))))
    (dss_cons (ds_for (PassesOwn.never) rfl (di_list (dcS 0 o__law_rows_near hr (da_cons (dv 1) (da_cons (dv 8) da_nil)))) (dg_name (i := 10) sc.nd rfl (.inl rfl)) (dss_cons (ds_set (i := 11) sc.nd rfl (.inl rfl) (dc o__law_put_in hr (da_cons (dv 2) (da_cons (dv 3) (da_cons (de_tup (da_cons de_str (da_cons (dv 10) da_nil))) da_nil)))))
    (dss_cons (ds_set (i := 12) sc.nd rfl (.inl rfl) (de_and (dv 6) (de_one (de_or (de_c (cm_isN (dv 8))) (de_one (dc o__law_inside hr (da_cons (dv 1) (da_cons (dv 10) (da_cons (dv 8) da_nil)))))))))
    (dss_one (ds_if (dt_not (dt_val (dcG hG trivial o__law_like hr (da_cons (dc o__law_lives hr (da_cons (dv 1) (da_cons (dv 11) da_nil))) (da_cons (dv 12) da_nil))))) (dss_one (ds_ret de_bl)) dss_nil)))))
    (dss_one (ds_ret de_bl))))))))))))
theorem sc__law_by_rows : FnScope ["_law_full", "_law_told", "_law_due"] [] (defScope s__law_by_rows) := ⟨rfl, rfl, rfl, by decide +kernel, rfl, by decide +kernel, by decide +kernel⟩
theorem der__law_by_rows {P : Program} {w : World} {K : PySem.W.Frag} {mg : Str → Option Value} {base : Heap} (g : G K mg) (o_with_deed : Ok P w K mg base (L2.CX P w) 7 "with_deed" ["units", "world", "step", "deed"] (spP T1 K (ckK K) sp_with_deed)) (o_least_more : Ok P w K mg base (L2.CX P w) 7 "least_more" ["units", "world", "step"] (spP T1 K (ckK K) sp_least_more)) (o_most_more : Ok P w K mg base (L2.CX P w) 7 "most_more" ["units", "world", "step"] (spP T1 K (ckK K) sp_most_more)) (o__law_like : OkG P w K mg base 1 "_law_like" ["_law_got", "_law_due"] (spP T1 K (ckK K) sp__law_like)) (cdv : Value) (A : Around) (outer : List Env) (s : Shared) (H : Hp) (Fm0 : Fm) (hG0 : A.guards = some []) (tb : ∀ p ∈ tf, TabB base mg (He.cT K p).1 (He.cT K p).2) (ec : cdv = .ref (He.codeOf K ("_law_by_rows", none))) (hT : TL K Fm0.T)
    (hr : Room 9 (A.deeper (envOfC "_law_by_rows" (defScope s__law_by_rows) s.heap.objs.size (He.ga K "_law_by_rows") cdv))) : DSs (cxOf CX0 P w K mg base ["_law_full", "_law_told", "_law_due"] "_law_by_rows" (defScope s__law_by_rows) (He.ga K "_law_by_rows") cdv A outer s H E0).nox (ckK K) Fm0 W0 (defBody s__law_by_rows) t__law_by_rows := by
  have sc := sc__law_by_rows
  have hG : (cxOf CX0 P w K mg base ["_law_full", "_law_told", "_law_due"] "_law_by_rows" (defScope s__law_by_rows) (He.ga K "_law_by_rows") cdv A outer s H E0).nox.A.guards = some [] := hG0
  have lf : LamF (cxOf CX0 P w K mg base ["_law_full", "_law_told", "_law_due"] "_law_by_rows" (defScope s__law_by_rows) (He.ga K "_law_by_rows") cdv A outer s H E0).nox Fm0 := lamF_of g (x := "_law_by_rows") (by decide) tb (by rw [ec]; rfl) rfl hT
  exact (dss_cons (ds_set (i := 0) sc.nd rfl (.inr rfl) (de_tup (da_cons de_int (da_cons (de_mulT (de_tup (da_cons (de_tup (da_cons de_int (da_cons (de_tup (da_cons de_str da_nil)) (da_cons de_int da_nil)))) da_nil)) de_int) da_nil))))
    (dss_cons (ds_setO (i := 1) sc.nd rfl (.inl rfl) (df_lst (da_cons (de_word (k := 7) g lf (hr.mono (by decide)) (lamS_by rfl) (fun A2 outer2 s2 H2 E2 f2 c2 hr2 => dcX (takes_of rfl rfl rfl rfl) o_with_deed hr2 (da_cons (de_tup (da_cons de_int da_nil)) (da_cons de_non (da_cons de_non (da_cons de_non da_nil)))))) da_nil)))
    (dss_cons (ds_append 1 (de_word (k := 7) g lf (hr.mono (by decide)) (lamS_by rfl) (fun A2 outer2 s2 H2 E2 f2 c2 hr2 => dcX (takes_of rfl rfl rfl rfl) o_least_more hr2 (da_cons (de_tup (da_cons de_int da_nil)) (da_cons de_non (da_cons de_non da_nil))))))
    (dss_cons (ds_append 1 (de_word (k := 7) g lf (hr.mono (by decide)) (lamS_by rfl) (fun A2 outer2 s2 H2 E2 f2 c2 hr2 => dcX (takes_of rfl rfl rfl rfl) o_most_more hr2 (da_cons (de_tup (da_cons de_int da_nil)) (da_cons de_non (da_cons de_non da_nil))))))
    (dss_cons (ds_append 1 (de_word (k := 7) g lf (hr.mono (by decide)) (lamS_by rfl) (fun A2 outer2 s2 H2 E2 f2 c2 hr2 => dcX (takes_of rfl rfl rfl rfl) o_with_deed hr2 (da_cons (de_tup (da_cons de_int da_nil)) (da_cons de_non (da_cons de_non (da_cons de_non da_nil)))))))
    (dss_cons (ds_append 1 (de_word (k := 7) g lf (hr.mono (by decide)) (lamS_by rfl) (fun A2 outer2 s2 H2 E2 f2 c2 hr2 => dcX (takes_of rfl rfl rfl rfl) o_least_more hr2 (da_cons (de_tup (da_cons de_int da_nil)) (da_cons de_non (da_cons de_non da_nil))))))
    (dss_cons (ds_append 1 (de_word (k := 7) g lf (hr.mono (by decide)) (lamS_by rfl) (fun A2 outer2 s2 H2 E2 f2 c2 hr2 => dcX (takes_of rfl rfl rfl rfl) o_most_more hr2 (da_cons (de_tup (da_cons de_int da_nil)) (da_cons de_non (da_cons de_non da_nil))))))
    (dss_cons (ds_append 1 (de_word (k := 7) g lf (hr.mono (by decide)) (lamS_by rfl) (fun A2 outer2 s2 H2 E2 f2 c2 hr2 => dcX (takes_of rfl rfl rfl rfl) o_with_deed hr2 (da_cons (de_tup (da_cons de_int da_nil)) (da_cons (dv 0) (da_cons de_int (da_cons de_non da_nil)))))))
    (dss_cons (ds_append 1 (de_word (k := 7) g lf (hr.mono (by decide)) (lamS_by rfl) (fun A2 outer2 s2 H2 E2 f2 c2 hr2 => dcX (takes_of rfl rfl rfl rfl) o_with_deed hr2 (da_cons (de_tup (da_cons de_int da_nil)) (da_cons (dv 0) (da_cons de_int (da_cons (de_tup (da_cons de_str da_nil)) da_nil)))))))
    (dss_cons (ds_setO (i := 2) sc.nd rfl (.inl rfl) (df_addL (de_fr (df_mulL (de_fr (df_lst (da_cons (de_tup (da_cons de_str (da_cons (de_tup (da_cons de_int da_nil)) da_nil))) da_nil))) de_int)) (de_fr (df_mulL (de_fr (df_lst (da_cons (de_tup (da_cons de_str (da_cons (de_tup da_nil) da_nil))) da_nil))) de_int))))
    (dss_one (ds_ret (dcG hG trivial o__law_like hr (da_cons (dv 1) (da_cons (de_fr (df_addL (dv 2) (de_fr (df_lst (da_cons (de_tup (da_cons de_str (da_cons de_non da_nil))) (da_cons (de_tup (da_cons de_str (da_cons de_int da_nil))) da_nil)))))) da_nil)))))))))))))))
theorem sc_law : FnScope ["_law_script", "_law_state", "_law_lap", "_law_units_so", "_law_world_so", "_law_index", "_law_deed_so", "_law_got", "_law_odd", "_law_told", "_law_wide", "_law_full"] ["_law_script"] (defScope s_law) := ⟨rfl, rfl, rfl, by decide +kernel, rfl, by decide +kernel, by decide +kernel⟩
theorem der_law {P : Program} {w : World} {K : PySem.W.Frag} {mg : Str → Option Value} {base : Heap} (g : G K mg) (o__law_units : Ok P w K mg base (CX0) 3 "_law_units" ["_law_state"] (spS T1 K sp__law_units)) (o__law_some_world : Ok P w K mg base (CX0) 4 "_law_some_world" ["_law_state", "_law_units_so", "_law_places", "_law_many_so", "_law_most"] (spS T1 K sp__law_some_world)) (o__law_draw : Ok P w K mg base (CX0) 2 "_law_draw" ["_law_state", "_law_limit"] (spS T1 K sp__law_draw)) (o__law_row : Ok P w K mg base (CX0) 3 "_law_row" ["_law_state", "_law_units_so", "_law_most"] (spS T1 K sp__law_row)) (o_with_deed : Ok P w K mg base (L2.CX P w) 7 "with_deed" ["units", "world", "step", "deed"] (spP T1 K (ckK K) sp_with_deed)) (o__law_like : OkG P w K mg base 1 "_law_like" ["_law_got", "_law_due"] (spP T1 K (ckK K) sp__law_like)) (o__law_put_in : Ok P w K mg base (CX0) 1 "_law_put_in" ["_law_world_so", "_law_index", "_law_deed_so"] (spP T1 K (ckK K) sp__law_put_in)) (o__law_more_right : OkG P w K mg base 10 "_law_more_right" ["_law_state", "_law_units_so", "_law_world_so", "_law_index"] (spS (TL K) K sp__law_more_right)) (o_least_more : Ok P w K mg base (L2.CX P w) 7 "least_more" ["units", "world", "step"] (spP T1 K (ckK K) sp_least_more)) (o_most_more : Ok P w K mg base (L2.CX P w) 7 "most_more" ["units", "world", "step"] (spP T1 K (ckK K) sp_most_more)) (o__law_by_rows : OkG P w K mg base 10 "_law_by_rows" [] (spP (TL K) K (ckK K) sp__law_by_rows)) (cdv : Value) (A : Around) (outer : List Env) (s : Shared) (H : Hp) (Fm0 : Fm) (hG0 : A.guards = some []) (tb : ∀ p ∈ tf, TabB base mg (He.cT K p).1 (He.cT K p).2) (ec : cdv = .ref (He.codeOf K ("law", none))) (hT : TL K Fm0.T)
    (hr : Room 10 (A.deeper (envOfC "law" (defScope s_law) s.heap.objs.size (He.ga K "law") cdv))) : DSs (cxOf CX0 P w K mg base ["_law_script", "_law_state", "_law_lap", "_law_units_so", "_law_world_so", "_law_index", "_law_deed_so", "_law_got", "_law_odd", "_law_told", "_law_wide", "_law_full"] "law" (defScope s_law) (He.ga K "law") cdv A outer s H E0).nox (ckK K) Fm0 W0 ((defBody s_law).tail) t_law := by
  have sc := sc_law
  have hG : (cxOf CX0 P w K mg base ["_law_script", "_law_state", "_law_lap", "_law_units_so", "_law_world_so", "_law_index", "_law_deed_so", "_law_got", "_law_odd", "_law_told", "_law_wide", "_law_full"] "law" (defScope s_law) (He.ga K "law") cdv A outer s H E0).nox.A.guards = some [] := hG0
  have lf : LamF (cxOf CX0 P w K mg base ["_law_script", "_law_state", "_law_lap", "_law_units_so", "_law_world_so", "_law_index", "_law_deed_so", "_law_got", "_law_odd", "_law_told", "_law_wide", "_law_full"] "law" (defScope s_law) (He.ga K "law") cdv A outer s H E0).nox Fm0 := lamF_of g (x := "law") (by decide) tb (by rw [ec]; rfl) rfl hT
  exact (dss_cons (ds_for (PassesOwn.never) rfl (di_range rfl (f_range g) de_int) (dg_name (i := 2) sc.nd rfl (.inl rfl)) (dss_cons (ds_set (i := 3) sc.nd rfl (.inr rfl) (dcS 1 o__law_units hr da_nil))
    (dss_cons (ds_set (i := 4) sc.nd rfl (.inr rfl) (dcS 1 o__law_some_world hr (da_cons (dv 3) (da_cons de_int (da_cons de_int (da_cons de_int da_nil))))))
    (dss_cons (ds_set (i := 5) sc.nd rfl (.inr rfl) (dcS 1 o__law_draw hr (da_cons (de_len rfl (f_len g) (de_ixN 4 de_int)) da_nil)))
    (dss_cons (ds_set (i := 6) sc.nd rfl (.inl rfl) (de_ix (de_fr (df_lst (da_cons (de_tup (da_cons de_str da_nil)) (da_cons (de_tup (da_cons de_str (da_cons (dcS 1 o__law_row hr (da_cons (dv 3) (da_cons de_int da_nil))) da_nil))) da_nil)))) (dcS 1 o__law_draw hr (da_cons de_int da_nil))))
    (dss_cons (ds_set (i := 7) sc.nd rfl (.inl rfl) (dcL o_with_deed hr (da_cons (dv 3) (da_cons (dv 4) (da_cons (dv 5) (da_cons (dv 6) da_nil))))))
    (dss_cons (ds_if (dt_not (dt_val (dcG hG trivial o__law_like hr (da_cons (dv 7) (da_cons (dc o__law_put_in hr (da_cons (dv 4) (da_cons (dv 5) (da_cons (dv 6) da_nil)))) da_nil))))) (dss_one (ds_ret de_bl)) dss_nil)
    (dss_cons (ds_if (dt_not (dt_val (dcSG 1 hG hT o__law_more_right hr (da_cons (dv 3) (da_cons (dv 4) (da_cons (dv 5) da_nil)))))) (dss_one (ds_ret de_bl)) dss_nil)
    (dss_cons (ds_for (PassesOwn.never) rfl (di_tup (de_tup (da_cons (de_neg de_int) (da_cons (de_len rfl (f_len g) (de_ixN 4 de_int)) (da_cons de_bl (da_cons de_non da_nil)))))) (dg_name (i := 8) sc.nd rfl (.inr rfl)) (dss_cons (ds_setO (i := 9) sc.nd rfl (.inl rfl) (df_lst (da_cons (de_heard (k := 7) g lf (hr.mono (by decide)) (lamS_by rfl) (fun A2 outer2 s2 H2 E2 f2 c2 hr2 => dcX (takes_of rfl rfl rfl rfl) o_least_more hr2 (da_cons (dv 3) (da_cons (dv 4) (da_cons (dv 8) da_nil))))) da_nil)))
    (dss_cons (ds_append 9 (de_heard (k := 7) g lf (hr.mono (by decide)) (lamS_by rfl) (fun A2 outer2 s2 H2 E2 f2 c2 hr2 => dcX (takes_of rfl rfl rfl rfl) o_most_more hr2 (da_cons (dv 3) (da_cons (dv 4) (da_cons (dv 8) da_nil))))))
    (dss_cons (ds_append 9 (de_heard (k := 7) g lf (hr.mono (by decide)) (lamS_by rfl) (fun A2 outer2 s2 H2 E2 f2 c2 hr2 => dcX (takes_of rfl rfl rfl rfl) o_with_deed hr2 (da_cons (dv 3) (da_cons (dv 4) (da_cons (dv 8) (da_cons de_non da_nil)))))))
    (dss_one (ds_if (dt_not (dt_val (dcG hG trivial o__law_like hr (da_cons (dv 9) (da_cons (de_fr (df_mulL (de_fr (df_lst (da_cons (de_tup (da_cons de_str (da_cons (dv 8) da_nil))) da_nil))) de_int)) da_nil))))) (dss_one (ds_ret de_bl)) dss_nil))))))
    (dss_cons (ds_set (i := 8) sc.nd rfl (.inr rfl) (de_ix (de_fr (df_lst (da_cons de_non (da_cons (de_tup (da_cons de_str (da_cons de_int da_nil))) (da_cons (de_tup (da_cons de_str (da_cons (dv 7) da_nil))) (da_cons (de_tup (da_cons de_str (da_cons (de_mulT (de_tup (da_cons de_int da_nil)) de_int) da_nil))) da_nil)))))) (dcS 1 o__law_draw hr (da_cons de_int da_nil))))
    (dss_cons (ds_set (i := 9) sc.nd rfl (.inl rfl) (de_heard (k := 7) g lf (hr.mono (by decide)) (lamS_by rfl) (fun A2 outer2 s2 H2 E2 f2 c2 hr2 => dcX (takes_of rfl rfl rfl rfl) o_with_deed hr2 (da_cons (dv 3) (da_cons (dv 4) (da_cons (dv 5) (da_cons (dv 8) da_nil)))))))
    (dss_cons (ds_if (dt_not (dt_val (dcG hG trivial o__law_like hr (da_cons (dv 9) (da_cons (de_tup (da_cons de_str (da_cons (dv 8) da_nil))) da_nil))))) (dss_one (ds_ret de_bl)) dss_nil)
    (dss_cons (ds_set (i := 10) sc.nd rfl (.inr rfl) (de_tup (da_cons de_int (da_cons (de_ixN 4 de_int) da_nil))))
    (dss_cons (ds_set (i := 11) sc.nd rfl (.inr rfl) (de_tup (da_cons (de_ixN 4 de_int) (da_cons (de_slice (de_mulT (de_ixN 4 de_int) de_int) do_none (do_some de_int)) da_nil))))
    (dss_cons (ds_setO (i := 9) sc.nd rfl (.inl rfl) (df_lst (da_cons (de_heard (k := 7) g lf (hr.mono (by decide)) (lamS_by rfl) (fun A2 outer2 s2 H2 E2 f2 c2 hr2 => dcX (takes_of rfl rfl rfl rfl) o_with_deed hr2 (da_cons (dv 3) (da_cons (dv 10) (da_cons (dv 5) (da_cons (de_tup (da_cons de_str da_nil)) da_nil)))))) da_nil)))
    (dss_cons (ds_append 9 (de_heard (k := 7) g lf (hr.mono (by decide)) (lamS_by rfl) (fun A2 outer2 s2 H2 E2 f2 c2 hr2 => dcX (takes_of rfl rfl rfl rfl) o_with_deed hr2 (da_cons (dv 3) (da_cons (dv 11) (da_cons (dv 5) (da_cons (de_tup (da_cons de_str da_nil)) da_nil)))))))
    (dss_one (ds_if (dt_not (dt_val (dcG hG trivial o__law_like hr (da_cons (dv 9) (da_cons (de_fr (df_lst (da_cons (de_tup (da_cons de_str (da_cons de_int da_nil))) (da_cons (de_tup (da_cons de_str (da_cons de_int da_nil))) da_nil)))) da_nil))))) (dss_one (ds_ret de_bl)) dss_nil))))))))))))))))))
    (dss_one (ds_ret (dcG0 hG hT o__law_by_rows hr))))
end Yd
set_option Elab.async false
set_option linter.all false
set_option maxRecDepth 100000
set_option maxHeartbeats 2000000
/-! # The law's last defs: what the told rows mean -/
namespace Mt
/-- a ring that grows still grows where the step counts more -/
theorem Pl.more {E : Ed} {a b : Nat} {x y : Int} (hy : 0 ≤ y) : ∀ {p q : Nat} {l : List Nat} {s : Int}, Wl (Pl E a x b) p l q s → ∃ t, s ≤ t ∧ Wl (Pl E a (x + y) b) p l q t := by
  intro p q l s w
  induction w with
  | nil p => exact ⟨0, Int.le_refl _, .nil p⟩
  | cons h w ih =>
    obtain ⟨t, ht, wt⟩ := ih
    rcases h with h | ⟨h1, h2, h3⟩
    · exact ⟨_, by omega, .cons (.inl h) wt⟩
    · exact ⟨_, by omega, .cons (.inr ⟨h1, rfl, h3⟩) wt⟩
theorem pr_more {E : Ed} {a b : Nat} {x y : Int} (hy : 0 ≤ y) {p : Nat} (h : PR (Pl E a x b) p) : PR (Pl E a (x + y) b) p := by
  obtain ⟨q, l, s, ⟨l1, s1, r⟩, nl, w, hs⟩ := h
  obtain ⟨t1, _, r'⟩ := Pl.more hy r
  obtain ⟨t, ht, w'⟩ := Pl.more hy w
  exact ⟨q, l, t, ⟨l1, t1, r'⟩, nl, w', by omega⟩
theorem pos_getD {xs : List Int} (h : Pos xs) (k : Nat) : 0 ≤ xs.getD k 0 := by
  rw [List.getD_eq_getElem?_getD]
  cases e : xs[k]? with
  | none => exact Int.le_refl _
  | some x => exact h x (List.mem_of_getElem? e)
/-- what dies of itself dies with more asked -/
theorem dead_ask {us : List Int} {w : Wd} {i : Nat} {s : Stp} (hu : Pos us) (hw : Wok us w) (hs : w.st[i]? = some s) {x : List Int} (hx : Pos x) (h : ¬ Lives us w) : ¬ Lives us (putIn w i s (.ask x)) := fun L => h fun k hk z => by
  rw [ed_whole hs k] at z
  exact L k hk ((put_iff hw hs (.ask x) k).mpr (pr_more (pos_getD (stair_pos hu hx) k) z))
theorem all_of_getD {xs : List Int} {n : Nat} (hl : xs.length = n + 1) {P : Int → Prop} (h : ∀ k ≤ n, P (xs.getD k 0)) : ∀ x ∈ xs, P x := fun x hx => by
  obtain ⟨k, hk, e⟩ := List.mem_iff_getElem.mp hx
  have q := h k (by omega)
  rw [List.getD_eq_getElem?_getD, List.getElem?_eq_getElem hk, e] at q
  exact q
end Mt
namespace Yd
open PySem PySem.Spec PyProof.Rows L2 LamX
open Mt (Deed Stp Wd)
structure LowF (us : List Int) (w : Wd) (k : Nat) (s : Stp) (low : Option (List Int)) : Prop where
  row : ∀ r, low = some r → Rw us.length r
  brg : ∀ x, Rw us.length x → (Mt.Lives us (Mt.putIn w k s (.bring x)) ↔ ∃ r, low = some r ∧ Mt.Le (Mt.stair us r) (Mt.stair us x))
  self : Mt.Lives us w → low = some (Mt.zeros us)
structure HighF (us : List Int) (w : Wd) (k : Nat) (s : Stp) (mo : Option (Option (List Int))) : Prop where
  no : mo = none ↔ ¬ Mt.Lives us w
  row : ∀ r, mo = some (some r) → Rw us.length r
  ask : ∀ x, Rw us.length x → (Mt.Lives us (Mt.putIn w k s (.ask x)) ↔ mo = some none ∨ ∃ r, mo = some (some r) ∧ Mt.Le (Mt.stair us x) (Mt.stair us r))
theorem rw_zeros (us : List Int) : Rw us.length (Mt.zeros us) := ⟨by simp [Mt.zeros], fun x hx => by rw [List.eq_of_mem_replicate hx]; omega⟩
theorem zeros_le {us x : List Int} (hu : Mt.Pos us) (hx : Rw us.length x) : Mt.Le (Mt.stair us (Mt.zeros us)) (Mt.stair us x) := by
  rw [Mt.stair_zero]
  exact Mt.le_zeros (Mt.stair_len hx.1) (Mt.stair_pos hu hx.2)
section
variable {us : List Int} {w : Wd} {k : Nat} {s : Stp}
theorem a_least {Q : PyData → Prop} {R : Ex → Prop} (hW : Wlaw us w) (hs : w.st[k]? = some s) (h : ∀ low, LowF us w k s low → match low with
    | some r => Q (ti r)
    | none => R (.norow, .none)) : sp_least_more [ti us, eW w, .int (k : Nat)] Q R := by
  have hu : Mt.Pos us := fun u hu => by have := hW.sm.un.2 u hu; omega
  refine ⟨_, _, _, rfl, .inr (.inr ⟨us, w, rfl, rfl, hW, .inr ⟨k, s, rfl, hs, fun ⟨j, hj, ho⟩ => h none ?_, fun hno => ⟨fun hf => h (some (Mt.zeros us)) ?_, fun c1 c2 gs hl ht => h (some (Mt.rowOf us (Mt.up us gs))) ?_⟩⟩⟩)⟩
  · exact ⟨fun r e => (nomatch e), fun x hx => ⟨fun L => absurd L (Mt.dead_put hW.sm.ok hs hj ho _), fun ⟨r, e, _⟩ => nomatch e⟩, fun L => absurd L (Mt.dead_self hW.sm.ok hs hj ho)⟩
  · have hl := Mt.lives_apart hW.sm.ok hs hno (by rw [← rch_es, ← rch_es]; exact hf)
    refine ⟨fun r e => by cases e; exact rw_zeros us, fun x hx => ⟨fun _ => ⟨_, rfl, zeros_le hu hx⟩, fun _ => hl.2 _⟩, fun _ => rfl⟩
  · have hl2 := Mt.lives_top hW.sm.ok hs hno (rch_es.mp c1) ht
    have hr : Rw us.length (Mt.rowOf us (Mt.up us gs)) := ⟨Mt.rowOf_len (Mt.up_len hl), Mt.row_up us gs⟩
    refine ⟨fun r e => by cases e; exact hr, fun x hx => ?_, fun L => ?_⟩
    · rw [hl2.2, Mt.bring_iff hl hx.1, Mt.up_le hu hx.2 hl hx.1]
      have e := Mt.stair_row (Mt.up_len hl)
      constructor
      · intro z; exact ⟨_, rfl, by rw [e]; exact z⟩
      · rintro ⟨r, er, z⟩; cases er; rw [e] at z; exact z
    · rw [Mt.row_up_zero (Mt.all_of_getD hl (hl2.1.mp L)) hl]
theorem a_most {Q : PyData → Prop} {R : Ex → Prop} (hW : Wlaw us w) (hs : w.st[k]? = some s) (h : ∀ mo, HighF us w k s mo → match mo with
    | some (some r) => Q (ti r)
    | some none => Q .none
    | none => R (.norow, .none)) : sp_most_more [ti us, eW w, .int (k : Nat)] Q R := by
  have hu : Mt.Pos us := fun u hu => by have := hW.sm.un.2 u hu; omega
  have hu2 : ∀ u ∈ us, 0 < u := fun u hu => by have := hW.sm.un.2 u hu; omega
  have notO : Mt.Lives us w → ∀ j ≤ us.length, ¬ Mt.OthW us w k j := fun L j hj ho => Mt.dead_self hW.sm.ok hs hj ho L
  refine ⟨_, _, _, rfl, .inr (.inr ⟨us, w, rfl, rfl, hW, .inr ⟨k, s, rfl, hs, fun hd => h none ?_, fun L => ⟨fun hf => h (some none) ?_, fun c1 c2 gs hl ht => h (some (some (Mt.rowOf us (Mt.down us (gs.map fun x => -x))))) ?_⟩⟩⟩)⟩
  · exact ⟨⟨fun _ => hd, fun _ => rfl⟩, fun r e => (nomatch e), fun x hx => ⟨fun L => absurd L (Mt.dead_ask hu hW.sm.ok hs hx.2 hd), fun e => by rcases e with e | ⟨r, e, _⟩ <;> cases e⟩⟩
  · have hl := Mt.lives_apart hW.sm.ok hs (notO L) (by rw [← rch_es, ← rch_es]; exact hf)
    exact ⟨⟨fun e => (nomatch e), fun z => absurd L z⟩, fun r e => (nomatch e), fun x hx => ⟨fun _ => .inl rfl, fun _ => hl.2 _⟩⟩
  · have hl2 := Mt.lives_top hW.sm.ok hs (notO L) (rch_es.mp c1) ht
    have hln : (gs.map fun x => -x).length = us.length + 1 := by rw [List.length_map]; exact hl
    have hp : Mt.Pos (gs.map fun x => -x) := fun y hy => by
      obtain ⟨g, hg, rfl⟩ := List.mem_map.mp hy
      have := Mt.all_of_getD (P := fun g => g ≤ 0) hl (hl2.1.mp L) g hg
      omega
    have e := Mt.stair_row (Mt.down_len hln)
    refine ⟨⟨fun e => (nomatch e), fun z => absurd L z⟩, fun r e => by cases e; exact ⟨Mt.rowOf_len (Mt.down_len hln), (Mt.down_pos hu2 hp hln).2⟩, fun x hx => ?_⟩
    rw [hl2.2, Mt.ask_iff hl hx.1, Mt.down_iff hu2 hx.2 hx.1 hln]
    constructor
    · intro z; exact .inr ⟨_, rfl, by rw [e]; exact z⟩
    · rintro (z | ⟨r, er, z⟩)
      · cases z
      · cases er; rw [e] at z; exact z
end
end Yd
set_option Elab.async false
set_option linter.all false
set_option maxRecDepth 100000
set_option maxHeartbeats 2000000
/-! # Readings: the law's last defs -/
namespace Yd
open PySem PySem.Spec PyProof.Rows L2 LamX
open Mt (Deed Stp Wd)
@[simp ↓] theorem r_repr {d : PyData} {Q : PyData → Prop} : kRepr [d] Q = (reprOk d ∧ Q (.str d.shown)) := rfl
@[simp ↓] theorem r_heard {ks : List EK} {tx : RX} {ρ : En} {Q : PyData → En → Prop} : dHeard ks tx ρ Q = tx ρ (fun d ρ' => Q (.list [d]) ρ') (fun x ρ' => x.1 ∈ ks ∧ Q (exD x) ρ') := rfl
theorem pu__law_like (ds : List PyData) (Q : PyData → Prop) (R : Ex → Prop) (h : sp__law_like ds Q R) : t__law_like (defEnds Q fun _ => False) ⟨st0 ["_law_got", "_law_due"] ds, 0⟩ := by
  obtain ⟨d, rfl, hd, hq⟩ := h
  simp [t__law_like]
  exact ⟨hd, hq⟩
theorem q_like {d e : PyData} {Q : PyData → Prop} {R : Ex → Prop} (he : d = e) (hd : reprOk d) (h : Q (.bool true)) : sp__law_like [d, e] Q R := ⟨d, by rw [he], hd, h⟩
theorem q_likeB {a b : Bool} {Q : PyData → Prop} {R : Ex → Prop} (he : a = b) (h : Q (.bool true)) : sp__law_like [.bool a, .bool b] Q R := q_like (by rw [he]) (repr_bool a) h
def lowD : Option (List Int) → PyData
  | some r => .list [ti r]
  | none => exD (.norow, .none)
def moD : Option (Option (List Int)) → PyData
  | some (some r) => .list [ti r]
  | some none => .list [.none]
  | none => exD (.norow, .none)
def rowD : Option (List Int) → PyData
  | some r => ti r
  | none => .none
theorem lay_ti (r : List Int) : (ti r).canLay0 = true := by
  have h : ∀ xs : List Int, PyData.canLayAll0 (xs.map PyData.int) = true := by
    intro xs
    induction xs with
    | nil => rfl
    | cons x xs ih => simp only [List.map_cons, PyData.canLayAll0, PyData.canLay0, ih, Bool.and_self]
  show PyData.canLay0 (.tuple _) = true
  simp only [PyData.canLay0, h]
theorem depth_ti (r : List Int) : (ti r).depth = 1 := by
  have h : ∀ xs : List Int, PyData.depthAll (xs.map PyData.int) = 0 := by
    intro xs
    induction xs with
    | nil => rfl
    | cons x xs ih => simp only [List.map_cons, PyData.depthAll, PyData.depth, ih, Nat.max_self]
  show PyData.depth (.tuple _) = 1
  simp only [PyData.depth, h]
theorem shaped_l1 {d : PyData} (h : d.canLay0 = true) (hd : d.depth ≤ 3) : SeqAt.shaped (.list [d]) = true := by
  unfold SeqAt.shaped
  have h1 : PyData.canLay0 (.list [d]) = true := by simp only [PyData.canLay0, PyData.canLayAll0, h, Bool.and_self]
  have h2 : PyData.depth (.list [d]) ≤ 64 := by simp only [PyData.depth, PyData.depthAll]; omega
  rw [h1, decide_eq_true h2]; rfl
theorem shaped_lti (r : List Int) : SeqAt.shaped (.list [ti r]) = true := shaped_l1 (lay_ti r) (by rw [depth_ti]; omega)
theorem shaped_low (o : Option (List Int)) : SeqAt.shaped (lowD o) = true := by
  cases o with
  | none => decide +kernel
  | some r => exact shaped_lti r
theorem shaped_mo (o : Option (Option (List Int))) : SeqAt.shaped (moD o) = true := by
  cases o with
  | none => decide +kernel
  | some o => cases o with
    | none => decide +kernel
    | some r => exact shaped_lti r
theorem eqv_low (o : Option (List Int)) : PyData.eqv (lowD o) (.tuple [.str "none"]) = decide (o = none) := by
  cases o with
  | none => decide +kernel
  | some r => rfl
theorem eqv_mo (o : Option (Option (List Int))) : PyData.eqv (moD o) (.tuple [.str "none"]) = decide (o = none) := by
  cases o with
  | none => decide +kernel
  | some o => cases o <;> rfl

section
variable {us : List Int} {w : Wd} {k : Nat} {s : Stp}
theorem Wdrawn.sm (h : Wdrawn us w) : Sm us := fun u hu => by have := h.un u hu; omega
theorem Wdrawn.us3 (h : Wdrawn us w) : Usm us := ⟨by have := h.ul; omega, fun u hu => by have := h.un u hu; omega⟩
theorem Wdrawn.wsm (h : Wdrawn us w) : Wsm us w := ⟨h.us3, h.ok, by have := h.n; omega, by have := h.st; omega⟩
theorem Wdrawn.law (h : Wdrawn us w) : Wlaw us w := ⟨h.wsm, by have := h.n; omega, by have := h.st; omega, h.row⟩
theorem Wdrawn.pos (h : Wdrawn us w) : Mt.Pos us := fun u hu => by have := h.un u hu; omega
theorem put_ok (h : Wdrawn us w) (hs : w.st[k]? = some s) {d : Deed} (hd : Mt.Dok us d) : Wsm us (Mt.putIn w k s d) := by
  have hk := (List.getElem?_eq_some_iff.mp hs).1
  obtain ⟨h1, h2, h3⟩ := h.ok.2 s (List.mem_of_getElem? hs)
  have hn := h.n
  have hl := h.st
  refine ⟨h.us3, ⟨Nat.succ_pos _, fun t ht => ?_⟩, by show w.n + 1 ≤ 50; omega, ?_⟩
  · have ht : t ∈ (w.st.take k ++ [⟨s.a, s.d, w.n⟩] ++ w.st.drop (k + 1)) ++ [⟨w.n, d, s.b⟩] := ht
    have old : ∀ t ∈ w.st, t.a < w.n + 1 ∧ t.b < w.n + 1 ∧ Mt.Dok us t.d := fun t ht => by
      obtain ⟨a1, a2, a3⟩ := h.ok.2 t ht
      exact ⟨by omega, by omega, a3⟩
    show t.a < w.n + 1 ∧ t.b < w.n + 1 ∧ Mt.Dok us t.d
    rcases List.mem_append.mp ht with ht | ht
    · rcases List.mem_append.mp ht with ht | ht
      · rcases List.mem_append.mp ht with ht | ht
        · exact old t (List.mem_of_mem_take ht)
        · have e : t = ⟨s.a, s.d, w.n⟩ := by simpa using ht
          subst e
          exact ⟨by show s.a < w.n + 1; omega, Nat.lt_succ_self _, h3⟩
      · exact old t (List.mem_of_mem_drop ht)
    · have e : t = ⟨w.n, d, s.b⟩ := by simpa using ht
      subst e
      exact ⟨Nat.lt_succ_self _, by show s.b < w.n + 1; omega, hd⟩
  · show (((w.st.take k ++ [⟨s.a, s.d, w.n⟩] ++ w.st.drop (k + 1)) ++ [⟨w.n, d, s.b⟩] : List Stp)).length ≤ 100
    simp
    omega
theorem put_eW (d : Deed) : PyData.tuple [.int ((w.n : Int) + 1), .tuple (((w.st.map eS).take k ++ [.tuple [.int (s.a : Int), eD s.d, .int (w.n : Int)]] ++ (w.st.map eS).drop (k + 1)) ++ [.tuple [.int (w.n : Int), eD d, .int (s.b : Int)]])] = eW (Mt.putIn w k s d) := by
  unfold eW Mt.putIn
  simp [eS, List.map_append, List.map_take, List.map_drop]
theorem q_lives {Q : PyData → Prop} {R : Ex → Prop} (W : Wsm us w) (q : ∀ b : Bool, (b = true ↔ Mt.Lives us w) → Q (.bool b)) : sp__law_lives [ti us, eW w] Q R := ⟨us, w, rfl, W, q⟩
theorem q_inside {a b : List Int} {Q : PyData → Prop} {R : Ex → Prop} (h : Wdrawn us w) (ha : a.length = us.length + 1) (hb : b.length = us.length + 1) (q : Q (.bool (leB (Mt.stair us a) (Mt.stair us b)))) : sp__law_inside [ti us, ti a, ti b] Q R :=
  ⟨us, a, b, rfl, by have := h.ul; omega, ha, hb, h.sm, q⟩
theorem q_put {d : Deed} {Q : PyData → Prop} {R : Ex → Prop} (h : Wdrawn us w) (hs : w.st[k]? = some s) (q : Q (eW (Mt.putIn w k s d))) : sp__law_put_in [eW w, .int (k : Nat), eD d] Q R := by
  refine ⟨(w.n : Int), w.st.map eS, k, .int (s.a : Int), eD s.d, .int (s.b : Int), eD d, rfl, by rw [List.getElem?_map, hs]; rfl, by rw [List.length_map]; have := h.st; omega, ?_⟩
  rw [put_eW]; exact q
end

section
variable {us : List Int} {w : Wd} {k : Nat} {s : Stp}

theorem gate {b e : Bool} {S1 S2 T N : Prop} (h : b = true → S1 ∧ S2 ∧ e = true) (t : T) : if b = true then S1 ∧ S2 ∧ (if e = true then T else N) else T := by
  cases b with
  | false => rw [if_neg Bool.false_ne_true]; exact t
  | true =>
    obtain ⟨h1, h2, h3⟩ := h rfl
    rw [if_pos rfl]
    exact ⟨h1, h2, by rw [if_pos h3]; exact t⟩
theorem q_near {low : Option (List Int)} {g : Nat} {Q : PyData → Nat → Prop} (hW : Wdrawn us w) (hr : ∀ x, low = some x → Rw us.length x) (hg : g + 100 ≤ lim) (q : ∀ (rs : List (List Int)) (g' : Nat), (∀ x ∈ rs, Rw us.length x) → g' ≤ g + 100 → Q (.list (rs.map ti)) g') :
    sp__law_rows_near [ti us, rowD low] g Q := ⟨us, low, by cases low <;> rfl, by have := hW.ul; omega, fun u hu => by have := hW.un u hu; omega, hr, hg, fun rs g' _ h1 h2 => q rs g' h1 h2⟩
theorem leB_iff {a b : List Int} : leB a b = true ↔ Mt.Le a b := by
  unfold leB
  exact @decide_eq_true_iff _ (Classical.propDecidable _)
/-- the loops over rows near -/
theorem more_tail {low : Option (List Int)} {mo : Option (Option (List Int))} {b : Bool} {g : Nat} {Q : PyData → Nat → Prop} (hW : Wdrawn us w) (hs : w.st[k]? = some s) (hL : LowF us w k s low) (hH : HighF us w k s mo) (hb : b = true ↔ Mt.Lives us w) (hg : g + 200 ≤ lim)
    (hq : ∀ g', g' ≤ g + 200 → Q (.bool true) g') :
    t__law_more_tail (defEndsS Q) ⟨[.st, .s (ti us), .s (eW w), .s (.int (k : Nat)), .s (lowD low), .s (moD mo), .s (.bool b), .s (rowD low), .s (rowD (mo.getD none)), .u, .u, .u, .u], g⟩ := by
  have hul := hW.ul
  simp [t__law_more_tail]
  refine ⟨by omega, by omega, gate (fun hb' => ?_) ?_⟩
  · have e := hL.self (hb.mp hb')
    subst e
    refine ⟨shaped_ti _, ?_, ?_⟩
    · have q := shaped_ti (Mt.zeros us)
      simpa [Mt.zeros] using q
    · have q := SeqAt.eqv_refl (ti (Mt.zeros us)) (lay_ti _)
      have e : Mt.zeros us = List.replicate (us.length + 1) 0 := rfl
      show PyData.eqv (ti (Mt.zeros us)) _ = true
      rw [e] at q ⊢
      rw [show (PyData.tuple (List.replicate (us.length + 1) (PyData.int 0))) = ti (List.replicate (us.length + 1) 0) from by simp]
      exact q
  · refine q_near hW hL.row (by omega) fun rs g1 hrs hg1 => ?_
    simp
    refine for_ind (fun rest ρ => ∃ (rs' : List (List Int)) (x y z : Sl), rest = rs'.map ti ∧ (∀ r ∈ rs', Rw us.length r) ∧
      ρ = ⟨[.st, .s (ti us), .s (eW w), .s (.int (k : Nat)), .s (lowD low), .s (moD mo), .s (.bool b), .s (rowD low), .s (rowD (mo.getD none)), .s (ti (Mt.zeros us)), x, y, z], g1⟩) ⟨rs, .u, .u, .u, rfl, hrs, by simp [Mt.zeros]⟩ ?_ ?_
    · rintro ρ ⟨rs', x, y, z, e, hr, rfl⟩
      simp
      refine q_near (low := mo.getD none) hW (fun r e => ?_) (by omega) fun rs2 g2 hrs2 hg2 => ?_
      · cases mo with
        | none => cases e
        | some o => cases o with
          | none => cases e
          | some r' => cases e; exact hH.row _ rfl
      simp
      refine for_ind (fun rest ρ => ∃ (rs' : List (List Int)) (x y z : Sl), rest = rs'.map ti ∧ (∀ r ∈ rs', Rw us.length r) ∧
        ρ = ⟨[.st, .s (ti us), .s (eW w), .s (.int (k : Nat)), .s (lowD low), .s (moD mo), .s (.bool b), .s (rowD low), .s (rowD (mo.getD none)), .s (ti (Mt.zeros us)), x, y, z], g2⟩) ⟨rs2, x, y, z, rfl, hrs2, by simp⟩ ?_ ?_
      · rintro ρ ⟨rs3, x, y, z, e, hr, rfl⟩
        simp
        exact hq g2 (by omega)
      · rintro d rest ρ ⟨rs3, x, y, z, e, hr, rfl⟩ N hN
        cases rs3 with
        | nil => cases e
        | cons r rs3 =>
          injection e with e1 e2
          subst e1 e2
          have hr0 := hr r List.mem_cons_self
          simp
          refine q_put (d := .ask r) hW hs ?_
          have nxt : ∀ x y z : Sl, N ⟨[.st, .s (ti us), .s (eW w), .s (.int (k : Nat)), .s (lowD low), .s (moD mo), .s (.bool b), .s (rowD low), .s (rowD (mo.getD none)), .s (ti (Mt.zeros us)), x, y, z], g2⟩ :=
            fun x y z => hN _ ⟨rs3, x, y, z, rfl, fun q hq => hr q (List.mem_cons_of_mem _ hq), rfl⟩
          have hP := put_ok hW hs (d := .ask r) ⟨hr0.1, hr0.2⟩
          have hA := hH.ask r hr0
          cases mo with
          | none =>
            have eb : b = false := by
              cases b with
              | false => rfl
              | true => exact absurd (hb.mp rfl) (hH.no.mp rfl)
            subst eb
            simp
            refine q_lives hP fun b2 hb2 => q_likeB ?_ ?_
            · cases b2 with
              | false => rfl
              | true => rcases hA.mp (hb2.mp rfl) with e | ⟨_, e, _⟩ <;> cases e
            · simp
              exact nxt _ _ _
          | some o =>
            have eb : b = true := hb.mpr (Classical.byContradiction fun z => by have q := hH.no.mpr z; cases q)
            subst eb
            cases o with
            | none =>
              simp [rowD, isNoneD]
              refine q_lives hP fun b2 hb2 => q_likeB ?_ ?_
              · exact hb2.mpr (hA.mpr (.inl rfl))
              · simp
                exact nxt _ _ _
            | some r' =>
              simp [rowD, isNoneD]
              refine q_inside hW hr0.1 (hH.row r' rfl).1 (q_lives hP fun b2 hb2 => q_likeB ?_ ?_)
              · rw [Bool.eq_iff_iff, hb2, leB_iff, hA]
                constructor
                · rintro (e | ⟨_, e, h⟩)
                  · cases e
                  · cases e; exact h
                · intro h; exact .inr ⟨_, rfl, h⟩
              · simp
                exact nxt _ _ _
    · rintro d rest ρ ⟨rs3, x, y, z, e, hr, rfl⟩ N hN
      cases rs3 with
      | nil => cases e
      | cons r rs3 =>
        injection e with e1 e2
        subst e1 e2
        have hr0 := hr r List.mem_cons_self
        simp
        refine q_put (d := .bring r) hW hs ?_
        have nxt : ∀ x y z : Sl, N ⟨[.st, .s (ti us), .s (eW w), .s (.int (k : Nat)), .s (lowD low), .s (moD mo), .s (.bool b), .s (rowD low), .s (rowD (mo.getD none)), .s (ti (Mt.zeros us)), x, y, z], g1⟩ :=
          fun x y z => hN _ ⟨rs3, x, y, z, rfl, fun q hq => hr q (List.mem_cons_of_mem _ hq), rfl⟩
        have hP := put_ok hW hs (d := .bring r) ⟨hr0.1, hr0.2⟩
        have hB := hL.brg r hr0
        cases low with
        | none =>
          simp [rowD, isNoneD]
          refine q_lives hP fun b2 hb2 => q_likeB ?_ ?_
          · cases b2 with
            | false => rfl
            | true =>
              obtain ⟨_, e, _⟩ := hB.mp (hb2.mp rfl)
              cases e
          · simp
            exact nxt _ _ _
        | some r' =>
          simp [rowD, isNoneD]
          refine q_inside hW (hL.row r' rfl).1 hr0.1 (q_lives hP fun b2 hb2 => q_likeB ?_ ?_)
          · rw [Bool.eq_iff_iff, hb2, leB_iff, hB]
            constructor
            · rintro ⟨_, e, h⟩; cases e; exact h
            · intro h; exact ⟨_, rfl, h⟩
          · simp
            exact nxt _ _ _
theorem more_rest {low : Option (List Int)} {mo : Option (Option (List Int))} {g : Nat} {Q : PyData → Nat → Prop} (hW : Wdrawn us w) (hs : w.st[k]? = some s) (hL : LowF us w k s low) (hH : HighF us w k s mo) (hg : g + 200 ≤ lim)
    (hq : ∀ g', g' ≤ g + 200 → Q (.bool true) g') :
    t__law_more_rest (defEndsS Q) ⟨[.st, .s (ti us), .s (eW w), .s (.int (k : Nat)), .s (lowD low), .s (moD mo), .u, .u, .u, .u, .u, .u, .u], g⟩ := by
  simp [t__law_more_rest]
  refine q_lives hW.wsm fun b hb => ?_
  simp
  have tail := fun (l : PyData) (h : PyData) (e1 : l = rowD low) (e2 : h = rowD (mo.getD none)) => by
    have q := more_tail hW hs hL hH hb hg hq
    rw [← e1, ← e2] at q
    exact q
  have nm : SeqAt.shaped (.tuple [.str "none"]) = true := by decide +kernel
  refine ⟨shaped_mo mo, nm, q_likeB ?_ ?_⟩
  · rw [eqv_mo, Bool.eq_iff_iff]
    simp only [decide_eq_true_eq, Bool.not_eq_true']
    rw [hH.no, ← hb]
    cases b <;> simp
  · simp only [r_kB, if_true]
    have fin : ∀ {N : Prop}, if (match lowD low with
          | PyData.list xs => true
          | x => false) = true then kIx (lowD low) (.int 0) fun d => if (match moD mo with
            | PyData.list xs => true
            | x => false) = true then kIx (moD mo) (.int 0) fun d_1 => t__law_more_tail (defEndsS Q) ⟨[.st, .s (ti us), .s (eW w), .s (.int (k : Nat)), .s (lowD low), .s (moD mo), .s (.bool b), .s d, .s d_1, .u, .u, .u, .u], g⟩
          else t__law_more_tail (defEndsS Q) ⟨[.st, .s (ti us), .s (eW w), .s (.int (k : Nat)), .s (lowD low), .s (moD mo), .s (.bool b), .s d, .s .none, .u, .u, .u, .u], g⟩
        else if (match moD mo with
            | PyData.list xs => true
            | x => false) = true then kIx (moD mo) (.int 0) fun d => t__law_more_tail (defEndsS Q) ⟨[.st, .s (ti us), .s (eW w), .s (.int (k : Nat)), .s (lowD low), .s (moD mo), .s (.bool b), .s .none, .s d, .u, .u, .u, .u], g⟩
          else t__law_more_tail (defEndsS Q) ⟨[.st, .s (ti us), .s (eW w), .s (.int (k : Nat)), .s (lowD low), .s (moD mo), .s (.bool b), .s .none, .s .none, .u, .u, .u, .u], g⟩ := by
      intro _
      cases low with
      | none =>
        rw [if_neg (by simp [lowD, exD])]
        cases mo with
        | none => rw [if_neg (by simp [moD, exD])]; exact tail _ _ rfl rfl
        | some o => cases o with
          | none => rw [if_pos (by simp [moD])]; exact ⟨_, rfl, tail _ _ rfl rfl⟩
          | some r => rw [if_pos (by simp [moD])]; exact ⟨_, rfl, tail _ _ rfl rfl⟩
      | some r0 =>
        rw [if_pos (by simp [lowD])]
        refine ⟨_, rfl, ?_⟩
        cases mo with
        | none => rw [if_neg (by simp [moD, exD])]; exact tail _ _ rfl rfl
        | some o => cases o with
          | none => rw [if_pos (by simp [moD])]; exact ⟨_, rfl, tail _ _ rfl rfl⟩
          | some r => rw [if_pos (by simp [moD])]; exact ⟨_, rfl, tail _ _ rfl rfl⟩
    cases b with
    | false =>
      rw [if_neg Bool.false_ne_true]
      exact fin (N := True)
    | true =>
      rw [if_pos rfl, eqv_low, hL.self (hb.mp rfl)]
      refine ⟨shaped_low _, nm, ?_⟩
      rw [if_neg (by simp)]
      have q := fin (N := True)
      rw [hL.self (hb.mp rfl)] at q
      exact q
theorem st_first {ks : List EK} {sp : Spc} {v : RS} {K : Ends2} {a b c : PyData} {g : Nat} (h : sp [a, b, c] (fun d => v K ⟨[.st, .s a, .s b, .s c, .s (.list [d]), .u, .u, .u, .u, .u, .u, .u, .u], g⟩) (fun x => x.1 ∈ ks ∧ v K ⟨[.st, .s a, .s b, .s c, .s (exD x), .u, .u, .u, .u, .u, .u, .u, .u], g⟩)) :
    dSeq (dSet 4 (dHeard ks (dCallX sp (dCons (dVar 1) (dCons (dVar 2) (dCons (dVar 3) dNil)))))) v K ⟨[.st, .s a, .s b, .s c, .u, .u, .u, .u, .u, .u, .u, .u, .u], g⟩ := h
theorem st_second {ks : List EK} {sp : Spc} {v : RS} {K : Ends2} {a b c e : PyData} {g : Nat} (h : sp [a, b, c] (fun d => v K ⟨[.st, .s a, .s b, .s c, .s e, .s (.list [d]), .u, .u, .u, .u, .u, .u, .u], g⟩) (fun x => x.1 ∈ ks ∧ v K ⟨[.st, .s a, .s b, .s c, .s e, .s (exD x), .u, .u, .u, .u, .u, .u, .u], g⟩)) :
    dSeq (dSet 5 (dHeard ks (dCallX sp (dCons (dVar 1) (dCons (dVar 2) (dCons (dVar 3) dNil)))))) v K ⟨[.st, .s a, .s b, .s c, .s e, .u, .u, .u, .u, .u, .u, .u, .u], g⟩ := h
theorem pu__law_more_right (ds : List PyData) (g : Nat) (Q : PyData → Nat → Prop) (h : sp__law_more_right ds g Q) : t__law_more_right (defEndsS Q) ⟨st0S ["_law_state", "_law_units_so", "_law_world_so", "_law_index", "_law_least", "_law_most", "_law_itself", "_law_low", "_law_high", "_law_zeros", "_law_row_here", "_law_far", "_law_due"] ds, g⟩ := by
  obtain ⟨us, w, k, s, rfl, hW, hs, hg, hq⟩ := h
  unfold t__law_more_right
  refine st_first (a_least hW.law hs fun low hL => ?_)
  have most : (dSeq (dSet 5 (dHeard [.norow, .index, .param, .great] (dCallX sp_most_more (dCons (dVar 1) (dCons (dVar 2) (dCons (dVar 3) dNil)))))) t__law_more_rest) (defEndsS Q)
      ⟨[.st, .s (ti us), .s (eW w), .s (.int (k : Nat)), .s (lowD low), .u, .u, .u, .u, .u, .u, .u, .u], g⟩ := by
    refine st_second (a_most hW.law hs fun mo hH => ?_)
    have z := more_rest hW hs hL hH hg hq
    cases mo with
    | none => exact ⟨by simp, z⟩
    | some o => cases o with
      | none => exact z
      | some r => exact z
  cases low with
  | none => exact ⟨by simp, most⟩
  | some r => exact most
end
end Yd
set_option Elab.async false
set_option linter.all false
set_option maxRecDepth 100000
set_option maxHeartbeats 2000000
/-! # Readings: the law's rows by hand -/
namespace Yd
open PySem PySem.Spec PyProof.Rows L2 LamX
open Mt (Deed Stp Wd)
/-- it raises x, whatever is wished -/
def Rz (sp : Spc) (ds : List PyData) (x : Ex) : Prop := ∀ (Q : PyData → Prop) (R : Ex → Prop), R x → sp ds Q R
/-- the arguments are ds, and nothing happens -/
def Av (t : RA) (ρ : En) (ds : List PyData) : Prop := ∀ Q : List PyData → En → Prop, Q ds ρ → t ρ Q
section
variable {ks : List EK} {sp : Spc} {t : RA} {v : RS} {K : Ends2} {s0 : Sl} {told ds : List PyData} {x : Ex}
theorem rows_app (ht : Av t ⟨[s0, .o (.list told), .u], 0⟩ ds) (hz : Rz sp ds x) (hk : x.1 ∈ ks) (hl : told.length ≤ 1000) (h : v K ⟨[s0, .o (.list (told ++ [exD x])), .u], 0⟩) :
    dSeq (dAppend 1 (dHeard ks (dCallX sp t))) v K ⟨[s0, .o (.list told), .u], 0⟩ := ht _ (hz _ _ ⟨hk, hl, h⟩)
theorem rows_one (ht : Av t ⟨[s0, .u, .u], 0⟩ ds) (hz : Rz sp ds x) (hk : x.1 ∈ ks) (h : v K ⟨[s0, .o (.list [exD x]), .u], 0⟩) :
    dSeq (dSetO 1 (dLst (dCons (dHeard ks (dCallX sp t)) dNil))) v K ⟨[s0, .u, .u], 0⟩ := ht _ (hz _ _ ⟨hk, by show 1 ≤ 1000; decide, h⟩)
theorem rows_set {te : RE} {d : PyData} (ht : ∀ Q : PyData → En → Prop, Q d ⟨[.u, .u, .u], 0⟩ → te ⟨[.u, .u, .u], 0⟩ Q) (h : v K ⟨[.s d, .u, .u], 0⟩) : dSeq (dSet 0 te) v K ⟨[.u, .u, .u], 0⟩ := ht _ h
theorem rows_due {te : RE} {a b d : PyData} (ht : ∀ Q : PyData → En → Prop, Q d ⟨[.s a, .o b, .u], 0⟩ → te ⟨[.s a, .o b, .u], 0⟩ Q) (h : v K ⟨[.s a, .o b, .o d], 0⟩) : dSeq (dSetO 2 te) v K ⟨[.s a, .o b, .u], 0⟩ := ht _ h
end
theorem wd_units {u v i d : PyData} (h : okUnits u = false) : Rz sp_with_deed [u, v, i, d] (.units, u) := fun Q R r => ⟨_, _, _, _, rfl, .inl ⟨h, r⟩⟩
theorem wd_none {u i d : PyData} (h : okUnits u = true) : Rz sp_with_deed [u, .none, i, d] (.world, .tuple []) := fun Q R r => ⟨_, _, _, _, rfl, .inr ⟨h, .inl ⟨rfl, r⟩⟩⟩
theorem wd_param {us : List PyData} {v i d : PyData} (h : okUnits (.tuple us) = true) (hv : okWorld us.length v) (hi : isFrom i 0 ((stLen v : Nat) - 1) = true) (hd : isDeed us.length d = false) : Rz sp_with_deed [.tuple us, v, i, d] (.param, d) :=
  fun Q R r => ⟨_, _, _, _, rfl, .inr ⟨h, .inr ⟨us, rfl, hv, .inr ⟨hi, .inl ⟨hd, r⟩⟩⟩⟩⟩
theorem wd_index {us : List PyData} {v i d : PyData} (h : okUnits (.tuple us) = true) (hv : okWorld us.length v) (hi : isFrom i 0 ((stLen v : Nat) - 1) = false) : Rz sp_with_deed [.tuple us, v, i, d] (.index, i) :=
  fun Q R r => ⟨_, _, _, _, rfl, .inr ⟨h, .inr ⟨us, rfl, hv, .inl ⟨hi, r⟩⟩⟩⟩
theorem wd_great8 {us st : List PyData} {d a o b : PyData} {k : Nat} {m : Int} (h : okUnits (.tuple us) = true) (hv : okWorld us.length (.tuple [.int m, .tuple st])) (hi : isFrom (.int (k : Nat)) 0 ((st.length : Nat) - 1) = true) (hd : isDeed us.length d = true) (hk : st[k]? = some (.tuple [a, o, b])) (hm : m + 1 > 8) :
    Rz sp_with_deed [.tuple us, .tuple [.int m, .tuple st], .int (k : Nat), d] (.great, .int 8) := fun Q R r => ⟨_, _, _, _, rfl, .inr ⟨h, .inr ⟨us, rfl, hv, .inr ⟨hi, .inr ⟨hd, m, st, k, a, o, b, rfl, rfl, hk, .inl ⟨hm, r⟩⟩⟩⟩⟩⟩
theorem wd_great14 {us st : List PyData} {d a o b : PyData} {k : Nat} {m : Int} (h : okUnits (.tuple us) = true) (hv : okWorld us.length (.tuple [.int m, .tuple st])) (hi : isFrom (.int (k : Nat)) 0 ((st.length : Nat) - 1) = true) (hd : isDeed us.length d = true) (hk : st[k]? = some (.tuple [a, o, b])) (hm : m + 1 ≤ 8) (hl : st.length + 1 > 14) :
    Rz sp_with_deed [.tuple us, .tuple [.int m, .tuple st], .int (k : Nat), d] (.great, .int 14) := fun Q R r => ⟨_, _, _, _, rfl, .inr ⟨h, .inr ⟨us, rfl, hv, .inr ⟨hi, .inr ⟨hd, m, st, k, a, o, b, rfl, rfl, hk, .inr ⟨hm, .inl ⟨hl, r⟩⟩⟩⟩⟩⟩⟩
theorem lm_units {u v i : PyData} (h : okUnits u = false) : Rz sp_least_more [u, v, i] (.units, u) := fun Q R r => ⟨_, _, _, rfl, .inl ⟨h, r⟩⟩
theorem lm_none {u i : PyData} (h : okUnits u = true) : Rz sp_least_more [u, .none, i] (.world, .tuple []) := fun Q R r => ⟨_, _, _, rfl, .inr (.inl ⟨h, rfl, r⟩)⟩
theorem mm_units {u v i : PyData} (h : okUnits u = false) : Rz sp_most_more [u, v, i] (.units, u) := fun Q R r => ⟨_, _, _, rfl, .inl ⟨h, r⟩⟩
theorem mm_none {u i : PyData} (h : okUnits u = true) : Rz sp_most_more [u, .none, i] (.world, .tuple []) := fun Q R r => ⟨_, _, _, rfl, .inr (.inl ⟨h, rfl, r⟩)⟩
def step0 : PyData := .tuple [.int 0, .tuple [.str "pass"], .int 0]
def full0 : PyData := .tuple [.int 8, .tuple (List.replicate 14 step0)]
theorem full0_ok : okWorld [PyData.int 2].length full0 := ⟨8, List.replicate 14 step0, rfl, by decide, by decide, by decide, fun s hs => by rw [List.eq_of_mem_replicate hs]; decide +kernel⟩
theorem pu__law_by_rows (ds : List PyData) (Q : PyData → Prop) (R : Ex → Prop) (h : sp__law_by_rows ds Q R) : t__law_by_rows (defEnds Q fun _ => False) ⟨st0 ["_law_full", "_law_told", "_law_due"] ds, 0⟩ := by
  obtain ⟨rfl, hq⟩ := h
  have u1 : okUnits (.tuple [.int 1]) = false := by decide +kernel
  have u2 : okUnits (.tuple [.int 2]) = true := by decide +kernel
  unfold t__law_by_rows
  refine rows_set (d := full0) (fun Q h => ?_) ?_
  · simp
    exact h
  refine rows_one (ds := [.tuple [.int 1], .none, .none, .none]) (fun Q h => ?_) (wd_units u1) (by decide) ?_
  · simp; exact h
  refine rows_app (ds := [.tuple [.int 1], .none, .none]) (fun Q h => ?_) (lm_units u1) (by decide) (by decide) ?_
  · simp; exact h
  refine rows_app (ds := [.tuple [.int 1], .none, .none]) (fun Q h => ?_) (mm_units u1) (by decide) (by decide) ?_
  · simp; exact h
  refine rows_app (ds := [.tuple [.int 2], .none, .none, .none]) (fun Q h => ?_) (wd_none u2) (by decide) (by decide) ?_
  · simp; exact h
  refine rows_app (ds := [.tuple [.int 2], .none, .none]) (fun Q h => ?_) (lm_none u2) (by decide) (by decide) ?_
  · simp; exact h
  refine rows_app (ds := [.tuple [.int 2], .none, .none]) (fun Q h => ?_) (mm_none u2) (by decide) (by decide) ?_
  · simp; exact h
  refine rows_app (ds := [.tuple [.int 2], full0, .int 0, .none]) (fun Q h => ?_) (wd_param u2 full0_ok (by decide +kernel) (by decide +kernel)) (by decide) (by decide) ?_
  · simp; exact h
  refine rows_app (ds := [.tuple [.int 2], full0, .int 0, .tuple [.str "pass"]]) (fun Q h => ?_) (wd_great8 (k := 0) (a := .int 0) (o := .tuple [.str "pass"]) (b := .int 0) u2 full0_ok (by decide +kernel) (by decide +kernel) rfl (by decide)) (by decide) (by decide) ?_
  · simp; exact h
  refine rows_due (d := .list [.tuple [.str "units", .tuple [.int 1]], .tuple [.str "units", .tuple [.int 1]], .tuple [.str "units", .tuple [.int 1]], .tuple [.str "world", .tuple []], .tuple [.str "world", .tuple []], .tuple [.str "world", .tuple []]]) (fun Q h => ?_) ?_
  · simp; exact h
  simp
  refine q_like ?_ ?_ hq
  · rfl
  · exact ⟨by decide +kernel, by decide +kernel, by decide +kernel, by decide +kernel, .inl rfl⟩
end Yd
set_option Elab.async false
set_option linter.all false
set_option maxRecDepth 100000
set_option maxHeartbeats 2000000
/-! # Readings: the law's lap -/
namespace Yd
open PySem PySem.Spec PyProof.Rows L2 LamX
open Mt (Deed Stp Wd)
section
variable {i : Nat} {te : RE} {c : RT} {u v w : RS} {K : Ends2} {ρ : En}
theorem st_set' (h : te ρ fun d ρ' => v K (ρ'.put i (.s d))) : dSeq (dSet i te) v K ρ := h
theorem st_if' (h : c ρ fun b ρ1 => if b = true then u { K with nx := v K } ρ1 else w { K with nx := v K } ρ1) : dSeq (dIfS c u w) v K ρ := h
variable {ks : List EK} {sp : Spc} {t : RA} {ds : List PyData} {x : Ex}
/-- name = heard(lambda: ..), which raises -/
theorem lap_set (ht : Av t ρ ds) (hz : Rz sp ds x) (hk : x.1 ∈ ks) (h : v K (ρ.put i (.s (exD x)))) : dSeq (dSet i (dHeard ks (dCallX sp t))) v K ρ := ht _ (hz _ _ ⟨hk, h⟩)
theorem lap_one (ht : Av t ρ ds) (hz : Rz sp ds x) (hk : x.1 ∈ ks) (h : v K (ρ.put i (.o (.list [exD x])))) : dSeq (dSetO i (dLst (dCons (dHeard ks (dCallX sp t)) dNil))) v K ρ := ht _ (hz _ _ ⟨hk, by show 1 ≤ 1000; decide, h⟩)
theorem lap_app {told : List PyData} (ho : ρ.sl[i]? = some (.o (.list told))) (ht : Av t ρ ds) (hz : Rz sp ds x) (hk : x.1 ∈ ks) (hl : told.length ≤ 1000) (h : v K (ρ.put i (.o (.list (told ++ [exD x]))))) : dSeq (dAppend i (dHeard ks (dCallX sp t))) v K ρ := by
  show ownL ρ i fun _ => t ρ _
  unfold ownL
  rw [ho]
  refine ht _ (hz _ _ ⟨hk, ?_⟩)
  show ownL ρ i _
  unfold ownL
  rw [ho]
  exact ⟨hl, h⟩
end
section
variable {us : List Int} {w : Wd} {k : Nat} {s : Stp}
theorem wd_get {d : Deed} {Q : PyData → Prop} {R : Ex → Prop} (hW : Wdrawn us w) (hs : w.st[k]? = some s) (hd : isDeed us.length (eD d) = true) (q : Q (eW (Mt.putIn w k s d))) : sp_with_deed [ti us, eW w, .int (k : Nat), eD d] Q R := by
  have hk := (List.getElem?_eq_some_iff.mp hs).1
  have hn := hW.n
  have hl := hW.st
  refine ⟨_, _, _, _, rfl, .inr ⟨ok_ti hW.us3, .inr ⟨_, rfl, by rw [ti_len]; exact ok_world hW.law, .inr ⟨?_, .inr ⟨by rw [ti_len]; exact hd, (w.n : Nat), w.st.map eS, k, .int (s.a : Nat), eD s.d, .int (s.b : Nat), rfl, rfl, by rw [List.getElem?_map, hs]; rfl, .inr ⟨by omega, .inr ⟨by rw [List.length_map]; omega, ?_⟩⟩⟩⟩⟩⟩⟩
  · rw [stLen_eW]
    simp [isFrom]
    omega
  · rw [put_eW]; exact q
theorem bad_index {i : PyData} (hW : Wdrawn us w) (h : isFrom i 0 ((w.st.length : Nat) - 1) = false) : Rz sp_least_more [ti us, eW w, i] (.index, i) ∧ Rz sp_most_more [ti us, eW w, i] (.index, i) ∧ ∀ d, Rz sp_with_deed [ti us, eW w, i, d] (.index, i) := by
  refine ⟨fun Q R r => ?_, fun Q R r => ?_, fun d => ?_⟩
  · exact ⟨_, _, _, rfl, .inr (.inr ⟨us, w, rfl, rfl, hW.law, .inl ⟨h, r⟩⟩)⟩
  · exact ⟨_, _, _, rfl, .inr (.inr ⟨us, w, rfl, rfl, hW.law, .inl ⟨h, r⟩⟩)⟩
  · exact wd_index (ok_ti hW.us3) (by rw [ti_len]; exact ok_world hW.law) (by rw [stLen_eW]; exact h)
theorem gd_ti {m : Nat} {r : List Int} (hl : r.length ≤ 10) (h : ∀ x ∈ r, 0 ≤ x ∧ x ≤ 10 ^ 60) : Gd (m + 1) 2100 (ti r) := by
  refine gd_tup ((gdl_all (c := 201) fun d hd => ?_).mono (Nat.le_refl _) ?_)
  · obtain ⟨x, hx, rfl⟩ := List.mem_map.mp hd
    have := h x hx
    exact gd_int (by omega)
  · rw [List.length_map]; omega
theorem row_in {n : Nat} {r : List Int} (h : isRow n (ti r) = true) : r.length = n + 1 ∧ ∀ x ∈ r, 0 ≤ x ∧ x ≤ 10 ^ 60 := by
  have h : (decide ((r.map PyData.int).length = n + 1) && (r.map PyData.int).all fun d => isFrom d 0 (10 ^ 60)) = true := h
  rw [Bool.and_eq_true, decide_eq_true_eq, List.length_map] at h
  refine ⟨h.1, fun x hx => ?_⟩
  have q := List.all_eq_true.mp h.2 (.int x) (List.mem_map.mpr ⟨x, hx, rfl⟩)
  have q : (decide (0 ≤ x) && decide (x ≤ 10 ^ 60)) = true := q
  rw [Bool.and_eq_true, decide_eq_true_eq, decide_eq_true_eq] at q
  exact q
theorem gd_eD {n : Nat} (hn : n ≤ 3) {d : Deed} (h : isDeed n (eD d) = true) : Gd 3 2200 (eD d) := by
  cases d with
  | pass => exact (gd_tup (gdl_cons (gd_str (x := "pass") (by decide +kernel)) (gdl_nil (m := 0) (c := 0)))).mono (m := 1) (c := 4 + 1 + 0) (by omega) (by omega)
  | ask r =>
    have h : ((decide (("ask" : Str) = "ask") || decide (("ask" : Str) = "bring")) && isRow n (ti r)) = true := h
    obtain ⟨h1, h2⟩ := row_in (Bool.and_eq_true_iff.mp h).2
    exact (gd_tup (gdl_cons (gd_str (x := "ask") (by decide +kernel)) (gdl_cons (gd_ti (m := 0) (by omega) h2) (gdl_nil (c := 0))))).mono (m := 2) (c := 3 + 1 + (2100 + 1 + 0)) (by omega) (by omega)
  | bring r =>
    have h : ((decide (("bring" : Str) = "ask") || decide (("bring" : Str) = "bring")) && isRow n (ti r)) = true := h
    obtain ⟨h1, h2⟩ := row_in (Bool.and_eq_true_iff.mp h).2
    exact (gd_tup (gdl_cons (gd_str (x := "bring") (by decide +kernel)) (gdl_cons (gd_ti (m := 0) (by omega) h2) (gdl_nil (c := 0))))).mono (m := 2) (c := 5 + 1 + (2100 + 1 + 0)) (by omega) (by omega)
theorem gd_small {m n : Nat} (h : n ≤ 1000) : Gd m 201 (.int (n : Nat)) := gd_int (by
  have : (1000 : Nat) ≤ 10 ^ 60 := by decide
  show ((n : Int)).natAbs ≤ 10 ^ 60
  omega)
theorem gd_eS {n : Nat} (hn : n ≤ 3) {t : Stp} (h : isDeed n (eD t.d) = true) (ha : t.a ≤ 1000) (hb : t.b ≤ 1000) : Gd 4 3000 (eS t) :=
  (gd_tup (gdl_cons ((gd_small ha).mono (m := 3) (Nat.le_refl _) (Nat.le_refl _)) (gdl_cons (gd_eD hn h) (gdl_cons (gd_small hb) (gdl_nil (c := 0)))))).mono (c := 201 + 1 + (2200 + 1 + (201 + 1 + 0))) (by omega) (by omega)
theorem gd_eW {n : Nat} (hn : n ≤ 3) {v : Wd} (hv : v.n ≤ 1000) (hl : v.st.length ≤ 20) (h : ∀ t ∈ v.st, isDeed n (eD t.d) = true ∧ t.a ≤ 1000 ∧ t.b ≤ 1000) : Gd 6 61000 (eW v) := by
  have h1 : Gdl 4 (v.st.length * 3001) (v.st.map eS) := by
    have q := gdl_all (m := 4) (c := 3000) (xs := v.st.map eS) fun d hd => by
      obtain ⟨t, ht, rfl⟩ := List.mem_map.mp hd
      obtain ⟨a1, a2, a3⟩ := h t ht
      exact gd_eS hn a1 a2 a3
    rw [List.length_map] at q
    exact q
  exact (gd_tup (gdl_cons ((gd_small hv).mono (m := 5) (Nat.le_refl _) (Nat.le_refl _)) (gdl_cons (gd_tup h1) (gdl_nil (c := 0))))).mono (by omega) (by omega)
theorem gd_put {d : Deed} (hW : Wdrawn us w) (hs : w.st[k]? = some s) (hd : isDeed us.length (eD d) = true) : Gd 6 61000 (eW (Mt.putIn w k s d)) := by
  have hn := hW.n
  have hl := hW.st
  have hk := (List.getElem?_eq_some_iff.mp hs).1
  refine gd_eW (n := us.length) (by have := hW.ul; omega) (by show w.n + 1 ≤ 1000; omega) ?_ fun t ht => ?_
  · show (((w.st.take k ++ [⟨s.a, s.d, w.n⟩] ++ w.st.drop (k + 1)) ++ [⟨w.n, d, s.b⟩] : List Stp)).length ≤ 20
    simp
    omega
  · have old : ∀ t ∈ w.st, isDeed us.length (eD t.d) = true ∧ t.a ≤ 1000 ∧ t.b ≤ 1000 := fun t ht => by
      obtain ⟨a1, a2, _⟩ := hW.ok.2 t ht
      exact ⟨hW.row t ht, by omega, by omega⟩
    obtain ⟨b1, b2, b3⟩ := old s (List.mem_of_getElem? hs)
    have ht : t ∈ (w.st.take k ++ [⟨s.a, s.d, w.n⟩] ++ w.st.drop (k + 1)) ++ [⟨w.n, d, s.b⟩] := ht
    rcases List.mem_append.mp ht with ht | ht
    · rcases List.mem_append.mp ht with ht | ht
      · rcases List.mem_append.mp ht with ht | ht
        · exact old t (List.mem_of_mem_take ht)
        · have e : t = ⟨s.a, s.d, w.n⟩ := by simpa using ht
          subst e
          exact ⟨b1, b2, by show w.n ≤ 1000; omega⟩
      · exact old t (List.mem_of_mem_drop ht)
    · have e : t = ⟨w.n, d, s.b⟩ := by simpa using ht
      subst e
      exact ⟨hd, by show w.n ≤ 1000; omega, b3⟩
end
section
variable {us : List Int} {w : Wd} {k : Nat} {s : Stp}
/-- the four odd indexes -/
theorem odd_turn {K : Ends2} {g : Nat} {o a2 a6 a7 a9 a10 a11 : Sl} {d : PyData} {kx : PyData} (hW : Wdrawn us w) (hb : isFrom d 0 ((w.st.length : Nat) - 1) = false) (hd : Gd 3 1000 d) (hn : ∀ b9, K.nx ⟨[.u, .st, a2, .s (ti us), .s (eW w), .s kx, a6, a7, .s d, b9, a10, a11], g⟩) :
    t_odd_0 K ⟨[.u, .st, a2, .s (ti us), .s (eW w), .s kx, a6, a7, .s d, a9, a10, a11], g⟩ := by
  obtain ⟨z1, z2, z3⟩ := bad_index hW hb
  unfold t_odd_0
  refine lap_one (ds := [ti us, eW w, d]) (fun Q h => h) z1 (by simp) ?_
  unfold t_odd_1
  refine lap_app (told := [exD (.index, d)]) rfl (ds := [ti us, eW w, d]) (fun Q h => h) z2 (by simp) (by show 1 ≤ 1000; decide) ?_
  unfold t_odd_2
  refine lap_app (told := [exD (.index, d), exD (.index, d)]) rfl (ds := [ti us, eW w, d, .none]) (fun Q h => h) (z3 .none) (by simp) (by show 2 ≤ 1000; decide) ?_
  unfold t_odd_3
  simp
  refine q_like rfl ?_ ?_
  · have h1 : Gd 4 1100 (exD (.index, d)) := (gd_tup (gdl_cons (gd_str (x := "index") (by decide +kernel)) (gdl_cons hd (gdl_nil (c := 0))))).mono (c := 5 + 1 + (1000 + 1 + 0)) (by omega) (by omega)
    exact (gd_lst (gdl_cons h1 (gdl_cons h1 (gdl_cons h1 (gdl_nil (c := 0)))))).repr (by omega) (by omega) rfl
  · simp
    exact hn _
theorem step_more {n : Nat} {m m' : Int} {v : PyData} (h : isStep n m v = true) (hm : m ≤ m') : isStep n m' v = true := by
  unfold isStep at h ⊢
  split at h
  · rename_i a d b
    have mono : ∀ x : PyData, isFrom x 0 (m - 1) = true → isFrom x 0 (m' - 1) = true := fun x hx => by
      cases x with
      | int i =>
        simp only [isFrom, Bool.and_eq_true, decide_eq_true_eq] at hx ⊢
        omega
      | _ => cases hx
    simp only [Bool.and_eq_true] at h ⊢
    exact ⟨mono a h.1, h.2.1, mono b h.2.2⟩
  · cases h
theorem wide_ok (hW : Wdrawn us w) : okWorld us.length (.tuple [.int 8, .tuple (w.st.map eS)]) := by
  have hn := hW.n
  refine ⟨8, _, rfl, by decide, by decide, by rw [List.length_map]; have := hW.st; omega, fun t ht => ?_⟩
  obtain ⟨x, hx, rfl⟩ := List.mem_map.mp ht
  exact step_more (ok_step hW.law hx) (by omega)
def fullS (w : Wd) : List PyData := (List.replicate 14 (w.st.map eS)).flatten.take 14
theorem fullS_len (h : 0 < w.st.length) : (fullS w).length = 14 := by
  unfold fullS
  rw [List.length_take, List.length_flatten, List.map_replicate, List.sum_replicate_nat, List.length_map]
  omega
theorem fullS_at (h : k < w.st.length) (h2 : w.st.length ≤ 14) : (fullS w)[k]? = (w.st.map eS)[k]? := by
  unfold fullS
  rw [List.getElem?_take_of_lt (by omega), List.replicate_succ, List.flatten_cons, List.getElem?_append_left (by rw [List.length_map]; exact h)]
theorem full_ok (hW : Wdrawn us w) (h : 0 < w.st.length) : okWorld us.length (.tuple [.int (w.n : Nat), .tuple (fullS w)]) := by
  have hn := hW.n
  refine ⟨(w.n : Nat), _, rfl, by have := hW.ok.1; omega, by omega, by rw [fullS_len h]; decide, fun t ht => ?_⟩
  obtain ⟨l, hl, ht⟩ := List.mem_flatten.mp (List.mem_of_mem_take ht)
  rw [List.eq_of_mem_replicate hl] at ht
  obtain ⟨x, hx, rfl⟩ := List.mem_map.mp ht
  exact ok_step hW.law hx
end
theorem lap_ok {K : Ends2} {g : Nat} {a2 a3 a4 a5 a6 a7 a8 a9 a10 a11 : Sl} (hg : g + 1000 ≤ lim) (hn : ∀ (g' : Nat) (b2 b3 b4 b5 b6 b7 b8 b9 b10 b11 : Sl), g' ≤ g + 1000 → K.nx ⟨[.u, .st, b2, b3, b4, b5, b6, b7, b8, b9, b10, b11], g'⟩) :
    t_lap_0 K ⟨[.u, .st, a2, a3, a4, a5, a6, a7, a8, a9, a10, a11], g⟩ := by
  unfold t_lap_0
  refine st_set' ⟨rfl, rfl, by show g + 3 ≤ lim; omega, fun us g1 hu1 hu2 hg1 => ?_⟩
  have hg1 : g1 ≤ g + 3 := hg1
  unfold t_lap_1
  refine st_set' ?_
  simp
  refine ⟨us, rfl, hu1, hu2, by omega, fun w g2 hw hn1 hst hst7 hrow hg2 => ?_⟩
  have hW : Wdrawn us w := ⟨hu1, hu2, hw, hn1, hst7, hrow⟩
  unfold t_lap_2
  refine st_set' ?_
  simp [eW]
  refine q_draw (by omega) (by omega) (by omega) fun r hr0 hr1 => ?_
  obtain ⟨k, rfl⟩ : ∃ k : Nat, r = (k : Int) := ⟨r.toNat, by omega⟩
  have hk : k < w.st.length := by omega
  obtain ⟨s, hs⟩ : ∃ s, w.st[k]? = some s := ⟨_, List.getElem?_eq_getElem hk⟩
  have hul : us.length ≤ 3 := by omega
  have hu10 : ∀ u ∈ us, 2 ≤ u ∧ u ≤ 10 := fun u hu => by have := hu2 u hu; omega
  unfold t_lap_3
  refine st_set' ?_
  simp
  refine q_row hul hu10 (by omega) (by omega) fun rw0 g3 hrl hrx hg3 => ?_
  refine q_draw (by omega) (by omega) (by omega) fun r2 h20 h21 => ?_
  have hdeed : ∃ d : Deed, isDeed us.length (eD d) = true ∧ Mt.Dok us d ∧ ∀ Q : PyData → Prop, Q (eD d) → kIx (.list [.tuple [.str "pass"], .tuple [.str "ask", ti rw0]]) (.int r2) Q := by
    rcases (by omega : r2 = 0 ∨ r2 = 1) with rfl | rfl
    · exact ⟨.pass, by show decide (("pass" : Str) = "pass") = true; decide +kernel, trivial, fun Q h => ⟨_, rfl, h⟩⟩
    · refine ⟨.ask rw0, ?_, ⟨hrl, fun x hx => (hrx x hx).1⟩, fun Q h => ⟨_, rfl, h⟩⟩
      show ((decide (("ask" : Str) = "ask") || decide (("ask" : Str) = "bring")) && (decide ((rw0.map PyData.int).length = us.length + 1) && (rw0.map PyData.int).all fun d => isFrom d 0 (10 ^ 60))) = true
      rw [List.length_map, hrl, show (decide (("ask" : Str) = "ask") || decide (("ask" : Str) = "bring")) = true from by decide +kernel, Bool.true_and, decide_eq_true rfl, Bool.true_and, List.all_map, List.all_eq_true]
      intro x hx
      obtain ⟨x0, x1⟩ := hrx x hx
      have big : (1000 : Int) ≤ 10 ^ 60 := by decide
      show (decide (0 ≤ x) && decide (x ≤ 10 ^ 60)) = true
      rw [decide_eq_true x0, decide_eq_true (Int.le_trans x1 big)]; rfl
  obtain ⟨d, hd1, hd2, hd3⟩ := hdeed
  refine hd3 _ ?_
  unfold t_lap_4
  refine st_set' ?_
  simp
  refine wd_get hW hs hd1 ?_
  have hG := gd_put (d := d) hW hs hd1
  unfold t_lap_5
  refine st_if' ?_
  simp
  refine q_put hW hs (q_like rfl (hG.repr (by omega) (by omega) rfl) ?_)
  simp
  unfold t_lap_6
  refine st_if' ?_
  simp
  refine ⟨us, w, k, s, rfl, hW, hs, by omega, fun g4 hg4 => ?_⟩
  simp
  unfold t_lap_7
  simp
  refine for_ind (fun rest ρ => ∃ a8 a9 : Sl, (∀ x ∈ rest, isFrom x 0 ((w.st.length : Nat) - 1) = false ∧ Gd 3 1000 x) ∧
    ρ = ⟨[.u, .st, a2, .s (ti us), .s (eW w), .s (.int (k : Nat)), .s (eD d), .s (eW (Mt.putIn w k s d)), a8, a9, a10, a11], g4⟩) ⟨a8, a9, ?_, by simp [eW]⟩ ?_ ?_
  · intro x hx
    simp only [List.mem_cons, List.not_mem_nil, or_false] at hx
    rcases hx with rfl | rfl | rfl | rfl
    · exact ⟨rfl, (gd_int (by decide)).mono (by omega) (by omega)⟩
    · exact ⟨by simp [isFrom]; omega, (gd_small (by omega)).mono (by omega) (by omega)⟩
    · exact ⟨rfl, gd_bool.mono (by omega) (by omega)⟩
    · exact ⟨rfl, gd_none.mono (by omega) (by omega)⟩
  · rintro ρ ⟨a8, a9, _, rfl⟩
    show t_lap_8 K _
    unfold t_lap_8
    refine st_set' ?_
    simp
    refine q_draw (by omega) (by omega) (by omega) fun r4 h40 h41 => ?_
    have hodd : ∃ o : PyData, isDeed us.length o = false ∧ Gd 7 63000 o ∧ ∀ Q : PyData → Prop, Q o → kIx (.list [.none, .tuple [.str "pass", .int 0], .tuple [.str "give", eW (Mt.putIn w k s d)], .tuple [.str "ask", .tuple (List.replicate 5 (.int 1))]]) (.int r4) Q := by
      rcases (by omega : r4 = 0 ∨ r4 = 1 ∨ r4 = 2 ∨ r4 = 3) with rfl | rfl | rfl | rfl
      · exact ⟨_, rfl, gd_none.mono (m := 0) (c := 0) (by omega) (by omega), fun Q h => ⟨_, rfl, h⟩⟩
      · refine ⟨_, ?_, ?_, fun Q h => ⟨_, rfl, h⟩⟩
        · show ((decide (("pass" : Str) = "ask") || decide (("pass" : Str) = "bring")) && isRow us.length (.int 0)) = false
          rw [show (decide (("pass" : Str) = "ask") || decide (("pass" : Str) = "bring")) = false from by decide +kernel]; rfl
        · exact (gd_tup (gdl_cons (gd_str (x := "pass") (by decide +kernel)) (gdl_cons (gd_int (m := 0) (by decide)) (gdl_nil (c := 0))))).mono (c := 4 + 1 + (201 + 1 + 0)) (by omega) (by omega)
      · refine ⟨_, ?_, ?_, fun Q h => ⟨_, rfl, h⟩⟩
        · show ((decide (("give" : Str) = "ask") || decide (("give" : Str) = "bring")) && isRow us.length (eW (Mt.putIn w k s d))) = false
          rw [show (decide (("give" : Str) = "ask") || decide (("give" : Str) = "bring")) = false from by decide +kernel]; rfl
        · exact (gd_tup (gdl_cons (gd_str (x := "give") (by decide +kernel)) (gdl_cons hG (gdl_nil (c := 0))))).mono (c := 4 + 1 + (61000 + 1 + 0)) (by omega) (by omega)
      · refine ⟨_, ?_, ?_, fun Q h => ⟨_, rfl, h⟩⟩
        · have e : isRow us.length (.tuple (List.replicate 5 (.int 1))) = false := by
            show (decide ((List.replicate 5 (PyData.int 1)).length = us.length + 1) && (List.replicate 5 (PyData.int 1)).all fun d => isFrom d 0 (10 ^ 60)) = false
            rw [decide_eq_false (by rw [List.length_replicate]; omega), Bool.false_and]
          show ((decide (("ask" : Str) = "ask") || decide (("ask" : Str) = "bring")) && isRow us.length (.tuple (List.replicate 5 (.int 1)))) = false
          rw [e, Bool.and_false]
        · exact (gd_tup (gdl_cons (gd_str (x := "ask") (by decide +kernel)) (gdl_cons (gd_ti (m := 0) (r := [1, 1, 1, 1, 1]) (by decide) (fun x hx => by simp at hx; subst hx; decide)) (gdl_nil (c := 0))))).mono (m := 2) (c := 3 + 1 + (2100 + 1 + 0)) (by omega) (by omega)
    obtain ⟨o, ho1, ho2, ho3⟩ := hodd
    refine ho3 _ ?_
    unfold t_lap_9
    refine lap_set (ds := [ti us, eW w, .int (k : Nat), o]) (fun Q h => h) (wd_param (ok_ti hW.us3) (by rw [ti_len]; exact ok_world hW.law) (by rw [stLen_eW]; simp [isFrom]; omega) (by rw [ti_len]; exact ho1)) (by simp) ?_
    unfold t_lap_10
    refine st_if' ?_
    simp
    refine q_like rfl ?_ ?_
    · exact ((gd_tup (gdl_cons (gd_str (x := "parameter") (by decide +kernel)) (gdl_cons ho2 (gdl_nil (c := 0))))).mono (m := 8) (c := 9 + 1 + (63000 + 1 + 0)) (m' := 8) (c' := 70000) (by omega) (by omega)).repr (by omega) (by omega) rfl
    simp
    unfold t_lap_11
    refine st_set' ?_
    simp
    simp [eW]
    unfold t_lap_12
    refine st_set' ?_
    simp [eW, -List.reduceReplicate]
    refine ⟨by intro e; rw [e] at hst; exact absurd hst (by decide), by omega, ?_⟩
    rw [show (14 : Int) = ((14 : Nat) : Int) from rfl, cut_to]
    show t_lap_13 K ⟨[.u, .st, a2, .s (ti us), .s (eW w), .s (.int (k : Nat)), .s (eD d), .s (eW (Mt.putIn w k s d)), .s o, .s (exD (EK.param, o)), .s (.tuple [.int 8, .tuple (w.st.map eS)]), .s (.tuple [.int (w.n : Nat), .tuple (fullS w)])], g4 + 1⟩
    have hpass : isDeed us.length (.tuple [.str "pass"]) = true := by show decide (("pass" : Str) = "pass") = true; decide +kernel
    have hwn := hW.n
    unfold t_lap_13
    refine lap_one (ds := [ti us, .tuple [.int 8, .tuple (w.st.map eS)], .int (k : Nat), .tuple [.str "pass"]]) (x := (.great, .int 8)) (fun Q h => by simp; exact h) (wd_great8 (a := .int (s.a : Nat)) (o := eD s.d) (b := .int (s.b : Nat)) (ok_ti hW.us3) (by rw [ti_len]; exact wide_ok hW) (by rw [List.length_map]; simp [isFrom]; omega) (by rw [ti_len]; exact hpass) (by rw [List.getElem?_map, hs]; rfl) (by decide)) (by simp) ?_
    unfold t_lap_14
    refine lap_app (told := [exD (.great, .int 8)]) rfl (ds := [ti us, .tuple [.int (w.n : Nat), .tuple (fullS w)], .int (k : Nat), .tuple [.str "pass"]]) (x := (.great, .int 14)) (fun Q h => by simp; exact h) (wd_great14 (a := .int (s.a : Nat)) (o := eD s.d) (b := .int (s.b : Nat)) (ok_ti hW.us3) (by rw [ti_len]; exact full_ok hW hst) (by rw [fullS_len hst]; simp [isFrom]; omega) (by rw [ti_len]; exact hpass) (by rw [fullS_at hk (by omega), List.getElem?_map, hs]; rfl) (by omega) (by rw [fullS_len hst]; decide)) (by simp) (by show 1 ≤ 1000; decide) ?_
    unfold t_lap_15
    simp
    refine q_like rfl ?_ ?_
    · have h1 : ∀ n : Int, n.natAbs ≤ 10 ^ 60 → Gd 3 300 (exD (.great, .int n)) := fun n hn => (gd_tup (gdl_cons (gd_str (x := "great") (by decide +kernel)) (gdl_cons ((gd_int hn).mono (m' := 2) (Nat.zero_le _) (Nat.le_refl _)) (gdl_nil (c := 0))))).mono (c := 5 + 1 + (201 + 1 + 0)) (by omega) (by omega)
      exact (gd_lst (gdl_cons (h1 8 (by decide)) (gdl_cons (h1 14 (by decide)) (gdl_nil (c := 0))))).repr (by omega) (by omega) rfl
    simp
    exact hn _ _ _ _ _ _ _ _ _ _ _ (by omega)
  · rintro x rest ρ ⟨a8, a9, hx, rfl⟩ N hN
    obtain ⟨h1, h2⟩ := hx x List.mem_cons_self
    simp
    exact odd_turn (o := .u) hW h1 h2 fun b9 => hN _ ⟨_, _, fun y hy => hx y (List.mem_cons_of_mem _ hy), rfl⟩
end Yd
set_option Elab.async false
set_option linter.all false
set_option maxRecDepth 100000
set_option maxHeartbeats 2000000
/-! # Readings: the law -/
namespace Yd
open PySem PySem.Spec PyProof.Rows L2 LamX
theorem pu_law {K : Ends2} (h : ∀ ρ, K.rt (.bool true) ρ) : t_law K ⟨[.u, .st, .u, .u, .u, .u, .u, .u, .u, .u, .u, .u], 0⟩ := by
  unfold t_law
  simp
  refine for_ind (fun rest ρ => ∃ (g : Nat) (b2 b3 b4 b5 b6 b7 b8 b9 b10 b11 : Sl), g + 1000 * rest.length ≤ 2000 ∧ ρ = ⟨[.u, .st, b2, b3, b4, b5, b6, b7, b8, b9, b10, b11], g⟩) ⟨0, .u, .u, .u, .u, .u, .u, .u, .u, .u, .u, by decide, rfl⟩ ?_ ?_
  · rintro ρ ⟨g, b2, b3, b4, b5, b6, b7, b8, b9, b10, b11, _, rfl⟩
    simp
    exact ⟨rfl, h _⟩
  · rintro x rest ρ ⟨g, b2, b3, b4, b5, b6, b7, b8, b9, b10, b11, hg, rfl⟩ N hN
    rw [List.length_cons] at hg
    simp
    refine lap_ok (Nat.le_trans (by omega : g + 1000 ≤ 2000) (by decide)) fun g' b2 b3 b4 b5 b6 b7 b8 b9 b10 b11 hg' => hN _ ⟨g', b2, b3, b4, b5, b6, b7, b8, b9, b10, b11, by omega, rfl⟩
end Yd
set_option Elab.async false
set_option linter.all false
set_option maxRecDepth 100000
set_option maxHeartbeats 2000000
/-! # By hand: the law's draws -/
namespace Yd
open PySem PySem.Spec PyProof.Rows L2 LamX
section
variable {T : List (Addr × Str)} {S L : Addr} {Hs H Hs1 H1 Hs2 H2 : Hp}
theorem GrowS.refl (hs : Same Hs H) (nt : NoTb Hs) (ht : Tabs T H) : GrowS T S L Hs H Hs H := ⟨fun _ _ h _ _ _ => h, Same.refl _, hs, nt, fun _ _ => rfl, ht⟩
theorem tabs_upd {a : Addr} {o o' : HO} (t : Tabs T H) (ha : H a = some o) (n1 : ∀ ps, o ≠ .tbl ps) (n2 : ∀ c q, o ≠ CodeO c q) : Tabs T (upd H a o') := fun p hp => by
  obtain ⟨ps, h1, h2, h3⟩ := t p hp
  have z : p.1 ≠ a := fun e => by rw [e, ha] at h1; exact n1 ps (Option.some.inj h1)
  refine ⟨ps, by rw [upd_ne z]; exact h1, h2, fun pos cv hc => ?_⟩
  obtain ⟨c, e1, e2⟩ := h3 pos cv hc
  have z2 : c ≠ a := fun e => by rw [e, ha] at e2; exact n2 _ _ (Option.some.inj e2)
  exact ⟨c, e1, by rw [upd_ne z2]; exact e2⟩
theorem GrowS.upd {a : Addr} {o o' : HO} (g : GrowS T S L Hs H Hs1 H1) (e : a = S ∨ a = L) (ha : H1 a = some o) (n1 : ∀ ps, o ≠ .tbl ps) (n2 : ∀ c q, o ≠ CodeO c q) (hn : Hs1 a = none) : GrowS T S L Hs H Hs1 (L2.upd H1 a o') where
  ext := fun b u h n s l => by
    have z : b ≠ a := by rcases e with rfl | rfl <;> assumption
    rw [upd_ne z]; exact g.ext b u h n s l
  shr := g.shr
  sub := fun b u h => by
    have z : b ≠ a := fun e => by rw [e, hn] at h; cases h
    rw [upd_ne z]; exact g.sub b u h
  ntb := g.ntb
  old := g.old
  tab := tabs_upd g.tab ha n1 n2
theorem GrowS.grow (a : GrowS T S L Hs H Hs1 H1) (b : Grow T Hs1 H1 Hs2 H2) (oS : Old H1 S) (oL : Old H1 L) : GrowS T S L Hs H Hs2 H2 where
  ext := fun x o h n s l => b.ext x o (a.ext x o h n s l) n
  shr := a.shr.trans b.shr
  sub := b.sub
  ntb := b.ntb
  old := fun x h => by
    by_cases z1 : x = S
    · subst z1; exact (b.old x oS).trans (a.old x h)
    · by_cases z2 : x = L
      · subst z2; exact (b.old x oL).trans (a.old x h)
      · obtain ⟨o, h0, n⟩ := h
        exact (b.old x ⟨o, a.ext x o h0 n z1 z2, n⟩).trans (a.old x ⟨o, h0, n⟩)
  tab := b.tab
end
/-- the state's object -/
abbrev stD (C L : Addr) (n : Int) : HO := .dK [(.inr "cells", .ref C), (.inr "lefts", .ref L), (.inr "at", .int n)]
section
variable {C L : Addr} {n m : Int}
theorem ne_ck : ¬ (Sum.inr "cells" : Key) = (Sum.inr "at" : Key) := by decide +kernel
theorem ne_lk : ¬ (Sum.inr "lefts" : Key) = (Sum.inr "at" : Key) := by decide +kernel
theorem ne_cl : ¬ (Sum.inr "cells" : Key) = (Sum.inr "lefts" : Key) := by decide +kernel
theorem st_at : valV [((.inr "cells" : Key), V.ref C), (.inr "lefts", .ref L), (.inr "at", .int n)] (.inr "at") = some (.int n) := by
  rw [valV_neg ne_ck, valV_neg ne_lk, valV_pos rfl]
theorem st_lefts : valV [((.inr "cells" : Key), V.ref C), (.inr "lefts", .ref L), (.inr "at", .int n)] (.inr "lefts") = some (.ref L) := by
  rw [valV_neg ne_cl, valV_pos rfl]
theorem st_cells : valV [((.inr "cells" : Key), V.ref C), (.inr "lefts", .ref L), (.inr "at", .int n)] (.inr "cells") = some (.ref C) := by
  rw [valV_pos rfl]
theorem st_put : putK [((.inr "cells" : Key), V.ref C), (.inr "lefts", .ref L), (.inr "at", .int n)] (.inr "at") (.int m) = [(.inr "cells", .ref C), (.inr "lefts", .ref L), (.inr "at", .int m)] := by
  unfold putK
  rw [if_pos (by simp)]
  simp only [List.map_cons, List.map_nil, if_neg ne_ck, if_neg ne_lk, if_true]
end
section
variable {X : Cx} {k j : Nat} {ps : List Str} {sp : Sp} {x : Str} {p pos : Pos} {e : Expr} {es : List Expr} {t : TA}
theorem pe_ok (o : Ok X.prog X.w X.K X.mg X.base CX0 j x ps sp) (hr : Room k X.A) (ha : PA X (e :: es) t) (hjk : j ≤ k := by decide) (hg : Gl X x := by rfl)
    (hdb : (x == ("__debug__" : Str)) = false := by decide) (he : starEach (e :: es) X.env = (false, eval e X.env) :: starEach es X.env := by rfl) (hpl : (backTo pos (starEach es X.env)).any (·.1) = false := by rfl) :
    PE X (.Call (.Name x p) (e :: es) [] pos) (tCall sp [] E0 t) := by
  obtain ⟨⟨fd, Fn, hb⟩, kp, at_⟩ := o
  exact pe_call (dvs := []) Fn (hr.mono hjk) hg at_ kp hb .nil pass0 ha hdb he hpl
end
theorem get_at {H : Hp} {S C L : Addr} {n : Int} (h : H S = some (stD C L n)) : DGet H S (.str "at") (some (.int n)) := by
  have q := DGet.k (k := (.inr "at" : Key)) h
  rw [st_at] at q; exact q
theorem get_lefts {H : Hp} {S C L : Addr} {n : Int} (h : H S = some (stD C L n)) : DGet H S (.str "lefts") (some (.ref L)) := by
  have q := DGet.k (k := (.inr "lefts" : Key)) h
  rw [st_lefts] at q; exact q
theorem get_cells {H : Hp} {S C L : Addr} {n : Int} (h : H S = some (stD C L n)) : DGet H S (.str "cells") (some (.ref C)) := by
  have q := DGet.k (k := (.inr "cells" : Key)) h
  rw [st_cells] at q; exact q
theorem put_at {H : Hp} {S C L : Addr} {n m : Int} (h : H S = some (stD C L n)) : DPut H S (.str "at") (.int m) (upd H S (stD C L m)) := by
  have q := DPut.k (k := (.inr "at" : Key)) (v := .int m) h (by rw [sizeLine_eq]; show 3 < 16777216; decide)
  rw [st_put] at q; exact q
theorem mod_pl {i : Int} {n : Nat} (h : 0 < n) : (i % (n : Int)).toNat < n ∧ (((i % (n : Int)).toNat : Nat) : Int) = i % (n : Int) := by
  have h1 : 0 ≤ i % (n : Int) := Int.emod_nonneg i (by omega)
  have h2 : i % (n : Int) < (n : Int) := Int.emod_lt_of_pos i (by omega)
  exact ⟨by omega, Int.toNat_of_nonneg h1⟩
theorem mixed_call {T : List (Addr × Str)} {Hs1 H1 : Hp} {K : PySem.W.Frag} {ck : EK → Addr} {c k : Int} {Q : VK} (hs : Same Hs1 H1) (nt : NoTb Hs1) (ht : Tabs T H1) (h0 : 0 ≤ k) (h1 : k < 2 ^ 62) (q : ∀ (r : Int) (Hs2 H2 : Hp), Grow T Hs1 H1 Hs2 H2 → Q (.int r) H2) : spP T1 K ck sp__law_mixed [.int c, .int k] H1 Q E0 :=
  ⟨T, Hs1, [.int c, .int k], fun d => ∃ r, d = .int r, fun _ => False, trivial, hs, nt, ht, .cons (.int c) (.cons (.int k) .nil), ⟨c, k, rfl, h0, h1, fun r => ⟨r, rfl⟩⟩, fun d ⟨r, e⟩ v Hs' H' gr iv => by subst e; cases iv; exact q r Hs' H' gr, fun _ z => z.elim⟩
theorem sc__law_draw : FnScope ["_law_state", "_law_limit", "_law_at", "_law_place", "_law_left", "_law_number"] ["_law_state", "_law_limit"] (defScope s__law_draw) := ⟨rfl, rfl, rfl, by decide +kernel, rfl, by decide +kernel, by decide +kernel⟩
theorem ok__law_draw {P : Program} {w : World} {K : PySem.W.Frag} {mg : Str → Option Value} {base : Heap} (g : G K mg) (o__law_mixed : Ok P w K mg base CX0 1 "_law_mixed" ["_law_cell", "_law_k"] (spP T1 K (ckK K) sp__law_mixed)) :
    Ok P w K mg base CX0 2 "_law_draw" ["_law_state", "_law_limit"] (spS T1 K sp__law_draw) := by
  obtain ⟨fd, Fn⟩ := d__law_draw g
  refine ⟨⟨fd, Fn.ok sc__law_draw ?_ fun cdv A outer s H vs Q E hr ⟨T, Hs, S, C, L, gn, ws, ds, Q2, _, ev, hs, nt, ht, iv, so, hn, ⟨l, eds, l0, l1, hgl, hq2⟩, hq⟩ => ?_, ?_⟩, Fn.kp, ?_⟩
  · rintro vs H Q E ⟨T, Hs, S, C, L, gn, ws, ds, Q2, _, ev, _, _, _, iv, _, _, ⟨l, eds, _⟩, _⟩
    subst eds
    rw [ev, List.length_cons, iv.length]; rfl
  · have sc := sc__law_draw
    refine ⟨_, pss_cons (ps_set (i := 2) sc.nd rfl (.inl rfl) (pe_dget (hu_of hr) (pv 0) pe_str fun _ _ => rfl))
      (pss_cons (ps_dput (hu_of hr) (pv 0) pe_str (pe_op op_add (pv 2) pe_int) rfl)
      (pss_cons (ps_set (i := 3) sc.nd rfl (.inl rfl) (pe_op op_mod (pe_callTy call_int1 rfl (f_int g) PyProof.Rows.boot_int (pa_cons (pv 2) pa_nil)) (pe_callB call_len rfl (f_len g) boot_len (pa_cons (pe_dget (hu_of hr) (pv 0) pe_str fun _ _ => rfl) pa_nil))))
      (pss_cons (ps_set (i := 4) sc.nd rfl (.inl rfl) (pe_ix ix_seq (pe_dget (hu_of hr) (pv 0) pe_str fun _ _ => rfl) (pv 3) fun _ _ => rfl))
      (pss_cons (ps_if (pt_cmp (pc_gt (pv 4) pe_int)) (pss_cons (ps_asg (pe_op op_fdiv (pv 4) (pv 1)) (pg_sub (pe_dget (hu_of hr) (pv 0) pe_str fun _ _ => rfl) (pv 3) set_list)) (pss_one (ps_ret (pe_op op_mod (pe_callTy call_int1 rfl (f_int g) PyProof.Rows.boot_int (pa_cons (pv 4) pa_nil)) (pv 1))))) pss_nil)
      (pss_cons (ps_set (i := 5) sc.nd rfl (.inl rfl) (pe_ok o__law_mixed hr (pa_cons (pe_ok o__law_mixed hr (pa_cons (pe_ix ix_seq (pe_dget (hu_of hr) (pv 0) pe_str fun _ _ => rfl) (pv 3) fun _ _ => rfl) (pa_cons (pv 2) pa_nil))) (pa_cons (pe_op op_add pe_int (pv 2)) pa_nil))))
      (pss_one (ps_ret (pe_op op_mod (pe_op op_fdiv (pe_callTy call_int1 rfl (f_int g) PyProof.Rows.boot_int (pa_cons (pe_op op_add (pe_op op_mul (pv 5) pe_int) (pe_ok o__law_mixed hr (pa_cons (pv 5) (pa_cons (pe_op op_add pe_int (pv 2)) pa_nil)))) pa_nil)) pe_int) (pv 1))))))))), ?_⟩
    subst ev
    subst eds
    obtain ⟨hS, cs, ls, hC, hL, hcs, hls⟩ := so
    obtain ⟨n1, n2, n3⟩ := hn
    have eS : ws = [V.int l] := IsL.ints (ns := [l]) iv
    subst eS
    have hSC : C ≠ S := fun e => by rw [e, hS] at hC; cases hC
    have hSL : L ≠ S := fun e => by rw [e, hS] at hL; cases hL
    refine ⟨.ref S, rfl, S, .int gn, rfl, get_at hS, ?_⟩
    refine ⟨.int gn, rfl, gn, 1, rfl, rfl, .ref S, rfl, S, _, rfl, put_at hS, ?_⟩
    have hS1 : upd H S (stD C L ((gn : Int) + 1)) S = some (stD C L ((gn : Int) + 1)) := upd_same
    have hC1 : upd H S (stD C L ((gn : Int) + 1)) C = some (.lst (cs.map V.int)) := by rw [upd_ne hSC]; exact hC
    have hL1 : upd H S (stD C L ((gn : Int) + 1)) L = some (.lst (ls.map V.int)) := by rw [upd_ne hSL]; exact hL
    have G1 : GrowS T S L Hs H Hs (upd H S (stD C L ((gn : Int) + 1))) := (GrowS.refl hs nt ht).upd (.inl rfl) hS (fun _ z => nomatch z) (fun _ _ z => nomatch z) n1
    generalize hH1 : upd H S (stD C L ((gn : Int) + 1)) = H1 at hS1 hC1 hL1 G1
    have hp : 0 < (cs.map V.int).length := by rw [List.length_map]; exact hcs
    obtain ⟨p1, p2⟩ := mod_pl (i := (gn : Int)) hp
    refine ⟨.int gn, rfl, .inl ⟨gn, rfl, .ref S, rfl, S, .ref C, rfl, get_cells hS1, .ref C, (cs.map V.int).length, rfl, .inl ⟨_, .inl (.inl hC1), rfl⟩, gn, ((cs.map V.int).length : Nat), rfl, rfl, by omega, ?_⟩⟩
    show tSeq _ _ _ ((([some (V.ref S), some (V.int l), some (V.int gn), none, none, none] : L2.St)).set 3 (some (V.int ((gn : Int) % ((cs.map V.int).length : Nat))))) H1
    rw [← p2]
    generalize hj : ((gn : Int) % ((cs.map V.int).length : Nat)).toNat = j at p1
    rw [List.length_map] at p1
    have hjl : j < ls.length := by omega
    refine ⟨.ref S, rfl, S, .ref L, rfl, get_lefts hS1, .int (j : Nat), rfl, .inl ⟨L, ls.map V.int, (j : Nat), .int ls[j], rfl, rfl, .inl (.inl hL1), L2.atI_nat (by rw [List.getElem?_map, List.getElem?_eq_getElem hjl]; rfl), ?_⟩⟩
    refine ⟨.int ls[j], rfl, ls[j], 0, rfl, rfl, _, rfl, if_of (fun hpos => ?_) fun _ => ?_⟩
    · refine ⟨.int ls[j], rfl, .int l, rfl, ls[j], l, rfl, rfl, ⟨l0, by omega⟩, .ref S, rfl, S, .ref L, rfl, get_lefts hS1, .int (j : Nat), rfl, L, ls.map V.int, (j : Nat), j, rfl, rfl, hL1, ?_, ?_⟩
      · rw [List.length_map]
        unfold ixN
        rw [if_pos (by omega), if_pos (by omega)]
        all_goals rfl
      · refine ⟨.int ls[j], rfl, .inl ⟨ls[j], rfl, .int l, rfl, ls[j], l, rfl, rfl, l0, ?_⟩⟩
        refine hq (.int (ls[j] % l)) (gn + 1) (hq2 _ (Int.emod_nonneg _ (by omega)) (Int.emod_lt_of_pos _ l0)) _ Hs _ (G1.upd (.inr rfl) hL1 (fun _ z => nomatch z) (fun _ _ z => nomatch z) n3) ?_ (.int _)
        have e : (ls.map V.int).set j (.int (ls[j] / l)) = (ls.set j (ls[j] / l)).map V.int := by rw [List.map_set]
        refine ⟨by rw [upd_ne hSL.symm]; exact hS1, ?_⟩
        by_cases hCL : C = L
        · subst hCL
          exact ⟨ls.set j (ls[j] / l), ls.set j (ls[j] / l), by rw [upd_same]; exact congrArg (fun z => some (HO.lst z)) e, by rw [upd_same]; exact congrArg (fun z => some (HO.lst z)) e, by rw [List.length_set]; omega, rfl⟩
        · exact ⟨cs, ls.set j (ls[j] / l), by rw [upd_ne hCL]; exact hC1, by rw [upd_same]; exact congrArg (fun z => some (HO.lst z)) e, hcs, by rw [List.length_set]; exact hls⟩
    · have hg : gn + 1 ≤ 2 ^ 40 := Nat.le_trans hgl (by decide)
      refine ⟨.ref S, rfl, S, .ref C, rfl, get_cells hS1, .int (j : Nat), rfl, .inl ⟨C, cs.map V.int, (j : Nat), .int cs[j], rfl, rfl, .inl (.inl hC1), L2.atI_nat (by rw [List.getElem?_map, List.getElem?_eq_getElem p1]; rfl), .int gn, rfl, ?_⟩⟩
      have o1 : Old H1 S := ⟨_, hS1, fun _ z => nomatch z⟩
      have o2 : Old H1 L := ⟨_, hL1, fun _ z => nomatch z⟩
      refine mixed_call G1.sub G1.ntb G1.tab (by omega) (by omega) fun r1 Hs2 H2 g2 => ?_
      have o3 := ExtN.old g2.ext o1
      have o4 := ExtN.old g2.ext o2
      refine ⟨.int gn, rfl, 40, gn, rfl, rfl, mixed_call g2.sub g2.ntb g2.tab (by omega) (by omega) fun r2 Hs3 H3 g3 => ?_⟩
      have o5 := ExtN.old g3.ext o3
      have o6 := ExtN.old g3.ext o4
      refine ⟨.int r2, rfl, r2, 2147483647, rfl, rfl, .inr ⟨by decide, by decide⟩, .int r2, rfl, .int gn, rfl, 7, gn, rfl, rfl, mixed_call g3.sub g3.ntb g3.tab (by omega) (by omega) fun r3 Hs4 H4 g4 => ?_⟩
      refine ⟨_, r3, rfl, rfl, .inl ⟨_, rfl, _, 64, rfl, rfl, ⟨by decide, by decide⟩, .int l, rfl, _, l, rfl, rfl, l0, ?_⟩⟩
      have G4 : GrowS T S L Hs H Hs4 H4 := ((G1.grow g2 o1 o2).grow g3 o3 o4).grow g4 o5 o6
      refine hq (.int _) (gn + 1) (hq2 _ (Int.emod_nonneg _ (by omega)) (Int.emod_lt_of_pos _ l0)) _ Hs4 H4 G4 ?_ (.int _)
      exact StOk.ext g4.ext (StOk.ext g3.ext (StOk.ext g2.ext ⟨hS1, cs, ls, hC1, hL1, hcs, hls⟩))
  · exact Fn.binds fun _ _ _ _ _ _ us hl => match us, hl with | [_, _], _ => rfl
  · exact g__law_draw g
end Yd
set_option Elab.async false
set_option linter.all false
set_option maxRecDepth 100000
set_option maxHeartbeats 2000000
/-! # By hand: the draws' beginning -/
namespace Yd
open PySem PySem.Spec PyProof.Rows L2 LamX
def spBegin (K : PySem.W.Frag) : Sp := fun vs H Q _ => ∃ (a : Addr) (ns : List Int), vs = [.ref a] ∧ SqL K H a (ns.map V.int) ∧ ns.length ≤ 1000 ∧
  ∀ (S C L : Addr) (H' : Hp), Same H H' → H S = none → H C = none → H L = none → StOk H' S C L 0 → Q (.ref S) H'
theorem st_new {C L : Addr} {n : Int} : mergeK [] [((.inr "cells" : Key), V.ref C), (.inr "lefts", .ref L), (.inr "at", .int n)] = [(.inr "cells", .ref C), (.inr "lefts", .ref L), (.inr "at", .int n)] := by
  show putK (putK (putK [] (.inr "cells" : Key) (.ref C)) (.inr "lefts" : Key) (.ref L)) (.inr "at" : Key) (.int n) = _
  rw [putK_new (kvs := []) _ rfl, List.nil_append, putK_new (kvs := [((.inr "cells" : Key), V.ref C)]) _ (by rw [valV_neg ne_cl]; rfl), List.singleton_append, putK_new (kvs := [((.inr "cells" : Key), V.ref C), (.inr "lefts", .ref L)]) _ (by rw [valV_neg ne_ck, valV_neg ne_lk]; rfl)]
  rfl
def leftOf (c : Int) : Int := if decide ((10 : Int) ^ 18 ≤ c) = true then c else 0
def restB (K : PySem.W.Frag) : TS := tSeq
  (tAsg (tLc (iList K (tVar 1)) (gName 3) tYes (tIf (tB (tGe (tVar 3) (tOp (rI CPow fun i j => V.int (i ^ j.toNat)) (tC (V.int 10)) (tC (V.int 18))))) (tVar 3) (tC (V.int 0))) [3]) (gName 2))
  (tRet (tDisp [(tC (V.str "cells"), tVar 1), (tC (V.str "lefts"), tVar 2), (tC (V.str "at"), tC (V.int 0))]))
theorem restB_ok {K : PySem.W.Frag} {D : Ends} {a C : Addr} {cs : List Int} {H H1 : Hp} (e : Same H H1) (hn : H C = none) (hC : H1 C = some (.lst (cs.map V.int))) (h0 : 0 < cs.length) (h1 : cs.length ≤ 1000)
    (hq : ∀ (S L : Addr) (H' : Hp), Same H H' → H S = none → H L = none → StOk H' S C L 0 → D.rt (.ref S) H') : restB K D [some (.ref a), some (.ref C), none, none] H1 := by
  refine ⟨.ref C, rfl, C, rfl, ⟨_, .inl (.inl hC)⟩, fun L hL => ?_⟩
  have nL : ∀ b o, H1 b = some o → b ≠ L := fun b o h z => by rw [z, hL] at h; cases h
  refine ⟨fun i m H2 => i + m = cs.length ∧ Same H1 H2 ∧ H2 L = some (.lst (((cs.take i).map leftOf).map V.int)), ⟨cs.length, Nat.zero_add _, same_upd hL, by rw [upd_same]; rfl⟩, ?_⟩
  rintro i m H2 ⟨him, hs, hLs⟩
  have hC2 := hs _ _ hC
  by_cases hi : i < cs.length
  · refine .inr ⟨⟨_, .int cs[i], .inl (.inl hC2), by rw [List.getElem?_map, List.getElem?_eq_getElem hi]; rfl⟩, fun H3 => (i + 1) + (m - 1) = cs.length ∧ Same H1 H3 ∧ H3 L = some (.lst (((cs.take (i + 1)).map leftOf).map V.int)), fun H3 w => ⟨m - 1, by omega, w⟩, ?_⟩
    rintro x H3 ⟨rfl, hx⟩
    obtain rfl : V.int cs[i] = x := by
      have q := hx _ (.inl (.inl hC2))
      rw [List.getElem?_map, List.getElem?_eq_getElem hi] at q
      exact Option.some.inj q
    have key : ∀ z : Int, z = leftOf cs[i] → ∃ acc, H3 L = some (.lst acc) ∧ acc.length < sizeLine ∧ (i + 1) + (m - 1) = cs.length ∧ Same H1 (upd H3 L (.lst (acc ++ [.int z]))) ∧ upd H3 L (.lst (acc ++ [.int z])) L = some (.lst (((cs.take (i + 1)).map leftOf).map V.int)) := fun z hz => by
      refine ⟨_, hLs, ?_, by omega, fun b o h => by rw [upd_ne (nL b o h)]; exact hs b o h, ?_⟩
      · rw [List.length_map, List.length_map, List.length_take, sizeLine_eq]; omega
      · rw [upd_same, hz, List.take_succ, List.getElem?_eq_getElem hi]
        simp only [Option.toList_some, List.map_append, List.map_cons, List.map_nil]
    refine ⟨rfl, ?_⟩
    refine ⟨.int cs[i], rfl, 10, 18, rfl, rfl, ⟨by decide, by decide, by decide⟩, cs[i], 10 ^ 18, rfl, rfl, _, rfl, if_of (fun hc => ?_) fun hc => ?_⟩
    · refine ⟨.int cs[i], rfl, key _ ?_⟩
      unfold leftOf
      rw [if_pos hc]
    · refine key _ ?_
      unfold leftOf
      rw [if_neg fun z => Bool.false_ne_true (hc.symm.trans z)]
  · refine .inl ⟨⟨_, .inl (.inl hC2), by rw [List.length_map]; omega⟩, fun S hS => ?_⟩
    have nS : ∀ b o, H2 b = some o → b ≠ S := fun b o h z => by rw [z, hS] at h; cases h
    refine ⟨.ref C, rfl, .ref L, rfl, ?_⟩
    refine ⟨upd_same, [(.inr "cells", .ref C), (.inr "lefts", .ref L), (.inr "at", .int 0)], rfl, (by show 3 ≤ 15; decide), ?_⟩
    rw [st_new]
    have up : upd (upd H2 S (.dK [])) S (stD C L 0) = upd H2 S (stD C L 0) := by
      funext b
      by_cases z : b = S
      · subst z; rw [upd_same, upd_same]
      · rw [upd_ne z, upd_ne z, upd_ne z]
    have iS : Same H2 (upd H2 S (stD C L 0)) := same_upd hS
    show D.rt (.ref S) (upd (upd H2 S (.dK [])) S (stD C L 0))
    rw [up]
    have none_of : ∀ {H' : Hp} {b : Addr}, Same H H' → H' b = none → H b = none := fun {H' b} q z => by
      cases y : H b with
      | none => rfl
      | some o => rw [q b o y] at z; cases z
    refine hq S L _ ((e.trans hs).trans iS) (none_of (e.trans hs) hS) (none_of e hL) ⟨upd_same, cs, (cs.take i).map leftOf, iS _ _ hC2, iS _ _ hLs, h0, ?_⟩
    rw [List.length_map, List.length_take]; omega
theorem lay_ints : ∀ ns : List Int, PyData.canLayAll0 (ns.map PyData.int) = true ∧ PyData.depthAll (ns.map PyData.int) = 0
  | [] => ⟨rfl, rfl⟩
  | n :: ns => by
    obtain ⟨h1, h2⟩ := lay_ints ns
    exact ⟨by simp only [List.map_cons, PyData.canLayAll0, PyData.canLay0, h1, Bool.and_self], by simp only [List.map_cons, PyData.depthAll, PyData.depth, h2]; rfl⟩
theorem shaped_ints (ns : List Int) : SeqAt.shaped (.list (ns.map PyData.int)) = true := by
  obtain ⟨h1, h2⟩ := lay_ints ns
  unfold SeqAt.shaped
  simp only [PyData.canLay0, PyData.depth, h1, h2]
  rfl
theorem sc__law_begin : FnScope ["_law_script", "_law_cells_so", "_law_lefts", "_law_cell"] ["_law_script"] (defScope s__law_begin) := ⟨rfl, rfl, rfl, by decide +kernel, rfl, by decide +kernel, by decide +kernel⟩
theorem dp_ints {K : PySem.W.Frag} {H : Hp} : ∀ ns : List Int, DpAll K H (ns.map V.int) (ns.map PyData.int)
  | [] => .nil
  | n :: ns => .cons (.int n) (dp_ints ns)
theorem ok__law_begin {P : Program} {w : World} {K : PySem.W.Frag} {mg : Str → Option Value} {base : Heap} (g : G K mg) : Ok P w K mg base CX0 1 "_law_begin" ["_law_script"] (spBegin K) := by
  obtain ⟨fd, Fn⟩ := d__law_begin g
  refine ⟨⟨fd, Fn.ok sc__law_begin ?_ fun cdv A outer s H vs Q E hr ⟨a, ns, ev, hs, hl, hq⟩ => ?_, ?_⟩, Fn.kp, ?_⟩
  · rintro vs H Q E ⟨a, ns, ev, _⟩
    subst ev; rfl
  · have sc := sc__law_begin
    subst ev
    refine ⟨_, pss_cons (ps_set (i := 1) sc.nd rfl (.inl rfl) (pe_ifExp (pt_cmpR (op_neD hr.units) (pv 0) (pe_lst pa_nil) rfl) (pe_callTy call_list_of rfl (f_list g) PyProof.Rows.boot_list (pa_cons (pv 0) pa_nil)) (pe_lst (pa_cons pe_int pa_nil))))
      (pss_cons (ps_setLc (own := [("_law_cell", 3)]) (i := 2) rfl sc.nd rfl rfl (by rfl) (pi_list (pv 1)) (blkOk_by rfl) (fun _ _ _ _ _ => pg_name (i := 3) sc.nd rfl (.inl rfl)) (fun _ _ _ _ _ => pts_nil) (fun _ _ _ _ _ => pe_ifExp (pt_cmp (pc_ge (pv 3) (pe_op op_pow pe_int pe_int))) (pv 3) pe_int))
      (pss_one (ps_ret (pe_disp (pps_cons pe_str (pv 1) (pps_cons pe_str (pv 2) (pps_cons pe_str pe_int pps_nil))) rfl rfl (by simp) (by decide))))), ?_⟩
    refine ⟨.ref a, rfl, Nat.zero_le _, fun p hp => ?_⟩
    have hs2 : SqL K (upd H p (.lst [])) a (ns.map V.int) := by
      rcases hs with (h | ⟨o, h⟩) | h
      · exact .inl (.inl (same_upd hp _ _ h))
      · exact .inl (.inr ⟨o, same_upd hp _ _ h⟩)
      · exact .inr h
    have back : ∀ {b : Addr}, upd H p (.lst []) b = none → H b = none := fun {b} z => by
      cases y : H b with
      | none => rfl
      | some o => rw [same_upd hp b o y] at z; cases z
    refine ⟨.list (ns.map PyData.int), .list [], .lst hs2 (dp_ints ns), .lst (.inl (.inl upd_same)) .nil, shaped_ints ns, rfl, _, rfl, if_of (fun hc => ?_) fun hc => ?_⟩
    · have h0 : 0 < ns.length := by
        cases ns with
        | nil => cases hc
        | cons n ns => exact Nat.succ_pos _
      refine ⟨.ref a, rfl, a, _, rfl, .inl hs2, fun C hC => ?_⟩
      exact restB_ok (K := K) (H := H) (cs := ns) ((same_upd hp).trans (same_upd hC)) (back hC) upd_same h0 hl fun S L H' e n1 n2 st => hq S C L H' e n1 (back hC) n2 st
    · refine ⟨by rw [sizeLine_eq]; show 1 ≤ 16777216; decide, fun C hC => ?_⟩
      exact restB_ok (K := K) (H := H) (cs := [0]) ((same_upd hp).trans (same_upd hC)) (back hC) upd_same (by decide) (by decide) fun S L H' e n1 n2 st => hq S C L H' e n1 (back hC) n2 st
  · exact Fn.binds fun _ _ _ _ _ _ us hl => match us, hl with | [_], _ => rfl
  · exact g__law_begin g
end Yd
set_option Elab.async false
set_option linter.all false
set_option maxRecDepth 100000
set_option maxHeartbeats 2000000
/-! # All promises together -/
namespace Yd
open PySem PySem.Spec PyProof.Rows L2 LamX
section
variable {P : Program} {w : World} {K : PySem.W.Frag} {mg : Str → Option Value} {base : Heap}
theorem ok_is_from (g : G K mg) : Ok P w K mg base CX0 1 "is_from" ["value", "low", "high"] (spP T1 K (ckK K) sp_is_from) := by
  obtain ⟨fd, Fn⟩ := d_is_from g
  exact ⟨⟨fd, dfn Fn sc_is_from (fun ds Q R h => by unfold sp_is_from at h; (repeat (obtain ⟨_, h⟩ := h)); all_goals (subst_vars; rfl)) fun cdv A outer s H E F hr _ => ⟨_, der_is_from g _ cdv A outer s H E F hr, fun ds Q R h => pu_is_from ds Q R h⟩, Fn.binds fun _ _ _ _ _ _ us hl => match us, hl with | [_, _, _], _ => rfl⟩, Fn.kp, g_is_from g⟩
theorem ok_need_units (g : G K mg) : Ok P w K mg base (L2.CX P w) 3 "need_units" ["value"] (spP T1 K (ckK K) sp_need_units) := by
  obtain ⟨fd, Fn⟩ := d_need_units g
  exact ⟨⟨fd, dfnX Fn sc_need_units (fun ds Q R h => by unfold sp_need_units at h; (repeat (obtain ⟨_, h⟩ := h)); all_goals (subst_vars; rfl)) fun cdv A outer s H E F hr _ => ⟨_, der_need_units g (ok_is_from g) _ cdv A outer s H E F hr, fun ds Q R h => pu_need_units ds Q R h⟩, Fn.binds fun _ _ _ _ _ _ us hl => match us, hl with | [_], _ => rfl⟩, Fn.kp, g_need_units g⟩
theorem ok_is_row (g : G K mg) : Ok P w K mg base CX0 2 "is_row" ["units", "value"] (spP T1 K (ckK K) sp_is_row) := by
  obtain ⟨fd, Fn⟩ := d_is_row g
  exact ⟨⟨fd, dfn Fn sc_is_row (fun ds Q R h => by unfold sp_is_row at h; (repeat (obtain ⟨_, h⟩ := h)); all_goals (subst_vars; rfl)) fun cdv A outer s H E F hr _ => ⟨_, der_is_row g (ok_is_from g) _ cdv A outer s H E F hr, fun ds Q R h => pu_is_row ds Q R h⟩, Fn.binds fun _ _ _ _ _ _ us hl => match us, hl with | [_, _], _ => rfl⟩, Fn.kp, g_is_row g⟩
theorem ok_zeros_of (g : G K mg) : Ok P w K mg base CX0 1 "zeros_of" ["units"] (spP T1 K (ckK K) sp_zeros_of) := by
  obtain ⟨fd, Fn⟩ := d_zeros_of g
  exact ⟨⟨fd, dfn Fn sc_zeros_of (fun ds Q R h => by unfold sp_zeros_of at h; (repeat (obtain ⟨_, h⟩ := h)); all_goals (subst_vars; rfl)) fun cdv A outer s H E F hr _ => ⟨_, der_zeros_of g _ cdv A outer s H E F hr, fun ds Q R h => pu_zeros_of ds Q R h⟩, Fn.binds fun _ _ _ _ _ _ us hl => match us, hl with | [_], _ => rfl⟩, Fn.kp, g_zeros_of g⟩
theorem ok_stair_from (g : G K mg) : Ok P w K mg base CX0 1 "stair_from" ["units", "row"] (spP T1 K (ckK K) sp_stair_from) := by
  obtain ⟨fd, Fn⟩ := d_stair_from g
  exact ⟨⟨fd, dfn Fn sc_stair_from (fun ds Q R h => by unfold sp_stair_from at h; (repeat (obtain ⟨_, h⟩ := h)); all_goals (subst_vars; rfl)) fun cdv A outer s H E F hr _ => ⟨_, der_stair_from g _ cdv A outer s H E F hr, fun ds Q R h => pu_stair_from ds Q R h⟩, Fn.binds fun _ _ _ _ _ _ us hl => match us, hl with | [_, _], _ => rfl⟩, Fn.kp, g_stair_from g⟩
theorem ok_row_from (g : G K mg) : Ok P w K mg base CX0 1 "row_from" ["units", "stair"] (spP T1 K (ckK K) sp_row_from) := by
  obtain ⟨fd, Fn⟩ := d_row_from g
  exact ⟨⟨fd, dfn Fn sc_row_from (fun ds Q R h => by unfold sp_row_from at h; (repeat (obtain ⟨_, h⟩ := h)); all_goals (subst_vars; rfl)) fun cdv A outer s H E F hr _ => ⟨_, der_row_from g _ cdv A outer s H E F hr, fun ds Q R h => pu_row_from ds Q R h⟩, Fn.binds fun _ _ _ _ _ _ us hl => match us, hl with | [_, _], _ => rfl⟩, Fn.kp, g_row_from g⟩
theorem ok_up_stair (g : G K mg) : Ok P w K mg base CX0 1 "up_stair" ["units", "numbers"] (spP T1 K (ckK K) sp_up_stair) := by
  obtain ⟨fd, Fn⟩ := d_up_stair g
  exact ⟨⟨fd, dfn Fn sc_up_stair (fun ds Q R h => by unfold sp_up_stair at h; (repeat (obtain ⟨_, h⟩ := h)); all_goals (subst_vars; rfl)) fun cdv A outer s H E F hr _ => ⟨_, der_up_stair g _ cdv A outer s H E F hr, fun ds Q R h => pu_up_stair ds Q R h⟩, Fn.binds fun _ _ _ _ _ _ us hl => match us, hl with | [_, _], _ => rfl⟩, Fn.kp, g_up_stair g⟩
theorem ok_down_stair (g : G K mg) : Ok P w K mg base CX0 1 "down_stair" ["units", "numbers"] (spP T1 K (ckK K) sp_down_stair) := by
  obtain ⟨fd, Fn⟩ := d_down_stair g
  exact ⟨⟨fd, dfn Fn sc_down_stair (fun ds Q R h => by unfold sp_down_stair at h; (repeat (obtain ⟨_, h⟩ := h)); all_goals (subst_vars; rfl)) fun cdv A outer s H E F hr _ => ⟨_, der_down_stair g _ cdv A outer s H E F hr, fun ds Q R h => pu_down_stair ds Q R h⟩, Fn.binds fun _ _ _ _ _ _ us hl => match us, hl with | [_, _], _ => rfl⟩, Fn.kp, g_down_stair g⟩
theorem ok_is_deed (g : G K mg) : Ok P w K mg base CX0 3 "is_deed" ["units", "value"] (spP T1 K (ckK K) sp_is_deed) := by
  obtain ⟨fd, Fn⟩ := d_is_deed g
  exact ⟨⟨fd, dfn Fn sc_is_deed (fun ds Q R h => by unfold sp_is_deed at h; (repeat (obtain ⟨_, h⟩ := h)); all_goals (subst_vars; rfl)) fun cdv A outer s H E F hr _ => ⟨_, der_is_deed g (ok_is_row g) _ cdv A outer s H E F hr, fun ds Q R h => pu_is_deed ds Q R h⟩, Fn.binds fun _ _ _ _ _ _ us hl => match us, hl with | [_, _], _ => rfl⟩, Fn.kp, g_is_deed g⟩
theorem ok_is_step (g : G K mg) : Ok P w K mg base CX0 4 "is_step" ["units", "places", "value"] (spP T1 K (ckK K) sp_is_step) := by
  obtain ⟨fd, Fn⟩ := d_is_step g
  exact ⟨⟨fd, dfn Fn sc_is_step (fun ds Q R h => by unfold sp_is_step at h; (repeat (obtain ⟨_, h⟩ := h)); all_goals (subst_vars; rfl)) fun cdv A outer s H E F hr _ => ⟨_, der_is_step g (ok_is_from g) (ok_is_deed g) _ cdv A outer s H E F hr, fun ds Q R h => pu_is_step ds Q R h⟩, Fn.binds fun _ _ _ _ _ _ us hl => match us, hl with | [_, _, _], _ => rfl⟩, Fn.kp, g_is_step g⟩
theorem ok_need_world (g : G K mg) : Ok P w K mg base (L2.CX P w) 5 "need_world" ["units", "value"] (spP T1 K (ckK K) sp_need_world) := by
  obtain ⟨fd, Fn⟩ := d_need_world g
  exact ⟨⟨fd, dfnX Fn sc_need_world (fun ds Q R h => by unfold sp_need_world at h; (repeat (obtain ⟨_, h⟩ := h)); all_goals (subst_vars; rfl)) fun cdv A outer s H E F hr _ => ⟨_, der_need_world g (ok_need_units g) (ok_is_from g) (ok_is_step g) _ cdv A outer s H E F hr, fun ds Q R h => pu_need_world ds Q R h⟩, Fn.binds fun _ _ _ _ _ _ us hl => match us, hl with | [_, _], _ => rfl⟩, Fn.kp, g_need_world g⟩
theorem ok_counts_of (g : G K mg) : Ok P w K mg base CX0 2 "counts_of" ["units", "deed"] (spP T1 K (ckK K) sp_counts_of) := by
  obtain ⟨fd, Fn⟩ := d_counts_of g
  exact ⟨⟨fd, dfn Fn sc_counts_of (fun ds Q R h => by unfold sp_counts_of at h; (repeat (obtain ⟨_, h⟩ := h)); all_goals (subst_vars; rfl)) fun cdv A outer s H E F hr _ => ⟨_, der_counts_of g (ok_stair_from g) _ cdv A outer s H E F hr, fun ds Q R h => pu_counts_of ds Q R h⟩, Fn.binds fun _ _ _ _ _ _ us hl => match us, hl with | [_, _], _ => rfl⟩, Fn.kp, g_counts_of g⟩
theorem ok_counts_at (g : G K mg) : Ok P w K mg base CX0 3 "counts_at" ["units", "world", "unit"] (spP T1 K (ckK K) sp_counts_at) := by
  obtain ⟨fd, Fn⟩ := d_counts_at g
  exact ⟨⟨fd, dfn Fn sc_counts_at (fun ds Q R h => by unfold sp_counts_at at h; (repeat (obtain ⟨_, h⟩ := h)); all_goals (subst_vars; rfl)) fun cdv A outer s H E F hr _ => ⟨_, der_counts_at g (ok_counts_of g) _ cdv A outer s H E F hr, fun ds Q R h => pu_counts_at ds Q R h⟩, Fn.binds fun _ _ _ _ _ _ us hl => match us, hl with | [_, _, _], _ => rfl⟩, Fn.kp, g_counts_at g⟩
theorem ok_first_walks (g : G K mg) : Ok P w K mg base CX0 1 "first_walks" ["world"] (spP T1 K (ckK K) sp_first_walks) := by
  obtain ⟨fd, Fn⟩ := d_first_walks g
  exact ⟨⟨fd, dfn Fn sc_first_walks (fun ds Q R h => by unfold sp_first_walks at h; (repeat (obtain ⟨_, h⟩ := h)); all_goals (subst_vars; rfl)) fun cdv A outer s H E F hr _ => ⟨_, der_first_walks g _ cdv A outer s H E F hr, fun ds Q R h => pu_first_walks ds Q R h⟩, Fn.binds fun _ _ _ _ _ _ us hl => match us, hl with | [_], _ => rfl⟩, Fn.kp, g_first_walks g⟩
theorem ok_great_walks (g : G K mg) : Ok P w K mg base CX0 1 "great_walks" ["world", "counts", "start"] (spP T1 K (ckK K) sp_great_walks) := by
  obtain ⟨fd, Fn⟩ := d_great_walks g
  exact ⟨⟨fd, dfn Fn sc_great_walks (fun ds Q R h => by unfold sp_great_walks at h; (repeat (obtain ⟨_, h⟩ := h)); all_goals (subst_vars; rfl)) fun cdv A outer s H E F hr _ => ⟨_, der_great_walks g _ cdv A outer s H E F hr, fun ds Q R h => pu_great_walks ds Q R h⟩, Fn.binds fun _ _ _ _ _ _ us hl => match us, hl with | [_, _, _], _ => rfl⟩, Fn.kp, g_great_walks g⟩
theorem ok_ring_from (g : G K mg) : Ok P w K mg base CX0 2 "ring_from" ["world", "counts", "place"] (spP T1 K (ckK K) sp_ring_from) := by
  obtain ⟨fd, Fn⟩ := d_ring_from g
  exact ⟨⟨fd, dfn Fn sc_ring_from (fun ds Q R h => by unfold sp_ring_from at h; (repeat (obtain ⟨_, h⟩ := h)); all_goals (subst_vars; rfl)) fun cdv A outer s H E F hr _ => ⟨_, der_ring_from g (ok_great_walks g) _ cdv A outer s H E F hr, fun ds Q R h => pu_ring_from ds Q R h⟩, Fn.binds fun _ _ _ _ _ _ us hl => match us, hl with | [_, _, _], _ => rfl⟩, Fn.kp, g_ring_from g⟩
theorem ok_asking_ring (g : G K mg) : Ok P w K mg base CX0 3 "asking_ring" ["world", "counts"] (spP T1 K (ckK K) sp_asking_ring) := by
  obtain ⟨fd, Fn⟩ := d_asking_ring g
  exact ⟨⟨fd, dfn Fn sc_asking_ring (fun ds Q R h => by unfold sp_asking_ring at h; (repeat (obtain ⟨_, h⟩ := h)); all_goals (subst_vars; rfl)) fun cdv A outer s H E F hr _ => ⟨_, der_asking_ring g (ok_first_walks g) (ok_ring_from g) _ cdv A outer s H E F hr, fun ds Q R h => pu_asking_ring ds Q R h⟩, Fn.binds fun _ _ _ _ _ _ us hl => match us, hl with | [_, _], _ => rfl⟩, Fn.kp, g_asking_ring g⟩
theorem ok_ring_found (g : G K mg) : Ok P w K mg base CX0 4 "ring_found" ["units", "world"] (spP T1 K (ckK K) sp_ring_found) := by
  obtain ⟨fd, Fn⟩ := d_ring_found g
  exact ⟨⟨fd, dfn Fn sc_ring_found (fun ds Q R h => by unfold sp_ring_found at h; (repeat (obtain ⟨_, h⟩ := h)); all_goals (subst_vars; rfl)) fun cdv A outer s H E F hr _ => ⟨_, der_ring_found g (ok_asking_ring g) (ok_counts_at g) _ cdv A outer s H E F hr, fun ds Q R h => pu_ring_found ds Q R h⟩, Fn.binds fun _ _ _ _ _ _ us hl => match us, hl with | [_, _], _ => rfl⟩, Fn.kp, g_ring_found g⟩
theorem ok_need_step (g : G K mg) : Ok P w K mg base (L2.CX P w) 6 "need_step" ["units", "world", "step"] (spP T1 K (ckK K) sp_need_step) := by
  obtain ⟨fd, Fn⟩ := d_need_step g
  exact ⟨⟨fd, dfnX Fn sc_need_step (fun ds Q R h => by unfold sp_need_step at h; (repeat (obtain ⟨_, h⟩ := h)); all_goals (subst_vars; rfl)) fun cdv A outer s H E F hr _ => ⟨_, der_need_step g (ok_need_world g) (ok_is_from g) _ cdv A outer s H E F hr, fun ds Q R h => pu_need_step ds Q R h⟩, Fn.binds fun _ _ _ _ _ _ us hl => match us, hl with | [_, _, _], _ => rfl⟩, Fn.kp, g_need_step g⟩
theorem ok_with_deed (g : G K mg) : Ok P w K mg base (L2.CX P w) 7 "with_deed" ["units", "world", "step", "deed"] (spP T1 K (ckK K) sp_with_deed) := by
  obtain ⟨fd, Fn⟩ := d_with_deed g
  exact ⟨⟨fd, dfnX Fn sc_with_deed (fun ds Q R h => by unfold sp_with_deed at h; (repeat (obtain ⟨_, h⟩ := h)); all_goals (subst_vars; rfl)) fun cdv A outer s H E F hr _ => ⟨_, der_with_deed g (ok_need_step g) (ok_is_deed g) _ cdv A outer s H E F hr, fun ds Q R h => pu_with_deed ds Q R h⟩, Fn.binds fun _ _ _ _ _ _ us hl => match us, hl with | [_, _, _, _], _ => rfl⟩, Fn.kp, g_with_deed g⟩
theorem ok_dropped (g : G K mg) : Ok P w K mg base CX0 1 "dropped" ["items", "index"] (spP T1 K (ckK K) sp_dropped) := by
  obtain ⟨fd, Fn⟩ := d_dropped g
  exact ⟨⟨fd, dfn Fn sc_dropped (fun ds Q R h => by unfold sp_dropped at h; rcases h with ⟨_, _, e, _⟩ | ⟨_, _, e, _⟩ <;> (subst e; rfl)) fun cdv A outer s H E F hr _ => ⟨_, der_dropped g _ cdv A outer s H E F hr, fun ds Q R h => pu_dropped ds Q R h⟩, Fn.binds fun _ _ _ _ _ _ us hl => match us, hl with | [_, _], _ => rfl⟩, Fn.kp, g_dropped g⟩
theorem ok_greatest_over (g : G K mg) : Ok P w K mg base (L2.CX P w) 4 "greatest_over" ["units", "world", "step", "unit"] (spP T1 K (ckK K) sp_greatest_over) := by
  obtain ⟨fd, Fn⟩ := d_greatest_over g
  exact ⟨⟨fd, dfnX Fn sc_greatest_over (fun ds Q R h => by unfold sp_greatest_over at h; (repeat (obtain ⟨_, h⟩ := h)); all_goals (subst_vars; rfl)) fun cdv A outer s H E F hr _ => ⟨_, der_greatest_over g (ok_counts_at g) (ok_dropped g) (ok_first_walks g) (ok_ring_from g) (ok_great_walks g) _ cdv A outer s H E F hr, fun ds Q R h => pu_greatest_over ds Q R h⟩, Fn.binds fun _ _ _ _ _ _ us hl => match us, hl with | [_, _, _, _], _ => rfl⟩, Fn.kp, g_greatest_over g⟩
theorem ok_greatest_rings (g : G K mg) : Ok P w K mg base (L2.CX P w) 5 "greatest_rings" ["units", "world", "step"] (spP T1 K (ckK K) sp_greatest_rings) := by
  obtain ⟨fd, Fn⟩ := d_greatest_rings g
  exact ⟨⟨fd, dfnX Fn sc_greatest_rings (fun ds Q R h => by unfold sp_greatest_rings at h; (repeat (obtain ⟨_, h⟩ := h)); all_goals (subst_vars; rfl)) fun cdv A outer s H E F hr _ => ⟨_, der_greatest_rings g (ok_greatest_over g) _ cdv A outer s H E F hr, fun ds Q R h => pu_greatest_rings ds Q R h⟩, Fn.binds fun _ _ _ _ _ _ us hl => match us, hl with | [_, _, _], _ => rfl⟩, Fn.kp, g_greatest_rings g⟩
theorem ok_least_more (g : G K mg) : Ok P w K mg base (L2.CX P w) 7 "least_more" ["units", "world", "step"] (spP T1 K (ckK K) sp_least_more) := by
  obtain ⟨fd, Fn⟩ := d_least_more g
  exact ⟨⟨fd, dfnX Fn sc_least_more (fun ds Q R h => by unfold sp_least_more at h; (repeat (obtain ⟨_, h⟩ := h)); all_goals (subst_vars; rfl)) fun cdv A outer s H E F hr _ => ⟨_, der_least_more g (ok_need_step g) (ok_greatest_rings g) (ok_zeros_of g) (ok_row_from g) (ok_up_stair g) _ cdv A outer s H E F hr, fun ds Q R h => pu_least_more ds Q R h⟩, Fn.binds fun _ _ _ _ _ _ us hl => match us, hl with | [_, _, _], _ => rfl⟩, Fn.kp, g_least_more g⟩
theorem ok_most_more (g : G K mg) : Ok P w K mg base (L2.CX P w) 7 "most_more" ["units", "world", "step"] (spP T1 K (ckK K) sp_most_more) := by
  obtain ⟨fd, Fn⟩ := d_most_more g
  exact ⟨⟨fd, dfnX Fn sc_most_more (fun ds Q R h => by unfold sp_most_more at h; (repeat (obtain ⟨_, h⟩ := h)); all_goals (subst_vars; rfl)) fun cdv A outer s H E F hr _ => ⟨_, der_most_more g (ok_need_step g) (ok_ring_found g) (ok_greatest_rings g) (ok_row_from g) (ok_down_stair g) _ cdv A outer s H E F hr, fun ds Q R h => pu_most_more ds Q R h⟩, Fn.binds fun _ _ _ _ _ _ us hl => match us, hl with | [_, _, _], _ => rfl⟩, Fn.kp, g_most_more g⟩
theorem ok__law_mixed (g : G K mg) : Ok P w K mg base CX0 1 "_law_mixed" ["_law_cell", "_law_k"] (spP T1 K (ckK K) sp__law_mixed) := by
  obtain ⟨fd, Fn⟩ := d__law_mixed g
  exact ⟨⟨fd, dfn Fn sc__law_mixed (fun ds Q R h => by unfold sp__law_mixed at h; (repeat (obtain ⟨_, h⟩ := h)); all_goals (subst_vars; rfl)) fun cdv A outer s H E F hr _ => ⟨_, der__law_mixed g _ cdv A outer s H E F hr, fun ds Q R h => pu__law_mixed ds Q R h⟩, Fn.binds fun _ _ _ _ _ _ us hl => match us, hl with | [_, _], _ => rfl⟩, Fn.kp, g__law_mixed g⟩
theorem ok_draw (g : G K mg) : Ok P w K mg base CX0 2 "_law_draw" ["_law_state", "_law_limit"] (spS T1 K sp__law_draw) := ok__law_draw g (ok__law_mixed g)
theorem ok__law_units (g : G K mg) : Ok P w K mg base CX0 3 "_law_units" ["_law_state"] (spS T1 K sp__law_units) := by
  obtain ⟨fd, Fn⟩ := d__law_units g
  exact ⟨⟨fd, dfnS Fn sc__law_units (fun ds g Q h => by unfold sp__law_units at h; (repeat (obtain ⟨_, h⟩ := h)); all_goals (subst_vars; rfl)) fun cdv A outer s H E F hr _ => ⟨_, der__law_units g (ok_draw g) _ cdv A outer s H E F hr, fun ds gn Q h => pu__law_units ds gn Q h⟩, Fn.binds fun _ _ _ _ _ _ us hl => match us, hl with | [_], _ => rfl⟩, Fn.kp, g__law_units g⟩
theorem ok__law_sizes (g : G K mg) : Ok P w K mg base CX0 1 "_law_sizes" ["_law_units_so"] (spP T1 K (ckK K) sp__law_sizes) := by
  obtain ⟨fd, Fn⟩ := d__law_sizes g
  exact ⟨⟨fd, dfn Fn sc__law_sizes (fun ds Q R h => by unfold sp__law_sizes at h; (repeat (obtain ⟨_, h⟩ := h)); all_goals (subst_vars; rfl)) fun cdv A outer s H E F hr _ => ⟨_, der__law_sizes g _ cdv A outer s H E F hr, fun ds Q R h => pu__law_sizes ds Q R h⟩, Fn.binds fun _ _ _ _ _ _ us hl => match us, hl with | [_], _ => rfl⟩, Fn.kp, g__law_sizes g⟩
theorem ok__law_row (g : G K mg) : Ok P w K mg base CX0 3 "_law_row" ["_law_state", "_law_units_so", "_law_most"] (spS T1 K sp__law_row) := by
  obtain ⟨fd, Fn⟩ := d__law_row g
  exact ⟨⟨fd, dfnS Fn sc__law_row (fun ds g Q h => by unfold sp__law_row at h; (repeat (obtain ⟨_, h⟩ := h)); all_goals (subst_vars; rfl)) fun cdv A outer s H E F hr _ => ⟨_, der__law_row g (ok_draw g) (ok__law_sizes g) _ cdv A outer s H E F hr, fun ds gn Q h => pu__law_row ds gn Q h⟩, Fn.binds fun _ _ _ _ _ _ us hl => match us, hl with | [_, _, _], _ => rfl⟩, Fn.kp, g__law_row g⟩
theorem ok__law_beside (g : G K mg) : Ok P w K mg base CX0 1 "_law_beside" ["_law_one", "_law_other"] (spP T1 K (ckK K) sp__law_beside) := by
  obtain ⟨fd, Fn⟩ := d__law_beside g
  exact ⟨⟨fd, dfn Fn sc__law_beside (fun ds Q R h => by unfold sp__law_beside at h; (repeat (obtain ⟨_, h⟩ := h)); all_goals (subst_vars; rfl)) fun cdv A outer s H E F hr _ => ⟨_, der__law_beside g _ cdv A outer s H E F hr, fun ds Q R h => pu__law_beside ds Q R h⟩, Fn.binds fun _ _ _ _ _ _ us hl => match us, hl with | [_, _], _ => rfl⟩, Fn.kp, g__law_beside g⟩
theorem ok__law_stair (g : G K mg) : Ok P w K mg base CX0 1 "_law_stair" ["_law_units_so", "_law_row_here"] (spP T1 K (ckK K) sp__law_stair) := by
  obtain ⟨fd, Fn⟩ := d__law_stair g
  exact ⟨⟨fd, dfn Fn sc__law_stair (fun ds Q R h => by unfold sp__law_stair sp_stair_from at h; (repeat (obtain ⟨_, h⟩ := h)); all_goals (subst_vars; rfl)) fun cdv A outer s H E F hr _ => ⟨_, der__law_stair g _ cdv A outer s H E F hr, fun ds Q R h => pu__law_stair ds Q R h⟩, Fn.binds fun _ _ _ _ _ _ us hl => match us, hl with | [_, _], _ => rfl⟩, Fn.kp, g__law_stair g⟩
theorem ok__law_row_of (g : G K mg) : Ok P w K mg base CX0 1 "_law_row_of" ["_law_units_so", "_law_stair_here"] (spP T1 K (ckK K) sp__law_row_of) := by
  obtain ⟨fd, Fn⟩ := d__law_row_of g
  exact ⟨⟨fd, dfn Fn sc__law_row_of (fun ds Q R h => by unfold sp__law_row_of at h; (repeat (obtain ⟨_, h⟩ := h)); all_goals (subst_vars; rfl)) fun cdv A outer s H E F hr _ => ⟨_, der__law_row_of g _ cdv A outer s H E F hr, fun ds Q R h => pu__law_row_of ds Q R h⟩, Fn.binds fun _ _ _ _ _ _ us hl => match us, hl with | [_, _], _ => rfl⟩, Fn.kp, g__law_row_of g⟩
theorem ok__law_inside (g : G K mg) : Ok P w K mg base CX0 2 "_law_inside" ["_law_units_so", "_law_near", "_law_far"] (spP T1 K (ckK K) sp__law_inside) := by
  obtain ⟨fd, Fn⟩ := d__law_inside g
  exact ⟨⟨fd, dfn Fn sc__law_inside (fun ds Q R h => by unfold sp__law_inside at h; (repeat (obtain ⟨_, h⟩ := h)); all_goals (subst_vars; rfl)) fun cdv A outer s H E F hr _ => ⟨_, der__law_inside g (ok__law_stair g) _ cdv A outer s H E F hr, fun ds Q R h => pu__law_inside ds Q R h⟩, Fn.binds fun _ _ _ _ _ _ us hl => match us, hl with | [_, _, _], _ => rfl⟩, Fn.kp, g__law_inside g⟩
theorem ok__law_some_world (g : G K mg) : Ok P w K mg base CX0 4 "_law_some_world" ["_law_state", "_law_units_so", "_law_places", "_law_many_so", "_law_most"] (spS T1 K sp__law_some_world) := by
  obtain ⟨fd, Fn⟩ := d__law_some_world g
  exact ⟨⟨fd, dfnS Fn sc__law_some_world (fun ds g Q h => by unfold sp__law_some_world at h; (repeat (obtain ⟨_, h⟩ := h)); all_goals (subst_vars; rfl)) fun cdv A outer s H E F hr _ => ⟨_, der__law_some_world g (ok_draw g) (ok__law_row g) _ cdv A outer s H E F hr, fun ds gn Q h => pu__law_some_world ds gn Q h⟩, Fn.binds fun _ _ _ _ _ _ us hl => match us, hl with | [_, _, _, _, _], _ => rfl⟩, Fn.kp, g__law_some_world g⟩
theorem ok__law_count (g : G K mg) : Ok P w K mg base CX0 2 "_law_count" ["_law_units_so", "_law_deed_so", "_law_unit"] (spP T1 K (ckK K) sp__law_count) := by
  obtain ⟨fd, Fn⟩ := d__law_count g
  exact ⟨⟨fd, dfn Fn sc__law_count (fun ds Q R h => by unfold sp__law_count at h; (repeat (obtain ⟨_, h⟩ := h)); all_goals (subst_vars; rfl)) fun cdv A outer s H E F hr _ => ⟨_, der__law_count g (ok__law_stair g) _ cdv A outer s H E F hr, fun ds Q R h => pu__law_count ds Q R h⟩, Fn.binds fun _ _ _ _ _ _ us hl => match us, hl with | [_, _, _], _ => rfl⟩, Fn.kp, g__law_count g⟩
theorem ok__law_further (g : G K mg) : Ok P w K mg base CX0 3 "_law_further" ["_law_units_so", "_law_world_so", "_law_unit", "_law_here"] (spP T1 K (ckK K) sp__law_further) := by
  obtain ⟨fd, Fn⟩ := d__law_further g
  exact ⟨⟨fd, dfn Fn sc__law_further (fun ds Q R h => by unfold sp__law_further at h; (repeat (obtain ⟨_, h⟩ := h)); all_goals (subst_vars; rfl)) fun cdv A outer s H E F hr _ => ⟨_, der__law_further g (ok__law_count g) _ cdv A outer s H E F hr, fun ds Q R h => pu__law_further ds Q R h⟩, Fn.binds fun _ _ _ _ _ _ us hl => match us, hl with | [_, _, _, _], _ => rfl⟩, Fn.kp, g__law_further g⟩
theorem ok__law_leading (g : G K mg) : Ok P w K mg base CX0 1 "_law_leading" ["_law_world_so", "_law_places_so"] (spP T1 K (ckK K) sp__law_leading) := by
  obtain ⟨fd, Fn⟩ := d__law_leading g
  exact ⟨⟨fd, dfn Fn sc__law_leading (fun ds Q R h => by unfold sp__law_leading at h; (repeat (obtain ⟨_, h⟩ := h)); all_goals (subst_vars; rfl)) fun cdv A outer s H E F hr _ => ⟨_, der__law_leading g _ cdv A outer s H E F hr, fun ds Q R h => pu__law_leading ds Q R h⟩, Fn.binds fun _ _ _ _ _ _ us hl => match us, hl with | [_, _], _ => rfl⟩, Fn.kp, g__law_leading g⟩
theorem ok__law_needs_of (g : G K mg) : Ok P w K mg base CX0 4 "_law_needs_of" ["_law_units_so", "_law_world_so"] (spP T1 K (ckK K) sp__law_needs_of) := by
  obtain ⟨fd, Fn⟩ := d__law_needs_of g
  exact ⟨⟨fd, dfn Fn sc__law_needs_of (fun ds Q R h => by unfold sp__law_needs_of at h; (repeat (obtain ⟨_, h⟩ := h)); all_goals (subst_vars; rfl)) fun cdv A outer s H E F hr _ => ⟨_, der__law_needs_of g (ok__law_further g) (ok__law_leading g) (ok__law_row_of g) _ cdv A outer s H E F hr, fun ds Q R h => pu__law_needs_of ds Q R h⟩, Fn.binds fun _ _ _ _ _ _ us hl => match us, hl with | [_, _], _ => rfl⟩, Fn.kp, g__law_needs_of g⟩
theorem ok__law_put_in (g : G K mg) : Ok P w K mg base CX0 1 "_law_put_in" ["_law_world_so", "_law_index", "_law_deed_so"] (spP T1 K (ckK K) sp__law_put_in) := by
  obtain ⟨fd, Fn⟩ := d__law_put_in g
  exact ⟨⟨fd, dfn Fn sc__law_put_in (fun ds Q R h => by unfold sp__law_put_in at h; (repeat (obtain ⟨_, h⟩ := h)); all_goals (subst_vars; rfl)) fun cdv A outer s H E F hr _ => ⟨_, der__law_put_in g _ cdv A outer s H E F hr, fun ds Q R h => pu__law_put_in ds Q R h⟩, Fn.binds fun _ _ _ _ _ _ us hl => match us, hl with | [_, _, _], _ => rfl⟩, Fn.kp, g__law_put_in g⟩
theorem ok__law_lives (g : G K mg) : Ok P w K mg base CX0 5 "_law_lives" ["_law_units_so", "_law_world_so"] (spP T1 K (ckK K) sp__law_lives) := by
  obtain ⟨fd, Fn⟩ := d__law_lives g
  exact ⟨⟨fd, dfn Fn sc__law_lives (fun ds Q R h => by unfold sp__law_lives at h; (repeat (obtain ⟨_, h⟩ := h)); all_goals (subst_vars; rfl)) fun cdv A outer s H E F hr _ => ⟨_, der__law_lives g (ok__law_needs_of g) _ cdv A outer s H E F hr, fun ds Q R h => pu__law_lives ds Q R h⟩, Fn.binds fun _ _ _ _ _ _ us hl => match us, hl with | [_, _], _ => rfl⟩, Fn.kp, g__law_lives g⟩
theorem ok__law_rows_near (g : G K mg) : Ok P w K mg base CX0 4 "_law_rows_near" ["_law_state", "_law_units_so", "_law_row_here"] (spS T1 K sp__law_rows_near) := by
  obtain ⟨fd, Fn⟩ := d__law_rows_near g
  exact ⟨⟨fd, dfnS Fn sc__law_rows_near (fun ds g Q h => by unfold sp__law_rows_near at h; (repeat (obtain ⟨_, h⟩ := h)); all_goals (subst_vars; rfl)) fun cdv A outer s H E F hr _ => ⟨_, der__law_rows_near g (ok__law_row g) (ok__law_beside g) (ok_draw g) _ cdv A outer s H E F hr, fun ds gn Q h => pu__law_rows_near ds gn Q h⟩, Fn.binds fun _ _ _ _ _ _ us hl => match us, hl with | [_, _, _], _ => rfl⟩, Fn.kp, g__law_rows_near g⟩
theorem ok__law_like (g : G K mg) : OkG P w K mg base 1 "_law_like" ["_law_got", "_law_due"] (spP T1 K (ckK K) sp__law_like) := by
  obtain ⟨fd, Fn⟩ := d__law_like g
  exact ⟨⟨fd, dfnG Fn sc__law_like (fun ds Q R h => by unfold sp__law_like at h; (repeat (obtain ⟨_, h⟩ := h)); all_goals (subst_vars; rfl)) fun cdv A outer s H F ec hG hr hT => ⟨_, der__law_like g cdv A outer s H F hG hr, fun ds Q R h => pu__law_like ds Q R h⟩, Fn.binds fun _ _ _ _ _ _ us hl => match us, hl with | [_, _], _ => rfl⟩, Fn.kp, g__law_like g⟩
theorem ok__law_more_right (g : G K mg) (tb : ∀ p ∈ tf, TabB base mg (He.cT K p).1 (He.cT K p).2) : OkG P w K mg base 10 "_law_more_right" ["_law_state", "_law_units_so", "_law_world_so", "_law_index"] (spS (TL K) K sp__law_more_right) := by
  obtain ⟨fd, Fn⟩ := d__law_more_right g
  exact ⟨⟨fd, dfnSG Fn sc__law_more_right (fun ds g Q h => by unfold sp__law_more_right at h; (repeat (obtain ⟨_, h⟩ := h)); all_goals (subst_vars; rfl)) fun cdv A outer s H F ec hG hr hT => ⟨_, der__law_more_right g (ok_least_more g) (ok_most_more g) (ok__law_lives g) (ok__law_like g) (ok__law_rows_near g) (ok__law_put_in g) (ok__law_inside g) cdv A outer s H F hG tb ec hT hr, fun ds gn Q h => pu__law_more_right ds gn Q h⟩, Fn.binds fun _ _ _ _ _ _ us hl => match us, hl with | [_, _, _, _], _ => rfl⟩, Fn.kp, g__law_more_right g⟩
theorem ok__law_by_rows (g : G K mg) (tb : ∀ p ∈ tf, TabB base mg (He.cT K p).1 (He.cT K p).2) : OkG P w K mg base 10 "_law_by_rows" [] (spP (TL K) K (ckK K) sp__law_by_rows) := by
  obtain ⟨fd, Fn⟩ := d__law_by_rows g
  exact ⟨⟨fd, dfnG Fn sc__law_by_rows (fun ds Q R h => by unfold sp__law_by_rows at h; (repeat (obtain ⟨_, h⟩ := h)); all_goals (subst_vars; rfl)) fun cdv A outer s H F ec hG hr hT => ⟨_, der__law_by_rows g (ok_with_deed g) (ok_least_more g) (ok_most_more g) (ok__law_like g) cdv A outer s H F hG tb ec hT hr, fun ds Q R h => pu__law_by_rows ds Q R h⟩, Fn.binds fun _ _ _ _ _ _ us hl => match us, hl with | [], _ => rfl⟩, Fn.kp, g__law_by_rows g⟩
end
end Yd
set_option Elab.async false
set_option linter.all false
set_option maxRecDepth 100000
set_option maxHeartbeats 2000000
/-! # The law's promise -/
namespace Yd
open PySem PySem.Spec PyProof.Rows L2 LamX
theorem pss_ex {X : Cx} {st : List Stmt} {α : Type} {C : α → Prop} {t : α → TS} (h : ∀ a, C a → PSs X st (t a)) : PSs X st (fun D σ H => ∃ a, C a ∧ t a D σ H) := ⟨fun pins s σ H D I ⟨a, c, q⟩ => (h a c).run pins s σ H D I q⟩
def spLaw (K : PySem.W.Frag) : Sp := fun vs H Q _ => ∃ (a : Addr) (ns : List Int), vs = [.ref a] ∧ SqL K H a (ns.map V.int) ∧ ns.length ≤ 1000 ∧ Tabs (tabsL K) H ∧ ∀ H', Q (.bl true) H'
theorem fn_law {P : Program} {w : World} {K : PySem.W.Frag} {mg : Str → Option Value} {base : Heap} (g : G K mg) (tb : ∀ p ∈ tf, TabB base mg (He.cT K p).1 (He.cT K p).2) : OkG P w K mg base 11 "law" ["_law_script"] (spLaw K) := by
  obtain ⟨fd, Fn⟩ := d_law g
  refine ⟨⟨fd, fnG Fn sc_law ?_ fun cdv A outer s H vs Q ec hG hr ⟨a, ns, ev, hs, hl, ht, hq⟩ => ?_, ?_⟩, Fn.kp, g_law g⟩
  · rintro vs H Q E ⟨a, ns, ev, _⟩
    subst ev; rfl
  · have sc := sc_law
    subst ev
    refine ⟨_, pss_cons (ps_set (i := 1) sc.nd rfl (.inl rfl) (pe_ok (ok__law_begin g) hr (pa_cons (pv 0) pa_nil)))
      (pss_ex (C := fun F : Fm => TL K F.T) fun F hT => (der_law g (ok__law_units g) (ok__law_some_world g) (ok_draw g) (ok__law_row g) (ok_with_deed g) (ok__law_like g) (ok__law_put_in g) (ok__law_more_right g tb) (ok_least_more g) (ok_most_more g) (ok__law_by_rows g tb) cdv A outer s H F hG tb ec hT hr).nox), ?_⟩
    refine ⟨.ref a, rfl, a, ns, rfl, hs, hl, fun S C L H' e n1 n2 n3 st => ?_⟩
    refine ⟨⟨H', fun _ => none, tabsL K, some (S, C, L)⟩, rfl, fun _ => none, ⟨[.u, .st, .u, .u, .u, .u, .u, .u, .u, .u, .u, .u], 0⟩, { nx := fun _ => False, rt := fun d _ => d = .bool true }, ?_, pu_law fun _ => rfl, ?_⟩
    · obtain ⟨hS, cs, ls, hC, hL, _⟩ := id st
      refine ⟨fun _ _ z => (by cases z), Same.refl _, fun _ _ => rfl, fun _ _ h _ _ => h, fun _ h => h, fun _ _ z => (by cases z), fun S' C' L' e' => ?_, ht.ext e, rfl, fun i x hx => ?_, fun i j d d2 b hi => ?_⟩
      · cases e'
        exact ⟨st, ⟨⟨_, hS, fun _ z => nomatch z⟩, ⟨_, hC, fun _ z => nomatch z⟩, ⟨_, hL, fun _ z => nomatch z⟩⟩, rfl, rfl, rfl⟩
      · rcases i with _ | _ | i
        · cases hx; exact .u
        · cases hx; exact .st rfl rfl
        · have hx : (List.replicate 10 Sl.u)[i]? = some x := hx
          have := List.eq_of_mem_replicate (List.mem_of_getElem? hx)
          subst this; exact .u
      · have hm : Sl.o d ∈ ([.u, .st, .u, .u, .u, .u, .u, .u, .u, .u, .u, .u] : List Sl) := List.mem_of_getElem? hi
        simp at hm
    · exact ⟨fun _ z => z.elim, fun d ρ z v σ' H2 Hs2 R S2 iv => by subst z; cases iv; exact hq H2, fun _ z => z.elim, fun _ z => z.elim, fun _ _ z => z.elim⟩
  · exact Fn.binds fun _ _ _ _ _ _ us hl => match us, hl with | [_], _ => rfl
end Yd
set_option Elab.async false
set_option linter.all false
set_option maxRecDepth 100000
set_option maxHeartbeats 0
/-! # The end: the law is run where no repr is under way -/
namespace Yd
open PySem PySem.Spec PyProof.Rows L2 LamX
/-- an empty table of code objects; the script -/
abbrev tabO : Obj := { cls := .none, data := .fields #[] }
abbrev scrO (us : List Value) : Obj := { cls := .type "list", data := .seq us.toArray }
/-- what is followed at the law's entry: the tables, and the script where it is no part of K -/
def trkL (K : PySem.W.Frag) (ts : List Addr) (a : Addr) (us : List Value) (xs : List V) : Hp := fun b => if b ∈ ts then some (.tbl #[]) else if b = a ∧ K.lookup a = none then some (.frz (scrO us) (.lst xs)) else none
section
variable {K : PySem.W.Frag} {ts : List Addr} {a b : Addr} {us : List Value} {xs : List V} {h : Heap} {o : Obj}
theorem trk_tab (hb : b ∈ ts) : trkL K ts a us xs b = some (.tbl #[]) := if_pos hb
theorem trk_of {u : HO} (e : trkL K ts a us xs b = some u) : (b ∈ ts ∧ u = .tbl #[]) ∨ (b = a ∧ b ∉ ts ∧ K.lookup a = none ∧ u = .frz (scrO us) (.lst xs)) := by
  unfold trkL at e
  split at e
  · cases e; exact .inl ⟨‹_›, rfl⟩
  · split at e
    · rename_i n p
      cases e; exact .inr ⟨p.1, n, p.2, rfl⟩
    · cases e
/-- what is neither a table nor a list is not followed -/
theorem trk_free (hT : ∀ t ∈ ts, h.get? t = some tabO) (ha : h.get? a = some (scrO us)) (e : h.get? b = some o) (n1 : ∀ vs n, o.data ≠ .seq vs n) (n2 : o.data ≠ .fields #[]) : trkL K ts a us xs b = none := by
  cases q : trkL K ts a us xs b with
  | none => rfl
  | some u =>
    rcases trk_of q with ⟨p, _⟩ | ⟨p, _⟩
    · rw [hT b p] at e; cases e; exact absurd rfl n2
    · rw [p, ha] at e; cases e; exact absurd rfl (n1 _ _)
theorem trk_ns {m : Str → Option Value} (hT : ∀ t ∈ ts, h.get? t = some tabO) (ha : h.get? a = some (scrO us)) (e : h.Ns b m) : (hidT h (trkL K ts a us xs)).Ns b m := by
  obtain ⟨o, es, ep, q, d, r⟩ := e
  exact ⟨o, es, ep, hidT_get q (trk_free hT ha q (fun vs n z => by rw [d] at z; cases z) fun z => by rw [d] at z; cases z), d, r⟩
end
theorem law_runs {P : Program} {w : World} {K : PySem.W.Frag} {mg mb : Str → Option Value} {s₁ : Shared} {a : Addr} {us : List Value} {ns : List Int} (KX : K.In s₁.heap) (c : He.SaysX fa fn [] tf exK w s₁.heap K)
    (hns : s₁.heap.Ns mainGlobals mg) (hb : s₁.heap.Ns builtinsNs mb) (hbb : ∀ x : Str, x ≠ "__name__" → mb x = bootBuiltins x) (hlim : s₁.heap.NoLimit) (hg : s₁.gens = #[])
    (hbm : ∃ (bm : Addr) (ob : Obj), mg "__builtins__" = some (.ref bm) ∧ bm ≠ builtinsNs ∧ s₁.heap.get? bm = some ob ∧ ob.cls = .type "module" ∧ ob.dict = some builtinsNs ∧ ob.data = .plain)
    (ha : s₁.heap.get? a = some (scrO us)) (hi : IntsAre us ns) (hl : ns.length ≤ 63) :
    codeAny (model P w) callerA (.call (.ref (He.ga K "law")) ⟨[.ref a], []⟩) (fun r s' => r = .ok (.ret (.bool true)) ∧ OldK s₁.heap s'.heap ∧ s'.os = s₁.os ∧ AllBare s'.gens) s₁ := by
  have g : G K mg := ⟨⟨w, s₁.heap, KX, hns, c⟩⟩
  let ts : List Addr := tf.map fun p => (He.cT K p).2
  have mem : ∀ p ∈ tf, (He.cT K p).2 ∈ ts := fun p hp => List.mem_map.mpr ⟨p, hp, rfl⟩
  have hT : ∀ t ∈ ts, s₁.heap.get? t = some tabO := fun t ht => by
    obtain ⟨p, hp, e⟩ := List.mem_map.mp ht
    rw [← e]; exact c.empty p hp
  have aT : a ∉ ts := fun z => by
    have q := hT a z
    rw [ha] at q
    cases q
  have hL : (ns.map V.int).length ≤ sizeLine := by rw [List.length_map, sizeLine_eq]; omega
  have rv := vals_ints hi
  have ok : HOk P w (trkL K ts a us (ns.map V.int)) s₁.heap := fun b u e => by
    rcases trk_of e with ⟨p, rfl⟩ | ⟨rfl, _, _, rfl⟩
    · exact hT b p
    · exact ⟨ha, hL, us, _, rv, ha⟩
  have scr : SqL K (trkL K ts a us (ns.map V.int)) a (ns.map V.int) := by
    cases q : K.lookup a with
    | none =>
      refine .inl (.inr ⟨scrO us, ?_⟩)
      unfold trkL
      rw [if_neg aT, if_pos ⟨rfl, q⟩]
    | some o =>
      have e := KX a o q
      rw [ha] at e; cases e
      exact .inr ⟨_, us.toArray, _, q, rfl, rfl, rfl, by rw [List.size_toArray, ← rv.length]; exact hL, by simpa using rv⟩
  have kin : K.In (hidT s₁.heap (trkL K ts a us (ns.map V.int))) := fun b o e => hidT_get (KX b o e) (by
    cases q : trkL K ts a us (ns.map V.int) b with
    | none => rfl
    | some u =>
      rcases trk_of q with ⟨p, _⟩ | ⟨p, _, n, _⟩
      · obtain ⟨d, hd, e2⟩ := List.mem_map.mp p
        rw [← e2, c.out d hd] at e; cases e
      · rw [p, n] at e; cases e)
  have mod : L2.Mod K mg (hidT s₁.heap (trkL K ts a us (ns.map V.int))) := ⟨kin, trk_ns hT ha hns, ⟨mb, trk_ns hT ha hb, hbb⟩, let ⟨mc, h1, h2⟩ := hlim; ⟨mc, trk_ns hT ha h1, h2⟩⟩
  have tb : ∀ p ∈ tf, TabB (hidT s₁.heap (trkL K ts a us (ns.map V.int))) mg (He.cT K p).1 (He.cT K p).2 := fun p hp => by
    have q := hT _ (mem p hp)
    obtain ⟨bm, ob, b1, b2, b3, b4, b5, b6⟩ := hbm
    obtain ⟨go, ge, gp, g1, g2, _⟩ := hns
    refine ⟨PySem.W.codeHd_of_K kin (c.hd p hp), ⟨bm, ob, b1, b2, fun z => ?_, fun z => ?_, hidT_get b3 (trk_free hT ha b3 (fun vs n z => by rw [b6] at z; cases z) fun z => by rw [b6] at z; cases z), b4, b5, b6⟩, fun z => ?_⟩
    · rw [z, g1] at b3; cases b3; rw [g2] at b6; cases b6
    · rw [z, q] at b3; cases b3; cases b6
    · rw [z, q] at g1; cases g1; cases g2
  have e0 : Env0 P w K mg (hidT s₁.heap (trkL K ts a us (ns.map V.int))) callerA [] s₁ (trkL K ts a us (ns.map V.int)) := ⟨rfl, mod, fun b o e => of_hidT e, Nat.le_of_eq (hidT_size _ _), trivial, fun b z => (by cases z), ok, .of_eq hg⟩
  have tabs : Tabs (tabsL K) (trkL K ts a us (ns.map V.int)) := fun p hp => by
    obtain ⟨d, hd, e⟩ := List.mem_map.mp hp
    rw [← e]; exact .nil (trk_tab (mem d hd))
  obtain ⟨⟨fd, Fn, bi⟩, _, _⟩ := fn_law (P := P) (w := w) g tb
  have bt : BindsTo s₁ fd ⟨[.ref a], []⟩ [("_law_script", .ref a)] := by
    have q := bi s₁ [.ref a] KX rfl
    exact q
  refine codeAny_mono (Fn.run callerA [] s₁ _ ⟨[.ref a], []⟩ [.ref a] [.ref a] (fun v _ => v = .bl true) rfl ⟨rfl, by decide, by decide⟩ e0 bt (.cons rfl .nil) ⟨a, ns, rfl, scr, by omega, tabs, fun _ => rfl⟩) fun r s' h => ?_
  cases r with
  | error e => exact (show False from h).elim
  | ok fl =>
    cases fl with
    | next => exact False.elim h
    | brk => exact False.elim h
    | cont => exact False.elim h
    | ret u =>
      obtain ⟨v, H', os, bare, un, hok, rr, rfl⟩ := h
      obtain rfl : u = Value.bool true := rr
      have rest : ∀ b o, b ∉ ts → s₁.heap.get? b = some o → s'.heap.get? b = some o := fun b o nb e => by
        cases q : trkL K ts a us (ns.map V.int) b with
        | none => exact un.keep b o e q (fun z => by cases z) (fun z => by cases z)
        | some u =>
          rcases trk_of q with ⟨p, _⟩ | ⟨_, _, _, rfl⟩
          · exact absurd p nb
          · have e1 := (ok b _ q).1
            have e2 := (hok b _ (un.frzs b _ _ q)).1
            rw [e] at e1; cases e1; exact e2
      have grown : ∀ p ∈ tf, ∃ more : Array Value, s'.heap.get? (He.cT K p).2 = some { cls := .none, data := .fields more } := fun p hp => by
        obtain ⟨more, z⟩ := un.tbls _ #[] (trk_tab (mem p hp))
        exact ⟨_, hok _ _ z⟩
      refine ⟨rfl, ⟨fun b o e => ?_, fun b o e => ?_⟩, os, bare⟩
      · by_cases hb : b ∈ ts
        · obtain ⟨p, hp, rfl⟩ := List.mem_map.mp hb
          obtain ⟨more, hm⟩ := grown p hp
          have z := c.empty p hp
          rw [z] at e; cases e
          exact .inr (.inl ⟨((PySem.W.codeHd_of_K KX (c.hd p hp)).tab z).isCodeTable, rfl, #[], more, rfl, by rw [Array.empty_append]; exact hm⟩)
        · exact .inl (rest b o hb e)
      · by_cases hb : b ∈ ts
        · obtain ⟨p, hp, rfl⟩ := List.mem_map.mp hb
          obtain ⟨more, hm⟩ := grown p hp
          exact ⟨_, hm⟩
        · exact ⟨o, rest b o hb e⟩
theorem walk_law {q : Program} {loose : List Str} {XP : (Str → Option Value) → Heap → Prop} {d : DefRec} (hdf : d.params.defaults = []) (hname : d.name = ("law" : Str)) :
    PySem.W.WalkO q loose XP hk.says (PySem.W.OpenLaw.row PySem.Challenge.rw_stairyard_k45_whole_least_and_most_more).toRowW d [] (fun f vs => PySem.call f vs) := by
  refine Att.attach_callB (n := 63) rfl hdf fun w s₀ s₁ mg mb f o pm cd doc a vs ns Gr Y ho hd hcd hmg hobj hints hlen hbits hg => ?_
  obtain ⟨K, KX, c⟩ := Y
  have g : G K mg := ⟨⟨w, s₁.heap, KX, Gr.T.g, c⟩⟩
  have e : f = He.ga K "law" := by
    rw [hname] at hmg
    have q := hmg.symm.trans (g_law g)
    injection q with q
    injection q
  rw [e]
  exact law_runs KX c Gr.T.g Gr.T.b Gr.T.builtins Gr.T.nolimit hg Gr.T.bmain hobj hints hlen
end Yd
open PySem PySem.W PySem.Calls PyProof.Rows
theorem PySem.Challenge.cw_stairyard_k45_whole_least_and_most_more_holds : PySem.Challenge.rw_stairyard_k45_whole_least_and_most_more.Holds := by
  w_on; o_law
  refine HandSHeadRun.head_any (r := OpenLaw.row PySem.Challenge.rw_stairyard_k45_whole_least_and_most_more) (q := Yd.qv) (H := Yd.hk) (ob := Yd.ob) (M := 4000) (loose := Yd.nms) (d := HandSHeadRun.topDef (OpenLaw.row PySem.Challenge.rw_stairyard_k45_whole_least_and_most_more).prog 68) (kwd := []) Yd.ob_eq
    (by kernel_rfl) (fun s => by kernel_rfl) Yd.run (by kernel_rfl) (by kernel_rfl) (by kernel_rfl) (by rfl) (by first | assumption | decide +kernel) (by decide +kernel) ⟨rfl, rfl, rfl, rfl, rfl, by decide +kernel⟩ ?hw ?hc
  case hw => w_witness2
  case hc => exact Yd.walk_law (by kernel_rfl) (by kernel_rfl)
