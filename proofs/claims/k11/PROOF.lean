import PyProof.Rows.All
import Wide.All
import OpenK.AllK
import Wide.FinOn
import HandS.ForMost
import HandS.Walk
import HandS.Evl
import KE.DataMinMax
import KE.GoesMore
import KE.KRevSl
import KE.SortData
import KE.DatumOrd
import HandS.ForExc
import HandS.IsInst
import HandS.SetKeys
import HandS.DictTup
import HandS.Defaults
import HandS.Codes
import HandS.Conv
import KE.KEqDict
import HandS.ExcInit
import HandS.Nested
import KE.KExcSuper
import KE.KSuper
import HandS.ExcIs
import HandS.ExcField
import HandS.ExcValue
import HandS.Lambda
import KE.KDflt
import HandS.EndTab
import PySem.Challenge.RW_anyletter_k11_whole_made_words_by_all_st
set_option Elab.async false
set_option linter.all false
set_option maxRecDepth 100000
/-! The head: from the row to the call of law. -/
section
set_option maxHeartbeats 0
open PySem PySem.W PyProof.Rows
open_top hd for PySem.Challenge.rw_anyletter_k11_whole_made_words_by_all_st
end
section
/-! Edit distance, alignments, the least costs over begins: plain Lean, no program in sight. -/
namespace K11
/-- x is turned into y by c edits, from the left to the right -/
inductive Al : List Nat → List Nat → Nat → Prop
  | nil : Al [] [] 0
  | del (a : Nat) {x y : List Nat} {c : Nat} (h : Al x y c) : Al (a :: x) y (c + 1)
  | ins (b : Nat) {x y : List Nat} {c : Nat} (h : Al x y c) : Al x (b :: y) (c + 1)
  | sub (a b : Nat) {x y : List Nat} {c : Nat} (h : Al x y c) : Al (a :: x) (b :: y) (c + if a = b then 0 else 1)
theorem Al.cast {x y : List Nat} {c d : Nat} (h : Al x y c) (e : c = d) : Al x y d := e ▸ h
theorem Al.app {x y x' y' : List Nat} {c c' : Nat} (h : Al x y c) (h' : Al x' y' c') : Al (x ++ x') (y ++ y') (c + c') := by
  induction h with
  | nil => simpa using h'
  | del a _ ih => exact (Al.del a ih).cast (by omega)
  | ins b _ ih => exact (Al.ins b ih).cast (by omega)
  | sub a b _ ih => exact (Al.sub a b ih).cast (by omega)
theorem Al.one (a b : Nat) : Al [a] [b] (if a = b then 0 else 1) := (Al.sub a b Al.nil).cast (by omega)
theorem Al.del1 (a : Nat) : Al [a] [] 1 := Al.del a Al.nil
theorem Al.ins1 (b : Nat) : Al [] [b] 1 := Al.ins b Al.nil
theorem Al.rev {x y : List Nat} {c : Nat} (h : Al x y c) : Al x.reverse y.reverse c := by
  induction h with
  | nil => exact Al.nil
  | del a _ ih => simpa using ih.app (Al.del1 a)
  | ins b _ ih => simpa using ih.app (Al.ins1 b)
  | sub a b _ ih => simpa using ih.app (Al.one a b)
theorem Al.split {z y : List Nat} {c : Nat} (h : Al z y c) : ∀ x x' : List Nat, z = x ++ x' → ∃ y1 y2 c1 c2, y = y1 ++ y2 ∧ c = c1 + c2 ∧ Al x y1 c1 ∧ Al x' y2 c2 := by
  induction h with
  | nil =>
    intro x x' e
    obtain ⟨rfl, rfl⟩ := List.append_eq_nil_iff.mp e.symm
    exact ⟨[], [], 0, 0, rfl, rfl, Al.nil, Al.nil⟩
  | @del a z y c h ih =>
    intro x x' e
    cases x with
    | nil =>
      rw [List.nil_append] at e
      subst e
      exact ⟨[], y, 0, c + 1, rfl, by omega, Al.nil, Al.del a h⟩
    | cons a' x =>
      rw [List.cons_append] at e
      injection e with e1 e2
      subst e1
      obtain ⟨y1, y2, c1, c2, rfl, rfl, h1, h2⟩ := ih x x' e2
      exact ⟨y1, y2, c1 + 1, c2, rfl, by omega, Al.del a h1, h2⟩
  | @ins b z y c h ih =>
    intro x x' e
    obtain ⟨y1, y2, c1, c2, rfl, rfl, h1, h2⟩ := ih x x' e
    exact ⟨b :: y1, y2, c1 + 1, c2, rfl, by omega, Al.ins b h1, h2⟩
  | @sub a b z y c h ih =>
    intro x x' e
    cases x with
    | nil =>
      rw [List.nil_append] at e
      subst e
      exact ⟨[], b :: y, 0, _, rfl, by omega, Al.nil, Al.sub a b h⟩
    | cons a' x =>
      rw [List.cons_append] at e
      injection e with e1 e2
      subst e1
      obtain ⟨y1, y2, c1, c2, rfl, rfl, h1, h2⟩ := ih x x' e2
      exact ⟨b :: y1, y2, c1 + (if a = b then 0 else 1), c2, rfl, by omega, Al.sub a b h1, h2⟩
theorem Al.len {x y : List Nat} {c : Nat} (h : Al x y c) : x.length ≤ y.length + c ∧ y.length ≤ x.length + c := by
  induction h with
  | nil => simp
  | del a _ ih => simp only [List.length_cons]; omega
  | ins b _ ih => simp only [List.length_cons]; omega
  | sub a b _ ih => simp only [List.length_cons]; split <;> omega
theorem Al.ofNil : ∀ y : List Nat, Al [] y y.length
  | [] => Al.nil
  | b :: y => Al.ins b (Al.ofNil y)
theorem Al.toNil : ∀ x : List Nat, Al x [] x.length
  | [] => Al.nil
  | a :: x => Al.del a (Al.toNil x)
/-- the last step -/
theorem Al.consInv {x y : List Nat} {c : Nat} (h : Al x y c) : (x = [] ∧ y = [] ∧ c = 0) ∨ (∃ a x' c', x = a :: x' ∧ c = c' + 1 ∧ Al x' y c') ∨ (∃ b y' c', y = b :: y' ∧ c = c' + 1 ∧ Al x y' c') ∨
    ∃ a b x' y' c', x = a :: x' ∧ y = b :: y' ∧ c = c' + (if a = b then 0 else 1) ∧ Al x' y' c' := by
  cases h with
  | nil => exact .inl ⟨rfl, rfl, rfl⟩
  | del a h => exact .inr (.inl ⟨_, _, _, rfl, rfl, h⟩)
  | ins b h => exact .inr (.inr (.inl ⟨_, _, _, rfl, rfl, h⟩))
  | sub a b h => exact .inr (.inr (.inr ⟨_, _, _, _, _, rfl, rfl, rfl, h⟩))
theorem Al.snocInv {x y : List Nat} {a b c : Nat} (h : Al (x ++ [a]) (y ++ [b]) c) : (∃ c', c = c' + 1 ∧ Al x (y ++ [b]) c') ∨ (∃ c', c = c' + 1 ∧ Al (x ++ [a]) y c') ∨ ∃ c', c = c' + (if a = b then 0 else 1) ∧ Al x y c' := by
  have h' := h.rev
  simp only [List.reverse_append, List.reverse_cons, List.reverse_nil, List.nil_append, List.singleton_append] at h'
  rcases h'.consInv with ⟨e, _⟩ | ⟨a', x', c', e, rfl, k⟩ | ⟨b', y', c', e, rfl, k⟩ | ⟨a', b', x', y', c', e, e', rfl, k⟩
  · cases e
  · injection e with e1 e2
    subst e1 e2
    refine .inl ⟨c', rfl, ?_⟩
    simpa using k.rev
  · injection e with e1 e2
    subst e1 e2
    refine .inr (.inl ⟨c', rfl, ?_⟩)
    simpa using k.rev
  · injection e with e1 e2
    injection e' with e3 e4
    subst e1 e2 e3 e4
    refine .inr (.inr ⟨c', rfl, ?_⟩)
    simpa using k.rev
/-- a stretch of a text: n signs from b on -/
def seg (t : Nat → Nat) (b n : Nat) : List Nat := (List.range n).map fun i => t (b + i)
theorem seg_zero (t : Nat → Nat) (b : Nat) : seg t b 0 = [] := rfl
theorem seg_succ (t : Nat → Nat) (b n : Nat) : seg t b (n + 1) = seg t b n ++ [t (b + n)] := by
  unfold seg
  rw [List.range_succ, List.map_append]
  rfl
theorem seg_length (t : Nat → Nat) (b n : Nat) : (seg t b n).length = n := by simp [seg]
theorem seg_add (t : Nat → Nat) (b n m : Nat) : seg t b (n + m) = seg t b n ++ seg t (b + n) m := by
  induction m with
  | zero => simp [seg_zero]
  | succ m ih => rw [← Nat.add_assoc, seg_succ, ih, seg_succ, List.append_assoc, Nat.add_assoc]
theorem seg_congr {t u : Nat → Nat} {b b' n : Nat} (h : ∀ i, i < n → t (b + i) = u (b' + i)) : seg t b n = seg u b' n := by
  unfold seg
  apply List.map_congr_left
  intro i hi
  exact h i (List.mem_range.mp hi)
theorem seg_one (t : Nat → Nat) (b : Nat) : seg t b 1 = [t b] := by simp [seg]
/-- least edits, sign by sign: n signs of the text from b on, to the first j of the word -/
def ed (t w : Nat → Nat) (b : Nat) : Nat → Nat → Nat
  | 0, j => j
  | n + 1, 0 => n + 1
  | n + 1, j + 1 => min (min (ed t w b n (j + 1) + 1) (ed t w b (n + 1) j + 1)) (ed t w b n j + if t (b + n) = w j then 0 else 1)
theorem ed_zero_right (t w : Nat → Nat) (b : Nat) : ∀ n, ed t w b n 0 = n
  | 0 => by simp [ed]
  | n + 1 => by simp [ed]
theorem ed_al (t w : Nat → Nat) (b : Nat) : ∀ n j, Al (seg t b n) (seg w 0 j) (ed t w b n j)
  | 0, j => by
    have := Al.ofNil (seg w 0 j)
    rw [seg_length] at this
    simpa [seg_zero, ed] using this
  | n + 1, 0 => by
    have := Al.toNil (seg t b (n + 1))
    rw [seg_length] at this
    simpa [seg_zero, ed] using this
  | n + 1, j + 1 => by
    have h1 := ed_al t w b n (j + 1)
    have h2 := ed_al t w b (n + 1) j
    have h3 := ed_al t w b n j
    have k1 := h1.app (Al.del1 (t (b + n)))
    have k2 := h2.app (Al.ins1 (w j))
    have k3 := h3.app (Al.one (t (b + n)) (w j))
    rw [List.append_nil, ← seg_succ] at k1
    rw [List.append_nil] at k2
    have ew : seg w 0 (j + 1) = seg w 0 j ++ [w j] := by rw [seg_succ, Nat.zero_add]
    rw [← ew] at k2 k3
    rw [← seg_succ] at k3
    rw [ed]
    rcases Nat.le_total (ed t w b n (j + 1) + 1) (ed t w b (n + 1) j + 1) with q | q
    · rw [Nat.min_eq_left q]
      rcases Nat.le_total (ed t w b n (j + 1) + 1) (ed t w b n j + if t (b + n) = w j then 0 else 1) with r | r
      · rw [Nat.min_eq_left r]; exact k1
      · rw [Nat.min_eq_right r]; exact k3
    · rw [Nat.min_eq_right q]
      rcases Nat.le_total (ed t w b (n + 1) j + 1) (ed t w b n j + if t (b + n) = w j then 0 else 1) with r | r
      · rw [Nat.min_eq_left r]; exact k2
      · rw [Nat.min_eq_right r]; exact k3
theorem ed_least (t w : Nat → Nat) (b : Nat) : ∀ n j c, Al (seg t b n) (seg w 0 j) c → ed t w b n j ≤ c
  | 0, j, c, h => by
    have := h.len.2
    rw [seg_length, seg_length] at this
    simp only [ed]
    omega
  | n + 1, 0, c, h => by
    have := h.len.1
    rw [seg_length, seg_length] at this
    simp only [ed]
    omega
  | n + 1, j + 1, c, h => by
    have ew : seg w 0 (j + 1) = seg w 0 j ++ [w j] := by rw [seg_succ, Nat.zero_add]
    rw [seg_succ, ew] at h
    rw [ed]
    rcases h.snocInv with ⟨c', rfl, k⟩ | ⟨c', rfl, k⟩ | ⟨c', rfl, k⟩
    · rw [← ew] at k
      have := ed_least t w b n (j + 1) c' k
      omega
    · rw [← seg_succ] at k
      have := ed_least t w b (n + 1) j c' k
      omega
    · have := ed_least t w b n j c' k
      omega
theorem ed_len (t w : Nat → Nat) (b n j : Nat) : n ≤ j + ed t w b n j ∧ j ≤ n + ed t w b n j := by
  have h := (ed_al t w b n j).len
  rw [seg_length, seg_length] at h
  exact h
/-- it hangs on the two stretches alone -/
theorem ed_eq {t w t' w' : Nat → Nat} {b b' n j : Nat} (h : seg t b n = seg t' b' n) (h' : seg w 0 j = seg w' 0 j) : ed t w b n j = ed t' w' b' n j := by
  apply Nat.le_antisymm
  · apply ed_least
    rw [h, h']
    exact ed_al t' w' b' n j
  · apply ed_least
    rw [← h, ← h']
    exact ed_al t w b n j
/-- the least cost over all begins, sign by sign -/
def bb (t w cut : Nat → Nat) : Nat → Nat → Nat
  | 0, 0 => cut 0
  | 0, j + 1 => bb t w cut 0 j + 1
  | e + 1, 0 => min (cut (e + 1)) (bb t w cut e 0 + 1)
  | e + 1, j + 1 => min (min (bb t w cut (e + 1) j + 1) (bb t w cut e (j + 1) + 1)) (bb t w cut e j + if t e = w j then 0 else 1)
theorem bb_le (t w cut : Nat → Nat) : ∀ e j b, b ≤ e → bb t w cut e j ≤ cut b + ed t w b (e - b) j
  | 0, 0, b, h => by
    have : b = 0 := by omega
    subst this
    simp [bb]
  | 0, j + 1, b, h => by
    have : b = 0 := by omega
    subst this
    have ih := bb_le t w cut 0 j 0 (Nat.le_refl _)
    simp only [bb, Nat.sub_self, ed] at ih ⊢
    omega
  | e + 1, 0, b, h => by
    rw [ed_zero_right]
    simp only [bb]
    by_cases hb : b = e + 1
    · subst hb; omega
    · have ih := bb_le t w cut e 0 b (by omega)
      rw [ed_zero_right] at ih
      omega
  | e + 1, j + 1, b, h => by
    simp only [bb]
    have i1 := bb_le t w cut (e + 1) j b h
    by_cases hb : b = e + 1
    · subst hb
      rw [Nat.sub_self] at i1 ⊢
      simp only [ed] at i1 ⊢
      omega
    · have i2 := bb_le t w cut e (j + 1) b (by omega)
      have i3 := bb_le t w cut e j b (by omega)
      have es : e + 1 - b = (e - b) + 1 := by omega
      rw [es] at i1 ⊢
      rw [ed]
      have eb : b + (e - b) = e := by omega
      rw [eb]
      omega
theorem bb_ex (t w cut : Nat → Nat) : ∀ e j, ∃ b, b ≤ e ∧ bb t w cut e j = cut b + ed t w b (e - b) j
  | 0, 0 => ⟨0, Nat.le_refl _, by simp [bb, ed]⟩
  | 0, j + 1 => by
    obtain ⟨b, hb, e⟩ := bb_ex t w cut 0 j
    have : b = 0 := by omega
    subst this
    refine ⟨0, hb, ?_⟩
    simp only [bb, e, Nat.sub_self, ed]
    omega
  | e + 1, 0 => by
    obtain ⟨b, hb, q⟩ := bb_ex t w cut e 0
    rw [ed_zero_right] at q
    simp only [bb]
    rcases Nat.le_total (cut (e + 1)) (bb t w cut e 0 + 1) with r | r
    · refine ⟨e + 1, Nat.le_refl _, ?_⟩
      rw [ed_zero_right]
      omega
    · refine ⟨b, by omega, ?_⟩
      rw [ed_zero_right]
      omega
  | e + 1, j + 1 => by
    have key : ∀ v, (∃ b, b ≤ e + 1 ∧ v = cut b + ed t w b (e + 1 - b) (j + 1)) ∨ (∃ b, b ≤ e + 1 ∧ cut b + ed t w b (e + 1 - b) (j + 1) ≤ v) → v = bb t w cut (e + 1) (j + 1) → ∃ b, b ≤ e + 1 ∧ bb t w cut (e + 1) (j + 1) = cut b + ed t w b (e + 1 - b) (j + 1) := by
      rintro v (⟨b, hb, q⟩ | ⟨b, hb, q⟩) rfl
      · exact ⟨b, hb, q⟩
      · exact ⟨b, hb, Nat.le_antisymm (bb_le t w cut (e + 1) (j + 1) b hb) q⟩
    refine key (bb t w cut (e + 1) (j + 1)) (.inr ?_) rfl
    simp only [bb]
    obtain ⟨b1, h1, q1⟩ := bb_ex t w cut (e + 1) j
    obtain ⟨b2, h2, q2⟩ := bb_ex t w cut e (j + 1)
    obtain ⟨b3, h3, q3⟩ := bb_ex t w cut e j
    have s1 : ed t w b1 (e + 1 - b1) (j + 1) ≤ ed t w b1 (e + 1 - b1) j + 1 := by
      cases hh : e + 1 - b1 with
      | zero => simp [ed]
      | succ n => rw [ed]; omega
    have s2 : ed t w b2 (e + 1 - b2) (j + 1) ≤ ed t w b2 (e - b2) (j + 1) + 1 := by
      have : e + 1 - b2 = (e - b2) + 1 := by omega
      rw [this, ed]; omega
    have s3 : ed t w b3 (e + 1 - b3) (j + 1) ≤ ed t w b3 (e - b3) j + if t e = w j then 0 else 1 := by
      have : e + 1 - b3 = (e - b3) + 1 := by omega
      rw [this, ed]
      have eb : b3 + (e - b3) = e := by omega
      rw [eb]
      omega
    rcases Nat.le_total (bb t w cut (e + 1) j + 1) (bb t w cut e (j + 1) + 1) with q | q
    · rw [Nat.min_eq_left q]
      rcases Nat.le_total (bb t w cut (e + 1) j + 1) (bb t w cut e j + if t e = w j then 0 else 1) with r | r
      · rw [Nat.min_eq_left r]; exact ⟨b1, h1, by omega⟩
      · rw [Nat.min_eq_right r]; exact ⟨b3, by omega, by omega⟩
    · rw [Nat.min_eq_right q]
      rcases Nat.le_total (bb t w cut e (j + 1) + 1) (bb t w cut e j + if t e = w j then 0 else 1) with r | r
      · rw [Nat.min_eq_left r]; exact ⟨b2, by omega, by omega⟩
      · rw [Nat.min_eq_right r]; exact ⟨b3, by omega, by omega⟩
end K11
end
section
/-! The costs of the program and those of the law, over lists of codes; they agree as far as the law asks. -/
namespace K11
/-- the code at a place -/
abbrev at_ (T : List Nat) (i : Nat) : Nat := T.getD i 0
def cutA (T : List Nat) (i : Nat) : Nat := if 0 < i ∧ at_ T (i - 1) ≠ 32 then 1 else 0
def cutB (T : List Nat) (e : Nat) : Nat := if e < T.length ∧ at_ T e ≠ 32 then 1 else 0
def bbL (T W : List Nat) (e j : Nat) : Nat := bb (at_ T) (at_ W) (cutA T) e j
def edL (T W : List Nat) (b n j : Nat) : Nat := ed (at_ T) (at_ W) b n j
/-- the least of a list -/
def lmin : List Nat → Nat
  | [] => 0
  | [a] => a
  | a :: b :: l => min a (lmin (b :: l))
theorem lmin_spec : ∀ l : List Nat, l ≠ [] → lmin l ∈ l ∧ ∀ x ∈ l, lmin l ≤ x
  | [], h => absurd rfl h
  | [a], _ => by simp [lmin]
  | a :: b :: l, _ => by
    obtain ⟨h1, h2⟩ := lmin_spec (b :: l) (by simp)
    rw [lmin]
    constructor
    · rcases Nat.le_total a (lmin (b :: l)) with q | q
      · rw [Nat.min_eq_left q]; exact List.mem_cons_self
      · rw [Nat.min_eq_right q]; exact List.mem_cons_of_mem _ h1
    · intro x hx
      rcases List.mem_cons.mp hx with rfl | hx
      · omega
      · have := h2 x hx; omega
theorem lmin_unique {l : List Nat} {m : Nat} (h1 : m ∈ l) (h2 : ∀ x ∈ l, m ≤ x) : m = lmin l := by
  have hl : l ≠ [] := by intro e; subst e; cases h1
  obtain ⟨a, b⟩ := lmin_spec l hl
  exact Nat.le_antisymm (h2 _ a) (b _ h1)
/-- n copies of a word, single blanks between -/
def jn (x : List Nat) : Nat → List Nat
  | 0 => []
  | 1 => x
  | n + 2 => x ++ 32 :: jn x (n + 1)
def told (x w : List Nat) : Nat := (2 * w.length + 1) / (x.length + 1) + 2
def farN (x : List Nat) (far : Nat) : Nat := far / (x.length + 1) + 2
/-! the program's costs -/
def aloneT (x : List Nat) (w : List Nat) : List Nat := jn x (told x w)
def aloneC (x w : List Nat) : Nat := lmin ((List.range ((aloneT x w).length + 1)).map fun e => bbL (aloneT x w) w e w.length + cutB (aloneT x w) e)
def sideC (x w : List Nat) : List Nat := (List.range (w.length + 1)).map fun j => bbL (aloneT x w) w (aloneT x w).length j
def lostC (a b : List Nat) : List Nat := (List.range (a.length - 1 + 1)).map fun i => at_ a i + 1 + at_ b (a.length - 1 - i)
def chgC (a b : List Nat) : List Nat := (List.range (a.length - 1)).map fun i => at_ a i + 1 + at_ b (a.length - 1 - i - 1)
def borderC (a b : List Nat) : Nat := lmin (lostC a b ++ chgC a b)
def progC (f s w : List Nat) : Nat := if f = s then aloneC f w else borderC (sideC f w) (sideC s.reverse w.reverse)
/-! the law's costs -/
def ends (T w : List Nat) (M b : Nat) : List Nat := (List.range (min T.length (b + w.length + M) + 1 - b)).map fun i => b + i
def strC (T w : List Nat) (b e : Nat) : Nat := edL T w b (e - b) w.length + cutA T b + cutB T e
def lawAhead (f w : List Nat) (M : Nat) : List Nat := jn f (farN f (w.length + M))
def lawT (f s w : List Nat) (M : Nat) : List Nat := if f = s then lawAhead f w M else lawAhead f w M ++ 32 :: jn s (farN s (w.length + M))
def lawBegins (f s w : List Nat) (M : Nat) : List Nat :=
  if f = s then List.range (f.length + 2) else (List.range ((lawAhead f w M).length + 1 - ((lawAhead f w M).length - (w.length + M)))).map fun i => (lawAhead f w M).length - (w.length + M) + i
def lawCosts (f s w : List Nat) (M : Nat) : List Nat :=
  (lawBegins f s w M).flatMap fun b => ((ends (lawT f s w M) w M b).filter fun e => decide (f = s) || decide ((lawAhead f w M).length < e)).map fun e => strC (lawT f s w M) w b e
def lawC (f s w : List Nat) (M : Nat) : Nat := (lawCosts f s w M).foldl min 99
/-! ### the periodic text -/
def per (x : List Nat) (i : Nat) : Nat := if i % (x.length + 1) = x.length then 32 else at_ x (i % (x.length + 1))
theorem per_add (x : List Nat) (i k : Nat) : per x (i + k * (x.length + 1)) = per x i := by
  unfold per
  rw [Nat.add_mul_mod_self_right]
theorem per_lt {x : List Nat} {i : Nat} (h : i < x.length) : per x i = at_ x i := by
  unfold per
  rw [Nat.mod_eq_of_lt (by omega), if_neg (by omega)]
theorem per_len (x : List Nat) : per x x.length = 32 := by
  unfold per
  rw [Nat.mod_eq_of_lt (by omega), if_pos rfl]
theorem seg_at (x : List Nat) : seg (at_ x) 0 x.length = x := by
  apply List.ext_getElem
  · simp [seg]
  · intro i h1 h2
    simp [seg, at_, List.getD_eq_getElem?_getD, List.getElem?_eq_getElem h2]
theorem seg_take (x : List Nat) {j : Nat} (h : j ≤ x.length) : seg (at_ x) 0 j = x.take j := by
  apply List.ext_getElem
  · simp [seg]; omega
  · intro i h1 h2
    have h3 : i < x.length := by simp at h2; omega
    simp [seg, at_, List.getD_eq_getElem?_getD, List.getElem?_eq_getElem h3]
theorem jn_seg (x : List Nat) : ∀ n, jn x (n + 1) = seg (per x) 0 (n * (x.length + 1) + x.length)
  | 0 => by
    rw [Nat.zero_mul, Nat.zero_add x.length, jn]
    refine (seg_at x).symm.trans (seg_congr fun i hi => ?_)
    rw [Nat.zero_add]
    exact (per_lt hi).symm
  | n + 1 => by
    rw [jn, jn_seg x n]
    have e : (n + 1) * (x.length + 1) + x.length = x.length + 1 + (n * (x.length + 1) + x.length) := by rw [Nat.succ_mul]; omega
    rw [e, seg_add (per x) 0 (x.length + 1), seg_succ (per x) 0 x.length, Nat.zero_add, Nat.zero_add, per_len]
    have e1 : seg (per x) 0 x.length = x := by
      have := jn_seg x 0
      rw [Nat.zero_mul, Nat.zero_add x.length, jn] at this
      exact this.symm
    have e2 : seg (per x) (x.length + 1) (n * (x.length + 1) + x.length) = seg (per x) 0 (n * (x.length + 1) + x.length) := seg_congr fun i _ => by
      have := per_add x i 1
      rw [Nat.one_mul] at this
      rw [Nat.zero_add, Nat.add_comm (x.length + 1) i]
      exact this
    rw [e1, e2]
    simp
theorem jn_len (x : List Nat) (n : Nat) : (jn x (n + 1)).length = n * (x.length + 1) + x.length := by rw [jn_seg, seg_length]
theorem jn_at (x : List Nat) (n : Nat) {i : Nat} (h : i < (jn x (n + 1)).length) : at_ (jn x (n + 1)) i = per x i := by
  rw [jn_len] at h
  rw [jn_seg]
  simp [at_, seg, h]
theorem jn_end (x : List Nat) (n : Nat) : per x (jn x (n + 1)).length = 32 := by
  rw [jn_len, Nat.add_comm, per_add, per_len]
theorem at_append_left {a b : List Nat} {i : Nat} (h : i < a.length) : at_ (a ++ b) i = at_ a i := by
  simp [at_, List.getElem?_append_left h]
theorem at_append_right {a b : List Nat} {i : Nat} (h : a.length ≤ i) : at_ (a ++ b) i = at_ b (i - a.length) := by
  simp [at_, List.getElem?_append_right h]
end K11
end
section
namespace K11
/-! ### one word's copies: the endless text -/
def cA (x : List Nat) (b : Nat) : Nat := if 0 < b ∧ per x (b - 1) ≠ 32 then 1 else 0
def cB (x : List Nat) (e : Nat) : Nat := if per x e ≠ 32 then 1 else 0
def cost1 (x w : List Nat) (b n : Nat) : Nat := cA x b + ed (per x) (at_ w) b n w.length + cB x (b + n)
theorem cutA_jn {x : List Nat} {n b : Nat} (h : b ≤ (jn x (n + 1)).length) : cutA (jn x (n + 1)) b = cA x b := by
  unfold cutA cA
  by_cases hb : 0 < b
  · rw [jn_at x n (by omega)]
  · simp [hb]
theorem cutB_jn {x : List Nat} {n e : Nat} (h : e ≤ (jn x (n + 1)).length) : cutB (jn x (n + 1)) e = cB x e := by
  unfold cutB cB
  by_cases he : e < (jn x (n + 1)).length
  · rw [jn_at x n he]
    simp [he]
  · have : e = (jn x (n + 1)).length := by omega
    subst this
    rw [jn_end]
    simp
theorem ed_jn {x w : List Nat} {n b k : Nat} (h : b + k ≤ (jn x (n + 1)).length) (j : Nat) : ed (at_ (jn x (n + 1))) (at_ w) b k j = ed (per x) (at_ w) b k j :=
  ed_eq (seg_congr fun i hi => jn_at x n (by omega)) rfl
theorem cost1_shift (x w : List Nat) (b n : Nat) : cost1 x w (b % (x.length + 1)) n ≤ cost1 x w b n := by
  have hb : b = b % (x.length + 1) + b / (x.length + 1) * (x.length + 1) := by
    have := Nat.div_add_mod b (x.length + 1)
    rw [Nat.mul_comm] at this
    omega
  have sh : ∀ i, per x (b + i) = per x (b % (x.length + 1) + i) := fun i => by
    have := per_add x (b % (x.length + 1) + i) (b / (x.length + 1))
    rw [← this]
    congr 1
    omega
  have e1 : ed (per x) (at_ w) (b % (x.length + 1)) n w.length = ed (per x) (at_ w) b n w.length := ed_eq (seg_congr fun i _ => (sh i).symm) rfl
  have e2 : cB x (b % (x.length + 1) + n) = cB x (b + n) := by unfold cB; rw [sh]
  have e3 : cA x (b % (x.length + 1)) ≤ cA x b := by
    unfold cA
    by_cases h0 : 0 < b % (x.length + 1)
    · have e : per x (b - 1) = per x (b % (x.length + 1) - 1) := by
        have := per_add x (b % (x.length + 1) - 1) (b / (x.length + 1))
        rw [← this]
        congr 1
        omega
      have hb0 : 0 < b := by omega
      rw [e]
      simp only [h0, hb0, true_and]
      exact Nat.le_refl _
    · simp [h0]
  unfold cost1
  rw [e1, e2]
  omega
theorem cost1_len (x w : List Nat) (b n : Nat) : n ≤ cost1 x w b n + w.length := by
  have := (ed_len (per x) (at_ w) b n w.length).1
  unfold cost1
  omega
theorem cost1_zero (x w : List Nat) : cost1 x w 0 0 ≤ w.length + 1 := by
  unfold cost1 cA cB
  simp only [ed]
  split <;> split <;> omega
theorem len_of (m n k : Nat) (h : k / (m + 1) + 1 = n) : k + 1 ≤ n * (m + 1) := by
  have := Nat.lt_div_mul_add (a := k) (b := m + 1) (by omega)
  subst h
  rw [Nat.succ_mul]
  omega
theorem aloneT_eq (x w : List Nat) : ∃ n, aloneT x w = jn x (n + 1) ∧ told x w = n + 1 ∧ 2 * w.length + 1 + x.length + 1 ≤ (jn x (n + 1)).length := by
  refine ⟨(2 * w.length + 1) / (x.length + 1) + 1, rfl, rfl, ?_⟩
  rw [jn_len]
  have := len_of x.length _ (2 * w.length + 1) rfl
  omega
theorem aloneC_spec (x w : List Nat) : (∃ b n, aloneC x w = cost1 x w b n) ∧ ∀ b n, aloneC x w ≤ cost1 x w b n := by
  obtain ⟨N, eT, _, hl⟩ := aloneT_eq x w
  have L : ((List.range ((aloneT x w).length + 1)).map fun e => bbL (aloneT x w) w e w.length + cutB (aloneT x w) e) ≠ [] := by simp
  obtain ⟨hm, hle⟩ := lmin_spec _ L
  have small : ∀ b n, b + n ≤ (jn x (N + 1)).length → aloneC x w ≤ cost1 x w b n := by
    intro b n h
    have hb : bbL (jn x (N + 1)) w (b + n) w.length ≤ _ := bb_le (at_ (jn x (N + 1))) (at_ w) (cutA (jn x (N + 1))) (b + n) w.length b (by omega)
    rw [show b + n - b = n by omega, cutA_jn (by omega), ed_jn h] at hb
    have hx := hle (bbL (aloneT x w) w (b + n) w.length + cutB (aloneT x w) (b + n)) (List.mem_map.mpr ⟨b + n, List.mem_range.mpr (by rw [eT]; omega), rfl⟩)
    rw [eT, cutB_jn h] at hx
    unfold aloneC cost1
    rw [eT]
    omega
  refine ⟨?_, ?_⟩
  · obtain ⟨e, he, q⟩ := List.mem_map.mp hm
    have he' := List.mem_range.mp he
    rw [eT] at he'
    obtain ⟨b, hb, q2⟩ := bb_ex (at_ (aloneT x w)) (at_ w) (cutA (aloneT x w)) e w.length
    refine ⟨b, e - b, ?_⟩
    unfold aloneC
    rw [← q]
    unfold bbL cost1
    rw [q2, eT, cutA_jn (by omega), cutB_jn (by omega), ed_jn (by omega)]
    rw [show b + (e - b) = e by omega]
  · intro b n
    have h0 := small 0 0 (by omega)
    have h1 := cost1_zero x w
    by_cases hn : n ≤ 2 * w.length + 1
    · refine Nat.le_trans (small (b % (x.length + 1)) n ?_) (cost1_shift x w b n)
      have := Nat.mod_lt b (show 0 < x.length + 1 by omega)
      omega
    · have := cost1_len x w b n
      omega
theorem aloneC_le (x w : List Nat) : aloneC x w ≤ w.length + 1 := Nat.le_trans ((aloneC_spec x w).2 0 0) (cost1_zero x w)
/-! ### a fold of the least -/
theorem foldl_min : ∀ (l : List Nat) (a : Nat), (l.foldl min a = a ∨ l.foldl min a ∈ l) ∧ l.foldl min a ≤ a ∧ ∀ x ∈ l, l.foldl min a ≤ x
  | [], a => by simp
  | y :: l, a => by
    obtain ⟨h1, h2, h3⟩ := foldl_min l (min a y)
    rw [List.foldl_cons]
    refine ⟨?_, by omega, ?_⟩
    · rcases h1 with h1 | h1
      · rw [h1]
        rcases Nat.le_total a y with q | q
        · left; omega
        · right; rw [Nat.min_eq_right q]; exact List.mem_cons_self
      · exact .inr (List.mem_cons_of_mem _ h1)
    · intro x hx
      rcases List.mem_cons.mp hx with rfl | hx
      · omega
      · exact h3 x hx
/-- what the law reckons agrees with what the program reckons, as far as M -/
def Agree (lc pc M : Nat) : Prop := pc ≤ lc ∧ (pc ≤ M → lc ≤ pc)
theorem Agree.iff {lc pc M k : Nat} (h : Agree lc pc M) (hk : k ≤ M) : lc ≤ k ↔ pc ≤ k := by
  obtain ⟨a, b⟩ := h
  constructor
  · intro q; omega
  · intro q; have := b (by omega); omega
theorem mem_ends {T w : List Nat} {M b e : Nat} : e ∈ ends T w M b ↔ b ≤ e ∧ e ≤ T.length ∧ e ≤ b + w.length + M := by
  unfold ends
  rw [List.mem_map]
  constructor
  · rintro ⟨i, hi, rfl⟩
    have := List.mem_range.mp hi
    omega
  · rintro ⟨h1, h2, h3⟩
    exact ⟨e - b, List.mem_range.mpr (by omega), by omega⟩
theorem alone_agree (x w : List Nat) (M : Nat) (hw : w.length ≤ 90) : Agree (lawC x x w M) (aloneC x w) M := by
  obtain ⟨⟨b0, n0, e0⟩, hall⟩ := aloneC_spec x w
  have hA := aloneC_le x w
  obtain ⟨h1, h2, h3⟩ := foldl_min (lawCosts x x w M) 99
  have eT : lawT x x w M = jn x ((w.length + M) / (x.length + 1) + 1 + 1) := by unfold lawT lawAhead farN; rw [if_pos rfl]
  have hl : w.length + M + x.length + 1 ≤ (lawT x x w M).length := by
    rw [eT, jn_len]
    have := len_of x.length _ (w.length + M) rfl
    omega
  have str : ∀ b n, b + n ≤ (lawT x x w M).length → strC (lawT x x w M) w b (b + n) = cost1 x w b n := by
    intro b n h
    rw [eT] at h ⊢
    unfold strC edL cost1
    rw [show b + n - b = n by omega, ed_jn h, cutA_jn (by omega), cutB_jn h]
    omega
  refine ⟨?_, ?_⟩
  · unfold lawC
    rcases h1 with h1 | h1
    · rw [h1]; omega
    · obtain ⟨b, hb, hx⟩ := List.mem_flatMap.mp h1
      obtain ⟨e, he, hx⟩ := List.mem_map.mp hx
      have he := mem_ends.mp (List.mem_filter.mp he).1
      rw [← hx, show e = b + (e - b) by omega, str b (e - b) (by omega)]
      exact hall _ _
  · intro hM
    unfold lawC
    have hn := cost1_len x w b0 n0
    have hs := cost1_shift x w b0 n0
    have hm := Nat.mod_lt b0 (show 0 < x.length + 1 by omega)
    refine Nat.le_trans (h3 (cost1 x w (b0 % (x.length + 1)) n0) ?_) (by omega)
    refine List.mem_flatMap.mpr ⟨b0 % (x.length + 1), ?_, List.mem_map.mpr ⟨b0 % (x.length + 1) + n0, List.mem_filter.mpr ⟨mem_ends.mpr ⟨by omega, by omega, by omega⟩, by simp⟩, str _ _ (by omega)⟩⟩
    unfold lawBegins
    rw [if_pos rfl]
    exact List.mem_range.mpr (by omega)
end K11
end
section
namespace K11
/-! ### over the border -/
theorem rev_getD {x : List Nat} {i : Nat} (h : i < x.length) : at_ x.reverse i = at_ x (x.length - 1 - i) := by
  simp [at_, List.getD_eq_getElem?_getD, List.getElem?_reverse h]
theorem per_at (x : List Nat) (q r : Nat) (hr : r ≤ x.length) : per x (q * (x.length + 1) + r) = if r = x.length then 32 else at_ x r := by
  rw [Nat.add_comm, per_add]
  unfold per
  rw [Nat.mod_eq_of_lt (by omega)]
theorem per_rev (x : List Nat) {n i : Nat} (h : i < (jn x (n + 1)).length) : per x ((jn x (n + 1)).length - 1 - i) = per x.reverse i := by
  rw [jn_len] at h ⊢
  obtain ⟨q, r, hi, hr⟩ : ∃ q r, i = q * (x.length + 1) + r ∧ r < x.length + 1 := ⟨i / (x.length + 1), i % (x.length + 1), by rw [Nat.mul_comm]; exact (Nat.div_add_mod _ _).symm, Nat.mod_lt _ (by omega)⟩
  have hq : q ≤ n := by
    apply Nat.le_of_lt_succ
    apply Nat.lt_of_mul_lt_mul_right (a := x.length + 1)
    rw [Nat.succ_mul]
    omega
  obtain ⟨k, rfl⟩ : ∃ k, n = q + k := ⟨n - q, by omega⟩
  have hn : (q + k) * (x.length + 1) = q * (x.length + 1) + k * (x.length + 1) := Nat.add_mul _ _ _
  have hR : per x.reverse i = if r = x.length then 32 else at_ x.reverse r := by
    have := per_at x.reverse q r (by rw [List.length_reverse]; omega)
    rw [List.length_reverse] at this
    rw [hi]
    exact this
  rw [hR]
  by_cases hx : r = x.length
  · rw [if_pos hx]
    cases k with
    | zero => omega
    | succ k =>
      have e : (q + (k + 1)) * (x.length + 1) + x.length - 1 - i = k * (x.length + 1) + x.length := by
        have : (k + 1) * (x.length + 1) = k * (x.length + 1) + (x.length + 1) := Nat.succ_mul _ _
        omega
      rw [e, per_at x k x.length (Nat.le_refl _), if_pos rfl]
  · rw [if_neg hx]
    have e : (q + k) * (x.length + 1) + x.length - 1 - i = k * (x.length + 1) + (x.length - 1 - r) := by omega
    rw [e, per_at x k _ (by omega), if_neg (by omega), rev_getD (by omega)]
/-- d signs ahead of the border; f signs behind it -/
def Ls (x : List Nat) (d : Nat) : List Nat := (seg (per x.reverse) 0 d).reverse
def Rs (x : List Nat) (f : Nat) : List Nat := seg (per x) 0 f
def cL (x : List Nat) (d : Nat) : Nat := if per x.reverse d ≠ 32 then 1 else 0
def cR (x : List Nat) (f : Nat) : Nat := if per x f ≠ 32 then 1 else 0
theorem Ls_length (x : List Nat) (d : Nat) : (Ls x d).length = d := by simp [Ls, seg_length]
theorem Rs_length (x : List Nat) (d : Nat) : (Rs x d).length = d := by simp [Rs, seg_length]
theorem seg_rev (t : Nat → Nat) (b n : Nat) : (seg t b n).reverse = (List.range n).map fun i => t (b + (n - 1 - i)) := by
  apply List.ext_getElem
  · simp [seg]
  · intro i h1 h2
    simp [seg]
/-- a stretch that ends where the copies end -/
theorem seg_Ls (x : List Nat) {n d : Nat} (h : d ≤ (jn x (n + 1)).length) : seg (at_ (jn x (n + 1))) ((jn x (n + 1)).length - d) d = Ls x d := by
  unfold Ls
  rw [seg_rev]
  unfold seg
  apply List.map_congr_left
  intro i hi
  have hi := List.mem_range.mp hi
  rw [Nat.zero_add, jn_at x n (by omega), ← per_rev x (n := n) (by omega)]
  congr 1
  omega
theorem cutA_Ls (x : List Nat) {n d : Nat} (h : d ≤ (jn x (n + 1)).length) : cutA (jn x (n + 1)) ((jn x (n + 1)).length - d) = cL x d := by
  unfold cutA cL
  by_cases hd : d = (jn x (n + 1)).length
  · have : per x.reverse d = 32 := by
      have e : (jn x (n + 1)).length = (jn x.reverse (n + 1)).length := by rw [jn_len, jn_len, List.length_reverse]
      rw [hd, e, jn_end]
    rw [this]
    simp [hd]
  · rw [jn_at x n (by omega)]
    have : (jn x (n + 1)).length - d - 1 = (jn x (n + 1)).length - 1 - d := by omega
    rw [this, per_rev x (by omega)]
    have h0 : 0 < (jn x (n + 1)).length - d := by omega
    simp [h0]
/-- what a side costs -/
theorem sideC_at (x w : List Nat) {j : Nat} (h : j ≤ w.length) : at_ (sideC x w) j = bbL (aloneT x w) w (aloneT x w).length j := by
  unfold sideC at_
  have h' : j < w.length + 1 := by omega
  simp [h']
theorem sideC_length (x w : List Nat) : (sideC x w).length = w.length + 1 := by simp [sideC]
theorem sideC_le (x w : List Nat) {j : Nat} (hj : j ≤ w.length) {d c : Nat} (hd : d ≤ (aloneT x w).length) (h : Al (Ls x d) (w.take j) c) : at_ (sideC x w) j ≤ cL x d + c := by
  obtain ⟨N, eT, _, _⟩ := aloneT_eq x w
  rw [sideC_at x w hj]
  have hb : bbL (aloneT x w) w (aloneT x w).length j ≤ _ := bb_le (at_ (aloneT x w)) (at_ w) (cutA (aloneT x w)) (aloneT x w).length j ((aloneT x w).length - d) (by omega)
  rw [show (aloneT x w).length - ((aloneT x w).length - d) = d by omega] at hb
  have hc : cutA (aloneT x w) ((aloneT x w).length - d) = cL x d := by
    rw [eT] at hd ⊢
    exact cutA_Ls x hd
  have he : ed (at_ (aloneT x w)) (at_ w) ((aloneT x w).length - d) d j ≤ c := by
    apply ed_least
    rw [seg_take w hj]
    rw [eT] at hd ⊢
    rw [seg_Ls x hd]
    exact h
  omega
theorem sideC_ex (x w : List Nat) {j : Nat} (hj : j ≤ w.length) : ∃ d c, Al (Ls x d) (w.take j) c ∧ at_ (sideC x w) j = cL x d + c := by
  obtain ⟨N, eT, _, _⟩ := aloneT_eq x w
  rw [sideC_at x w hj]
  obtain ⟨b, hb, e⟩ := bb_ex (at_ (aloneT x w)) (at_ w) (cutA (aloneT x w)) (aloneT x w).length j
  have hA := ed_al (at_ (aloneT x w)) (at_ w) b ((aloneT x w).length - b) j
  refine ⟨(aloneT x w).length - b, ed (at_ (aloneT x w)) (at_ w) b ((aloneT x w).length - b) j, ?_, ?_⟩
  · rw [seg_take w hj] at hA
    have hs : seg (at_ (aloneT x w)) b ((aloneT x w).length - b) = Ls x ((aloneT x w).length - b) := by
      have := seg_Ls x (n := N) (d := (aloneT x w).length - b) (by rw [eT]; omega)
      rw [← this, ← eT]
      congr 1
      omega
    rw [hs] at hA
    exact hA
  · have hc : cutA (aloneT x w) b = cL x ((aloneT x w).length - b) := by
      have := cutA_Ls x (n := N) (d := (aloneT x w).length - b) (by rw [eT]; omega)
      rw [← this, ← eT]
      congr 1
      omega
    unfold bbL
    rw [e, hc]
theorem Ls_rev (x : List Nat) (d : Nat) : Ls x.reverse d = (Rs x d).reverse := by unfold Ls Rs; rw [List.reverse_reverse]
theorem cL_rev (x : List Nat) (d : Nat) : cL x.reverse d = cR x d := by unfold cL cR; rw [List.reverse_reverse]
theorem take_rev (w : List Nat) {j : Nat} : w.reverse.take j = (w.drop (w.length - j)).reverse := by
  rw [List.take_reverse]
theorem behind_le (y w : List Nat) {j : Nat} (hj : j ≤ w.length) {f c : Nat} (hf : f ≤ (aloneT y.reverse w.reverse).length) (h : Al (Rs y f) (w.drop (w.length - j)) c) :
    at_ (sideC y.reverse w.reverse) j ≤ cR y f + c := by
  have := sideC_le y.reverse w.reverse (j := j) (by rw [List.length_reverse]; exact hj) hf (c := c) (by
    rw [Ls_rev, take_rev]
    exact h.rev)
  rw [cL_rev] at this
  exact this
theorem behind_ex (y w : List Nat) {j : Nat} (hj : j ≤ w.length) : ∃ f c, Al (Rs y f) (w.drop (w.length - j)) c ∧ at_ (sideC y.reverse w.reverse) j = cR y f + c := by
  obtain ⟨f, c, h, e⟩ := sideC_ex y.reverse w.reverse (j := j) (by rw [List.length_reverse]; exact hj)
  refine ⟨f, c, ?_, ?_⟩
  · rw [Ls_rev, take_rev] at h
    have := h.rev
    rwa [List.reverse_reverse, List.reverse_reverse] at this
  · rw [cL_rev] at e
    exact e
/-- a way over the border: so many edits with the letters that are cut off -/
def Over (x y w : List Nat) (d f c : Nat) : Prop := Al (Ls x d ++ 32 :: Rs y f) w c
theorem over_len {x y w : List Nat} {d f c : Nat} (h : Over x y w d f c) : d + 1 + f ≤ w.length + c := by
  have := h.len.1
  rw [List.length_append, List.length_cons, Ls_length, Rs_length] at this
  omega
theorem blank_cost {w : List Nat} (hw : 32 ∉ w) {c : Nat} (h : Al [32] w c) : 1 ≤ c ∧ w.length ≤ c := by
  have key : ∀ {z v : List Nat} {c : Nat}, Al z v c → z = [32] → 32 ∉ v → 1 ≤ c ∧ v.length ≤ c := by
    intro z v c h
    induction h with
    | nil => intro e; cases e
    | @del a x y c h ih =>
      intro e hv
      injection e with e1 e2
      subst e2
      have := h.len.2
      simp at this
      omega
    | @ins b x y c h ih =>
      intro e hv
      have := ih e (fun q => hv (List.mem_cons_of_mem _ q))
      simp only [List.length_cons]
      omega
    | @sub a b x y c h ih =>
      intro e hv
      injection e with e1 e2
      subst e1 e2
      have hb : ¬ (32 = b) := fun q => hv (q ▸ List.mem_cons_self)
      have := h.len.2
      rw [if_neg hb]
      simp at this ⊢
      omega
  exact key h rfl hw
theorem lostC_mem {a b : List Nat} {v : Nat} : v ∈ lostC a b ↔ ∃ i, i < a.length - 1 + 1 ∧ v = at_ a i + 1 + at_ b (a.length - 1 - i) := by
  unfold lostC
  rw [List.mem_map]
  constructor
  · rintro ⟨i, hi, rfl⟩; exact ⟨i, List.mem_range.mp hi, rfl⟩
  · rintro ⟨i, hi, rfl⟩; exact ⟨i, List.mem_range.mpr hi, rfl⟩
theorem chgC_mem {a b : List Nat} {v : Nat} : v ∈ chgC a b ↔ ∃ i, i < a.length - 1 ∧ v = at_ a i + 1 + at_ b (a.length - 1 - i - 1) := by
  unfold chgC
  rw [List.mem_map]
  constructor
  · rintro ⟨i, hi, rfl⟩; exact ⟨i, List.mem_range.mp hi, rfl⟩
  · rintro ⟨i, hi, rfl⟩; exact ⟨i, List.mem_range.mpr hi, rfl⟩
abbrev bordC (x y w : List Nat) : Nat := borderC (sideC x w) (sideC y.reverse w.reverse)
theorem bordC_spec (x y w : List Nat) (hw : 32 ∉ w) : (∃ d f c, Over x y w d f c ∧ bordC x y w = cL x d + c + cR y f) ∧ ∀ d f c, Over x y w d f c → bordC x y w ≤ cL x d + c + cR y f := by
  have hne : lostC (sideC x w) (sideC y.reverse w.reverse) ++ chgC (sideC x w) (sideC y.reverse w.reverse) ≠ [] := by simp [lostC]
  obtain ⟨hm, hle⟩ := lmin_spec _ hne
  have hlen : (sideC x w).length - 1 = w.length := by rw [sideC_length]; omega
  have small : ∀ d f c, d ≤ (aloneT x w).length → f ≤ (aloneT y.reverse w.reverse).length → Over x y w d f c → bordC x y w ≤ cL x d + c + cR y f := by
    intro d f c hd hf h
    obtain ⟨w1, w', c1, c', e1, rfl, a1, a'⟩ := Al.split h _ _ rfl
    obtain ⟨w2, w3, c2, c3, e2, rfl, a2, a3⟩ := Al.split a' [32] (Rs y f) rfl
    subst e2
    have hw2 : 32 ∉ w2 := fun q => hw (by rw [e1]; simp [q])
    have hb := blank_cost hw2 a2
    have hl : w.length = w1.length + (w2.length + w3.length) := by rw [e1]; simp
    have t1 : w.take w1.length = w1 := by rw [e1]; simp
    have s1 := sideC_le x w (j := w1.length) (by omega) hd (c := c1) (by rw [t1]; exact a1)
    cases w2 with
    | nil =>
      have t3 : w.drop (w.length - w3.length) = w3 := by rw [e1]; simp
      have s3 := behind_le y w (j := w3.length) (by omega) hf (c := c3) (by rw [t3]; exact a3)
      have hx := hle _ (List.mem_append_left _ (lostC_mem.mpr ⟨w1.length, by rw [hlen]; omega, rfl⟩))
      rw [hlen, show w.length - w1.length = w3.length by simp at hl; omega] at hx
      unfold bordC borderC
      omega
    | cons v w2 =>
      have a4 : Al (Rs y f) (w2 ++ w3) (w2.length + c3) := (Al.ofNil w2).app a3
      have t3 : w.drop (w.length - (w2.length + w3.length)) = w2 ++ w3 := by
        have : w.length - (w2.length + w3.length) = w1.length + 1 := by simp at hl; omega
        rw [this, e1]
        simp
      have s3 := behind_le y w (j := w2.length + w3.length) (by simp at hl; omega) hf (c := w2.length + c3) (by rw [t3]; exact a4)
      have hx := hle _ (List.mem_append_right _ (chgC_mem.mpr ⟨w1.length, by rw [hlen]; simp at hl; omega, rfl⟩))
      rw [hlen, show w.length - w1.length - 1 = w2.length + w3.length by simp at hl; omega] at hx
      unfold bordC borderC
      simp at hb
      omega
  refine ⟨?_, ?_⟩
  · rcases List.mem_append.mp hm with h | h
    · obtain ⟨i, hi, q⟩ := lostC_mem.mp h
      rw [hlen] at hi q
      obtain ⟨d, c1, a1, q1⟩ := sideC_ex x w (j := i) (by omega)
      obtain ⟨f, c3, a3, q3⟩ := behind_ex y w (j := w.length - i) (by omega)
      rw [show w.length - (w.length - i) = i by omega] at a3
      refine ⟨d, f, c1 + (1 + c3), ?_, ?_⟩
      · have h3 := a1.app (Al.app (Al.del1 32) a3)
        have e : w.take i ++ ([] ++ w.drop i) = w := by simp
        rw [e] at h3
        exact h3
      · unfold bordC borderC
        omega
    · obtain ⟨i, hi, q⟩ := chgC_mem.mp h
      rw [hlen] at hi q
      obtain ⟨d, c1, a1, q1⟩ := sideC_ex x w (j := i) (by omega)
      obtain ⟨f, c3, a3, q3⟩ := behind_ex y w (j := w.length - i - 1) (by omega)
      rw [show w.length - (w.length - i - 1) = i + 1 by omega] at a3
      refine ⟨d, f, c1 + (1 + c3), ?_, ?_⟩
      · have hb : ¬ (32 = w[i]) := fun q => hw (q ▸ List.getElem_mem _)
        have h2 := (Al.one 32 w[i]).cast (if_neg hb)
        have h3 := a1.app (Al.app h2 a3)
        have e : w.take i ++ ([w[i]] ++ w.drop (i + 1)) = w := by
          rw [List.singleton_append, List.getElem_cons_drop, List.take_append_drop]
        rw [e] at h3
        exact h3
      · unfold bordC borderC
        omega
  · intro d f c h
    obtain ⟨N1, eT1, _, hl1⟩ := aloneT_eq x w
    obtain ⟨N2, eT2, _, hl2⟩ := aloneT_eq y.reverse w.reverse
    rw [← eT1] at hl1
    rw [← eT2, List.length_reverse] at hl2
    have h0 : Over x y w 0 0 (1 + w.length) := Al.app (Al.del1 32) (Al.ofNil w)
    have s0 := small 0 0 _ (by omega) (by omega) h0
    have z1 : cL x 0 ≤ 1 := by unfold cL; split <;> omega
    have z2 : cR y 0 ≤ 1 := by unfold cR; split <;> omega
    have hc := over_len h
    by_cases hd : d ≤ (aloneT x w).length
    · by_cases hf : f ≤ (aloneT y.reverse w.reverse).length
      · exact small d f c hd hf h
      · omega
    · omega
theorem bordC_le (x y w : List Nat) (hw : 32 ∉ w) : bordC x y w ≤ w.length + 3 := by
  have h0 : Over x y w 0 0 (1 + w.length) := Al.app (Al.del1 32) (Al.ofNil w)
  have := (bordC_spec x y w hw).2 0 0 _ h0
  have z1 : cL x 0 ≤ 1 := by unfold cL; split <;> omega
  have z2 : cR y 0 ≤ 1 := by unfold cR; split <;> omega
  omega
end K11
end
section
namespace K11
/-! ### the law's border costs -/
theorem jn_rev (x : List Nat) (n : Nat) : (jn x (n + 1)).reverse = jn x.reverse (n + 1) := by
  have hl : (jn x.reverse (n + 1)).length = (jn x (n + 1)).length := by rw [jn_len, jn_len, List.length_reverse]
  apply List.ext_getElem
  · rw [List.length_reverse, hl]
  · intro i h1 h2
    rw [List.length_reverse] at h1
    have e1 : (jn x (n + 1)).reverse[i]'(by rw [List.length_reverse]; exact h1) = at_ (jn x (n + 1)).reverse i := by
      simp [at_, List.getD_eq_getElem?_getD, h1]
    have e2 : (jn x.reverse (n + 1))[i] = at_ (jn x.reverse (n + 1)) i := by
      simp [at_, List.getD_eq_getElem?_getD, List.getElem?_eq_getElem h2]
    rw [e1, e2, rev_getD h1, jn_at x n (by omega), jn_at x.reverse n h2, per_rev x (n := n) h1]
theorem seg_over (x y : List Nat) {n k d f : Nat} (hd : d ≤ (jn x (n + 1)).length) (hf : f ≤ (jn y (k + 1)).length) :
    seg (at_ (jn x (n + 1) ++ 32 :: jn y (k + 1))) ((jn x (n + 1)).length - d) (d + (1 + f)) = Ls x d ++ 32 :: Rs y f := by
  rw [seg_add, seg_add, show (jn x (n + 1)).length - d + d = (jn x (n + 1)).length by omega, seg_one]
  have e1 : seg (at_ (jn x (n + 1) ++ 32 :: jn y (k + 1))) ((jn x (n + 1)).length - d) d = Ls x d := by
    rw [← seg_Ls x hd]
    exact seg_congr fun i hi => at_append_left (by omega)
  have e2 : at_ (jn x (n + 1) ++ 32 :: jn y (k + 1)) (jn x (n + 1)).length = 32 := by
    rw [at_append_right (Nat.le_refl _), Nat.sub_self]
    rfl
  have e3 : seg (at_ (jn x (n + 1) ++ 32 :: jn y (k + 1))) ((jn x (n + 1)).length + 1) f = Rs y f := by
    unfold Rs
    refine seg_congr fun i hi => ?_
    rw [at_append_right (by omega), show (jn x (n + 1)).length + 1 + i - (jn x (n + 1)).length = i + 1 by omega]
    show at_ (jn y (k + 1)) i = _
    rw [jn_at y k (by omega), Nat.zero_add]
  rw [e1, e2, e3]
  rfl
theorem over_cost (x y w : List Nat) {n k d f : Nat} (hd : d ≤ (jn x (n + 1)).length) (hf : f ≤ (jn y (k + 1)).length) :
    ∃ c, Over x y w d f c ∧ (∀ c', Over x y w d f c' → c ≤ c') ∧
      strC (jn x (n + 1) ++ 32 :: jn y (k + 1)) w ((jn x (n + 1)).length - d) ((jn x (n + 1)).length + 1 + f) = cL x d + c + cR y f := by
  have hs := seg_over x y (n := n) (k := k) hd hf
  have ha := ed_al (at_ (jn x (n + 1) ++ 32 :: jn y (k + 1))) (at_ w) ((jn x (n + 1)).length - d) (d + (1 + f)) w.length
  rw [hs, seg_at] at ha
  refine ⟨_, ha, fun c' h' => ?_, ?_⟩
  · apply ed_least
    rw [hs, seg_at]
    exact h'
  · unfold strC edL
    have eN : (jn x (n + 1)).length + 1 + f - ((jn x (n + 1)).length - d) = d + (1 + f) := by omega
    rw [eN]
    have e1 : cutA (jn x (n + 1) ++ 32 :: jn y (k + 1)) ((jn x (n + 1)).length - d) = cL x d := by
      rw [← cutA_Ls x hd]
      unfold cutA
      by_cases h0 : 0 < (jn x (n + 1)).length - d
      · rw [at_append_left (by omega)]
      · simp [h0]
    have e2 : cutB (jn x (n + 1) ++ 32 :: jn y (k + 1)) ((jn x (n + 1)).length + 1 + f) = cR y f := by
      unfold cutB cR
      have hl : (jn x (n + 1) ++ 32 :: jn y (k + 1)).length = (jn x (n + 1)).length + 1 + (jn y (k + 1)).length := by simp; omega
      rw [hl]
      by_cases h : f < (jn y (k + 1)).length
      · rw [at_append_right (by omega), show (jn x (n + 1)).length + 1 + f - (jn x (n + 1)).length = f + 1 by omega]
        have : at_ (32 :: jn y (k + 1)) (f + 1) = per y f := jn_at y k h
        rw [this]
        have h' : (jn x (n + 1)).length + 1 + f < (jn x (n + 1)).length + 1 + (jn y (k + 1)).length := by omega
        simp [h']
      · have : f = (jn y (k + 1)).length := by omega
        subst this
        rw [jn_end]
        simp
    rw [e1, e2]
    omega
theorem bord_agree (x y w : List Nat) (M : Nat) (hxy : x ≠ y) (hw : 32 ∉ w) (hl : w.length ≤ 90) : Agree (lawC x y w M) (bordC x y w) M := by
  obtain ⟨⟨d0, f0, c0, h0, e0⟩, hall⟩ := bordC_spec x y w hw
  have hB := bordC_le x y w hw
  obtain ⟨h1, h2, h3⟩ := foldl_min (lawCosts x y w M) 99
  have eA : lawAhead x w M = jn x ((w.length + M) / (x.length + 1) + 1 + 1) := rfl
  have eT : lawT x y w M = jn x ((w.length + M) / (x.length + 1) + 1 + 1) ++ 32 :: jn y ((w.length + M) / (y.length + 1) + 1 + 1) := by
    unfold lawT
    rw [if_neg hxy]
    rfl
  have la : w.length + M + x.length + 1 ≤ (lawAhead x w M).length := by
    rw [eA, jn_len]
    have := len_of x.length _ (w.length + M) rfl
    omega
  have lb : w.length + M + y.length + 1 ≤ (jn y ((w.length + M) / (y.length + 1) + 1 + 1)).length := by
    rw [jn_len]
    have := len_of y.length _ (w.length + M) rfl
    omega
  have lT : (lawT x y w M).length = (lawAhead x w M).length + 1 + (jn y ((w.length + M) / (y.length + 1) + 1 + 1)).length := by
    rw [eT, eA]; simp; omega
  refine ⟨?_, ?_⟩
  · unfold lawC
    rcases h1 with h1 | h1
    · rw [h1]; omega
    · obtain ⟨b, hb, hx⟩ := List.mem_flatMap.mp h1
      obtain ⟨e, he, hx⟩ := List.mem_map.mp hx
      obtain ⟨he, hf⟩ := List.mem_filter.mp he
      have he := mem_ends.mp he
      have hf : (lawAhead x w M).length < e := by simpa [hxy] using hf
      unfold lawBegins at hb
      rw [if_neg hxy] at hb
      obtain ⟨i, hi, rfl⟩ := List.mem_map.mp hb
      have hi := List.mem_range.mp hi
      obtain ⟨c, hc, _, hs⟩ := over_cost x y w (n := (w.length + M) / (x.length + 1) + 1) (k := (w.length + M) / (y.length + 1) + 1) (d := (lawAhead x w M).length - ((lawAhead x w M).length - (w.length + M) + i)) (f := e - (lawAhead x w M).length - 1) (by rw [← eA]; omega) (by omega)
      rw [← eT, ← eA] at hs
      rw [show (lawAhead x w M).length - ((lawAhead x w M).length - ((lawAhead x w M).length - (w.length + M) + i)) = (lawAhead x w M).length - (w.length + M) + i by omega,
        show (lawAhead x w M).length + 1 + (e - (lawAhead x w M).length - 1) = e by omega] at hs
      rw [← hx, hs]
      exact hall _ _ _ hc
  · intro hM
    unfold lawC
    have hn := over_len h0
    have hd : d0 ≤ (lawAhead x w M).length := by omega
    obtain ⟨c, hc, hmin, hs⟩ := over_cost x y w (n := (w.length + M) / (x.length + 1) + 1) (k := (w.length + M) / (y.length + 1) + 1) (d := d0) (f := f0) (by rw [← eA]; omega) (by omega)
    rw [← eT, ← eA] at hs
    have := hmin c0 h0
    refine Nat.le_trans (h3 (strC (lawT x y w M) w ((lawAhead x w M).length - d0) ((lawAhead x w M).length + 1 + f0)) ?_) (by omega)
    refine List.mem_flatMap.mpr ⟨(lawAhead x w M).length - d0, ?_, List.mem_map.mpr ⟨(lawAhead x w M).length + 1 + f0, List.mem_filter.mpr ⟨mem_ends.mpr ⟨by omega, by omega, by omega⟩, by simp; omega⟩, rfl⟩⟩
    unfold lawBegins
    rw [if_neg hxy]
    exact List.mem_map.mpr ⟨w.length + M - d0, List.mem_range.mpr (by omega), by omega⟩
/-- THE AGREEMENT -/
theorem agree (f s w : List Nat) (M : Nat) (hw : 32 ∉ w) (hl : w.length ≤ 90) : Agree (lawC f s w M) (progC f s w) M := by
  unfold progC
  by_cases h : f = s
  · subst h
    rw [if_pos rfl]
    exact alone_agree f w M hl
  · rw [if_neg h]
    exact bord_agree f s w M h hw hl
theorem progC_same (f w : List Nat) : progC f f w ≤ w.length + 1 := by
  unfold progC
  rw [if_pos rfl]
  exact aloneC_le f w
theorem progC_le (f s w : List Nat) (hw : 32 ∉ w) : progC f s w ≤ w.length + 3 := by
  unfold progC
  by_cases h : f = s
  · rw [if_pos h]
    have := aloneC_le f w
    omega
  · rw [if_neg h]
    exact bordC_le f s w hw
/-! ### over a book -/
/-- the triples of numbers, the last unlike the others -/
def triplesOf (n : Nat) : List (Nat × Nat × Nat) := (List.range n).flatMap fun f => (List.range n).flatMap fun s => ((List.range n).filter fun w => decide (w ≠ f ∧ w ≠ s)).map fun w => (f, s, w)
theorem mem_triples {n : Nat} {t : Nat × Nat × Nat} : t ∈ triplesOf n ↔ t.1 < n ∧ t.2.1 < n ∧ t.2.2 < n ∧ t.2.2 ≠ t.1 ∧ t.2.2 ≠ t.2.1 := by
  obtain ⟨f, s, w⟩ := t
  unfold triplesOf
  constructor
  · intro h
    obtain ⟨f', hf, h⟩ := List.mem_flatMap.mp h
    obtain ⟨s', hs, h⟩ := List.mem_flatMap.mp h
    obtain ⟨w', hw, h⟩ := List.mem_map.mp h
    obtain ⟨hw, hd⟩ := List.mem_filter.mp hw
    injection h with e1 e2
    injection e2 with e2 e3
    subst e1 e2 e3
    have := of_decide_eq_true hd
    exact ⟨List.mem_range.mp hf, List.mem_range.mp hs, List.mem_range.mp hw, this.1, this.2⟩
  · rintro ⟨h1, h2, h3, h4, h5⟩
    exact List.mem_flatMap.mpr ⟨f, List.mem_range.mpr h1, List.mem_flatMap.mpr ⟨s, List.mem_range.mpr h2, List.mem_map.mpr ⟨w, List.mem_filter.mpr ⟨List.mem_range.mpr h3, decide_eq_true ⟨h4, h5⟩⟩, rfl⟩⟩⟩
/-- the word of a number -/
abbrev wd (ws : List (List Nat)) (i : Nat) : List Nat := ws.getD i []
def progT (ws : List (List Nat)) (t : Nat × Nat × Nat) : Nat := progC (wd ws t.1) (wd ws t.2.1) (wd ws t.2.2)
def lawTr (ws : List (List Nat)) (M : Nat) (t : Nat × Nat × Nat) : Nat := lawC (wd ws t.1) (wd ws t.2.1) (wd ws t.2.2) M
/-- what is asked of a book -/
structure BookOk (ws : List (List Nat)) : Prop where
  len : ∀ x ∈ ws, 1 ≤ x.length ∧ x.length ≤ 90
  no : ∀ x ∈ ws, 32 ∉ x
  nd : ws.Nodup
theorem wd_mem {ws : List (List Nat)} {i : Nat} (h : i < ws.length) : wd ws i ∈ ws := by
  have : wd ws i = ws[i] := by simp [List.getD_eq_getElem?_getD, List.getElem?_eq_getElem h]
  rw [this]
  exact List.getElem_mem h
theorem agreeT {ws : List (List Nat)} (B : BookOk ws) (M : Nat) {t : Nat × Nat × Nat} (ht : t ∈ triplesOf ws.length) : Agree (lawTr ws M t) (progT ws t) M := by
  obtain ⟨h1, h2, h3, _, _⟩ := mem_triples.mp ht
  exact agree _ _ _ M (B.no _ (wd_mem h3)) (B.len _ (wd_mem h3)).2
/-- the same triples -/
theorem made_eq {ws : List (List Nat)} (B : BookOk ws) {M k : Nat} (hk : k ≤ M) : (triplesOf ws.length).filter (fun t => decide (lawTr ws M t ≤ k)) = (triplesOf ws.length).filter (fun t => decide (progT ws t ≤ k)) := by
  apply List.filter_congr
  intro t ht
  have := (agreeT B M ht).iff hk
  by_cases h : progT ws t ≤ k
  · rw [decide_eq_true h, decide_eq_true (this.mpr h)]
  · rw [decide_eq_false h, decide_eq_false (fun q => h (this.mp q))]
/-- the same least number -/
theorem price_eq {ws : List (List Nat)} (B : BookOk ws) {M : Nat} (hM : ∃ x ∈ ws, x.length + 1 ≤ M) (hne : triplesOf ws.length ≠ []) :
    lmin ((triplesOf ws.length).map (lawTr ws M)) = lmin ((triplesOf ws.length).map (progT ws)) := by
  have n1 : (triplesOf ws.length).map (lawTr ws M) ≠ [] := by simpa using hne
  have n2 : (triplesOf ws.length).map (progT ws) ≠ [] := by simpa using hne
  obtain ⟨a1, a2⟩ := lmin_spec _ n1
  obtain ⟨b1, b2⟩ := lmin_spec _ n2
  have small : lmin ((triplesOf ws.length).map (progT ws)) ≤ M := by
    obtain ⟨x, hx, hl⟩ := hM
    obtain ⟨i, hi, rfl⟩ := List.getElem_of_mem hx
    obtain ⟨t, ht⟩ := List.exists_mem_of_ne_nil _ hne
    obtain ⟨h1, h2, h3, h4, _⟩ := mem_triples.mp ht
    obtain ⟨j, hj, hji⟩ : ∃ j, j < ws.length ∧ i ≠ j := by
      by_cases e : i = t.1
      · exact ⟨t.2.2, h3, by omega⟩
      · exact ⟨t.1, h1, e⟩
    have hm := b2 (progT ws (j, j, i)) (List.mem_map.mpr ⟨(j, j, i), mem_triples.mpr ⟨hj, hj, hi, hji, hji⟩, rfl⟩)
    have hs := progC_same (wd ws j) (wd ws i)
    have hw : wd ws i = ws[i] := by simp [List.getD_eq_getElem?_getD, List.getElem?_eq_getElem hi]
    rw [hw] at hs
    have hp : progT ws (j, j, i) = progC (wd ws j) (wd ws j) ws[i] := by
      show progC (wd ws j) (wd ws j) (wd ws i) = _
      rw [hw]
    omega
  apply Nat.le_antisymm
  · obtain ⟨t, ht, e⟩ := List.mem_map.mp b1
    have := (agreeT B M ht).2 (by rw [e]; exact small)
    rw [← e]
    exact Nat.le_trans (a2 _ (List.mem_map.mpr ⟨t, ht, rfl⟩)) this
  · obtain ⟨t, ht, e⟩ := List.mem_map.mp a1
    have := (agreeT B M ht).1
    rw [← e]
    exact Nat.le_trans (b2 _ (List.mem_map.mpr ⟨t, ht, rfl⟩)) this
end K11
end
section
set_option maxRecDepth 100000
set_option maxHeartbeats 4000000
/-! Rules that the hand layer lacks: calls by keywords alone, min of three, min of two tuples, repr of data, a text walked with its places, a text backwards. -/
namespace K11
open PySem PySem.Spec PyProof.Rows L2
section
variable {X : Cx} {CX : CXT} {k : Nat} {f : Addr} {fd : FuncData} {ps ks : List Str} {sp : Sp} {E : XK} {x : Str} {p pos : Pos} {kws : List Keyword} {tk : TA} {g : List Value → List Value → List Value} {gV : List V → List V → List V}
/-- a def called with keywords alone -/
theorem pe_callKw (F : FnOk X.prog X.w X.K X.mg X.base CX k f fd ps sp) (room : Room k X.A) (hg : Gl X x) (hm : X.mg x = some (.ref f)) (kp : PySem.W.keepIn X.K (.ref f) = true) (hb : KBinds X.K fd ps ks g gV) (pass : Passes CX X E)
    (hkw : PK X kws tk) (hall : (backToKw pos (keywordEach kws X.env)).all (·.1.isSome) = true := by rfl) (names : (backToKw pos (keywordEach kws X.env)).filterMap (·.1) = ks := by rfl)
    (hdb : (x == ("__debug__" : Str)) = false := by decide) (plain : ((backTo pos (starEach [] X.env)).any (·.1) || (backToKw pos (keywordEach kws X.env)).any (·.1.isNone)) = false := by rfl) :
    PE X (.Call (.Name x p) [] kws pos) (tCallK sp gV E tNil tk) := by
  constructor
  intro pins s σ H Q I h
  refine wpAny_Call_Name_kw (ld_glob I hg hm ?_ hdb)
  refine PySem.W.callWith_KW0 (h₀ := X.base) I.ok.mod.kin kp hall (thn (hkw.run pos pins s σ H _ I h) ?_) plain
  rintro ws s2 ⟨zs, H2, I2, rz, q2⟩
  refine ⟨I2.kIn, ?_⟩
  rw [names]
  exact run_fnk (us := []) (vs := []) F room hb pass I2 .nil rz q2
end
/-! ### min of three ints, of two tuples of ints -/
section
variable {X : Cx}
theorem vals_three {x y z : V} {us : List Value} (r : Vals [x, y, z] us) : ∃ u v w, us = [u, v, w] ∧ RelV x u ∧ RelV y v ∧ RelV z w := by
  rcases r with _ | ⟨h1, _ | ⟨h2, _ | ⟨h3, h4⟩⟩⟩
  cases h4
  exact ⟨_, _, _, rfl, h1, h2, h3⟩
theorem call_min3 (calm : X.calm = true) : CallR X (.builtin "min") (fun xs H Q => ∃ i j l : Int, xs = [.int i, .int j, .int l] ∧ Q (.int (min (min i j) l)) H) := by
  intro pins s σ H xs us Q I r h
  obtain ⟨i, j, l, rfl, q⟩ := h
  obtain ⟨_, _, _, rfl, ⟨t, rfl⟩, ⟨t', rfl⟩, ⟨t'', rfl⟩⟩ := vals_three r
  refine min_three_ints (I.ok.hd calm) fun h' tk k => ⟨.int (min (min i j) l), H, I.kept k, ?_, q⟩
  by_cases h1 : j < i
  · rw [if_pos h1]
    by_cases h2 : l < j
    · rw [if_pos h2]; exact ⟨_, by congr 1; omega⟩
    · rw [if_neg h2]; exact ⟨_, by congr 1; omega⟩
  · rw [if_neg h1]
    by_cases h2 : l < i
    · rw [if_pos h2]; exact ⟨_, by congr 1; omega⟩
    · rw [if_neg h2]; exact ⟨_, by congr 1; omega⟩
end
section
variable {prog : Program} {w : World} {A : Around} {E : Value → Shared → Prop} {s : Shared}
theorem min_two_tups {ta tb : Addr} {its its2 : Array Value} {ns ms : List Int} {Q : Value → Shared → Prop} (hh : A.handled = none) (h1 : IsTup s.heap ta its) (hi : IntsAre its.toList ns) (h2 : IsTup s.heap tb its2) (hj : IntsAre its2.toList ms) (hu : A.units + 1 < cLine)
    (h : ∀ h' tk, (∀ b o, s.heap.get? b = some o → h'.get? b = some o) → Q (if HT.lexLt ms ns = true then .ref tb else .ref ta) { s with heap := h', toks := tk }) :
    wpAny (model prog w) A (call (.builtin "min") [.ref ta, .ref tb]) Q E s := by
  have nm : (toString "min" ++ toString ".loop" : String) = "min.loop" := by decide
  refine call_function_tree F.kind_min F.plain_min F.entry_min (F.args_min2 _ _) ?_
  show wpAny _ A.in1 (Builtin.Builtins.bindParams "min" ["key", "default"] 0 ⟨[], []⟩ >>= _) _ _ s
  refine wpAny_bind (wpAny_of_eq (a := [none, none]) rfl ?_)
  show wpAny _ A.in1 (newTuple [Value.ref ta, Value.ref tb] >>= _) _ _ s
  refine wpAny_bind (wpAny_newObj_type ?_)
  have hT : (s.heap.push { cls := .type "tuple", data := .seq #[.ref ta, .ref tb] }).IsTuple s.heap.objs.size #[.ref ta, .ref tb] := ⟨_, Heap.get?_push_size _ rfl, rfl, 0, rfl⟩
  have old : ∀ b o, s.heap.get? b = some o → (s.heap.push { cls := .type "tuple", data := .seq #[.ref ta, .ref tb] }).get? b = some o := fun b o e => Heap.get?_push_of_some _ e
  refine wpAny_bind (PySem.W.iter_tupleW (A := A.in1) hh hT fun s₂ e W st hfp hw hk => ?_)
  refine wpAny_bind (wpAny_newObj_type ?_)
  have hSf : s₂.heap.objs.size ∉ [(s.heap.push { cls := .type "tuple", data := .seq #[.ref ta, .ref tb] }).objs.size, s.heap.objs.size] := fun hm => Nat.lt_irrefl _ (hfp _ hm)
  rw [nm]
  have cmp : CmpIn prog w A.in1 .Lt (s.heap.push { cls := .type "tuple", data := .seq #[.ref ta, .ref tb] }) (fun i v => (#[Value.ref ta, Value.ref tb] : Array Value)[i]? = some v) (fun i j => HT.lexLt (if i = 0 then ns else ms) (if j = 0 then ns else ms)) := by
    intro i j vi vj s' Q' E' hk' hvi hvj hQ'
    have at0 : ∀ i v, (#[Value.ref ta, Value.ref tb] : Array Value)[i]? = some v → ∃ (a : Addr) (xs : Array Value), v = .ref a ∧ IsTup s'.heap a xs ∧ IntsAre xs.toList (if i = 0 then ns else ms) := by
      intro i v hv
      match i, hv with
      | 0, hv =>
        cases hv
        exact ⟨ta, its, rfl, (let ⟨o, q, r⟩ := h1; ⟨o, hk' _ _ (old _ _ q), r⟩), hi⟩
      | 1, hv =>
        cases hv
        exact ⟨tb, its2, rfl, (let ⟨o, q, r⟩ := h2; ⟨o, hk' _ _ (old _ _ q), r⟩), hj⟩
      | n + 2, hv => simp at hv
    obtain ⟨a, xs, rfl, ha, ia⟩ := at0 i vi hvi
    obtain ⟨b, ys, rfl, hb, ib⟩ := at0 j vj hvj
    exact HT.lt_tupInts ha hb ia ib (by show A.units + 1 < cLine; exact hu) hQ'
  refine wpAny_pure ⟨plainId_quiet F.plain_min_loop _, codeAny_min_loop_firstH W _ hw _ cmp s₂.heap.objs.size hSf (fresh_in hk) _ (by simp) (fun b o e => Heap.get?_push_of_some _ (hk b o e)) (W.frame 0 s₂ _ s₂.toks st (Nat.le_refl _) fun b _ o e => Heap.get?_push_of_some _ e) (Heap.get?_push_size _ rfl) fun v s' hP hm => ?_⟩
  have hm2 := Moved.drop_new (tk := s₂.toks) hm (Nat.le_refl _)
  obtain ⟨h', tk, rfl, hk'⟩ := PySem.W.moved_old e rfl hm2
  have fin := h h' tk fun b o q => hk' b o (old b o q)
  have hv : v = if HT.lexLt ms ns = true then Value.ref tb else Value.ref ta := by
    have hP' : (#[Value.ref ta, Value.ref tb] : Array Value)[argBest (fun i j => HT.lexLt (if i = 0 then ns else ms) (if j = 0 then ns else ms)) 1]? = some v := hP
    cases hl : HT.lexLt ms ns with
    | true =>
      have e1 : argBest (fun i j => HT.lexLt (if i = 0 then ns else ms) (if j = 0 then ns else ms)) 1 = 1 := by simp [argBest, hl]
      rw [e1] at hP'
      simpa using hP'.symm
    | false =>
      have e1 : argBest (fun i j => HT.lexLt (if i = 0 then ns else ms) (if j = 0 then ns else ms)) 1 = 0 := by simp [argBest, hl]
      rw [e1] at hP'
      simpa using hP'.symm
  rw [hv]
  exact fin
end
section
variable {X : Cx}
def rMinT (K : PySem.W.Frag) : List V → Hp → VK → Prop := fun xs H Q => ∃ (t u : Addr) (ns ms : List Int), xs = [.ref t, .ref u] ∧ SqT K H t (ns.map V.int) ∧ SqT K H u (ms.map V.int) ∧ Q (if HT.lexLt ms ns = true then .ref u else .ref t) H
theorem call_minT (calm : X.calm = true) (hu : X.A.units + 1 < cLine) : CallR X (.builtin "min") (rMinT X.K) := by
  intro pins s σ H xs us Q I r h
  obtain ⟨t, u, ns, ms, rfl, ht, hu', q⟩ := h
  obtain ⟨a, b, rfl, ra, rb⟩ := vals2 r
  cases (show a = Value.ref t from ra)
  cases (show b = Value.ref u from rb)
  obtain ⟨i1, v1, t1, _⟩ := I.tuple ht
  obtain ⟨i2, v2, t2, _⟩ := I.tuple hu'
  refine min_two_tups (I.ok.hd calm) t1 (by simpa using Vals.ints v1) t2 (by simpa using Vals.ints v2) hu fun h' tk k => ⟨_, H, I.kept k, ?_, q⟩
  cases HT.lexLt ms ns <;> rfl
end
/-! ### repr of data: under no guard -/
section
variable {X : Cx}
def rRepr (K : PySem.W.Frag) : List V → Hp → VK → Prop := fun xs H Q => ∃ (a : Addr) (d : PyData), xs = [.ref a] ∧ Dp K H (.ref a) d ∧ d.showable = true ∧ d.hasDict = false ∧ d.depth ≤ 50 ∧ d.shown.length ≤ sizeLine ∧ Q (.str d.shown) H
theorem call_reprD (guards : X.A.guards = some []) (hu : X.A.units + 64 < cLine) : CallR X (.builtin "repr") (rRepr X.K) := by
  intro pins s σ H xs us Q I r h
  obtain ⟨a, d, rfl, hd, hs, nd, dp, hl, q⟩ := h
  obtain ⟨u, rfl, ra⟩ := vals1 r
  cases (show u = Value.ref a from ra)
  obtain ⟨as, rd⟩ := Dp.reads I d _ _ hd ra
  exact repr_of_reads' rd hs (fun z => by rw [nd] at z; cases z) guards (by omega) (fun _ _ e => e) (fun h' u tk k => ⟨.str d.shown, H, I.kept k, ⟨u, rfl⟩, q⟩) hl
end
end K11
end
section
set_option maxRecDepth 100000
set_option maxHeartbeats 4000000
namespace K11
open PySem PySem.Spec PyProof.Rows L2
/-! ### text[::-1] -/
def tRevS (te : TE) : TE := fun σ H Q => te σ H fun x H1 => ∃ z, x = .str z ∧ z.length ≤ sizeLine ∧ Q (.str ⟨z.cps.toList.reverse.toArray⟩) H1
section
variable {X : Cx}
theorem rev_pick (z : Str) : ((Builtin.Str.strSliceIndices none none (-1) z.length).filterMap (z.cps[·]?)).toArray = z.cps.toList.reverse.toArray := by
  have e0 : Builtin.Str.strSliceIndices none none (-1) z.length = sliceRange ((z.length : Int) - 1) (-1) (-1) := rfl
  rw [e0, PySem.W.krv_sliceRange]
  have := PySem.W.krv_range z.length
  rw [this, List.filterMap_reverse]
  have h2 := PySem.W.krv_all z.cps
  have e1 : z.length = z.cps.size := rfl
  rw [e1, h2]
theorem pe_revS {e : Expr} {te : TE} {k : Nat} {p1 p2 p3 pos : Pos} (he : PE X e te) : PE X (.Subscript e (.Slice none none (some (.UnaryOp .USub (.Constant (.int 1) k p1) p2)) p3) pos) (tRevS te) := by
  constructor
  intro pins s σ H Q I h
  refine Subscript_ (thn (he.run pins s σ H _ I h) ?_)
  rintro v s1 ⟨x, H1, I1, r1, z, rfl, hz, q⟩
  obtain ⟨t, rfl⟩ := r1
  have step : PO X (some (.UnaryOp .USub (.Constant (.int 1) k p1) p2)) (tPart (tUn (rU fun i => .int (-i)) (tC (.int 1)))) := po_some (pe_un un_neg pe_int)
  refine wpAny_Slice (thn (po_none.run pins s1 σ H1 (fun o H2 => o = none ∧ H2 = H1) I1 ⟨rfl, rfl⟩) ?_)
  rintro vl s2 ⟨_, _, I2, pl, rfl, rfl⟩
  refine thn (po_none.run pins s2 σ _ (fun o H3 => o = none ∧ H3 = _) I2 ⟨rfl, rfl⟩) ?_
  rintro vu s3 ⟨_, _, I3, pu, rfl, rfl⟩
  refine thn (step.run pins s3 σ _ (fun o H4 => o = some (-1) ∧ H4 = _) I3 ⟨1, rfl, -1, rfl, rfl, rfl⟩) ?_
  rintro vs s4 ⟨_, _, I4, ps, rfl, rfl⟩
  obtain ⟨l, rfl, el⟩ := IsPart.raw pl
  obtain ⟨u, rfl, eu⟩ := IsPart.raw pu
  obtain ⟨st, rfl, es⟩ := IsPart.raw ps
  have I5 : Inv X pins σ _ { s4 with heap := s4.heap.push { cls := .type "slice", data := .fields #[partValue l, partValue u, partValue st] } } := I4.kept (t' := s4.toks) fun b ob q => Heap.get?_push_of_some _ q
  refine tail_any (T := "str") (ops := [.str z t, .ref s4.heap.objs.size]) (typeIs_str _ _ _) F.slot_str_getitem.lookup ?_ (by with_unfolding_all rfl)
  refine wpAny_getItem_str_slice (l := l) (u := u) (st := st) (Heap.IsSliceOf.new _ _ _ _) (by rw [es]; decide) ?_
  unfold sliceMade slicePicked
  rw [el, eu, es]
  have hp := rev_pick z
  have c : ((((some (-1) : Option Int).getD 1) == 1) && (Builtin.Str.strSliceIndices none none ((some (-1) : Option Int).getD 1) z.length).length == z.length) = false := rfl
  simp only [c, Bool.false_eq_true, if_false]
  refine ⟨?_, .str _, _, I5.tok _, ⟨_, rfl⟩, (show Q (.str ⟨((Builtin.Str.strSliceIndices none none (-1) z.length).filterMap (z.cps[·]?)).toArray⟩) _ by rw [hp]; exact q)⟩
  show ((Builtin.Str.strSliceIndices none none (-1) z.length).filterMap (z.cps[·]?)).toArray.size ≤ sizeLine
  rw [hp]
  have e1 : z.length = z.cps.size := rfl
  simpa [e1] using hz
end
end K11
end
section
set_option maxRecDepth 100000
set_option maxHeartbeats 4000000
/-! The program's defs by their places, and their slots. -/
namespace K11
open PySem L2
def top (i : Nat) : Stmt := PySem.Challenge.pw_anyletter_k11_whole_made_words_by_all_st.main.body.getD i (.Pass ⟨0, 0, 0, 0⟩)
abbrev sNumber : Stmt := inClass (top 2) 0
abbrev sBook0 : Stmt := inClass (top 4) 0
abbrev sIsInt : Stmt := top 10
theorem scIsInt : FnScope ["value"] ["value"] (defScope sIsInt) := ⟨rfl, rfl, rfl, by decide +kernel, rfl, by decide +kernel, by decide +kernel⟩
abbrev sWithin : Stmt := top 11
theorem scWithin : FnScope ["value", "least", "most"] ["value", "least", "most"] (defScope sWithin) := ⟨rfl, rfl, rfl, by decide +kernel, rfl, by decide +kernel, by decide +kernel⟩
abbrev sIsWord : Stmt := top 12
theorem scIsWord : FnScope ["value", "sign"] ["value"] (defScope sIsWord) := ⟨rfl, rfl, rfl, by decide +kernel, rfl, by decide +kernel, by decide +kernel⟩
abbrev sNeedN : Stmt := top 13
theorem scNeedN : FnScope ["value", "part", "least", "most"] ["value", "part", "least", "most"] (defScope sNeedN) := ⟨rfl, rfl, rfl, by decide +kernel, rfl, by decide +kernel, by decide +kernel⟩
abbrev sBInit : Stmt := inClass (top 16) 0
theorem scBInit : FnScope ["self", "words"] ["self", "words"] (defScope sBInit) := ⟨rfl, rfl, rfl, by decide +kernel, rfl, by decide +kernel, by decide +kernel⟩
abbrev sAreW : Stmt := top 17
theorem scAreW : FnScope ["value", "most", "each"] ["value", "most"] (defScope sAreW) := ⟨rfl, rfl, rfl, by decide +kernel, rfl, by decide +kernel, by decide +kernel⟩
abbrev sNeedB : Stmt := top 18
theorem scNeedB : FnScope ["value", "part"] ["value", "part"] (defScope sNeedB) := ⟨rfl, rfl, rfl, by decide +kernel, rfl, by decide +kernel, by decide +kernel⟩
abbrev sIsCut : Stmt := top 21
theorem scIsCut : FnScope ["text", "at"] ["text", "at"] (defScope sIsCut) := ⟨rfl, rfl, rfl, by decide +kernel, rfl, by decide +kernel, by decide +kernel⟩
abbrev sTold : Stmt := top 22
theorem scTold : FnScope ["word", "other"] ["word", "other"] (defScope sTold) := ⟨rfl, rfl, rfl, by decide +kernel, rfl, by decide +kernel, by decide +kernel⟩
abbrev sBest : Stmt := top 23
theorem scBest : FnScope ["text", "word", "last", "none", "rows", "end", "first", "row", "many", "found"] ["text", "word", "last"] (defScope sBest) := ⟨rfl, rfl, rfl, by decide +kernel, rfl, by decide +kernel, by decide +kernel⟩
abbrev sRaised : Stmt := top 24
theorem scRaised : FnScope ["pair", "more"] ["pair", "more"] (defScope sRaised) := ⟨rfl, rfl, rfl, by decide +kernel, rfl, by decide +kernel, by decide +kernel⟩
abbrev sAlone : Stmt := top 25
theorem scAlone : FnScope ["mine", "word", "text", "rows", "end", "row"] ["mine", "word"] (defScope sAlone) := ⟨rfl, rfl, rfl, by decide +kernel, rfl, by decide +kernel, by decide +kernel⟩
abbrev sSide : Stmt := top 26
theorem scSide : FnScope ["mine", "word", "text", "pair"] ["mine", "word"] (defScope sSide) := ⟨rfl, rfl, rfl, by decide +kernel, rfl, by decide +kernel, by decide +kernel⟩
abbrev sBord : Stmt := top 27
theorem scBord : FnScope ["ahead", "behind", "many", "lost", "changed", "at"] ["ahead", "behind"] (defScope sBord) := ⟨rfl, rfl, rfl, by decide +kernel, rfl, by decide +kernel, by decide +kernel⟩
abbrev sCInit : Stmt := inClass (top 28) 0
theorem scCInit : FnScope ["self", "words"] ["self", "words"] (defScope sCInit) := ⟨rfl, rfl, rfl, by decide +kernel, rfl, by decide +kernel, by decide +kernel⟩
abbrev sCOf : Stmt := inClass (top 28) 1
theorem scCOf : FnScope ["self", "mine", "word", "one", "other"] ["self", "mine", "word"] (defScope sCOf) := ⟨rfl, rfl, rfl, by decide +kernel, rfl, by decide +kernel, by decide +kernel⟩
abbrev sCOver : Stmt := inClass (top 28) 2
theorem scCOver : FnScope ["self", "first", "second", "word"] ["self", "first", "second", "word"] (defScope sCOver) := ⟨rfl, rfl, rfl, by decide +kernel, rfl, by decide +kernel, by decide +kernel⟩
abbrev sCTrip : Stmt := inClass (top 28) 3
theorem scCTrip : FnScope ["self", "first", "second", "word"] ["self", "first", "second", "word"] (defScope sCTrip) := ⟨rfl, rfl, rfl, by decide +kernel, rfl, by decide +kernel, by decide +kernel⟩
abbrev sTrips : Stmt := top 29
theorem scTrips : FnScope ["many", "found", "first", "second", "word"] ["many"] (defScope sTrips) := ⟨rfl, rfl, rfl, by decide +kernel, rfl, by decide +kernel, by decide +kernel⟩
abbrev sCheap : Stmt := top 30
theorem scCheap : FnScope ["words", "costs", "best", "triple", "cost"] ["words"] (defScope sCheap) := ⟨rfl, rfl, rfl, by decide +kernel, rfl, by decide +kernel, by decide +kernel⟩
abbrev sMade : Stmt := top 31
theorem scMade : FnScope ["book", "many", "costs", "told", "triple"] ["book", "many"] (defScope sMade) := ⟨rfl, rfl, rfl, by decide +kernel, rfl, by decide +kernel, by decide +kernel⟩
abbrev sPrice : Stmt := top 32
theorem scPrice : FnScope ["book", "best"] ["book"] (defScope sPrice) := ⟨rfl, rfl, rfl, by decide +kernel, rfl, by decide +kernel, by decide +kernel⟩
abbrev sKnife : Stmt := top 34
theorem scKnife : FnScope ["_law_script", "_law_cell"] ["_law_script"] (defScope sKnife) := ⟨rfl, rfl, rfl, by decide +kernel, rfl, by decide +kernel, by decide +kernel⟩
abbrev sCut : Stmt := top 35
theorem scCut : FnScope ["_law_knife_here", "_law_many", "_law_rest", "_law_turn", "_law_cell", "_law_mixed"] ["_law_knife_here", "_law_many"] (defScope sCut) := ⟨rfl, rfl, rfl, by decide +kernel, rfl, by decide +kernel, by decide +kernel⟩
abbrev sOneOf : Stmt := top 36
theorem scOneOf : FnScope ["_law_knife_here", "_law_some"] ["_law_knife_here", "_law_some"] (defScope sOneOf) := ⟨rfl, rfl, rfl, by decide +kernel, rfl, by decide +kernel, by decide +kernel⟩
abbrev sWord : Stmt := top 37
theorem scWord : FnScope ["_law_knife_here", "_law_most", "_law_letters", "_law_turn"] ["_law_knife_here", "_law_most", "_law_letters"] (defScope sWord) := ⟨rfl, rfl, rfl, by decide +kernel, rfl, by decide +kernel, by decide +kernel⟩
abbrev sWords : Stmt := top 38
theorem scWords : FnScope ["_law_knife_here", "_law_many", "_law_most", "_law_letters", "_law_found", "_law_turn", "_law_word_here"] ["_law_knife_here", "_law_many", "_law_most", "_law_letters"] (defScope sWords) := ⟨rfl, rfl, rfl, by decide +kernel, rfl, by decide +kernel, by decide +kernel⟩
abbrev sHeard : Stmt := top 39
theorem scHeard : FnScope ["_law_ask", "_law_caught", "error", "_law_told", "_law_word_here", "_law_is_so"] ["_law_ask"] (defScope sHeard) := ⟨rfl, rfl, rfl, by decide +kernel, rfl, by decide +kernel, by decide +kernel⟩
abbrev sStretch : Stmt := top 40
theorem scStretch : FnScope ["_law_text", "_law_word_here", "_law_most", "_law_begin", "_law_ahead", "_law_row", "_law_found", "_law_end", "_law_last", "_law_at", "_law_letter"] ["_law_text", "_law_word_here", "_law_most", "_law_begin"] (defScope sStretch) := ⟨rfl, rfl, rfl, by decide +kernel, rfl, by decide +kernel, by decide +kernel⟩
abbrev sTripC : Stmt := top 41
theorem scTripC : FnScope ["_law_first", "_law_second", "_law_word_here", "_law_most", "_law_far", "_law_ahead", "_law_begins", "_law_text", "_law_best", "_law_begin", "_law_end", "_law_cost"] ["_law_first", "_law_second", "_law_word_here", "_law_most"] (defScope sTripC) := ⟨rfl, rfl, rfl, by decide +kernel, rfl, by decide +kernel, by decide +kernel⟩
abbrev sLCosts : Stmt := top 42
theorem scLCosts : FnScope ["_law_words_here", "_law_most", "_law_found", "_law_first", "_law_second", "_law_word_here"] ["_law_words_here", "_law_most"] (defScope sLCosts) := ⟨rfl, rfl, rfl, by decide +kernel, rfl, by decide +kernel, by decide +kernel⟩
abbrev sNear : Stmt := top 43
theorem scNear : FnScope ["_law_knife_here", "_law_words_here", "_law_one", "_law_other", "_law_at", "_law_some", "_law_new"] ["_law_knife_here", "_law_words_here"] (defScope sNear) := ⟨rfl, rfl, rfl, by decide +kernel, rfl, by decide +kernel, by decide +kernel⟩
abbrev sLaw : Stmt := top 44
theorem scLaw : FnScope ["_law_script", "_law_knife_here", "_law_turn", "_law_words_here", "_law_many", "_law_costs_here", "_law_most", "_law_due", "_law_least", "_law_heard_here", "_law_book", "_law_none", "_law_odd", "_law_word_here", "_law_triple"] ["_law_script"] (defScope sLaw) := ⟨rfl, rfl, rfl, by decide +kernel, rfl, by decide +kernel, by decide +kernel⟩
end K11
end
section
set_option maxRecDepth 100000
set_option maxHeartbeats 4000000
namespace K11
open PySem PySem.Spec PyProof.Rows L2
/-! ### for i, c in enumerate(text) -/
def IteS (z : Str) : It :=
  ⟨fun i _ => i < z.cps.size, fun i H v H' => ∃ T c, v = .ref T ∧ H T = none ∧ H' = upd H T (.tup [.int (i : Nat), .str ⟨#[c]⟩]) ∧ z.cps[i]? = some c, fun i _ => i = z.cps.size⟩
theorem turn_enumS {P : Program} {w : World} {K : PySem.W.Frag} {elts : List Expr} {kk : Nat} {tpos : Pos} (z : Str) (t : Tok) (e it : Addr) :
    Turn P w K (.Tuple elts kk tpos) (IteS z) [e, it] e (fun i h => (∃ old, IsEnum h e it ((i : Nat) : Int) old) ∧ h.IsStrIter it (strIterType z) z t i ∧ e ≠ it) where
  mem := by simp
  obj := fun i h st b hb => by
    obtain ⟨⟨old, he⟩, ⟨o, ho, hc, hd⟩, _⟩ := st
    have e' : b = e ∨ b = it := by simpa using hb
    rcases e' with q | q
    · rw [q]; exact ⟨_, he, fun v q => nomatch q⟩
    · rw [q]; exact ⟨o, ho, fun v q => by rw [hd] at q; cases q⟩
  keep := fun i h h' st k => by
    obtain ⟨⟨old, he⟩, ⟨o, ho, hc⟩, hne⟩ := st
    exact ⟨⟨old, k e (by simp) _ he⟩, ⟨o, k it (by simp) o ho, hc⟩, hne⟩
  item := by
    intro X hP hw hK hc i pins s σ H E I hf st hg
    subst hP hw hK
    obtain ⟨⟨old, he⟩, hit, hne⟩ := st
    have hel : e < s.heap.objs.size := Heap.lt_size he
    have hil : it < s.heap.objs.size := by obtain ⟨_, q, _⟩ := hit; exact Heap.lt_size q
    refine wpAny_pyNext_enum_itemD (Draws.text (show X.A.in1.handled = none from I.ok.hd hc) it z t) he hit hg hne (by simpa using hne) fun x h' tk hx ho hit' hT hsz hk => ?_
    obtain ⟨c, u, hcx, rfl⟩ := hx
    refine ⟨_, rfl, wpAny_letOwnedTupleGo_enum (s := { s with heap := h', toks := tk + 1 }) ho fun h'' he' sb => ?_⟩
    have hT2 : h''.get? s.heap.objs.size = some { cls := .type "tuple", data := .seq #[.int i tk, .str ⟨#[c]⟩ u] } := (sb.2 _ (Nat.ne_of_gt hel)).trans hT
    have new : ObjOk X.prog X.w (upd H s.heap.objs.size (.tup [.int (i : Nat), .str ⟨#[c]⟩])) h'' s.heap.objs.size (.tup [.int (i : Nat), .str ⟨#[c]⟩]) :=
      ⟨by show 2 ≤ sizeLine; decide, [.int i tk, .str ⟨#[c]⟩ u], .cons ⟨_, rfl⟩ (.cons ⟨_, rfl⟩ .nil), ⟨_, hT2, rfl, _, rfl⟩⟩
    have I1 : Inv X pins σ (upd H s.heap.objs.size (.tup [.int (i : Nat), .str ⟨#[c]⟩])) { s with heap := h'', toks := tk + 1 } :=
      I.turnedNew (ch := [e, it]) (fun b ob hb q => (sb.2 b (fun z => hb (by simp [z]))).trans (hk b ob (fun z => hb (by simp [z])) (fun z => hb (by simp [z])) q)) hf (Nat.le_refl _) new
    refine ⟨.ref s.heap.objs.size, _, I1, rfl, ⟨_, c, rfl, I.hok.fresh (Nat.le_refl _), rfl, hcx⟩, ⟨⟨.str ⟨#[c]⟩ u, ?_⟩, ?_, hne⟩, fun b hb => ?_⟩
    · have e1 : ((i + 1 : Nat) : Int) = (i : Int) + 1 := by omega
      rw [e1]; exact he'
    · obtain ⟨o, ho2, hc2⟩ := hit'
      exact ⟨o, (sb.2 it (Ne.symm hne)).trans ho2, hc2⟩
    · have hb' : b < s.heap.objs.size := by
        have e' : b = e ∨ b = it := by simpa using hb
        rcases e' with z | z
        · rw [z]; exact hel
        · rw [z]; exact hil
      rw [upd_ne (Nat.ne_of_lt hb')]
      exact (hf b hb).1
  done := by
    intro X hP hw hK hc i pins s σ H E I hf st hg
    subst hP hw hK
    obtain ⟨⟨old, he⟩, hit, hne⟩ := st
    obtain ⟨f0, f1, f2, f3, f4, f5⟩ := hf it (by simp)
    subst hg
    exact wpAny_pyNext_enum_endD (Draws.text (show X.A.in1.handled = none from I.ok.hd hc) it z t) he hit fun h' eb => ⟨rfl, I.turned (t' := s.toks) (fun b o hb q => eb b o hb q) f0 f1 f3 f4 f5⟩
  self := fun A i s Q E st h => let ⟨⟨_, he⟩, _⟩ := st; wpAny_pyIter_enum he h
def iEnumS (ta : TA) : TI := fun σ H R => ta σ H fun vs H1 => ∃ z, vs = [.str z] ∧ R (IteS z) H1
theorem pi_enumS {X : Cx} {e : Expr} {ta : TA} {p pos tpos : Pos} {elts : List Expr} {kk : Nat} (hg : Gl X "enumerate") (hm : X.mg "enumerate" = none) (ha : PA X [e] ta) (hs : starEach [e] X.env = [(false, eval e X.env)] := by rfl) :
    PI X (.Tuple elts kk tpos) (.Call (.Name "enumerate" p) [e] [] pos) (iEnumS ta) := by
  refine ⟨fun pins s σ H R I h => ?_⟩
  refine Call_ (ld_blt I hg hm boot_enumerate (PyProof.Rows.callWith_type1 (thn (ha.run pos pins s σ H _ I h) fun us s1 ⟨vs, H1, I1, r1, q1⟩ => ?_) hs rfl))
  obtain ⟨z, ex, q⟩ := q1
  subst ex
  cases r1 with
  | cons r rr =>
    cases rr
    obtain ⟨t, rfl⟩ := r
    refine call_enumerate_str fun h' he hit hsz hk => wpAny_pyIter_enum he ?_
    have I2 : Inv X pins σ H1 { s1 with heap := h' } := I1.kept (t' := s1.toks) hk
    refine ⟨s1.heap.objs.size + 1, [s1.heap.objs.size + 1, s1.heap.objs.size], _, _, H1, rfl, I2, turn_enumS z t (s1.heap.objs.size + 1) s1.heap.objs.size, ⟨⟨.none, he⟩, hit, Nat.succ_ne_self _⟩, fun b hb => ?_, q⟩
    have e' : b = s1.heap.objs.size + 1 ∨ b = s1.heap.objs.size := by simpa using hb
    have hle : s1.heap.objs.size ≤ b := by
      rcases e' with z | z
      · rw [z]; exact Nat.le_add_right _ _
      · rw [z]; exact Nat.le_refl _
    exact I1.fpOk hle (I1.hok.fresh hle)
theorem walk_enumS {z : Str} : Walk (IteS z) z.cps.size (fun _ => True) (YPair (fun i => some (.int (i : Nat))) (fun i => z.cps[i]?.map fun c => .str ⟨#[c]⟩)) := by
  refine ⟨fun i _ hi _ => hi, fun _ _ => rfl, fun i H v H' _ _ y => ?_⟩
  obtain ⟨T, c, h1, h2, h3, h4⟩ := y
  exact ⟨T, .int (i : Nat), .str ⟨#[c]⟩, h1, h2, h3, rfl, by show (z.cps[i]?.map fun c => V.str ⟨#[c]⟩) = _; rw [h4]; rfl⟩
end K11
end
section
set_option maxRecDepth 100000
set_option maxHeartbeats 4000000
namespace K11
open PySem PySem.Spec PySem.SeqAt PyProof.Rows L2 PySem.W
/-! ### sorted(a list of triples of ints that stand in order) -/
abbrev I3 := Int × Int × Int
def d3 (b : I3) : PyData := .tuple [.int b.1, .int b.2.1, .int b.2.2]
def lt3 (b c : I3) : Bool := listLt [b.1, b.2.1, b.2.2] [c.1, c.2.1, c.2.2]
theorem dataLt_d3 (b c : I3) : dataLt (d3 b) (d3 c) = lt3 b c := (dataLt_tuple _ _).trans (lexAll_map (α := Int) [b.1, b.2.1, b.2.2] [c.1, c.2.1, c.2.2])
theorem alike_d3 (b c : I3) : alike (d3 b) (d3 c) = true := by
  show alike (.tuple _) (.tuple _) = true
  simp only [alike]
  exact alikeAll_map (α := Int) [b.1, b.2.1, b.2.2] [c.1, c.2.1, c.2.2]
theorem depth_d3 (b : I3) : (d3 b).depth ≤ 8 := by
  simp [d3, PyData.depth, PyData.depthAll]
def rSortUp (K : PySem.W.Frag) : List V → Hp → VK → Prop := fun vs H Q => ∃ (a : Addr) (xs : List V) (bs : List I3), vs = [.ref a] ∧ SqL K H a xs ∧ Paired (fun x b => Dp K H x (d3 b)) xs bs ∧ bs.Pairwise (fun b c => lt3 c b = false) ∧
  ∀ p, H p = none → Q (.ref p) (upd H p (.lst xs))
theorem each_zip {K : PySem.W.Frag} {H : Hp} : ∀ {xs : List V} {us : List Value} {bs : List I3}, Vals xs us → Paired (fun x b => Dp K H x (d3 b)) xs bs → EachIs (fun (u : Value) (z : V × I3) => RelV z.1 u) us (xs.zip bs)
  | _, _, _, .nil, .nil => .nil
  | _, _, _, .cons r t, .cons d e => .cons r (each_zip t e)
theorem each_reads {X : Cx} {pins : List (Addr × Obj)} {σ : L2.St} {H : Hp} {s : Shared} (I : Inv X pins σ H s) : ∀ {xs : List V} {us : List Value} {bs : List I3}, Vals xs us → Paired (fun x b => Dp X.K H x (d3 b)) xs bs → EachIs (fun (u : Value) (z : V × I3) => ∃ as, Reads s.heap u (d3 z.2) as) us (xs.zip bs)
  | _, _, _, .nil, .nil => .nil
  | _, _, _, .cons r t, .cons d e => .cons (Dp.reads I _ _ _ d r) (each_reads I t e)
theorem vals_each : ∀ {xs : List V} {bs : List I3} {us : List Value}, xs.length = bs.length → EachIs (fun (u : Value) (z : V × I3) => RelV z.1 u) us (xs.zip bs) → Vals xs us
  | [], [], us, _, h => by cases h; exact .nil
  | x :: xs, b :: bs, us, hl, h => by
    cases h with
    | cons r t => exact .cons r (vals_each (by simpa using hl) t)
  | [], b :: bs, us, hl, h => by simp at hl
  | x :: xs, [], us, hl, h => by simp at hl
theorem pw_zip {R : I3 → I3 → Prop} : ∀ (xs : List V) (bs : List I3), bs.Pairwise R → (xs.zip bs).Pairwise fun p q => R p.2 q.2
  | [], _, _ => by simp
  | _ :: _, [], _ => by simp
  | x :: xs, b :: bs, h => by
    rw [List.zip_cons_cons]
    have := List.pairwise_cons.mp h
    refine List.pairwise_cons.mpr ⟨fun z hz => this.1 z.2 ?_, pw_zip xs bs this.2⟩
    exact (List.of_mem_zip hz).2
theorem cr_sortUp {X : Cx} (hu : X.A.units + 64 < cLine) : CallR X (.builtin "sorted") (rSortUp X.K) := by
  intro pins s σ H vs us Q I r h
  obtain ⟨a, xs, bs, rfl, hs, hd, hw, q⟩ := h
  obtain ⟨its, rv, hl, hz⟩ := I.list hs
  obtain ⟨u, rfl, ru⟩ := vals1 r
  obtain rfl : u = Value.ref a := ru
  have hlen : xs.length = bs.length := Paired.length hd
  have hdep : ∀ b : V × I3, b ∈ xs.zip bs → X.A.units + 2 + (d3 b.2).depth < cLine := fun b _ => by
    have := depth_d3 b.2
    omega
  refine sorted_data (bs := xs.zip bs) (enc := fun z => d3 z.2) (R := fun u z => RelV z.1 u) hl.isList (each_zip rv hd) (each_reads I rv hd) (AllAlike.of fun b b' => alike_d3 b.2 b'.2) (Sortable.tuples fun b => ⟨_, _, rfl⟩)
    (by rw [List.length_zip, ← hlen, Nat.min_self]; exact hz) hdep fun out ho eo => ?_
  have same : (xs.zip bs).mergeSort (dataLe false fun z => d3 z.2) = xs.zip bs := List.mergeSort_of_pairwise (pw_zip (R := fun b c => lt3 c b = false) xs bs hw |>.imp fun {p q} h => by
    show (!dataLt (d3 q.2) (d3 p.2)) = true
    rw [dataLt_d3, h]; rfl)
  rw [same] at eo
  have rv2 := vals_each hlen eo
  obtain ⟨c, hc⟩ := sortedAll_at s.heap its out.toArray
  have k : ∀ b o, s.heap.get? b = some o → (sortedAll s.heap its out.toArray).get? b = some o := fun b o e => sortedAll_old e
  refine ⟨.ref (s.heap.objs.size + 1), upd H (s.heap.objs.size + 1) (.lst xs), I.laid (t' := s.toks) k (Nat.le_succ _) ⟨hz, out, c, rv2, hc⟩, rfl, q _ (I.hok.fresh (Nat.le_succ _))⟩
end K11
end
section
set_option maxRecDepth 100000
set_option maxHeartbeats 4000000
namespace K11
open PySem PySem.Spec PySem.SeqAt PyProof.Rows L2 PySem.W
/-! ### d != {}: a dict against an empty one -/
section
variable {prog : Program} {w : World} {A : Around} {E : Value → Shared → Prop} {s : Shared}
theorem ne_sizes {a b : Addr} {oa ob : Obj} {es es' : Array DictEntry} {ep ep' : Nat} {Q : Value → Shared → Prop} (la : (a == sysModules) = false) (lb : (b == sysModules) = false)
    (ga : s.heap.get? a = some oa) (xa : oa.ExactDict) (da : oa.data = .dict es ep) (gb : s.heap.get? b = some ob) (xb : ob.ExactDict) (db : ob.data = .dict es' ep') (hn : es.size ≠ es'.size) (hu : A.units < cLine) (h : Q (.bool true) s) :
    wpAny (model prog w) A (compareOp .NotEq (.ref a) (.ref b)) Q E s := by
  have ta : s.TypeIs (.ref a) "dict" := ⟨oa, ga, xa.1⟩
  have tb : s.TypeIs (.ref b) "dict" := ⟨ob, gb, xb.1⟩
  have same : ∀ {Q2 : Bool → Shared → Prop} {A2 : Around} {E2 : Value → Shared → Prop}, Q2 false s → wpAny (model prog w) A2 (Builtin.Dict.samePairs "dict.__ne__" a b) Q2 E2 s := fun {Q2 A2 E2} q => by
    unfold Builtin.Dict.samePairs Builtin.Dict.showsAll
    rw [if_neg (show ¬ (a == sysModules) = true by rw [la]; exact Bool.false_ne_true), if_neg (show ¬ (b == sysModules) = true by rw [lb]; exact Bool.false_ne_true)]
    refine wpAny_bind (wpAny_pure (wpAny_bind (wpAny_pure (wpAny_bind (wpAny_dictEntries ga da ?_)))))
    dsimp only
    refine wpAny_bind (wpAny_dictEntries gb db ?_)
    rw [if_pos (by simpa using hn)]
    exact wpAny_bind (wpAny_rule (wpAny_pure q))
  refine wpAny_richCompare_same_room (op := .NotEq) ta tb PySem.F.slot_dict_ne (wpAny_call_entry PySem.F.slot_dict_ne ta PySem.F.entry_dict_ne ?_ (PySem.F.args_dict_ne_2 _ _)) hu
  show wpAny _ _ (Builtin.Dict.dictSlotArgs "__ne__" ⟨[.ref a, .ref b], []⟩ >>= _) _ _ s
  refine wpAny_bind ?_
  unfold Builtin.Dict.dictSlotArgs
  refine wpAny_bind (wpAny_notOrdered_dict ta ?_)
  show wpAny _ _ (pure (Value.ref a, Value.ref b)) _ _ s
  refine wpAny_pure (wpAny_bind (wpAny_isInstance (T := "dict") tb PySem.F.sub_dict_dict ?_))
  simp only [Bool.not_true, Bool.false_eq_true, if_false]
  refine wpAny_bind (wpAny_pure (wpAny_bind (wpAny_pure (wpAny_bind (same ?_)))))
  refine wpAny_pure ⟨_, rfl, ?_, ?_⟩
  · exact fun x => nomatch x
  · simpa using h
end
section
variable {X : Cx}
def rNe0 : R2 := fun x y H Q => ∃ (a b : Addr) (kvs : List (List Key × V)), x = .ref a ∧ y = .ref b ∧ H a = some (.dT kvs) ∧ H b = some (.dT []) ∧ Q (.bl (!kvs.isEmpty)) H
theorem op_ne0 (hu : X.A.units < cLine) : OpR X (compareOp .NotEq) rNe0 := by
  intro pins s σ H x y v u Q I rx ry h
  obtain ⟨a, b, kvs, rfl, rfl, ea, eb, q⟩ := h
  obtain rfl : v = Value.ref a := rx
  obtain rfl : u = Value.ref b := ry
  obtain ⟨_, ya, xs, ra, oa, es, ep, ga, xa, da, la, na⟩ := (show ObjOk X.prog X.w H s.heap a (.dT kvs) from I.hok a _ ea)
  obtain ⟨_, yb, zs, rb, ob, es', ep', gb, xb, db, lb, nb⟩ := (show ObjOk X.prog X.w H s.heap b (.dT []) from I.hok b _ eb)
  cases rb
  have hz' : es'.size = 0 := by rw [← Array.length_toList, lb]; rfl
  have hz : es.size = kvs.length := by rw [← Array.length_toList, la, List.length_map, Paired.length ra]
  cases kvs with
  | nil =>
    cases ra
    have ee : es = #[] := Array.eq_empty_of_size_eq_zero hz
    have ee' : es' = #[] := Array.eq_empty_of_size_eq_zero hz'
    subst ee ee'
    have Da : s.heap.DictOf (mixKind X.prog X.w) a [] := ⟨oa, _, _, ga, xa, da, fun e he => by simp at he, .nil, by simp⟩
    have Db : s.heap.DictOf (mixKind X.prog X.w) b [] := ⟨ob, _, _, gb, xb, db, fun e he => by simp at he, .nil, by simp⟩
    exact PySem.W.keq_ne (knd := mixKind X.prog X.w) (r := true) ya yb Da Db hu (fun _ => .nil) ⟨.bl false, H, I, rfl, q⟩
  | cons p r =>
    refine ne_sizes ya yb ga xa da gb xb db (by rw [hz, hz']; simp) hu ⟨.bl true, H, I, rfl, q⟩
end
end K11
end
section
set_option maxRecDepth 100000
set_option maxHeartbeats 4000000
namespace K11
open PySem PySem.Spec PySem.SeqAt PyProof.Rows L2 PySem.W
/-! ### len(set(a list of texts, no two alike)) -/
/-- the first i texts are in -/
def inFirst (ts : List Str) (i : Nat) (z : Str) : Bool := (ts.take i).any (· == z)
theorem inFirst_new {ts : List Str} (nd : ts.Nodup) {i : Nat} {x : Str} (h : ts[i]? = some x) : inFirst ts i x = false := by
  rw [inFirst, List.any_eq_false]
  intro y hy e
  have e' : y = x := by simpa using e
  subst e'
  obtain ⟨j, hj, hjy⟩ := List.mem_iff_getElem.mp hy
  rw [List.getElem_take] at hjy
  rw [List.length_take] at hj
  obtain ⟨hi, hx⟩ := List.getElem?_eq_some_iff.mp h
  exact (List.pairwise_iff_getElem.mp nd) j i (by omega) hi (by omega) (hjy.trans hx.symm)
theorem inFirst_succ {ts : List Str} {i : Nat} {x : Str} (h : ts[i]? = some x) (z : Str) : (inFirst ts i z || decide (z = x)) = inFirst ts (i + 1) z := by
  rw [inFirst, inFirst, List.take_succ, h, List.any_append]
  by_cases e : z = x
  · subst e; simp
  · have e2 : (x == z) = false := by simpa using fun q : x = z => e q.symm
    simp [e, e2]
theorem strs_get : ∀ {us : List Value} {ts : List Str}, Vals (ts.map V.str) us → ∀ (i : Nat) (v : Value), us[i]? = some v → ∃ x t, ts[i]? = some x ∧ v = .str x t
  | us, [], r, i, v, e => by cases r; simp at e
  | _, x :: ts, .cons r q, 0, v, e => by
    obtain ⟨t, rfl⟩ := r
    cases e
    exact ⟨x, t, rfl, rfl⟩
  | _, _ :: ts, .cons _ q, i + 1, v, e => strs_get q i v e
section
variable {prog : Program} {w : World} {A : Around} {R : Result → Shared → Prop} {I : Addr} {fp wr : List Addr} {G : Array GenState → Array GenState → Prop} {n : Nat} {P : Nat → Value → Prop} {St : Nat → Shared → Prop}
/-- what stands at S stands there behind a step that left S alone -/
theorem setOf_kept {S : Addr} {s s' : Shared} {T : Str → Bool} {m : Nat} (h : s.heap.SetOf (PySem.strKind prog w) S T m) (k : ∀ o, s.heap.get? S = some o → s'.heap.get? S = some o) : s'.heap.SetOf (PySem.strKind prog w) S T m :=
  let ⟨o, es, ep, tb, ho, r⟩ := h
  ⟨o, es, ep, tb, k o ho, r⟩
theorem fill_texts (W : WalksS prog w A.in1 I fp wr G n P St) (S : Addr) (apart : S ∉ fp) (ts : List Str) (nd : ts.Nodup) (small : n + 1 < scanBound)
    (item : ∀ i v, P i v → ∃ x t, ts[i]? = some x ∧ v = .str x t) (left : Nat) :
    ∀ (i : Nat) (s : Shared), n = i + left → St i s → s.heap.SetOf (PySem.strKind prog w) S (inFirst ts i) i →
      (∀ s', Moved (S :: wr) G s s' → s'.heap.SetOf (PySem.strKind prog w) S (inFirst ts n) n → R (.ok (.ret .none)) s') →
      codeAny (model prog w) A (.builtin "set.update.loop" ⟨[.ref S, .ref I], []⟩) R s := by
  have free : S ∉ wr := fun q => apart (W.sub _ q)
  have wide : ∀ b ∈ wr, b ∈ S :: wr := fun b q => List.mem_cons.mpr (.inr q)
  induction left with
  | zero =>
    intro i s hi st so fin
    obtain rfl : n = i := by omega
    refine codeAny_builtin PyProof.Rows.F.entry_set_update_loop ?_
    rw [Around.under_plainId PyProof.Rows.F.plain_set_update_loop _]
    show wpAny _ A.in1 (pyNext (Value.ref I) >>= _) _ _ s
    refine wpAny_bind (W.done s _ _ st fun s1 mv => ?_)
    show wpAny _ A.in1 (ret .none) _ _ s1
    exact wpAny_pure (fin s1 (mv.mono wide) (setOf_kept so fun o q => mv.heap S o free q))
  | succ left ih =>
    intro i s hi st so fin
    have lt : i < n := by omega
    refine codeAny_builtin PyProof.Rows.F.entry_set_update_loop ?_
    rw [Around.under_plainId PyProof.Rows.F.plain_set_update_loop _]
    show wpAny _ A.in1 (pyNext (Value.ref I) >>= _) _ _ s
    refine wpAny_bind (W.item i s _ _ lt st fun v s1 pv st1 mv => ?_)
    obtain ⟨x, t, hx, rfl⟩ := item i v pv
    have so1 := setOf_kept so fun o q => mv.heap S o free q
    show wpAny _ A.in1 (holding [.str x t] (setAdd S (.str x t)) >>= _) _ _ s1
    refine wpAny_bind (wpAny_holding ?_)
    unfold setAdd
    refine wpAny_holding (wpAny_bind ((PySem.strKind prog w).pyHash (k := x) (strKind_is _ _ _ _) ?_))
    refine wpAny_setAddHashed_of (knd := PySem.strKind prog w) (s := { s1 with toks := s1.toks + 1 }) (strKind_is _ _ _ _) rfl so1 (by omega) fun h2 but so2 => ?_
    have so3 : h2.SetOf (PySem.strKind prog w) S (inFirst ts (i + 1)) (i + 1) := SetOf_congr so2 (fun z => inFirst_succ hx z) (by rw [inFirst_new nd hx]; rfl)
    have off : ∀ b, b ∈ fp → b ≠ S := fun b q e => apart (e ▸ q)
    refine wpAny_pure ⟨plainId_quiet PyProof.Rows.F.plain_set_update_loop _, ih (i + 1) _ (by omega) (W.frame _ s1 _ _ st1 (Nat.le_succ _) fun b q o e => (but.2 b (off b q)).trans e) so3 fun s3 mv3 so4 => ?_⟩
    refine fin s3 (Moved.trans W.gtrans ((mv.mono wide).then_heap (Nat.le_succ _) fun b o q e => (but.2 b fun z => q (z ▸ List.mem_cons_self)).trans e) mv3) so4
end
section
variable {prog : Program} {w : World} {A : Around} {E : Value → Shared → Prop} {s : Shared}
theorem set_of_texts {l : Addr} {items : Array Value} {ts : List Str} {Q : Value → Shared → Prop} (hh : A.handled = none) (hl : s.heap.IsList l items) (hi : Vals (ts.map V.str) items.toList) (nd : ts.Nodup) (small : ts.length + 1 < scanBound)
    (h : ∀ (h' : Heap) (tk : Nat), h'.SetOf (PySem.strKind prog w) s.heap.objs.size (inFirst ts ts.length) ts.length → (∀ b o, s.heap.get? b = some o → h'.get? b = some o) → Q (.ref s.heap.objs.size) { s with heap := h', toks := tk }) :
    wpAny (model prog w) A (call (.type "set") [.ref l]) Q E s := by
  have hsize : items.size = ts.length := by rw [← Array.length_toList, ← Paired.length hi, List.length_map]
  obtain ⟨c, tl, hmro⟩ := PySem.F.called_set.mro
  have mk := PySem.F.called_set.made
  have sb := PySem.F.called_set.sub
  refine wpAny_call (codeAny_of_tree ?_)
  show wpAny _ _ (callAny (.type "set") _) _ _ _
  refine wpAny_pure ⟨Code.quiet_builtin _ (by decide +kernel), codeAny_builtin PySem.F.entry_type_call ?_⟩
  rw [Around.under_plain (weight_type_call_type "set" [.ref l] []) rfl]
  have p1 := PySem.F.called_set.notType
  have p2 := PySem.F.called_set.canCreate
  have p3 := PySem.F.typeCall_set_1 (.ref l)
  repeat (any_goals (first | assumption | wp_step))
  refine codeAny_mono (code_set_new_1 (.ref l) (E := E) (Q₁ := fun obj s1 => ∃ led : Bool, obj = .ref s.heap.objs.size ∧ s1 = { s with heap := s.heap.push { cls := .type "set", dict := none, data := .set #[] 0 (.fresh 0 0 led) } }) fun led => ⟨led, rfl, rfl⟩) fun r s1 hr => ?_
  cases r with
  | error e => exact hr
  | ok fl =>
    cases fl with
    | next => exact hr.elim
    | brk => exact hr.elim
    | cont => exact hr.elim
    | ret obj =>
      obtain ⟨led, rfl, rfl⟩ := hr
      have at0 := Heap.get?_push_size s.heap (o := { cls := .type "set", dict := none, data := .set #[] 0 (.fresh 0 0 led) }) rfl
      have ty0 : Shared.TypeIs { s with heap := s.heap.push { cls := .type "set", dict := none, data := .set #[] 0 (.fresh 0 0 led) } } (.ref s.heap.objs.size) "set" := ⟨_, at0, rfl⟩
      have q1 := PySem.F.called_set.init.lookup
      have q2 := PySem.F.called_set.init.bind (.ref s.heap.objs.size)
      repeat (any_goals (first | assumption | wp_step))
      refine codeAny_mono (codeAny_call_builtin (R := wants (fun r s2 => r = .none ∧ ∃ h' tk, s2 = { s with heap := h', toks := tk } ∧ h'.SetOf (PySem.strKind prog w) s.heap.objs.size (inFirst ts ts.length) ts.length ∧ (∀ b o, s.heap.get? b = some o → h'.get? b = some o)) E)
        PySem.F.called_set.init.plain PySem.F.entry_set_init (check_set_init_1 ty0 ?_)) fun r2 s2 hr2 => ?_
      · obtain ⟨ol, gl, cl, nl, dl⟩ := hl
        have lt0 : l < s.heap.objs.size := Heap.lt_size gl
        obtain ⟨ocls, odict, odata, oslots⟩ := ol
        simp only at cl dl
        subst cl; subst dl
        have gl2 : (s.heap.push { cls := .type "set", dict := none, data := .set #[] 0 (.fresh 0 0 led) }).get? l = some { cls := .type "list", dict := odict, data := .seq items nl, slots := oslots } := Heap.get?_push_of_some _ gl
        have n1 := PySem.F.sub_list_set
        have n2 := PySem.F.sub_list_frozenset
        have n3 : (Value.type "list" == Value.type "dict") = false := by decide
        have hl2 : (s.heap.push { cls := .type "set", dict := none, data := .set #[] 0 (.fresh 0 0 led) }).IsList l items := ⟨_, gl2, rfl, nl, rfl⟩
        unfold Builtin.«set.__init__» noKeywords Builtin.Frozenset.updateFrom
        generalize hPI : pyIter = PI
        wp_walk
        subst hPI
        refine wpAny_pyIter_list hl2 (wpAny_bind (wpAny_runValue ?_))
        have sz := Heap.size_push s.heap { cls := .type "set", dict := none, data := .set #[] 0 (.fresh 0 0 led) }
        have calm : A.in1.in1.in1.handled = none := by simp [hh]
        have far : l ≠ (s.heap.push { cls := .type "set", dict := none, data := .set #[] 0 (.fresh 0 0 led) }).objs.size := by rw [sz]; exact Nat.ne_of_lt (Nat.lt_succ_of_lt lt0)
        refine fill_texts ((Walks.list calm _ l far items).toS) s.heap.objs.size (fun q => (List.mem_cons.mp q).elim (fun z => Nat.ne_of_lt (Nat.lt_succ_self _) (z.trans sz)) fun z => Nat.ne_of_gt lt0 (List.mem_singleton.mp z)) ts nd (by rw [hsize]; exact small)
          (fun i v e => strs_get hi i v (by rw [Array.getElem?_toList]; exact e)) items.size 0 _ (by omega) ⟨⟨_, Heap.get?_push_size _ rfl, rfl, rfl⟩, hl2.push _⟩ ?start ?fin
        case start =>
          exact SetOf_congr ((setObjOf_fresh (knd := PySem.strKind prog w) led).setOf (Heap.get?_push_of_some _ at0) (by unfold scanBound; omega)) (fun _ => rfl) rfl
        case fin =>
          intro s' mv so
          obtain ⟨h', g', d', tk', os'⟩ := s'
          obtain rfl : g' = s.gens := mv.gens
          obtain rfl : d' = s.drawn := mv.drawn
          obtain rfl : os' = s.os := mv.os
          show wpAny _ _ _ _ _ _
          refine wpAny_pure ?_
          show wpAny _ _ (ret Value.none) _ _ _
          rw [hsize] at so
          refine wpAny_pure ⟨rfl, h', tk', rfl, so, fun b o e => ?_⟩
          have hb := Heap.lt_size e
          exact mv.heap b o (fun q => (List.mem_cons.mp q).elim (fun z => Nat.ne_of_lt hb z) fun z => Nat.ne_of_lt (Nat.lt_succ_of_lt hb) ((List.mem_singleton.mp z).trans sz)) (Heap.get?_push_of_some _ (Heap.get?_push_of_some _ e))
      · cases r2 with
        | error e => exact hr2
        | ok fl2 =>
          cases fl2 with
          | next => exact hr2.elim
          | brk => exact hr2.elim
          | cont => exact hr2.elim
          | ret r =>
            obtain ⟨rfl, h', tk, rfl, so, k⟩ := hr2
            repeat (any_goals (first | assumption | wp_step))
            exact h _ _ so k
end
section
variable {X : Cx}
def tLenSetS (K : PySem.W.Frag) (ta : TE) : TE := fun σ H Q => ta σ H fun x H1 => ∃ (l : Addr) (ts : List Str), x = .ref l ∧ SqL K H1 l (ts.map V.str) ∧ ts.Nodup ∧ ts.length ≤ 1000 ∧ Q (.int (ts.length : Nat)) H1
theorem pe_lenSetS {a : Expr} {ta : TE} {p p2 q pos : Pos} (calm : X.calm = true) (g1 : Gl X "len") (m1 : X.mg "len" = none) (g2 : Gl X "set") (m2 : X.mg "set" = none) (ha : PE X a ta)
    (one : starEach [a] X.env = (false, eval a X.env) :: starEach [] X.env := by rfl) : PE X (.Call (.Name "len" p) [.Call (.Name "set" p2) [a] [] q] [] pos) (tLenSetS X.K ta) := by
  refine ⟨fun pins s σ H Q I h => ?_⟩
  refine Call_ (ld_blt I g1 m1 boot_len (PyProof.Rows.callWith_builtin1 (PyProof.Rows.args_cons ?_ rfl) rfl rfl))
  refine Call_ (ld_blt I g2 m2 boot_set ?_)
  refine PyProof.Rows.callWith_type1 (PyProof.Rows.args_cons (thn (ha.run pins s σ H _ I h) fun v s1 ⟨x, H1, I1, r1, q1⟩ => PyProof.Rows.args_nil ?_) one) one rfl
  obtain ⟨l, ts, rfl, hq, nd, small, q1⟩ := q1
  cases r1
  obtain ⟨its, r, pl, hz⟩ := I1.list hq
  refine set_of_texts (I1.ok.hd calm) pl.isList (by simpa using r) nd (by unfold scanBound; omega) fun h' tk so k => PyProof.Rows.args_nil ?_
  obtain ⟨o, es, ep, t, ho, hex, hd, _, _, _, hf, hn⟩ := so
  have I2 : Inv X pins σ H1 { s1 with heap := h', toks := tk } := I1.kept k
  exact call_len_set ho hex hd hf (by rw [hn] <;> omega) ⟨.int ts.length, H1, I2.tok _, ⟨_, by rw [hn]⟩, q1⟩
end
end K11
end
section
set_option maxRecDepth 100000
set_option maxHeartbeats 4000000
/-! The program's defs over words: is_cut, copies_told, raised, best_begins. -/
namespace K11
open PySem L2 Evl PyProof.Rows
/-! ### words as texts -/
def tx (T : List Nat) : Str := ⟨T.toArray⟩
theorem tx_len (T : List Nat) : (tx T).length = T.length := by
  show T.toArray.size = _
  simp
theorem tx_cps (T : List Nat) : (tx T).cps.toList = T := by
  show T.toArray.toList = T
  simp
theorem tx_inj {S T : List Nat} : (tx S = tx T) ↔ S = T := by
  constructor
  · intro h
    have := congrArg (fun s : Str => s.cps.toList) h
    simpa [tx] using this
  · intro h; rw [h]
def chr1 (c : Nat) : Str := ⟨#[c]⟩
theorem chr1_tx (c : Nat) : chr1 c = tx [c] := rfl
theorem chr1_inj {c d : Nat} : (V.str (chr1 c) = V.str (chr1 d)) ↔ c = d := by
  constructor
  · intro h
    injection h with h1
    have := tx_inj.mp (show tx [c] = tx [d] from h1)
    simpa using this
  · intro h; rw [h]
theorem blank_chr : (" " : Str) = chr1 32 := by decide +kernel
/-- what the module's names are -/
structure Bi (mg : Str → Option Value) : Prop where
  len : mg "len" = none
  int : mg "int" = none
  min : mg "min" = none
  max : mg "max" = none
  range : mg "range" = none
  list : mg "list" = none
  tuple : mg "tuple" = none
  set : mg "set" = none
  str : mg "str" = none
  bool : mg "bool" = none
  all : mg "all" = none
  abs : mg "abs" = none
  enumerate : mg "enumerate" = none
  sorted : mg "sorted" = none
  repr : mg "repr" = none
  isinstance : mg "isinstance" = none
  blank : ∃ t, mg "BLANK" = some (.str " " t)
  letters : ∃ t, mg "LETTERS" = some (.str "abcdefghijklmnopqrstuvwxyz" t)
  mostL : ∃ t, mg "MOST_LETTERS" = some (.int 12 t)
  mostW : ∃ t, mg "MOST_WORDS" = some (.int 40 t)
  mostM : ∃ t, mg "MOST_MADE" = some (.int 4 t)
/-- a def of the program as the top has left it -/
structure Df (K : PySem.W.Frag) (mg : Str → Option Value) (x : Str) (st : Stmt) (f : Addr) (fd : FuncData) (ps : List Str) : Prop where
  F : Fun K x x st f fd
  b : Binds K fd ps []
  m : mg x = some (.ref f)
section
variable {σ : L2.St} {H H' : Hp} {ta tb te : TE} {t : TT} {D : Ends} {tz : TS}
/-! ### what evaluates to a pair of ints, the first known -/
def IsP (H : Hp) (r : Addr) (c : Nat) : Prop := ∃ b : Int, H r = some (.tup [.int (c : Int), .int b])
theorem IsP.ex {r : Addr} {c : Nat} (h : IsP H r c) (e : Ex H H') : IsP H' r c := let ⟨b, q⟩ := h; ⟨b, e _ _ q⟩
theorem IsP.upd {r p : Addr} {c : Nat} {xs : List V} {o : HO} (h : IsP H r c) (hp : H p = some (.lst xs)) : IsP (upd H p o) r c := by
  obtain ⟨b, q⟩ := h
  exact ⟨b, by rw [upd_ne (ne_of q hp (by intro z; cases z))]; exact q⟩
def EvP (te : TE) (σ : L2.St) (H : Hp) (c : Nat) : Prop := ∀ H1, Ex H H1 → ∀ Q : VK, (∀ r H2, Ex H1 H2 → IsP H2 r c → Q (.ref r) H2) → te σ H1 Q
theorem EvP.mono {c : Nat} (e : Ex H H') (h : EvP te σ H c) : EvP te σ H' c := fun H1 a Q q => h H1 (e.trans a) Q q
theorem evp_of {r : Addr} {c : Nat} (h : Ev te σ H (.ref r)) (hr : IsP H r c) : EvP te σ H c := fun H1 e Q q => h H1 e _ fun H2 e2 => q r H2 e2 (hr.ex (e.trans e2))
theorem evp_if {b : Bool} {c : Nat} (h : EvT t σ H b) (h1 : b = true → EvP ta σ H c) (h2 : b = false → EvP tb σ H c) : EvP (tIf t ta tb) σ H c := fun H1 e Q q => h H1 e _ fun H2 e2 => by
  cases b with
  | true => exact h1 rfl H2 (e.trans e2) Q fun r H3 e3 => q r H3 (e2.trans e3)
  | false => exact h2 rfl H2 (e.trans e2) Q fun r H3 e3 => q r H3 (e2.trans e3)
theorem evp_tup {c : Nat} {b : Int} (ha : Ev ta σ H (.int (c : Int))) (hb : Ev tb σ H (.int b)) : EvP (tTup (tCons ta (tCons tb tNil))) σ H c := fun H1 e Q q =>
  eu_tup (ea_cons ha (ea_cons hb ea_nil)) (by show 2 ≤ 100000; decide) H1 e Q fun p H2 hp e2 h => q p H2 e2 ⟨b, h⟩
theorem evp_min {K : PySem.W.Frag} {c d : Nat} (ha : EvP ta σ H c) (hb : ∀ H1, Ex H H1 → EvP tb σ H1 d) : EvP (tCB (rMinT K) (tCons ta (tCons tb tNil))) σ H (min c d) := fun H1 e Q q =>
  ha H1 e _ fun r H2 e2 h1 => hb H2 (e.trans e2) H2 (Ex.refl _) _ fun u H3 e3 h2 => by
    obtain ⟨b, hb1⟩ := h1.ex e3
    obtain ⟨b', hb2⟩ := h2
    refine ⟨r, u, [(c : Int), b], [(d : Int), b'], rfl, SqT.of hb1, SqT.of hb2, ?_⟩
    rw [HT.lexLt_cons]
    have left : c ≤ d → Q (.ref r) H3 := fun z => q r H3 (e2.trans e3) ⟨b, by rw [Nat.min_eq_left z]; exact hb1⟩
    have right : d ≤ c → Q (.ref u) H3 := fun z => q u H3 (e2.trans e3) ⟨b', by rw [Nat.min_eq_right z]; exact hb2⟩
    by_cases hcd : (d : Int) = (c : Int)
    · rw [if_pos hcd]
      by_cases hl : HT.lexLt [b'] [b] = true
      · rw [if_pos hl]; exact right (by omega)
      · rw [if_neg hl]; exact left (by omega)
    · rw [if_neg hcd]
      by_cases hl : decide ((d : Int) < (c : Int)) = true
      · rw [if_pos hl]; exact right (by have := of_decide_eq_true hl; omega)
      · rw [if_neg hl]; exact left (by have : ¬ (d : Int) < c := fun z => hl (decide_eq_true z); omega)
theorem q_asgP {i c : Nat} (h : EvP te σ H c) (k : ∀ r H1, Ex H H1 → IsP H1 r c → tz D (σ.set i (some (.ref r))) H1) : tSeq (tAsg te (gName i)) tz D σ H := h H (Ex.refl H) _ fun r H1 e hr => k r H1 e hr
theorem s_asgP {i c : Nat} (h : EvP te σ H c) (k : ∀ r H1, Ex H H1 → IsP H1 r c → D.nx (σ.set i (some (.ref r))) H1) : tAsg te (gName i) D σ H := h H (Ex.refl H) _ fun r H1 e hr => k r H1 e hr
end
/-! ### is_cut, copies_told, raised -/
def isC (T : List Nat) (e : Nat) : Bool := decide (0 < e) && !decide (at_ T (e - 1) = 32)
theorem isC_cut (T : List Nat) (e : Nat) : (if isC T e = true then (1 : Int) else 0) = ((cutA T e : Nat) : Int) := by
  unfold isC cutA
  by_cases h : 0 < e ∧ at_ T (e - 1) ≠ 32
  · rw [if_pos h, if_pos (by simp only [Bool.and_eq_true, decide_eq_true_eq, Bool.not_eq_true', decide_eq_false_iff_not]; exact h)]; rfl
  · rw [if_neg h, if_neg (by simp only [Bool.and_eq_true, decide_eq_true_eq, Bool.not_eq_true', decide_eq_false_iff_not]; exact h)]; rfl
def spIsCut : Sp := fun vs H Q _ => ∃ (T : List Nat) (e : Nat), vs = [.str (tx T), .int (e : Int)] ∧ e ≤ T.length ∧ T.length ≤ 50000 ∧ RetV (.bl (isC T e)) H Q
def spTold : Sp := fun vs H Q _ => ∃ x w : List Nat, vs = [.str (tx x), .str (tx w)] ∧ x.length ≤ 50000 ∧ w.length ≤ 50000 ∧ RetV (.int ((told x w : Nat) : Int)) H Q
def spRaised (K : PySem.W.Frag) : Sp := fun vs H Q _ => ∃ (p : Addr) (c m : Nat), vs = [.ref p, .int (m : Int)] ∧ IsP H p c ∧ ∀ r H2, Ex H H2 → IsP H2 r (c + m) → Q (.ref r) H2
section
variable {P : Program} {w : World} {K : PySem.W.Frag} {mg : Str → Option Value} {base : Heap}
theorem atI_in {α : Type} {xs : List α} {i : Nat} {x : α} (h : xs[i]? = some x) : atI xs (i : Int) = some x := by
  have hl := (List.getElem?_eq_some_iff.mp h).1
  unfold atI ixN
  rw [if_pos (by omega), if_pos (by omega)]
  simpa using h
theorem atI_last {α : Type} {xs : List α} {x : α} (h : xs[xs.length - 1]? = some x) : atI xs (-1) = some x := by
  have hl := (List.getElem?_eq_some_iff.mp h).1
  unfold atI ixN
  rw [if_neg (by omega), if_pos (by omega)]
  have z : ((-1 : Int) + (xs.length : Int)).toNat = xs.length - 1 := by omega
  rw [z]
  exact h
theorem at_get {T : List Nat} {i : Nat} (h : i < T.length) : T[i]? = some (at_ T i) := by
  simp [at_, List.getD_eq_getElem?_getD, List.getElem?_eq_getElem h]
theorem ok_iscut {f : Addr} {fd : FuncData} (d : Df K mg "is_cut" sIsCut f fd ["text", "at"]) (B : Bi mg) : FnOk P w K mg base CX0 1 f fd ["text", "at"] spIsCut := by
  refine d.F.ok scIsCut (fun vs H Q E h => ?_) (fun cdv A outer s H vs Q E hr h => ?_)
  · obtain ⟨T, e, rfl, _⟩ := h
    rfl
  · obtain ⟨T, e, rfl, he, hT, k⟩ := h
    obtain ⟨tb, hb⟩ := B.blank
    refine ⟨_, pss_one (ps_ret (pe_and (pe_cmpR op_gt (pv 1) pe_int (nomark _)) (pe_one (pe_cmpR op_ne (pe_ix ix_str (pv 0) (pe_op op_sub (pv 1) pe_int) (fun _ _ => rfl)) (pe_glob (v := .str " ") rfl hb ⟨_, rfl⟩) (nomark _))))), ?_⟩
    refine s_ret (v := .bl (isC T e)) ?_ k
    refine ev_is (ev_andV (a := decide (0 < e)) (b := !decide (at_ T (e - 1) = 32)) (ev_is (ev_op (ev_var rfl) ev_c (rv_I0 (i := (e : Int)) (j := 0))) ?_) (fun h0 => ?_)) rfl
    · congr 1
      rw [decide_eq_decide]; omega
    · have h1 : 0 < e := of_decide_eq_true h0
      refine ev_is (ev_op (ev_op (ev_var rfl) (ev_op (ev_var rfl) ev_c (rv_I0 (i := (e : Int)) (j := 1))) (rv_ixS (w := tx T) (c := at_ T (e - 1)) (by rw [tx_len]; omega) ?_)) ev_c (rv_ne rfl)) ?_
      · rw [tx_cps]
        have e1 : ((e : Int) - 1) = ((e - 1 : Nat) : Int) := by omega
        rw [e1]
        exact atI_in (at_get (by omega))
      · congr 2
        rw [decide_eq_decide, blank_chr]
        exact chr1_inj
theorem ok_told {f : Addr} {fd : FuncData} (d : Df K mg "copies_told" sTold f fd ["word", "other"]) (B : Bi mg) : FnOk P w K mg base CX0 1 f fd ["word", "other"] spTold := by
  refine d.F.ok scTold (fun vs H Q E h => ?_) (fun cdv A outer s H vs Q E hr h => ?_)
  · obtain ⟨x, y, rfl, _⟩ := h
    rfl
  · obtain ⟨x, y, rfl, hx, hy, k⟩ := h
    have ln : ∀ {X : Cx} {te : TE} {σ : L2.St} {H : Hp} {z : List Nat}, z.length ≤ 50000 → Ev te σ H (.str (tx z)) → Ev (tCB (fun xs H Q => ∃ z, xs = [.str z] ∧ z.length ≤ sizeLine ∧ Q (.int z.length) H) (tCons te tNil)) σ H (.int (z.length : Nat)) := fun {X te σ H z} hz h H1 e Q q =>
      h H1 e _ fun H2 e2 => ⟨tx z, rfl, by rw [tx_len]; exact sz_of (by omega), by rw [tx_len]; exact q H2 e2⟩
    refine ⟨_, pss_one (ps_ret (pe_op op_add (pe_op op_fdivN (pe_op op_add (pe_op op_mul pe_int (pe_callB call_len_str (by rfl) B.len PySem.boot_len (pa_cons (pv 1) pa_nil))) pe_int)
      (pe_op op_add (pe_callB call_len_str (by rfl) B.len PySem.boot_len (pa_cons (pv 0) pa_nil)) pe_int)) pe_int)), ?_⟩
    refine s_ret ?_ k
    refine ev_is (ev_op (ev_op (ev_op (ev_op ev_c (ev_cb (ea_cons (ev_var rfl) ea_nil) (z := .int (y.length : Nat)) ?_) (rv_I (i := 2) (j := (y.length : Int)) ?_)) ev_c rv_I0) (ev_op (ev_cb (ea_cons (ev_var rfl) ea_nil) (z := .int (x.length : Nat)) ?_) ev_c rv_I0) (rv_I (i := 2 * (y.length : Int) + 1) (j := (x.length : Int) + 1) ?_)) ev_c rv_I0) ?_
    · exact fun H1 e Q q => ⟨tx y, rfl, by rw [tx_len]; exact sz_of (by omega), by rw [tx_len]; exact q H1 (Ex.refl _)⟩
    · exact .inl ⟨by decide, by decide⟩
    · exact fun H1 e Q q => ⟨tx x, rfl, by rw [tx_len]; exact sz_of (by omega), by rw [tx_len]; exact q H1 (Ex.refl _)⟩
    · constructor
      · omega
      · omega
    · congr 1
theorem ok_raised {f : Addr} {fd : FuncData} (d : Df K mg "raised" sRaised f fd ["pair", "more"]) : FnOk P w K mg base CX0 1 f fd ["pair", "more"] (spRaised K) := by
  refine d.F.ok scRaised (fun vs H Q E h => ?_) (fun cdv A outer s H vs Q E hr h => ?_)
  · obtain ⟨p, c, m, rfl, _⟩ := h
    rfl
  · obtain ⟨p, c, m, rfl, ⟨b, hp⟩, k⟩ := h
    refine ⟨_, pss_one (ps_ret (pe_tup (pa_cons (pe_op op_add (pe_ix ix_tup (pv 0) pe_int (fun _ _ => rfl)) (pv 1)) (pa_cons (pe_ix ix_tup (pv 0) pe_int (fun _ _ => rfl)) pa_nil)))), ?_⟩
    refine s_retU (eu_tup (ea_cons (ev_op (ev_op (ev_var rfl) ev_c (rv_ixT (SqT.of hp) (i := 0) rfl)) (ev_var rfl) (rv_I0 (i := (c : Int)) (j := (m : Int)))) (ea_cons (ev_op (ev_var rfl) ev_c (rv_ixT (SqT.of hp) (i := 1) rfl)) ea_nil)) (by show 2 ≤ 100000; decide)) fun r H1 hr e h1 => k r H1 e ⟨b, ?_⟩
    rw [h1]
    push_cast
    rfl
end
end K11
end
section
set_option maxRecDepth 100000
set_option maxHeartbeats 4000000
/-! best_begins. -/
namespace K11
open PySem L2 Evl PyProof.Rows
/-! ### rows of pairs -/
/-- a list of n pairs at p, their first numbers c -/
def RowAt (H : Hp) (p : Addr) (n : Nat) (c : Nat → Nat) : Prop := ∃ rs : List V, H p = some (.lst rs) ∧ rs.length = n ∧ ∀ j, j < n → ∃ r, rs[j]? = some (.ref r) ∧ IsP H r (c j)
theorem RowAt.ex {H H' : Hp} {p : Addr} {n : Nat} {c : Nat → Nat} (e : Ex H H') (h : RowAt H p n c) : RowAt H' p n c := by
  obtain ⟨rs, h1, h2, h3⟩ := h
  exact ⟨rs, e _ _ h1, h2, fun j hj => let ⟨r, a, b⟩ := h3 j hj; ⟨r, a, b.ex e⟩⟩
theorem RowAt.upd {H : Hp} {p q : Addr} {n : Nat} {c : Nat → Nat} {xs : List V} {o : HO} (h : RowAt H p n c) (hq : H q = some (.lst xs)) (hn : p ≠ q) : RowAt (upd H q o) p n c := by
  obtain ⟨rs, h1, h2, h3⟩ := h
  exact ⟨rs, by rw [upd_ne hn]; exact h1, h2, fun j hj => let ⟨r, a, b⟩ := h3 j hj; ⟨r, a, b.upd hq⟩⟩
/-- one pair more -/
theorem RowAt.push {H H1 : Hp} {p r : Addr} {n : Nat} {c : Nat → Nat} {rs : List V} (h1 : H p = some (.lst rs)) (h2 : rs.length = n) (h3 : ∀ j, j < n → ∃ r, rs[j]? = some (.ref r) ∧ IsP H r (c j)) (e : Ex H H1) (hr : IsP H1 r (c n)) : RowAt (L2.upd H1 p (.lst (rs ++ [.ref r]))) p (n + 1) c := by
  have hp := e _ _ h1
  refine ⟨_, upd_same, by simp [h2], fun j hj => ?_⟩
  by_cases q : j < n
  · obtain ⟨u, a, b⟩ := h3 j q
    exact ⟨u, by rw [List.getElem?_append_left (by omega)]; exact a, (b.ex e).upd hp⟩
  · have : j = n := by omega
    subst this
    refine ⟨r, ?_, hr.upd hp⟩
    rw [List.getElem?_append_right (by omega), h2, Nat.sub_self]
    rfl
/-- a list of m rows at q -/
def RowsAt (H : Hp) (q : Addr) (m n : Nat) (c : Nat → Nat → Nat) : Prop := ∃ ps : List V, H q = some (.lst ps) ∧ ps.length = m ∧ ∀ e, e < m → ∃ p, ps[e]? = some (.ref p) ∧ p ≠ q ∧ RowAt H p n (c e)
theorem RowsAt.ex {H H' : Hp} {q : Addr} {m n : Nat} {c : Nat → Nat → Nat} (e : Ex H H') (h : RowsAt H q m n c) : RowsAt H' q m n c := by
  obtain ⟨ps, h1, h2, h3⟩ := h
  exact ⟨ps, e _ _ h1, h2, fun j hj => let ⟨p, a, b, d⟩ := h3 j hj; ⟨p, a, b, d.ex e⟩⟩
theorem RowsAt.push {H H1 : Hp} {q p : Addr} {m n : Nat} {c : Nat → Nat → Nat} {ps : List V} (h1 : H q = some (.lst ps)) (h2 : ps.length = m) (h3 : ∀ e, e < m → ∃ p, ps[e]? = some (.ref p) ∧ p ≠ q ∧ RowAt H p n (c e)) (e : Ex H H1) (hp : RowAt H1 p n (c m)) (hn : p ≠ q) :
    RowsAt (L2.upd H1 q (.lst (ps ++ [.ref p]))) q (m + 1) n c := by
  have hq := e _ _ h1
  refine ⟨_, upd_same, by simp [h2], fun j hj => ?_⟩
  by_cases z : j < m
  · obtain ⟨u, a, b, d⟩ := h3 j z
    exact ⟨u, by rw [List.getElem?_append_left (by omega)]; exact a, b, (d.ex e).upd hq b⟩
  · have : j = m := by omega
    subst this
    refine ⟨p, ?_, hn, hp.upd hq hn⟩
    rw [List.getElem?_append_right (by omega), h2, Nat.sub_self]
    rfl
/-- what best_begins gives back -/
def spBest (K : PySem.W.Frag) : Sp := fun vs H Q _ => ∃ T W : List Nat, vs = [.str (tx T), .str (tx W), .int ((T.length : Nat) : Int)] ∧ T.length ≤ 20000 ∧ W.length ≤ 20000 ∧
  ∀ q H', H q = none → Ex H H' → RowsAt H' q (T.length + 1) (W.length + 1) (bbL T W) → Q (.ref q) H'
section
variable {σ : L2.St} {H H' : Hp} {ta tb te : TE} {t : TT} {D : Ends} {tz : TS} {K : PySem.W.Frag}
theorem ev_lenS {z : List Nat} (h : Ev te σ H (.str (tx z))) (hz : z.length ≤ 50000) : Ev (tCB (fun xs H Q => ∃ z, xs = [.str z] ∧ z.length ≤ sizeLine ∧ Q (.int z.length) H) (tCons te tNil)) σ H (.int (z.length : Nat)) :=
  ev_cb (ea_cons h ea_nil) fun H1 e Q q => ⟨tx z, rfl, by rw [tx_len]; exact sz_of (by omega), by rw [tx_len]; exact q H1 (Ex.refl _)⟩
theorem ev_intB {b : Bool} (h : Ev te σ H (.bl b)) : Ev (tCB (fun xs H Q => (∃ i, xs = [.int i] ∧ Q (.int i) H) ∨ ∃ k, xs = [.bl k] ∧ Q (.int (if k then 1 else 0)) H) (tCons te tNil)) σ H (.int (if b then 1 else 0)) :=
  ev_cb (ea_cons h ea_nil) fun H1 e Q q => .inr ⟨b, rfl, q H1 (Ex.refl _)⟩
theorem ev_intI {i : Int} (h : Ev te σ H (.int i)) : Ev (tCB (fun xs H Q => (∃ i, xs = [.int i] ∧ Q (.int i) H) ∨ ∃ k, xs = [.bl k] ∧ Q (.int (if k then 1 else 0)) H) (tCons te tNil)) σ H (.int i) :=
  ev_cb (ea_cons h ea_nil) fun H1 e Q q => .inl ⟨i, rfl, q H1 (Ex.refl _)⟩
theorem evp_raised {E : XK} {c m : Nat} (h : EvP ta σ H c) (hb : ∀ H1, Ex H H1 → Ev tb σ H1 (.int (m : Int))) : EvP (tCall (spRaised K) [] E (tCons ta (tCons tb tNil))) σ H (c + m) := fun H1 e Q q =>
  h H1 e _ fun r H2 e2 h2 => hb H2 (e.trans e2) H2 (Ex.refl _) _ fun H3 e3 => ⟨r, c, m, rfl, h2.ex e3, fun u H4 e4 h4 => q u H4 (e2.trans (e3.trans e4)) h4⟩
/-- row[j] -/
theorem evp_ix {p : Addr} {n : Nat} {c : Nat → Nat} {j : Nat} {i : Int} (hr : Ev ta σ H (.ref p)) (hp : RowAt H p n c) (hi : Ev tb σ H (.int i)) (hj : j < n) (e : i = (j : Int)) : EvP (tOp (rIxL K) ta tb) σ H (c j) := by
  subst e
  obtain ⟨rs, h1, h2, h3⟩ := hp
  obtain ⟨r, a, b⟩ := h3 j hj
  exact evp_of (ev_op hr hi (rv_ixL (SqL.of h1) (atI_in a))) b
/-- rows[-1] -/
theorem ev_lastRow {q : Addr} {m n : Nat} {c : Nat → Nat → Nat} (hr : Ev ta σ H (.ref q)) (hq : RowsAt H q (m + 1) n c) (hi : Ev tb σ H (.int (-1))) : ∃ p, Ev (tOp (rIxL K) ta tb) σ H (.ref p) ∧ RowAt H p n (c m) := by
  obtain ⟨ps, h1, h2, h3⟩ := hq
  obtain ⟨p, a, _, b⟩ := h3 m (Nat.lt_succ_self m)
  exact ⟨p, ev_op hr hi (rv_ixL (SqL.of h1) (atI_last (by rw [h2]; exact a))), b⟩
end
theorem sub_cost {a b : Nat} : (if (!decide (a = b)) = true then (1 : Int) else 0) = ((if a = b then 0 else 1 : Nat) : Int) := by
  by_cases h : a = b
  · rw [if_pos h, decide_eq_true h]; rfl
  · rw [if_neg h, decide_eq_false h]; rfl
theorem bbL_00 (T W : List Nat) : bbL T W 0 0 = cutA T 0 := by unfold bbL; simp [bb]
theorem bbL_s0 (T W : List Nat) (e : Nat) : bbL T W (e + 1) 0 = min (cutA T (e + 1)) (bbL T W e 0 + 1) := by unfold bbL; simp [bb]
theorem bbL_0s (T W : List Nat) (j : Nat) : bbL T W 0 (j + 1) = bbL T W 0 j + 1 := by unfold bbL; simp [bb]
theorem bbL_ss (T W : List Nat) (e j : Nat) : bbL T W (e + 1) (j + 1) = min (min (bbL T W (e + 1) j + 1) (bbL T W e (j + 1) + 1)) (bbL T W e j + if at_ T e = at_ W j then 0 else 1) := by unfold bbL; simp [bb]
section
variable {P : Program} {w : World} {K : PySem.W.Frag} {mg : Str → Option Value} {base : Heap}
theorem ok_best {f f1 f2 : Addr} {fd fd1 fd2 : FuncData} (d : Df K mg "best_begins" sBest f fd ["text", "word", "last"]) (B : Bi mg) (dc : Df K mg "is_cut" sIsCut f1 fd1 ["text", "at"]) (dr : Df K mg "raised" sRaised f2 fd2 ["pair", "more"]) :
    FnOk P w K mg base CX0 2 f fd ["text", "word", "last"] (spBest K) := by
  have GC : FnOk P w K mg base CX0 1 f1 fd1 ["text", "at"] spIsCut := ok_iscut dc B
  have GR : FnOk P w K mg base CX0 1 f2 fd2 ["pair", "more"] (spRaised K) := ok_raised dr
  refine d.F.ok scBest (fun vs H Q E h => ?_) (fun cdv A outer s H vs Q E hr h => ?_)
  · obtain ⟨T, W, rfl, _⟩ := h
    rfl
  · obtain ⟨T, W, rfl, hT, hW, k⟩ := h
    have hu := hu_of hr
    refine ⟨_, pss_cons (ps_set (i := 3) scBest.nd rfl (.inl rfl) (pe_tup (pa_cons (pe_op op_add (pe_op op_add (pe_op op_mul pe_int (pe_callB call_len_str (by rfl) B.len PySem.boot_len (pa_cons (pv 0) pa_nil)))
          (pe_callB call_len_str (by rfl) B.len PySem.boot_len (pa_cons (pv 1) pa_nil))) pe_int) (pa_cons pe_int pa_nil))))
      (pss_cons (ps_set (i := 4) scBest.nd rfl (.inl rfl) (pe_lst pa_nil))
      (pss_cons (ps_for PassesOwn.never rfl (pi_range1 rfl B.range (pa_cons (pe_op op_add (pe_callB call_len_str (by rfl) B.len PySem.boot_len (pa_cons (pv 0) pa_nil)) pe_int) pa_nil)) (pg_name (i := 5) scBest.nd rfl (.inl rfl))
        (pss_cons (ps_set (i := 6) scBest.nd rfl (.inl rfl) (pe_ifExp (pt_cmpR op_le (pv 5) (pv 2) (nomark _))
            (pe_tup (pa_cons (pe_callTy call_int1 (by rfl) B.int PyProof.Rows.boot_int (pa_cons (pe_call GC hr rfl dc.m dc.F.kp dc.b .nil pass0 (pa_cons (pv 0) (pa_cons (pv 5) pa_nil))) pa_nil)) (pa_cons (pv 5) pa_nil))) (pv 3)))
        (pss_cons (ps_set (i := 7) scBest.nd rfl (.inl rfl) (pe_lst (pa_cons (pe_ifExp (pt_cmpR op_gt (pv 5) pe_int (nomark _))
            (pe_callB (call_minT rfl hu) (by rfl) B.min (by decide +kernel) (pa_cons (pv 6) (pa_cons (pe_call GR hr rfl dr.m dr.F.kp dr.b .nil pass0 (pa_cons (pe_ix ix_list (pe_ix ix_list (pv 4) (pe_un un_neg pe_int) (fun _ _ => rfl)) pe_int (fun _ _ => rfl)) (pa_cons pe_int pa_nil))) pa_nil))) (pv 6)) pa_nil)))
        (pss_cons (ps_for PassesOwn.never rfl (pi_range2 rfl B.range (pa_cons pe_int (pa_cons (pe_op op_add (pe_callB call_len_str (by rfl) B.len PySem.boot_len (pa_cons (pv 1) pa_nil)) pe_int) pa_nil))) (pg_name (i := 8) scBest.nd rfl (.inl rfl))
          (pss_cons (ps_set (i := 9) scBest.nd rfl (.inl rfl) (pe_call GR hr rfl dr.m dr.F.kp dr.b .nil pass0 (pa_cons (pe_ix ix_list (pv 7) (pe_op op_sub (pv 8) pe_int) (fun _ _ => rfl)) (pa_cons pe_int pa_nil))))
          (pss_cut (ps_if (pt_cmpR op_gt (pv 5) pe_int (nomark _))
            (pss_cons (ps_set (i := 9) scBest.nd rfl (.inl rfl) (pe_callB (call_minT rfl hu) (by rfl) B.min (by decide +kernel) (pa_cons (pv 9) (pa_cons (pe_call GR hr rfl dr.m dr.F.kp dr.b .nil pass0 (pa_cons (pe_ix ix_list (pe_ix ix_list (pv 4) (pe_un un_neg pe_int) (fun _ _ => rfl)) (pv 8) (fun _ _ => rfl)) (pa_cons pe_int pa_nil))) pa_nil))))
            (pss_one (ps_set (i := 9) scBest.nd rfl (.inl rfl) (pe_callB (call_minT rfl hu) (by rfl) B.min (by decide +kernel) (pa_cons (pv 9) (pa_cons (pe_call GR hr rfl dr.m dr.F.kp dr.b .nil pass0
              (pa_cons (pe_ix ix_list (pe_ix ix_list (pv 4) (pe_un un_neg pe_int) (fun _ _ => rfl)) (pe_op op_sub (pv 8) pe_int) (fun _ _ => rfl)) (pa_cons (pe_callTy call_int1 (by rfl) B.int PyProof.Rows.boot_int (pa_cons (pe_cmpR op_ne (pe_ix ix_str (pv 0) (pe_op op_sub (pv 5) pe_int) (fun _ _ => rfl)) (pe_ix ix_str (pv 1) (pe_op op_sub (pv 8) pe_int) (fun _ _ => rfl)) (nomark _)) pa_nil)) pa_nil))) pa_nil)))))) pss_nil)
          (pss_one (ps_expr (pe_bm PySem.F.plainAttrs_list PySem.F.slot_list_append PySem.F.type_list_append mt_append (pv 7) (pa_cons (pv 9) pa_nil)))))))
        (pss_one (ps_expr (pe_bm PySem.F.plainAttrs_list PySem.F.slot_list_append PySem.F.type_list_append mt_append (pv 4) (pa_cons (pv 7) pa_nil))))))))
      (pss_one (ps_ret (pv 4))))), ?_⟩
    have lenT : ∀ {σ : L2.St} {H : Hp}, σ[0]? = some (some (.str (tx T))) → Ev (tCB (fun xs H Q => ∃ z, xs = [.str z] ∧ z.length ≤ sizeLine ∧ Q (.int z.length) H) (tCons (tVar 0) tNil)) σ H (.int (T.length : Nat)) := fun h => ev_lenS (ev_var h) (by omega)
    have lenW : ∀ {σ : L2.St} {H : Hp}, σ[1]? = some (some (.str (tx W))) → Ev (tCB (fun xs H Q => ∃ z, xs = [.str z] ∧ z.length ≤ sizeLine ∧ Q (.int z.length) H) (tCons (tVar 1) tNil)) σ H (.int (W.length : Nat)) := fun h => ev_lenS (ev_var h) (by omega)
    -- none, rows
    refine q_asgU (eu_tup (ea_cons (ev_op (ev_op (ev_op ev_c (lenT rfl) (rv_I (i := 3) (j := (T.length : Int)) (.inl ⟨by decide, by decide⟩))) (lenW rfl) rv_I0) ev_c rv_I0) (ea_cons ev_c ea_nil)) (by show 2 ≤ 100000; decide)) fun z H1 hz e1 hz1 => ?_
    refine q_asgL (el_lst ea_nil (by show 0 ≤ 100000; decide)) fun q H2 hq e2 hq2 => ?_
    have hq0 : H q = none := fresh_back e1 hq
    -- for end in range(len(text) + 1)
    refine q_forR1 (n := ((T.length : Nat) : Int) + 1) (ea_cons (ev_op (lenT rfl) ev_c rv_I0) ea_nil) ⟨by omega, by omega⟩
      (fun e σ' H' => ∃ v5 v6 v7 v8 v9, σ' = [some (.str (tx T)), some (.str (tx W)), some (.int (T.length : Nat)), some (.ref z), some (.ref q), v5, v6, v7, v8, v9] ∧ Ex H H' ∧ RowsAt H' q e (W.length + 1) (bbL T W))
      (fun H3 e3 => ⟨_, _, _, _, _, rfl, (e1.trans e2).trans e3, ⟨[], e3 _ _ hq2, rfl, fun e he => absurd he (by omega)⟩⟩) ?_ ?_
    · intro e σ' H' he ⟨v5, v6, v7, v8, v9, hσ, eH, hR⟩
      subst hσ
      have heT : e ≤ T.length := by omega
      -- first
      refine q_asgP (c := cutA T e) (evp_if (b := true) (et_test (ev_is (ev_op (ev_var rfl) (ev_var rfl) (rv_I0 (i := (e : Int)) (j := (T.length : Int)))) (by congr 1; exact decide_eq_true (by omega))))
        (fun _ => evp_tup (ev_is (ev_intB (ev_call (ea_cons (ev_var rfl) (ea_cons (ev_var rfl) ea_nil)) (z := .bl (isC T e)) fun H1 _ Q q E => ⟨T, e, rfl, heT, by omega, q⟩)) (by rw [isC_cut])) (ev_var rfl)) (fun z => by cases z)) fun fr H4 e4 hfr => ?_
      have hR4 := hR.ex e4
      -- row
      have first : EvP (tIf (tTest (tOp (rI0 fun i j => .bl (decide (j < i))) (tVar 5) (tC (.int 0)))) (tCB (rMinT K) (tCons (tVar 6) (tCons (tCall (spRaised K) [] E0 (tCons (tOp (rIxL K) (tOp (rIxL K) (tVar 4) (tUn (rU fun i => .int (-i)) (tC (.int 1)))) (tC (.int 0))) (tCons (tC (.int 1)) tNil))) tNil))) (tVar 6))
          [some (.str (tx T)), some (.str (tx W)), some (.int (T.length : Nat)), some (.ref z), some (.ref q), some (.int (e : Nat)), some (.ref fr), v7, v8, v9] H4 (bbL T W e 0) := by
        refine evp_if (b := decide (0 < e)) (et_test (ev_is (ev_op (ev_var rfl) ev_c (rv_I0 (i := (e : Int)) (j := 0))) (by congr 1; rw [decide_eq_decide]; omega))) (fun hb => ?_) (fun hb => ?_)
        · have h0 : 0 < e := of_decide_eq_true hb
          obtain ⟨e', rfl⟩ : ∃ e', e = e' + 1 := ⟨e - 1, by omega⟩
          rw [bbL_s0]
          refine evp_min (evp_of (ev_var rfl) hfr) fun H5 e5 => ?_
          obtain ⟨p', hp1, hp2⟩ := ev_lastRow (K := K) (ev_var (i := 4) (σ := [some (.str (tx T)), some (.str (tx W)), some (.int (T.length : Nat)), some (.ref z), some (.ref q), some (.int ((e' + 1 : Nat) : Int)), some (.ref fr), v7, v8, v9]) rfl) (hR4.ex e5) (ev_un ev_c (ru_neg (i := 1)))
          exact evp_raised (evp_ix hp1 hp2 ev_c (by omega) rfl) fun H6 e6 => ev_c
        · have h0 : ¬ 0 < e := of_decide_eq_false hb
          have : e = 0 := by omega
          subst this
          rw [bbL_00]
          exact evp_of (ev_var rfl) hfr
      refine first H4 (Ex.refl _) _ fun r H5 e5 hr5 => ⟨by show 1 ≤ sizeLine; decide, fun p hp => ?_⟩
      have hpq : p ≠ q := fun z => by
        obtain ⟨ps, hh, _⟩ := hR4.ex e5
        rw [← z, hp] at hh
        cases hh
      have hR5 := hR4.ex e5
      have row0 : RowAt (upd H5 p (.lst [.ref r])) p (0 + 1) (bbL T W e) := ⟨_, upd_same, rfl, fun j hj => by
        have : j = 0 := by omega
        subst this
        exact ⟨r, rfl, hr5.ex (Ex.new hp)⟩⟩
      have eH5 : Ex H H5 := (eH.trans e4).trans e5
      -- for many in range(1, len(word) + 1)
      refine q_forR2 (lo := 1) (n := ((W.length : Nat) : Int) + 1) (ea_cons ev_c (ea_cons (ev_op (lenW rfl) ev_c rv_I0) ea_nil)) ⟨by omega, by omega, by omega, by omega⟩
        (fun i σ' H' => ∃ v8 v9, σ' = [some (.str (tx T)), some (.str (tx W)), some (.int (T.length : Nat)), some (.ref z), some (.ref q), some (.int (e : Nat)), some (.ref fr), some (.ref p), v8, v9] ∧ Ex H5 H' ∧ RowAt H' p (i + 1) (bbL T W e))
        (fun H6 e6 => ⟨v8, v9, rfl, (Ex.new hp).trans e6, row0.ex e6⟩) ?_ ?_
      · intro i σ' H6 hi ⟨v8, v9, hσ, e6, hrow⟩
        subst hσ
        have hiW : i < W.length := by omega
        have hR6 := hR5.ex e6
        obtain ⟨rs, g1, g2, g3⟩ := id hrow
        -- found = raised(row[many - 1], 1)
        refine q_asgP (evp_raised (c := bbL T W e i) (m := 1) (evp_ix (ev_var rfl) hrow (ev_op (ev_var rfl) ev_c (rv_I0 (i := 1 + (i : Int)) (j := 1))) (by omega) (by omega)) fun H7 e7 => ev_c) fun fo H7 e7 hfo => ?_
        have hR7 := hR6.ex e7
        refine q_cut (M := fun σ2 H2 => ∃ fo2, σ2 = [some (.str (tx T)), some (.str (tx W)), some (.int (T.length : Nat)), some (.ref z), some (.ref q), some (.int (e : Nat)), some (.ref fr), some (.ref p), some (.int (1 + (i : Nat))), some (.ref fo2)] ∧ Ex H6 H2 ∧ IsP H2 fo2 (bbL T W e (i + 1))) ?_ ?_
        · refine s_when (b := decide (0 < e)) (et_test (ev_is (ev_op (ev_var rfl) ev_c (rv_I0 (i := (e : Int)) (j := 0))) (by congr 1; rw [decide_eq_decide]; omega))) (fun hb H8 e8 => ?_) (fun hb H8 e8 => ?_)
          · have h0 : 0 < e := of_decide_eq_true hb
            obtain ⟨e', rfl⟩ : ∃ e', e = e' + 1 := ⟨e - 1, by omega⟩
            obtain ⟨p', hp1, hp2⟩ := ev_lastRow (K := K) (ev_var (i := 4) (σ := [some (.str (tx T)), some (.str (tx W)), some (.int (T.length : Nat)), some (.ref z), some (.ref q), some (.int ((e' + 1 : Nat) : Int)), some (.ref fr), some (.ref p), some (.int (1 + (i : Nat))), some (.ref fo)]) rfl) (hR7.ex e8) (ev_un ev_c (ru_neg (i := 1)))
            refine q_asgP (evp_min (d := bbL T W e' (i + 1) + 1) (evp_of (ev_var rfl) (hfo.ex e8)) fun H9 e9 => evp_raised (evp_ix (hp1.mono e9) (hp2.ex e9) (ev_var rfl) (by omega) (by omega)) fun H10 e10 => ev_c) fun f2 H9 e9 hf2 => ?_
            obtain ⟨p'', hp3, hp4⟩ := ev_lastRow (K := K) (ev_var (i := 4) (σ := [some (.str (tx T)), some (.str (tx W)), some (.int (T.length : Nat)), some (.ref z), some (.ref q), some (.int ((e' + 1 : Nat) : Int)), some (.ref fr), some (.ref p), some (.int (1 + (i : Nat))), some (.ref f2)]) rfl) ((hR7.ex e8).ex e9) (ev_un ev_c (ru_neg (i := 1)))
            refine s_asgP (evp_min (d := bbL T W e' i + if at_ T e' = at_ W i then 0 else 1) (evp_of (ev_var rfl) hf2) fun H10 e10 => evp_raised (evp_ix (hp3.mono e10) (hp4.ex e10) (ev_op (ev_var rfl) ev_c (rv_I0 (i := 1 + (i : Int)) (j := 1))) (by omega) (by omega)) fun H11 e11 =>
              ev_is (ev_intB (b := !decide (at_ T e' = at_ W i)) (ev_is (ev_op (ev_op (ev_var rfl) (ev_op (ev_var rfl) ev_c (rv_I0 (i := ((e' + 1 : Nat) : Int)) (j := 1))) (rv_ixS (w := tx T) (c := at_ T e') (by rw [tx_len]; omega) ?_)) (ev_op (ev_var rfl) (ev_op (ev_var rfl) ev_c (rv_I0 (i := 1 + (i : Int)) (j := 1))) (rv_ixS (w := tx W) (c := at_ W i) (by rw [tx_len]; omega) ?_)) (rv_ne rfl)) ?_)) ?_) fun f3 H10 e10 hf3 => ?_
            · rw [tx_cps, show (((e' + 1 : Nat) : Int) - 1) = ((e' : Nat) : Int) by omega]
              exact atI_in (at_get (by omega))
            · rw [tx_cps, show ((1 + (i : Int)) - 1) = ((i : Nat) : Int) by omega]
              exact atI_in (at_get (by omega))
            · congr 2
              rw [decide_eq_decide]
              exact chr1_inj
            · exact congrArg V.int sub_cost
            · refine ⟨f3, rfl, ((e7.trans e8).trans e9).trans e10, ?_⟩
              rw [bbL_ss]
              exact hf3
          · have h0 : ¬ 0 < e := of_decide_eq_false hb
            have : e = 0 := by omega
            subst this
            refine ⟨fo, rfl, e7.trans e8, ?_⟩
            rw [bbL_0s]
            exact hfo.ex e8
        · rintro σ2 H8 ⟨f2, rfl, e8, hf2⟩
          refine s_app (e8 _ _ g1) (ev_var rfl) (ev_var rfl) (by omega) fun H9 e9 => ?_
          refine ⟨_, _, rfl, ((e6.trans e8).trans e9).mut hp, RowAt.push g1 g2 g3 (e8.trans e9) (hf2.ex e9)⟩
      · rintro σ' H6 ⟨v8, v9, rfl, e6, hrow⟩
        have hlen : ((W.length : Int) + 1 - 1).toNat = W.length := by omega
        rw [hlen] at hrow
        have hR6 := hR5.ex e6
        obtain ⟨ps, g1, g2, g3⟩ := id hR6
        refine s_app g1 (ev_var rfl) (ev_var rfl) (by omega) fun H7 e7 => ?_
        exact ⟨_, _, _, _, _, rfl, ((eH5.trans e6).trans e7).mut hq0, RowsAt.push g1 g2 g3 e7 (hrow.ex e7) hpq⟩
    · rintro σ' H' ⟨v5, v6, v7, v8, v9, rfl, eH, hR⟩
      have hlen : ((T.length : Int) + 1).toNat = T.length + 1 := by omega
      rw [hlen] at hR
      exact s_ret (ev_var rfl) fun H3 e3 => k q H3 hq0 (eH.trans e3) (hR.ex e3)
end
end K11
end
section
set_option maxRecDepth 100000
set_option maxHeartbeats 4000000
/-! alone_cost, side_costs, border_cost. -/
namespace K11
open PySem L2 Evl PyProof.Rows
/-! ### copies joined by blanks -/
theorem joinL_rep (x : List Nat) : ∀ n, TL.joinL [32] (List.replicate n x) = jn x n
  | 0 => rfl
  | 1 => rfl
  | n + 2 => by
    have ih := joinL_rep x (n + 1)
    rw [List.replicate_succ] at ih
    show x ++ ([32] ++ TL.joinL [32] (x :: List.replicate n x)) = x ++ 32 :: jn x (n + 1)
    rw [ih]
    rfl
theorem rep_flat (x : V) : ∀ n, (List.replicate n [x]).flatten = List.replicate n x
  | 0 => rfl
  | n + 1 => by rw [List.replicate_succ, List.flatten_cons, rep_flat x n, List.replicate_succ]; rfl
theorem join_rep (x : List Nat) (n : Nat) : Txt.join (" " : Str) (List.replicate n (tx x)) = tx (jn x n) := by
  have h := SX.join_S [32] (List.replicate n x)
  rw [joinL_rep, List.map_replicate] at h
  rw [blank_chr]
  exact h
def rJoinR (K : PySem.W.Frag) : V → List V → Hp → VK → Prop := fun x xs H Q => ∃ a p, ∃ ys : List Str, x = .str a ∧ xs = [.ref p] ∧ (SqL K H p (ys.map V.str) ∨ SqT K H p (ys.map V.str)) ∧
      (ys.map (·.length)).sum + ys.length * a.length ≤ 16777216 ∧ Q (.str (Txt.join a ys)) H
section
variable {σ : L2.St} {H H' : Hp} {to ta tb te tn : TE} {t : TT} {D : Ends} {tz : TS} {K : PySem.W.Frag}
theorem ev_joinN {x : List Nat} {n : Nat} (ho : Ev to σ H (.str " ")) (he : Ev te σ H (.str (tx x))) (hn : ∀ H1, Ex H H1 → Ev tn σ H1 (.int (n : Int))) (hb : n ≤ 5000) (hx : x.length ≤ 1000) :
    Ev (tM1 (rJoinR K) to (tOp rRep (tLst (tCons te tNil)) tn)) σ H (.str (tx (jn x n))) := fun H1 e1 Q q =>
  ho H1 e1 _ fun H2 e2 => ⟨⟨_, rfl⟩, he H2 (e1.trans e2) _ fun H3 e3 => ⟨by show 1 ≤ sizeLine; decide, fun p hp => hn (upd H3 p _) (((e1.trans e2).trans e3).trans (Ex.new hp)) _ (Ex.refl _) _ fun H4 e4 => by
    have h4 : H4 p = some (.lst [.str (tx x)]) := e4 _ _ upd_same
    have en : ((n : Int)).toNat = n := by omega
    refine ⟨p, n, _, rfl, rfl, h4, by omega, by omega, by rw [en]; show 1 * n ≤ sizeLine; exact sz_of (by omega), fun p2 hp2 => ⟨" ", p2, List.replicate n (tx x), rfl, rfl, .inl (SqL.of ?_), ?_, ?_⟩⟩
    · rw [upd_same, en, rep_flat, List.map_replicate]
    · rw [List.map_replicate, List.length_replicate, tx_len, List.sum_replicate_nat]
      have : (" " : Str).length = 1 := by decide +kernel
      rw [this]
      have : n * x.length ≤ 5000 * 1000 := Nat.mul_le_mul hb hx
      omega
    · rw [join_rep]
      exact q _ (e2.trans (e3.trans ((Ex.new hp).trans (e4.trans (Ex.new hp2)))))⟩⟩
/-! ### a comprehension over enumerate(list) -/
theorem given_map {n : Nat} (v : Nat → V) : given n (fun _ => true) v = (List.range n).map v := by
  unfold given
  rw [List.filter_eq_self.mpr fun _ _ => rfl]
theorem el_lcE {q : Addr} {xs : List V} {a b : Nat} {vs : List Nat} {tl : TA} (f : Nat → Bool) (v : Nat → V) (h : EvA tl σ H [.ref q]) (hx : SqL K H q xs) (hz : xs.length ≤ 40000)
    (hw : ∀ x y, wipe (((wipe σ vs).set a (some x)).set b (some y)) vs = wipe σ vs)
    (ht : ∀ (i : Nat) (x : V) H1, Ex H H1 → xs[i]? = some x → EvT t (((wipe σ vs).set a (some (.int (i : Nat)))).set b (some x)) H1 (f i))
    (he : ∀ (i : Nat) (x : V) H1, Ex H H1 → xs[i]? = some x → f i = true → Ev te (((wipe σ vs).set a (some (.int (i : Nat)))).set b (some x)) H1 (v i)) :
    EvL (tLc (iEnum K tl) (gTup K 2 (gCons (gName a) (gCons (gName b) gNil))) t te vs) σ H (given xs.length f v) := fun H0 e Q k => h H0 e _ fun H1 e1 => ⟨q, xs, rfl, ex_l (e.trans e1) hx, fun Dl hD =>
  lc_it walk_enum (Cw H1 f v Dl) ⟨hD, Ex.new hD, upd_same⟩ (fun i H' _ p => ex_l ((e.trans e1).trans p.2.1) hx)
    (fun i x H2 H3 hi p y => by
      obtain ⟨T, y1, y2, rfl, hT, rfl, hy1, hy2⟩ := y
      cases hy1
      refine ⟨T, [.int (i : Nat), y2], rfl, SqT.of upd_same, rfl, _, _, rfl, _, _, rfl, rfl, hw _ _, ?_⟩
      have p2 : Cw H1 f v Dl i (upd H2 T (.tup [.int (i : Nat), y2])) := ⟨p.1, p.2.1.trans (Ex.new hT), by rw [upd_ne (ne_of_none p.2.2 hT)]; exact p.2.2⟩
      exact cw_turn p2 (by omega) (ht i y2 H1 (e.trans e1) hy2) fun hf => he i y2 H1 (e.trans e1) hy2 hf)
    (fun H' p => k Dl H' (fresh_back e1 p.1) (e1.trans p.2.1) p.2.2)⟩
/-- min of a new list of numbers -/
theorem ev_minL {ns : List Nat} {v : Nat → V} {te : TE} (h : EvL te σ H (ns.map fun (c : Nat) => V.int (c : Int))) (h0 : ns ≠ []) : Ev (tCB (rMin K) (tCons te tNil)) σ H (.int ((lmin ns : Nat) : Int)) := fun H1 e Q q =>
  h H1 e _ fun p H2 hp e2 hx => by
    refine ⟨p, ns.map fun (c : Nat) => (c : Int), rfl, SqL.of ?_, ?_, fun m hm hall => ?_⟩
    · rw [hx, List.map_map]; rfl
    · rw [List.length_map]; exact List.length_pos_iff.mpr h0
    · obtain ⟨c, hc, rfl⟩ := List.mem_map.mp hm
      have : c = lmin ns := lmin_unique hc fun x hx => by
        have := hall (x : Int) (List.mem_map.mpr ⟨x, hx, rfl⟩)
        omega
      rw [this]
      exact q H2 e2
end
theorem q_asgCall {σ : L2.St} {H : Hp} {ta : TA} {vs dvs : List V} {sp : Sp} {E : XK} {i : Nat} {tz : TS} {D : Ends} (h : EvA ta σ H vs) (k : ∀ H1, Ex H H1 → sp (vs ++ dvs) H1 (fun v H2 => tz D (σ.set i (some v)) H2) E) : tSeq (tAsg (tCall sp dvs E ta) (gName i)) tz D σ H :=
  h H (Ex.refl H) _ fun H1 e => k H1 e
theorem s_retCall {σ : L2.St} {H : Hp} {ta : TA} {vs dvs : List V} {sp : Sp} {E : XK} {D : Ends} (h : EvA ta σ H vs) (k : ∀ H1, Ex H H1 → sp (vs ++ dvs) H1 D.rt E) : tRet (tCall sp dvs E ta) D σ H :=
  h H (Ex.refl H) _ fun H1 e => k H1 e
def spAlone : Sp := fun vs H Q _ => ∃ x w : List Nat, vs = [.str (tx x), .str (tx w)] ∧ x.length ≤ 30 ∧ w.length ≤ 30 ∧ RetV (.int ((aloneC x w : Nat) : Int)) H Q
def spSide : Sp := fun vs H Q _ => ∃ x w : List Nat, vs = [.str (tx x), .str (tx w)] ∧ x.length ≤ 30 ∧ w.length ≤ 30 ∧ RetL ((sideC x w).map fun (c : Nat) => V.int (c : Int)) H Q
def spBord (K : PySem.W.Frag) : Sp := fun vs H Q _ => ∃ (a b : Addr) (xs ys : List Nat), vs = [.ref a, .ref b] ∧ SqL K H a (xs.map fun (c : Nat) => V.int (c : Int)) ∧ SqL K H b (ys.map fun (c : Nat) => V.int (c : Int)) ∧ 1 ≤ xs.length ∧ xs.length = ys.length ∧ xs.length ≤ 100 ∧ RetV (.int ((borderC xs ys : Nat) : Int)) H Q
theorem told_le {x w : List Nat} (hx : x.length ≤ 30) (hw : w.length ≤ 30) : told x w ≤ 63 := by
  unfold told
  have : (2 * w.length + 1) / (x.length + 1) ≤ 2 * w.length + 1 := Nat.div_le_self _ _
  omega
theorem jn_len_le (x : List Nat) (n : Nat) : (jn x n).length ≤ n * (x.length + 1) := by
  cases n with
  | zero => simp [jn]
  | succ n => rw [jn_len, Nat.succ_mul]; omega
theorem aloneT_len {x w : List Nat} (hx : x.length ≤ 30) (hw : w.length ≤ 30) : (aloneT x w).length ≤ 1953 := by
  have h1 := jn_len_le x (told x w)
  have h2 := told_le hx hw
  have : told x w * (x.length + 1) ≤ 63 * 31 := Nat.mul_le_mul h2 (by omega)
  unfold aloneT
  omega
section
variable {P : Program} {w : World} {K : PySem.W.Frag} {mg : Str → Option Value} {base : Heap}
theorem ok_alone {f f1 f2 f3 f4 : Addr} {fd fd1 fd2 fd3 fd4 : FuncData} (d : Df K mg "alone_cost" sAlone f fd ["mine", "word"]) (B : Bi mg) (dt : Df K mg "copies_told" sTold f3 fd3 ["word", "other"])
    (db : Df K mg "best_begins" sBest f4 fd4 ["text", "word", "last"]) (dc : Df K mg "is_cut" sIsCut f1 fd1 ["text", "at"]) (dr : Df K mg "raised" sRaised f2 fd2 ["pair", "more"]) :
    FnOk P w K mg base CX0 3 f fd ["mine", "word"] spAlone := by
  have GT : FnOk P w K mg base CX0 1 f3 fd3 ["word", "other"] spTold := ok_told dt B
  have GB : FnOk P w K mg base CX0 2 f4 fd4 ["text", "word", "last"] (spBest K) := ok_best db B dc dr
  refine d.F.ok scAlone (fun vs H Q E h => ?_) (fun cdv A outer s H vs Q E hr h => ?_)
  · obtain ⟨T, W, rfl, _⟩ := h
    rfl
  · obtain ⟨x, y, rfl, hx, hy, k⟩ := h
    have hu := hu_of hr
    obtain ⟨bt, hb⟩ := B.blank
    refine ⟨_, pss_cons (ps_set (i := 2) scAlone.nd rfl (.inr rfl) (pe_join (pe_glob (v := .str " ") rfl hb ⟨_, rfl⟩) (pe_op op_rep (pe_lst (pa_cons (pv 0) pa_nil)) (pe_call GT (hr.mono (by decide)) rfl dt.m dt.F.kp dt.b .nil pass0 (pa_cons (pv 0) (pa_cons (pv 1) pa_nil))))))
      (pss_cons (ps_set (i := 3) scAlone.nd rfl (.inl rfl) (pe_call GB hr rfl db.m db.F.kp db.b .nil pass0 (pa_cons (pv 2) (pa_cons (pv 1) (pa_cons (pe_callB call_len_str (by rfl) B.len PySem.boot_len (pa_cons (pv 2) pa_nil)) pa_nil)))))
      (pss_one (ps_ret (pe_callB (cr_min rfl) (by rfl) B.min (by decide +kernel) (pa_cons
        (pe_lc (own := [("end", 4), ("row", 5)]) (g := gTup K 2 (gCons (gName 4) (gCons (gName 5) gNil))) (tt := tYes) rfl scAlone.nd (pi_enum (by rfl) B.enumerate (pa_cons (pv 3) pa_nil)) (blkOk_by (N := ["mine", "word", "text", "rows", "end", "row"]) (sc := defScope sAlone) (by decide +kernel))
          (fun _ _ _ _ _ => pg_tup rfl (pgs_cons (pg_name (i := 4) scAlone.nd rfl (.inl rfl)) (pgs_cons (pg_name (i := 5) scAlone.nd rfl (.inl rfl)) pgs_nil))) (fun _ _ _ _ _ => pts_nil)
          (fun _ _ _ _ _ => pe_op op_add (pe_ix (r := rIxT K) ix_tup (pe_ix (r := rIxL K) ix_list (pv 5) (pe_un un_neg pe_int) (fun _ _ => rfl)) pe_int (fun _ _ => rfl))
            (pe_callTy call_int1 (by rfl) B.int PyProof.Rows.boot_int (pa_cons (pe_and (pe_cmpR op_lt (pv 4) (pe_callB call_len_str (by rfl) B.len PySem.boot_len (pa_cons (pv 2) pa_nil)) (nomark _))
              (pe_one (pe_cmpR op_ne (pe_ix ix_str (pv 2) (pv 4) (fun _ _ => rfl)) (pe_glob (v := .str " ") rfl hb ⟨_, rfl⟩) (nomark _)))) pa_nil)))) pa_nil))))), ?_⟩
    have hT := aloneT_len hx hy
    refine q_asg (ev_joinN (x := x) (n := told x y) ev_c (ev_var rfl) (fun H1 e1 => ev_call (ea_cons (ev_var rfl) (ea_cons (ev_var rfl) ea_nil)) fun H1 _ Q q E => ⟨x, y, rfl, by omega, by omega, q⟩) (by have := told_le hx hy; omega) (by omega)) fun H1 e1 => ?_
    -- rows
    refine q_asgCall (ea_cons (ev_var rfl) (ea_cons (ev_var rfl) (ea_cons (ev_lenS (z := aloneT x y) (ev_var rfl) (by omega)) ea_nil))) fun H2 e2 => ⟨aloneT x y, y, rfl, by omega, by omega, fun q H3 hq e3 hR => ?_⟩
    obtain ⟨ps, g1, g2, g3⟩ := hR
    refine s_ret (ev_is (ev_minL (v := fun _ => .non) (ns := (List.range ((aloneT x y).length + 1)).map fun e => bbL (aloneT x y) y e y.length + cutB (aloneT x y) e) ?_ (by simp)) rfl) fun H4 e4 => k H4 (((e1.trans e2).trans e3).trans e4)
    have hc := el_lcE (K := K) (σ := [some (.str (tx x)), some (.str (tx y)), some (.str (tx (aloneT x y))), some (.ref q), none, none]) (H := H3) (a := 4) (b := 5) (vs := [4, 5]) (tl := tCons (tVar 3) tNil) (t := tYes)
      (te := tOp (rI0 fun i j => .int (i + j)) (tOp (rIxT K) (tOp (rIxL K) (tVar 5) (tUn (rU fun i => .int (-i)) (tC (.int 1)))) (tC (.int 0)))
        (tCB (fun xs H Q => (∃ i, xs = [.int i] ∧ Q (.int i) H) ∨ ∃ k, xs = [.bl k] ∧ Q (.int (if k then 1 else 0)) H) (tCons (tAndV (tOp (rI0 fun i j => .bl (decide (i < j))) (tVar 4) (tCB (fun xs H Q => ∃ z, xs = [.str z] ∧ z.length ≤ sizeLine ∧ Q (.int z.length) H) (tCons (tVar 2) tNil)))
          (tOp rNe (tOp rIxS (tVar 2) (tVar 4)) (tC (.str " ")))) tNil)))
      (fun _ => true) (fun e => .int ((bbL (aloneT x y) y e y.length + cutB (aloneT x y) e : Nat) : Int)) (ea_cons (ev_var rfl) ea_nil) (SqL.of g1) (by omega) (fun _ _ => rfl) (fun i v H1 _ _ H2 _ Q q => q H2 (Ex.refl _)) ?_
    · rw [given_map, g2] at hc
      rw [List.map_map]
      exact hc
    · intro e v H5 e5 hv _
      have he : e < (aloneT x y).length + 1 := by rw [← g2]; exact (List.getElem?_eq_some_iff.mp hv).1
      obtain ⟨p, a1, _, rs, b1, b2, b3⟩ := g3 e he
      rw [hv] at a1
      cases a1
      obtain ⟨r, c1, bb', c2⟩ := b3 y.length (by omega)
      refine ev_is (ev_op (ev_op (ev_op (ev_var rfl) (ev_un ev_c (ru_neg (i := 1))) (rv_ixL (SqL.of (e5 _ _ b1)) (atI_last (x := .ref r) (by rw [b2]; exact c1)))) ev_c (rv_ixT (SqT.of (e5 _ _ c2)) (i := 0) rfl))
        (ev_intB (b := decide (e < (aloneT x y).length) && !decide (at_ (aloneT x y) e = 32)) (ev_andV (ev_is (ev_op (ev_var rfl) (ev_lenS (z := aloneT x y) (ev_var rfl) (by omega)) (rv_I0 (i := (e : Int)) (j := ((aloneT x y).length : Int)))) (by congr 1; rw [decide_eq_decide]; omega)) fun hb => ?_)) rv_I0) ?_
      · have hlt : e < (aloneT x y).length := of_decide_eq_true hb
        refine ev_is (ev_op (ev_op (ev_var rfl) (ev_var rfl) (rv_ixS (w := tx (aloneT x y)) (c := at_ (aloneT x y) e) (by rw [tx_len]; omega) (by rw [tx_cps]; exact atI_in (at_get hlt)))) ev_c (rv_ne rfl)) ?_
        congr 2
        rw [decide_eq_decide, blank_chr]
        exact chr1_inj
      · congr 1
        push_cast
        congr 1
        unfold cutB
        by_cases h : e < (aloneT x y).length ∧ at_ (aloneT x y) e ≠ 32
        · rw [if_pos h, if_pos (by simp only [Bool.and_eq_true, decide_eq_true_eq, Bool.not_eq_true', decide_eq_false_iff_not]; exact h)]; rfl
        · rw [if_neg h, if_neg (by simp only [Bool.and_eq_true, decide_eq_true_eq, Bool.not_eq_true', decide_eq_false_iff_not]; exact h)]; rfl
end
end K11
end
section
set_option maxRecDepth 100000
set_option maxHeartbeats 4000000
/-! side_costs, border_cost. -/
namespace K11
open PySem L2 Evl PyProof.Rows
section
variable {σ : L2.St} {H H' : Hp} {to ta tb te tn tl : TE} {t : TT} {D : Ends} {tz : TS} {K : PySem.W.Frag}
/-- a comprehension over a list that is found on the way -/
theorem el_lcG {n j : Nat} {vs : List Nat} (Good : List V → Hp → Prop) (mono : ∀ xs H1 H2, Ex H1 H2 → Good xs H1 → Good xs H2) (f : Nat → Bool) (v : Nat → V) (hn : n ≤ 40000) (h : ∀ H1, Ex H H1 → ∀ Q : VK, (∀ a xs H2, Ex H1 H2 → SqL K H2 a xs → xs.length = n → Good xs H2 → Q (.ref a) H2) → tl σ H1 Q)
    (hw : ∀ x, wipe ((wipe σ vs).set j (some x)) vs = wipe σ vs) (ht : ∀ (xs : List V) (i : Nat) (x : V) H1, Good xs H1 → xs[i]? = some x → EvT t ((wipe σ vs).set j (some x)) H1 (f i))
    (he : ∀ (xs : List V) (i : Nat) (x : V) H1, Good xs H1 → xs.length = n → xs[i]? = some x → f i = true → Ev te ((wipe σ vs).set j (some x)) H1 (v i)) :
    EvL (tLc (iList K tl) (gName j) t te vs) σ H (given n f v) := fun H0 e Q q => h H0 e _ fun a xs H1 e1 hx hl hg => ⟨a, rfl, ⟨xs, hx⟩, fun Dl hD =>
  lc_list (xs := xs) (Cw H1 f v Dl) ⟨hD, Ex.new hD, upd_same⟩ (fun i H' _ p => ex_l p.2.1 hx) (fun i x H' hi p => ⟨hw x, cw_turn p (by have := (List.getElem?_eq_some_iff.mp hi).1; omega) (ht xs i x H1 hg hi) (fun hf => he xs i x H1 hg hl hi hf)⟩)
    (fun H' p => q Dl H' (fresh_back e1 p.1) (e1.trans p.2.1) (by rw [← hl]; exact p.2.2))⟩
theorem el_cat {l b : Addr} {xs zs : List V} (ha : Ev ta σ H (.ref l)) (hb : Ev tb σ H (.ref b)) (hl : H l = some (.lst xs)) (hz : H b = some (.lst zs)) (hn : xs.length + zs.length ≤ 100000) : EvL (tOp rCat ta tb) σ H (xs ++ zs) := fun H1 e Q q =>
  ha H1 e _ fun H2 e2 => hb H2 (e.trans e2) _ fun H3 e3 => ⟨l, b, xs, zs, rfl, rfl, e3 _ _ (e2 _ _ (e _ _ hl)), e3 _ _ (e2 _ _ (e _ _ hz)), sz_of hn, fun p hp => q p _ (fresh_back (e2.trans e3) hp) ((e2.trans e3).trans (Ex.new hp)) upd_same⟩
end
theorem e_opCall {σ : L2.St} {H : Hp} {ta : TA} {tb : TE} {r : R2} {vs dvs : List V} {sp : Sp} {E : XK} {Q : VK} (h : EvA ta σ H vs) (k : ∀ H1, Ex H H1 → sp (vs ++ dvs) H1 (fun x H2 => tb σ H2 fun y H3 => r x y H3 Q) E) : tOp r (tCall sp dvs E ta) tb σ H Q :=
  h H (Ex.refl H) _ fun H1 e => k H1 e
theorem nat_get {xs : List Nat} {i : Nat} (h : i < xs.length) : (xs.map fun (c : Nat) => V.int (c : Int))[i]? = some (.int ((at_ xs i : Nat) : Int)) := by
  rw [List.getElem?_map, at_get h]
  rfl
section
variable {P : Program} {w : World} {K : PySem.W.Frag} {mg : Str → Option Value} {base : Heap}
theorem ok_side {f f1 f2 f3 f4 : Addr} {fd fd1 fd2 fd3 fd4 : FuncData} (d : Df K mg "side_costs" sSide f fd ["mine", "word"]) (B : Bi mg) (dt : Df K mg "copies_told" sTold f3 fd3 ["word", "other"])
    (db : Df K mg "best_begins" sBest f4 fd4 ["text", "word", "last"]) (dc : Df K mg "is_cut" sIsCut f1 fd1 ["text", "at"]) (dr : Df K mg "raised" sRaised f2 fd2 ["pair", "more"]) :
    FnOk P w K mg base CX0 3 f fd ["mine", "word"] spSide := by
  have GT : FnOk P w K mg base CX0 1 f3 fd3 ["word", "other"] spTold := ok_told dt B
  have GB : FnOk P w K mg base CX0 2 f4 fd4 ["text", "word", "last"] (spBest K) := ok_best db B dc dr
  refine d.F.ok scSide (fun vs H Q E h => ?_) (fun cdv A outer s H vs Q E hr h => ?_)
  · obtain ⟨T, W, rfl, _⟩ := h
    rfl
  · obtain ⟨x, y, rfl, hx, hy, k⟩ := h
    have hu := hu_of hr
    obtain ⟨bt, hb⟩ := B.blank
    refine ⟨_, pss_cons (ps_set (i := 2) scSide.nd rfl (.inl rfl) (pe_join (pe_glob (v := .str " ") rfl hb ⟨_, rfl⟩) (pe_op op_rep (pe_lst (pa_cons (pv 0) pa_nil)) (pe_call GT (hr.mono (by decide)) rfl dt.m dt.F.kp dt.b .nil pass0 (pa_cons (pv 0) (pa_cons (pv 1) pa_nil))))))
      (pss_one (ps_ret (pe_lc (own := [("pair", 3)]) (g := gName 3) (tt := tYes) rfl scSide.nd
          (pi_list (pe_ix ix_list (pe_call GB hr rfl db.m db.F.kp db.b .nil pass0 (pa_cons (pv 2) (pa_cons (pv 1) (pa_cons (pe_callB call_len_str (by rfl) B.len PySem.boot_len (pa_cons (pv 2) pa_nil)) pa_nil)))) (pe_un un_neg pe_int) (fun _ _ => rfl)))
          (blkOk_by (N := ["mine", "word", "text", "pair"]) (sc := defScope sSide) (by decide +kernel))
          (fun _ _ _ _ _ => pg_name (i := 3) scSide.nd rfl (.inl rfl)) (fun _ _ _ _ _ => pts_nil)
          (fun _ _ _ _ _ => pe_ix (r := rIxT K) ix_tup (pv 3) pe_int (fun _ _ => rfl))))), ?_⟩
    have hT := aloneT_len hx hy
    refine q_asg (ev_joinN (x := x) (n := told x y) ev_c (ev_var rfl) (fun H1 e1 => ev_call (ea_cons (ev_var rfl) (ea_cons (ev_var rfl) ea_nil)) fun H1 _ Q q E => ⟨x, y, rfl, by omega, by omega, q⟩) (by have := told_le hx hy; omega) (by omega)) fun H1 e1 => ?_
    refine s_retL (xs := given (y.length + 1) (fun _ => true) fun j => .int ((bbL (aloneT x y) y (aloneT x y).length j : Nat) : Int))
      (el_lcG (fun rs H => ∀ j, j < y.length + 1 → ∃ r, rs[j]? = some (.ref r) ∧ IsP H r (bbL (aloneT x y) y (aloneT x y).length j)) (fun rs H1 H2 e h j hj => let ⟨r, a, b⟩ := h j hj; ⟨r, a, b.ex e⟩) _ _ (by omega) (fun H2 e2 Q q => ?_) (fun _ => rfl) (fun xs i v H2 _ _ H3 _ Q q => q H3 (Ex.refl _)) fun xs j v H2 hg hl hv _ => ?_) fun p H3 hp e3 h3 => k p H3 (fresh_back e1 hp) (e1.trans e3) ?_
    · refine e_opCall (ea_cons (ev_var rfl) (ea_cons (ev_var rfl) (ea_cons (ev_lenS (z := aloneT x y) (ev_var rfl) (by omega)) ea_nil))) fun H3 e3 => ⟨aloneT x y, y, rfl, by omega, by omega, fun q1 H4 hq e4 hR => ?_⟩
      obtain ⟨ps, g1, g2, g3⟩ := hR
      obtain ⟨p, a1, _, rs, b1, b2, b3⟩ := g3 (aloneT x y).length (Nat.lt_succ_self _)
      refine ⟨1, rfl, q1, ps, -1, .ref p, rfl, rfl, SqL.of g1, atI_last (by rw [g2]; exact a1), ?_⟩
      exact q p rs H4 (e3.trans e4) (SqL.of b1) b2 b3
    · obtain ⟨r, c1, b, c2⟩ := hg j (by rw [← hl]; exact (List.getElem?_eq_some_iff.mp hv).1)
      rw [hv] at c1
      cases c1
      exact ev_op (ev_var rfl) ev_c (rv_ixT (SqT.of c2) (i := 0) rfl)
    · rw [h3, given_map]
      unfold sideC
      rw [List.map_map]
      rfl
theorem ok_bord {f : Addr} {fd : FuncData} (d : Df K mg "border_cost" sBord f fd ["ahead", "behind"]) (B : Bi mg) : FnOk P w K mg base CX0 1 f fd ["ahead", "behind"] (spBord K) := by
  refine d.F.ok scBord (fun vs H Q E h => ?_) (fun cdv A outer s H vs Q E hr h => ?_)
  · obtain ⟨a, b, xs, ys, rfl, _⟩ := h
    rfl
  · obtain ⟨a, b, xs, ys, rfl, ha, hb, h1, h2, h3, k⟩ := h
    refine ⟨_, pss_cons (ps_set (i := 2) scBord.nd rfl (.inr rfl) (pe_op op_sub (pe_callB call_len_seq (by rfl) B.len PySem.boot_len (pa_cons (pv 0) pa_nil)) pe_int))
      (pss_cons (ps_setLc (i := 3) (own := [("at", 5)]) (g := gName 5) (tt := tYes) rfl scBord.nd rfl rfl (sw_true rfl rfl rfl (by decide +kernel)) (pi_range1 (by rfl) B.range (pa_cons (pe_op op_add (pv 2) pe_int) pa_nil))
          (blkOk_by (N := ["ahead", "behind", "many", "lost", "changed", "at"]) (sc := defScope sBord) (by decide +kernel)) (fun _ _ _ _ _ => pg_name (i := 5) scBord.nd rfl (.inl rfl)) (fun _ _ _ _ _ => pts_nil)
          (fun _ _ _ _ _ => pe_op op_add (pe_op op_add (pe_ix (r := rIxL K) ix_list (pv 0) (pv 5) (fun _ _ => rfl)) pe_int) (pe_ix (r := rIxL K) ix_list (pv 1) (pe_op op_sub (pv 2) (pv 5)) (fun _ _ => rfl))))
      (pss_cons (ps_setLc (i := 4) (own := [("at", 5)]) (g := gName 5) (tt := tYes) rfl scBord.nd rfl rfl (sw_true rfl rfl rfl (by decide +kernel)) (pi_range1 (by rfl) B.range (pa_cons (pv 2) pa_nil))
          (blkOk_by (N := ["ahead", "behind", "many", "lost", "changed", "at"]) (sc := defScope sBord) (by decide +kernel)) (fun _ _ _ _ _ => pg_name (i := 5) scBord.nd rfl (.inl rfl)) (fun _ _ _ _ _ => pts_nil)
          (fun _ _ _ _ _ => pe_op op_add (pe_op op_add (pe_ix (r := rIxL K) ix_list (pv 0) (pv 5) (fun _ _ => rfl)) pe_int) (pe_ix (r := rIxL K) ix_list (pv 1) (pe_op op_sub (pe_op op_sub (pv 2) (pv 5)) pe_int) (fun _ _ => rfl))))
      (pss_one (ps_ret (pe_callB (cr_min rfl) (by rfl) B.min (by decide +kernel) (pa_cons (pe_op op_cat (pv 3) (pv 4)) pa_nil)))))), ?_⟩
    refine q_asg (v := .int ((xs.length - 1 : Nat) : Int)) (ev_is (ev_op (ev_len (ev_var rfl) ha) ev_c rv_I0) ?_) fun H1 e1 => ?_
    · rw [List.length_map]
      congr 1
      omega
    have ha1 := ex_l e1 ha
    have hb1 := ex_l e1 hb
    refine q_asgL (el_lcR1 (n := ((xs.length - 1 : Nat) : Int) + 1) (fun _ => true) (fun i => .int ((at_ xs i + 1 + at_ ys (xs.length - 1 - i) : Nat) : Int)) (ea_cons (ev_op (ev_var rfl) ev_c rv_I0) ea_nil) ⟨by omega, by omega⟩ (fun _ => rfl) (fun i H2 _ _ H3 _ Q q => q H3 (Ex.refl _)) fun i H2 e2 hi _ => ?_) fun l H2 hl e2 hl2 => ?_
    · refine ev_is (ev_op (ev_op (ev_op (ev_var rfl) (ev_var rfl) (rv_ixL (ex_l e2 ha1) (atI_in (nat_get (by omega))))) ev_c rv_I0) (ev_op (ev_var rfl) (ev_op (ev_var rfl) (ev_var rfl) (rv_I0 (i := ((xs.length - 1 : Nat) : Int)) (j := (i : Int)))) (rv_ixL (v := .int ((at_ ys (xs.length - 1 - i) : Nat) : Int)) (ex_l e2 hb1) ?_)) rv_I0) ?_
      · have z : ((xs.length - 1 : Nat) : Int) - (i : Int) = ((xs.length - 1 - i : Nat) : Int) := by omega
        rw [z]
        exact atI_in (nat_get (by omega))
      · congr 1
    refine q_asgL (el_lcR1 (n := ((xs.length - 1 : Nat) : Int)) (fun _ => true) (fun i => .int ((at_ xs i + 1 + at_ ys (xs.length - 1 - i - 1) : Nat) : Int)) (ea_cons (ev_var rfl) ea_nil) ⟨by omega, by omega⟩ (fun _ => rfl) (fun i H2 _ _ H3 _ Q q => q H3 (Ex.refl _)) fun i H3 e3 hi _ => ?_) fun c H3 hc e3 hc3 => ?_
    · refine ev_is (ev_op (ev_op (ev_op (ev_var rfl) (ev_var rfl) (rv_ixL (ex_l (e2.trans e3) ha1) (atI_in (nat_get (by omega))))) ev_c rv_I0) (ev_op (ev_var rfl) (ev_op (ev_op (ev_var rfl) (ev_var rfl) (rv_I0 (i := ((xs.length - 1 : Nat) : Int)) (j := (i : Int)))) ev_c (rv_I0 (i := ((xs.length - 1 : Nat) : Int) - (i : Int)) (j := 1))) (rv_ixL (v := .int ((at_ ys (xs.length - 1 - i - 1) : Nat) : Int)) (ex_l (e2.trans e3) hb1) ?_)) rv_I0) ?_
      · have z : ((xs.length - 1 : Nat) : Int) - (i : Int) - 1 = ((xs.length - 1 - i - 1 : Nat) : Int) := by omega
        rw [z]
        exact atI_in (nat_get (by omega))
      · congr 1
    have s1 : ((((xs.length - 1 : Nat) : Int) + 1)).toNat = xs.length - 1 + 1 := by omega
    have s2 : (((xs.length - 1 : Nat) : Int)).toNat = xs.length - 1 := by omega
    rw [given_map, s1] at hl2
    rw [given_map, s2] at hc3
    refine s_ret (ev_minL (v := fun _ => .non) (ns := lostC xs ys ++ chgC xs ys) ?_ (by simp [lostC])) fun H4 e4 => k H4 (((e1.trans e2).trans e3).trans e4)
    have hcat := el_cat (σ := [some (.ref a), some (.ref b), some (.int ((xs.length - 1 : Nat) : Int)), some (.ref l), some (.ref c), none]) (H := H3) (ta := tVar 3) (tb := tVar 4) (ev_var rfl) (ev_var rfl) (e3 _ _ hl2) hc3 (by simp; omega)
    rw [List.map_append]
    unfold lostC chgC
    rw [List.map_map, List.map_map]
    exact hcat
end
end K11
end
section
set_option maxRecDepth 100000
set_option maxHeartbeats 4000000
/-! The class Costs. -/
namespace K11
open PySem L2 Evl PyProof.Rows
/-- where a Costs object and its parts stand -/
structure Ad where
  C : Addr
  dx : Addr
  t : Addr
  da : Addr
  dh : Addr
  db : Addr
def cflds (a : Ad) : List (Str × V) := putF "behind" (.ref a.db) (putF "ahead" (.ref a.dh) (putF "alone" (.ref a.da) (putF "words" (.ref a.t) [])))
theorem look_words (a : Ad) : (cflds a).lookup ("words" : Str) = some (.ref a.t) := by
  unfold cflds
  rw [lookup_putF, if_neg (by decide +kernel), lookup_putF, if_neg (by decide +kernel), lookup_putF, if_neg (by decide +kernel), lookup_putF, if_pos rfl]
theorem look_alone (a : Ad) : (cflds a).lookup ("alone" : Str) = some (.ref a.da) := by
  unfold cflds
  rw [lookup_putF, if_neg (by decide +kernel), lookup_putF, if_neg (by decide +kernel), lookup_putF, if_pos rfl]
theorem look_ahead (a : Ad) : (cflds a).lookup ("ahead" : Str) = some (.ref a.dh) := by
  unfold cflds
  rw [lookup_putF, if_neg (by decide +kernel), lookup_putF, if_pos rfl]
theorem look_behind (a : Ad) : (cflds a).lookup ("behind" : Str) = some (.ref a.db) := by
  unfold cflds
  rw [lookup_putF, if_pos rfl]
theorem look_no (a : Ad) {m : Str} (h1 : ¬ m = "words") (h2 : ¬ m = "alone") (h3 : ¬ m = "ahead") (h4 : ¬ m = "behind") : (cflds a).lookup m = none := by
  unfold cflds
  rw [lookup_putF, if_neg h4, lookup_putF, if_neg h3, lookup_putF, if_neg h2, lookup_putF, if_neg h1]
  rfl
abbrev key (i j : Nat) : List Key := [.inl (i : Int), .inl (j : Int)]
theorem key_inj {i j i' j' : Nat} : key i j = key i' j' ↔ i = i' ∧ j = j' := by
  constructor
  · intro h
    injection h with h1 h2
    injection h2 with h2 _
    injection h1 with h1
    injection h2 with h2
    omega
  · rintro ⟨rfl, rfl⟩; rfl
abbrev vints (l : List Nat) : List V := l.map fun (c : Nat) => V.int (c : Int)
/-- a key is there, with its three values -/
def Dn (S : Addr → Prop) (H : Hp) (ws : List (List Nat)) (ka kh kb : List (List Key × V)) (i j : Nat) : Prop := valV ka (key i j) = some (.int ((aloneC (wd ws i) (wd ws j) : Nat) : Int)) ∧
  (∃ l, valV kh (key i j) = some (.ref l) ∧ H l = some (.lst (vints (sideC (wd ws i) (wd ws j)))) ∧ ¬ S l) ∧ ∃ l, valV kb (key i j) = some (.ref l) ∧ H l = some (.lst (vints (sideC (wd ws i).reverse (wd ws j).reverse))) ∧ ¬ S l
def Tb (H : Hp) (a : Ad) (ka kh kb : List (List Key × V)) : Prop := H a.da = some (.dT ka) ∧ H a.dh = some (.dT kh) ∧ H a.db = some (.dT kb)
def DoneAt (S : Addr → Prop) (H : Hp) (a : Ad) (ws : List (List Nat)) (i j : Nat) : Prop := ∃ ka kh kb, Tb H a ka kh kb ∧ Dn S H ws ka kh kb i j
structure CostsAt (K : PySem.W.Frag) (S : Addr → Prop) (H : Hp) (p : Addr) (a : Ad) (ws : List (List Nat)) (m : Nat) : Prop where
  al : ∀ D, S D → ∃ xs, H D = some (.lst xs)
  ob : H p = some (.ins a.C a.dx (cflds a))
  wt : SqT K H a.t (ws.map fun x => V.str (tx x))
  d1 : a.da ≠ a.dh
  d2 : a.da ≠ a.db
  d3 : a.dh ≠ a.db
  tb : ∃ ka kh kb, Tb H a ka kh kb ∧ (ka.length ≤ m ∧ kh.length ≤ m ∧ kb.length ≤ m) ∧ ∀ i j, i < ws.length → j < ws.length → valV ka (key i j) = none ∨ Dn S H ws ka kh kb i j
/-- all else is kept -/
def Kp (a : Ad) (H H' : Hp) : Prop := ∀ b o, H b = some o → b ≠ a.da → b ≠ a.dh → b ≠ a.db → H' b = some o
theorem Kp.refl (a : Ad) (H : Hp) : Kp a H H := fun _ _ e _ _ _ => e
theorem Kp.ex {a : Ad} {H H1 H2 : Hp} (k : Kp a H H1) (e : Ex H1 H2) : Kp a H H2 := fun b o h h1 h2 h3 => e b o (k b o h h1 h2 h3)
theorem Kp.pre {a : Ad} {H H1 H2 : Hp} (e : Ex H H1) (k : Kp a H1 H2) : Kp a H H2 := fun b o h h1 h2 h3 => k b o (e b o h) h1 h2 h3
theorem Kp.trans {a : Ad} {H H1 H2 : Hp} (k : Kp a H H1) (k2 : Kp a H1 H2) : Kp a H H2 := fun b o h h1 h2 h3 => k2 b o (k b o h h1 h2 h3) h1 h2 h3
theorem Kp.put {a : Ad} {H H1 : Hp} {q : Addr} {o : HO} (k : Kp a H H1) (hq : q = a.da ∨ q = a.dh ∨ q = a.db) : Kp a H (upd H1 q o) := fun b u h h1 h2 h3 => by
  rw [upd_ne (by rcases hq with rfl | rfl | rfl <;> assumption)]
  exact k b u h h1 h2 h3
/-- from where the tables did not yet stand -/
theorem Kp.out {a : Ad} {H0 H H' : Hp} (e : Ex H0 H) (k : Kp a H H') (h1 : H0 a.da = none) (h2 : H0 a.dh = none) (h3 : H0 a.db = none) : Ex H0 H' := fun b o h => k b o (e b o h) (fun z => by rw [z, h1] at h; cases h) (fun z => by rw [z, h2] at h; cases h) (fun z => by rw [z, h3] at h; cases h)
theorem Kp.sqT {K : PySem.W.Frag} {a : Ad} {H H' : Hp} {t : Addr} {xs : List V} {ka kh kb : List (List Key × V)} (k : Kp a H H') (hT : Tb H a ka kh kb) (h : SqT K H t xs) : SqT K H' t xs := by
  rcases h with (h | ⟨o, h⟩) | h
  · exact .inl (.inl (k t _ h (ne_of h hT.1 (by intro z; cases z)) (ne_of h hT.2.1 (by intro z; cases z)) (ne_of h hT.2.2 (by intro z; cases z))))
  · exact .inl (.inr ⟨o, k t _ h (ne_of h hT.1 (by intro z; cases z)) (ne_of h hT.2.1 (by intro z; cases z)) (ne_of h hT.2.2 (by intro z; cases z))⟩)
  · exact .inr h
theorem Kp.lst {a : Ad} {H H' : Hp} {l : Addr} {xs : List V} {ka kh kb : List (List Key × V)} (k : Kp a H H') (hT : Tb H a ka kh kb) (h : H l = some (.lst xs)) : H' l = some (.lst xs) :=
  k l _ h (ne_of h hT.1 (by intro z; cases z)) (ne_of h hT.2.1 (by intro z; cases z)) (ne_of h hT.2.2 (by intro z; cases z))
theorem Tb.ex {H H' : Hp} {a : Ad} {ka kh kb : List (List Key × V)} (e : Ex H H') (h : Tb H a ka kh kb) : Tb H' a ka kh kb := ⟨e _ _ h.1, e _ _ h.2.1, e _ _ h.2.2⟩
theorem Dn.ex {S : Addr → Prop} {H H' : Hp} {ws : List (List Nat)} {ka kh kb : List (List Key × V)} {i j : Nat} (e : Ex H H') (h : Dn S H ws ka kh kb i j) : Dn S H' ws ka kh kb i j :=
  let ⟨h1, ⟨l, a, b, n⟩, ⟨l', a', b', n'⟩⟩ := h
  ⟨h1, ⟨l, a, e _ _ b, n⟩, ⟨l', a', e _ _ b', n'⟩⟩
theorem DoneAt.ex {S : Addr → Prop} {H H' : Hp} {a : Ad} {ws : List (List Nat)} {i j : Nat} (e : Ex H H') (h : DoneAt S H a ws i j) : DoneAt S H' a ws i j := let ⟨ka, kh, kb, t, d⟩ := h; ⟨ka, kh, kb, t.ex e, d.ex e⟩
theorem CostsAt.ex {K : PySem.W.Frag} {S : Addr → Prop} {H H' : Hp} {p : Addr} {a : Ad} {ws : List (List Nat)} {m : Nat} (e : Ex H H') (h : CostsAt K S H p a ws m) : CostsAt K S H' p a ws m where
  al := fun D hD => let ⟨xs, q⟩ := h.al D hD; ⟨xs, e _ _ q⟩
  ob := e _ _ h.ob
  wt := ex_t e h.wt
  d1 := h.d1
  d2 := h.d2
  d3 := h.d3
  tb := let ⟨ka, kh, kb, t, l, d⟩ := h.tb; ⟨ka, kh, kb, t.ex e, l, fun i j hi hj => (d i j hi hj).imp id fun z => z.ex e⟩
theorem CostsAt.mono {K : PySem.W.Frag} {S : Addr → Prop} {H : Hp} {p : Addr} {a : Ad} {ws : List (List Nat)} {m m' : Nat} (hm : m ≤ m') (h : CostsAt K S H p a ws m) : CostsAt K S H p a ws m' :=
  ⟨h.al, h.ob, h.wt, h.d1, h.d2, h.d3, let ⟨ka, kh, kb, t, l, d⟩ := h.tb; ⟨ka, kh, kb, t, ⟨by omega, by omega, by omega⟩, d⟩⟩
/-- a list that the tables do not tell may be written -/
theorem CostsAt.updD {K : PySem.W.Frag} {S : Addr → Prop} {H : Hp} {p D : Addr} {a : Ad} {ws : List (List Nat)} {m : Nat} {ys : List V} (h : CostsAt K S H p a ws m) (hS : S D) : CostsAt K S (upd H D (.lst ys)) p a ws m := by
  obtain ⟨xs, hD⟩ := h.al D hS
  obtain ⟨ka, kh, kb, t, l, d⟩ := h.tb
  refine ⟨fun E hE => ?_, by rw [upd_ne (ne_of h.ob hD (by intro z; cases z))]; exact h.ob, ?_, h.d1, h.d2, h.d3, ka, kh, kb, ⟨?_, ?_, ?_⟩, l, fun i j hi hj => (d i j hi hj).imp id fun z => ?_⟩
  · by_cases e : E = D
    · exact ⟨ys, by rw [e]; exact upd_same⟩
    · obtain ⟨xs, q⟩ := h.al E hE
      exact ⟨xs, by rw [upd_ne e]; exact q⟩
  · rcases h.wt with (q | ⟨o, q⟩) | q
    · exact .inl (.inl (by rw [upd_ne (ne_of q hD (by intro z; cases z))]; exact q))
    · exact .inl (.inr ⟨o, by rw [upd_ne (ne_of q hD (by intro z; cases z))]; exact q⟩)
    · exact .inr q
  · rw [upd_ne (ne_of t.1 hD (by intro z; cases z))]; exact t.1
  · rw [upd_ne (ne_of t.2.1 hD (by intro z; cases z))]; exact t.2.1
  · rw [upd_ne (ne_of t.2.2 hD (by intro z; cases z))]; exact t.2.2
  · obtain ⟨z1, ⟨y, z2, z3, z4⟩, ⟨y', z5, z6, z7⟩⟩ := z
    exact ⟨z1, ⟨y, z2, by rw [upd_ne (fun q => z4 (by rw [q]; exact hS))]; exact z3, z4⟩, ⟨y', z5, by rw [upd_ne (fun q => z7 (by rw [q]; exact hS))]; exact z6, z7⟩⟩
/-- the tables are empty as yet: any list may be named -/
theorem CostsAt.name {K : PySem.W.Frag} {S : Addr → Prop} {H : Hp} {p D : Addr} {a : Ad} {ws : List (List Nat)} {xs : List V} (h : CostsAt K S H p a ws 0) (hD : H D = some (.lst xs)) : CostsAt K (fun y => y = D) H p a ws 0 := by
  obtain ⟨ka, kh, kb, t, l, d⟩ := h.tb
  refine ⟨fun E hE => ⟨xs, by rw [hE]; exact hD⟩, h.ob, h.wt, h.d1, h.d2, h.d3, ka, kh, kb, t, l, fun i j _ _ => .inl ?_⟩
  have : ka = [] := List.length_eq_zero_iff.mp (Nat.le_zero.mp l.1)
  rw [this]; rfl
/-- what the walk asks of the class -/
structure TxC (K : PySem.W.Frag) (C : Addr) : Prop where
  cl : Cls K C
  nW : NoAttr K C "words"
  nA : NoAttr K C "alone"
  nH : NoAttr K C "ahead"
  nB : NoAttr K C "behind"
def WsOk (ws : List (List Nat)) : Prop := ∀ i, (wd ws i).length ≤ 30
def spCInit (K : PySem.W.Frag) (C : Addr) : Sp := fun vs H Q _ => ∃ (p dx t : Addr) (ws : List (List Nat)), vs = [.ref p, .ref t] ∧ H p = some (.ins C dx []) ∧ SqT K H t (ws.map fun x => V.str (tx x)) ∧
  ∀ (a : Ad) H', a.C = C → H a.da = none → H a.dh = none → H a.db = none → (∀ b o, H b = some o → b ≠ p → H' b = some o) → (∀ S : Addr → Prop, (∀ D, ¬ S D) → CostsAt K S H' p a ws 0) → Q .non H'
def spOf (K : PySem.W.Frag) (C : Addr) : Sp := fun vs H Q _ => ∃ (p : Addr) (S : Addr → Prop) (a : Ad) (ws : List (List Nat)) (m i j : Nat), vs = [.ref p, .int (i : Int), .int (j : Int)] ∧ a.C = C ∧ CostsAt K S H p a ws m ∧ WsOk ws ∧ i < ws.length ∧ j < ws.length ∧ m < 10000 ∧
  ∀ H', Kp a H H' → CostsAt K S H' p a ws (m + 1) → DoneAt S H' a ws i j → (∀ i' j', DoneAt S H a ws i' j' → DoneAt S H' a ws i' j') → Q (.int ((aloneC (wd ws i) (wd ws j) : Nat) : Int)) H'
def spOver (K : PySem.W.Frag) (C : Addr) : Sp := fun vs H Q _ => ∃ (p : Addr) (S : Addr → Prop) (a : Ad) (ws : List (List Nat)) (m i s j : Nat), vs = [.ref p, .int (i : Int), .int (s : Int), .int (j : Int)] ∧ a.C = C ∧ CostsAt K S H p a ws m ∧ WsOk ws ∧ i < ws.length ∧ s < ws.length ∧ j < ws.length ∧ m < 9000 ∧
  ∀ H', Kp a H H' → CostsAt K S H' p a ws (m + 2) → Q (.int ((borderC (sideC (wd ws i) (wd ws j)) (sideC (wd ws s).reverse (wd ws j).reverse) : Nat) : Int)) H'
def costT (ws : List (List Nat)) (i s j : Nat) : Nat := if i = s then aloneC (wd ws i) (wd ws j) else borderC (sideC (wd ws i) (wd ws j)) (sideC (wd ws s).reverse (wd ws j).reverse)
def spTrip (K : PySem.W.Frag) (C : Addr) : Sp := fun vs H Q _ => ∃ (p : Addr) (S : Addr → Prop) (a : Ad) (ws : List (List Nat)) (m i s j : Nat), vs = [.ref p, .int (i : Int), .int (s : Int), .int (j : Int)] ∧ a.C = C ∧ CostsAt K S H p a ws m ∧ WsOk ws ∧ i < ws.length ∧ s < ws.length ∧ j < ws.length ∧ m < 9000 ∧
  ∀ H', Kp a H H' → CostsAt K S H' p a ws (m + 2) → Q (.int ((costT ws i s j : Nat) : Int)) H'
section
variable {P : Program} {w : World} {K : PySem.W.Frag} {mg : Str → Option Value} {base : Heap}
theorem ok_cinit {f C : Addr} {fd : FuncData} (F : Fun K "__init__" "Costs.__init__" sCInit f fd) (T : TxC K C) (B : Bi mg) : FnOk P w K mg base CX0 1 f fd ["self", "words"] (spCInit K C) := by
  refine F.ok scCInit (fun vs H Q E h => ?_) (fun cdv A outer s H vs Q E hr h => ?_)
  · obtain ⟨p, dx, t, ws, rfl, _⟩ := h
    rfl
  · obtain ⟨p, dx, t, ws, rfl, hp, ht, k⟩ := h
    refine ⟨_, pss_cons (ps_fld (pv 0) (pe_callTy call_tuple_of (by rfl) B.tuple (by decide +kernel) (pa_cons (pv 1) pa_nil)) rfl) (pss_cons (ps_fld (pv 0) pe_dnewT rfl) (pss_cons (ps_fld (pv 0) pe_dnewT rfl) (pss_one (ps_fld (pv 0) pe_dnewT rfl)))), ?_⟩
    refine ⟨_, rfl, t, _, rfl, .inr ⟨ht, ?_⟩⟩
    refine ⟨_, rfl, p, C, dx, _, rfl, hp, T.cl, T.nW, (by show 0 < 1000; decide), ?_⟩
    intro da hda
    have n1 : p ≠ da := fun z => by rw [z, upd_same] at hda; cases hda
    have h1 : H da = none := by rw [upd_ne n1.symm] at hda; exact hda
    refine ⟨_, rfl, p, C, dx, _, rfl, (by rw [upd_ne n1]; exact upd_same), T.cl, T.nA, (by show 1 < 1000; decide), ?_⟩
    intro dh hdh
    have n2 : p ≠ dh := fun z => by rw [z, upd_same] at hdh; cases hdh
    rw [upd_ne n2.symm] at hdh
    have n3 : da ≠ dh := fun z => by rw [z, upd_same] at hdh; cases hdh
    rw [upd_ne n3.symm, upd_ne n2.symm] at hdh
    refine ⟨_, rfl, p, C, dx, _, rfl, (by rw [upd_ne n2]; exact upd_same), T.cl, T.nH, (by show 2 < 1000; decide), ?_⟩
    intro db hdb
    have n4 : p ≠ db := fun z => by rw [z, upd_same] at hdb; cases hdb
    rw [upd_ne n4.symm] at hdb
    have n5 : dh ≠ db := fun z => by rw [z, upd_same] at hdb; cases hdb
    rw [upd_ne n5.symm, upd_ne n4.symm] at hdb
    have n6 : da ≠ db := fun z => by rw [z, upd_same] at hdb; cases hdb
    rw [upd_ne n6.symm, upd_ne n4.symm] at hdb
    refine ⟨_, rfl, p, C, dx, _, rfl, (by rw [upd_ne n4]; exact upd_same), T.cl, T.nB, (by show 3 < 1000; decide), ?_⟩
    have keep : ∀ b o, H b = some o → b ≠ p → ((upd (upd (upd (upd (upd (upd (upd H p (.ins C dx (putF "words" (.ref t) []))) da (.dT [])) p (.ins C dx (putF "alone" (.ref da) (putF "words" (.ref t) [])))) dh (.dT []))
        p (.ins C dx (putF "ahead" (.ref dh) (putF "alone" (.ref da) (putF "words" (.ref t) []))))) db (.dT [])) p (.ins C dx (putF "behind" (.ref db) (putF "ahead" (.ref dh) (putF "alone" (.ref da) (putF "words" (.ref t) [])))))) b) = some o := fun b o e hb => by
      rw [upd_ne hb, upd_ne (ne_of_none e hdb), upd_ne hb, upd_ne (ne_of_none e hdh), upd_ne hb, upd_ne (ne_of_none e h1), upd_ne hb]
      exact e
    have ntp : SqT K H t (ws.map fun x => V.str (tx x)) → t ≠ p ∨ ∃ (o : Obj) (its : Array Value) (n : Nat), K.lookup t = some o ∧ o.cls = .type "tuple" ∧ o.data = .seq its n ∧ its.size ≤ sizeLine ∧ Vals (ws.map fun x => V.str (tx x)) its.toList := fun h => by
      rcases h with (h | ⟨o, h⟩) | h
      · exact .inl (ne_of h hp (by intro z; cases z))
      · exact .inl (ne_of h hp (by intro z; cases z))
      · exact .inr h
    refine k ⟨C, dx, t, da, dh, db⟩ _ rfl h1 hdh hdb keep fun S hS => ⟨fun D z => absurd z (hS D), upd_same, ?_, n3, n6, n5, ⟨[], [], [], ⟨?_, ?_, ?_⟩, ⟨Nat.le_refl _, Nat.le_refl _, Nat.le_refl _⟩, fun i j _ _ => .inl rfl⟩⟩
    · rcases ntp ht with n | h
      · rcases ht with (h | ⟨o, h⟩) | h
        · exact .inl (.inl (keep _ _ h n))
        · exact .inl (.inr ⟨o, keep _ _ h n⟩)
        · exact .inr h
      · exact .inr h
    · show (upd (upd (upd (upd _ dh _) p _) db _) p _) da = _
      rw [upd_ne n1.symm, upd_ne n6, upd_ne n1.symm, upd_ne n3, upd_ne n1.symm]
      exact upd_same
    · show (upd (upd (upd (upd _ dh _) p _) db _) p _) dh = _
      rw [upd_ne n2.symm, upd_ne n5, upd_ne n2.symm]
      exact upd_same
    · show (upd (upd _ db _) p _) db = _
      rw [upd_ne n4.symm]
      exact upd_same
end
end K11
end
section
set_option maxRecDepth 100000
set_option maxHeartbeats 4000000
/-! Costs.of. -/
namespace K11
open PySem L2 Evl PyProof.Rows
theorem put_len {κ : Type} [DecidableEq κ] (c : List (κ × V)) (k : κ) (x : V) : (putK c k x).length ≤ c.length + 1 := by
  unfold putK
  split
  · rw [List.length_map]; exact Nat.le_succ _
  · rw [List.length_append]; exact Nat.le_refl _
section
variable {σ : L2.St} {H H' : Hp} {ta tb te : TE} {K : PySem.W.Frag}
theorem ev_fld {p C dx : Addr} {fs : List (Str × V)} {f : Str} {v : V} (c : Cls K C) (n : NoAttr K C f) (h : Ev te σ H (.ref p)) (hp : H p = some (.ins C dx fs)) (hl : fs.lookup f = some v) : Ev (tFld K te f) σ H v := fun H1 e Q q =>
  h H1 e _ fun H2 e2 => ⟨p, C, dx, fs, v, rfl, e2 _ _ (e _ _ hp), c, n, hl, q H2 e2⟩
theorem tx_rev (T : List Nat) : (⟨(tx T).cps.toList.reverse.toArray⟩ : Str) = tx T.reverse := by
  rw [tx_cps]; rfl
theorem ev_revS {T : List Nat} (h : Ev te σ H (.str (tx T))) (hT : T.length ≤ 50000) : Ev (tRevS te) σ H (.str (tx T.reverse)) := fun H1 e Q q =>
  h H1 e _ fun H2 e2 => ⟨tx T, rfl, by rw [tx_len]; exact sz_of (by omega), by rw [tx_rev]; exact q H2 e2⟩
/-- self.words[i] -/
theorem word_at {ws : List (List Nat)} {i : Nat} (h : i < ws.length) : (ws.map fun x => V.str (tx x))[i]? = some (.str (tx (wd ws i))) := by
  rw [List.getElem?_map, List.getElem?_eq_getElem h]
  simp [wd, List.getD_eq_getElem?_getD, List.getElem?_eq_getElem h]
/-- d[k] = f(..) -/
theorem e_putCall {td ty : TE} {tr : TA} {vs dvs : List V} {sp : Sp} {E : XK} {D : Ends} (h : EvA tr σ H vs) (k : ∀ H1, Ex H H1 → sp (vs ++ dvs) H1 (fun v H2 => td σ H2 fun x H3 => ty σ H3 fun y H4 => ∃ a H5, x = .ref a ∧ DPut H4 a y v H5 ∧ D.nx σ H5) E) :
    sDPut td ty (tCall sp dvs E tr) D σ H := h H (Ex.refl H) _ fun H1 e => k H1 e
end
section
variable {P : Program} {w : World} {K : PySem.W.Frag} {mg : Str → Option Value} {base : Heap}
/-- the defs under Costs -/
structure DfA (K : PySem.W.Frag) (mg : Str → Option Value) (f1 f2 f3 f4 f5 f6 f7 : Addr) (fd1 fd2 fd3 fd4 fd5 fd6 fd7 : FuncData) : Prop where
  cut : Df K mg "is_cut" sIsCut f1 fd1 ["text", "at"]
  raised : Df K mg "raised" sRaised f2 fd2 ["pair", "more"]
  told : Df K mg "copies_told" sTold f3 fd3 ["word", "other"]
  best : Df K mg "best_begins" sBest f4 fd4 ["text", "word", "last"]
  alone : Df K mg "alone_cost" sAlone f5 fd5 ["mine", "word"]
  side : Df K mg "side_costs" sSide f6 fd6 ["mine", "word"]
  bord : Df K mg "border_cost" sBord f7 fd7 ["ahead", "behind"]
variable {f1 f2 f3 f4 f5 f6 f7 : Addr} {fd1 fd2 fd3 fd4 fd5 fd6 fd7 : FuncData}
theorem DfA.okAlone (A : DfA K mg f1 f2 f3 f4 f5 f6 f7 fd1 fd2 fd3 fd4 fd5 fd6 fd7) (B : Bi mg) : FnOk P w K mg base CX0 3 f5 fd5 ["mine", "word"] spAlone := ok_alone A.alone B A.told A.best A.cut A.raised
theorem DfA.okSide (A : DfA K mg f1 f2 f3 f4 f5 f6 f7 fd1 fd2 fd3 fd4 fd5 fd6 fd7) (B : Bi mg) : FnOk P w K mg base CX0 3 f6 fd6 ["mine", "word"] spSide := ok_side A.side B A.told A.best A.cut A.raised
theorem DfA.okBord (A : DfA K mg f1 f2 f3 f4 f5 f6 f7 fd1 fd2 fd3 fd4 fd5 fd6 fd7) (B : Bi mg) : FnOk P w K mg base CX0 1 f7 fd7 ["ahead", "behind"] (spBord K) := ok_bord A.bord B
theorem ok_of {f C : Addr} {fd : FuncData} (F : Fun K "of" "Costs.of" sCOf f fd) (T : TxC K C) (B : Bi mg) (A7 : DfA K mg f1 f2 f3 f4 f5 f6 f7 fd1 fd2 fd3 fd4 fd5 fd6 fd7) : FnOk P w K mg base CX0 4 f fd ["self", "mine", "word"] (spOf K C) := by
  have GA : FnOk P w K mg base CX0 3 f5 fd5 ["mine", "word"] spAlone := A7.okAlone B
  have GS : FnOk P w K mg base CX0 3 f6 fd6 ["mine", "word"] spSide := A7.okSide B
  refine F.ok scCOf (fun vs H Q E h => ?_) (fun cdv A outer s H vs Q E hr h => ?_)
  · obtain ⟨p, S, a, ws, m, i, j, rfl, _⟩ := h
    rfl
  · obtain ⟨p, S, a, ws, m, i, j, rfl, rfl, hC, hw, hi, hj, hm, k⟩ := h
    have hu := hu_of hr
    refine ⟨_, pss_cut (ps_if (pt_cmp (pc_dnotin hu (pe_tup (pa_cons (pv 1) (pa_cons (pv 2) pa_nil))) (pe_fld (pv 0) rfl)))
        (pss_cons (ps_par (i := 3) (j := 4) rfl scCOf.nd rfl rfl (by decide) rfl rfl (pa_cons (pe_ix ix_tup (pe_fld (pv 0) rfl) (pv 1) (fun _ _ => rfl)) (pa_cons (pe_ix ix_tup (pe_fld (pv 0) rfl) (pv 2) (fun _ _ => rfl)) pa_nil)) rfl)
        (pss_cons (ps_dput hu (pe_fld (pv 0) rfl) (pe_tup (pa_cons (pv 1) (pa_cons (pv 2) pa_nil))) (pe_call GA hr rfl A7.alone.m A7.alone.F.kp A7.alone.b .nil pass0 (pa_cons (pv 3) (pa_cons (pv 4) pa_nil))) rfl)
        (pss_cons (ps_dput hu (pe_fld (pv 0) rfl) (pe_tup (pa_cons (pv 1) (pa_cons (pv 2) pa_nil))) (pe_call GS hr rfl A7.side.m A7.side.F.kp A7.side.b .nil pass0 (pa_cons (pv 3) (pa_cons (pv 4) pa_nil))) rfl)
        (pss_one (ps_dput hu (pe_fld (pv 0) rfl) (pe_tup (pa_cons (pv 1) (pa_cons (pv 2) pa_nil))) (pe_call GS hr rfl A7.side.m A7.side.F.kp A7.side.b .nil pass0 (pa_cons (pe_revS (pv 3)) (pa_cons (pe_revS (pv 4)) pa_nil))) rfl))))) pss_nil)
      (pss_one (ps_ret (pe_dget hu (pe_fld (pv 0) rfl) (pe_tup (pa_cons (pv 1) (pa_cons (pv 2) pa_nil))) (fun _ _ => rfl)))), ?_⟩
    have hwi := hw i
    have hwj := hw j
    refine ⟨fun σ' H' => ∃ v3 v4, σ' = [some (.ref p), some (.int (i : Nat)), some (.int (j : Nat)), v3, v4] ∧ Kp a H H' ∧ CostsAt K S H' p a ws (m + 1) ∧ DoneAt S H' a ws i j ∧ ∀ i' j', DoneAt S H a ws i' j' → DoneAt S H' a ws i' j', ?_, ?_⟩
    · -- if (mine, word) not in self.alone
      refine ⟨_, rfl, _, rfl, by show 2 ≤ sizeLine; decide, fun T1 hT1 => ?_⟩
      have e1 : Ex H (upd H T1 (.tup [.int (i : Nat), .int (j : Nat)])) := Ex.new hT1
      have C1 := hC.ex e1
      obtain ⟨ka, kh, kb, t0, l0, dn0⟩ := C1.tb
      refine ⟨_, rfl, p, a.C, a.dx, _, _, rfl, C1.ob, T.cl, T.nA, look_alone a, a.da, _, rfl, DGet.t (k := key i j) t0.1 upd_same, _, rfl, ?_⟩
      cases hk : valV ka (key i j) with
      | some v =>
        refine iteF ?_
        have dn := (dn0 i j hi hj).resolve_left (by rw [hk]; simp)
        exact ⟨_, _, rfl, (Kp.refl a H).ex e1, C1.mono (by omega), ⟨ka, kh, kb, t0, dn⟩, fun i' j' d => d.ex e1⟩
      | none =>
        refine iteT ?_
        -- one, other
        refine ⟨_, rfl, p, a.C, a.dx, _, _, rfl, C1.ob, T.cl, T.nW, look_words a, _, rfl, a.t, _, i, _, rfl, rfl, C1.wt, atI_in (word_at hi), ?_⟩
        refine ⟨_, rfl, p, a.C, a.dx, _, _, rfl, C1.ob, T.cl, T.nW, look_words a, _, rfl, a.t, _, j, _, rfl, rfl, C1.wt, atI_in (word_at hj), ?_⟩
        refine ⟨_, _, rfl, ?_⟩
        -- self.alone[mine, word] = alone_cost(one, other)
        refine ⟨_, rfl, _, rfl, wd ws i, wd ws j, rfl, hwi, hwj, fun H2 e2 => ?_⟩
        have C2 := C1.ex e2
        refine ⟨_, rfl, p, a.C, a.dx, _, _, rfl, C2.ob, T.cl, T.nA, look_alone a, _, rfl, _, rfl, by show 2 ≤ sizeLine; decide, fun T2 hT2 => ?_⟩
        have e3 : Ex H2 (upd H2 T2 (.tup [.int (i : Nat), .int (j : Nat)])) := Ex.new hT2
        have C3 := C2.ex e3
        have t3 := (t0.ex e2).ex e3
        refine ⟨a.da, _, rfl, DPut.t (k := key i j) t3.1 upd_same (by unfold sizeLine; omega), ?_⟩
        have ka' := putK_new (kvs := ka) (k := key i j) (.int ((aloneC (wd ws i) (wd ws j) : Nat) : Int)) hk
        generalize hH4 : upd (upd H2 T2 (.tup [.int (i : Nat), .int (j : Nat)])) a.da (.dT (putK ka (key i j) (.int ((aloneC (wd ws i) (wd ws j) : Nat) : Int)))) = H4
        have k4 : Kp a H H4 := by rw [← hH4]; exact (((Kp.refl a H).ex ((e1.trans e2).trans e3)).put (.inl rfl))
        have t4 : Tb H4 a (putK ka (key i j) (.int ((aloneC (wd ws i) (wd ws j) : Nat) : Int))) kh kb := by
          rw [← hH4]
          exact ⟨upd_same, by rw [upd_ne hC.d1.symm]; exact t3.2.1, by rw [upd_ne hC.d2.symm]; exact t3.2.2⟩
        have ob4 : H4 p = some (.ins a.C a.dx (cflds a)) := by
          obtain ⟨xa, xh, xb, tt, _⟩ := hC.tb
          exact k4 _ _ hC.ob (ne_of hC.ob tt.1 (by intro z; cases z)) (ne_of hC.ob tt.2.1 (by intro z; cases z)) (ne_of hC.ob tt.2.2 (by intro z; cases z))
        -- self.ahead[mine, word] = side_costs(one, other)
        refine ⟨_, rfl, _, rfl, wd ws i, wd ws j, rfl, hwi, hwj, fun l H5 hl e5 hl5 => ?_⟩
        refine ⟨_, rfl, p, a.C, a.dx, _, _, rfl, e5 _ _ ob4, T.cl, T.nH, look_ahead a, _, rfl, _, rfl, by show 2 ≤ sizeLine; decide, fun T3 hT3 => ?_⟩
        have e6 : Ex H5 (upd H5 T3 (.tup [.int (i : Nat), .int (j : Nat)])) := Ex.new hT3
        have t6 := (t4.ex e5).ex e6
        refine ⟨a.dh, _, rfl, DPut.t (k := key i j) t6.2.1 upd_same (by unfold sizeLine; omega), ?_⟩
        generalize hH7 : upd (upd H5 T3 (.tup [.int (i : Nat), .int (j : Nat)])) a.dh (.dT (putK kh (key i j) (.ref l))) = H7
        have k7' : Kp a H4 H7 := by rw [← hH7]; exact (((Kp.refl a H4).ex (e5.trans e6)).put (.inr (.inl rfl)))
        have k7 : Kp a H H7 := k4.trans k7'
        have t7 : Tb H7 a (putK ka (key i j) (.int ((aloneC (wd ws i) (wd ws j) : Nat) : Int))) (putK kh (key i j) (.ref l)) kb := by
          rw [← hH7]
          exact ⟨by rw [upd_ne hC.d1]; exact t6.1, upd_same, by rw [upd_ne hC.d3.symm]; exact t6.2.2⟩
        have hl7 : H7 l = some (.lst (vints (sideC (wd ws i) (wd ws j)))) := by
          rw [← hH7, upd_ne (ne_of (e6 _ _ hl5) t6.2.1 (by intro z; cases z))]
          exact e6 _ _ hl5
        have ob7 : H7 p = some (.ins a.C a.dx (cflds a)) := k7' _ _ ob4 (ne_of ob4 t4.1 (by intro z; cases z)) (ne_of ob4 t4.2.1 (by intro z; cases z)) (ne_of ob4 t4.2.2 (by intro z; cases z))
        -- self.behind[mine, word] = side_costs(one[::-1], other[::-1])
        refine e_putCall (vs := [.str (tx (wd ws i).reverse), .str (tx (wd ws j).reverse)]) (ea_cons (ev_revS (T := wd ws i) (ev_var rfl) (by omega)) (ea_cons (ev_revS (T := wd ws j) (ev_var rfl) (by omega)) ea_nil)) fun H8 e8 => ?_
        refine ⟨(wd ws i).reverse, (wd ws j).reverse, rfl, by rw [List.length_reverse]; exact hwi, by rw [List.length_reverse]; exact hwj, fun l' H9 hl' e9 hl9 => ?_⟩
        have e89 := e8.trans e9
        refine ⟨_, rfl, p, a.C, a.dx, _, _, rfl, e89 _ _ ob7, T.cl, T.nB, look_behind a, _, rfl, _, rfl, by show 2 ≤ sizeLine; decide, fun T4 hT4 => ?_⟩
        have e10 : Ex H9 (upd H9 T4 (.tup [.int (i : Nat), .int (j : Nat)])) := Ex.new hT4
        have t10 := (t7.ex e89).ex e10
        refine ⟨a.db, _, rfl, DPut.t (k := key i j) t10.2.2 upd_same (by unfold sizeLine; omega), ?_⟩
        generalize hH11 : upd (upd H9 T4 (.tup [.int (i : Nat), .int (j : Nat)])) a.db (.dT (putK kb (key i j) (.ref l'))) = H11
        have k11' : Kp a H7 H11 := by rw [← hH11]; exact (((Kp.refl a H7).ex (e89.trans e10)).put (.inr (.inr rfl)))
        have k11 : Kp a H H11 := k7.trans k11'
        have t11 : Tb H11 a (putK ka (key i j) (.int ((aloneC (wd ws i) (wd ws j) : Nat) : Int))) (putK kh (key i j) (.ref l)) (putK kb (key i j) (.ref l')) := by
          rw [← hH11]
          exact ⟨by rw [upd_ne hC.d2]; exact t10.1, by rw [upd_ne hC.d3]; exact t10.2.1, upd_same⟩
        have hl11 : H11 l = some (.lst (vints (sideC (wd ws i) (wd ws j)))) := k11'.lst t7 hl7
        have hl11' : H11 l' = some (.lst (vints (sideC (wd ws i).reverse (wd ws j).reverse))) := by
          rw [← hH11, upd_ne (ne_of (e10 _ _ hl9) t10.2.2 (by intro z; cases z))]
          exact e10 _ _ hl9
        have ob11 : H11 p = some (.ins a.C a.dx (cflds a)) := k11' _ _ ob7 (ne_of ob7 t7.1 (by intro z; cases z)) (ne_of ob7 t7.2.1 (by intro z; cases z)) (ne_of ob7 t7.2.2 (by intro z; cases z))
        obtain ⟨xa, xh, xb, tt, _⟩ := hC.tb
        have nSl : ¬ S l := fun z => by
          obtain ⟨xs, q⟩ := hC.al l z
          rw [k4.lst tt q] at hl
          cases hl
        have nSl' : ¬ S l' := fun z => by
          obtain ⟨xs, q⟩ := hC.al l' z
          rw [e8 _ _ (k7.lst tt q)] at hl'
          cases hl'
        have dn : Dn S H11 ws (putK ka (key i j) (.int ((aloneC (wd ws i) (wd ws j) : Nat) : Int))) (putK kh (key i j) (.ref l)) (putK kb (key i j) (.ref l')) i j :=
          ⟨by rw [valV_put, if_pos rfl], ⟨l, by rw [valV_put, if_pos rfl], hl11, nSl⟩, ⟨l', by rw [valV_put, if_pos rfl], hl11', nSl'⟩⟩
        have old : ∀ i' j', Dn S H ws ka kh kb i' j' → Dn S H11 ws (putK ka (key i j) (.int ((aloneC (wd ws i) (wd ws j) : Nat) : Int))) (putK kh (key i j) (.ref l)) (putK kb (key i j) (.ref l')) i' j' := fun i' j' d => by
          by_cases hij : key i' j' = key i j
          · obtain ⟨rfl, rfl⟩ := key_inj.mp hij
            exact dn
          · obtain ⟨d1, ⟨y, d2, d3, n3⟩, ⟨y', d4, d5, n5⟩⟩ := d
            exact ⟨by rw [valV_put, if_neg hij]; exact d1, ⟨y, by rw [valV_put, if_neg hij]; exact d2, k11.lst tt d3, n3⟩, ⟨y', by rw [valV_put, if_neg hij]; exact d4, k11.lst tt d5, n5⟩⟩
        have ta := t0.1.symm.trans (e1 _ _ tt.1)
        have th := t0.2.1.symm.trans (e1 _ _ tt.2.1)
        have tb := t0.2.2.symm.trans (e1 _ _ tt.2.2)
        cases ta
        cases th
        cases tb
        have back : ∀ i' j', Dn S (upd H T1 (.tup [.int (i : Nat), .int (j : Nat)])) ws ka kh kb i' j' → Dn S H ws ka kh kb i' j' := fun i' j' d => by
          obtain ⟨d1, ⟨y, d2, d3, n3⟩, ⟨y', d4, d5, n5⟩⟩ := d
          have b1 : ∀ {y xs}, upd H T1 (.tup [.int (i : Nat), .int (j : Nat)]) y = some (.lst xs) → H y = some (.lst xs) := fun {y xs} h => by
            by_cases z : y = T1
            · rw [z, upd_same] at h; cases h
            · rw [upd_ne z] at h; exact h
          exact ⟨d1, ⟨y, d2, b1 d3, n3⟩, ⟨y', d4, b1 d5, n5⟩⟩
        refine ⟨_, _, rfl, k11, ⟨fun D hD => (let ⟨xs, q⟩ := hC.al D hD; ⟨xs, k11.lst tt q⟩), ob11, k11.sqT tt hC.wt, hC.d1, hC.d2, hC.d3, _, _, _, t11, ⟨?_, ?_, ?_⟩, fun i' j' hi' hj' => ?_⟩, ⟨_, _, _, t11, dn⟩, fun i' j' d => ?_⟩
        · have := put_len ka (key i j) (.int ((aloneC (wd ws i) (wd ws j) : Nat) : Int)); omega
        · have := put_len kh (key i j) (.ref l); omega
        · have := put_len kb (key i j) (.ref l'); omega
        · by_cases hij : key i' j' = key i j
          · obtain ⟨rfl, rfl⟩ := key_inj.mp hij
            exact .inr dn
          · rcases dn0 i' j' hi' hj' with z | z
            · exact .inl (by rw [valV_put, if_neg hij]; exact z)
            · exact .inr (old i' j' (back i' j' z))
        · obtain ⟨ya, yh, yb, q, d⟩ := d
          have ta := q.1.symm.trans tt.1
          have th := q.2.1.symm.trans tt.2.1
          have tb := q.2.2.symm.trans tt.2.2
          cases ta
          cases th
          cases tb
          exact ⟨_, _, _, t11, old i' j' d⟩
    · rintro σ' H' ⟨v3, v4, rfl, k1, C1, D1, M1⟩
      obtain ⟨ka, kh, kb, t1, d1⟩ := id D1
      refine ⟨_, rfl, p, a.C, a.dx, _, _, rfl, C1.ob, T.cl, T.nA, look_alone a, _, rfl, _, rfl, by show 2 ≤ sizeLine; decide, fun T2 hT2 => ?_⟩
      have e2 : Ex H' (upd H' T2 (.tup [.int (i : Nat), .int (j : Nat)])) := Ex.new hT2
      refine ⟨a.da, _, rfl, ?_, k _ (k1.ex e2) (C1.ex e2) (D1.ex e2) fun i' j' d => (M1 i' j' d).ex e2⟩
      have g := DGet.t (k := key i j) ((t1.ex e2).1) (b := T2) upd_same
      rw [d1.1] at g
      exact g
end
end K11
end
section
set_option maxRecDepth 100000
set_option maxHeartbeats 4000000
/-! Costs.over, Costs.triple, triples_of. -/
namespace K11
open PySem L2 Evl PyProof.Rows
section
variable {P : Program} {w : World} {K : PySem.W.Frag} {mg : Str → Option Value} {base : Heap}
variable {f1 f2 f3 f4 f5 f6 f7 : Addr} {fd1 fd2 fd3 fd4 fd5 fd6 fd7 : FuncData}
theorem ok_over {f fo C : Addr} {fd fdo : FuncData} (F : Fun K "over" "Costs.over" sCOver f fd) (T : TxC K C) (B : Bi mg) (Fo : Fun K "of" "Costs.of" sCOf fo fdo) (bo : Binds K fdo ["self", "mine", "word"] []) (mo : Meth K C "of" fo) (A7 : DfA K mg f1 f2 f3 f4 f5 f6 f7 fd1 fd2 fd3 fd4 fd5 fd6 fd7) :
    FnOk P w K mg base CX0 5 f fd ["self", "first", "second", "word"] (spOver K C) := by
  have GO : FnOk P w K mg base CX0 4 fo fdo ["self", "mine", "word"] (spOf K C) := ok_of Fo T B A7
  have GB : FnOk P w K mg base CX0 1 f7 fd7 ["ahead", "behind"] (spBord K) := A7.okBord B
  refine F.ok scCOver (fun vs H Q E h => ?_) (fun cdv A outer s H vs Q E hr h => ?_)
  · obtain ⟨p, S, a, ws, m, i, t, j, rfl, _⟩ := h
    rfl
  · obtain ⟨p, S, a, ws, m, i, t, j, rfl, rfl, hC, hw, hi, ht, hj, hm, k⟩ := h
    have hu := hu_of hr
    refine ⟨_, pss_cons (ps_expr (pe_meth (pv 0) T.cl mo GO hr bo .nil pass0 (pa_cons (pv 1) (pa_cons (pv 3) pa_nil))))
      (pss_cons (ps_expr (pe_meth (pv 0) T.cl mo GO hr bo .nil pass0 (pa_cons (pv 2) (pa_cons (pv 3) pa_nil))))
      (pss_one (ps_ret (pe_call GB (hr.mono (by decide)) rfl A7.bord.m A7.bord.F.kp A7.bord.b .nil pass0 (pa_cons (pe_dget hu (pe_fld (pv 0) rfl) (pe_tup (pa_cons (pv 1) (pa_cons (pv 3) pa_nil))) (fun _ _ => rfl))
        (pa_cons (pe_dget hu (pe_fld (pv 0) rfl) (pe_tup (pa_cons (pv 2) (pa_cons (pv 3) pa_nil))) (fun _ _ => rfl)) pa_nil)))))), ?_⟩
    refine ⟨_, rfl, p, a.dx, _, rfl, hC.ob, look_no a (by decide +kernel) (by decide +kernel) (by decide +kernel) (by decide +kernel), _, rfl, _, rfl, p, S, a, ws, m, i, j, rfl, rfl, hC, hw, hi, hj, by omega, fun H1 k1 C1 D1 M1 => ?_⟩
    refine ⟨_, rfl, p, a.dx, _, rfl, C1.ob, look_no a (by decide +kernel) (by decide +kernel) (by decide +kernel) (by decide +kernel), _, rfl, _, rfl, p, S, a, ws, m + 1, t, j, rfl, rfl, C1, hw, ht, hj, by omega, fun H2 k2 C2 D2 M2 => ?_⟩
    have D1' := M2 _ _ D1
    refine ⟨_, rfl, p, a.C, a.dx, _, _, rfl, C2.ob, T.cl, T.nH, look_ahead a, _, rfl, _, rfl, by show 2 ≤ sizeLine; decide, fun T1 hT1 => ?_⟩
    have e3 : Ex H2 (upd H2 T1 (.tup [.int (i : Nat), .int (j : Nat)])) := Ex.new hT1
    obtain ⟨ka, kh, kb, t3, d3, ⟨l, d4, d5, _⟩, _⟩ := D1'.ex e3
    have g := DGet.t (k := key i j) t3.2.1 (b := T1) upd_same
    rw [d4] at g
    refine ⟨a.dh, _, rfl, g, ?_⟩
    have C3 := C2.ex e3
    refine ⟨_, rfl, p, a.C, a.dx, _, _, rfl, C3.ob, T.cl, T.nB, look_behind a, _, rfl, _, rfl, by show 2 ≤ sizeLine; decide, fun T2 hT2 => ?_⟩
    have e4 : Ex (upd H2 T1 (.tup [.int (i : Nat), .int (j : Nat)])) (upd (upd H2 T1 (.tup [.int (i : Nat), .int (j : Nat)])) T2 (.tup [.int (t : Nat), .int (j : Nat)])) := Ex.new hT2
    obtain ⟨ka', kh', kb', t4, _, _, l', d6, d7, _⟩ := (D2.ex e3).ex e4
    have g2 := DGet.t (k := key t j) t4.2.2 (b := T2) upd_same
    rw [d6] at g2
    refine ⟨a.db, _, rfl, g2, l, l', _, _, rfl, SqL.of (e4 _ _ d5), SqL.of d7, by rw [sideC_length]; omega, by rw [sideC_length, sideC_length, List.length_reverse], by rw [sideC_length]; have := hw j; omega, fun H5 e5 => ?_⟩
    exact k H5 ((k1.trans k2).ex ((e3.trans e4).trans e5)) (((C3.ex e4).ex e5))
theorem ok_trip {f fo fv C : Addr} {fd fdo fdv : FuncData} (F : Fun K "triple" "Costs.triple" sCTrip f fd) (T : TxC K C) (B : Bi mg) (Fo : Fun K "of" "Costs.of" sCOf fo fdo) (bo : Binds K fdo ["self", "mine", "word"] []) (mo : Meth K C "of" fo)
    (Fv : Fun K "over" "Costs.over" sCOver fv fdv) (bv : Binds K fdv ["self", "first", "second", "word"] []) (mv : Meth K C "over" fv) (A7 : DfA K mg f1 f2 f3 f4 f5 f6 f7 fd1 fd2 fd3 fd4 fd5 fd6 fd7) :
    FnOk P w K mg base CX0 6 f fd ["self", "first", "second", "word"] (spTrip K C) := by
  have GO : FnOk P w K mg base CX0 4 fo fdo ["self", "mine", "word"] (spOf K C) := ok_of Fo T B A7
  have GV : FnOk P w K mg base CX0 5 fv fdv ["self", "first", "second", "word"] (spOver K C) := ok_over Fv T B Fo bo mo A7
  refine F.ok scCTrip (fun vs H Q E h => ?_) (fun cdv A outer s H vs Q E hr h => ?_)
  · obtain ⟨p, S, a, ws, m, i, t, j, rfl, _⟩ := h
    rfl
  · obtain ⟨p, S, a, ws, m, i, t, j, rfl, rfl, hC, hw, hi, ht, hj, hm, k⟩ := h
    refine ⟨_, pss_one (ps_ret (pe_ifExp (pt_cmpR op_eq (pv 1) (pv 2) (nomark _)) (pe_meth (pv 0) T.cl mo GO (hr.mono (by decide)) bo .nil pass0 (pa_cons (pv 1) (pa_cons (pv 3) pa_nil)))
      (pe_meth (pv 0) T.cl mv GV hr bv .nil pass0 (pa_cons (pv 1) (pa_cons (pv 2) (pa_cons (pv 3) pa_nil)))))), ?_⟩
    refine ⟨_, rfl, _, rfl, rfl, _, rfl, ?_⟩
    have hd : decide (V.int (i : Int) = V.int (t : Int)) = decide (i = t) := by
      rw [decide_eq_decide]
      constructor
      · intro h; injection h with h; omega
      · rintro rfl; rfl
    rw [hd]
    by_cases hit : i = t
    · rw [decide_eq_true hit]
      refine iteT ?_
      refine ⟨_, rfl, p, a.dx, _, rfl, hC.ob, look_no a (by decide +kernel) (by decide +kernel) (by decide +kernel) (by decide +kernel), _, rfl, _, rfl, p, S, a, ws, m, i, j, rfl, rfl, hC, hw, hi, hj, by omega, fun H1 k1 C1 D1 M1 => ?_⟩
      have := k H1 k1 (C1.mono (by omega))
      unfold costT at this
      rw [if_pos hit] at this
      exact this
    · rw [decide_eq_false hit]
      refine iteF ?_
      refine ⟨_, rfl, p, a.dx, _, rfl, hC.ob, look_no a (by decide +kernel) (by decide +kernel) (by decide +kernel) (by decide +kernel), _, rfl, _, rfl, _, rfl, p, S, a, ws, m, i, t, j, rfl, rfl, hC, hw, hi, ht, hj, hm, fun H1 k1 C1 => ?_⟩
      have := k H1 k1 C1
      unfold costT at this
      rw [if_neg hit] at this
      exact this
end
end K11
end
section
set_option maxRecDepth 100000
set_option maxHeartbeats 4000000
/-! triples_of. -/
namespace K11
open PySem L2 Evl PyProof.Rows
abbrev T3 := Nat × Nat × Nat
/-- a value that is a tuple of three numbers -/
def IsT (H : Hp) (v : V) (t : T3) : Prop := ∃ r, v = .ref r ∧ H r = some (.tup [.int (t.1 : Int), .int (t.2.1 : Int), .int (t.2.2 : Int)])
theorem IsT.ex {H H' : Hp} {v : V} {t : T3} (e : Ex H H') (h : IsT H v t) : IsT H' v t := let ⟨r, a, b⟩ := h; ⟨r, a, e _ _ b⟩
theorem IsT.upd {H : Hp} {v : V} {t : T3} {q : Addr} {xs : List V} {o : HO} (h : IsT H v t) (hq : H q = some (.lst xs)) : IsT (upd H q o) v t := by
  obtain ⟨r, a, b⟩ := h
  exact ⟨r, a, by rw [upd_ne (ne_of b hq (by intro z; cases z))]; exact b⟩
abbrev Trs (H : Hp) (xs : List V) (ts : List T3) : Prop := Paired (IsT H) xs ts
theorem Trs.ex {H H' : Hp} {xs : List V} {ts : List T3} (e : Ex H H') (h : Trs H xs ts) : Trs H' xs ts := Paired.mapP h fun _ _ z => z.ex e
theorem Trs.upd {H : Hp} {xs ys : List V} {ts : List T3} {q : Addr} {o : HO} (h : Trs H xs ts) (hq : H q = some (.lst ys)) : Trs (upd H q o) xs ts := Paired.mapP h fun _ _ z => z.upd hq
theorem paired_app {α β : Type} {F : α → β → Prop} : ∀ {l l' : List α} {m m' : List β}, Paired F l m → Paired F l' m' → Paired F (l ++ l') (m ++ m')
  | _, _, _, _, .nil, h => h
  | _, _, _, _, .cons a b, h => .cons a (paired_app b h)
def TripsAt (H : Hp) (q : Addr) (ts : List T3) : Prop := ∃ xs, H q = some (.lst xs) ∧ Trs H xs ts
/-- the third places of two -/
def rowT (n f s m : Nat) : List T3 := ((List.range m).filter fun w => decide (w ≠ f ∧ w ≠ s)).map fun w => (f, s, w)
theorem triples_row (n : Nat) : triplesOf n = (List.range n).flatMap fun f => (List.range n).flatMap fun s => rowT n f s n := rfl
theorem rowT_len (n f s m : Nat) : (rowT n f s m).length ≤ m := by
  unfold rowT
  rw [List.length_map]
  exact Nat.le_trans (List.length_filter_le _ _) (by rw [List.length_range]; exact Nat.le_refl _)
theorem rowT_succ (n f s m : Nat) : rowT n f s (m + 1) = if m ≠ f ∧ m ≠ s then rowT n f s m ++ [(f, s, m)] else rowT n f s m := by
  unfold rowT
  rw [List.range_succ, List.filter_append, List.map_append]
  by_cases h : m ≠ f ∧ m ≠ s
  · rw [if_pos h, List.filter_cons_of_pos (by simpa using h)]; rfl
  · rw [if_neg h, List.filter_cons_of_neg (by simpa using h)]; simp
theorem flat_succ {α : Type} (g : Nat → List α) (m : Nat) : (List.range (m + 1)).flatMap g = (List.range m).flatMap g ++ g m := by
  rw [List.range_succ, List.flatMap_append]; simp
theorem flat_len {α : Type} (g : Nat → List α) (c : Nat) (h : ∀ i, (g i).length ≤ c) : ∀ m, ((List.range m).flatMap g).length ≤ m * c
  | 0 => by simp
  | m + 1 => by
    rw [flat_succ, List.length_append, Nat.succ_mul]
    have := flat_len g c h m
    have := h m
    omega
def spTrips (K : PySem.W.Frag) : Sp := fun vs H Q _ => ∃ n : Nat, vs = [.int (n : Int)] ∧ n ≤ 10 ∧ ∀ q H', H q = none → Ex H H' → TripsAt H' q (triplesOf n) → Q (.ref q) H'
theorem inV_two (w f s : Nat) : inV (.int (w : Int)) [.int (f : Int), .int (s : Int)] = decide (w = f ∨ w = s) := by
  have e1 : ((f : Int) == (w : Int)) = decide (w = f) := by rw [Bool.beq_eq_decide_eq, decide_eq_decide]; omega
  have e2 : ((s : Int) == (w : Int)) = decide (w = s) := by rw [Bool.beq_eq_decide_eq, decide_eq_decide]; omega
  show (eqV (.int (f : Int)) (.int (w : Int)) || (eqV (.int (s : Int)) (.int (w : Int)) || false)) = _
  show (((f : Int) == (w : Int)) || (((s : Int) == (w : Int)) || false)) = _
  rw [e1, e2, Bool.or_false, Bool.decide_or]
section
variable {P : Program} {w : World} {K : PySem.W.Frag} {mg : Str → Option Value} {base : Heap}
theorem ok_trips {f : Addr} {fd : FuncData} (d : Df K mg "triples_of" sTrips f fd ["many"]) (B : Bi mg) : FnOk P w K mg base CX0 1 f fd ["many"] (spTrips K) := by
  refine d.F.ok scTrips (fun vs H Q E h => ?_) (fun cdv A outer s H vs Q E hr h => ?_)
  · obtain ⟨n, rfl, _⟩ := h
    rfl
  · obtain ⟨n, rfl, hn, k⟩ := h
    refine ⟨_, pss_cons (ps_set (i := 1) scTrips.nd rfl (.inl rfl) (pe_lst pa_nil))
      (pss_cons (ps_for PassesOwn.never rfl (pi_range1 rfl B.range (pa_cons (pv 0) pa_nil)) (pg_name (i := 2) scTrips.nd rfl (.inr rfl))
        (pss_one (ps_for PassesOwn.never rfl (pi_range1 rfl B.range (pa_cons (pv 0) pa_nil)) (pg_name (i := 3) scTrips.nd rfl (.inr rfl))
          (pss_one (ps_expr (pe_bm PySem.F.plainAttrs_list PySem.F.slot_list_extend PySem.F.type_list_extend mt_extend (pv 1) (pa_cons
            (pe_lc (own := [("word", 4)]) (g := gName 4) (tt := tTest (tOp (rIn K true) (tVar 4) (tTup (tCons (tVar 2) (tCons (tVar 3) tNil))))) rfl scTrips.nd (pi_range1 (by rfl) B.range (pa_cons (pv 0) pa_nil))
              (blkOk_by (N := ["many", "found", "first", "second", "word"]) (sc := defScope sTrips) (by decide +kernel)) (fun _ _ _ _ _ => pg_name (i := 4) scTrips.nd rfl (.inl rfl))
              (fun _ _ _ _ _ => pts_one (pt_cmpR op_notIn_seq (pv 4) (pe_tup (pa_cons (pv 2) (pa_cons (pv 3) pa_nil))) rfl))
              (fun _ _ _ _ _ => pe_tup (pa_cons (pv 2) (pa_cons (pv 3) (pa_cons (pv 4) pa_nil))))) pa_nil)))))))
      (pss_one (ps_ret (pv 1)))), ?_⟩
    refine q_asgL (el_lst ea_nil (by show 0 ≤ 100000; decide)) fun q H1 hq e1 hq1 => ?_
    refine q_forR1 (n := (n : Int)) (ea_cons (ev_var rfl) ea_nil) ⟨by omega, by omega⟩
      (fun i σ' H' => ∃ v2 v3 v4, σ' = [some (.int (n : Nat)), some (.ref q), v2, v3, v4] ∧ Ex H H' ∧ TripsAt H' q ((List.range i).flatMap fun f => (List.range n).flatMap fun s => rowT n f s n))
      (fun H2 e2 => ⟨_, _, _, rfl, e1.trans e2, [], e2 _ _ hq1, .nil⟩) ?_ ?_
    · intro i σ' H' hi ⟨v2, v3, v4, hσ, eH, hT⟩
      subst hσ
      refine s_forR1 (n := (n : Int)) (ea_cons (ev_var rfl) ea_nil) ⟨by omega, by omega⟩
        (fun j σ' H' => ∃ v3 v4, σ' = [some (.int (n : Nat)), some (.ref q), some (.int (i : Nat)), v3, v4] ∧ Ex H H' ∧ TripsAt H' q (((List.range i).flatMap fun f => (List.range n).flatMap fun s => rowT n f s n) ++ (List.range j).flatMap fun s => rowT n i s n))
        (fun H2 e2 => ⟨_, _, rfl, eH.trans e2, ?_⟩) ?_ ?_
      · obtain ⟨xs, h1, h2⟩ := hT
        rw [List.range_zero, List.flatMap_nil, List.append_nil]
        exact ⟨xs, e2 _ _ h1, h2.ex e2⟩
      · intro j σ' H' hj ⟨v3, v4, hσ, eH, hT⟩
        subst hσ
        obtain ⟨xs, h1, h2⟩ := hT
        refine ⟨_, rfl, .inl ⟨rfl, xs, sq_of h1⟩, _, rfl, (n : Int), rfl, by omega, by omega, fun D hD => ?_⟩
        have en : ((n : Int)).toNat = n := by omega
        rw [en]
        refine lc_range (fun m H2 => H' D = none ∧ Ex H' H2 ∧ ∃ ys, H2 D = some (.lst ys) ∧ ys.length ≤ m ∧ Trs H2 ys (rowT n i j m)) ⟨hD, Ex.new hD, [], upd_same, Nat.le_refl _, .nil⟩ ?_ ?_
        · intro m H2 hm ⟨_, e2, ys, g1, g2, g3⟩
          refine ⟨rfl, ?_⟩
          refine et_test (ev_niU (ev_var rfl) (eu_tup (ea_cons (ev_var rfl) (ea_cons (ev_var rfl) ea_nil)) (by show 2 ≤ 100000; decide)) rfl rfl) H2 (Ex.refl _) _ fun H3 e3 => ?_
          rw [show ((0 : Int) + (m : Int)) = (m : Int) by omega, inV_two]
          by_cases hmem : m = i ∨ m = j
          · rw [decide_eq_true hmem]
            show if false = true then _ else _
            rw [if_neg (by decide)]
            refine ⟨hD, e2.trans e3, ys, e3 _ _ g1, by omega, ?_⟩
            rw [rowT_succ, if_neg (by omega)]
            exact g3.ex e3
          · rw [decide_eq_false hmem]
            show if true = true then _ else _
            rw [if_pos rfl]
            refine eu_tup (ea_cons (ev_var rfl) (ea_cons (ev_var rfl) (ea_cons (ev_var rfl) ea_nil))) (by show 3 ≤ 100000; decide) H3 (Ex.refl _) _ fun r H4 hr e4 hr4 => ?_
            refine ⟨ys, e4 _ _ (e3 _ _ g1), by unfold sizeLine; omega, hD, ((e2.trans e3).trans e4).mut hD, _, upd_same, by rw [List.length_append, List.length_singleton]; omega, ?_⟩
            rw [rowT_succ, if_pos (by omega)]
            exact Trs.upd (paired_app ((g3.ex e3).ex e4) (.cons ⟨r, rfl, hr4⟩ .nil)) (e4 _ _ (e3 _ _ g1))
        · rintro H2 ⟨_, e2, ys, g1, g2, g3⟩
          have hlen : xs.length ≤ i * (n * n) + j * n := by
            rw [Paired.length h2, List.length_append]
            have a1 := flat_len (fun f => (List.range n).flatMap fun s => rowT n f s n) (n * n) (fun f => flat_len _ n (fun s => rowT_len n f s n) n) i
            have a2 := flat_len (fun s => rowT n i s n) n (fun s => rowT_len n i s n) j
            omega
          have b1 : i * (n * n) ≤ 10 * (10 * 10) := Nat.mul_le_mul (by omega) (Nat.mul_le_mul hn hn)
          have b2 : j * n ≤ 10 * 10 := Nat.mul_le_mul (by omega) hn
          refine ⟨q, D, xs, ys, rfl, rfl, e2 _ _ h1, g1, by unfold sizeLine; omega, ?_⟩
          have hq0 : H q = none := hq
          refine ⟨_, _, rfl, (eH.trans e2).mut hq0, _, upd_same, ?_⟩
          rw [flat_succ, ← List.append_assoc]
          exact Trs.upd (paired_app (h2.ex e2) g3) (e2 _ _ h1)
      · rintro σ' H' ⟨v3, v4, rfl, eH, hT⟩
        have en : ((n : Int)).toNat = n := by omega
        rw [en] at hT
        refine ⟨_, _, _, rfl, eH, ?_⟩
        rw [flat_succ]
        exact hT
    · rintro σ' H' ⟨v2, v3, v4, rfl, eH, hT⟩
      have en : ((n : Int)).toNat = n := by omega
      rw [en] at hT
      exact s_ret (ev_var rfl) fun H3 e3 => k q H3 hq (eH.trans e3) (let ⟨xs, a, b⟩ := hT; ⟨xs, e3 _ _ a, b.ex e3⟩)
end
end K11
end
section
set_option maxRecDepth 100000
set_option maxHeartbeats 4000000
/-! An own exception whose __init__(self, part) says super().__init__(part); self.part = part. -/
namespace K11
open PySem PySem.Spec PyProof.Rows L2 PySem.W PySem.Calls
/-- the code object, the cell of __class__, the class, as the written part has them -/
structure EIn (P : Program) (K : PySem.W.Frag) (C f cc cda : Addr) (qual : Str) (st : Stmt) (fd : FuncData) : Prop where
  lk : ∃ (oc doc pm ct : Value) (od an : Option Addr) (osl : Array (Option Value)), fd = fnX "__init__" qual (defArgs st) (defBody st) (defScope st) [("__class__", cc)] .none .none doc pm an (.ref cda) ct ∧ K.lookup f = some ⟨oc, od, .func fd, osl⟩
  hcd : codeIn K (.ref cda) qual = true
  code : ∃ (ccl : Value) (cdd : Option Addr) (vs : Array Value) (ccs : Array (Option Value)) (file : Str) (tf : Tok), K.lookup cda = some ⟨ccl, cdd, .fields vs, ccs⟩ ∧ vs[2]? = some (.str file tf) ∧ ((P.main.file : Str) == file) = true
  cell : ∃ (cl : Value) (cld : Option Addr) (csl : Array (Option Value)), K.lookup cc = some ⟨cl, cld, .cell (some (.ref C)), csl⟩
  cls : ∃ cdD, clsIn K C = some cdD
  sub : mroIn K C (.ref C) = some true
  sup : nsIn K mainGlobals "super" = some none
  top : (P.main.scope.names.lookup ("super" : Str)).isSome = false
  opq : nsIn K cStatics "thirdparty.any" = some none
  ini : ks_superIn K C C "__init__" = some (some (.builtin "ValueError.__init__"))
  ve : subIn K (.ref C) (.type "ValueError") = some true
  ox : OexC K C
  np : findIn K (.ref C) "part" = some none
/-- what __init__ promises -/
def spEIn (C : Addr) : Sp := fun vs H Q _ => ∃ (a : Addr) (z : Str), vs = [.ref a, .str z] ∧ H a = some (exo a C none) ∧ ∀ dx, H dx = none → dx ≠ a → Q .non (upd (upd H dx (exd dx [("part", .str z)])) a (exo a C (some dx)))
section
variable {P : Program} {w : World} {K : PySem.W.Frag} {mg : Str → Option Value} {base : Heap}
theorem exo_rec {e C : Addr} {P : Program} {w : World} {H : Hp} {h : Heap} (hok : HOk P w H h) (he : H e = some (exo e C none)) : ∃ t1 : Addr, h.get? e = some (excRec (.ref C) t1 none .none .none (.bool false)) := exo_at hok he
/-- super().__init__(part) -/
theorem super_init {X : Cx} {pins : List (Addr × Obj)} {σ : L2.St} {H : Hp} {s : Shared} {C f cc cda L a : Addr} {qual : Str} {st : Stmt} {fd : FuncData} {v : V} {body : List Stmt} {scope : Scope} {p0 p1 p2 p3 p4 p5 : Pos} {x1 : Str}
    (D : EIn X.prog X.K C f cc cda qual st fd) (I : Inv X pins σ H s) (he : X.env = ksEnv qual scope L f (.ref cda) cc) (ha : H a = some (exo a C none))
    (hks : scope.names.lookup ("super" : Str) = some .globalImplicit) (hkc : scope.names.lookup ("__class__" : Str) = some .free) (hk0 : scope.names.lookup ("self" : Str) = some .local) (hk1 : scope.names.lookup x1 = some .local) (hd1 : (x1 == ("__debug__" : Str)) = false)
    (hN0 : X.N[0]? = some ("self" : Str)) (hN1 : X.N[1]? = some x1) (h0 : σ[0]? = some (some (.ref a))) (h1 : σ[1]? = some (some v)) (hkind : scope.kind = .function) {pl : Sem Bool} (hev : eval (.Call (.Attribute (.Call (.Name "super" p0) [] [] p1) "__init__" p2) [.Name x1 p3] [] p4) (ksEnv qual scope L f (.ref cda) cc) = (do
      let ov ← attributeBase (.Call (.Name "super" p0) [] [] p1) "__init__" (ksEnv qual scope L f (.ref cda) cc) (eval (.Call (.Name "super" p0) [] [] p1) (ksEnv qual scope L f (.ref cda) cc))
      standAt p2.atName
      let (f', first) ← holding [ov] (getMethod ov "__init__" pl)
      callWith p4 f' first (backTo p4 (starEach [.Name x1 p3] (ksEnv qual scope L f (.ref cda) cc))) [])) (hsw : swapsWith (.Call (.Attribute (.Call (.Name "super" p0) [] [] p1) "__init__" p2) [.Name x1 p3] [] p4) none p5.line (ksEnv qual scope L f (.ref cda) cc) = pure false) (hpar : ((defArgs st).posonlyargs ++ (defArgs st).args).head?.map (·.arg) = some ("self" : Str)) :
    PySem.wpAt (model X.prog X.w) X.A (.func body X.env) (exec (.Expr (.Call (.Attribute (.Call (.Name "super" p0) [] [] p1) "__init__" p2) [.Name x1 p3] [] p4) p5) X.env) (fun fl s' => fl = .next ∧ Inv X pins σ H s') X.xe s := by
  have quiet := I.quiet
  have KX := I.kIn
  obtain ⟨oc, doc, pm, ct, od, an, osl, rfl, lk⟩ := D.lk
  obtain ⟨ccl, cdd, vs, ccs, file, tf, hcode, hvs, hfile⟩ := D.code
  obtain ⟨cl, cld, csl, hcell⟩ := D.cell
  obtain ⟨cdD, hD⟩ := D.cls
  obtain ⟨nm, q, N, bs, bm, sn, sub, ab, col, dd, k0, k1, k2, k3, k5, hC, hbm⟩ := D.ox.cls
  obtain ⟨t1, ho⟩ := exo_rec I.hok ha
  obtain ⟨m, hns, hloc⟩ := I.loc
  obtain ⟨oD, hD1, hD2⟩ : ∃ oD, s.heap.get? C = some oD ∧ oD.data = .cls cdD := by
    unfold clsIn at hD
    split at hD
    · rename_i c d cd' sl hq
      cases hD
      exact ⟨_, KX _ _ hq, rfl⟩
    · cases hD
  obtain ⟨ar, har, harn⟩ : ∃ ar, ((defArgs st).posonlyargs ++ (defArgs st).args).head? = some ar ∧ ar.arg = ("self" : Str) := by
    cases hz : ((defArgs st).posonlyargs ++ (defArgs st).args).head? with
    | none => rw [hz] at hpar; cases hpar
    | some ar => rw [hz] at hpar; exact ⟨ar, rfl, Option.some.inj hpar⟩
  have kof : ∀ y, X.env.kindOf y = scope.names.lookup y := fun y => by rw [he]; rfl
  have kind : X.env.scope.kind = .function := by rw [he]; exact hkind
  have look : ∀ {i : Nat} {y : Str} {v : V}, X.N[i]? = some y → σ[i]? = some (some v) → scope.names.lookup y = some .local → ∃ u, RelV v u ∧ m y = some u := fun {i y v} e1 e2 e3 => by
    obtain ⟨u, ru, hu⟩ := hloc i y v e1 e2 (.inl (by rw [he]; exact e3))
    rcases hu with ⟨_, hu⟩ | ⟨hu, _⟩
    · exact ⟨u, ru, hu⟩
    · rw [kof, e3] at hu
      rcases hu with hu | hu <;> cases hu
  obtain ⟨uself, rself, mself⟩ := look hN0 h0 hk0
  obtain rfl : uself = Value.ref a := rself
  obtain ⟨up, rp, mp⟩ := look hN1 h1 hk1
  obtain ⟨mb, hmb, hbb⟩ := I.ok.mod.blt
  have eg : X.env.globals = mainGlobals := I.ok.glob
  have eb : X.env.builtins = builtinsNs := I.ok.blt
  have G : s.heap.Ns mainGlobals X.mg := I.ok.mod.glob.keeps I.bk
  have Bn : s.heap.Ns builtinsNs mb := hmb.keeps I.bk
  have nsup : X.mg ("super" : Str) = none := mg_none_of I.ok.mod.kin I.ok.mod.glob D.sup
  have hxC : a ≠ C := fun z => by
    have q := KX _ _ (show X.K.lookup C = _ from hC)
    rw [← z, ho] at q
    cases q
  have nc : ∀ {o : Obj}, s.heap.get? a = some o → ∀ c, o.data ≠ .cls c := fun {o} q c z => by
    rw [ho] at q
    cases q
    cases z
  rw [he] at *
  obtain ⟨hh, g, d, t, os⟩ := s
  refine ks_wpAt_Expr_any (ks_wpAt_MethodCall ?_ hev) quiet hsw
  refine ks_wpAt_super_base (env := ksEnv qual scope L f (.ref cda) cc) hks hkc rfl rfl (KX _ _ lk) rfl har rfl (KX _ _ hcode) rfl hvs hfile D.top ?_
  refine ks_loadName_global hkind hks (loadGlobal_builtin (env := ksEnv qual scope L f (.ref cda) cc) G nsup Bn ((hbb _ (by decide +kernel)).trans (show bootBuiltins ("super" : Str) = some (.type "super") by decide +kernel)) ⟨rfl, ?_⟩)
  refine wpAny_loadName_free hkind hkc rfl ⟨_, KX _ _ hcell, rfl⟩ ?_
  rw [harn]
  refine wpAny_loadName_local hkind hk0 hns mself ?_
  refine ks_wpAny_isType_cls hD1 hD2 ⟨rfl, ?_⟩
  refine ks_wpAny_call_super hD1 hD2 ho rfl (nc ho) (looks_mroIn KX D.sub) fun h1 so k1 => ?_
  have KX1 : X.K.In h1 := KX.keeps k1
  have so1 : h1.get? a = some (excRec (.ref C) t1 none .none .none (.bool false)) := k1 _ _ ho
  have hI : ∀ M, Looks M h1 (isInstance (.ref a) (.type "ValueError")) true := fun M => ((Looks.ld so1).andThen .now).andThen (looks_subIn KX1 D.ve)
  have hm : alongIn X.K "__init__" ((cdD.mro.dropWhile (· != .ref C)).drop 1) = some (some (.builtin "ValueError.__init__")) := by
    have q := D.ini
    unfold ks_superIn at q
    rw [hD] at q
    exact q
  refine kxs_getMethod kxs_ValueError so (looks_opaque KX1 D.opq) (l₀ := cdD.mro) (fun A Q E s k q => wpAny_bind ((looks_clsIn KX1 hD) A _ E s k (wpAny_pure q))) rfl KX1 hm (hI _) hxC rfl ?_
  have k2 : ∀ b o, hh.get? b = some o → (h1.push (kxs_mw "ValueError.__init__" a)).get? b = some o := fun b o e => Heap.get?_push_of_some _ (k1 b o e)
  have hu : (h1.push (kxs_mw "ValueError.__init__" a)).get? h1.objs.size = some (kxs_mw "ValueError.__init__" a) := Heap.get?_push_size _ rfl
  have hmem : L ≠ h1.objs.size → True := fun _ => trivial
  refine kxs_callWith (i := "ValueError.__init__") (x := a) rfl (evalArgs_plain (args_cons (env := ksEnv qual scope L f (.ref cda) cc) (wpAny_Name (wpAny_loadName_local hkind hk1 (hns.keeps k2) mp (args_nil ⟨hu, ?_⟩)) hd1) rfl))
  have he2 : (h1.push (kxs_mw "ValueError.__init__" a)).get? a = some (excRec (.ref C) t1 none .none .none (.bool false)) := k2 _ _ ho
  have hC2 := k2 _ _ (KX _ _ hC)
  refine wpAny_call (codeAny_of_tree ?_)
  show wpAny _ X.A.in1 (callAny (.ref h1.objs.size) ⟨[up], []⟩) _ _ _
  simp only [callAny]
  refine wpAny_bind (wpAny_load hu ?_)
  simp only [kxs_mw, show (Value.type "method-wrapper" == Value.type "method" || Value.type "method-wrapper" == Value.type "builtin_function_or_method" || Value.type "method-wrapper" == Value.type "method-wrapper") = true by decide, if_true]
  refine KFB.if_so (by decide) ?_
  refine wpAny_bind (check_bound_init PySem.F.excBase_ValueError.toExcCallFacts hC2 he2 rfl ?_)
  refine wpAny_bind (wpAny_pure (wpAny_pure ⟨plainId_quiet PySem.F.excBase_ValueError.init.plain _, codeAny_builtin PySem.F.excBase_ValueError.initEntry ?_⟩))
  refine exc_init_tree (cls := .ref C) (t0 := t1) (dv := none) (c2 := .none) (c3 := .none) (b4 := .bool false) he2 (show 1 ≤ sizeLine by decide) fun h3 k3 hx3 _ => ?_
  have J := I.write (h' := h3) (t' := t + 1) (x := a) (e := a) (o := exo a C none) (by rw [ha]; exact True.intro) (.inl rfl) (fun b u hb e => k3 b u hb (k2 b u e)) ⟨_, hx3⟩ (exo_ok hx3)
  have eu : upd H a (exo a C none) = H := by
    funext b
    by_cases hb : b = a
    · rw [hb, upd_same, ha]
    · rw [upd_ne hb]
  rw [eu] at J
  exact ⟨trivial, J⟩
open NdefX in
/-- __init__ keeps its promise -/
theorem fn_ein {CX : CXT} {C f cc cda : Addr} {qual : Str} {st : Stmt} {fd : FuncData} {p0 p1 p2 p3 p4 p5 p6 p7 p8 p9 : Pos} (D : EIn P K C f cc cda qual st fd) (S : NScope ["self", "part", "__class__"] ["self", "part"] ["__class__"] (defScope st))
    (hks : (defScope st).names.lookup ("super" : Str) = some .globalImplicit) (hpar : ((defArgs st).posonlyargs ++ (defArgs st).args).head?.map (·.arg) = some ("self" : Str))
    (hb : defBody st = [.Expr (.Call (.Attribute (.Call (.Name "super" p0) [] [] p1) "__init__" p2) [.Name "part" p3] [] p4) p5, .Assign [.Attribute (.Name "self" p6) "part" p7] (.Name "part" p8) p9])
    (hev : ∀ L, ∃ pl : Sem Bool, eval (.Call (.Attribute (.Call (.Name "super" p0) [] [] p1) "__init__" p2) [.Name "part" p3] [] p4) (ksEnv qual (defScope st) L f (.ref cda) cc) = (do
      let ov ← attributeBase (.Call (.Name "super" p0) [] [] p1) "__init__" (ksEnv qual (defScope st) L f (.ref cda) cc) (eval (.Call (.Name "super" p0) [] [] p1) (ksEnv qual (defScope st) L f (.ref cda) cc))
      standAt p2.atName
      let (f', first) ← holding [ov] (getMethod ov "__init__" pl)
      callWith p4 f' first (backTo p4 (starEach [.Name "part" p3] (ksEnv qual (defScope st) L f (.ref cda) cc))) []))
    (hsw : ∀ L, swapsWith (.Call (.Attribute (.Call (.Name "super" p0) [] [] p1) "__init__" p2) [.Name "part" p3] [] p4) none p5.line (ksEnv qual (defScope st) L f (.ref cda) cc) = pure false)
    (hsw2 : ∀ L, swapsWith (.Name "part" p8) (some (.Attribute (.Name "self" p6) "part" p7)) p9.line (ksEnv qual (defScope st) L f (.ref cda) cc) = pure false) :
    FnOk P w K mg base CX 1 f fd ["self", "part"] (spEIn C) := by
  refine ⟨fun vs H Q E h => ?_, fun A outer s H args us vs Q E hr e0 hbd r hsp => ?_⟩
  · obtain ⟨a, z, rfl, _⟩ := h
    rfl
  obtain ⟨a, z, rfl, ha, kQ⟩ := hsp
  obtain ⟨oc, doc, pm, ct, od, an, osl, rfl, lk⟩ := id D.lk
  have KX : K.In s.heap := e0.mod.kin.keeps fun b o e => (e0.bs b o e).1
  have lim : s.heap.NoLimit := e0.mod.nolimit.keeps fun b o e => (e0.bs b o e).1
  have hl : ([V.ref a, V.str z] : List V).length = (["self", "part"] : List Str).length := rfl
  have only : ∀ {y : Str} {c : Addr}, ([(("__class__" : Str), cc)] : List (Str × Addr)).lookup y = some c → y = "__class__" ∧ c = cc := fun {y c} h => by
    have h2 := PySem.mem_of_lookup h
    have h3 := List.mem_singleton.mp h2
    cases h3
    exact ⟨rfl, rfl⟩
  have look1 : ([(("__class__" : Str), cc)] : List (Str × Addr)).lookup ("__class__" : Str) = some cc := rfl
  obtain ⟨cl, cld, csl, hcell⟩ := id D.cell
  have hcc : base.get? cc = some _ := e0.mod.kin _ _ hcell
  have C0 : CellsAt [("__class__", cc)] ["__class__"] [none] s.heap H := ⟨rfl, fun y c h => by
      obtain ⟨_, rfl⟩ := only h
      exact ⟨(e0.bs _ _ hcc).2, _, _, (e0.bs _ _ hcc).1, rfl⟩, fun x y c h1 h2 => (only h1).1.trans (only h2).1.symm, fun i y hi => by
      match i, hi with
      | 0, hi =>
        cases hi
        exact ⟨cc, look1, fun v hv => by cases hv⟩
      | i + 1, hi => simp at hi⟩
  refine ks_codeAny_call_defAt (body := defBody st) (binds := (["self", "part"] : List Str).zip us) hr.depth (KX _ _ lk) rfl lim (PySem.W.codeRec_of KX D.hcd) rfl hbd S.nocell (fun ⟨n, _⟩ hy => S.par n (List.of_mem_zip hy).1) (fun h₁ hns hk => ?_) S.co S.gen S.kind
  have I : Inv (ncx CX P w K mg base ["self", "part", "__class__"] ⟨"__init__", qual, defArgs st, defBody st, defScope st, [("__class__", cc)], cda⟩ f A outer s H E) [] [some (.ref a), some (.str z), none] H { s with heap := h₁, toks := s.toks + ((["self", "part"] : List Str).zip us).length } :=
    inv_startN (ws := [none]) S hr.hd e0 hl r C0 hns hk
  obtain ⟨pl, hev'⟩ := hev s.heap.objs.size
  rw [hb]
  refine ks_wpAt_execs_cons (PySem.wpAt_mono (super_init (X := ncx CX P w K mg base ["self", "part", "__class__"] ⟨"__init__", qual, defArgs st, defBody st, defScope st, [("__class__", cc)], cda⟩ f A outer s H E) (L := s.heap.objs.size) D I rfl ha hks (S.frk _ (List.mem_singleton.mpr rfl)) (S.par _ (by simp)) (S.par _ (by simp)) (by decide) rfl rfl rfl rfl S.kind hev' (hsw _) hpar)
    (fun fl s' hq => ?_) fun e s' hq => hq)
  obtain ⟨rfl, J⟩ := hq
  refine wpAt_of_wpAny ?_
  have ps := pss_one (ps_ost (X := ncx CX P w K mg base ["self", "part", "__class__"] ⟨"__init__", qual, defArgs st, defBody st, defScope st, [("__class__", cc)], cda⟩ f A outer s H E) (f := "part") (p' := p7) (pos := p9)
    (pe_var (i := 0) (pos := p6) rfl (.inl (S.par _ (by simp))) rfl rfl) (pe_var (i := 1) (x := "part") (pos := p8) rfl (.inl (S.par _ (by simp))) rfl rfl) (hsw2 _))
  refine wpAny_mono (ps.run [] _ _ H { nx := fun _ H' => Q .non H', rt := Q } J ?_) (fun fl s' hs => ?_) fun e s' hs => hs
  · exact ⟨_, rfl, _, rfl, a, C, rfl, D.ox, D.np, .inl ⟨ha, fun dx h1 h2 => kQ dx h1 h2⟩⟩
  · have fin : ∀ {σ' : L2.St} {H' : Hp} {v : V} {u : Value}, Inv (ncx CX P w K mg base ["self", "part", "__class__"] ⟨"__init__", qual, defArgs st, defBody st, defScope st, [("__class__", cc)], cda⟩ f A outer s H E) [] σ' H' s' → RelV v u → Q v H' → CE outer P w H s Q u s' :=
      fun {σ' H' v u} J rv q => ⟨v, H', J.os, J.bare, J.base, J.hok, rv, q⟩
    cases fl with
    | ret u =>
      obtain ⟨v, σ', H', J, rv, q⟩ := hs
      exact fin J rv q
    | next =>
      obtain ⟨σ', H', J, q⟩ := hs
      exact fin (v := V.non) (u := Value.none) J rfl q
    | brk =>
      obtain ⟨_, _, _, q⟩ := hs
      exact False.elim q
    | cont =>
      obtain ⟨_, _, _, q⟩ := hs
      exact False.elim q
theorem ok_ein_num {CX : CXT} {C f cc cda : Addr} {fd : FuncData} (D : EIn P K C f cc cda "BadNumber.__init__" sNumber fd) : FnOk P w K mg base CX 1 f fd ["self", "part"] (spEIn C) :=
  fn_ein D (NdefX.nscope_by (by decide +kernel)) rfl rfl rfl (fun _ => ⟨_, rfl⟩) (fun _ => rfl) (fun _ => rfl)
theorem ok_ein_book {CX : CXT} {C f cc cda : Addr} {fd : FuncData} (D : EIn P K C f cc cda "BadBook.__init__" sBook0 fd) : FnOk P w K mg base CX 1 f fd ["self", "part"] (spEIn C) :=
  fn_ein D (NdefX.nscope_by (by decide +kernel)) rfl rfl rfl (fun _ => ⟨_, rfl⟩) (fun _ => rfl) (fun _ => rfl)
end
end K11
end
section
set_option maxRecDepth 100000
set_option maxHeartbeats 4000000
/-! is_integer, is_within, need_number, is_word, are_words, Book, need_book. -/
namespace K11
open PySem PyProof.Rows L2 Evl
/-! ### what may be handed in for a number -/
inductive NumV (H : Hp) : V → Prop where
  | int (i : Int) : NumV H (.int i)
  | non : NumV H .non
  | bl (b : Bool) : NumV H (.bl b)
  | str (z : Str) : NumV H (.str z)
  | lst {a : Addr} {xs : List V} (e : H a = some (.lst xs)) : NumV H (.ref a)
theorem NumV.ex {H H' : Hp} {v : V} (e : Ex H H') (h : NumV H v) : NumV H' v := by
  cases h with
  | int i => exact .int i
  | non => exact .non
  | bl b => exact .bl b
  | str z => exact .str z
  | lst q => exact .lst (e _ _ q)
def isIntV : V → Bool
  | .int _ => true
  | _ => false
def okNum (lo hi : Int) : V → Bool
  | .int i => decide (lo ≤ i) && decide (i ≤ hi)
  | _ => false
theorem NumV.kit {K : PySem.W.Frag} {H : Hp} {v : V} (h : NumV H v) : ∃ t bi bb, TyX K H v (.type t) ∧ kitB t "int" = some bi ∧ kitB t "bool" = some bb ∧ isIntV v = (bi && !bb) := by
  cases h with
  | int i => exact ⟨"int", true, false, .base (.int i), by decide +kernel, by decide +kernel, rfl⟩
  | non => exact ⟨"NoneType", false, false, .base .non, by decide +kernel, by decide +kernel, rfl⟩
  | bl b => exact ⟨"bool", true, true, .base (.bl b), by decide +kernel, by decide +kernel, rfl⟩
  | str z => exact ⟨"str", false, false, .base (.str z), by decide +kernel, by decide +kernel, rfl⟩
  | lst q => exact ⟨"list", false, false, .base (.lst q), by decide +kernel, by decide +kernel, rfl⟩
def spIsInt : Sp := fun vs H Q _ => ∃ v, vs = [v] ∧ NumV H v ∧ Q (.bl (isIntV v)) H
def spWithin : Sp := fun vs H Q _ => ∃ v lo hi, vs = [v, .int lo, .int hi] ∧ NumV H v ∧ Q (.bl (okNum lo hi v)) H
/-- it passes, or the class at C is raised with what its dict says -/
def Raised (C : Addr) (z : Str) (H : Hp) (E : XK) : Prop := ∀ d H', H d = none → Ex H H' → H' d = some (.xd [("part", .str z)]) → E (.ref C) (some d) H'
def spNeedN (C : Addr) : Sp := fun vs H Q E => ∃ v z lo hi, vs = [v, .str z, .int lo, .int hi] ∧ NumV H v ∧ (okNum lo hi v = true → Q .non H) ∧ (okNum lo hi v = false → Raised C z H E)
/-- what a raise of an own class needs -/
structure Rse (P : Program) (K : PySem.W.Frag) (mg : Str → Option Value) (x : Str) (qual : Str) (st : Stmt) (C f cc cda : Addr) (fd : FuncData) : Prop where
  D : EIn P K C f cc cda qual st fd
  iC : PySem.W.findIn K (.ref C) "__init__" = some (some (.ref f))
  tI : PySem.W.typeIn K (.ref f) = some (.type "function")
  b : Binds K fd ["self", "part"] []
  m : mg x = some (.ref C)
/-- the heap behind C(part) -/
theorem made_heap {C : Addr} {z : Str} {H : Hp} {E : XK} (h : Raised C z H E) {a dx : Addr} (ha : H a = none) (hdx : H dx = none) (hne : dx ≠ a) :
    E (.ref C) (some dx) (upd (del (upd (upd (upd H a (exo a C none)) dx (exd dx [("part", .str z)])) a (exo a C (some dx))) a) dx (.xd [("part", .str z)])) := by
  refine h dx _ hdx (fun b o e => ?_) upd_same
  have h1 : b ≠ dx := ne_of_none e hdx
  have h2 : b ≠ a := ne_of_none e ha
  rw [upd_ne h1, del_ne h2, upd_ne h2, upd_ne h1, upd_ne h2]
  exact e
section
variable {P : Program} {w : World} {K : PySem.W.Frag} {mg : Str → Option Value} {base : Heap}
theorem ok_isint {f : Addr} {fd : FuncData} (d : Df K mg "is_integer" sIsInt f fd ["value"]) (B : Bi mg) : FnOk P w K mg base CX0 1 f fd ["value"] spIsInt := by
  refine d.F.ok scIsInt (fun vs H Q E h => ?_) (fun cdv A outer s H vs Q E hr h => ?_)
  · obtain ⟨v, rfl, _⟩ := h
    rfl
  · obtain ⟨v, rfl, hv, k⟩ := h
    obtain ⟨t, bi, bb, ty, k1, k2, e⟩ := hv.kit (K := K)
    refine ⟨_, pss_one (ps_ret (pe_and (pe_callB call_isi (by rfl) B.isinstance (by decide +kernel) (pa_cons (pv 0) (pa_cons (pe_bltn (v := .ty "int") rfl B.int (by decide +kernel) rfl) pa_nil)))
      (pe_one (pe_not (pe_callB call_isi (by rfl) B.isinstance (by decide +kernel) (pa_cons (pv 0) (pa_cons (pe_bltn (v := .ty "bool") rfl B.bool (by decide +kernel) rfl) pa_nil))))))), ?_⟩
    refine ⟨_, rfl, v, .ty "int", .type t, .type "int", bi, rfl, .ty _, ty, kit_ty k1, bi, rfl, ?_⟩
    rw [e] at k
    cases bi with
    | false =>
      refine iteF ?_
      exact k
    | true =>
      refine iteT ?_
      exact ⟨_, rfl, v, .ty "bool", .type t, .type "bool", bb, rfl, .ty _, ty, kit_ty k2, bb, rfl, k⟩
theorem ok_within {f f1 : Addr} {fd fd1 : FuncData} (d : Df K mg "is_within" sWithin f fd ["value", "least", "most"]) (d1 : Df K mg "is_integer" sIsInt f1 fd1 ["value"]) (B : Bi mg) : FnOk P w K mg base CX0 2 f fd ["value", "least", "most"] spWithin := by
  have G : FnOk P w K mg base CX0 1 f1 fd1 ["value"] spIsInt := ok_isint d1 B
  refine d.F.ok scWithin (fun vs H Q E h => ?_) (fun cdv A outer s H vs Q E hr h => ?_)
  · obtain ⟨v, lo, hi, rfl, _⟩ := h
    rfl
  · obtain ⟨v, lo, hi, rfl, hv, k⟩ := h
    refine ⟨_, pss_cons (ps_if (pt_not (pt_val (pe_call G hr rfl d1.m d1.F.kp d1.b .nil pass0 (pa_cons (pv 0) pa_nil)))) (pss_one (ps_ret pe_bl)) pss_nil)
      (pss_one (ps_ret (pe_and (pe_or (pe_cmp (pc_isN (pv 1))) (pe_one (pe_cmpR op_ge (pv 0) (pv 1) (nomark _)))) (pe_one (pe_or (pe_cmp (pc_isN (pv 2))) (pe_one (pe_cmpR op_le (pv 0) (pv 2) (nomark _)))))))), ?_⟩
    refine ⟨_, rfl, v, rfl, hv, _, rfl, ?_⟩
    cases hi' : isIntV v with
    | false =>
      refine iteT ?_
      have : okNum lo hi v = false := by
        cases v <;> first | rfl | cases hi'
      rw [this] at k
      exact k
    | true =>
      refine iteF ?_
      obtain ⟨i, rfl⟩ : ∃ i, v = .int i := by
        cases v <;> first | exact ⟨_, rfl⟩ | cases hi'
      refine ⟨_, rfl, _, rfl, iteF ⟨_, rfl, _, rfl, _, _, rfl, rfl, _, rfl, ?_⟩⟩
      have k : Q (.bl (decide (lo ≤ i) && decide (i ≤ hi))) H := k
      cases h1 : decide (lo ≤ i) with
      | false =>
        rw [h1] at k
        exact iteF k
      | true =>
        rw [h1] at k
        refine iteT ⟨_, rfl, _, rfl, iteF ⟨_, rfl, _, rfl, _, _, rfl, rfl, k⟩⟩
theorem ok_needn {f f1 f2 C fI cc cda : Addr} {fd fd1 fd2 fdI : FuncData} (d : Df K mg "need_number" sNeedN f fd ["value", "part", "least", "most"]) (d1 : Df K mg "is_integer" sIsInt f1 fd1 ["value"]) (d2 : Df K mg "is_within" sWithin f2 fd2 ["value", "least", "most"]) (B : Bi mg)
    (R : Rse P K mg "BadNumber" "BadNumber.__init__" sNumber C fI cc cda fdI) : FnOk P w K mg base (L2.CX P w) 3 f fd ["value", "part", "least", "most"] (spNeedN C) := by
  have G : FnOk P w K mg base CX0 2 f2 fd2 ["value", "least", "most"] spWithin := ok_within d2 d1 B
  have GI : FnOk P w K mg base CX0 1 fI fdI ["self", "part"] (spEIn C) := ok_ein_num R.D
  refine d.F.okX scNeedN (fun vs H Q E h => ?_) (fun cdv A outer s H vs Q E hr h => ?_)
  · obtain ⟨v, z, lo, hi, rfl, _⟩ := h
    rfl
  · obtain ⟨v, z, lo, hi, rfl, hv, k1, k2⟩ := h
    refine ⟨_, pss_one (ps_if (pt_not (pt_val (pe_call G hr rfl d2.m d2.F.kp d2.b .nil pass0 (pa_cons (pv 0) (pa_cons (pv 2) (pa_cons (pv 3) pa_nil))))))
      (pss_one (ps_raise rfl (takes_of rfl rfl rfl rfl) (pmk_oex R.D.ox R.iC R.tI GI hr R.b .nil pass0 rfl R.m (pa_cons (pv 1) pa_nil)))) pss_nil), ?_⟩
    refine ⟨_, rfl, _, rfl, _, rfl, v, lo, hi, rfl, hv, _, rfl, ?_⟩
    cases ho : okNum lo hi v with
    | true =>
      refine iteF ?_
      exact k1 ho
    | false =>
      refine iteT ?_
      refine ⟨_, rfl, by show 1 ≤ 1000; decide, fun a ha => ⟨a, z, rfl, upd_same, fun dx hdx hne => ?_⟩⟩
      have h1 : H dx = none := by rw [upd_ne hne] at hdx; exact hdx
      refine ⟨rfl, dx, _, upd_same, ?_, h1, made_heap (k2 ho) ha h1 hne⟩
      rw [upd_ne hne]
      exact upd_same
end
end K11
end
section
set_option maxRecDepth 100000
set_option maxHeartbeats 4000000
/-! is_word, are_words, Book, need_book. -/
namespace K11
open PySem PyProof.Rows L2 Evl
/-- a word: one to twelve small letters -/
structure WordOk (x : List Nat) : Prop where
  lo : 1 ≤ x.length
  hi : x.length ≤ 12
  ab : ∀ c ∈ x, 97 ≤ c ∧ c < 123
theorem in_letters {c : Nat} (h : 97 ≤ c ∧ c < 123) : decide (c ∈ ("abcdefghijklmnopqrstuvwxyz" : Str).cps.toList) = true := by
  have all : ∀ k, k < 26 → decide ((97 + k) ∈ ("abcdefghijklmnopqrstuvwxyz" : Str).cps.toList) = true := by decide +kernel
  have := all (c - 97) (by omega)
  rw [show 97 + (c - 97) = c by omega] at this
  exact this
def spIsWord : Sp := fun vs H Q _ => ∃ x, vs = [.str (tx x)] ∧ WordOk x ∧ RetV (.bl true) H Q
abbrev wstr (ws : List (List Nat)) : List V := ws.map fun x => V.str (tx x)
def spAreW (K : PySem.W.Frag) : Sp := fun vs H Q _ => ∃ (a : Addr) (ws : List (List Nat)) (m : Int), vs = [.ref a, .int m] ∧ H a = some (.lst (wstr ws)) ∧ (∀ x ∈ ws, WordOk x) ∧ ws.Nodup ∧ 1 ≤ ws.length ∧ ws.length ≤ 10 ∧ (ws.length : Int) ≤ m ∧ RetV (.bl true) H Q
/-- a book of these words stands at p -/
def BookAt (K : PySem.W.Frag) (C : Addr) (H : Hp) (p : Addr) (ws : List (List Nat)) : Prop := ∃ dx t, H p = some (.ins C dx [("words", .ref t)]) ∧ SqT K H t (wstr ws)
theorem BookAt.ex {K : PySem.W.Frag} {C p : Addr} {H H' : Hp} {ws : List (List Nat)} (e : Ex H H') (h : BookAt K C H p ws) : BookAt K C H' p ws := let ⟨dx, t, a, b⟩ := h; ⟨dx, t, e _ _ a, ex_t e b⟩
def spBInit (K : PySem.W.Frag) (C : Addr) : Sp := fun vs H Q _ => ∃ (p dx a : Addr) (ws : List (List Nat)), vs = [.ref p, .ref a] ∧ H p = some (.ins C dx []) ∧ H a = some (.lst (wstr ws)) ∧ (∀ x ∈ ws, WordOk x) ∧ ws.Nodup ∧ 1 ≤ ws.length ∧ ws.length ≤ 10 ∧
  ∀ H', (∀ b o, H b = some o → b ≠ p → H' b = some o) → BookAt K C H' p ws → Q .non H'
section
variable {σ : L2.St} {H H' : Hp} {te : TE} {t : TT} {K : PySem.W.Frag}
/-- a comprehension over a text -/
theorem el_lcS {T : List Nat} {j : Nat} {vs : List Nat} {tl : TE} (v : Nat → V) (h : Ev tl σ H (.str (tx T))) (hz : T.length ≤ 40000) (hw : ∀ x, wipe ((wipe σ vs).set j (some x)) vs = wipe σ vs)
    (he : ∀ (i : Nat) (c : Nat) H1, Ex H H1 → T[i]? = some c → Ev te ((wipe σ vs).set j (some (.str (chr1 c)))) H1 (v i)) :
    EvL (tLc (iStr tl) (gName j) tYes te vs) σ H (given T.length (fun _ => true) v) := fun H0 e Q q => h H0 e _ fun H1 e1 => ⟨tx T, rfl, fun Dl hD =>
  lc_it (walk_str (z := tx T)) (Cw H1 (fun _ => true) v Dl) ⟨hD, Ex.new hD, upd_same⟩ (fun i H' _ p => trivial)
    (fun i x H2 H3 hi p y => by
      obtain ⟨rfl, c, hc, rfl⟩ := y
      have hc' : T[i]? = some c := by
        have : (tx T).cps[i]? = T[i]? := by simp [tx]
        rw [← this]; exact hc
      exact ⟨hw _, cw_turn p (by have := (List.getElem?_eq_some_iff.mp hc').1; omega) (fun H4 _ Q q => q H4 (Ex.refl _)) fun _ => he i c H1 (e.trans e1) hc'⟩)
    (fun H' p => q Dl H' (fresh_back e1 p.1) (e1.trans p.2.1) (by
      have : (tx T).cps.size = T.length := tx_len T
      rw [← this]; exact p.2.2))⟩
theorem ev_all {n : Nat} (h : EvL te σ H ((List.range n).map fun _ => V.bl true)) : Ev (tCB (rAll K) (tCons te tNil)) σ H (.bl true) := fun H1 e Q q =>
  h H1 e _ fun p H2 hp e2 hx => by
    refine ⟨p, (List.range n).map fun _ => true, rfl, SqL.of (by rw [hx, List.map_map]; rfl), ?_⟩
    have : ((List.range n).map fun _ => true).all id = true := by simp
    rw [this]
    exact q H2 e2
end
section
variable {P : Program} {w : World} {K : PySem.W.Frag} {mg : Str → Option Value} {base : Heap}
theorem ok_isword {f : Addr} {fd : FuncData} (d : Df K mg "is_word" sIsWord f fd ["value"]) (B : Bi mg) : FnOk P w K mg base CX0 1 f fd ["value"] spIsWord := by
  refine d.F.ok scIsWord (fun vs H Q E h => ?_) (fun cdv A outer s H vs Q E hr h => ?_)
  · obtain ⟨x, rfl, _⟩ := h
    rfl
  · obtain ⟨x, rfl, hx, k⟩ := h
    obtain ⟨tl, hl⟩ := B.letters
    obtain ⟨tm, hm⟩ := B.mostL
    refine ⟨_, pss_one (ps_ret (pe_and (pe_callB call_isi (by rfl) B.isinstance (by decide +kernel) (pa_cons (pv 0) (pa_cons (pe_bltn (v := .ty "str") rfl B.str (by decide +kernel) rfl) pa_nil)))
      (pe_and (pe_chain op_le op_le pe_int (pe_callB call_len_str (by rfl) B.len PySem.boot_len (pa_cons (pv 0) pa_nil)) (pe_glob (v := .int 12) rfl hm ⟨_, rfl⟩))
      (pe_one (pe_callB (cr_all rfl) (by rfl) B.all (by decide +kernel) (pa_cons (pe_lc (own := [("sign", 1)]) (g := gName 1) (tt := tYes) rfl scIsWord.nd (pi_str (pv 0)) (blkOk_by (N := ["value", "sign"]) (sc := defScope sIsWord) (by decide +kernel))
        (fun _ _ _ _ _ => pg_name (i := 1) scIsWord.nd rfl (.inl rfl)) (fun _ _ _ _ _ => pts_nil) (fun _ _ _ _ _ => pe_cmpR op_in_sign (pv 1) (pe_glob (v := .str "abcdefghijklmnopqrstuvwxyz") rfl hl ⟨_, rfl⟩) rfl)) pa_nil)))))), ?_⟩
    refine ⟨_, rfl, _, .ty "str", .type "str", .type "str", true, rfl, .ty _, .base (.str _), kit_ty (by decide +kernel), true, rfl, iteT ?_⟩
    refine ⟨_, rfl, _, rfl, by rw [tx_len]; unfold sizeLine; have := hx.hi; omega, 1, _, rfl, rfl, _, rfl, ?_⟩
    rw [tx_len, decide_eq_true (show (1 : Int) ≤ (x.length : Int) by have := hx.lo; omega)]
    refine iteT ⟨_, _, rfl, rfl, _, rfl, ?_⟩
    rw [decide_eq_true (show (x.length : Int) ≤ 12 by have := hx.hi; omega)]
    refine iteT ?_
    refine ev_all (n := x.length) (K := K) (by
      have := el_lcS (σ := [some (.str (tx x)), none]) (H := H) (T := x) (j := 1) (vs := [1]) (tl := tVar 0) (te := tOp (fun x y H Q => ∃ (c : Nat) (z : Str), x = .str ⟨#[c]⟩ ∧ y = .str z ∧ Q (.bl (decide (c ∈ z.cps.toList))) H) (tVar 1) (tC (.str "abcdefghijklmnopqrstuvwxyz")))
        (fun _ => .bl true) (ev_var rfl) (by have := hx.hi; omega) (fun _ => rfl) (fun i c H1 _ hc => ev_op (ev_var rfl) ev_c fun H2 _ Q q => ⟨c, _, rfl, rfl, by rw [in_letters (hx.ab c (List.mem_of_getElem? hc))]; exact q H2 (Ex.refl _)⟩)
      rw [given_map] at this
      exact this) H (Ex.refl _) _ fun H2 e2 => k H2 e2
theorem wstr_at {ws : List (List Nat)} {i : Nat} {v : V} (h : (wstr ws)[i]? = some v) : ∃ x, x ∈ ws ∧ v = .str (tx x) := by
  rw [List.getElem?_map] at h
  cases hx : ws[i]? with
  | none => rw [hx] at h; cases h
  | some x => rw [hx] at h; cases h; exact ⟨x, List.mem_of_getElem? hx, rfl⟩
theorem nodup_tx {ws : List (List Nat)} (h : ws.Nodup) : (ws.map tx).Nodup := by
  refine List.pairwise_map.mpr (h.imp fun hne e => hne (tx_inj.mp e))
theorem ok_arew {f f1 : Addr} {fd fd1 : FuncData} (d : Df K mg "are_words" sAreW f fd ["value", "most"]) (d1 : Df K mg "is_word" sIsWord f1 fd1 ["value"]) (B : Bi mg) : FnOk P w K mg base CX0 2 f fd ["value", "most"] (spAreW K) := by
  have G : FnOk P w K mg base CX0 1 f1 fd1 ["value"] spIsWord := ok_isword d1 B
  refine d.F.ok scAreW (fun vs H Q E h => ?_) (fun cdv A outer s H vs Q E hr h => ?_)
  · obtain ⟨a, ws, m, rfl, _⟩ := h
    rfl
  · obtain ⟨a, ws, m, rfl, ha, hw, hn, h1, h2, h3, k⟩ := h
    refine ⟨_, pss_cons (ps_if (pw_or (pt_not (pt_val (pe_callB call_isiT (by rfl) B.isinstance (by decide +kernel) (pa_cons (pv 0) (pa_cons (pe_tup (pa_cons (pe_bltn (v := .ty "list") (by rfl) B.list (by decide +kernel) rfl) (pa_cons (pe_bltn (v := .ty "tuple") (by rfl) B.tuple (by decide +kernel) rfl) pa_nil))) pa_nil)))))
        (pw_or1 (pt_not (pt_chain op_le op_le pe_int (pe_callB call_len_seq (by rfl) B.len PySem.boot_len (pa_cons (pv 0) pa_nil)) (pv 1))))).pt (pss_one (ps_ret pe_bl)) pss_nil)
      (pss_one (ps_ret (pe_and (pe_callB (cr_all rfl) (by rfl) B.all (by decide +kernel) (pa_cons (pe_lc (own := [("each", 2)]) (g := gName 2) (tt := tYes) rfl scAreW.nd (pi_list (pv 0)) (blkOk_by (N := ["value", "most", "each"]) (sc := defScope sAreW) (by decide +kernel))
          (fun _ _ _ _ _ => pg_name (i := 2) scAreW.nd rfl (.inl rfl)) (fun _ _ _ _ _ => pts_nil) (fun _ _ _ _ _ => pe_call G hr rfl d1.m d1.F.kp d1.b .nil pass0 (pa_cons (pv 2) pa_nil))) pa_nil))
        (pe_one (pe_cmpR op_eq (pe_lenSetS rfl (by rfl) B.len (by rfl) B.set (pv 0)) (pe_callB call_len_seq (by rfl) B.len PySem.boot_len (pa_cons (pv 0) pa_nil)) (nomark _)))))), ?_⟩
    -- not isinstance(value, (list, tuple)) or not 1 <= len(value) <= most
    refine ⟨_, rfl, by show 2 ≤ sizeLine; decide, fun T hT => ?_⟩
    have e1 : Ex H (upd H T (.tup [.ty "list", .ty "tuple"])) := Ex.new hT
    have ha1 := e1 _ _ ha
    refine ⟨.ref a, T, [.ty "list", .ty "tuple"], .type "list", [.type "list", .type "tuple"], true, rfl, upd_same, .cons (.ty _) (.cons (.ty _) .nil), .base (.lst ha1), kitAny_cons (b := true) (kit_ty (by decide +kernel)) (fun z => by cases z) (fun _ => rfl), true, rfl, ?_⟩
    refine iteF ?_
    refine ⟨_, rfl, a, _, rfl, .inl (SqL.of ha1), 1, _, rfl, rfl, _, rfl, ?_⟩
    have hlen : (wstr ws).length = ws.length := by simp
    rw [hlen, decide_eq_true (show (1 : Int) ≤ (ws.length : Int) by omega)]
    refine iteT ⟨_, rfl, _, m, rfl, rfl, _, rfl, ?_⟩
    rw [decide_eq_true h3]
    refine iteF ?_
    -- all([is_word(each) for each in value])
    have hc := el_lcL (K := K) (σ := [some (.ref a), some (.int m), none]) (H := upd H T (.tup [.ty "list", .ty "tuple"])) (a := a) (xs := wstr ws) (tl := tVar 0) (j := 2) (vs := [2]) (t := tYes) (te := tCall spIsWord [] E0 (tCons (tVar 2) tNil))
      (fun _ => true) (fun _ => .bl true) (ev_var rfl) (SqL.of ha1) (by omega) (fun _ => rfl) (fun i v H2 _ _ H3 _ Q q => q H3 (Ex.refl _)) (fun i v H2 _ hv _ => by
        obtain ⟨x, hx, rfl⟩ := wstr_at hv
        exact ev_call (ea_cons (ev_var rfl) ea_nil) fun H3 _ Q q E => ⟨x, rfl, hw x hx, q⟩)
    rw [given_map] at hc
    refine ev_all (K := K) hc _ (Ex.refl _) _ fun H2 e2 => ⟨true, rfl, iteT ?_⟩
    have ha2 := e2 _ _ ha1
    refine ⟨_, rfl, a, ws.map tx, rfl, SqL.of (by rw [ha2, List.map_map]; rfl), nodup_tx hn, by rw [List.length_map]; omega, _, rfl, a, _, rfl, .inl (SqL.of ha2), rfl, ?_⟩
    rw [List.length_map, hlen, decide_eq_true rfl]
    exact k _ (e1.trans e2)
theorem ok_binit {f f1 f2 C : Addr} {fd fd1 fd2 : FuncData} (F : Fun K "__init__" "Book.__init__" sBInit f fd) (cl : Cls K C) (nW : NoAttr K C "words") (d1 : Df K mg "is_word" sIsWord f1 fd1 ["value"]) (d2 : Df K mg "are_words" sAreW f2 fd2 ["value", "most"]) (B : Bi mg) :
    FnOk P w K mg base CX0 3 f fd ["self", "words"] (spBInit K C) := by
  have G : FnOk P w K mg base CX0 2 f2 fd2 ["value", "most"] (spAreW K) := ok_arew d2 d1 B
  refine F.ok scBInit (fun vs H Q E h => ?_) (fun cdv A outer s H vs Q E hr h => ?_)
  · obtain ⟨p, dx, a, ws, rfl, _⟩ := h
    rfl
  · obtain ⟨p, dx, a, ws, rfl, hp, ha, hw, hn, h1, h2, k⟩ := h
    obtain ⟨tm, hm⟩ := B.mostW
    refine ⟨_, pss_cons (ps_if (pt_not (pt_val (pe_call G hr rfl d2.m d2.F.kp d2.b .nil pass0 (pa_cons (pv 1) (pa_cons (pe_glob (v := .int 40) rfl hm ⟨_, rfl⟩) pa_nil))))) pss_never pss_nil)
      (pss_one (ps_fld (pv 0) (pe_callTy call_tuple_of (by rfl) B.tuple (by decide +kernel) (pa_cons (pv 1) pa_nil)) rfl)), ?_⟩
    refine ⟨_, rfl, a, ws, 40, rfl, ha, hw, hn, h1, h2, by omega, fun H1 e1 => ⟨true, rfl, iteF ?_⟩⟩
    refine ⟨_, rfl, a, _, rfl, .inl ⟨SqL.of (e1 _ _ ha), fun t ht => ?_⟩⟩
    have hpt : p ≠ t := ne_of_none (e1 _ _ hp) ht
    refine ⟨_, rfl, p, C, dx, _, rfl, (by rw [upd_ne hpt]; exact e1 _ _ hp), cl, nW, (by show 0 < 1000; decide), ?_⟩
    refine k _ (fun b o e hb => ?_) ⟨dx, t, upd_same, SqT.of ?_⟩
    · rw [upd_ne hb, upd_ne (ne_of_none (e1 _ _ e) ht)]
      exact e1 _ _ e
    · rw [upd_ne hpt.symm]
      exact upd_same
end
end K11
end
section
set_option maxRecDepth 100000
set_option maxHeartbeats 4000000
/-! need_book, cheapest. -/
namespace K11
open PySem PyProof.Rows L2 Evl
/-- the class Book as the top has left it -/
structure BkT (K : PySem.W.Frag) (mg : Str → Option Value) (C : Addr) : Prop where
  m : mg "Book" = some (.ref C)
  cl : Cls K C
  nW : NoAttr K C "words"
  ha : PySem.W.findIn K (.ref C) "__class__" = some (some (.builtin "object.__class__"))
  hn : PySem.W.specialIn K (.builtin "object.__class__") "__get__" = some (some (.builtin "getset_descriptor.__get__"))
  htk : PySem.W.takesIn K (.builtin "object.__class__") = some true
  hm : PySem.W.mroIn K C (.type "object") = some true
  k1 : PySem.W.kitOne K (.ref C) (.ref C) = some true
  kN : PySem.W.kitOne K (.type "NoneType") (.ref C) = some false
  kL : PySem.W.kitOne K (.type "list") (.ref C) = some false
  kS : PySem.W.kitOne K (.type "str") (.ref C) = some false
  kI : PySem.W.kitOne K (.type "int") (.ref C) = some false
/-- no book: None, a list, a text, a number -/
inductive NoBook (H : Hp) : V → Prop where
  | non : NoBook H .non
  | lst {a : Addr} {xs : List V} (e : H a = some (.lst xs)) : NoBook H (.ref a)
  | str (z : Str) : NoBook H (.str z)
  | int (i : Int) : NoBook H (.int i)
def spNeedB (K : PySem.W.Frag) (CB C : Addr) : Sp := fun vs H Q E => ∃ v z, vs = [v, .str z] ∧ ((∃ p ws, v = .ref p ∧ BookAt K CB H p ws ∧ Q .non H) ∨ (NoBook H v ∧ Raised C z H E))
section
variable {P : Program} {w : World} {K : PySem.W.Frag} {mg : Str → Option Value} {base : Heap}
theorem ok_needb {f CB C fI cc cda : Addr} {fd fdI : FuncData} {dvs : List V} {kws : List (Str × V)} (F : FunD K "need_book" "need_book" (defArgs sNeedB) (defBody sNeedB) (defScope sNeedB) dvs kws f fd) (T : BkT K mg CB) (B : Bi mg) (R : Rse P K mg "BadBook" "BadBook.__init__" sBook0 C fI cc cda fdI) :
    FnOk P w K mg base (L2.CX P w) 3 f fd ["value", "part"] (spNeedB K CB C) := by
  have GI : FnOk P w K mg base CX0 1 fI fdI ["self", "part"] (spEIn C) := ok_ein_book R.D
  refine F.ok scNeedB (fun vs H Q E h => ?_) (fun cdv A outer s H vs Q E hr h => ?_)
  · obtain ⟨v, z, rfl, _⟩ := h
    rfl
  · obtain ⟨v, z, rfl, h⟩ := h
    refine ⟨_, pss_one (ps_if (pt_not (pt_val (pe_callB call_isi (by rfl) B.isinstance (by decide +kernel) (pa_cons (pv 0) (pa_cons (pe_glob (v := .ref CB) rfl T.m rfl) pa_nil)))))
      (pss_one (ps_raise rfl (takes_of rfl rfl rfl rfl) (pmk_oex R.D.ox R.iC R.tI GI hr R.b .nil pass0 rfl R.m (pa_cons (pv 1) pa_nil)))) pss_nil), ?_⟩
    rcases h with ⟨p, ws, rfl, ⟨dx, t, hp, ht⟩, k⟩ | ⟨hn, k⟩
    · exact ⟨_, rfl, _, .ref CB, .ref CB, .ref CB, true, rfl, .own _, .base (.ins hp T.cl T.ha T.hn T.htk T.hm), T.k1, true, rfl, iteF k⟩
    · obtain ⟨ty, hty, hk⟩ : ∃ ty, TyX K H v ty ∧ PySem.W.kitOne K ty (.ref CB) = some false := by
        cases hn with
        | non => exact ⟨_, .base .non, T.kN⟩
        | lst e => exact ⟨_, .base (.lst e), T.kL⟩
        | str z => exact ⟨_, .base (.str z), T.kS⟩
        | int i => exact ⟨_, .base (.int i), T.kI⟩
      refine ⟨_, rfl, v, .ref CB, ty, .ref CB, false, rfl, .own _, hty, hk, false, rfl, iteT ?_⟩
      refine ⟨_, rfl, by show 1 ≤ 1000; decide, fun a ha => ⟨a, z, rfl, upd_same, fun dx hdx hne => ?_⟩⟩
      have h1 : H dx = none := by rw [upd_ne hne] at hdx; exact hdx
      refine ⟨rfl, dx, _, upd_same, ?_, h1, made_heap k ha h1 hne⟩
      rw [upd_ne hne]
      exact upd_same
/-- the class Costs as the top has left it -/
structure CoT (K : PySem.W.Frag) (mg : Str → Option Value) (C f0 fo fv ft : Addr) (fd0 fdo fdv fdt : FuncData) : Prop where
  m : mg "Costs" = some (.ref C)
  T : TxC K C
  mkc : Mk K C f0
  F0 : Fun K "__init__" "Costs.__init__" sCInit f0 fd0
  b0 : Binds K fd0 ["self", "words"] []
  Fo : Fun K "of" "Costs.of" sCOf fo fdo
  bo : Binds K fdo ["self", "mine", "word"] []
  mo : Meth K C "of" fo
  Fv : Fun K "over" "Costs.over" sCOver fv fdv
  bv : Binds K fdv ["self", "first", "second", "word"] []
  mv : Meth K C "over" fv
  Ft : Fun K "triple" "Costs.triple" sCTrip ft fdt
  bt : Binds K fdt ["self", "first", "second", "word"] []
  mt : Meth K C "triple" ft
/-- Costs(words) -/
theorem e_make {σ : L2.St} {H : Hp} {te : TE} {C t : Addr} {ws : List (List Nat)} {Q : VK} (h : Ev te σ H (.ref t)) (ht : SqT K H t (wstr ws))
    (k : ∀ (x : Addr) (a : Ad) (H2 : Hp), a.C = C → H a.da = none → H a.dh = none → H a.db = none → Ex H H2 → (∀ S : Addr → Prop, (∀ D, ¬ S D) → CostsAt K S H2 x a ws 0) → Q (.ref x) H2) : tMake C (spCInit K C) [] E0 (tCons te tNil) σ H Q :=
  h H (Ex.refl H) _ fun H1 e1 => fun x dx hx hdx hne => by
    refine ⟨x, dx, t, ws, rfl, upd_same, ?_, fun a H' hC h1 h2 h3 keep hS => ⟨rfl, ?_⟩⟩
    · exact ex_t (((e1.trans (Ex.new hdx)).trans (Ex.new (o := .ins C dx []) (by rw [upd_ne hne.symm]; exact hx)))) ht
    · have fr : ∀ b, (upd (upd H1 dx (.own x)) x (.ins C dx [])) b = none → H b = none := fun b hb => by
        have q1 : b ≠ x := fun z => by rw [z, upd_same] at hb; cases hb
        rw [upd_ne q1] at hb
        have q2 : b ≠ dx := fun z => by rw [z, upd_same] at hb; cases hb
        rw [upd_ne q2] at hb
        exact fresh_back e1 hb
      refine k x a H' hC (fr _ h1) (fr _ h2) (fr _ h3) (fun b o e => ?_) hS
      have e2 := e1 _ _ e
      have q1 : b ≠ x := ne_of_none e2 hx
      exact keep b o (by rw [upd_ne q1, upd_ne (ne_of_none e2 hdx)]; exact e2) q1
theorem IsT.kp {a : Ad} {H H' : Hp} {v : V} {t : T3} {ka kh kb : List (List Key × V)} (k : Kp a H H') (hT : Tb H a ka kh kb) (h : IsT H v t) : IsT H' v t := by
  obtain ⟨r, e, q⟩ := h
  exact ⟨r, e, k r _ q (ne_of q hT.1 (by intro z; cases z)) (ne_of q hT.2.1 (by intro z; cases z)) (ne_of q hT.2.2 (by intro z; cases z))⟩
theorem Kp.sqL {a : Ad} {H H' : Hp} {t : Addr} {xs : List V} {ka kh kb : List (List Key × V)} (k : Kp a H H') (hT : Tb H a ka kh kb) (h : SqL K H t xs) : SqL K H' t xs := by
  rcases h with (h | ⟨o, h⟩) | h
  · exact .inl (.inl (k t _ h (ne_of h hT.1 (by intro z; cases z)) (ne_of h hT.2.1 (by intro z; cases z)) (ne_of h hT.2.2 (by intro z; cases z))))
  · exact .inl (.inr ⟨o, k t _ h (ne_of h hT.1 (by intro z; cases z)) (ne_of h hT.2.1 (by intro z; cases z)) (ne_of h hT.2.2 (by intro z; cases z))⟩)
  · exact .inr h
theorem Kp.tup {a : Ad} {H H' : Hp} {t : Addr} {xs : List V} {ka kh kb : List (List Key × V)} (k : Kp a H H') (hT : Tb H a ka kh kb) (h : H t = some (.tup xs)) : H' t = some (.tup xs) :=
  k t _ h (ne_of h hT.1 (by intro z; cases z)) (ne_of h hT.2.1 (by intro z; cases z)) (ne_of h hT.2.2 (by intro z; cases z))
/-- costs.triple(t[0], t[1], t[2]) -/
theorem e_trip {σ : L2.St} {H : Hp} {tc tt : TE} {C p : Addr} {S : Addr → Prop} {a : Ad} {ws : List (List Nat)} {m : Nat} {v : V} {t : T3} {Q : VK} (T : TxC K C) (hc : Ev tc σ H (.ref p)) (hv : Ev tt σ H v) (ha : a.C = C) (hC : CostsAt K S H p a ws m) (hw : WsOk ws) (hm : m < 9000) (ht : IsT H v t) (hr : t.1 < ws.length ∧ t.2.1 < ws.length ∧ t.2.2 < ws.length)
    (k : ∀ H2, Kp a H H2 → CostsAt K S H2 p a ws (m + 2) → Q (.int ((costT ws t.1 t.2.1 t.2.2 : Nat) : Int)) H2) :
    tMeth C "triple" (spTrip K C) [] E0 tc (tCons (tOp (rIxT K) tt (tC (.int 0))) (tCons (tOp (rIxT K) tt (tC (.int 1))) (tCons (tOp (rIxT K) tt (tC (.int 2))) tNil))) σ H Q := by
  obtain ⟨r, rfl, hq⟩ := ht
  subst ha
  refine hc H (Ex.refl H) _ fun H1 e1 => ⟨p, a.dx, _, rfl, e1 _ _ hC.ob, look_no a (by decide +kernel) (by decide +kernel) (by decide +kernel) (by decide +kernel), ?_⟩
  have hA : EvA (tCons (tOp (rIxT K) tt (tC (.int 0))) (tCons (tOp (rIxT K) tt (tC (.int 1))) (tCons (tOp (rIxT K) tt (tC (.int 2))) tNil))) σ H [.int (t.1 : Int), .int (t.2.1 : Int), .int (t.2.2 : Int)] :=
    ea_cons (ev_op hv ev_c (rv_ixT (SqT.of hq) (i := 0) rfl)) (ea_cons (ev_op hv ev_c (rv_ixT (SqT.of hq) (i := 1) rfl)) (ea_cons (ev_op hv ev_c (rv_ixT (SqT.of hq) (i := 2) rfl)) ea_nil))
  exact hA H1 e1 _ fun H2 e2 => ⟨p, S, a, ws, m, t.1, t.2.1, t.2.2, rfl, rfl, hC.ex (e1.trans e2), hw, hr.1, hr.2.1, hr.2.2, hm, fun H3 k3 C3 => k H3 (Kp.pre (e1.trans e2) k3) C3⟩
end
end K11
end
section
set_option maxRecDepth 100000
set_option maxHeartbeats 4000000
/-! cheapest, price, made_words. -/
namespace K11
open PySem PyProof.Rows L2 Evl
theorem e_forCall {K : PySem.W.Frag} {σ : L2.St} {H : Hp} {ta : TA} {vs dvs : List V} {sp : Sp} {E : XK} {g : TG} {tb : TS} {D : Ends} (h : EvA ta σ H vs)
    (k : ∀ H1, Ex H H1 → sp (vs ++ dvs) H1 (fun v H2 => ∃ a, v = .ref a ∧ (∃ xs, SqL K H2 a xs) ∧ tFor (fun _ H R => R (Itl K a) H) g tb D σ H2) E) : tFor (iList K (tCall sp dvs E ta)) g tb D σ H := h H (Ex.refl H) _ fun H1 e => k H1 e
theorem q_parMake {C : Addr} {sp : Sp} {σ : L2.St} {H : Hp} {ta : TA} {tb : TE} {i j : Nat} {tz : TS} {D : Ends} (h : tMake C sp [] E0 ta σ H fun v H1 => tb σ H1 fun u H2 => ∃ v' w, [v, u] = [v', w] ∧ tz D ((σ.set i (some v')).set j (some w)) H2) :
    tSeq (tPar i j (tCons (tMake C sp [] E0 ta) (tCons tb tNil))) tz D σ H := h
theorem q_asgMake {C : Addr} {sp : Sp} {σ : L2.St} {H : Hp} {ta : TA} {i : Nat} {tz : TS} {D : Ends} (h : tMake C sp [] E0 ta σ H fun v H1 => tz D (σ.set i (some v)) H1) : tSeq (tAsg (tMake C sp [] E0 ta) (gName i)) tz D σ H := h
theorem lmin_snoc {l : List Nat} (h : l ≠ []) (c : Nat) : lmin (l ++ [c]) = if c < lmin l then c else lmin l := by
  obtain ⟨h1, h2⟩ := lmin_spec l h
  by_cases q : c < lmin l
  · rw [if_pos q]
    refine (lmin_unique (by simp) fun x hx => ?_).symm
    rcases List.mem_append.mp hx with hx | hx
    · have := h2 x hx; omega
    · rw [List.mem_singleton.mp hx]; exact Nat.le_refl _
  · rw [if_neg q]
    refine (lmin_unique (List.mem_append_left _ h1) fun x hx => ?_).symm
    rcases List.mem_append.mp hx with hx | hx
    · exact h2 x hx
    · rw [List.mem_singleton.mp hx]; omega
abbrev costT3 (ws : List (List Nat)) (t : T3) : Nat := costT ws t.1 t.2.1 t.2.2
/-- the best as yet -/
def BestV (ws : List (List Nat)) (H : Hp) (v : V) (l : List T3) : Prop := (l = [] ∧ v = .non) ∨ (l ≠ [] ∧ ∃ r u, v = .ref r ∧ H r = some (.tup [.int ((lmin (l.map (costT3 ws)) : Nat) : Int), u]))
theorem BestV.kp {ws : List (List Nat)} {a : Ad} {H H' : Hp} {v : V} {l : List T3} {ka kh kb : List (List Key × V)} (k : Kp a H H') (hT : Tb H a ka kh kb) (h : BestV ws H v l) : BestV ws H' v l := by
  rcases h with h | ⟨h1, r, u, h2, h3⟩
  · exact .inl h
  · exact .inr ⟨h1, r, u, h2, k.tup hT h3⟩
theorem BestV.ex {ws : List (List Nat)} {H H' : Hp} {v : V} {l : List T3} (e : Ex H H') (h : BestV ws H v l) : BestV ws H' v l := by
  rcases h with h | ⟨h1, r, u, h2, h3⟩
  · exact .inl h
  · exact .inr ⟨h1, r, u, h2, e _ _ h3⟩
theorem paired_get {α β : Type} {F : α → β → Prop} : ∀ {l : List α} {m : List β} {i : Nat} {x : α}, Paired F l m → l[i]? = some x → ∃ y, m[i]? = some y ∧ F x y
  | _, _, i, x, .nil, h => by simp at h
  | _, _, 0, x, .cons a b, h => by simp at h; subst h; exact ⟨_, rfl, a⟩
  | _, _, i + 1, x, .cons a b, h => by
    rw [List.getElem?_cons_succ] at h ⊢
    exact paired_get b h
theorem take_succ_of {α : Type} {l : List α} {i : Nat} {x : α} (h : l[i]? = some x) : l.take (i + 1) = l.take i ++ [x] := by
  rw [List.take_add_one, h]; rfl
theorem trip_range {n : Nat} {t : T3} {i : Nat} (h : (triplesOf n)[i]? = some t) : t.1 < n ∧ t.2.1 < n ∧ t.2.2 < n := by
  have := mem_triples.mp (List.mem_of_getElem? h)
  exact ⟨this.1, this.2.1, this.2.2.1⟩
theorem triples_len (n : Nat) (hn : n ≤ 10) : (triplesOf n).length ≤ 1000 := by
  rw [triples_row]
  have h := flat_len (fun f => (List.range n).flatMap fun s => rowT n f s n) (n * n) (fun f => flat_len _ n (fun s => rowT_len n f s n) n) n
  have : n * (n * n) ≤ 10 * (10 * 10) := Nat.mul_le_mul hn (Nat.mul_le_mul hn hn)
  omega
def spCheap (K : PySem.W.Frag) : Sp := fun vs H Q _ => ∃ (t : Addr) (ws : List (List Nat)), vs = [.ref t] ∧ SqT K H t (wstr ws) ∧ WsOk ws ∧ ws.length ≤ 10 ∧ ∀ v H', Ex H H' → BestV ws H' v (triplesOf ws.length) → Q v H'
section
variable {P : Program} {w : World} {K : PySem.W.Frag} {mg : Str → Option Value} {base : Heap}
variable {f1 f2 f3 f4 f5 f6 f7 : Addr} {fd1 fd2 fd3 fd4 fd5 fd6 fd7 : FuncData} {C f0 fo fv ft : Addr} {fd0 fdo fdv fdt : FuncData}
theorem ok_cheap {f fq : Addr} {fd fdq : FuncData} (d : Df K mg "cheapest" sCheap f fd ["words"]) (dq : Df K mg "triples_of" sTrips fq fdq ["many"]) (B : Bi mg) (A7 : DfA K mg f1 f2 f3 f4 f5 f6 f7 fd1 fd2 fd3 fd4 fd5 fd6 fd7) (Z : CoT K mg C f0 fo fv ft fd0 fdo fdv fdt) :
    FnOk P w K mg base CX0 7 f fd ["words"] (spCheap K) := by
  have GI : FnOk P w K mg base CX0 1 f0 fd0 ["self", "words"] (spCInit K C) := ok_cinit Z.F0 Z.T B
  have GT : FnOk P w K mg base CX0 6 ft fdt ["self", "first", "second", "word"] (spTrip K C) := ok_trip Z.Ft Z.T B Z.Fo Z.bo Z.mo Z.Fv Z.bv Z.mv A7
  have GQ : FnOk P w K mg base CX0 1 fq fdq ["many"] (spTrips K) := ok_trips dq B
  refine d.F.ok scCheap (fun vs H Q E h => ?_) (fun cdv A outer s H vs Q E hr h => ?_)
  · obtain ⟨t, ws, rfl, _⟩ := h
    rfl
  · obtain ⟨t, ws, rfl, ht, hw, hn, k⟩ := h
    have hu := hu_of hr
    refine ⟨_, pss_cons (ps_par (i := 1) (j := 2) rfl scCheap.nd rfl rfl (by decide) rfl rfl (pa_cons (pe_make Z.mkc GI (hr.mono (by decide)) rfl Z.m Z.b0 .nil pass0 (pa_cons (pv 0) pa_nil)) (pa_cons pe_non pa_nil)) rfl)
      (pss_cons (ps_for PassesOwn.never rfl (pi_list (pe_call GQ (hr.mono (by decide)) rfl dq.m dq.F.kp dq.b .nil pass0 (pa_cons (pe_callB call_len_seq (by rfl) B.len PySem.boot_len (pa_cons (pv 0) pa_nil)) pa_nil))) (pg_name (i := 3) scCheap.nd rfl (.inl rfl))
        (pss_cons (ps_set (i := 4) scCheap.nd rfl (.inl rfl) (pe_meth (pv 1) Z.T.cl Z.mt GT hr Z.bt .nil pass0 (pa_cons (pe_ix ix_tup (pv 3) pe_int (fun _ _ => rfl)) (pa_cons (pe_ix ix_tup (pv 3) pe_int (fun _ _ => rfl)) (pa_cons (pe_ix ix_tup (pv 3) pe_int (fun _ _ => rfl)) pa_nil)))))
        (pss_one (ps_if (pw_or (pt_cmp (pc_isN (pv 2))) (pw_or1 (pt_cmpR op_lt (pv 4) (pe_ix ix_tup (pv 2) pe_int (fun _ _ => rfl)) (nomark _)))).pt (pss_one (ps_set (i := 2) scCheap.nd rfl (.inl rfl) (pe_tup (pa_cons (pv 4) (pa_cons (pv 3) pa_nil))))) pss_nil))))
      (pss_one (ps_ret (pv 2)))), ?_⟩
    refine q_parMake (e_make (ev_var rfl) ht fun x a H1 hC h1 h2 h3 e1 hS => ?_)
    refine ⟨_, _, rfl, ?_⟩
    have C0 := hS (fun _ => False) fun _ z => z
    have hlenW : (wstr ws).length = ws.length := by simp
    refine e_forCall (vs := [.int ((ws.length : Nat) : Int)]) (ea_cons (fun H2 e2 Q q => ⟨_, rfl, t, _, rfl, .inr (ex_t (e1.trans e2) ht), by rw [hlenW]; exact q H2 (Ex.refl _)⟩) ea_nil) fun H2 e2 => ⟨ws.length, rfl, hn, fun q H3 hq e3 hT => ⟨q, rfl, ?_⟩⟩
    obtain ⟨xs, g1, g2⟩ := hT
    have hlen : xs.length = (triplesOf ws.length).length := Paired.length g2
    have C3 := (C0.ex e2).ex e3
    refine ⟨⟨xs, SqL.of g1⟩, ?_⟩
    have e03 : Ex H H3 := (e1.trans e2).trans e3
    refine for_list (K := K) (a := q) (xs := xs) (fun i σ' H' => ∃ v2 v3 v4, σ' = [some (.ref t), some (.ref x), some v2, v3, v4] ∧ Kp a H3 H' ∧ CostsAt K (fun _ => False) H' x a ws (2 * i) ∧ BestV ws H' v2 ((triplesOf ws.length).take i))
      ⟨_, _, _, rfl, Kp.refl a H3, C3, .inl ⟨by simp, rfl⟩⟩ (fun i σ' H' _ ⟨_, _, _, _, kp, _, _⟩ => (let ⟨_, _, _, tb, _⟩ := C3.tb; SqL.of (kp.lst tb g1))) ?_ ?_
    · rintro i v σ' H4 hi ⟨v2, v3, v4, rfl, kp, C4, hb⟩
      obtain ⟨t3, ht3, hv3⟩ := paired_get g2 hi
      obtain ⟨ka, kh, kb, tb3, _, _⟩ := C3.tb
      have hv4 := hv3.kp kp tb3
      have hil : i < 1000 := by
        have a1 := (List.getElem?_eq_some_iff.mp hi).1
        have a2 := triples_len ws.length hn
        omega
      refine e_trip (K := K) (tt := tVar 3) (t := t3) Z.T (ev_var rfl) (ev_var rfl) hC C4 hw (by omega) hv4 (trip_range ht3) fun H5 k5 C5 => ?_
      obtain ⟨ka4, kh4, kb4, tb4, _, _⟩ := C4.tb
      have hb5 := hb.kp k5 tb4
      have kp5 := kp.trans k5
      rcases hb5 with ⟨h0, rfl⟩ | ⟨h0, r, u, rfl, hr0⟩
      · refine ⟨_, rfl, _, rfl, ?_⟩
        refine iteT ?_
        refine iteT ?_
        refine ⟨_, rfl, _, rfl, by show 2 ≤ sizeLine; decide, fun r hr0 => ?_⟩
        refine ⟨_, _, _, rfl, kp5.ex (Ex.new hr0), (C5.ex (Ex.new hr0)).mono (by omega), .inr ⟨by rw [take_succ_of ht3]; simp, r, v, rfl, ?_⟩⟩
        rw [upd_same, take_succ_of ht3, h0]
        rfl
      · refine ⟨_, rfl, _, rfl, ?_⟩
        refine iteF ?_
        refine ⟨_, rfl, _, rfl, r, _, 0, .int _, rfl, rfl, SqT.of hr0, rfl, _, _, rfl, rfl, _, rfl, ?_⟩
        have hsn := lmin_snoc (l := ((triplesOf ws.length).take i).map (costT3 ws)) (by simpa using h0) (costT3 ws t3)
        by_cases hlt : costT3 ws t3 < lmin (((triplesOf ws.length).take i).map (costT3 ws))
        · rw [if_pos hlt] at hsn
          rw [decide_eq_true (show ((costT ws t3.1 t3.2.1 t3.2.2 : Nat) : Int) < ((lmin (((triplesOf ws.length).take i).map (costT3 ws)) : Nat) : Int) by exact Int.ofNat_lt.mpr hlt)]
          refine iteT ?_
          refine ⟨_, rfl, _, rfl, by show 2 ≤ sizeLine; decide, fun r' hr' => ?_⟩
          refine ⟨_, _, _, rfl, kp5.ex (Ex.new hr'), (C5.ex (Ex.new hr')).mono (by omega), .inr ⟨by rw [take_succ_of ht3]; simp, r', v, rfl, ?_⟩⟩
          rw [upd_same, take_succ_of ht3, List.map_append, List.map_singleton, hsn]
        · rw [if_neg hlt] at hsn
          rw [decide_eq_false (show ¬ ((costT ws t3.1 t3.2.1 t3.2.2 : Nat) : Int) < ((lmin (((triplesOf ws.length).take i).map (costT3 ws)) : Nat) : Int) by rw [Int.ofNat_lt]; exact hlt)]
          refine iteF ?_
          refine ⟨_, _, _, rfl, kp5, C5.mono (by omega), .inr ⟨by rw [take_succ_of ht3]; simp, r, u, rfl, ?_⟩⟩
          rw [take_succ_of ht3, List.map_append, List.map_singleton, hsn]
          exact hr0
    · rintro σ' H4 ⟨v2, v3, v4, rfl, kp, C4, hb⟩
      rw [hlen, List.take_length] at hb
      exact ⟨_, rfl, k _ H4 (kp.out e03 h1 h2 h3) hb⟩
end
/-- what price gives -/
def priceV (ws : List (List Nat)) : V := if triplesOf ws.length = [] then .non else .int ((lmin ((triplesOf ws.length).map (costT3 ws)) : Nat) : Int)
def spPrice (K : PySem.W.Frag) (CB C : Addr) : Sp := fun vs H Q E => ∃ v, vs = [v] ∧ ((∃ p ws, v = .ref p ∧ BookAt K CB H p ws ∧ WsOk ws ∧ ws.length ≤ 10 ∧ RetV (priceV ws) H Q) ∨ (NoBook H v ∧ Raised C "book" H E))
/-- the triples that are made -/
def madeT (ws : List (List Nat)) (k : Nat) : List T3 := (triplesOf ws.length).filter fun t => decide (costT3 ws t ≤ k)
def spMade (K : PySem.W.Frag) (CB C CN : Addr) : Sp := fun vs H Q E => ∃ v u, vs = [v, u] ∧ ((∃ p ws, v = .ref p ∧ BookAt K CB H p ws ∧ WsOk ws ∧ ws.length ≤ 10 ∧
    ((∃ k : Nat, u = .int (k : Int) ∧ k ≤ 4 ∧ ∀ q xs H', H q = none → Ex H H' → H' q = some (.tup xs) → Trs H' xs (madeT ws k) → Q (.ref q) H') ∨ (NumV H u ∧ okNum 0 4 u = false ∧ Raised CN "many" H E))) ∨ (NoBook H v ∧ Raised C "book" H E))
section
variable {P : Program} {w : World} {K : PySem.W.Frag} {mg : Str → Option Value} {base : Heap}
variable {f1 f2 f3 f4 f5 f6 f7 : Addr} {fd1 fd2 fd3 fd4 fd5 fd6 fd7 : FuncData} {C f0 fo fv ft : Addr} {fd0 fdo fdv fdt : FuncData}
/-- need_book as the top has left it -/
structure NbT (P : Program) (K : PySem.W.Frag) (mg : Str → Option Value) (f CB C fI cc cda : Addr) (fd fdI : FuncData) (ds : List Value) : Prop where
  F : ∃ dvs kws, FunD K "need_book" "need_book" (defArgs sNeedB) (defBody sNeedB) (defScope sNeedB) dvs kws f fd
  kp : PySem.W.keepIn K (.ref f) = true
  T : BkT K mg CB
  R : Rse P K mg "BadBook" "BadBook.__init__" sBook0 C fI cc cda fdI
  m : mg "need_book" = some (.ref f)
  b : Binds K fd ["value", "part"] ds
  vd : Vals [V.str "book"] ds
theorem NbT.ok {f CB C fI cc cda : Addr} {fd fdI : FuncData} {ds : List Value} (N : NbT P K mg f CB C fI cc cda fd fdI ds) (B : Bi mg) : FnOk P w K mg base (L2.CX P w) 3 f fd ["value", "part"] (spNeedB K CB C) := by
  obtain ⟨dvs, kws, F⟩ := N.F
  exact ok_needb F N.T B N.R
theorem ok_price {f fc fq fb CB CE fI cc cda : Addr} {fd fdc fdq fdb fdI : FuncData} {ds : List Value} (d : Df K mg "price" sPrice f fd ["book"]) (dc : Df K mg "cheapest" sCheap fc fdc ["words"]) (dq : Df K mg "triples_of" sTrips fq fdq ["many"]) (B : Bi mg)
    (A7 : DfA K mg f1 f2 f3 f4 f5 f6 f7 fd1 fd2 fd3 fd4 fd5 fd6 fd7) (Z : CoT K mg C f0 fo fv ft fd0 fdo fdv fdt) (N : NbT P K mg fb CB CE fI cc cda fdb fdI ds) : FnOk P w K mg base (L2.CX P w) 8 f fd ["book"] (spPrice K CB CE) := by
  have GC : FnOk P w K mg base CX0 7 fc fdc ["words"] (spCheap K) := ok_cheap dc dq B A7 Z
  have GB : FnOk P w K mg base (L2.CX P w) 3 fb fdb ["value", "part"] (spNeedB K CB CE) := N.ok B
  refine d.F.okX scPrice (fun vs H Q E h => ?_) (fun cdv A outer s H vs Q E hr h => ?_)
  · obtain ⟨v, rfl, _⟩ := h
    rfl
  · obtain ⟨v, rfl, h⟩ := h
    refine ⟨_, pss_cons (ps_expr (pe_call GB (hr.mono (by decide)) rfl N.m N.kp N.b N.vd (passes_call (takes_of rfl rfl rfl rfl) fun _ _ _ _ z => z) (pa_cons (pv 0) pa_nil)))
      (pss_cons (ps_set (i := 1) scPrice.nd rfl (.inl rfl) (pe_call GC hr rfl dc.m dc.F.kp dc.b .nil pass0 (pa_cons (pe_fld (pv 0) rfl) pa_nil)))
      (pss_one (ps_ret (pe_ifExp (pt_cmp (pc_isN (pv 1))) pe_non (pe_ix ix_tup (pv 1) pe_int (fun _ _ => rfl)))))), ?_⟩
    rcases h with ⟨p, ws, rfl, hb, hw, hn, k⟩ | ⟨hn, k⟩
    · refine ⟨_, rfl, _, _, rfl, .inl ⟨p, ws, rfl, hb, ?_⟩⟩
      obtain ⟨dx, t, hp, ht⟩ := hb
      refine ⟨_, rfl, p, CB, dx, _, .ref t, rfl, hp, N.T.cl, N.T.nW, rfl, t, ws, rfl, ht, hw, hn, fun v H' e hv => ?_⟩
      unfold priceV at k
      rcases hv with ⟨h0, rfl⟩ | ⟨h0, r, u, rfl, hr0⟩
      · rw [if_pos h0] at k
        refine ⟨_, rfl, ?_⟩
        refine ⟨_, rfl, iteT ?_⟩
        exact k H' e
      · rw [if_neg h0] at k
        refine ⟨_, rfl, ?_⟩
        refine ⟨_, rfl, iteF ?_⟩
        exact ⟨_, rfl, r, _, 0, _, rfl, rfl, SqT.of hr0, rfl, k H' e⟩
    · exact ⟨_, rfl, _, _, rfl, .inr ⟨hn, k⟩⟩
end
end K11
end
section
set_option maxRecDepth 100000
set_option maxHeartbeats 4000000
/-! made_words. -/
namespace K11
open PySem PyProof.Rows L2 Evl
theorem e_tupleOf {K : PySem.W.Frag} {σ : L2.St} {H : Hp} {te : TE} {Q : VK} (h : te σ H fun v H1 => ∃ D xs, v = .ref D ∧ SqL K H1 D xs ∧ ∀ l, H1 l = none → Q (.ref l) (upd H1 l (.tup xs)))
    (mono : ∀ Q1 Q2 : VK, (∀ v H, Q1 v H → Q2 v H) → te σ H Q1 → te σ H Q2) :
    tCB (fun xs H Q => ∃ p ys, xs = [.ref p] ∧ ((SqL K H p ys ∧ ∀ l, H l = none → Q (.ref l) (upd H l (.tup ys))) ∨ (SqT K H p ys ∧ Q (.ref p) H))) (tCons te tNil) σ H Q := by
  refine mono _ _ (fun v H1 q => ?_) h
  obtain ⟨D, xs, rfl, h1, h2⟩ := q
  exact ⟨D, xs, rfl, .inl ⟨h1, h2⟩⟩
section
variable {P : Program} {w : World} {K : PySem.W.Frag} {mg : Str → Option Value} {base : Heap}
variable {f1 f2 f3 f4 f5 f6 f7 : Addr} {fd1 fd2 fd3 fd4 fd5 fd6 fd7 : FuncData} {C f0 fo fv ft : Addr} {fd0 fdo fdv fdt : FuncData}
/-- need_number as the top has left it -/
structure NnT (P : Program) (K : PySem.W.Frag) (mg : Str → Option Value) (f g1 g2 C fI cc cda : Addr) (fd gd1 gd2 fdI : FuncData) : Prop where
  d : Df K mg "need_number" sNeedN f fd ["value", "part", "least", "most"]
  d1 : Df K mg "is_integer" sIsInt g1 gd1 ["value"]
  d2 : Df K mg "is_within" sWithin g2 gd2 ["value", "least", "most"]
  R : Rse P K mg "BadNumber" "BadNumber.__init__" sNumber C fI cc cda fdI
theorem ok_made {f fq fb CB CE fI cc cda fn g1 g2 CN fJ cc2 cda2 : Addr} {fd fdq fdb fdI fdn gd1 gd2 fdJ : FuncData} {ds : List Value} (d : Df K mg "made_words" sMade f fd ["book", "many"]) (dq : Df K mg "triples_of" sTrips fq fdq ["many"]) (B : Bi mg)
    (A7 : DfA K mg f1 f2 f3 f4 f5 f6 f7 fd1 fd2 fd3 fd4 fd5 fd6 fd7) (Z : CoT K mg C f0 fo fv ft fd0 fdo fdv fdt) (N : NbT P K mg fb CB CE fI cc cda fdb fdI ds) (M : NnT P K mg fn g1 g2 CN fJ cc2 cda2 fdn gd1 gd2 fdJ) :
    FnOk P w K mg base (L2.CX P w) 8 f fd ["book", "many"] (spMade K CB CE CN) := by
  have GB : FnOk P w K mg base (L2.CX P w) 3 fb fdb ["value", "part"] (spNeedB K CB CE) := N.ok B
  have GN : FnOk P w K mg base (L2.CX P w) 3 fn fdn ["value", "part", "least", "most"] (spNeedN CN) := ok_needn M.d M.d1 M.d2 B M.R
  have GI : FnOk P w K mg base CX0 1 f0 fd0 ["self", "words"] (spCInit K C) := ok_cinit Z.F0 Z.T B
  have GT : FnOk P w K mg base CX0 6 ft fdt ["self", "first", "second", "word"] (spTrip K C) := ok_trip Z.Ft Z.T B Z.Fo Z.bo Z.mo Z.Fv Z.bv Z.mv A7
  have GQ : FnOk P w K mg base CX0 1 fq fdq ["many"] (spTrips K) := ok_trips dq B
  refine d.F.okX scMade (fun vs H Q E h => ?_) (fun cdv A outer s H vs Q E hr h => ?_)
  · obtain ⟨v, u, rfl, _⟩ := h
    rfl
  · obtain ⟨v, u, rfl, h⟩ := h
    obtain ⟨tm, hm⟩ := B.mostM
    refine ⟨_, pss_cons (ps_expr (pe_call GB (hr.mono (by decide)) rfl N.m N.kp N.b N.vd (passes_call (takes_of rfl rfl rfl rfl) fun _ _ _ _ z => z) (pa_cons (pv 0) pa_nil)))
      (pss_cons (ps_expr (pe_call GN (hr.mono (by decide)) rfl M.d.m M.d.F.kp M.d.b .nil (passes_call (takes_of rfl rfl rfl rfl) fun _ _ _ _ z => z) (pa_cons (pv 1) (pa_cons pe_str (pa_cons pe_int (pa_cons (pe_glob (v := .int 4) rfl hm ⟨_, rfl⟩) pa_nil))))))
      (pss_cons (ps_set (i := 2) scMade.nd rfl (.inr rfl) (pe_make Z.mkc GI (hr.mono (by decide)) rfl Z.m Z.b0 .nil pass0 (pa_cons (pe_fld (pv 0) rfl) pa_nil)))
      (pss_cons (ps_set (i := 3) scMade.nd rfl (.inl rfl) (pe_call GQ (hr.mono (by decide)) rfl dq.m dq.F.kp dq.b .nil pass0 (pa_cons (pe_callB call_len_seq (by rfl) B.len PySem.boot_len (pa_cons (pe_fld (pv 0) rfl) pa_nil)) pa_nil)))
      (pss_one (ps_ret (pe_callTy call_tuple_of (by rfl) B.tuple (by decide +kernel) (pa_cons
        (pe_lc (own := [("triple", 4)]) (g := gName 4) (tt := tTest (tOp (rI0 fun i j => .bl (decide (i ≤ j))) (tMeth C "triple" (spTrip K C) [] E0 (tVar 2) (tCons (tOp (rIxT K) (tVar 4) (tC (.int 0))) (tCons (tOp (rIxT K) (tVar 4) (tC (.int 1))) (tCons (tOp (rIxT K) (tVar 4) (tC (.int 2))) tNil)))) (tVar 1))) (te := tVar 4)
          rfl scMade.nd (pi_list (pv 3)) (blkOk_by (N := ["book", "many", "costs", "told", "triple"]) (sc := defScope sMade) (by decide +kernel)) (fun _ _ _ _ _ => pg_name (i := 4) scMade.nd rfl (.inl rfl))
          (fun _ _ _ _ _ => pts_one (pt_cmpR op_le (pe_meth (pv 2) Z.T.cl Z.mt GT (hr.mono (by decide)) Z.bt .nil pass0 (pa_cons (pe_ix ix_tup (pv 4) pe_int (fun _ _ => rfl)) (pa_cons (pe_ix ix_tup (pv 4) pe_int (fun _ _ => rfl)) (pa_cons (pe_ix ix_tup (pv 4) pe_int (fun _ _ => rfl)) pa_nil)))) (pv 1) (nomark _)))
          (fun _ _ _ _ _ => pv 4)) pa_nil))))))), ?_⟩
    rcases h with ⟨p, ws, rfl, hb, hw, hn, h⟩ | ⟨hn, k⟩
    · refine ⟨_, rfl, _, _, rfl, .inl ⟨p, ws, rfl, hb, ?_⟩⟩
      rcases h with ⟨k, rfl, hk, kQ⟩ | ⟨hu, hno, kE⟩
      · refine ⟨_, rfl, _, "many", 0, 4, rfl, .int _, fun _ => ?_, fun z => ?_⟩
        · obtain ⟨dx, t, hp, ht⟩ := hb
          refine q_asgMake (e_make (te := tFld K (tVar 0) "words") (t := t) (ev_fld N.T.cl N.T.nW (ev_var rfl) hp rfl) ht fun x a H1 hC h1 h2 h3 e1 hS => ?_)
          have C0 := hS (fun _ => False) fun _ z => z
          have hlenW : (wstr ws).length = ws.length := by simp
          refine q_asgCall (vs := [.int ((ws.length : Nat) : Int)]) (ea_cons (fun H2 e2 Q q => ev_fld (K := K) N.T.cl N.T.nW (ev_var rfl) (e1 _ _ hp) rfl H2 e2 _ fun H3 e3 => ⟨t, _, rfl, .inr (ex_t ((e1.trans e2).trans e3) ht), by rw [hlenW]; exact q H3 e3⟩) ea_nil) fun H2 e2 => ⟨ws.length, rfl, hn, fun q H3 hq e3 hT => ?_⟩
          obtain ⟨xs, g1, g2⟩ := hT
          have hlen : xs.length = (triplesOf ws.length).length := Paired.length g2
          have C3 := (C0.ex e2).ex e3
          have e03 : Ex H H3 := (e1.trans e2).trans e3
          -- tuple([triple for triple in told if ..])
          refine ⟨_, rfl, q, rfl, ⟨xs, SqL.of g1⟩, fun D hD => ?_⟩
          have CD := (C3.ex (Ex.new (o := .lst []) hD)).name (D := D) (xs := []) upd_same
          obtain ⟨ka, kh, kb, tb3, _, _⟩ := C3.tb
          refine lc_list (K := K) (a := q) (xs := xs) (fun i H' => Kp a H3 H' ∧ CostsAt K (fun y => y = D) H' x a ws (2 * i) ∧ ∃ acc, H' D = some (.lst acc) ∧ acc.length ≤ i ∧ Trs H' acc (((triplesOf ws.length).take i).filter fun t => decide (costT3 ws t ≤ k)))
            ⟨(Kp.refl a H3).ex (Ex.new hD), CD, [], upd_same, Nat.le_refl _, .nil⟩ (fun i H' _ ⟨kp, _⟩ => SqL.of (kp.lst tb3 g1)) ?_ ?_
          · rintro i v H4 hi ⟨kp, C4, acc, ha, hal, htr⟩
            obtain ⟨t3, ht3, hv3⟩ := paired_get g2 hi
            have hv4 := hv3.kp kp tb3
            have hil : i < 1000 := by
              have a1 := (List.getElem?_eq_some_iff.mp hi).1
              have a2 := triples_len ws.length hn
              omega
            refine ⟨rfl, ?_⟩
            refine e_trip (K := K) (tt := tVar 4) (t := t3) Z.T (ev_var rfl) (ev_var rfl) hC C4 hw (by omega) hv4 (trip_range ht3) fun H5 k5 C5 => ?_
            obtain ⟨ka4, kh4, kb4, tb4, _, _⟩ := C4.tb
            have kp5 := kp.trans k5
            have ha5 := k5.lst tb4 ha
            have htr5 : Trs H5 acc _ := Paired.mapP htr fun _ _ z => z.kp k5 tb4
            refine ⟨_, rfl, _, _, rfl, rfl, _, rfl, ?_⟩
            have hd : decide (((costT ws t3.1 t3.2.1 t3.2.2 : Nat) : Int) ≤ (k : Int)) = decide (costT3 ws t3 ≤ k) := by
              rw [decide_eq_decide]; exact Int.ofNat_le
            rw [hd]
            by_cases hle : costT3 ws t3 ≤ k
            · rw [decide_eq_true hle]
              refine iteT ?_
              refine ⟨_, rfl, acc, ha5, by unfold sizeLine; omega, fun b o e z1 z2 z3 => ?_, (C5.mono (by omega)).updD rfl, _, upd_same, by rw [List.length_append, List.length_singleton]; omega, ?_⟩
              · rw [upd_ne (ne_of_none e hD)]; exact kp5 b o e z1 z2 z3
              · rw [take_succ_of ht3, List.filter_append, List.filter_cons_of_pos (by simpa using hle)]
                exact Trs.upd (paired_app htr5 (.cons (hv4.kp k5 tb4) .nil)) ha5
            · rw [decide_eq_false hle]
              refine iteF ?_
              refine ⟨kp5, C5.mono (by omega), acc, ha5, by omega, ?_⟩
              rw [take_succ_of ht3, List.filter_append, List.filter_cons_of_neg (by simpa using hle), List.filter_nil, List.append_nil]
              exact htr5
          · rintro H4 ⟨kp, C4, acc, ha, hal, htr⟩
            rw [hlen, List.take_length] at htr
            have e04 : Ex H H4 := kp.out e03 h1 h2 h3
            refine ⟨D, acc, rfl, .inl ⟨SqL.of ha, fun l hl => ?_⟩⟩
            exact kQ l acc _ (fresh_back e04 hl) (e04.trans (Ex.new hl)) upd_same (htr.ex (Ex.new hl))
        · have : okNum 0 4 (.int (k : Int)) = true := by
            show (decide ((0 : Int) ≤ (k : Int)) && decide ((k : Int) ≤ 4)) = true
            rw [decide_eq_true (by omega), decide_eq_true (by omega)]; rfl
          rw [this] at z
          cases z
      · exact ⟨_, rfl, _, "many", 0, 4, rfl, hu, (fun z => by rw [hno] at z; cases z), fun _ => kE⟩
    · exact ⟨_, rfl, _, _, rfl, .inr ⟨hn, k⟩⟩
end
end K11
end
section
set_option maxRecDepth 100000
set_option maxHeartbeats 4000000
/-! The law's draws: _law_knife, _law_cut. What is drawn does not matter; that it is within its bounds does. -/
namespace K11
open PySem PyProof.Rows L2 Evl
/-- a knife at kf: its cells, how many turns (at most n), what rests -/
def KnAt (H : Hp) (kf c : Addr) (n : Nat) : Prop := ∃ (zs : List Int) (turn : Nat) (rest : Int), H kf = some (.lst [.ref c, .int (turn : Int), .int rest]) ∧ H c = some (.lst (zs.map V.int)) ∧ c ≠ kf ∧ zs.length ≤ 63 ∧ turn ≤ n
theorem KnAt.ex {H H' : Hp} {kf c : Addr} {n : Nat} (e : Ex H H') (h : KnAt H kf c n) : KnAt H' kf c n := let ⟨zs, t, r, a, b, d, f, g⟩ := h; ⟨zs, t, r, e _ _ a, e _ _ b, d, f, g⟩
theorem KnAt.mono {H : Hp} {kf c : Addr} {n m : Nat} (hm : n ≤ m) (h : KnAt H kf c n) : KnAt H kf c m := let ⟨zs, t, r, a, b, d, f, g⟩ := h; ⟨zs, t, r, a, b, d, f, by omega⟩
theorem KnAt.lst {H : Hp} {kf c : Addr} {n : Nat} (h : KnAt H kf c n) : ∃ xs, H kf = some (.lst xs) := let ⟨_, _, _, a, _⟩ := h; ⟨_, a⟩
theorem KnAt.cells {H : Hp} {kf c : Addr} {n : Nat} (h : KnAt H kf c n) : ∃ xs, H c = some (.lst xs) := let ⟨_, _, _, _, b, _⟩ := h; ⟨_, b⟩
/-- another object is written -/
theorem KnAt.put {H : Hp} {kf c D : Addr} {n : Nat} {o : HO} (h : KnAt H kf c n) (h1 : D ≠ kf) (h2 : D ≠ c) : KnAt (L2.upd H D o) kf c n := let ⟨zs, t, r, a, b, d, f, g⟩ := h; ⟨zs, t, r, by rw [upd_ne h1.symm]; exact a, by rw [upd_ne h2.symm]; exact b, d, f, g⟩
/-- all but the knife is kept -/
def KpK (kf : Addr) (H H' : Hp) : Prop := ∀ b o, H b = some o → b ≠ kf → H' b = some o
theorem KpK.refl (kf : Addr) (H : Hp) : KpK kf H H := fun _ _ e _ => e
theorem KpK.ex {kf : Addr} {H H1 H2 : Hp} (k : KpK kf H H1) (e : Ex H1 H2) : KpK kf H H2 := fun b o h n => e b o (k b o h n)
theorem KpK.pre {kf : Addr} {H H1 H2 : Hp} (e : Ex H H1) (k : KpK kf H1 H2) : KpK kf H H2 := fun b o h n => k b o (e b o h) n
theorem KpK.trans {kf : Addr} {H H1 H2 : Hp} (k : KpK kf H H1) (k2 : KpK kf H1 H2) : KpK kf H H2 := fun b o h n => k2 b o (k b o h n) n
theorem KpK.put {kf : Addr} {H H1 : Hp} {o : HO} (k : KpK kf H H1) : KpK kf H (upd H1 kf o) := fun b u h n => by
  rw [upd_ne n]
  exact k b u h n
theorem KpK.out {kf : Addr} {H0 H H' : Hp} (e : Ex H0 H) (k : KpK kf H H') (h : H0 kf = none) : Ex H0 H' := fun b o q => k b o (e b o q) (ne_of_none q h)
theorem KpK.sqL {K : PySem.W.Frag} {kf l : Addr} {H H' : Hp} {xs : List V} (k : KpK kf H H') (n : l ≠ kf) (h : SqL K H l xs) : SqL K H' l xs := by
  rcases h with (h | ⟨o, h⟩) | h
  · exact .inl (.inl (k _ _ h n))
  · exact .inl (.inr ⟨o, k _ _ h n⟩)
  · exact .inr h
def spKnife (K : PySem.W.Frag) : Sp := fun vs H Q _ => ∃ (a : Addr) (ns : List Int), vs = [.ref a] ∧ SqL K H a (ns.map V.int) ∧ ns.length ≤ 63 ∧ ∀ kf c H', H kf = none → Ex H H' → KnAt H' kf c 0 → Q (.ref kf) H'
def spCut : Sp := fun vs H Q _ => ∃ (kf c : Addr) (m n : Nat), vs = [.ref kf, .int (m : Int)] ∧ 1 ≤ m ∧ m ≤ 1000 ∧ KnAt H kf c n ∧ n ≤ 90000 ∧ ∀ (r : Nat) H', r < m → KnAt H' kf c (n + 1) → KpK kf H H' → Q (.int (r : Int)) H'
theorem s_retLst {σ : L2.St} {H : Hp} {te : TE} {tr : TA} {xs : List V} {D : Ends} (h : EvL te σ H xs) (k : ∀ c H1, H c = none → Ex H H1 → H1 c = some (.lst xs) → tr σ H1 fun vs H2 => ((.ref c : V) :: vs).length ≤ sizeLine ∧ ∀ p, H2 p = none → D.rt (.ref p) (upd H2 p (.lst (.ref c :: vs)))) :
    tRet (tLst (tCons te tr)) D σ H := h H (Ex.refl H) _ fun c H1 hc e h1 => k c H1 hc e h1
theorem dp_ints {K : PySem.W.Frag} {H : Hp} : ∀ zs : List Int, DpAll K H (zs.map V.int) (zs.map PyData.int)
  | [] => .nil
  | z :: zs => .cons (.int z) (dp_ints zs)
theorem mod_lt {i : Int} {m : Nat} (h : 1 ≤ m) : ∃ r : Nat, i % (m : Int) = (r : Int) ∧ r < m := by
  have h1 := Int.emod_nonneg i (show (m : Int) ≠ 0 by omega)
  have h2 := Int.emod_lt_of_pos i (show (0 : Int) < m by omega)
  exact ⟨(i % (m : Int)).toNat, by omega, by omega⟩
section
variable {P : Program} {w : World} {K : PySem.W.Frag} {mg : Str → Option Value} {base : Heap}
theorem cutV_sub {xs : List V} {lo hi : Option Int} {v : V} (h : v ∈ cutV xs lo hi) : v ∈ xs := by
  unfold cutV at h
  exact List.mem_of_mem_drop (List.mem_of_mem_take h)
theorem ok_knife {f : Addr} {fd : FuncData} (d : Df K mg "_law_knife" sKnife f fd ["_law_script"]) (B : Bi mg) : FnOk P w K mg base CX0 1 f fd ["_law_script"] (spKnife K) := by
  refine d.F.ok scKnife (fun vs H Q E h => ?_) (fun cdv A outer s H vs Q E hr h => ?_)
  · obtain ⟨a, ns, rfl, _⟩ := h
    rfl
  · obtain ⟨a, ns, rfl, ha, hn, k⟩ := h
    refine ⟨_, pss_one (ps_ret (pe_lst (pa_cons (pe_lc (own := [("_law_cell", 1)]) (g := gName 1) (tt := tYes) rfl scKnife.nd (pi_list (pe_slice sl_list (pv 0) po_none (po_some pe_int))) (blkOk_by (N := ["_law_script", "_law_cell"]) (sc := defScope sKnife) (by decide +kernel))
        (fun _ _ _ _ _ => pg_name (i := 1) scKnife.nd rfl (.inl rfl)) (fun _ _ _ _ _ => pts_nil) (fun _ _ _ _ _ => pe_callTy call_int1 (by rfl) B.int PyProof.Rows.boot_int (pa_cons (pv 1) pa_nil))) (pa_cons pe_int (pa_cons pe_int pa_nil))))), ?_⟩
    have hcut : ∀ v ∈ cutV (ns.map V.int) none (some 60), ∃ i : Int, v = .int i := fun v hv => by
      obtain ⟨i, _, rfl⟩ := List.mem_map.mp (cutV_sub hv)
      exact ⟨i, rfl⟩
    obtain ⟨zs, hzs⟩ : ∃ zs : List Int, cutV (ns.map V.int) none (some 60) = zs.map V.int := by
      have : ∀ xs : List V, (∀ v ∈ xs, ∃ i : Int, v = .int i) → ∃ zs : List Int, xs = zs.map V.int := fun xs => by
        induction xs with
        | nil => exact fun _ => ⟨[], rfl⟩
        | cons x xs ih =>
          intro h
          obtain ⟨i, rfl⟩ := h x (by simp)
          obtain ⟨zs, hz⟩ := ih fun v hv => h v (by simp [hv])
          exact ⟨i :: zs, by rw [List.map_cons, hz]⟩
      exact this _ hcut
    have hl : zs.length ≤ 63 := by
      have h1 := cutV_length (ns.map V.int) none (some 60)
      rw [hzs, List.length_map, List.length_map] at h1
      omega
    have he := el_lcNL (K := K) (σ := [some (.ref a), none]) (H := H) (xs := cutV (ns.map V.int) none (some 60)) (tl := tSl (rSlL K) (tVar 0) tNoPart (tPart (tC (.int 60)))) (j := 1) (vs := [1]) (t := tYes)
      (te := tCB (fun xs H Q => (∃ i, xs = [.int i] ∧ Q (.int i) H) ∨ ∃ k, xs = [.bl k] ∧ Q (.int (if k then 1 else 0)) H) (tCons (tVar 1) tNil)) (fun _ => true) (fun i => (cutV (ns.map V.int) none (some 60)).getD i .non)
      (el_sl (ev_var rfl) eo_none (eo_some ev_c) ha) (by rw [hzs, List.length_map]; omega) (fun _ => rfl) (fun i x H1 _ _ H2 _ Q q => q H2 (Ex.refl _)) (fun i x H1 e1 hx _ => by
        obtain ⟨z, rfl⟩ := hcut x (List.mem_of_getElem? hx)
        refine ev_is (ev_intI (ev_var rfl)) ?_
        rw [List.getD_eq_getElem?_getD, hx]
        rfl)
    have hg : given (cutV (ns.map V.int) none (some 60)).length (fun _ => true) (fun i => (cutV (ns.map V.int) none (some 60)).getD i .non) = zs.map V.int := by
      rw [given_map, ← hzs]
      apply List.ext_getElem
      · simp
      · intro i h1 h2
        simp [List.getD_eq_getElem?_getD, List.getElem?_eq_getElem h2]
    rw [hg] at he
    refine s_retLst he fun c H1 hc e1 h1 => ?_
    refine ⟨by show 3 ≤ sizeLine; decide, fun kf hk => ?_⟩
    exact k kf c _ (fresh_back e1 hk) (e1.trans (Ex.new hk)) ⟨zs, 0, 0, upd_same, by rw [upd_ne (ne_of_none h1 hk)]; exact h1, ne_of_none h1 hk, hl, Nat.le_refl _⟩
theorem ok_cut {f : Addr} {fd : FuncData} (d : Df K mg "_law_cut" sCut f fd ["_law_knife_here", "_law_many"]) (B : Bi mg) : FnOk P w K mg base CX0 1 f fd ["_law_knife_here", "_law_many"] spCut := by
  refine d.F.ok scCut (fun vs H Q E h => ?_) (fun cdv A outer s H vs Q E hr h => ?_)
  · obtain ⟨kf, c, m, n, rfl, _⟩ := h
    rfl
  · obtain ⟨kf, c, m, n, rfl, h1, h2, ⟨zs, turn, rest, hk, hc, hne, hz, ht⟩, hn, k⟩ := h
    have hu : _ + 64 < cLine := hr.units
    refine ⟨_, pss_cons (ps_if (pt_cmpR (op_eqD hu) (pe_ix ix_list (pv 0) pe_int (fun _ _ => rfl)) (pe_lst pa_nil) (nomark _)) (pss_one (ps_ret pe_int)) pss_nil)
      (pss_cons (ps_if (pt_cmpR op_gt (pe_ix ix_list (pv 0) pe_int (fun _ _ => rfl)) pe_int (nomark _))
        (pss_cons (ps_set (i := 2) scCut.nd rfl (.inl rfl) (pe_callTy call_int1 (by rfl) B.int PyProof.Rows.boot_int (pa_cons (pe_ix ix_list (pv 0) pe_int (fun _ _ => rfl)) pa_nil)))
        (pss_cons (ps_asg (pe_op op_fdivN (pv 2) (pv 1)) (pg_sub (pv 0) pe_int set_list))
        (pss_one (ps_ret (pe_op op_mod (pe_callTy call_int1 (by rfl) B.int PyProof.Rows.boot_int (pa_cons (pv 2) pa_nil)) (pv 1)))))) pss_nil)
      (pss_cons (ps_set (i := 3) scCut.nd rfl (.inl rfl) (pe_ix ix_list (pv 0) pe_int (fun _ _ => rfl)))
      (pss_cons (ps_asg (pe_op op_add (pv 3) pe_int) (pg_sub (pv 0) pe_int set_list))
      (pss_cons (ps_set (i := 4) scCut.nd rfl (.inl rfl) (pe_ix ix_list (pe_ix ix_list (pv 0) pe_int (fun _ _ => rfl)) (pe_op op_mod (pe_callTy call_int1 (by rfl) B.int PyProof.Rows.boot_int (pa_cons (pv 3) pa_nil)) (pe_callB call_len_seq (by rfl) B.len PySem.boot_len (pa_cons (pe_ix ix_list (pv 0) pe_int (fun _ _ => rfl)) pa_nil))) (fun _ _ => rfl)))
      (pss_cons (ps_if (pw_and (pt_cmpR op_lt (pv 3) (pe_callB call_len_seq (by rfl) B.len PySem.boot_len (pa_cons (pe_ix ix_list (pv 0) pe_int (fun _ _ => rfl)) pa_nil)) (nomark _)) (pw_and1 (pt_cmpR op_ge (pe_callB call_abs (by rfl) B.abs (by decide +kernel) (pa_cons (pv 4) pa_nil)) (pe_op op_pow pe_int pe_int) (nomark _)))).pt
        (pss_cons (ps_set (i := 2) scCut.nd rfl (.inl rfl) (pe_op op_add (pe_op op_mul pe_int (pe_op op_sub (pe_callB call_abs (by rfl) B.abs (by decide +kernel) (pa_cons (pv 4) pa_nil)) (pe_op op_pow pe_int pe_int))) (pe_callTy call_int1 (by rfl) B.int PyProof.Rows.boot_int (pa_cons (pe_cmpR op_lt (pv 4) pe_int (nomark _)) pa_nil))))
        (pss_cons (ps_asg (pe_op op_fdivN (pe_callTy call_int1 (by rfl) B.int PyProof.Rows.boot_int (pa_cons (pv 2) pa_nil)) (pv 1)) (pg_sub (pv 0) pe_int set_list))
        (pss_one (ps_ret (pe_op op_mod (pe_callTy call_int1 (by rfl) B.int PyProof.Rows.boot_int (pa_cons (pv 2) pa_nil)) (pv 1)))))) pss_nil)
      (pss_cons (ps_set (i := 5) scCut.nd rfl (.inl rfl) (pe_op op_mod (pe_callTy call_int1 (by rfl) B.int PyProof.Rows.boot_int (pa_cons (pe_op op_pow (pe_op op_add (pe_op op_add (pe_op op_mod (pe_callTy call_int1 (by rfl) B.int PyProof.Rows.boot_int (pa_cons (pv 4) pa_nil)) pe_int) (pe_op op_mul pe_int (pv 3))) pe_int) pe_int) pa_nil)) pe_int))
      (pss_cons (ps_set (i := 5) scCut.nd rfl (.inl rfl) (pe_op op_mod (pe_callTy call_int1 (by rfl) B.int PyProof.Rows.boot_int (pa_cons (pe_op op_pow (pe_op op_add (pe_op op_add (pe_op op_mul (pv 5) (pe_op op_add (pe_op op_mul pe_int (pv 3)) pe_int)) (pe_op op_mul (pe_op op_mul pe_int (pv 3)) (pv 3))) pe_int) pe_int) pa_nil)) pe_int))
      (pss_one (ps_ret (pe_op op_mod (pe_callTy call_int1 (by rfl) B.int PyProof.Rows.boot_int (pa_cons (pe_op op_fdivN (pv 5) pe_int) pa_nil)) (pv 1))))))))))), ?_⟩
    have li3 : ∀ {a b c : V}, ([a, b, c] : List V)[0]? = some a := fun {a b c} => rfl
    have at0 : ∀ {a b c : V}, atI [a, b, c] 0 = some a := fun {a b c} => rfl
    have at1 : ∀ {a b c : V}, atI [a, b, c] 1 = some b := fun {a b c} => rfl
    have at2 : ∀ {a b c : V}, atI [a, b, c] 2 = some c := fun {a b c} => rfl
    -- knife[0] == []
    refine ⟨_, rfl, kf, _, 0, .ref c, rfl, rfl, SqL.of hk, at0, by show 0 ≤ sizeLine; decide, fun p hp => ?_⟩
    have e1 : Ex H (upd H p (.lst [])) := Ex.new hp
    refine ⟨.list (zs.map PyData.int), .list (([] : List Int).map PyData.int), Dp.lst (SqL.of (e1 _ _ hc)) (dp_ints zs), Dp.lst (SqL.of upd_same) (dp_ints []), PySem.W.shaped_ints zs, PySem.W.shaped_ints [], _, rfl, ?_⟩
    have hk1 := e1 _ _ hk
    have hc1 := e1 _ _ hc
    have K1 : KnAt (upd H p (.lst [])) kf c (n + 1) := ⟨zs, turn, rest, hk1, hc1, hne, hz, by omega⟩
    cases hq : PyData.eqv (.list (zs.map PyData.int)) (.list (([] : List Int).map PyData.int)) with
    | true =>
      refine iteT ?_
      exact k 0 _ (by omega) K1 ((KpK.refl kf H).ex e1)
    | false =>
      refine iteF ?_
      have hz0 : zs ≠ [] := fun z => by
        subst z
        have : PyData.eqv (.list (([] : List Int).map PyData.int)) (.list (([] : List Int).map PyData.int)) = true := by decide +kernel
        rw [this] at hq
        cases hq
      generalize hH1 : upd H p (.lst []) = H1 at e1 hk1 hc1 K1 ⊢
      have mm : (m : Int) ≠ 0 ∧ (m : Int).natAbs < 1073741824 := by omega
      -- a rest is let out: knife[2] = x // many; return x % many
      have fin : ∀ (x : Int) (H2 : Hp) (tn : Nat) (r0 : Int), Ex H1 H2 → (∀ b o, H b = some o → b ≠ kf → H2 b = some o) → H2 kf = some (.lst [.ref c, .int (tn : Int), .int r0]) → tn ≤ n + 1 → H2 c = some (.lst (zs.map V.int)) → True := fun _ _ _ _ _ _ _ _ _ => trivial
      -- if knife[2] > 0
      refine q_when (b := decide ((0 : Int) < rest)) (et_test (ev_op (ev_op (ev_var rfl) ev_c (rv_ixL (SqL.of hk1) at2)) ev_c (rv_I0 (i := rest) (j := 0)))) (fun hb H2 e2 => ?_) (fun hb H2 e2 => ?_)
      · have hk2 := e2 _ _ hk1
        refine q_asg (ev_intI (ev_op (ev_var rfl) ev_c (rv_ixL (SqL.of hk2) at2))) fun H3 e3 => ?_
        have hk3 := e3 _ _ hk2
        refine q_setL (j := 2) hk3 (ev_op (ev_var rfl) (ev_var rfl) (rv_I (i := rest) (j := (m : Int)) mm)) (ev_var rfl) ev_c (by show 2 < 3; decide) fun H4 e4 => ?_
        have e14 : Ex H H4 := ((e1.trans e2).trans e3).trans e4
        obtain ⟨r, hr1, hr2⟩ := mod_lt (i := rest) h1
        refine s_ret (v := .int (r : Int)) (ev_is (ev_op (ev_intI (ev_var rfl)) (ev_var rfl) (rv_I (i := rest) (j := (m : Int)) (show (0 : Int) < (m : Int) by omega))) (by rw [hr1])) fun H5 e5 => ?_
        refine k r H5 hr2 (KnAt.ex e5 ⟨zs, turn, _, upd_same, by rw [upd_ne hne]; exact e4 _ _ (e3 _ _ (e2 _ _ hc1)), hne, hz, by omega⟩) ((((KpK.refl kf H).ex e14).put).ex e5)
      · have hk2 := e2 _ _ hk1
        have hc2 := e2 _ _ hc1
        have hlz : (zs.map V.int).length = zs.length := by simp
        have hz1 : 1 ≤ zs.length := List.length_pos_iff.mpr hz0
        -- turn = knife[1]
        refine q_asg (ev_op (ev_var rfl) ev_c (rv_ixL (SqL.of hk2) at1)) fun H3 e3 => ?_
        have hk3 := e3 _ _ hk2
        -- knife[1] = turn + 1
        refine q_setL (j := 1) hk3 (ev_op (ev_var rfl) ev_c (rv_I0 (i := (turn : Int)) (j := 1))) (ev_var rfl) ev_c (by show 1 < 3; decide) fun H4 e4 => ?_
        have e24 : Ex H H4 := ((e1.trans e2).trans e3).trans e4
        generalize hH5 : upd H4 kf (.lst ([.ref c, .int (turn : Int), .int rest].set 1 (.int ((turn : Int) + 1)))) = H5
        have hk5 : H5 kf = some (.lst [.ref c, .int ((turn : Int) + 1), .int rest]) := by rw [← hH5]; exact upd_same
        have hc5 : H5 c = some (.lst (zs.map V.int)) := by rw [← hH5, upd_ne hne]; exact e4 _ _ (e3 _ _ hc2)
        have kp5 : KpK kf H H5 := by rw [← hH5]; exact ((KpK.refl kf H).ex e24).put
        have K5 : KnAt H5 kf c (n + 1) := ⟨zs, turn + 1, rest, by rw [hk5]; push_cast; rfl, hc5, hne, hz, by omega⟩
        have lenC : ∀ {σ : L2.St} {H6 : Hp}, σ[0]? = some (some (.ref kf)) → Ex H5 H6 → Ev (tCB (fun xs H Q => ∃ p ys, xs = [.ref p] ∧ (SqL K H p ys ∨ SqT K H p ys) ∧ Q (.int ys.length) H) (tCons (tOp (rIxL K) (tVar 0) (tC (.int 0))) tNil)) σ H6 (.int ((zs.length : Nat) : Int)) := fun {σ H6} h0 e =>
          ev_cb (ea_cons (ev_op (ev_var h0) ev_c (rv_ixL (SqL.of (e _ _ hk5)) at0)) ea_nil) fun H7 e7 Q q => ⟨c, _, rfl, .inl (SqL.of (e7 _ _ (e _ _ hc5))), by rw [hlz]; exact q H7 (Ex.refl _)⟩
        -- cell = knife[0][int(turn) % len(knife[0])]
        obtain ⟨j, hj1, hj2⟩ := mod_lt (i := (turn : Int)) hz1
        obtain ⟨cell, hcell⟩ : ∃ z, zs[j]? = some z := ⟨zs[j], by simp [hj2]⟩
        refine q_asg (v := .int cell) (ev_op (ev_op (ev_var rfl) ev_c (rv_ixL (SqL.of hk5) at0)) (ev_op (ev_intI (ev_var rfl)) (lenC rfl (Ex.refl _)) (rv_I (i := (turn : Int)) (j := (zs.length : Int)) (show (0 : Int) < (zs.length : Int) by omega)))
          (rv_ixL (SqL.of hc5) (by rw [hj1]; exact atI_in (by rw [List.getElem?_map, hcell]; rfl)))) fun H6 e6 => ?_
        have hab : ∀ {σ : L2.St} {H7 : Hp}, σ[4]? = some (some (.int cell)) → Ev (tCB (fun xs H Q => ∃ i, xs = [.int i] ∧ Q (.int (if i < 0 then -i else i)) H) (tCons (tVar 4) tNil)) σ H7 (.int (if cell < 0 then -cell else cell)) := fun h => ev_cb (ea_cons (ev_var h) ea_nil) fun H8 _ Q q => ⟨cell, rfl, q H8 (Ex.refl _)⟩
        have h18 : ∀ {σ : L2.St} {H7 : Hp}, Ev (tOp (rI CPow fun i j => .int (i ^ j.toNat)) (tC (.int 10)) (tC (.int 18))) σ H7 (.int ((10 : Int) ^ 18)) := fun {σ H7} => ev_op ev_c ev_c (rv_I (i := 10) (j := 18) ⟨by decide, by decide, by decide⟩)
        -- turn < len(knife[0]) and abs(cell) >= 10 ** 18
        refine q_when (b := decide ((turn : Int) < (zs.length : Int)) && decide ((10 : Int) ^ 18 ≤ (if cell < 0 then -cell else cell))) (et_and (et_test (ev_op (ev_var rfl) (lenC rfl e6) (rv_I0 (i := (turn : Int)) (j := (zs.length : Int))))) fun _ => et_test (ev_op (hab rfl) h18 (rv_I0 (i := (if cell < 0 then -cell else cell)) (j := (10 : Int) ^ 18)))) (fun hb H7 e7 => ?_) (fun hb H7 e7 => ?_)
        · refine q_asg (ev_op (ev_op ev_c (ev_op (hab rfl) h18 (rv_I0 (i := (if cell < 0 then -cell else cell)) (j := (10 : Int) ^ 18))) (rv_I (i := 2) (j := (if cell < 0 then -cell else cell) - (10 : Int) ^ 18) (.inl ⟨by decide, by decide⟩))) (ev_intB (ev_op (ev_var rfl) ev_c (rv_I0 (i := cell) (j := 0)))) rv_I0) fun H8 e8 => ?_
          have hk8 := e8 _ _ (e7 _ _ (e6 _ _ hk5))
          generalize 2 * ((if cell < 0 then -cell else cell) - (10 : Int) ^ 18) + (if decide (cell < 0) = true then 1 else 0) = X0
          refine q_setL (j := 2) hk8 (ev_op (ev_intI (ev_var rfl)) (ev_var rfl) (rv_I (i := X0) (j := (m : Int)) mm)) (ev_var rfl) ev_c (by show 2 < 3; decide) fun H9 e9 => ?_
          obtain ⟨r, hr1, hr2⟩ := mod_lt (i := X0) h1
          refine s_ret (v := .int (r : Int)) (ev_is (ev_op (ev_intI (ev_var rfl)) (ev_var rfl) (rv_I (i := X0) (j := (m : Int)) (show (0 : Int) < (m : Int) by omega))) (by rw [hr1])) fun H10 e10 => ?_
          refine k r H10 hr2 (KnAt.ex e10 ⟨zs, turn + 1, _, upd_same, by rw [upd_ne hne]; exact e9 _ _ (e8 _ _ (e7 _ _ (e6 _ _ hc5))), hne, hz, by omega⟩) ((((kp5.ex (((e6.trans e7).trans e8).trans e9))).put).ex e10)
        · -- the mixing
          obtain ⟨a0, ha1, ha2⟩ := mod_lt (i := cell) (m := 2147483587) (by decide)
          refine q_asg (ev_op (ev_intI (ev_op (ev_op (ev_op (ev_op (ev_intI (ev_var rfl)) ev_c (rv_I (i := cell) (j := 2147483587) (by decide))) (ev_op ev_c (ev_var rfl) (rv_I (i := 79039) (j := (turn : Int)) (.inl ⟨by decide, by decide⟩))) rv_I0) ev_c rv_I0) ev_c (rv_I (i := cell % 2147483587 + 79039 * (turn : Int) + 5011) (j := 5) ⟨by decide, by decide, ?_⟩))) ev_c (rv_I (j := 2147483549) (by decide))) fun H8 e8 => ?_
          · have : cell % 2147483587 = (a0 : Int) := ha1
            rw [this]
            have : (2 : Nat) ^ 64 = 18446744073709551616 := by decide
            omega
          obtain ⟨b0, hb1, hb2⟩ := mod_lt (i := (cell % 2147483587 + 79039 * (turn : Int) + 5011) ^ (5 : Int).toNat) (m := 2147483549) (by decide)
          have hb1' : (cell % 2147483587 + 79039 * (turn : Int) + 5011) ^ (5 : Int).toNat % 2147483549 = (b0 : Int) := hb1
          rw [hb1']
          have tt2 : (turn : Int) * turn ≤ 90000 * 90000 := Int.mul_le_mul (by omega) (by omega) (by omega) (by omega)
          have t0 : (0 : Int) ≤ (turn : Int) * turn := Int.mul_nonneg (by omega) (by omega)
          have bt : (b0 : Int) * (2 * (turn : Int) + 6029) ≤ 2147483549 * 186029 := Int.mul_le_mul (by omega) (by omega) (by omega) (by omega)
          have bt0 : (0 : Int) ≤ (b0 : Int) * (2 * (turn : Int) + 6029) := Int.mul_nonneg (by omega) (by omega)
          have as3 : (73517 : Int) * (turn : Int) * (turn : Int) = 73517 * ((turn : Int) * turn) := Int.mul_assoc _ _ _
          refine q_asg (ev_op (ev_intI (ev_op (ev_op (ev_op (ev_op (ev_var rfl) (ev_op (ev_op ev_c (ev_var rfl) (rv_I (i := 2) (j := (turn : Int)) (.inl ⟨by decide, by decide⟩))) ev_c rv_I0) (rv_I (i := (b0 : Int)) (j := 2 * (turn : Int) + 6029) (.inl ⟨by omega, by omega⟩)))
            (ev_op (ev_op ev_c (ev_var rfl) (rv_I (i := 73517) (j := (turn : Int)) (.inl ⟨by decide, by decide⟩))) (ev_var rfl) (rv_I (i := 73517 * (turn : Int)) (j := (turn : Int)) (.inl ⟨by omega, by omega⟩))) rv_I0) ev_c rv_I0) ev_c (rv_I (i := (b0 : Int) * (2 * (turn : Int) + 6029) + 73517 * (turn : Int) * (turn : Int) + 79039) (j := 3) ⟨by decide, by decide, ?_⟩))) ev_c (rv_I (j := 2147483563) (by decide))) fun H9 e9 => ?_
          · have : (2 : Nat) ^ 64 = 18446744073709551616 := by decide
            omega
          generalize ((b0 : Int) * (2 * (turn : Int) + 6029) + 73517 * (turn : Int) * (turn : Int) + 79039) ^ (3 : Int).toNat % 2147483563 = X1
          obtain ⟨r, hr1, hr2⟩ := mod_lt (i := X1.fdiv 64) h1
          refine s_ret (v := .int (r : Int)) (ev_is (ev_op (ev_intI (ev_op (ev_var rfl) ev_c (rv_I (i := X1) (j := 64) ⟨by decide, by decide⟩))) (ev_var rfl) (rv_I (i := X1.fdiv 64) (j := (m : Int)) (show (0 : Int) < (m : Int) by omega))) (by rw [hr1])) fun H10 e10 => ?_
          exact k r H10 hr2 (K5.ex ((((e6.trans e7).trans e8).trans e9).trans e10)) (kp5.ex ((((e6.trans e7).trans e8).trans e9).trans e10))
end
end K11
end
section
set_option maxRecDepth 100000
set_option maxHeartbeats 4000000
/-! _law_one_of, _law_word, _law_words. -/
namespace K11
open PySem PyProof.Rows L2 Evl
def spOne (K : PySem.W.Frag) : Sp := fun vs H Q _ => ∃ (kf c l : Addr) (xs : List V) (n : Nat), vs = [.ref kf, .ref l] ∧ SqL K H l xs ∧ l ≠ kf ∧ 1 ≤ xs.length ∧ xs.length ≤ 1000 ∧ KnAt H kf c n ∧ n ≤ 90000 ∧ ∀ x H', x ∈ xs → KnAt H' kf c (n + 1) → KpK kf H H' → Q x H'
/-- a drawn word -/
structure DrawnW (m : Nat) (x : List Nat) : Prop where
  lo : 1 ≤ x.length
  hi : x.length ≤ m
  ab : ∀ c ∈ x, 97 ≤ c ∧ c < 123
def spWord : Sp := fun vs H Q _ => ∃ (kf c : Addr) (m l n : Nat), vs = [.ref kf, .int (m : Int), .int (l : Int)] ∧ 1 ≤ m ∧ m ≤ 10 ∧ 1 ≤ l ∧ l ≤ 26 ∧ KnAt H kf c n ∧ n ≤ 80000 ∧ ∀ x H', DrawnW m x → KnAt H' kf c (n + 11) → KpK kf H H' → Q (.str (tx x)) H'
/-- a list of drawn words, no two alike -/
structure DrawnL (m k : Nat) (ws : List (List Nat)) : Prop where
  ok : ∀ x ∈ ws, DrawnW m x
  nd : ws.Nodup
  lo : 1 ≤ ws.length
  hi : ws.length ≤ k
def spWords : Sp := fun vs H Q _ => ∃ (kf c : Addr) (k m l n : Nat), vs = [.ref kf, .int (k : Int), .int (m : Int), .int (l : Int)] ∧ 1 ≤ k ∧ k ≤ 10 ∧ 1 ≤ m ∧ m ≤ 10 ∧ 1 ≤ l ∧ l ≤ 26 ∧ KnAt H kf c n ∧ n ≤ 70000 ∧
  ∀ q ws H', H q = none → DrawnL m k ws → H' q = some (.lst (wstr ws)) → KnAt H' kf c (n + 110) → KpK kf H H' → Q (.ref q) H'
section
variable {P : Program} {w : World} {K : PySem.W.Frag} {mg : Str → Option Value} {base : Heap}
theorem ok_one {f f1 : Addr} {fd fd1 : FuncData} (d : Df K mg "_law_one_of" sOneOf f fd ["_law_knife_here", "_law_some"]) (d1 : Df K mg "_law_cut" sCut f1 fd1 ["_law_knife_here", "_law_many"]) (B : Bi mg) :
    FnOk P w K mg base CX0 2 f fd ["_law_knife_here", "_law_some"] (spOne K) := by
  have G : FnOk P w K mg base CX0 1 f1 fd1 ["_law_knife_here", "_law_many"] spCut := ok_cut d1 B
  refine d.F.ok scOneOf (fun vs H Q E h => ?_) (fun cdv A outer s H vs Q E hr h => ?_)
  · obtain ⟨kf, c, l, xs, n, rfl, _⟩ := h
    rfl
  · obtain ⟨kf, c, l, xs, n, rfl, hl, hne, h1, h2, hk, hn, k⟩ := h
    refine ⟨_, pss_one (ps_ret (pe_ix ix_list (pv 1) (pe_call G hr rfl d1.m d1.F.kp d1.b .nil pass0 (pa_cons (pv 0) (pa_cons (pe_callB call_len_seq (by rfl) B.len PySem.boot_len (pa_cons (pv 1) pa_nil)) pa_nil))) (fun _ _ => rfl))), ?_⟩
    refine ⟨_, rfl, _, rfl, _, rfl, l, xs, rfl, .inl hl, kf, c, xs.length, n, rfl, h1, h2, hk, hn, fun r H' hr K' kp => ?_⟩
    exact ⟨l, xs, (r : Int), xs[r], rfl, rfl, kp.sqL hne hl, atI_in (by simp [hr]), k _ H' (List.getElem_mem _) K' kp⟩
theorem join_chars (cs : List Nat) : Txt.join ("" : Str) (cs.map chr1) = tx cs := by
  have h := SX.join_S [] (cs.map fun c => [c])
  have e1 : (cs.map fun c => [c]).map SX.S = cs.map chr1 := by rw [List.map_map]; rfl
  have e2 : ∀ l : List Nat, TL.joinL [] (l.map fun c => [c]) = l := fun l => by
    induction l with
    | nil => rfl
    | cons c l ih =>
      cases l with
      | nil => rfl
      | cons c' l' =>
        show [c] ++ ([] ++ TL.joinL [] ((c' :: l').map fun c => [c])) = c :: c' :: l'
        rw [ih]; rfl
  rw [e1, e2] at h
  have e3 : ("" : Str) = SX.S [] := by decide +kernel
  rw [e3]
  exact h
theorem e_yes {σ : L2.St} {H : Hp} {R : Bool → Hp → Prop} (h : R true H) : tYes σ H R := h
theorem sum_ones : ∀ cs : List Nat, (cs.map fun _ => 1).sum = cs.length
  | [] => rfl
  | c :: cs => by rw [List.map_cons, List.sum_cons, sum_ones cs, List.length_cons]; omega
theorem letters_at {r : Nat} (h : r < 26) : ("abcdefghijklmnopqrstuvwxyz" : Str).cps.toList[r]? = some (97 + r) := by
  have all : ∀ r, r < 26 → ("abcdefghijklmnopqrstuvwxyz" : Str).cps.toList[r]? = some (97 + r) := by decide +kernel
  exact all r h
theorem letters_len : ("abcdefghijklmnopqrstuvwxyz" : Str).length ≤ 100000 := by decide +kernel
theorem ok_word {f f1 : Addr} {fd fd1 : FuncData} (d : Df K mg "_law_word" sWord f fd ["_law_knife_here", "_law_most", "_law_letters"]) (d1 : Df K mg "_law_cut" sCut f1 fd1 ["_law_knife_here", "_law_many"]) (B : Bi mg) :
    FnOk P w K mg base CX0 2 f fd ["_law_knife_here", "_law_most", "_law_letters"] spWord := by
  have G : FnOk P w K mg base CX0 1 f1 fd1 ["_law_knife_here", "_law_many"] spCut := ok_cut d1 B
  refine d.F.ok scWord (fun vs H Q E h => ?_) (fun cdv A outer s H vs Q E hr h => ?_)
  · obtain ⟨kf, c, m, l, n, rfl, _⟩ := h
    rfl
  · obtain ⟨kf, c, m, l, n, rfl, h1, h2, h3, h4, hk, hn, k⟩ := h
    refine ⟨_, pss_one (ps_ret (pe_join pe_str (pe_lc (own := [("_law_turn", 3)]) (g := gName 3) (tt := tYes) rfl scWord.nd (pi_range1 (by rfl) B.range (pa_cons (pe_op op_add pe_int (pe_call G hr rfl d1.m d1.F.kp d1.b .nil pass0 (pa_cons (pv 0) (pa_cons (pv 1) pa_nil)))) pa_nil))
      (blkOk_by (N := ["_law_knife_here", "_law_most", "_law_letters", "_law_turn"]) (sc := defScope sWord) (by decide +kernel)) (fun _ _ _ _ _ => pg_name (i := 3) scWord.nd rfl (.inl rfl)) (fun _ _ _ _ _ => pts_nil)
      (fun _ _ _ _ _ => pe_ix ix_str pe_str (pe_call G hr rfl d1.m d1.F.kp d1.b .nil pass0 (pa_cons (pv 0) (pa_cons (pv 2) pa_nil))) (fun _ _ => rfl))))), ?_⟩
    refine ⟨⟨_, rfl⟩, _, rfl, _, rfl, kf, c, m, n, rfl, h1, by omega, hk, by omega, fun r H1 hr1 K1 kp1 => ?_⟩
    refine ⟨1, (r : Int), rfl, rfl, 1 + (r : Int), rfl, by omega, by omega, fun D hD => ?_⟩
    have en : (1 + (r : Int)).toNat = r + 1 := by omega
    rw [en]
    have hDk : D ≠ kf := fun z => by
      obtain ⟨xs, q⟩ := K1.lst
      rw [← z, hD] at q
      cases q
    have hDc : D ≠ c := fun z => by
      obtain ⟨xs, q⟩ := K1.cells
      rw [← z, hD] at q
      cases q
    refine lc_range (fun i H2 => KnAt H2 kf c (n + 1 + i) ∧ KpK kf H1 H2 ∧ ∃ cs : List Nat, H2 D = some (.lst (cs.map fun c => .str (chr1 c))) ∧ cs.length = i ∧ ∀ c ∈ cs, 97 ≤ c ∧ c < 123)
      ⟨K1.ex (Ex.new hD), (KpK.refl kf H1).ex (Ex.new hD), [], upd_same, rfl, by simp⟩ ?_ ?_
    · intro i H2 hi ⟨K2, kp2, cs, c1, c2, c3⟩
      refine ⟨rfl, ?_⟩
      refine e_yes ?_
      rw [if_pos rfl]
      refine ⟨_, rfl, _, rfl, kf, c, l, n + 1 + i, rfl, h3, by omega, K2, by omega, fun r2 H3 hr3 K3 kp3 => ?_⟩
      refine ⟨_, (r2 : Int), 97 + r2, rfl, rfl, sz_of letters_len, atI_in (letters_at (by omega)), ?_⟩
      refine ⟨cs.map fun c => .str (chr1 c), kp3 _ _ c1 hDk, by rw [List.length_map, c2]; unfold sizeLine; omega, ?_, fun b o e hb => ?_, cs ++ [97 + r2], ?_, by rw [List.length_append, c2]; rfl, fun c hc => ?_⟩
      · exact (K3.put hDk hDc).mono (by omega)
      · by_cases z : b = D
        · rw [z, hD] at e; cases e
        · rw [upd_ne z]; exact kp3 _ _ (kp2 b o e hb) hb
      · rw [upd_same, List.map_append]; rfl
      · rcases List.mem_append.mp hc with hc | hc
        · exact c3 c hc
        · rw [List.mem_singleton.mp hc]; omega
    · rintro H2 ⟨K2, kp2, cs, c1, c2, c3⟩
      refine ⟨"", D, cs.map chr1, rfl, rfl, .inl (SqL.of (by rw [c1, List.map_map]; rfl)), ?_, ?_⟩
      · have e1 : ("" : Str).length = 0 := by decide +kernel
        have e2 : ((cs.map chr1).map (·.length)).sum = cs.length := by
          rw [List.map_map]
          have : ((fun x : Str => x.length) ∘ chr1) = fun _ : Nat => 1 := rfl
          rw [this]
          exact sum_ones cs
        rw [e1, e2, Nat.mul_zero, c2]
        omega
      · rw [join_chars]
        exact k cs H2 ⟨by omega, by omega, c3⟩ (K2.mono (by omega)) (kp1.trans kp2)
end
end K11
end
section
set_option maxRecDepth 100000
set_option maxHeartbeats 4000000
/-! _law_words, _law_near. -/
namespace K11
open PySem PyProof.Rows L2 Evl
theorem flat_wstr (ws : List (List Nat)) : (wstr ws).all flatV = true := by
  rw [List.all_eq_true]
  intro v hv
  obtain ⟨x, _, rfl⟩ := List.mem_map.mp hv
  rfl
theorem inV_wstr (x : List Nat) (ws : List (List Nat)) : inV (.str (tx x)) (wstr ws) = decide (x ∈ ws) := by
  rw [Bool.eq_iff_iff, decide_eq_true_iff]
  unfold inV
  rw [List.any_eq_true]
  constructor
  · rintro ⟨v, hv, he⟩
    obtain ⟨y, hy, rfl⟩ := List.mem_map.mp hv
    have he : (tx y == tx x) = true := he
    have := tx_inj.mp (eq_of_beq he)
    rw [← this]; exact hy
  · intro h
    exact ⟨_, List.mem_map.mpr ⟨x, h, rfl⟩, (beq_self_eq_true (tx x) : (tx x == tx x) = true)⟩
section
variable {P : Program} {w : World} {K : PySem.W.Frag} {mg : Str → Option Value} {base : Heap}
theorem ok_words {f f1 f2 : Addr} {fd fd1 fd2 : FuncData} (d : Df K mg "_law_words" sWords f fd ["_law_knife_here", "_law_many", "_law_most", "_law_letters"]) (d1 : Df K mg "_law_cut" sCut f1 fd1 ["_law_knife_here", "_law_many"])
    (d2 : Df K mg "_law_word" sWord f2 fd2 ["_law_knife_here", "_law_most", "_law_letters"]) (B : Bi mg) : FnOk P w K mg base CX0 3 f fd ["_law_knife_here", "_law_many", "_law_most", "_law_letters"] spWords := by
  have G : FnOk P w K mg base CX0 2 f2 fd2 ["_law_knife_here", "_law_most", "_law_letters"] spWord := ok_word d2 d1 B
  refine d.F.ok scWords (fun vs H Q E h => ?_) (fun cdv A outer s H vs Q E hr h => ?_)
  · obtain ⟨kf, c, kk, m, l, n, rfl, _⟩ := h
    rfl
  · obtain ⟨kf, c, kk, m, l, n, rfl, h1, h2, h3, h4, h5, h6, hk, hn, k⟩ := h
    refine ⟨_, pss_cons (ps_set (i := 4) scWords.nd rfl (.inl rfl) (pe_lst pa_nil))
      (pss_cons (ps_for PassesOwn.never rfl (pi_range1 rfl B.range (pa_cons (pv 1) pa_nil)) (pg_name (i := 5) scWords.nd rfl (.inl rfl))
        (pss_cons (ps_set (i := 6) scWords.nd rfl (.inl rfl) (pe_call G hr rfl d2.m d2.F.kp d2.b .nil pass0 (pa_cons (pv 0) (pa_cons (pv 2) (pa_cons (pv 3) pa_nil)))))
        (pss_one (ps_if (pt_cmpR op_notIn_seq (pv 6) (pv 4) rfl) (pss_one (ps_expr (pe_bm PySem.F.plainAttrs_list PySem.F.slot_list_append PySem.F.type_list_append mt_append (pv 4) (pa_cons (pv 6) pa_nil)))) pss_nil))))
      (pss_one (ps_ret (pv 4)))), ?_⟩
    refine q_asgL (el_lst ea_nil (by show 0 ≤ 100000; decide)) fun q H1 hq e1 hq1 => ?_
    have hqk : q ≠ kf := fun z => by
      obtain ⟨xs, g⟩ := hk.lst
      rw [← z, hq] at g; cases g
    have hqc : q ≠ c := fun z => by
      obtain ⟨xs, g⟩ := hk.cells
      rw [← z, hq] at g; cases g
    refine q_forR1 (n := (kk : Int)) (ea_cons (ev_var rfl) ea_nil) ⟨by omega, by omega⟩
      (fun i σ' H' => ∃ v5 v6, σ' = [some (.ref kf), some (.int (kk : Nat)), some (.int (m : Nat)), some (.int (l : Nat)), some (.ref q), v5, v6] ∧ KnAt H' kf c (n + 11 * i) ∧ KpK kf H H' ∧
        ∃ ws, H' q = some (.lst (wstr ws)) ∧ (∀ x ∈ ws, DrawnW m x) ∧ ws.Nodup ∧ ws.length ≤ i ∧ (1 ≤ i → 1 ≤ ws.length))
      (fun H2 e2 => ⟨_, _, rfl, hk.ex (e1.trans e2), (KpK.refl kf H).ex (e1.trans e2), [], e2 _ _ hq1, by simp, by simp, by simp, by omega⟩) ?_ ?_
    · rintro i σ' H2 hi ⟨v5, v6, rfl, K2, kp2, ws, hws, ok, nd, len, pos⟩
      refine q_asgCall (ea_cons (ev_var rfl) (ea_cons (ev_var rfl) (ea_cons (ev_var rfl) ea_nil))) fun H3 e3 => ⟨kf, c, m, l, n + 11 * i, rfl, h3, h4, h5, h6, K2.ex e3, by omega, fun x H4 hx K4 kp4 => ?_⟩
      have kp24 : KpK kf H H4 := (kp2.ex e3).trans kp4
      have hws4 : H4 q = some (.lst (wstr ws)) := kp4 _ _ (e3 _ _ hws) hqk
      refine ⟨_, rfl, _, rfl, q, _, rfl, .inl (SqL.of hws4), rfl, flat_wstr ws, _, rfl, ?_⟩
      rw [inV_wstr]
      by_cases hm : x ∈ ws
      · rw [decide_eq_true hm]
        refine iteF ?_
        exact ⟨_, _, rfl, K4.mono (by omega), kp24, ws, hws4, ok, nd, by omega, fun _ => List.length_pos_iff.mpr (List.ne_nil_of_mem hm)⟩
      · rw [decide_eq_false hm]
        refine iteT ?_
        refine s_app hws4 (ev_var rfl) (ev_var rfl) (by rw [List.length_map]; omega) fun H5 e5 => ?_
        refine ⟨_, _, rfl, ((K4.ex e5).put hqk hqc).mono (by omega), fun b o e hb => ?_, ws ++ [x], ?_, ?_, ?_, by rw [List.length_append, List.length_singleton]; omega, fun _ => by rw [List.length_append, List.length_singleton]; omega⟩
        · rw [upd_ne (ne_of_none e hq)]
          exact e5 _ _ (kp24 b o e hb)
        · rw [upd_same]
          show some (HO.lst (wstr ws ++ [.str (tx x)])) = some (HO.lst ((ws ++ [x]).map fun x => V.str (tx x)))
          rw [List.map_append]; rfl
        · intro y hy
          rcases List.mem_append.mp hy with hy | hy
          · exact ok y hy
          · rw [List.mem_singleton.mp hy]; exact hx
        · refine List.nodup_append.mpr ⟨nd, by simp, fun a ha b hb => ?_⟩
          rw [List.mem_singleton.mp hb]
          exact fun z => hm (z ▸ ha)
    · rintro σ' H2 ⟨v5, v6, rfl, K2, kp2, ws, hws, ok, nd, len, pos⟩
      have en : ((kk : Int)).toNat = kk := by omega
      rw [en] at K2 len pos
      exact s_ret (ev_var rfl) fun H3 e3 => k q ws H3 hq ⟨ok, nd, pos h1, len⟩ (e3 _ _ hws) ((K2.ex e3).mono (by omega)) (kp2.ex e3)
end
end K11
end
section
set_option maxRecDepth 100000
set_option maxHeartbeats 4000000
/-! _law_near. -/
namespace K11
open PySem PyProof.Rows L2 Evl
/-- small letters, at most n -/
def Lt (T : List Nat) (n : Nat) : Prop := (∀ c ∈ T, 97 ≤ c ∧ c < 123) ∧ T.length ≤ n
theorem Lt.app {S T : List Nat} {n m : Nat} (h : Lt S n) (h' : Lt T m) : Lt (S ++ T) (n + m) :=
  ⟨fun c hc => (List.mem_append.mp hc).elim (h.1 c) (h'.1 c), by rw [List.length_append]; have := h.2; have := h'.2; omega⟩
theorem Lt.mono {S : List Nat} {n m : Nat} (h : Lt S n) (hm : n ≤ m) : Lt S m := ⟨h.1, Nat.le_trans h.2 hm⟩
theorem Lt.rev {S : List Nat} {n : Nat} (h : Lt S n) : Lt S.reverse n := ⟨fun c hc => h.1 c (List.mem_reverse.mp hc), by rw [List.length_reverse]; exact h.2⟩
def cutL (T : List Nat) (lo hi : Option Int) : List Nat := (T.drop (HT.sIx T.length 0 lo)).take (HT.sIx T.length T.length hi - HT.sIx T.length 0 lo)
theorem Lt.cut {S : List Nat} {n : Nat} (h : Lt S n) (lo hi : Option Int) : Lt (cutL S lo hi) n :=
  ⟨fun c hc => h.1 c (List.mem_of_mem_drop (List.mem_of_mem_take hc)), Nat.le_trans (by unfold cutL; rw [List.length_take, List.length_drop]; omega) h.2⟩
theorem cutL_six (S : List Nat) : (cutL S none (some 6)).length ≤ 6 := by
  unfold cutL
  rw [List.length_take]
  have h1 := HT.sIx_nat S.length S.length 6
  have h2 : HT.sIx S.length S.length (some 6) = min 6 S.length := h1
  rw [h2]
  omega
theorem cutS_tx (T : List Nat) (lo hi : Option Int) : cutS (tx T) lo hi = tx (cutL T lo hi) := by
  unfold cutS cutL
  rw [tx_cps, tx_len]
  rfl
theorem tx_cat (S T : List Nat) : tx S ++ tx T = tx (S ++ T) := SX.S_cat S T
def rCatX : R2 := fun x y H Q => ∃ i j, x = .str i ∧ y = .str j ∧ i.length + j.length ≤ sizeLine ∧ Q (.str (i ++ j)) H
section
variable {σ : L2.St} {H H' : Hp} {ta tb te : TE} {tl th : TO}
/-- it gives a text of at most n small letters -/
def EvW (te : TE) (σ : L2.St) (H : Hp) (n : Nat) : Prop := ∃ T, Lt T n ∧ Ev te σ H (.str (tx T))
theorem ew_var {i : Nat} {T : List Nat} {n : Nat} (h : σ[i]? = some (some (.str (tx T)))) (hT : Lt T n) : EvW (tVar i) σ H n := ⟨T, hT, ev_var h⟩
theorem ew_cat {n m : Nat} (ha : EvW ta σ H n) (hb : EvW tb σ H m) (hn : n + m ≤ 1000) : EvW (tOp rCatX ta tb) σ H (n + m) := by
  obtain ⟨S, hS, ea⟩ := ha
  obtain ⟨T, hT, eb⟩ := hb
  refine ⟨S ++ T, hS.app hT, ev_op ea eb fun H1 _ Q q => ⟨_, _, rfl, rfl, ?_, ?_⟩⟩
  · rw [tx_len, tx_len]
    have := hS.2; have := hT.2
    exact sz_of (by omega)
  · rw [tx_cat]; exact q H1 (Ex.refl _)
theorem ew_sl {n : Nat} {lo hi : Option Int} (ha : EvW ta σ H n) (h1 : EvO tl σ H lo) (h2 : EvO th σ H hi) (hn : n ≤ 1000) : EvW (tSl rSlS ta tl th) σ H n := by
  obtain ⟨S, hS, ea⟩ := ha
  refine ⟨cutL S lo hi, hS.cut lo hi, fun H1 e Q q => ea H1 e _ fun H2 e2 => h1 H2 (e.trans e2) _ fun H3 e3 => h2 H3 ((e.trans e2).trans e3) _ fun H4 e4 => ⟨tx S, rfl, by rw [tx_len]; have := hS.2; exact sz_of (by omega), ?_⟩⟩
  rw [cutS_tx]
  exact q H4 ((e2.trans e3).trans e4)
theorem ew_rev {n : Nat} (ha : EvW ta σ H n) (hn : n ≤ 1000) : EvW (tRevS ta) σ H n := by
  obtain ⟨S, hS, ea⟩ := ha
  exact ⟨S.reverse, hS.rev, ev_revS ea (by have := hS.2; omega)⟩
end
def spNear (K : PySem.W.Frag) : Sp := fun vs H Q _ => ∃ (kf c l : Addr) (ws : List (List Nat)) (n : Nat), vs = [.ref kf, .ref l] ∧ H l = some (.lst (wstr ws)) ∧ l ≠ kf ∧ DrawnL 5 4 ws ∧ KnAt H kf c n ∧ n ≤ 80000 ∧
  ∀ q ws' H', DrawnL 6 5 ws' → H' q = some (.lst (wstr ws')) → q ≠ kf → KnAt H' kf c (n + 4) → KpK kf H H' → Q (.ref q) H'
section
variable {P : Program} {w : World} {K : PySem.W.Frag} {mg : Str → Option Value} {base : Heap}
theorem ok_near {f f1 f2 : Addr} {fd fd1 fd2 : FuncData} (d : Df K mg "_law_near" sNear f fd ["_law_knife_here", "_law_words_here"]) (d1 : Df K mg "_law_cut" sCut f1 fd1 ["_law_knife_here", "_law_many"])
    (d2 : Df K mg "_law_one_of" sOneOf f2 fd2 ["_law_knife_here", "_law_some"]) (B : Bi mg) : FnOk P w K mg base CX0 3 f fd ["_law_knife_here", "_law_words_here"] (spNear K) := by
  have G1 : FnOk P w K mg base CX0 1 f1 fd1 ["_law_knife_here", "_law_many"] spCut := ok_cut d1 B
  have G2 : FnOk P w K mg base CX0 2 f2 fd2 ["_law_knife_here", "_law_some"] (spOne K) := ok_one d2 d1 B
  refine d.F.ok scNear (fun vs H Q E h => ?_) (fun cdv A outer s H vs Q E hr h => ?_)
  · obtain ⟨kf, c, l, ws, n, rfl, _⟩ := h
    rfl
  · obtain ⟨kf, c, l, ws, n, rfl, hl, hlk, hD, hk, hn, k⟩ := h
    refine ⟨_, pss_cons (ps_par (i := 2) (j := 3) rfl scNear.nd rfl rfl (by decide) rfl rfl (pa_cons (pe_call G2 hr rfl d2.m d2.F.kp d2.b .nil pass0 (pa_cons (pv 0) (pa_cons (pv 1) pa_nil))) (pa_cons (pe_call G2 hr rfl d2.m d2.F.kp d2.b .nil pass0 (pa_cons (pv 0) (pa_cons (pv 1) pa_nil))) pa_nil)) rfl)
      (pss_cons (ps_set (i := 4) scNear.nd rfl (.inl rfl) (pe_call G1 (hr.mono (by decide)) rfl d1.m d1.F.kp d1.b .nil pass0 (pa_cons (pv 0) (pa_cons (pe_op op_add (pe_callB call_len_str (by rfl) B.len PySem.boot_len (pa_cons (pv 2) pa_nil)) pe_int) pa_nil))))
      (pss_cons (ps_set (i := 5) scNear.nd rfl (.inl rfl) (pe_lst (pa_cons (pe_op op_add_str (pv 2) (pv 3)) (pa_cons (pe_slice sl_str (pv 2) po_none (po_some (pv 4))) (pa_cons (pe_slice sl_str (pv 2) (po_some (pv 4)) po_none)
        (pa_cons (pe_op op_add_str (pe_op op_add_str (pe_slice sl_str (pv 2) po_none (po_some (pv 4))) pe_str) (pe_slice sl_str (pv 2) (po_some (pv 4)) po_none)) (pa_cons (pe_revS (pv 2))
        (pa_cons (pe_op op_add_str (pe_op op_add_str (pe_slice sl_str (pv 2) po_none (po_some (pv 4))) pe_str) (pe_slice sl_str (pv 2) (po_some (pe_op op_add (pv 4) pe_int)) po_none)) (pa_cons (pv 2) pa_nil)))))))))
      (pss_cons (ps_set (i := 6) scNear.nd rfl (.inl rfl) (pe_slice sl_str (pe_call G2 hr rfl d2.m d2.F.kp d2.b .nil pass0 (pa_cons (pv 0) (pa_cons (pv 5) pa_nil))) po_none (po_some pe_int)))
      (pss_one (ps_ret (pe_ifExp (pw_and (pt_cmpR op_ne (pv 6) pe_str (nomark _)) (pw_and1 (pt_cmpR op_notIn_seq (pv 6) (pv 1) rfl))).pt (pe_op op_cat (pv 1) (pe_lst (pa_cons (pv 6) pa_nil))) (pv 1))))))), ?_⟩
    have lens : 1 ≤ (wstr ws).length ∧ (wstr ws).length ≤ 1000 := by rw [List.length_map]; exact ⟨hD.lo, Nat.le_trans hD.hi (by decide)⟩
    have word : ∀ v ∈ wstr ws, ∃ x, v = .str (tx x) ∧ Lt x 5 := fun v hv => by
      obtain ⟨x, hx, rfl⟩ := List.mem_map.mp hv
      exact ⟨x, rfl, (hD.ok x hx).ab, (hD.ok x hx).hi⟩
    -- one, other
    refine ⟨_, rfl, _, rfl, kf, c, l, _, n, rfl, SqL.of hl, hlk, lens.1, lens.2, hk, by omega, fun v1 H1 hv1 K1 kp1 => ?_⟩
    have hl1 := kp1 _ _ hl hlk
    refine ⟨_, rfl, _, rfl, kf, c, l, _, n + 1, rfl, SqL.of hl1, hlk, lens.1, lens.2, K1, by omega, fun v2 H2 hv2 K2 kp2 => ?_⟩
    have kp02 := kp1.trans kp2
    obtain ⟨x1, rfl, L1⟩ := word v1 hv1
    obtain ⟨x2, rfl, L2'⟩ := word v2 hv2
    refine ⟨_, _, rfl, ?_⟩
    -- at
    refine q_asgCall (vs := [.ref kf, .int ((x1.length + 1 : Nat) : Int)]) (ea_cons (ev_var rfl) (ea_cons (ev_op (ev_lenS (z := x1) (ev_var rfl) (by have := L1.2; omega)) ev_c (rv_I0 (i := (x1.length : Int)) (j := 1))) ea_nil)) fun H3 e3 => ⟨kf, c, x1.length + 1, n + 2, rfl, by omega, by have := L1.2; omega, K2.ex e3, by omega, fun r H4 hr4 K4 kp4 => ?_⟩
    have kp04 := (kp02.ex e3).trans kp4
    -- some
    have σ4 : True := trivial
    have w2 : ∀ {H5 : Hp}, EvW (tVar 2) [some (.ref kf), some (.ref l), some (.str (tx x1)), some (.str (tx x2)), some (.int (r : Nat)), none, none] H5 5 := ew_var rfl L1
    have w3 : ∀ {H5 : Hp}, EvW (tVar 3) [some (.ref kf), some (.ref l), some (.str (tx x1)), some (.str (tx x2)), some (.int (r : Nat)), none, none] H5 5 := ew_var rfl L2'
    have wa : ∀ {H5 : Hp}, EvW (tC (.str "a")) [some (.ref kf), some (.ref l), some (.str (tx x1)), some (.str (tx x2)), some (.int (r : Nat)), none, none] H5 1 := ⟨[97], ⟨by simp, by decide⟩, by
      have e : (tx [97] : Str) = "a" := by decide +kernel
      rw [e]; exact ev_c⟩
    have wb : ∀ {H5 : Hp}, EvW (tC (.str "b")) [some (.ref kf), some (.ref l), some (.str (tx x1)), some (.str (tx x2)), some (.int (r : Nat)), none, none] H5 1 := ⟨[98], ⟨by simp, by decide⟩, by
      have e : (tx [98] : Str) = "b" := by decide +kernel
      rw [e]; exact ev_c⟩
    have hi4 : ∀ {H5 : Hp}, EvO (tPart (tVar 4)) [some (.ref kf), some (.ref l), some (.str (tx x1)), some (.str (tx x2)), some (.int (r : Nat)), none, none] H5 (some (r : Int)) := eo_some (ev_var rfl)
    have hi5 : ∀ {H5 : Hp}, EvO (tPart (tOp (rI0 fun i j => .int (i + j)) (tVar 4) (tC (.int 1)))) [some (.ref kf), some (.ref l), some (.str (tx x1)), some (.str (tx x2)), some (.int (r : Nat)), none, none] H5 (some ((r : Int) + 1)) := eo_some (ev_op (ev_var rfl) ev_c rv_I0)
    obtain ⟨T1, t1, v1'⟩ := ew_cat (H := H4) w2 w3 (by decide)
    obtain ⟨T2, t2, v2'⟩ := ew_sl (H := H4) w2 eo_none hi4 (by decide)
    obtain ⟨T3, t3, v3'⟩ := ew_sl (H := H4) w2 hi4 eo_none (by decide)
    obtain ⟨T4, t4, v4'⟩ := ew_cat (ew_cat (ew_sl (H := H4) w2 eo_none hi4 (by decide)) wa (by decide)) (ew_sl w2 hi4 eo_none (by decide)) (by decide)
    obtain ⟨T5, t5, v5'⟩ := ew_rev (H := H4) w2 (by decide)
    obtain ⟨T6, t6, v6'⟩ := ew_cat (ew_cat (ew_sl (H := H4) w2 eo_none hi4 (by decide)) wb (by decide)) (ew_sl w2 hi5 eo_none (by decide)) (by decide)
    obtain ⟨T7, t7, v7'⟩ := w2 (H5 := H4)
    refine q_asgL (el_lst (ea_cons v1' (ea_cons v2' (ea_cons v3' (ea_cons v4' (ea_cons v5' (ea_cons v6' (ea_cons v7' ea_nil))))))) (by show 7 ≤ 100000; decide)) fun p H5 hp e5 h5 => ?_
    have hpk : p ≠ kf := fun z => by
      obtain ⟨xs, g⟩ := K4.lst
      rw [← z, hp] at g; cases g
    have hl4 : H4 l = some (.lst (wstr ws)) := kp04 _ _ hl hlk
    -- new
    refine ⟨_, rfl, _, rfl, kf, c, p, _, n + 3, rfl, SqL.of h5, hpk, by show 1 ≤ 7; decide, by show 7 ≤ 1000; decide, K4.ex e5, by omega, fun v H6 hv K6 kp6 => ?_⟩
    obtain ⟨T, rfl, LT⟩ : ∃ T, v = .str (tx T) ∧ Lt T 20 := by
      simp only [List.mem_cons, List.not_mem_nil, or_false] at hv
      rcases hv with rfl | rfl | rfl | rfl | rfl | rfl | rfl
      · exact ⟨_, rfl, t1.mono (by decide)⟩
      · exact ⟨_, rfl, t2.mono (by decide)⟩
      · exact ⟨_, rfl, t3.mono (by decide)⟩
      · exact ⟨_, rfl, t4.mono (by decide)⟩
      · exact ⟨_, rfl, t5.mono (by decide)⟩
      · exact ⟨_, rfl, t6.mono (by decide)⟩
      · exact ⟨_, rfl, t7.mono (by decide)⟩
    refine ⟨6, rfl, tx T, rfl, by rw [tx_len]; have := LT.2; exact sz_of (by omega), ?_⟩
    rw [cutS_tx]
    have LN : Lt (cutL T none (some 6)) 6 := ⟨(LT.cut none (some 6)).1, cutL_six T⟩
    generalize cutL T none (some 6) = N at LN ⊢
    have kp06 := (kp04.ex e5).trans kp6
    have hl6 := kp6 _ _ (e5 _ _ hl4) hlk
    -- return
    refine ⟨_, rfl, rfl, _, rfl, ?_⟩
    by_cases hN : N = []
    · have : decide (V.str (tx N) = V.str "") = true := decide_eq_true (by rw [hN]; rfl)
      rw [this]
      refine iteF ?_
      refine iteF ?_
      exact ⟨_, rfl, k l ws H6 ⟨fun x hx => ⟨(hD.ok x hx).lo, Nat.le_trans (hD.ok x hx).hi (by decide), (hD.ok x hx).ab⟩, hD.nd, hD.lo, Nat.le_trans hD.hi (by decide)⟩ hl6 hlk K6 kp06⟩
    · have : decide (V.str (tx N) = V.str "") = false := decide_eq_false fun z => hN (by
        injection z with z
        exact tx_inj.mp (z.trans (show ("" : Str) = tx [] by decide +kernel)))
      rw [this]
      refine iteT ?_
      refine ⟨_, rfl, _, rfl, l, _, rfl, .inl (SqL.of hl6), rfl, flat_wstr ws, _, rfl, ?_⟩
      rw [inV_wstr]
      by_cases hm : N ∈ ws
      · rw [decide_eq_true hm]
        refine iteF ?_
        exact ⟨_, rfl, k l ws H6 ⟨fun x hx => ⟨(hD.ok x hx).lo, Nat.le_trans (hD.ok x hx).hi (by decide), (hD.ok x hx).ab⟩, hD.nd, hD.lo, Nat.le_trans hD.hi (by decide)⟩ hl6 hlk K6 kp06⟩
      · rw [decide_eq_false hm]
        refine iteT ?_
        refine ⟨_, rfl, _, rfl, by show 1 ≤ sizeLine; decide, fun b hb => ?_⟩
        have hl7 : (upd H6 b (.lst [.str (tx N)])) l = some (.lst (wstr ws)) := by rw [upd_ne (ne_of_none hl6 hb)]; exact hl6
        refine ⟨l, b, _, _, rfl, rfl, hl7, upd_same, by rw [List.length_map]; show ws.length + 1 ≤ sizeLine; have := hD.hi; unfold sizeLine; omega, fun q hq => ?_⟩
        have eF : Ex H6 (upd (upd H6 b (.lst [.str (tx N)])) q (.lst (wstr ws ++ [.str (tx N)]))) := (Ex.new hb).trans (Ex.new hq)
        have hqk : q ≠ kf := fun z => by
          obtain ⟨xs, g⟩ := (K6.ex (Ex.new (o := .lst [.str (tx N)]) hb)).lst
          rw [← z, hq] at g; cases g
        refine k q (ws ++ [N]) _ ⟨fun x hx => ?_, ?_, by rw [List.length_append]; have := hD.lo; omega, by rw [List.length_append, List.length_singleton]; have := hD.hi; omega⟩ ?_ hqk (K6.ex eF) (kp06.ex eF)
        · rcases List.mem_append.mp hx with hx | hx
          · exact ⟨(hD.ok x hx).lo, Nat.le_trans (hD.ok x hx).hi (by decide), (hD.ok x hx).ab⟩
          · rw [List.mem_singleton.mp hx]
            exact ⟨List.length_pos_iff.mpr hN, LN.2, LN.1⟩
        · refine List.nodup_append.mpr ⟨hD.nd, by simp, fun a ha b hb => ?_⟩
          rw [List.mem_singleton.mp hb]
          exact fun z => hm (z ▸ ha)
        · rw [upd_same]
          show some (HO.lst (wstr ws ++ [.str (tx N)])) = some (HO.lst ((ws ++ [N]).map fun x => V.str (tx x)))
          rw [List.map_append]; rfl
end
end K11
end
section
set_option maxRecDepth 100000
set_option maxHeartbeats 4000000
/-! _law_stretch_costs. -/
namespace K11
open PySem PyProof.Rows L2 Evl
/-- a value that is a pair of two numbers -/
def IsPr (H : Hp) (v : V) (t : Nat × Nat) : Prop := ∃ r, v = .ref r ∧ H r = some (.tup [.int (t.1 : Int), .int (t.2 : Int)])
theorem IsPr.ex {H H' : Hp} {v : V} {t : Nat × Nat} (e : Ex H H') (h : IsPr H v t) : IsPr H' v t := let ⟨r, a, b⟩ := h; ⟨r, a, e _ _ b⟩
theorem IsPr.upd {H : Hp} {v : V} {t : Nat × Nat} {q : Addr} {xs : List V} {o : HO} (h : IsPr H v t) (hq : H q = some (.lst xs)) : IsPr (upd H q o) v t := by
  obtain ⟨r, a, b⟩ := h
  exact ⟨r, a, by rw [upd_ne (ne_of b hq (by intro z; cases z))]; exact b⟩
def PairsAt (H : Hp) (q : Addr) (ps : List (Nat × Nat)) : Prop := ∃ xs, H q = some (.lst xs) ∧ Paired (IsPr H) xs ps
theorem PairsAt.ex {H H' : Hp} {q : Addr} {ps : List (Nat × Nat)} (e : Ex H H') (h : PairsAt H q ps) : PairsAt H' q ps := let ⟨xs, a, b⟩ := h; ⟨xs, e _ _ a, Paired.mapP b fun _ _ z => z.ex e⟩
def spStretch : Sp := fun vs H Q _ => ∃ (T w : List Nat) (M b : Nat), vs = [.str (tx T), .str (tx w), .int (M : Int), .int (b : Int)] ∧ T.length ≤ 5000 ∧ w.length ≤ 100 ∧ M ≤ 100 ∧ b ≤ T.length ∧
  ∀ q H', H q = none → Ex H H' → PairsAt H' q ((ends T w M b).map fun e => (e, strC T w b e)) → Q (.ref q) H'
theorem edL_0 (T W : List Nat) (b j : Nat) : edL T W b 0 j = j := by unfold edL; simp [ed]
theorem edL_s0 (T W : List Nat) (b n : Nat) : edL T W b (n + 1) 0 = n + 1 := by unfold edL; simp [ed]
theorem edL_ss (T W : List Nat) (b n j : Nat) : edL T W b (n + 1) (j + 1) = min (min (edL T W b n (j + 1) + 1) (edL T W b (n + 1) j + 1)) (edL T W b n j + if at_ T (b + n) = at_ W j then 0 else 1) := by unfold edL; simp [ed]
/-- the row of the distances behind n signs -/
def rowE (T W : List Nat) (b n m : Nat) : List V := (List.range m).map fun j => V.int ((edL T W b n j : Nat) : Int)
theorem rowE_len (T W : List Nat) (b n m : Nat) : (rowE T W b n m).length = m := by simp [rowE]
theorem rowE_at {T W : List Nat} {b n m j : Nat} (h : j < m) : (rowE T W b n m)[j]? = some (.int ((edL T W b n j : Nat) : Int)) := by
  unfold rowE
  rw [List.getElem?_map, List.getElem?_range h]; rfl
theorem rowE_succ (T W : List Nat) (b n m : Nat) : rowE T W b n (m + 1) = rowE T W b n m ++ [.int ((edL T W b n m : Nat) : Int)] := by
  unfold rowE
  rw [List.range_succ, List.map_append]; rfl
def cutBB (T : List Nat) (e : Nat) : Bool := decide (e < T.length) && !decide (at_ T e = 32)
theorem cutBB_cut (T : List Nat) (e : Nat) : (if cutBB T e = true then (1 : Int) else 0) = ((cutB T e : Nat) : Int) := by
  unfold cutBB cutB
  by_cases h : e < T.length ∧ at_ T e ≠ 32
  · rw [if_pos h, if_pos (by simp only [Bool.and_eq_true, decide_eq_true_eq, Bool.not_eq_true', decide_eq_false_iff_not]; exact h)]; rfl
  · rw [if_neg h, if_neg (by simp only [Bool.and_eq_true, decide_eq_true_eq, Bool.not_eq_true', decide_eq_false_iff_not]; exact h)]; rfl
section
variable {P : Program} {w : World} {K : PySem.W.Frag} {mg : Str → Option Value} {base : Heap}
theorem ok_stretch {f : Addr} {fd : FuncData} (d : Df K mg "_law_stretch_costs" sStretch f fd ["_law_text", "_law_word_here", "_law_most", "_law_begin"]) (B : Bi mg) :
    FnOk P w K mg base CX0 1 f fd ["_law_text", "_law_word_here", "_law_most", "_law_begin"] spStretch := by
  refine d.F.ok scStretch (fun vs H Q E h => ?_) (fun cdv A outer s H vs Q E hr h => ?_)
  · obtain ⟨T, W, M, b, rfl, _⟩ := h
    rfl
  · obtain ⟨T, W, M, b, rfl, hT, hW, hM, hb, k⟩ := h
    refine ⟨_, pss_cons (ps_set (i := 4) scStretch.nd rfl (.inl rfl) (pe_callTy call_int1 (by rfl) B.int PyProof.Rows.boot_int (pa_cons (pe_and (pe_cmpR op_gt (pv 3) pe_int (nomark _)) (pe_one (pe_cmpR op_ne (pe_ix ix_str (pv 0) (pe_op op_sub (pv 3) pe_int) (fun _ _ => rfl)) pe_str (nomark _)))) pa_nil)))
      (pss_cons (ps_par (i := 5) (j := 6) rfl scStretch.nd rfl rfl (by decide) rfl rfl (pa_cons (pe_listRg rfl (by rfl) B.list (prg_1 (by rfl) B.range (pe_op op_add (pe_callB call_len_str (by rfl) B.len PySem.boot_len (pa_cons (pv 1) pa_nil)) pe_int))) (pa_cons (pe_lst pa_nil) pa_nil)) rfl)
      (pss_cons (ps_for PassesOwn.never rfl (pi_range2 rfl B.range (pa_cons (pv 3) (pa_cons (pe_op op_add (pe_callB (call_min2 rfl) (by rfl) B.min (by decide +kernel) (pa_cons (pe_callB call_len_str (by rfl) B.len PySem.boot_len (pa_cons (pv 0) pa_nil))
            (pa_cons (pe_op op_add (pe_op op_add (pv 3) (pe_callB call_len_str (by rfl) B.len PySem.boot_len (pa_cons (pv 1) pa_nil))) (pv 2)) pa_nil))) pe_int) pa_nil))) (pg_name (i := 7) scStretch.nd rfl (.inl rfl))
        (pss_cut (ps_if (pt_cmpR op_gt (pv 7) (pv 3) (nomark _))
          (pss_cons (ps_set (i := 8) scStretch.nd rfl (.inl rfl) (pv 5))
          (pss_cons (ps_set (i := 5) scStretch.nd rfl (.inl rfl) (pe_lst (pa_cons (pe_op op_sub (pv 7) (pv 3)) pa_nil)))
          (pss_one (ps_for PassesOwn.never rfl (pi_enumS (by rfl) B.enumerate (pa_cons (pv 1) pa_nil)) (pg_tup rfl (pgs_cons (pg_name (i := 9) scStretch.nd rfl (.inl rfl)) (pgs_cons (pg_name (i := 10) scStretch.nd rfl (.inl rfl)) pgs_nil)))
            (pss_one (ps_expr (pe_bm PySem.F.plainAttrs_list PySem.F.slot_list_append PySem.F.type_list_append mt_append (pv 5) (pa_cons (pe_callB (call_min3 rfl) (by rfl) B.min (by decide +kernel)
              (pa_cons (pe_op op_add (pe_ix ix_list (pv 8) (pe_op op_add (pv 9) pe_int) (fun _ _ => rfl)) pe_int) (pa_cons (pe_op op_add (pe_ix ix_list (pv 5) (pv 9) (fun _ _ => rfl)) pe_int)
              (pa_cons (pe_op op_add (pe_ix ix_list (pv 8) (pv 9) (fun _ _ => rfl)) (pe_callTy call_int1 (by rfl) B.int PyProof.Rows.boot_int (pa_cons (pe_cmpR op_ne (pe_ix ix_str (pv 0) (pe_op op_sub (pv 7) pe_int) (fun _ _ => rfl)) (pv 10) (nomark _)) pa_nil))) pa_nil)))) pa_nil)))))))) pss_nil)
        (pss_one (ps_expr (pe_bm PySem.F.plainAttrs_list PySem.F.slot_list_append PySem.F.type_list_append mt_append (pv 6) (pa_cons (pe_tup (pa_cons (pv 7) (pa_cons
          (pe_op op_add (pe_op op_add (pe_ix ix_list (pv 5) (pe_un un_neg pe_int) (fun _ _ => rfl)) (pv 4)) (pe_callTy call_int1 (by rfl) B.int PyProof.Rows.boot_int (pa_cons (pe_and (pe_cmpR op_lt (pv 7) (pe_callB call_len_str (by rfl) B.len PySem.boot_len (pa_cons (pv 0) pa_nil)) (nomark _))
            (pe_one (pe_cmpR op_ne (pe_ix ix_str (pv 0) (pv 7) (fun _ _ => rfl)) pe_str (nomark _)))) pa_nil))) pa_nil))) pa_nil))))))
      (pss_one (ps_ret (pv 6))))), ?_⟩
    have lenT : ∀ {σ : L2.St} {H : Hp}, σ[0]? = some (some (.str (tx T))) → Ev (tCB (fun xs H Q => ∃ z, xs = [.str z] ∧ z.length ≤ sizeLine ∧ Q (.int z.length) H) (tCons (tVar 0) tNil)) σ H (.int (T.length : Nat)) := fun h => ev_lenS (ev_var h) (by omega)
    have lenW : ∀ {σ : L2.St} {H : Hp}, σ[1]? = some (some (.str (tx W))) → Ev (tCB (fun xs H Q => ∃ z, xs = [.str z] ∧ z.length ≤ sizeLine ∧ Q (.int z.length) H) (tCons (tVar 1) tNil)) σ H (.int (W.length : Nat)) := fun h => ev_lenS (ev_var h) (by omega)
    -- ahead
    refine q_asg (v := .int ((cutA T b : Nat) : Int)) (ev_is (ev_intB (b := isC T b) (ev_andV (a := decide (0 < b)) (b := !decide (at_ T (b - 1) = 32)) (ev_is (ev_op (ev_var rfl) ev_c (rv_I0 (i := (b : Int)) (j := 0))) (by congr 1; rw [decide_eq_decide]; omega)) fun h0 => ?_)) (by rw [isC_cut])) fun H1 e1 => ?_
    · have hb0 : 0 < b := of_decide_eq_true h0
      refine ev_is (ev_op (ev_op (ev_var rfl) (ev_op (ev_var rfl) ev_c (rv_I0 (i := (b : Int)) (j := 1))) (rv_ixS (w := tx T) (c := at_ T (b - 1)) (by rw [tx_len]; omega) ?_)) ev_c (rv_ne rfl)) ?_
      · rw [tx_cps, show ((b : Int) - 1) = ((b - 1 : Nat) : Int) by omega]
        exact atI_in (at_get (by omega))
      · congr 2
        rw [decide_eq_decide, blank_chr]
        exact chr1_inj
    -- row, found
    refine (show Ev (tOp (rI0 fun i j => .int (i + j)) (tCB (fun xs H Q => ∃ z, xs = [.str z] ∧ z.length ≤ sizeLine ∧ Q (.int z.length) H) (tCons (tVar 1) tNil)) (tC (.int 1))) [some (.str (tx T)), some (.str (tx W)), some (.int (M : Nat)), some (.int (b : Nat)), some (.int ((cutA T b : Nat) : Int)), none, none, none, none, none, none] H1 (.int ((W.length : Int) + 1)) from ev_op (lenW rfl) ev_c rv_I0) H1 (Ex.refl _) _ fun H2 e2 => ?_
    refine ⟨(W.length : Int) + 1, rfl, RgOk.of_le (by omega) (by omega) (by omega) (by omega), fun r0 hr0 => ?_⟩
    have e3 : Ex H2 (upd H2 r0 (.lst (rgV 0 ((W.length : Int) + 1)))) := Ex.new hr0
    refine ⟨by show 0 ≤ sizeLine; decide, fun q hq => ⟨_, _, rfl, ?_⟩⟩
    have hrow0 : rgV 0 ((W.length : Int) + 1) = rowE T W b 0 (W.length + 1) := by
      unfold rgV rowE
      have : ((W.length : Int) + 1 - 0).toNat = W.length + 1 := by omega
      rw [this]
      refine List.map_congr_left fun j _ => ?_
      rw [edL_0]
      congr 1
      omega
    have hq0 : H q = none := fresh_back ((e1.trans e2).trans e3) hq
    have e4 : Ex H (upd (upd H2 r0 (.lst (rgV 0 ((W.length : Int) + 1)))) q (.lst [])) := ((e1.trans e2).trans e3).trans (Ex.new hq)
    have hr0q : r0 ≠ q := fun z => by rw [← z, upd_same] at hq; cases hq
    have hrowS : (upd (upd H2 r0 (.lst (rgV 0 ((W.length : Int) + 1)))) q (.lst [])) r0 = some (.lst (rowE T W b 0 (W.length + 1))) := by rw [upd_ne hr0q, upd_same, hrow0]
    generalize hG : upd (upd H2 r0 (.lst (rgV 0 ((W.length : Int) + 1)))) q (.lst []) = G0 at e4 hrowS ⊢
    have hqG : G0 q = some (.lst []) := by rw [← hG]; exact upd_same
    generalize hN : min T.length (b + W.length + M) = N0
    have hmin : ∀ {H5 : Hp} {σ : L2.St}, σ[0]? = some (some (.str (tx T))) → σ[1]? = some (some (.str (tx W))) → σ[2]? = some (some (.int (M : Nat))) → σ[3]? = some (some (.int (b : Nat))) →
        Ev (tCB (fun xs H Q => ∃ i j, xs = [.int i, .int j] ∧ Q (.int (if j < i then j else i)) H) (tCons (tCB (fun xs H Q => ∃ z, xs = [.str z] ∧ z.length ≤ sizeLine ∧ Q (.int z.length) H) (tCons (tVar 0) tNil))
          (tCons (tOp (rI0 fun i j => .int (i + j)) (tOp (rI0 fun i j => .int (i + j)) (tVar 3) (tCB (fun xs H Q => ∃ z, xs = [.str z] ∧ z.length ≤ sizeLine ∧ Q (.int z.length) H) (tCons (tVar 1) tNil))) (tVar 2)) tNil))) σ H5 (.int (N0 : Nat)) := fun {H5 σ} h0 h1 h2 h3 =>
      ev_cb (ea_cons (lenT h0) (ea_cons (ev_op (ev_op (ev_var h3) (lenW h1) rv_I0) (ev_var h2) rv_I0) ea_nil)) fun H6 _ Q q => ⟨_, _, rfl, by
        have : (if (b : Int) + (W.length : Int) + (M : Int) < (T.length : Int) then (b : Int) + (W.length : Int) + (M : Int) else (T.length : Int)) = ((N0 : Nat) : Int) := by
          rw [← hN]
          split <;> omega
        rw [this]
        exact q H6 (Ex.refl _)⟩
    -- for end in range(begin, min(..) + 1)
    refine q_forR2 (lo := (b : Int)) (n := (N0 : Int) + 1) (ea_cons (ev_var rfl) (ea_cons (ev_op (hmin rfl rfl rfl rfl) ev_c rv_I0) ea_nil)) ⟨by omega, by omega, by omega, by omega⟩
      (fun i σ' H' => ∃ r v7 v8 v9 v10, σ' = [some (.str (tx T)), some (.str (tx W)), some (.int (M : Nat)), some (.int (b : Nat)), some (.int ((cutA T b : Nat) : Int)), some (.ref r), some (.ref q), v7, v8, v9, v10] ∧ Ex H H' ∧ r ≠ q ∧
        H' r = some (.lst (rowE T W b (i - 1) (W.length + 1))) ∧ PairsAt H' q ((List.range i).map fun i => (b + i, strC T W b (b + i))))
      (fun H5 e5 => ⟨r0, _, _, _, _, rfl, e4.trans e5, hr0q, e5 _ _ hrowS, [], e5 _ _ hqG, .nil⟩) ?_ ?_
    · rintro i σ' H5 hi ⟨r, v7, v8, v9, v10, rfl, e5, hrq, hr5, hp5⟩
      have hiN : b + i ≤ N0 := by omega
      have hiT : b + i ≤ T.length := by rw [← hN] at hiN; omega
      refine q_cut (M := fun σ2 H2 => ∃ r v8 v9 v10, σ2 = [some (.str (tx T)), some (.str (tx W)), some (.int (M : Nat)), some (.int (b : Nat)), some (.int ((cutA T b : Nat) : Int)), some (.ref r), some (.ref q), some (.int ((b : Int) + (i : Nat))), v8, v9, v10] ∧ Ex H5 H2 ∧ r ≠ q ∧ H2 r = some (.lst (rowE T W b i (W.length + 1)))) ?_ ?_
      · refine s_when (b := decide (0 < i)) (et_test (ev_is (ev_op (ev_var rfl) (ev_var rfl) (rv_I0 (i := (b : Int) + (i : Nat)) (j := (b : Int)))) (by congr 1; rw [decide_eq_decide]; omega))) (fun hb0 H6 e6 => ?_) (fun hb0 H6 e6 => ?_)
        · have h0 : 0 < i := of_decide_eq_true hb0
          obtain ⟨n, rfl⟩ : ∃ n, i = n + 1 := ⟨i - 1, by omega⟩
          have hr6 := e6 _ _ hr5
          have hq6 : ∃ xs, H6 q = some (.lst xs) := let ⟨xs, z, _⟩ := hp5; ⟨xs, e6 _ _ z⟩
          refine q_asg (ev_var rfl) fun H7 e7 => ?_
          refine q_asgL (xs := rowE T W b (n + 1) 1) (by
            have := el_lst (σ := [some (.str (tx T)), some (.str (tx W)), some (.int (M : Nat)), some (.int (b : Nat)), some (.int ((cutA T b : Nat) : Int)), some (.ref r), some (.ref q), some (.int ((b : Int) + ((n + 1 : Nat) : Int))), some (.ref r), v9, v10]) (H := H7) (ea_cons (ev_op (ev_var (i := 7) rfl) (ev_var (i := 3) rfl) (rv_I0 (g := fun i j => .int (i - j)) (i := (b : Int) + ((n + 1 : Nat) : Int)) (j := (b : Int)))) ea_nil) (by show 1 ≤ 100000; decide)
            have e : rowE T W b (n + 1) 1 = [.int ((b : Int) + ((n + 1 : Nat) : Int) - (b : Int))] := by
              unfold rowE
              show [V.int ((edL T W b (n + 1) 0 : Nat) : Int)] = _
              rw [edL_s0]
              congr 2
              omega
            rw [e]
            exact this) fun p H8 hp e8 hp8 => ?_
          have hpq : p ≠ q := fun z => by
            obtain ⟨xs, g⟩ := hq6
            rw [z, e7 _ _ g] at hp; cases hp
          have hr7 := e7 _ _ hr6
          -- for at, letter in enumerate(word)
          refine ⟨_, rfl, tx W, rfl, ?_⟩
          have hsz : (tx W).cps.size = W.length := tx_len W
          refine for_it (walk_enumS (z := tx W)) (fun j σ' H' => ∃ v9 v10, σ' = [some (.str (tx T)), some (.str (tx W)), some (.int (M : Nat)), some (.int (b : Nat)), some (.int ((cutA T b : Nat) : Int)), some (.ref p), some (.ref q), some (.int ((b : Int) + ((n + 1 : Nat) : Int))), some (.ref r), v9, v10] ∧
              Ex H7 H' ∧ H' p = some (.lst (rowE T W b (n + 1) (j + 1)))) ⟨_, _, rfl, e8, hp8⟩ (fun _ _ _ _ _ => trivial) ?_ ?_
          · rintro j x σ' H9 H10 hj ⟨v9, v10, rfl, e9, hp9⟩ ⟨Tp, y1, y2, rfl, hTp, rfl, hy1, hy2⟩
            rw [hsz] at hj
            cases hy1
            have hWj : (tx W).cps[j]? = some (at_ W j) := by
              have : (tx W).cps[j]? = W[j]? := by simp [tx]
              rw [this]; exact at_get hj
            have hy3 : y2 = .str ⟨#[at_ W j]⟩ := by
              have hy2 : ((tx W).cps[j]?.map fun c => V.str ⟨#[c]⟩) = some y2 := hy2
              rw [hWj] at hy2
              exact (Option.some.inj hy2).symm
            subst hy3
            refine ⟨Tp, _, rfl, SqT.of upd_same, rfl, _, _, rfl, _, _, rfl, rfl, ?_⟩
            have e10 : Ex H9 (upd H9 Tp (.tup [.int (j : Nat), .str ⟨#[at_ W j]⟩])) := Ex.new hTp
            have hp10 := e10 _ _ hp9
            have hr10 := e10 _ _ (e9 _ _ hr7)
            generalize upd H9 Tp (.tup [.int (j : Nat), .str ⟨#[at_ W j]⟩]) = H10 at e10 hp10 hr10 ⊢
            refine s_app hp10 (ev_var rfl) (v := .int ((edL T W b (n + 1) (j + 1) : Nat) : Int)) (ev_cb (ea_cons (ev_op (ev_op (ev_var rfl) (ev_op (ev_var rfl) ev_c (rv_I0 (i := (j : Int)) (j := 1))) (rv_ixL (v := .int ((edL T W b n (j + 1) : Nat) : Int)) (SqL.of hr10) (by
                rw [show ((j : Int) + 1) = ((j + 1 : Nat) : Int) by omega]
                exact atI_in (rowE_at (by omega))))) ev_c rv_I0)
              (ea_cons (ev_op (ev_op (ev_var rfl) (ev_var rfl) (rv_ixL (v := .int ((edL T W b (n + 1) j : Nat) : Int)) (SqL.of hp10) (atI_in (rowE_at (by omega))))) ev_c rv_I0)
              (ea_cons (ev_op (ev_op (ev_var rfl) (ev_var rfl) (rv_ixL (v := .int ((edL T W b n j : Nat) : Int)) (SqL.of hr10) (atI_in (rowE_at (by omega))))) (ev_intB (b := !decide (at_ T (b + n) = at_ W j)) (ev_is (ev_op (ev_op (ev_var rfl) (ev_op (ev_var rfl) ev_c (rv_I0 (i := (b : Int) + ((n + 1 : Nat) : Int)) (j := 1))) (rv_ixS (w := tx T) (c := at_ T (b + n)) (by rw [tx_len]; omega) (by
                rw [tx_cps, show ((b : Int) + ((n + 1 : Nat) : Int) - 1) = ((b + n : Nat) : Int) by omega]
                exact atI_in (at_get (by omega))))) (ev_var rfl) (rv_ne rfl)) (by congr 2; rw [decide_eq_decide]; exact chr1_inj))) rv_I0) ea_nil))) fun H11 _ Q q => ⟨_, _, _, rfl, ?_⟩) (by rw [rowE_len]; omega) fun H11 e11 => ?_
            · rw [sub_cost]
              have : min (min (((edL T W b n (j + 1) : Nat) : Int) + 1) (((edL T W b (n + 1) j : Nat) : Int) + 1)) (((edL T W b n j : Nat) : Int) + ((if at_ T (b + n) = at_ W j then 0 else 1 : Nat) : Int)) = ((edL T W b (n + 1) (j + 1) : Nat) : Int) := by
                rw [edL_ss]
                omega
              rw [this]
              exact q H11 (Ex.refl _)
            · exact ⟨_, _, rfl, ((e9.trans e10).trans e11).mut hp, by rw [upd_same, rowE_succ T W b (n + 1) (j + 1)]⟩
          · rintro σ' H9 ⟨v9, v10, rfl, e9, hp9⟩
            rw [hsz] at hp9
            exact ⟨p, _, _, _, rfl, (e6.trans e7).trans e9, hpq, hp9⟩
        · have h0 : ¬ 0 < i := of_decide_eq_false hb0
          have : i = 0 := by omega
          subst this
          exact ⟨r, _, _, _, rfl, e6, hrq, e6 _ _ hr5⟩
      · rintro σ2 H6 ⟨r2, v8, v9, v10, rfl, e6, hr2q, hr6⟩
        obtain ⟨xs, g1, g2⟩ := hp5.ex e6
        have hlast : atI (rowE T W b i (W.length + 1)) (-1) = some (.int ((edL T W b i W.length : Nat) : Int)) := atI_last (by rw [rowE_len]; exact rowE_at (by omega))
        refine s_appU g1 (ev_var rfl) (ys := [.int (((b + i : Nat) : Nat) : Int), .int ((strC T W b (b + i) : Nat) : Int)]) (eu_tup (ea_cons (ev_is (ev_var rfl) (by congr 1)) (ea_cons (ev_is (ev_op (ev_op (ev_op (ev_var rfl) (ev_un ev_c (ru_neg (i := 1))) (rv_ixL (SqL.of hr6) hlast)) (ev_var rfl) rv_I0)
          (ev_intB (b := cutBB T (b + i)) (ev_andV (a := decide (b + i < T.length)) (b := !decide (at_ T (b + i) = 32)) (ev_is (ev_op (ev_var rfl) (lenT rfl) (rv_I0 (i := (b : Int) + (i : Nat)) (j := (T.length : Int)))) (by congr 1; rw [decide_eq_decide]; omega)) fun hlt => ?_)) rv_I0) ?_) ea_nil)) (by show 2 ≤ 100000; decide)) (by have := Paired.length g2; rw [List.length_map, List.length_range] at this; omega) fun t H7 ht e7 ht7 => ?_
        · have hlt' : b + i < T.length := of_decide_eq_true hlt
          refine ev_is (ev_op (ev_op (ev_var rfl) (ev_var rfl) (rv_ixS (w := tx T) (c := at_ T (b + i)) (by rw [tx_len]; omega) (by
            rw [tx_cps, show ((b : Int) + (i : Nat)) = ((b + i : Nat) : Int) by omega]
            exact atI_in (at_get hlt')))) ev_c (rv_ne rfl)) ?_
          congr 2
          rw [decide_eq_decide, blank_chr]
          exact chr1_inj
        · rw [cutBB_cut]
          unfold strC
          rw [show b + i - b = i by omega]
          push_cast
          rfl
        · refine ⟨r2, _, _, _, _, rfl, ((e5.trans e6).trans e7).mut hq0, hr2q, ?_, _, upd_same, ?_⟩
          · rw [upd_ne hr2q, Nat.add_sub_cancel]
            exact e7 _ _ hr6
          · rw [List.range_succ, List.map_append]
            refine Paired.mapP (paired_app (Paired.mapP g2 fun _ _ z => z.ex e7) (.cons ⟨t, rfl, ht7⟩ .nil)) fun v p z => ?_
            exact z.upd (e7 _ _ g1)
    · rintro σ' H5 ⟨r, v7, v8, v9, v10, rfl, e5, hrq, hr5, hp5⟩
      have hlen : ((N0 : Int) + 1 - (b : Int)).toNat = N0 + 1 - b := by omega
      rw [hlen] at hp5
      refine s_ret (ev_var rfl) fun H6 e6 => k q H6 hq0 (e5.trans e6) (PairsAt.ex e6 ?_)
      unfold ends
      rw [List.map_map, hN]
      exact hp5
end
end K11
end
section
set_option maxRecDepth 100000
set_option maxHeartbeats 4000000
/-! _law_triple_cost. -/
namespace K11
open PySem PyProof.Rows L2 Evl
def spTripC : Sp := fun vs H Q _ => ∃ (f s w : List Nat) (M : Nat), vs = [.str (tx f), .str (tx s), .str (tx w), .int (M : Int)] ∧ f.length ≤ 12 ∧ s.length ≤ 12 ∧ w.length ≤ 12 ∧ M ≤ 20 ∧ RetV (.int ((lawC f s w M : Nat) : Int)) H Q
abbrev vnat (l : List Nat) : List V := l.map fun (c : Nat) => V.int (c : Int)
/-- the costs that one begin tells -/
def costsB (f s w : List Nat) (M b : Nat) : List Nat := ((ends (lawT f s w M) w M b).filter fun e => decide (f = s) || decide ((lawAhead f w M).length < e)).map fun e => strC (lawT f s w M) w b e
theorem lawCosts_eq (f s w : List Nat) (M : Nat) : lawCosts f s w M = (lawBegins f s w M).flatMap (costsB f s w M) := rfl
theorem fdiv_far (T : List Nat) (a M : Nat) : ((a : Int) + (M : Int)).fdiv ((T.length : Int) + 1) + 2 = ((farN T (a + M) : Nat) : Int) := by
  have h : ((a : Int) + (M : Int)).fdiv ((T.length : Int) + 1) = (((a + M) / (T.length + 1) : Nat) : Int) := by
    rw [Int.fdiv_eq_ediv_of_nonneg _ (by omega)]
    push_cast
    rfl
  rw [h]
  rfl
theorem farN_le (x : List Nat) (far : Nat) (h : far ≤ 40) : farN x far ≤ 42 := by
  unfold farN
  have := Nat.div_le_self far (x.length + 1)
  omega
theorem ahead_len {f w : List Nat} {M : Nat} (hf : f.length ≤ 12) (hw : w.length ≤ 12) (hM : M ≤ 20) : (lawAhead f w M).length ≤ 600 := by
  unfold lawAhead
  have h1 := jn_len_le f (farN f (w.length + M))
  have h2 := farN_le f (w.length + M) (by omega)
  have : farN f (w.length + M) * (f.length + 1) ≤ 42 * 13 := Nat.mul_le_mul h2 (by omega)
  omega
theorem lawT_len {f s w : List Nat} {M : Nat} (hf : f.length ≤ 12) (hs : s.length ≤ 12) (hw : w.length ≤ 12) (hM : M ≤ 20) : (lawT f s w M).length ≤ 1300 := by
  unfold lawT
  have h1 := ahead_len hf hw hM
  split
  · omega
  · rw [List.length_append, List.length_cons]
    have h2 : (jn s (farN s (w.length + M))).length ≤ 600 := ahead_len (f := s) hs hw hM
    omega
theorem begins_le {f s w : List Nat} {M b : Nat} (hb : b ∈ lawBegins f s w M) : b ≤ (lawT f s w M).length := by
  unfold lawBegins at hb
  unfold lawT
  split at hb
  · rename_i h
    rw [if_pos h]
    have hb := List.mem_range.mp hb
    unfold lawAhead
    have e : farN f (w.length + M) = ((w.length + M) / (f.length + 1) + 1) + 1 := rfl
    rw [e, jn_len]
    exact Nat.le_trans (Nat.le_of_lt_succ hb) (Nat.le_trans (Nat.le_mul_of_pos_left _ (Nat.succ_pos _)) (Nat.le_add_right _ _))
  · rename_i h
    rw [if_neg h]
    obtain ⟨i, hi, rfl⟩ := List.mem_map.mp hb
    have hi := List.mem_range.mp hi
    rw [List.length_append]
    omega
theorem fold_snoc (l : List Nat) (c : Nat) : (if (c : Int) < ((l.foldl min 99 : Nat) : Int) then (c : Int) else ((l.foldl min 99 : Nat) : Int)) = (((l ++ [c]).foldl min 99 : Nat) : Int) := by
  rw [List.foldl_append]
  show _ = ((min (l.foldl min 99) c : Nat) : Int)
  split <;> omega
theorem e_parRg2 {σ : L2.St} {H : Hp} {ta tb tc : TE} {i j : Nat} {a b : Int} {v : V} {D : Ends} (ha : Ev ta σ H (.int a)) (hb : ∀ H1, Ex H H1 → Ev tb σ H1 (.int b)) (ok : RgOk a b) (hc : ∀ H2, Ex H H2 → Ev tc σ H2 v)
    (k : ∀ q H2, Ex H H2 → H2 q = some (.lst (rgV a b)) → D.nx ((σ.set i (some (.ref q))).set j (some v)) H2) : tPar i j (tCons (tLstRg (tRg2 ta tb)) (tCons tc tNil)) D σ H :=
  ha H (Ex.refl H) _ fun H1 e1 => hb H1 e1 H1 (Ex.refl _) _ fun H2 e2 => ⟨a, b, rfl, rfl, ok, fun q hq => hc _ ((e1.trans e2).trans (Ex.new hq)) _ (Ex.refl _) _ fun H3 e3 => ⟨_, _, rfl, k q H3 (((e1.trans e2).trans (Ex.new hq)).trans e3) (e3 _ _ upd_same)⟩⟩
theorem e_parRg1 {σ : L2.St} {H : Hp} {tb tc : TE} {i j : Nat} {b : Int} {v : V} {D : Ends} (hb : Ev tb σ H (.int b)) (ok : RgOk 0 b) (hc : ∀ H2, Ex H H2 → Ev tc σ H2 v)
    (k : ∀ q H2, Ex H H2 → H2 q = some (.lst (rgV 0 b)) → D.nx ((σ.set i (some (.ref q))).set j (some v)) H2) : tPar i j (tCons (tLstRg (tRg1 tb)) (tCons tc tNil)) D σ H :=
  hb H (Ex.refl H) _ fun H2 e2 => ⟨b, rfl, ok, fun q hq => hc _ (e2.trans (Ex.new hq)) _ (Ex.refl _) _ fun H3 e3 => ⟨_, _, rfl, k q H3 ((e2.trans (Ex.new hq)).trans e3) (e3 _ _ upd_same)⟩⟩
section
variable {P : Program} {w : World} {K : PySem.W.Frag} {mg : Str → Option Value} {base : Heap}
theorem ok_tripc {f f1 : Addr} {fd fd1 : FuncData} (d : Df K mg "_law_triple_cost" sTripC f fd ["_law_first", "_law_second", "_law_word_here", "_law_most"]) (d1 : Df K mg "_law_stretch_costs" sStretch f1 fd1 ["_law_text", "_law_word_here", "_law_most", "_law_begin"]) (B : Bi mg) :
    FnOk P w K mg base CX0 2 f fd ["_law_first", "_law_second", "_law_word_here", "_law_most"] spTripC := by
  have G : FnOk P w K mg base CX0 1 f1 fd1 ["_law_text", "_law_word_here", "_law_most", "_law_begin"] spStretch := ok_stretch d1 B
  refine d.F.ok scTripC (fun vs H Q E h => ?_) (fun cdv A outer s0 H vs Q E hr h => ?_)
  · obtain ⟨f, s, x, M, rfl, _⟩ := h
    rfl
  · obtain ⟨x, y, z, M, rfl, hx, hy, hz, hM, k⟩ := h
    refine ⟨_, pss_cons (ps_set (i := 4) scTripC.nd rfl (.inl rfl) (pe_op op_add (pe_callB call_len_str (by rfl) B.len PySem.boot_len (pa_cons (pv 2) pa_nil)) (pv 3)))
      (pss_cons (ps_set (i := 5) scTripC.nd rfl (.inl rfl) (pe_join pe_str (pe_op op_rep (pe_lst (pa_cons (pv 0) pa_nil)) (pe_op op_add (pe_op op_fdivN (pv 4) (pe_op op_add (pe_callB call_len_str (by rfl) B.len PySem.boot_len (pa_cons (pv 0) pa_nil)) pe_int)) pe_int))))
      (pss_cut (ps_if (pt_cmpR op_eq (pv 0) (pv 1) (nomark _))
        (pss_one (ps_par (i := 6) (j := 7) rfl scTripC.nd rfl rfl (by decide) rfl rfl (pa_cons (pe_listRg rfl (by rfl) B.list (prg_1 (by rfl) B.range (pe_op op_add (pe_callB call_len_str (by rfl) B.len PySem.boot_len (pa_cons (pv 0) pa_nil)) pe_int))) (pa_cons (pv 5) pa_nil)) rfl))
        (pss_one (ps_par (i := 6) (j := 7) rfl scTripC.nd rfl rfl (by decide) rfl rfl (pa_cons (pe_listRg rfl (by rfl) B.list (prg_2 (by rfl) B.range (pe_callB (call_max2 rfl) (by rfl) B.max (by decide +kernel) (pa_cons pe_int (pa_cons (pe_op op_sub (pe_callB call_len_str (by rfl) B.len PySem.boot_len (pa_cons (pv 5) pa_nil)) (pv 4)) pa_nil)))
            (pe_op op_add (pe_callB call_len_str (by rfl) B.len PySem.boot_len (pa_cons (pv 5) pa_nil)) pe_int)))
          (pa_cons (pe_op op_add_str (pe_op op_add_str (pv 5) pe_str) (pe_join pe_str (pe_op op_rep (pe_lst (pa_cons (pv 1) pa_nil)) (pe_op op_add (pe_op op_fdivN (pv 4) (pe_op op_add (pe_callB call_len_str (by rfl) B.len PySem.boot_len (pa_cons (pv 1) pa_nil)) pe_int)) pe_int)))) pa_nil)) rfl)))
      (pss_cons (ps_set (i := 8) scTripC.nd rfl (.inl rfl) pe_int)
      (pss_cons (ps_for PassesOwn.never rfl (pi_list (pv 6)) (pg_name (i := 9) scTripC.nd rfl (.inl rfl))
        (pss_one (ps_for PassesOwn.never rfl (pi_list (pe_call G hr rfl d1.m d1.F.kp d1.b .nil pass0 (pa_cons (pv 7) (pa_cons (pv 2) (pa_cons (pv 3) (pa_cons (pv 9) pa_nil)))))) (pg_tup rfl (pgs_cons (pg_name (i := 10) scTripC.nd rfl (.inl rfl)) (pgs_cons (pg_name (i := 11) scTripC.nd rfl (.inl rfl)) pgs_nil)))
          (pss_one (ps_if (pw_or (pt_cmpR op_eq (pv 0) (pv 1) (nomark _)) (pw_or1 (pt_cmpR op_gt (pv 10) (pe_callB call_len_str (by rfl) B.len PySem.boot_len (pa_cons (pv 5) pa_nil)) (nomark _)))).pt
            (pss_one (ps_set (i := 8) scTripC.nd rfl (.inl rfl) (pe_callB (call_min2 rfl) (by rfl) B.min (by decide +kernel) (pa_cons (pv 8) (pa_cons (pv 11) pa_nil))))) pss_nil)))))
      (pss_one (ps_ret (pv 8))))))), ?_⟩
    have hL := ahead_len hx hz hM
    have hTl := lawT_len hx hy hz hM
    have lenV : ∀ {σ : L2.St} {H : Hp} {i : Nat} {T : List Nat}, T.length ≤ 5000 → σ[i]? = some (some (.str (tx T))) → Ev (tCB (fun xs H Q => ∃ z, xs = [.str z] ∧ z.length ≤ sizeLine ∧ Q (.int z.length) H) (tCons (tVar i) tNil)) σ H (.int (T.length : Nat)) := fun h0 h => ev_lenS (ev_var h) (by omega)
    have cnt : ∀ {σ : L2.St} {H : Hp} {i : Nat} {T : List Nat}, T.length ≤ 12 → σ[i]? = some (some (.str (tx T))) → σ[4]? = some (some (.int ((z.length : Int) + (M : Int)))) →
        Ev (tOp (rI0 fun i j => .int (i + j)) (tOp (rI CDivN fun i j => .int (i.fdiv j)) (tVar 4) (tOp (rI0 fun i j => .int (i + j)) (tCB (fun xs H Q => ∃ z, xs = [.str z] ∧ z.length ≤ sizeLine ∧ Q (.int z.length) H) (tCons (tVar i) tNil)) (tC (.int 1)))) (tC (.int 2))) σ H (.int ((farN T (z.length + M) : Nat) : Int)) := fun {σ H i T} h0 h1 h2 =>
      ev_is (ev_op (ev_op (ev_var h2) (ev_op (lenV (by omega) h1) ev_c rv_I0) (rv_I (i := (z.length : Int) + (M : Int)) (j := (T.length : Int) + 1) ⟨by omega, by omega⟩)) ev_c rv_I0) (congrArg V.int (fdiv_far T (z.length) M))
    -- far, ahead
    refine q_asg (ev_op (lenV (by omega) rfl) (ev_var rfl) (rv_I0 (i := (z.length : Int)) (j := (M : Int)))) fun H1 e1 => ?_
    refine q_asg (v := .str (tx (lawAhead x z M))) (ev_joinN (x := x) (n := farN x (z.length + M)) ev_c (ev_var rfl) (fun H2 e2 => cnt hx rfl rfl) (by have := farN_le x (z.length + M) (by omega); omega) (by omega)) fun H2 e2 => ?_
    have e02 := e1.trans e2
    -- begins, text
    refine q_cut (M := fun σ' H' => ∃ q, σ' = [some (.str (tx x)), some (.str (tx y)), some (.str (tx z)), some (.int (M : Nat)), some (.int ((z.length : Int) + (M : Int))), some (.str (tx (lawAhead x z M))), some (.ref q), some (.str (tx (lawT x y z M))), none, none, none, none] ∧ Ex H H' ∧ H' q = some (.lst (vnat (lawBegins x y z M)))) ?_ ?_
    · refine s_if (b := decide (x = y)) (et_test (ev_is (ev_op (ev_var rfl) (ev_var rfl) (rv_eq rfl)) (by
        congr 1
        rw [decide_eq_decide]
        constructor
        · intro h; injection h with h; exact tx_inj.mp h
        · rintro rfl; rfl))) (fun hb H3 e3 => ?_) (fun hb H3 e3 => ?_)
      · have hxy : x = y := of_decide_eq_true hb
        refine e_parRg1 (v := .str (tx (lawAhead x z M))) (ev_op (lenV (by omega) rfl) ev_c (rv_I0 (i := (x.length : Int)) (j := 2))) (RgOk.of_le (by omega) (by omega) (by omega) (by omega)) (fun H4 e4 => ev_var rfl) fun q H4 e4 hq => ⟨q, ?_, (e02.trans e3).trans e4, ?_⟩
        · have : lawT x y z M = lawAhead x z M := by unfold lawT; rw [if_pos hxy]
          rw [this]; rfl
        · rw [hq]
          unfold rgV lawBegins
          rw [if_pos hxy]
          have : ((x.length : Int) + 2 - 0).toNat = x.length + 2 := by omega
          rw [this]
          congr 2
          refine List.map_congr_left fun j _ => ?_
          congr 1; omega
      · have hxy : x ≠ y := of_decide_eq_false hb
        have hmax : (if ((lawAhead x z M).length : Int) - ((z.length : Int) + (M : Int)) > 0 then ((lawAhead x z M).length : Int) - ((z.length : Int) + (M : Int)) else 0) = (((lawAhead x z M).length - (z.length + M) : Nat) : Int) := by split <;> omega
        have hT : lawT x y z M = (lawAhead x z M ++ [32]) ++ jn y (farN y (z.length + M)) := by unfold lawT; rw [if_neg hxy]; simp
        have hl2 : (jn y (farN y (z.length + M))).length ≤ 600 := ahead_len (f := y) hy hz hM
        have eb : tx (lawAhead x z M) ++ (" " : Str) = tx (lawAhead x z M ++ [32]) := by rw [blank_chr, chr1_tx, tx_cat]
        refine e_parRg2 (a := (((lawAhead x z M).length - (z.length + M) : Nat) : Int)) (b := ((lawAhead x z M).length : Int) + 1) (v := .str (tx (lawT x y z M)))
          (ev_cb (ea_cons ev_c (ea_cons (ev_op (lenV (by omega) rfl) (ev_var rfl) (rv_I0 (i := ((lawAhead x z M).length : Int)) (j := (z.length : Int) + (M : Int)))) ea_nil)) fun H9 _ Q q => ⟨_, _, rfl, by rw [hmax]; exact q H9 (Ex.refl _)⟩)
          (fun H4 e4 => ev_op (lenV (by omega) rfl) ev_c rv_I0) (RgOk.of_le (by omega) (by omega) (by omega) (by omega)) (fun H4 e4 => ?_) fun q H4 e4 hq => ⟨q, rfl, (e02.trans e3).trans e4, ?_⟩
        · rw [hT]
          refine ev_op (ev_op (ev_var rfl) ev_c fun H1 _ Q q => ⟨tx (lawAhead x z M), " ", rfl, rfl, ?_, q H1 (Ex.refl _)⟩) (ev_joinN (x := y) (n := farN y (z.length + M)) ev_c (ev_var rfl) (fun H2 e2 => cnt hy rfl rfl) (by have := farN_le y (z.length + M) (by omega); omega) (by omega)) fun H1 _ Q q => ⟨_, _, rfl, rfl, ?_, ?_⟩
          · have : (" " : Str).length = 1 := by decide +kernel
            rw [tx_len, this]
            exact sz_of (by omega)
          · rw [eb, tx_len, tx_len, List.length_append, List.length_singleton]
            exact sz_of (by omega)
          · rw [eb, tx_cat]
            exact q H1 (Ex.refl _)
        · rw [hq]
          unfold rgV lawBegins
          rw [if_neg hxy]
          have : (((lawAhead x z M).length : Int) + 1 - (((lawAhead x z M).length - (z.length + M) : Nat) : Int)).toNat = (lawAhead x z M).length + 1 - ((lawAhead x z M).length - (z.length + M)) := by omega
          rw [this]
          congr 2
          rw [vnat, List.map_map]
          refine List.map_congr_left fun j _ => ?_
          show V.int _ = V.int _
          congr 1
    · rintro σ' H3 ⟨q, rfl, e3, hq3⟩
      -- best = 99
      refine q_asg ev_c fun H4 e4 => ?_
      refine q_forLn (K := K) (a := q) (xs := vnat (lawBegins x y z M)) (j := 9) (ev_var rfl) (SqL.of (e4 _ _ hq3))
        (fun i σ' H' => ∃ v9 v10 v11, σ' = [some (.str (tx x)), some (.str (tx y)), some (.str (tx z)), some (.int (M : Nat)), some (.int ((z.length : Int) + (M : Int))), some (.str (tx (lawAhead x z M))), some (.ref q), some (.str (tx (lawT x y z M))), some (.int (((((lawBegins x y z M).take i).flatMap (costsB x y z M)).foldl min 99 : Nat) : Int)), v9, v10, v11] ∧ Ex H3 H')
        (fun H5 e5 => ⟨_, _, _, rfl, e4.trans e5⟩) (fun i σ' H' _ ⟨_, _, _, _, e5⟩ => SqL.of (e5 _ _ hq3)) ?_ ?_
      · rintro i v σ' H5 hv ⟨v9, v10, v11, rfl, e5⟩
        obtain ⟨b, hbi, rfl⟩ : ∃ b, (lawBegins x y z M)[i]? = some b ∧ v = .int (b : Int) := by
          rw [List.getElem?_map] at hv
          cases hb : (lawBegins x y z M)[i]? with
          | none => rw [hb] at hv; cases hv
          | some b => rw [hb] at hv; cases hv; exact ⟨b, rfl, rfl⟩
        have hbT := begins_le (List.mem_of_getElem? hbi)
        generalize hacc : ((lawBegins x y z M).take i).flatMap (costsB x y z M) = acc
        refine e_forCall (vs := [.str (tx (lawT x y z M)), .str (tx z), .int (M : Int), .int (b : Int)]) (ea_cons (ev_var rfl) (ea_cons (ev_var rfl) (ea_cons (ev_var rfl) (ea_cons (ev_var rfl) ea_nil)))) fun H6 e6 => ⟨lawT x y z M, z, M, b, rfl, by omega, by omega, by omega, hbT, fun p H7 hp e7 hP => ⟨p, rfl, ?_⟩⟩
        obtain ⟨xs, g1, g2⟩ := hP
        refine ⟨⟨xs, SqL.of g1⟩, ?_⟩
        generalize hes : ends (lawT x y z M) z M b = es at g2
        refine for_list (K := K) (a := p) (xs := xs) (fun j σ' H' => ∃ v10 v11, σ' = [some (.str (tx x)), some (.str (tx y)), some (.str (tx z)), some (.int (M : Nat)), some (.int ((z.length : Int) + (M : Int))), some (.str (tx (lawAhead x z M))), some (.ref q), some (.str (tx (lawT x y z M))),
            some (.int (((acc ++ ((es.take j).filter fun e => decide (x = y) || decide ((lawAhead x z M).length < e)).map fun e => strC (lawT x y z M) z b e).foldl min 99 : Nat) : Int)), some (.int (b : Nat)), v10, v11] ∧ Ex H7 H')
          ⟨v10, v11, by rw [List.take_zero, List.filter_nil, List.map_nil, List.append_nil]; rfl, Ex.refl _⟩ (fun j σ' H' _ ⟨_, _, _, e8⟩ => SqL.of (e8 _ _ g1)) ?_ ?_
        · rintro j v σ' H8 hv ⟨v10, v11, rfl, e8⟩
          obtain ⟨pr, hpr, hvp⟩ := paired_get g2 hv
          obtain ⟨e, hej, rfl⟩ : ∃ e, es[j]? = some e ∧ pr = (e, strC (lawT x y z M) z b e) := by
            rw [List.getElem?_map] at hpr
            cases he : es[j]? with
            | none => rw [he] at hpr; cases hpr
            | some e => rw [he] at hpr; cases hpr; exact ⟨e, rfl, rfl⟩
          obtain ⟨r, rfl, hr8⟩ := hvp.ex e8
          refine ⟨r, _, rfl, SqT.of hr8, rfl, _, _, rfl, _, _, rfl, rfl, ?_⟩
          have hcond : EvT (tOr (tTest (tOp rEq (tVar 0) (tVar 1))) (tTest (tOp (rI0 fun i j => .bl (decide (j < i))) (tVar 10) (tCB (fun xs H Q => ∃ z, xs = [.str z] ∧ z.length ≤ sizeLine ∧ Q (.int z.length) H) (tCons (tVar 5) tNil)))))
              [some (.str (tx x)), some (.str (tx y)), some (.str (tx z)), some (.int (M : Nat)), some (.int ((z.length : Int) + (M : Int))), some (.str (tx (lawAhead x z M))), some (.ref q), some (.str (tx (lawT x y z M))),
                some (.int (((acc ++ ((es.take j).filter fun e => decide (x = y) || decide ((lawAhead x z M).length < e)).map fun e => strC (lawT x y z M) z b e).foldl min 99 : Nat) : Int)), some (.int (b : Nat)), some (.int (e : Int)), some (.int ((strC (lawT x y z M) z b e : Nat) : Int))] H8 (decide (x = y) || decide ((lawAhead x z M).length < e)) :=
            et_or (et_test (ev_is (ev_op (ev_var rfl) (ev_var rfl) (rv_eq rfl)) (by
              congr 1
              rw [decide_eq_decide]
              constructor
              · intro h; injection h with h; exact tx_inj.mp h
              · rintro rfl; rfl))) fun _ => et_test (ev_is (ev_op (ev_var rfl) (lenV (by omega) rfl) (rv_I0 (i := (e : Int)) (j := ((lawAhead x z M).length : Int)))) (by congr 1; rw [decide_eq_decide]; omega))
          refine s_when hcond (fun hb H9 e9 => ?_) (fun hb H9 e9 => ?_)
          · refine s_asg (v := .int (((acc ++ ((es.take (j + 1)).filter fun e => decide (x = y) || decide ((lawAhead x z M).length < e)).map fun e => strC (lawT x y z M) z b e).foldl min 99 : Nat) : Int)) (ev_is (ev_cb (ea_cons (ev_var rfl) (ea_cons (ev_var rfl) ea_nil)) fun H10 _ Q q => ⟨_, _, rfl, q H10 (Ex.refl _)⟩) ?_) fun H10 e10 => ⟨_, _, rfl, (e8.trans e9).trans e10⟩
            have hf : ([e].filter fun e => decide (x = y) || decide ((lawAhead x z M).length < e)) = [e] := List.filter_eq_self.mpr fun a ha => by rw [List.mem_singleton.mp ha]; exact hb
            rw [take_succ_of hej, List.filter_append, hf, List.map_append, ← List.append_assoc]
            exact congrArg V.int (fold_snoc _ _)
          · refine ⟨some (.int (e : Int)), some (.int ((strC (lawT x y z M) z b e : Nat) : Int)), ?_, e8.trans e9⟩
            have hf : ([e].filter fun e => decide (x = y) || decide ((lawAhead x z M).length < e)) = [] := List.filter_eq_nil_iff.mpr fun a ha => by rw [List.mem_singleton.mp ha, hb]; decide
            rw [take_succ_of hej, List.filter_append, hf, List.append_nil]
            rfl
        · rintro σ' H8 ⟨v10, v11, rfl, e8⟩
          have hlen : xs.length = es.length := by rw [Paired.length g2, List.length_map]
          refine ⟨some (.int (b : Nat)), v10, v11, ?_, ((e5.trans e6).trans e7).trans e8⟩
          rw [hlen, List.take_length, take_succ_of hbi, List.flatMap_append, hacc, List.flatMap_singleton]
          unfold costsB
          rw [hes]
      · rintro σ' H5 ⟨v9, v10, v11, rfl, e5⟩
        refine s_ret (ev_var rfl) fun H6 e6 => ?_
        have := k H6 ((e3.trans e5).trans e6)
        unfold lawC at this
        rw [lawCosts_eq] at this
        rw [show (vnat (lawBegins x y z M)).length = (lawBegins x y z M).length by simp, List.take_length]
        exact this
end
end K11
end
section
set_option maxRecDepth 100000
set_option maxHeartbeats 4000000
/-! _law_costs. -/
namespace K11
open PySem PyProof.Rows L2 Evl
abbrev key3 (t : T3) : List Key := [.inl (t.1 : Int), .inl (t.2.1 : Int), .inl (t.2.2 : Int)]
theorem key3_inj {s t : T3} (h : key3 s = key3 t) : s = t := by
  obtain ⟨a, b, c⟩ := s
  obtain ⟨x, y, z⟩ := t
  injection h with h1 h
  injection h with h2 h
  injection h with h3 _
  injection h1 with h1
  injection h2 with h2
  injection h3 with h3
  have e1 : a = x := Int.ofNat.inj h1
  have e2 : b = y := Int.ofNat.inj h2
  have e3 : c = z := Int.ofNat.inj h3
  rw [e1, e2, e3]
/-- the dict of these triples -/
def kvs3 (ws : List (List Nat)) (M : Nat) (ts : List T3) : List (List Key × V) := ts.map fun t => (key3 t, .int ((lawTr ws M t : Nat) : Int))
theorem kvs3_none {ws : List (List Nat)} {M : Nat} {t : T3} : ∀ {ts : List T3}, t ∉ ts → valV (kvs3 ws M ts) (key3 t) = none
  | [], _ => rfl
  | s :: ts, h => by
    show valV ((key3 s, _) :: kvs3 ws M ts) (key3 t) = none
    rw [valV_neg (fun e => h (by rw [key3_inj e]; exact List.mem_cons_self))]
    exact kvs3_none fun z => h (List.mem_cons_of_mem _ z)
theorem kvs3_some {ws : List (List Nat)} {M : Nat} {t : T3} : ∀ {ts : List T3}, t ∈ ts → valV (kvs3 ws M ts) (key3 t) = some (.int ((lawTr ws M t : Nat) : Int))
  | s :: ts, h => by
    show valV ((key3 s, _) :: kvs3 ws M ts) (key3 t) = _
    by_cases e : s = t
    · rw [e, valV_pos rfl]
    · rw [valV_neg (fun z => e (key3_inj z))]
      rcases List.mem_cons.mp h with rfl | h
      · exact absurd rfl e
      · exact kvs3_some h
theorem kvs3_snoc (ws : List (List Nat)) (M : Nat) (ts : List T3) (t : T3) (h : t ∉ ts) : putK (kvs3 ws M ts) (key3 t) (.int ((lawTr ws M t : Nat) : Int)) = kvs3 ws M (ts ++ [t]) := by
  rw [putK_new _ (kvs3_none h)]
  unfold kvs3
  rw [List.map_append]; rfl
/-- the triples before (f, s, w) -/
def preT (n f s w : Nat) : List T3 := ((List.range f).flatMap fun f => (List.range n).flatMap fun s => rowT n f s n) ++ ((List.range s).flatMap fun s => rowT n f s n) ++ rowT n f s w
theorem row_mem {n f s m : Nat} {t : T3} (h : t ∈ rowT n f s m) : t.1 = f ∧ t.2.1 = s ∧ t.2.2 < m := by
  unfold rowT at h
  obtain ⟨w, hw, rfl⟩ := List.mem_map.mp h
  exact ⟨rfl, rfl, List.mem_range.mp (List.mem_filter.mp hw).1⟩
theorem pre_not {n f s w : Nat} : (f, s, w) ∉ preT n f s w := by
  unfold preT
  intro h
  rcases List.mem_append.mp h with h | h
  · rcases List.mem_append.mp h with h | h
    · obtain ⟨f', hf, h⟩ := List.mem_flatMap.mp h
      obtain ⟨s', hs, h⟩ := List.mem_flatMap.mp h
      have h1 : f = f' := (row_mem h).1
      have := List.mem_range.mp hf
      omega
    · obtain ⟨s', hs, h⟩ := List.mem_flatMap.mp h
      have h1 : s = s' := (row_mem h).2.1
      have := List.mem_range.mp hs
      omega
  · have h1 : w < w := (row_mem h).2.2
    omega
theorem pre_len {n f s w : Nat} (hn : n ≤ 10) (hf : f ≤ 10) (hs : s ≤ 10) (hw : w ≤ 10) : (preT n f s w).length ≤ 2000 := by
  unfold preT
  rw [List.length_append, List.length_append]
  have a1 := flat_len (fun f => (List.range n).flatMap fun s => rowT n f s n) (n * n) (fun f => flat_len _ n (fun s => rowT_len n f s n) n) f
  have a2 := flat_len (fun s => rowT n f s n) n (fun s => rowT_len n f s n) s
  have a3 := rowT_len n f s w
  have b1 : f * (n * n) ≤ 10 * (10 * 10) := Nat.mul_le_mul hf (Nat.mul_le_mul hn hn)
  have b2 : s * n ≤ 10 * 10 := Nat.mul_le_mul hs hn
  omega
def spLCosts (K : PySem.W.Frag) : Sp := fun vs H Q _ => ∃ (l : Addr) (ws : List (List Nat)) (M : Nat), vs = [.ref l, .int (M : Int)] ∧ SqL K H l (wstr ws) ∧ ws.length ≤ 10 ∧ (∀ i, (wd ws i).length ≤ 12) ∧ M ≤ 20 ∧
  ∀ q H', H q = none → Ex H H' → H' q = some (.dT (kvs3 ws M (triplesOf ws.length))) → Q (.ref q) H'
section
variable {P : Program} {w : World} {K : PySem.W.Frag} {mg : Str → Option Value} {base : Heap}
theorem ok_lcosts {f f1 f2 : Addr} {fd fd1 fd2 : FuncData} (d : Df K mg "_law_costs" sLCosts f fd ["_law_words_here", "_law_most"]) (d1 : Df K mg "_law_stretch_costs" sStretch f1 fd1 ["_law_text", "_law_word_here", "_law_most", "_law_begin"])
    (d2 : Df K mg "_law_triple_cost" sTripC f2 fd2 ["_law_first", "_law_second", "_law_word_here", "_law_most"]) (B : Bi mg) : FnOk P w K mg base CX0 3 f fd ["_law_words_here", "_law_most"] (spLCosts K) := by
  have G : FnOk P w K mg base CX0 2 f2 fd2 ["_law_first", "_law_second", "_law_word_here", "_law_most"] spTripC := ok_tripc d2 d1 B
  refine d.F.ok scLCosts (fun vs H Q E h => ?_) (fun cdv A outer s0 H vs Q E hr h => ?_)
  · obtain ⟨l, ws, M, rfl, _⟩ := h
    rfl
  · obtain ⟨l, ws, M, rfl, hl, hn, hw, hM, k⟩ := h
    have hu := hu_of hr
    refine ⟨_, pss_cons (ps_set (i := 2) scLCosts.nd rfl (.inl rfl) pe_dnewT)
      (pss_cons (ps_for PassesOwn.never rfl (pi_range1 rfl B.range (pa_cons (pe_callB call_len_seq (by rfl) B.len PySem.boot_len (pa_cons (pv 0) pa_nil)) pa_nil)) (pg_name (i := 3) scLCosts.nd rfl (.inl rfl))
        (pss_one (ps_for PassesOwn.never rfl (pi_range1 rfl B.range (pa_cons (pe_callB call_len_seq (by rfl) B.len PySem.boot_len (pa_cons (pv 0) pa_nil)) pa_nil)) (pg_name (i := 4) scLCosts.nd rfl (.inl rfl))
          (pss_one (ps_for PassesOwn.never rfl (pi_range1 rfl B.range (pa_cons (pe_callB call_len_seq (by rfl) B.len PySem.boot_len (pa_cons (pv 0) pa_nil)) pa_nil)) (pg_name (i := 5) scLCosts.nd rfl (.inl rfl))
            (pss_one (ps_if (pt_cmpR op_notIn_seq (pv 5) (pe_tup (pa_cons (pv 3) (pa_cons (pv 4) pa_nil))) rfl)
              (pss_one (ps_dput hu (pv 2) (pe_tup (pa_cons (pv 3) (pa_cons (pv 4) (pa_cons (pv 5) pa_nil)))) (pe_call G hr rfl d2.m d2.F.kp d2.b .nil pass0
                (pa_cons (pe_ix ix_list (pv 0) (pv 3) (fun _ _ => rfl)) (pa_cons (pe_ix ix_list (pv 0) (pv 4) (fun _ _ => rfl)) (pa_cons (pe_ix ix_list (pv 0) (pv 5) (fun _ _ => rfl)) (pa_cons (pv 1) pa_nil))))) rfl)) pss_nil)))))))
      (pss_one (ps_ret (pv 2)))), ?_⟩
    intro q hq
    have e1 : Ex H (upd H q (.dT [])) := Ex.new hq
    have hlw : (wstr ws).length = ws.length := by simp
    have len : ∀ {σ : L2.St} {H' : Hp}, σ[0]? = some (some (.ref l)) → Ex H H' → EvA (tCons (tCB (fun xs H Q => ∃ p ys, xs = [.ref p] ∧ (SqL K H p ys ∨ SqT K H p ys) ∧ Q (.int ys.length) H) (tCons (tVar 0) tNil)) tNil) σ H' [.int ((ws.length : Nat) : Int)] := fun {σ H'} h0 e =>
      ea_cons (ev_cb (ea_cons (ev_var h0) ea_nil) fun H2 e2 Q q => ⟨l, _, rfl, .inl (ex_l (e.trans e2) hl), by rw [hlw]; exact q H2 (Ex.refl _)⟩) ea_nil
    have en : ((ws.length : Nat) : Int).toNat = ws.length := by omega
    refine q_forR1 (n := ((ws.length : Nat) : Int)) (len rfl e1) ⟨by omega, by omega⟩
      (fun i σ' H' => ∃ v3 v4 v5, σ' = [some (.ref l), some (.int (M : Nat)), some (.ref q), v3, v4, v5] ∧ Ex H H' ∧ H' q = some (.dT (kvs3 ws M (preT ws.length i 0 0))))
      (fun H2 e2 => ⟨_, _, _, rfl, e1.trans e2, by rw [e2 _ _ upd_same]; rfl⟩) ?_ ?_
    · rintro i σ' H1 hi ⟨v3, v4, v5, rfl, e1, h1⟩
      refine s_forR1 (n := ((ws.length : Nat) : Int)) (len rfl e1) ⟨by omega, by omega⟩
        (fun j σ' H' => ∃ v4 v5, σ' = [some (.ref l), some (.int (M : Nat)), some (.ref q), some (.int (i : Nat)), v4, v5] ∧ Ex H H' ∧ H' q = some (.dT (kvs3 ws M (preT ws.length i j 0))))
        (fun H2 e2 => ⟨_, _, rfl, e1.trans e2, e2 _ _ h1⟩) ?_ ?_
      · rintro j σ' H2 hj ⟨v4, v5, rfl, e2, h2⟩
        refine s_forR1 (n := ((ws.length : Nat) : Int)) (len rfl e2) ⟨by omega, by omega⟩
          (fun m σ' H' => ∃ v5, σ' = [some (.ref l), some (.int (M : Nat)), some (.ref q), some (.int (i : Nat)), some (.int (j : Nat)), v5] ∧ Ex H H' ∧ H' q = some (.dT (kvs3 ws M (preT ws.length i j m))))
          (fun H3 e3 => ⟨_, rfl, e2.trans e3, e3 _ _ h2⟩) ?_ ?_
        · rintro m σ' H3 hm ⟨v5, rfl, e3, h3⟩
          have hrow := rowT_succ ws.length i j m
          refine s_when (b := !decide (m = i ∨ m = j)) (et_test (ev_is (ev_niU (ev_var rfl) (eu_tup (ea_cons (ev_var rfl) (ea_cons (ev_var rfl) ea_nil)) (by show 2 ≤ 100000; decide)) rfl rfl) (by rw [inV_two]))) (fun hb H4 e4 => ?_) (fun hb H4 e4 => ?_)
          · have hne : ¬ (m = i ∨ m = j) := by simpa using hb
            have ix : ∀ {a : Nat} {σ : L2.St} {s : Nat} {H' : Hp}, σ[0]? = some (some (.ref l)) → σ[s]? = some (some (.int (a : Int))) → a < ws.length → Ex H H' → Ev (tOp (rIxL K) (tVar 0) (tVar s)) σ H' (.str (tx (wd ws a))) := fun {a σ s H'} h0 h1 h2 e =>
              ev_op (ev_var h0) (ev_var h1) (rv_ixL (ex_l e hl) (atI_in (word_at h2)))
            have e14 := e3.trans e4
            refine e_putCall (vs := [.str (tx (wd ws i)), .str (tx (wd ws j)), .str (tx (wd ws m)), .int (M : Int)]) (ea_cons (ix rfl rfl (by omega) e14) (ea_cons (ix rfl rfl (by omega) e14) (ea_cons (ix rfl rfl (by omega) e14) (ea_cons (ev_var rfl) ea_nil)))) fun H5 e5 => ⟨wd ws i, wd ws j, wd ws m, M, rfl, hw i, hw j, hw m, hM, fun H6 e6 => ?_⟩
            refine ⟨_, rfl, _, rfl, _, rfl, _, rfl, by show 3 ≤ sizeLine; decide, fun T hT => ?_⟩
            have e7 : Ex H6 (upd H6 T (.tup [.int (i : Nat), .int (j : Nat), .int (m : Nat)])) := Ex.new hT
            have h7 := e7 _ _ (e6 _ _ (e5 _ _ (e4 _ _ h3)))
            refine ⟨q, _, rfl, DPut.t (k := key3 (i, j, m)) h7 upd_same (by
              have := pre_len (w := m) hn (show i ≤ 10 by omega) (show j ≤ 10 by omega) (show m ≤ 10 by omega)
              unfold kvs3 sizeLine
              rw [List.length_map]
              omega), ?_⟩
            refine ⟨_, rfl, (((e14.trans e5).trans e6).trans e7).mut hq, ?_⟩
            rw [upd_same]
            have hs := kvs3_snoc ws M (preT ws.length i j m) (i, j, m) pre_not
            have e8 : lawTr ws M (i, j, m) = lawC (wd ws i) (wd ws j) (wd ws m) M := rfl
            rw [← e8, hs]
            unfold preT
            rw [hrow, if_pos (by omega), List.append_assoc]
          · have hne : m = i ∨ m = j := by
              rcases Nat.decEq m i with h | h
              · rcases Nat.decEq m j with h' | h'
                · exfalso
                  have : decide (m = i ∨ m = j) = false := decide_eq_false (fun z => z.elim h h')
                  rw [this] at hb
                  cases hb
                · exact .inr h'
              · exact .inl h
            refine ⟨_, rfl, e3.trans e4, ?_⟩
            rw [e4 _ _ h3]
            unfold preT
            rw [hrow, if_neg (by omega)]
        · rintro σ' H3 ⟨v5, rfl, e3, h3⟩
          rw [en] at h3
          refine ⟨_, _, rfl, e3, ?_⟩
          rw [h3]
          unfold preT
          rw [flat_succ]
          show _ = some (HO.dT (kvs3 ws M (_ ++ rowT ws.length i (j + 1) 0)))
          have : rowT ws.length i (j + 1) 0 = [] := rfl
          rw [this, List.append_nil, List.append_assoc]
      · rintro σ' H2 ⟨v4, v5, rfl, e2, h2⟩
        rw [en] at h2
        refine ⟨_, _, _, rfl, e2, ?_⟩
        rw [h2]
        unfold preT
        rw [flat_succ]
        have h0 : ∀ a b, rowT ws.length a b 0 = [] := fun _ _ => rfl
        simp only [h0, List.append_nil, List.range_zero, List.flatMap_nil]
    · rintro σ' H1 ⟨v3, v4, v5, rfl, e1, h1⟩
      rw [en] at h1
      refine s_ret (ev_var rfl) fun H2 e2 => k q H2 hq (e1.trans e2) ?_
      rw [e2 _ _ h1]
      have h0 : ∀ a b, rowT ws.length a b 0 = [] := fun _ _ => rfl
      unfold preT
      rw [h0, List.append_nil, List.range_zero, List.flatMap_nil, List.append_nil]
      rfl
end
end K11
end
section
set_option maxRecDepth 100000
set_option maxHeartbeats 4000000
/-! A caught exception that is kept as a value behind its except suite. -/
namespace K11
open PySem PySem.Spec PyProof.Rows L2
/-- an exception of the class cls, its own dict at d, stands at a -/
def ExV (cls : Value) (d : Option Addr) (a : Addr) : HO := .ext fun h => ∃ (oe : Obj) (vs : Array Value), h.get? a = some oe ∧ Zc cls d oe ∧ oe.data = .fields vs
section
variable {X : Cx} {pins : List (Addr × Obj)} {σ : L2.St} {H : Hp} {s : Shared}
/-- an object of ours that stands there is tracked from now on -/
theorem inv_track {a : Addr} {φ : Heap → Prop} {oe : Obj} (I : Inv X pins σ H s) (new : ObjOk X.prog X.w (upd H a (.ext φ)) s.heap a (.ext φ)) (hn : H a = none) (h0 : X.s_0.heap.get? a = none) (hp : ∀ p ∈ X.pn ++ pins, p.1 ≠ a) (hL : a ≠ X.env.locals) (hc : ∀ x c, X.env.cells.lookup x = some c → c ≠ a) :
    Inv X pins σ (upd H a (.ext φ)) s := by
  have old : ∀ {b o}, X.s_0.heap.get? b = some o → b ≠ a := fun {b o} e z => by rw [z, h0] at e; cases e
  refine ⟨I.ok, I.os, I.bare, ⟨I.base.keep, I.base.slot, fun b o e n hx => ?_, I.base.there, fun b xs e => ?_, fun b o u e => ?_, fun b ps e => ?_⟩, I.loc, I.cell, ?_, fun x c e => ?_, fun p hp' => ?_, I.hok.laidN (fun _ _ q => q) hn new, I.len⟩
  · rw [upd_ne (old e)]; exact I.base.free b o e n hx
  · have q := I.base.tups b xs e
    rw [upd_ne (ne_of_none q hn)]; exact q
  · have q := I.base.frzs b o u e
    rw [upd_ne (ne_of_none q hn)]; exact q
  · obtain ⟨more, q⟩ := I.base.tbls b ps e
    exact ⟨more, by rw [upd_ne (ne_of_none q hn)]; exact q⟩
  · rw [upd_ne hL.symm]; exact I.free
  · rw [upd_ne (hc x c e)]; exact I.freeC x c e
  · obtain ⟨p1, p2, p3⟩ := I.pin p hp'
    exact ⟨p1, by rw [upd_ne (hp p hp')]; exact p2, p3⟩
theorem exV_ok {P : Program} {w : World} {H : Hp} {h : Heap} {a : Addr} {cls : Value} {d : Option Addr} {oe : Obj} {vs : Array Value} (e : h.get? a = some oe) (z : Zc cls d oe) (hd : oe.data = .fields vs) : ObjOk P w H h a (ExV cls d a) :=
  ⟨⟨oe, vs, e, z, hd⟩, ⟨oe, e⟩, fun h1 h2 ⟨oe, vs, q1, q2, q3⟩ st => ⟨oe, vs, st _ q1, q2, q3⟩⟩
theorem exV_at {P : Program} {w : World} {h : Heap} {a : Addr} {cls : Value} {d : Option Addr} (hok : HOk P w H h) (e : H a = some (ExV cls d a)) : ∃ (oe : Obj) (vs : Array Value), h.get? a = some oe ∧ Zc cls d oe ∧ oe.data = .fields vs := (hok a _ e).1
end
/-- what the clause wishes: behind the suite the exception is tracked -/
def wTrack (K : PySem.W.Frag) (m : Nat) (c : Value) (i : Nat) (ts : Addr → Value → Option Addr → TS) (Wout : WX) (D : Ends) : WX := fun cls d σ H =>
  ∃ b, PySem.W.exmOne K cls c = some b ∧ (b = true → ∀ a, σ.length = m → H a = none → ts a cls d { nx := fun σ' H' => D.nx (σ'.set i none) (upd H' a (ExV cls d a)), rt := fun _ _ => False, bk := fun _ _ => False, ct := fun _ _ => False } (σ.set i (some (.ref a))) H) ∧ (b = false → Wout cls d σ H)
section
variable {X : Cx} {x n : Str} {c : Value} {i : Nat} {body suite : List Stmt} {b₀ : Stmt} {np pos pos' : Pos} {tb : WX → TS} {ts : Addr → Value → Option Addr → TS} {Wout : WX}
/-- try: .. except x as n: suite; the exception is known as a value behind it -/
theorem ps_try_track (hs : X.stack = X.env :: X.outer) (hf : X.env.frame = some X.env.locals) (hex : X.ex = []) (hN : X.N.Nodup) (hi : X.N[i]? = some n) (hln : X.env.kindOf n = some .local) (hc : Names X x c) (tk : Takes X Wout)
    (hb : ∀ (W : WX) (pn : List (Addr × Obj)) (xe : Value → Shared → Prop), Takes (X.tr pn xe) W → PassesOwn (model X.prog X.w) X.A X.env xe → PSs (X.tr pn xe) body (tb W))
    (hsu : ∀ (a : Addr) (oe : Obj) (cls : Value) (d : Option Addr) (pn : List (Addr × Obj)), Zc cls d oe → (∃ vs, oe.data = .fields vs) → PSs (X.suite a ((a, oe) :: pn)) (b₀ :: suite) (ts a cls d)) :
    PS X (.Try body [.ExceptHandler (some (.Name x np)) (some n) (b₀ :: suite) pos'] [] [] pos) (fun D σ H => tb (wTrack X.K X.N.length c i ts Wout D) D σ H) := by
  refine ⟨fun pins s σ H D I h => ?_⟩
  have ok := I.ok
  have fr0 : X.A.frames = some (X.env :: X.outer) := ok.frames.trans (congrArg some hs)
  refine wpAny_Try_except (wpAny_mono ((hb (wTrack X.K X.N.length c i ts Wout D) (X.pn ++ pins) (fun e s₁ => wpAny (model X.prog X.w) X.A (noteFrame e X.env) (fun _ s₂ => wpAny (model X.prog X.w) X.A (setFlight e none) (fun _ s₃ =>
    wpAny (model X.prog X.w) X.A (handleBy e X.env [.ExceptHandler (some (.Name x np)) (some n) (b₀ :: suite) pos']) (SP X pins D) X.xe s₃) X.xe s₂) X.xe s₁) (fun u s' q => ?_) PassesOwn.looking).run [] s σ H D (I.toTry _) h) (fun f s1 q => ?_) fun e s1 q => q)
  · obtain ⟨a, B, sI, pins', σ', H', cls, d, rfl, J', nb, up, sky, na, os, ag, b, hb1, yes, no⟩ := q
    have J : Inv X pins σ' H' sI := J'.ofTry ok
    refine Sky.land Zc.steady fr0 hf (by rw [← hs]; exact sky) fun h3 fl3 up3 => ?_
    obtain ⟨oe3, vs3, g3, z3, d3⟩ := fl3.there
    have off : a ∉ frs (X.env :: X.outer) := fun hm => by
      obtain ⟨_, o', e', hnf⟩ := fl3.2.2.1.mem hm
      rw [g3] at e'
      cases e'
      exact hnf _ d3
    have nL : a ≠ X.env.locals := fun z => off (List.mem_filterMap.mpr ⟨X.env, List.mem_cons_self, by rw [hf, z]⟩)
    have nF : a ∉ X.fs := fun hm => by
      obtain ⟨e, he, q⟩ := List.mem_filterMap.mp hm
      exact off (List.mem_filterMap.mpr ⟨e, List.mem_cons_of_mem _ he, q⟩)
    have J3 : Inv X pins σ' H' { s' with heap := h3 } := J.landed nb fl3.1 (up.trans up3) os ag
    -- the exception is younger than all that stood
    have noI : sI.heap.get? a = none := by
      cases q : sI.heap.get? a with
      | none => rfl
      | some o =>
        have := nb a o q (by rw [hs]; exact off)
        rw [fl3.2.1] at this
        cases this
    have no0 : X.s_0.heap.get? a = none := by
      cases q : X.s_0.heap.get? a with
      | none => rfl
      | some o =>
        obtain ⟨o', e⟩ := J.base.there a o q (by rw [hex]; simp)
        rw [noI] at e
        cases e
    have noP : ∀ p ∈ X.pn ++ pins, p.1 ≠ a := fun p hp z => by
      have := (J.pin p hp).1
      rw [z, noI] at this
      cases this
    have S3 := J3.suite g3 d3 na nL nF
    refine wpAny_handleBy_cons (codeAny_handlers_test ?_) (by intro q; cases q)
    have LM := PySem.W.exm_one (M := model X.prog X.w) J3.kIn (fun A Q E s k q => wpAny_typeOf_ref (k _ _ g3) (by rw [z3.1]; exact q)) hb1
    have test : ∀ {Q : Value → Shared → Prop} {E : Value → Shared → Prop}, Q c { s' with heap := h3 } → wpAny (model X.prog X.w) (X.A.mark (some (.ref a))) (eval (.Name x np) X.env) Q E { s' with heap := h3 } := fun {Q E} q => by
      obtain ⟨hg, hdbg, hm | ⟨hm, hv, hnn⟩⟩ := hc
      · exact ld_glob (X := X.suite a ((a, oe3) :: (X.pn ++ pins))) S3 hg hm q hdbg
      · exact ld_blt (X := X.suite a ((a, oe3) :: (X.pn ++ pins))) S3 hg hm hv q hnn hdbg
    refine test (LM.here ?_)
    cases b with
    | true =>
      refine codeAny_handlers_suite_as (HandSPX.lands_againZ fl3 fun h4 fl4 up4 => ?_)
      have J4 : Inv X pins σ' H' { s' with heap := h4 } := J.landed nb fl4.1 ((up.trans up3).trans up4) os ag
      obtain ⟨oe4, vs4, g4, z4, d4⟩ := fl4.there
      refine store_ok (X := X.suite a ((a, oe4) :: (X.pn ++ pins))) (v := .ref a) (J4.suite g4 d4 na nL nF) hN hi (.inl hln) rfl (fun s5 S5 => ?_) (.inr hln)
      refine wpAny_mono ((hsu a oe4 cls d (X.pn ++ pins) z4 ⟨_, d4⟩).run [] s5 _ H' _ S5 (yes rfl a J.len na)) (fun f s6 q => ?_) (fun _ _ z => False.elim z)
      cases f with
      | brk =>
        obtain ⟨_, _, _, q6⟩ := q
        exact False.elim q6
      | cont =>
        obtain ⟨_, _, _, q6⟩ := q
        exact False.elim q6
      | ret u =>
        obtain ⟨_, _, _, _, _, q6⟩ := q
        exact False.elim q6
      | next =>
        obtain ⟨σ6, H6, S6, q6⟩ := q
        have K6 : Inv X ((a, oe4) :: pins) σ6 H6 s6 := ⟨ok, S6.os, S6.bare, S6.base, S6.loc, S6.cell, S6.free, S6.freeC, fun p hp => S6.pin p (by
          rcases List.mem_append.mp hp with hp | hp
          · exact List.mem_append_left _ (List.mem_cons_of_mem _ (List.mem_append_left _ hp))
          · rcases List.mem_cons.mp hp with rfl | hp
            · exact List.mem_append_left _ List.mem_cons_self
            · exact List.mem_append_left _ (List.mem_cons_of_mem _ (List.mem_append_right _ hp))), S6.hok, S6.len⟩
        refine gone_ok K6 hN hi hln fun s7 J7 => ?_
        obtain ⟨g7, n7, _, _, c7⟩ := J7.pin (a, oe4) (List.mem_append_right _ List.mem_cons_self)
        have J8 : Inv X pins (σ6.set i none) H6 s7 := J7.pins_of fun p hp => (let ⟨q1, q2, q3, q4⟩ := J7.pin p (List.mem_append_right _ (List.mem_cons_of_mem _ hp)); ⟨q1, q2, q3, q4⟩)
        exact ⟨_, _, inv_track (oe := oe4) J8 (exV_ok g7 z4 d4) n7 no0 noP nL (fun y cc e z => by
          obtain ⟨v, o, ho, hd⟩ := J8.cell y cc e
          rw [z, g7] at ho
          cases ho
          exact c7 _ hd), q6⟩
    | false =>
      show wpAny _ X.A (handleBy (.ref a) X.env []) _ _ _
      refine wpAny_handleBy_nil ?_
      obtain ⟨k1, k2, k3, oe, vs, T, oT, ts', he, hz, hd, h1, hr⟩ := id fl3
      unfold PySem.passOn
      refine wpAny_bind (wpAny_field he hd h1 ?_)
      rw [if_neg (show ¬ ((Value.ref T == Value.none) = true) from by simp)]
      have fin : wpAny (model X.prog X.w) X.A (setFlight (.ref a) X.env.frame) (fun _ s4 => wpAny (model X.prog X.w) X.A (throw (.ref a) : Sem Flow) (SP X pins D) X.xe s4) X.xe { s' with heap := h3 } := by
        rw [hf]
        exact HandSPX.setFlight_upZ fl3 fun h4 hh4 up4 => wpAny_throw (tk _ _ ⟨a, B, sI, pins, σ', H', cls, d, rfl, J, nb, (up.trans up3).trans up4, .inr (.inr (by rw [hs]; exact hh4)), na, os, ag, no rfl⟩)
      first
        | exact wpAny_bind (wpAny_pure (wpAny_bind fin))
        | exact wpAny_bind fin
  · cases f with
    | next =>
      obtain ⟨σ', H', J', q⟩ := q
      exact wpAny_execs_nil ⟨σ', H', J'.ofTry ok, q⟩
    | brk =>
      obtain ⟨σ', H', J', q⟩ := q
      exact ⟨σ', H', J'.ofTry ok, q⟩
    | cont =>
      obtain ⟨σ', H', J', q⟩ := q
      exact ⟨σ', H', J'.ofTry ok, q⟩
    | ret u =>
      obtain ⟨v, σ', H', J', r, q⟩ := q
      exact ⟨v, σ', H', J'.ofTry ok, r, q⟩
end
end K11
end
section
set_option maxRecDepth 100000
set_option maxHeartbeats 4000000
/-! isinstance and a field of a kept exception. -/
namespace K11
open PySem PySem.Spec PyProof.Rows L2 PySem.W PySem.Calls
section
variable {prog : Program} {w : World} {A : Around} {E : Value → Shared → Prop} {s : Shared} {K : Frag} {x D : Addr} {ox : Obj} {od : Option Obj}
/-- e.__class__ of an exception with its own dict -/
theorem exc_class {Q : Option Value → Shared → Prop} (c : L2.ExcC K D) (X : K.In s.heap) (I : InstAt s.heap x ox D od) (h : Q (some (.ref D)) { s with toks := s.toks + 1 }) : wpAny (model prog w) A (getAttr? (.ref x) "__class__") Q E s := by
  have found : findObj K D od "__class__" = some (.bind (.builtin "getset_descriptor.__get__") (.builtin "object.__class__")) := by
    obtain ⟨cd, hcd, _⟩ := any_some c.hd
    unfold findObj
    rw [hcd, Option.bind_some, c.ha, Option.bind_some]
    simp [c.hn, c.ht]
  obtain ⟨hp, g, d, t, os⟩ := s
  have T0 := I.type (M := model prog w)
  have T1 := looks_findIn (M := model prog w) X c.hg
  have T2 := looks_findIn (M := model prog w) X c.hk
  have T3 := looks_find (M := model prog w) X I found
  have base : Looks (model prog w) hp (isInstance (.ref x) (.type "BaseException")) true := T0.andThen (looks_subIn X c.hs)
  have n2 : (Value.builtin "BaseException.__getattribute__" == Value.builtin "object.__getattribute__") = false := by decide +kernel
  unfold getAttr? getAttrBy? getAttrBy
  refine wpAny_bind (wpAny_mkText (wpAny_bind (wpAny_attempt (wpAny_holding (wpAny_bind (T0.at (wpAny_bind (T1.at ?_))))))))
  show wpAny _ _ (if (onTheHeap (Value.ref D) && Value.builtin "BaseException.__getattribute__" == Value.builtin "object.__getattribute__") = true then _ else _) _ _ _
  rw [show (onTheHeap (Value.ref D) && Value.builtin "BaseException.__getattribute__" == Value.builtin "object.__getattribute__") = false by rw [n2]; rfl, if_neg Bool.false_ne_true]
  unfold getAttrByItsOwn hookBefore
  refine wpAny_bind ?_
  rw [if_pos (show onTheHeap (Value.ref D) = true from rfl)]
  refine T2.at (wpAny_bind (wpAny_attempt (wpAny_holding ?_)))
  unfold callGetattribute
  rw [show (false && onTheHeap (Value.builtin "BaseException.__getattribute__")) = false from rfl, if_neg Bool.false_ne_true]
  unfold boundAndCalled
  rw [PySem.F.excAttr_ValueError.ga.bind (.ref x)]
  refine wpAny_bind (wpAny_pure ?_)
  show wpAny _ _ (call (.builtin "BaseException.__getattribute__") [.ref x, .str "__class__" t]) _ _ _
  refine wpAny_call (codeAny_call_builtin PySem.F.excAttr_ValueError.ga.plain PySem.F.entry_bexc_ga ?_)
  refine @check_slot (model prog w) _ _ ⟨hp, g, d, t + 1, os⟩ "BaseException.__getattribute__" "BaseException" "__getattribute__" (.ref x) [.str "__class__" t] [] _ (by decide +kernel) (by decide +kernel) base (PySem.F.args_bexc_ga (.ref x) (.str "__class__" t)) ?_
  unfold Builtin.«object.__getattribute__»
  refine wpAny_bind (wpAny_of_eq (a := ((Value.ref x : Value), [Value.str "__class__" t])) (by first | rfl | (simp only [slotArgs]; rfl)) ?_)
  refine wpAny_bind (wpAny_pure (wpAny_bind (T0.at (wpAny_bind (T3.at ?_)))))
  show wpAny _ _ (holding [Value.builtin "object.__class__"] (call (.builtin "getset_descriptor.__get__") [.builtin "object.__class__", .ref x, .ref D]) >>= ret) _ _ _
  refine wpAny_bind (wpAny_holding (wpAny_call (class_get (s := ⟨hp, g, d, t + 1, os⟩) (ox := ox) (od := od) X I c.hm (wpAny_pure ?_))))
  show wpAny _ _ (handedOut (.ref D)) _ _ _
  rw [handedOut_of (v := .ref D) rfl]
  first
    | exact wpAny_pure (wpAny_pure h)
    | exact wpAny_pure h
    | exact wpAny_pure (wpAny_bind (wpAny_pure (wpAny_pure h)))
theorem cls_there (c : L2.ExcC K D) : ∃ cl dd cd sl, K.lookup D = some ⟨cl, dd, .cls cd, sl⟩ := by
  obtain ⟨cdD, h, _⟩ := any_some c.hd
  unfold clsIn at h
  split at h
  · rename_i cl dd cd sl ho
    exact ⟨_, _, _, _, ho⟩
  · cases h
theorem exc_kit (c : L2.ExcC K D) : KitX K (.ref x) (.ref D) (fun h => InstAt h x ox D od) where
  ty := fun _ _ _ I => I.type
  it := fun _ _ X _ => by
    obtain ⟨cl, dd, cd, sl, ho⟩ := cls_there c
    intro A' Q' E' s' k q
    unfold isType loadHead
    exact wpAny_bind (wpAny_loadPart (k _ _ (X _ _ ho)) (wpAny_pure q))
  ne := fun h tp dd' its n sl' X htp => by
    obtain ⟨cl, dd, cd, sl, ho⟩ := cls_there c
    refine Bool.eq_false_iff.mpr fun q => ?_
    have e : D = tp := Value.ref.inj (beq_iff_eq.mp q)
    subst e
    cases (X _ _ ho).symm.trans htp
  ca := fun X I k => exc_class c X I k
end
/-- isinstance(e, c), e a kept exception -/
def rIsV (K : PySem.W.Frag) : List V → Hp → VK → Prop := fun xs H Q => ∃ (a D dd : Addr) (fs : List (Str × V)) (c : V) (cv : Value) (b : Bool), xs = [.ref a, c] ∧ H a = some (ExV (.ref D) (some dd) a) ∧ H dd = some (.xd fs) ∧ ExcC K D ∧ ClsV c cv ∧ PySem.W.kitOne K (.ref D) cv = some b ∧ Q (.bl b) H
section
variable {X : Cx}
theorem inst_exV {pins : List (Addr × Obj)} {σ : L2.St} {H : Hp} {s : Shared} {a D dd : Addr} {fs : List (Str × V)} (I : Inv X pins σ H s) (h1 : H a = some (ExV (.ref D) (some dd) a)) (h2 : H dd = some (.xd fs)) :
    ∃ (oe od : Obj) (mA : Str → Option Value), PySem.W.InstAt s.heap a oe D (some od) ∧ s.heap.Ns1 dd mA ∧ s.heap.get? dd = some od ∧ ∀ f, RelO (fs.lookup f) (mA f) := by
  obtain ⟨oe, vs, g, z, d⟩ := exV_at I.hok h1
  obtain ⟨mA, hns, hr⟩ := (show ObjOk X.prog X.w H s.heap dd (.xd fs) from I.hok dd _ h2)
  obtain ⟨od, ho, hl⟩ := lookIn_ns hns
  exact ⟨oe, od, mA, ⟨g, z.1, by unfold PySem.W.notCls; rw [d] <;> rfl, by rw [z.2]; exact ho⟩, hns, ho, hr⟩
theorem call_isV : CallR X (.builtin "isinstance") (rIsV X.K) := by
  intro pins s σ H xs us Q I r h
  obtain ⟨a, D, dd, fs, c, cv, b, rfl, h1, h2, hc, hv, hk, q⟩ := h
  cases r with
  | cons rx rr =>
    cases rr with
    | cons rt rr =>
      cases rr
      cases rx
      have ec := hv.eq rt
      subst ec
      obtain ⟨oe, od, mA, J, _⟩ := inst_exV I h1 h2
      exact PySem.W.kia_one (exc_kit hc) I.kIn J hk (fun z => nomatch z) fun tk => ⟨.bl b, H, I.kept (t' := tk) fun _ _ z => z, rfl, q⟩
/-- e.f, e a kept exception -/
def tFldV (K : PySem.W.Frag) (te : TE) (f : Str) : TE := fun σ H Q => te σ H fun x H1 => ∃ (a D dd : Addr) (fs : List (Str × V)) (v : V), x = .ref a ∧ H1 a = some (ExV (.ref D) (some dd) a) ∧ H1 dd = some (.xd fs) ∧ XfC K D ∧ PySem.W.findIn K (.ref D) f = some none ∧ fs.lookup f = some v ∧ Q v H1
theorem pe_fldV {e : Expr} {te : TE} {pos : Pos} {n : Str} (he : PE X e te) (hb : attributeBase e n X.env (eval e X.env) = eval e X.env := by rfl) : PE X (.Attribute e n pos) (tFldV X.K te n) := by
  refine ⟨fun pins s σ H Q I h => ?_⟩
  refine attr_of hb (thn (he.run pins s σ H _ I h) fun u s1 hh => ?_)
  obtain ⟨x, H1, I1, rx, a, D, dd, fs, v, ex, h1, h2, T, hno, l, q⟩ := hh
  subst ex
  obtain rfl : u = Value.ref a := rx
  obtain ⟨oe, od, mA, J, hns, ho, hr⟩ := inst_exV I1 h1 h2
  obtain ⟨od', ho', hl⟩ := lookIn_ns hns
  have e1 : od = od' := Option.some.inj (ho.symm.trans ho')
  subst e1
  obtain ⟨u, hu, ru⟩ := RelO.some_of (v := v) (o := mA n) (by rw [← l]; exact hr n)
  exact HandSPX.exc_get I1.kIn J T.ga T.gg T.exC (PySem.W.findObj_own T.hdC hno rfl (by rw [hl, hu])) (handed_of ru) ⟨v, H1, I1.tok _, ru, q⟩
end
end K11
end
section
set_option maxRecDepth 100000
set_option maxHeartbeats 4000000
/-! _law_heard. -/
namespace K11
open PySem PySem.Spec PyProof.Rows L2 Evl LamX
/-- the error classes as the top has left them -/
structure ErrT (K : PySem.W.Frag) (mg : Str → Option Value) (CL CT CB CN : Addr) : Prop where
  mL : mg "LetterError" = some (.ref CL)
  mT : mg "TooMany" = some (.ref CT)
  mB : mg "BadBook" = some (.ref CB)
  mN : mg "BadNumber" = some (.ref CN)
  eB : PySem.W.exmOne K (.ref CB) (.ref CL) = some true
  eN : PySem.W.exmOne K (.ref CN) (.ref CL) = some true
  xB : ExcC K CB
  xN : ExcC K CN
  fB : XfC K CB
  fN : XfC K CN
  pB : PySem.W.findIn K (.ref CB) "part" = some none
  pN : PySem.W.findIn K (.ref CN) "part" = some none
  bT : PySem.W.kitOne K (.ref CB) (.ref CT) = some false
  bB : PySem.W.kitOne K (.ref CB) (.ref CB) = some true
  bN : PySem.W.kitOne K (.ref CB) (.ref CN) = some false
  nT : PySem.W.kitOne K (.ref CN) (.ref CT) = some false
  nB : PySem.W.kitOne K (.ref CN) (.ref CB) = some false
  nN : PySem.W.kitOne K (.ref CN) (.ref CN) = some true
/-- what is told of an error: its kind and its part -/
def Told (CB CN : Addr) (cls : Value) (z : Str) (H : Hp) (Q : VK) : Prop :=
  (cls = .ref CB ∧ ∀ r H2, Ex H H2 → H r = none → H2 r = some (.tup [.str "book", .str z]) → Q (.ref r) H2) ∨ (cls = .ref CN ∧ ∀ r H2, Ex H H2 → H r = none → H2 r = some (.tup [.str "number", .str z]) → Q (.ref r) H2)
theorem Told.ex {CB CN : Addr} {cls : Value} {z : Str} {H H' : Hp} {Q : VK} (e : Ex H H') (h : Told CB CN cls z H Q) : Told CB CN cls z H' Q := by
  rcases h with ⟨a, h⟩ | ⟨a, h⟩
  · exact .inl ⟨a, fun r H2 e2 hr => h r H2 (e.trans e2) (fresh_back e hr)⟩
  · exact .inr ⟨a, fun r H2 e2 hr => h r H2 (e.trans e2) (fresh_back e hr)⟩
/-- behind the try: an error is caught -/
def MidP (CB CN : Addr) (Q : VK) (o : Option (Option V)) (H : Hp) : Prop := ∃ a cls dd z, o = some (some (.ref a)) ∧ H a = some (ExV cls (some dd) a) ∧ H dd = some (.xd [("part", .str z)]) ∧ Told CB CN cls z H Q
/-- what _law_heard makes of the reading of what it calls -/
def THeard (CB CN : Addr) : (XK → Hp → VK → Prop) → Hp → VK → Prop := fun tl H Q =>
  tl (fun cls d H' => ∃ dd z, d = some dd ∧ H' dd = some (.xd [("part", .str z)]) ∧ Told CB CN cls z H' Q) H (fun _ _ => False)
theorem pe_weak {X : Cx} {e : Expr} {t : TE} (h : PE X e t) : PE X e (fun σ H Q => ∃ K : VK, (∀ v H1, K v H1 → Q v H1) ∧ t σ H K) :=
  ⟨fun pins s σ H Q I ⟨K, hk, ht⟩ => wpAny_mono (h.run pins s σ H K I ht) (fun u s1 ⟨v, H1, I1, r, q⟩ => ⟨v, H1, I1, r, hk v H1 q⟩) fun _ _ z => z⟩
theorem q_asg_two {i : Nat} {σ : L2.St} {H : Hp} {t1 t2 : TE} {xs ys : List V} {tz : TS} {D : Ends} (h1 : EvU t1 σ H xs) (h2 : ∀ H1, Ex H H1 → EvU t2 σ H1 ys)
    (k : ∀ l p1 p2 H1, Ex H H1 → H1 p1 = some (.tup xs) → H1 p2 = some (.tup ys) → H1 l = some (.lst [.ref p1, .ref p2]) → tz D (σ.set i (some (.ref l))) H1) : tSeq (tAsg (tLst (tCons t1 (tCons t2 tNil))) (gName i)) tz D σ H :=
  h1 H (Ex.refl _) _ fun p1 H2 n1 e2 q1 => h2 H2 e2 H2 (Ex.refl _) _ fun p2 H3 n2 e3 q2 => ⟨by show 2 ≤ sizeLine; decide, fun l hl => k l p1 p2 _ ((e2.trans e3).trans (Ex.new hl)) (Ex.new hl _ _ (e3 _ _ q1)) (Ex.new hl _ _ q2) upd_same⟩
section
variable {X : Cx}
theorem heard_gives {q : Str} {g CL CT CB CN : Addr} {cdg : Value} (T : ErrT X.K X.mg CL CT CB CN) (B : Bi X.mg) :
    GivesTo X ["_law_ask", "_law_caught", "error", "_law_told", "_law_word_here", "_law_is_so"] "_law_heard" (defScope sHeard) g cdg (defBody sHeard) "_law_ask" q (THeard CB CN) := by
  intro f c' s H Q tl act hc h
  have class_ : ∀ {cls : Value} {z : Str} {H' : Hp}, Told CB CN cls z H' Q → PySem.W.exmOne X.K cls (.ref CL) = some true := fun {cls z H'} t => by
    rcases t with ⟨rfl, _⟩ | ⟨rfl, _⟩
    · exact T.eB
    · exact T.eN
  refine ⟨_, pss_cons (ps_set (i := 1) scHeard.nd rfl (.inl rfl) pe_non)
    (pss_cut (ps_try_track (X := (cxOf C8.CX0 X.prog X.w X.K X.mg X.base ["_law_ask", "_law_caught", "error", "_law_told", "_law_word_here", "_law_is_so"] "_law_heard" (defScope sHeard) g cdg X.A X.stack s H C8.E0).nox) (i := 2) (c := .ref CL)
      (tb := fun W D σ H => ∃ (Ech : XK) (K1 : VK), (∀ cls d σ' H', Ech cls d H' → W cls d σ' H') ∧ (∀ v H1, K1 v H1 → D.nx σ H1) ∧ σ[0]? = some (some (.ref f)) ∧ H c' = some (CodeO c' q) ∧ tl Ech H K1)
      (ts := fun a cls d => tAsg (tVar 2) (gName 1)) (Wout := fun _ _ _ _ => False) rfl rfl rfl scHeard.nd rfl rfl ⟨rfl, by decide, .inl T.mL⟩ LamX.takes0 (fun W pn xe tk _ => ?_) (fun a oe cls d pn _ _ => pss_one (ps_set (i := 1) scHeard.nd rfl (.inl rfl) (pv 2))))
    (pss_cons (ps_if (pt_val (pe_callB call_isV (by rfl) B.isinstance (by decide +kernel) (pa_cons (pv 1) (pa_cons (pe_glob (v := .ref CT) (by rfl) T.mT rfl) pa_nil)))) pss_never pss_nil)
    (pss_cons (ps_set (i := 3) scHeard.nd rfl (.inl rfl) (pe_lst (pa_cons (pe_tup (pa_cons pe_str (pa_cons (pe_callB call_isV (by rfl) B.isinstance (by decide +kernel) (pa_cons (pv 1) (pa_cons (pe_glob (v := .ref CB) (by rfl) T.mB rfl) pa_nil))) pa_nil)))
      (pa_cons (pe_tup (pa_cons pe_str (pa_cons (pe_callB call_isV (by rfl) B.isinstance (by decide +kernel) (pa_cons (pv 1) (pa_cons (pe_glob (v := .ref CN) (by rfl) T.mN rfl) pa_nil))) pa_nil))) pa_nil))))
    (pss_cons (ps_for PassesOwn.never rfl (pi_list (pv 3)) (pg_tup rfl (pgs_cons (pg_name (i := 4) scHeard.nd rfl (.inl rfl)) (pgs_cons (pg_name (i := 5) scHeard.nd rfl (.inl rfl)) pgs_nil)))
      (pss_one (ps_if (pt_val (pv 5)) (pss_one (ps_ret (pe_tup (pa_cons (pv 4) (pa_cons (pe_fldV (pv 1)) pa_nil))))) pss_nil)))
    pss_never)))), ?_⟩
  · refine ⟨fun pins s' σ H' D I h' => ?_⟩
    obtain ⟨Ech, K1, hW, hK, h1, h2, h3⟩ := h'
    have hp := act W pn xe Ech ⟨177, 8, 177, 16⟩ ⟨177, 8, 177, 18⟩ tk hW
    have hq := pss_one (ps_expr (pos := ⟨177, 8, 177, 18⟩) (pe_weak hp))
    exact hq.run pins s' σ H' D I ⟨K1, hK, h1, h2, h3⟩
  · refine ⟨fun σ' H' => ∃ a cls dd z v0 v2 v3 v4 v5, σ' = [v0, some (.ref a), v2, v3, v4, v5] ∧ H' a = some (ExV cls (some dd) a) ∧ H' dd = some (.xd [("part", .str z)]) ∧ Told CB CN cls z H' Q, ?_, ?_⟩
    · refine ⟨fun cls d H' => ∃ dd z, d = some dd ∧ H' dd = some (.xd [("part", .str z)]) ∧ Told CB CN cls z H' Q, fun _ _ => False, fun cls d σ' H' e => ?_, fun _ _ z => z.elim, rfl, hc, h⟩
      obtain ⟨dd, z, rfl, hdd, ht⟩ := e
      refine ⟨true, class_ ht, fun _ a hlen na => ?_, fun z => by cases z⟩
      match σ', hlen with
      | [u0, u1, u2, u3, u4, u5], _ =>
        exact ⟨.ref a, rfl, a, cls, dd, z, u0, none, u3, u4, u5, rfl, upd_same, by rw [upd_ne (ne_of_none hdd na)]; exact hdd, ht.ex (Ex.new na)⟩
    · rintro σ' H' ⟨a, cls, dd, z, v0, v2, v3, v4, v5, rfl, ha, hdd, ht⟩
      obtain ⟨bT, bB, bN, D, hD, hT1, hT2, hT3, hX, hF, hP, hend⟩ : ∃ (bT bB bN : Bool) (D : Addr), cls = .ref D ∧ PySem.W.kitOne X.K (.ref D) (.ref CT) = some false ∧ PySem.W.kitOne X.K (.ref D) (.ref CB) = some bB ∧ PySem.W.kitOne X.K (.ref D) (.ref CN) = some bN ∧ ExcC X.K D ∧ XfC X.K D ∧ PySem.W.findIn X.K (.ref D) "part" = some none ∧
          ((bB = true ∧ ∀ r H2, Ex H' H2 → H' r = none → H2 r = some (.tup [.str "book", .str z]) → Q (.ref r) H2) ∨ (bB = false ∧ bN = true ∧ ∀ r H2, Ex H' H2 → H' r = none → H2 r = some (.tup [.str "number", .str z]) → Q (.ref r) H2)) := by
        rcases ht with ⟨rfl, ht⟩ | ⟨rfl, ht⟩
        · exact ⟨false, true, false, CB, rfl, T.bT, T.bB, T.bN, T.xB, T.fB, T.pB, .inl ⟨rfl, ht⟩⟩
        · exact ⟨false, false, true, CN, rfl, T.nT, T.nB, T.nN, T.xN, T.fN, T.pN, .inr ⟨rfl, rfl, ht⟩⟩
      subst hD
      have isv : ∀ {σ : L2.St} {H1 : Hp} {c : Addr} {b : Bool}, Ex H' H1 → σ[1]? = some (some (.ref a)) → PySem.W.kitOne X.K (.ref D) (.ref c) = some b → Ev (tCB (rIsV X.K) (tCons (tVar 1) (tCons (tC (.ref c)) tNil))) σ H1 (.bl b) := fun {σ H1 c b} e hv hk =>
        ev_cb (ea_cons (ev_var hv) (ea_cons ev_c ea_nil)) fun H2 e2 Q q => ⟨a, D, dd, _, .ref c, .ref c, b, rfl, e2 _ _ (e _ _ ha), e2 _ _ (e _ _ hdd), hX, .own c, hk, q H2 (Ex.refl _)⟩
      refine q_when (et_B (isv (Ex.refl _) rfl hT1)) (fun z => by cases z) fun _ H1 e1 => ?_
      refine q_asg_two (eu_tup (ea_cons ev_c (ea_cons (isv (σ := [v0, some (.ref a), v2, v3, v4, v5]) e1 rfl hT2) ea_nil)) (by show 2 ≤ 100000; decide))
        (fun H2 e2 => eu_tup (ea_cons ev_c (ea_cons (isv (σ := [v0, some (.ref a), v2, v3, v4, v5]) (e1.trans e2) rfl hT3) ea_nil)) (by show 2 ≤ 100000; decide)) fun l p1 p2 H3 e03 t1 t2 hl => ?_
      have e04 := e1.trans e03
      refine q_forL (a := l) (xs := [.ref p1, .ref p2]) (ev_var rfl) (sq_of hl) (fun i σ' H4 => ∃ w4 w5, σ' = [v0, some (.ref a), v2, some (.ref l), w4, w5] ∧ Ex H3 H4 ∧ (i = 0 ∨ (i = 1 ∧ bB = false)))
        (fun H4 e4 => ⟨_, _, rfl, e4, .inl rfl⟩) (fun i σ' H4 _ ⟨_, _, _, e, _⟩ => sq_of (e _ _ hl)) ?_ ?_
      · rintro i x σ' H4 hx ⟨w4, w5, rfl, e4, hi⟩
        have ret : ∀ {w : V} {pt : Str} {σ : L2.St} {H5 : Hp}, Ex H4 H5 → σ[1]? = some (some (.ref a)) → σ[4]? = some (some (.str pt)) → EvU (tTup (tCons (tVar 4) (tCons (tFldV X.K (tVar 1) "part") tNil))) σ H5 [.str pt, .str z] := fun {w pt σ H5} e5 h1 h4 =>
          eu_tup (ea_cons (ev_var h4) (ea_cons (fun H6 e6 Q q => ⟨.ref a, h1, a, D, dd, _, .str z, rfl, e6 _ _ (e5 _ _ (e4 _ _ (e04 _ _ ha))), e6 _ _ (e5 _ _ (e4 _ _ (e04 _ _ hdd))), hF, hP, rfl, q H6 (Ex.refl _)⟩) ea_nil)) (by show 2 ≤ 100000; decide)
        rcases hi with rfl | ⟨rfl, hb⟩
        · obtain rfl : V.ref p1 = x := Option.some.inj hx
          refine ⟨p1, _, rfl, st_of (e4 _ _ t1), rfl, _, _, rfl, _, _, rfl, rfl, ?_⟩
          refine s_when (et_B (ev_var rfl)) (fun hb H5 e5 => ?_) fun hb H5 e5 => ⟨_, _, rfl, e4.trans e5, .inr ⟨rfl, hb⟩⟩
          rcases hend with ⟨_, hend⟩ | ⟨hb2, _⟩
          · exact s_retU (ret (w := .non) e5 rfl rfl) fun r H6 hr e6 h6 => hend r H6 (e04.trans (e4.trans (e5.trans e6))) (fresh_back (e04.trans (e4.trans e5)) hr) h6
          · rw [hb2] at hb; cases hb
        · obtain rfl : V.ref p2 = x := Option.some.inj hx
          refine ⟨p2, _, rfl, st_of (e4 _ _ t2), rfl, _, _, rfl, _, _, rfl, rfl, ?_⟩
          rcases hend with ⟨hb2, _⟩ | ⟨_, hbn, hend⟩
          · rw [hb2] at hb; cases hb
          · subst hbn
            exact s_when (et_B (ev_var rfl)) (fun _ H5 e5 => s_retU (ret (w := .non) e5 rfl rfl) fun r H6 hr e6 h6 => hend r H6 (e04.trans (e4.trans (e5.trans e6))) (fresh_back (e04.trans (e4.trans e5)) hr) h6) fun hb H5 e5 => by cases hb
      · rintro σ' H4 ⟨_, _, _, _, hi⟩
        rcases hi with hi | ⟨hi, _⟩ <;> cases hi
end
end K11
end
section
set_option maxRecDepth 100000
set_option maxHeartbeats 4000000
/-! A lambda with one parameter that has a default, handed to a def that calls it with nothing. -/
namespace K11
open PySem PySem.Spec PyProof.Rows L2 Evl LamX
/-- one parameter, that no name of ours is; captured names and globals besides -/
structure LamP (N : List Str) (p0 : Str) (sc scope : Scope) : Prop where
  kind : scope.kind = .function
  co : scope.isCoroutine = false
  gen : scope.isGenerator = false
  own : ∀ y ∈ scope.names, y.2 ≠ .cell
  loc : ∀ y, scope.names.lookup y = some .local → y = p0
  par : scope.names.lookup p0 = some .local
  nin : p0 ∉ N
  free : ∀ y ∈ scope.names, y.2 = .free → sc.names.lookup y.1 = some .cell ∨ sc.names.lookup y.1 = some .free
theorem LamP.has {X : Cx} {N : List Str} {p0 : Str} {scope : Scope} (L : LamP N p0 X.env.scope scope) (ok : X.Ok) : ∀ y ∈ scope.names, y.2 = .free → ∃ c, X.env.cells.lookup y.1 = some c := fun y hy e => by
  rcases L.free y hy e with k | k
  · exact ok.has _ (.inl k)
  · exact ok.has _ (.inr k)
section
variable {X : Cx} {pins : List (Addr × Obj)} {σ : L2.St} {H HZ : Hp} {s s1 : Shared}
theorem lam_makeD {T : List (Addr × Str)} {c P : Addr} {params : Arguments} {e : Expr} {v0 : V} {body : Expr} {scope : Scope} {pos : Pos} {E : Value → Shared → Prop} {Q : Value → Shared → Prop} (I : Inv X pins σ H s) (TB : TabB X.base X.mg c P) (hcode : X.env.code = .ref c)
    (hm : (P, X.env.qual ++ "<lambda>") ∈ T) (hu : ∀ p ∈ T, p.1 = P → p.2 = X.env.qual ++ "<lambda>") (hT : Tabs T H) (hde : params.defaults = [e]) (hk0 : params.kw_defaults = []) (he : ∀ (s : Shared) (Q : Value → Shared → Prop), (∀ u t, Q u { s with toks := t }) → wpAny (model X.prog X.w) X.A (eval e X.env) Q E s)
    (hfree : ∀ y ∈ scope.names, y.2 = .free → ∃ c, X.env.cells.lookup y.1 = some c)
    (h : ∀ (f c' Td : Addr) (dv doc pm ctv : Value) (H1 : Hp) (s' : Shared), Inv X pins σ H1 s' → ExtN H H1 → Tabs T H1 →
      s'.heap.get? f = some (PySem.W.kdv_obj "<lambda>" (X.env.qual ++ "<lambda>") params (.expr body) scope (cloFrom X.env.cells scope.names []) (.ref Td) doc pm c' ctv) → H1 f = none → f ∉ frs X.stack →
      s'.heap.get? Td = some (PySem.W.kdv_tup [dv]) → H1 Td = none → Td ∉ frs X.stack → H1 c' = some (CodeO c' (X.env.qual ++ "<lambda>")) → Q (.ref f) s') :
    wpAny (model X.prog X.w) X.A (eval (.Lambda params body scope pos) X.env) Q E s := by
  obtain ⟨ps, hP, ht, ha⟩ := hT _ hm
  refine PySem.W.kdv_lam (by rw [hde]; rfl) hk0 ?_
  rw [hde]
  refine PySem.W.kdv_all1 (he s _ fun dv t0 => PySem.W.kdv_all0 ?_)
  have I0 : Inv X pins σ H { s with toks := t0 } := I.kept (t' := t0) fun _ _ z => z
  rw [makeFunction_eq]
  simp only [List.zip_nil_right, List.filterMap_nil, List.isEmpty_nil, List.isEmpty_cons, if_true, pure_bind, Bool.false_eq_true, if_false]
  refine wpAny_bind (wpAny_newTextTuple ?_)
  have nofr : ∀ f, s.heap.objs.size ≤ f → f ∉ frs X.stack := fun f hf z => by
    rcases List.mem_cons.mp (I.stkSub _ z) with e | e
    · have h1 := I.lt
      rw [← e] at h1
      exact Nat.lt_irrefl _ (Nat.lt_of_lt_of_le h1 hf)
    · exact I.nofs hf e
  have Ip : Inv X pins σ H { s with heap := s.heap.push (PySem.W.kdv_tup [dv]), toks := t0 } := I.kept fun b o z => Heap.get?_push_of_some _ z
  have szp : s.heap.objs.size < (s.heap.push (PySem.W.kdv_tup [dv])).objs.size := by rw [Heap.size_push]; exact Nat.lt_succ_self _
  have dT : (s.heap.push (PySem.W.kdv_tup [dv])).get? s.heap.objs.size = some (PySem.W.kdv_tup [dv]) := Heap.get?_push_size _ rfl
  have nT : H s.heap.objs.size = none := I.hok.fresh (Nat.le_refl _)
  have bP := TB.bm.keeps Ip.bk
  have hP' : (s.heap.push (PySem.W.kdv_tup [dv])).get? P = some { cls := .none, data := .fields ps } := Ip.hok P _ hP
  show wpAny _ _ (makeTail "<lambda>" (X.env.qual ++ "<lambda>") params (.expr body) scope X.env (.ref s.heap.objs.size) .none none pos pos.line) Q E { s with heap := s.heap.push (PySem.W.kdv_tup [dv]), toks := t0 }
  cases hc : codeAmong pos ps.toList with
  | none =>
    refine PySem.W.kdv_makeTail (s := { s with heap := s.heap.push (PySem.W.kdv_tup [dv]), toks := t0 }) (mg := X.mg) (c := c) (P := P) (ps := ps) (closure_ok hfree) I.ok.glob (I.mod.glob.keeps Ip.bk) hcode (TB.code.keeps Ip.bk) hP' ht hc TB.gP bP fun c' ctv doc h' tk hx hge hlt hrec htb => ?_
    obtain ⟨c2, oc, vs, t, e2, hoc, hd, hv⟩ := hrec
    cases e2
    have hge0 : (s.heap.push (PySem.W.kdv_tup [dv])).objs.size ≤ c' := hge
    have hsz : (s.heap.push (PySem.W.kdv_tup [dv])).objs.size ≤ h'.objs.size := Nat.le_trans hge0 (Nat.le_of_lt hlt)
    have nC : H c' = none := Ip.hok.fresh hge
    have I1 := inv_table (t' := tk) (more := #[rawInt pos.line, rawInt pos.col, .ref c']) (h' := h'.push (PySem.W.kdv_obj "<lambda>" (X.env.qual ++ "<lambda>") params (.expr body) scope (cloFrom X.env.cells scope.names []) (.ref s.heap.objs.size) doc ((X.mg "__name__").getD .none) c' ctv)) Ip hP
      (fun b o hb e => Heap.get?_push_of_some _ (hx b o hb e)) (Heap.get?_push_of_some _ htb) hge0 ⟨oc, vs, t, Heap.get?_push_of_some _ hoc, hd, hv⟩
    have hE : ExtN H (upd (upd H P (.tbl (ps ++ #[rawInt pos.line, rawInt pos.col, .ref c']))) c' (CodeO c' (X.env.qual ++ "<lambda>"))) := fun b o e n => by
      rw [upd_ne (ne_of_none e nC), upd_ne (fun z => n ps (Option.some.inj (e.symm.trans (by rw [z]; exact hP))))]
      exact e
    have eL : (ps ++ #[rawInt pos.line, rawInt pos.col, .ref c']).toList = ps.toList ++ [rawInt pos.line, rawInt pos.col, .ref c'] := by simp
    have tP : s.heap.objs.size ≠ P := fun z => by rw [z, hP] at nT; cases nT
    have tC : s.heap.objs.size ≠ c' := Nat.ne_of_lt (Nat.lt_of_lt_of_le szp hge0)
    refine h h'.objs.size c' s.heap.objs.size dv doc ((X.mg "__name__").getD .none) ctv _ _ I1 hE (fun p hp => ?_) (Heap.get?_push_size _ rfl) ?_ (nofr _ (Nat.le_of_lt (Nat.lt_of_lt_of_le szp hsz))) (Heap.get?_push_of_some _ (hx _ _ tP dT)) ?_ (nofr _ (Nat.le_refl _)) upd_same
    · by_cases hb : p.1 = P
      · rw [hu p hp hb, hb]
        refine ⟨_, by rw [upd_ne (ne_of_none hP nC), upd_same], by rw [eL]; exact PySem.TriplesOk_snoc _ _ _ _ ht, fun p' cv hcv => ?_⟩
        rw [eL] at hcv
        rcases among_app _ ht hcv with z | z
        · obtain ⟨c0, e1, e2⟩ := ha p' cv z
          exact ⟨c0, e1, hE _ _ e2 codeO_ne⟩
        · exact ⟨c', z, upd_same⟩
      · obtain ⟨ps', a1, a2, a3⟩ := hT p hp
        refine ⟨ps', by rw [upd_ne (ne_of_none a1 nC), upd_ne hb]; exact a1, a2, fun p' cv hcv => ?_⟩
        obtain ⟨c0, e1, e2⟩ := a3 p' cv hcv
        exact ⟨c0, e1, hE _ _ e2 codeO_ne⟩
    · have n1 : h'.objs.size ≠ c' := Nat.ne_of_gt hlt
      have n2 : h'.objs.size ≠ P := Nat.ne_of_gt (Nat.lt_of_lt_of_le (Heap.lt_size hP') hsz)
      rw [upd_ne n1, upd_ne n2]
      exact Ip.hok.fresh hsz
    · rw [upd_ne tC, upd_ne tP]
      exact nT
  | some cv =>
    obtain ⟨c', e, hco⟩ := ha pos cv hc
    subst e
    refine PySem.W.kdv_makeTailHit (s := { s with heap := s.heap.push (PySem.W.kdv_tup [dv]), toks := t0 }) (mg := X.mg) (c := c) (P := P) (ps := ps) (closure_ok hfree) I.ok.glob (I.mod.glob.keeps Ip.bk) hcode (TB.code.keeps Ip.bk) hP' ht hc bP fun ctv doc h' tk hx hsz => ?_
    have I1 : Inv X pins σ H { s with heap := h'.push (PySem.W.kdv_obj "<lambda>" (X.env.qual ++ "<lambda>") params (.expr body) scope (cloFrom X.env.cells scope.names []) (.ref s.heap.objs.size) doc ((X.mg "__name__").getD .none) c' ctv), toks := tk } := I.kept fun b o e => Heap.get?_push_of_some _ (hx b o (Heap.get?_push_of_some _ e))
    have hsz' : (s.heap.push (PySem.W.kdv_tup [dv])).objs.size ≤ h'.objs.size := hsz
    exact h h'.objs.size c' s.heap.objs.size dv doc ((X.mg "__name__").getD .none) ctv H _ I1 (ExtN.refl H) hT (Heap.get?_push_size _ rfl) (Ip.hok.fresh hsz') (nofr _ (Nat.le_of_lt (Nat.lt_of_lt_of_le szp hsz'))) (Heap.get?_push_of_some _ (hx _ _ dT)) nT (nofr _ (Nat.le_refl _)) hco
theorem lam_startD {A : Around} {outer : List Env} {E : XK} {scope : Scope} {f c' : Addr} {p0 : Str} {dv : Value} {h₁ : Heap} {tk : Nat} (I : Inv X pins σ H s) (L : LamP X.N p0 X.env.scope scope) (e0 : Env0 X.prog X.w X.K X.mg X.base A outer s1 HZ) (hd : A.handled = none)
    (un : Un (frs X.stack) [] H HZ s.heap s1.heap) (hns : h₁.Ns s1.heap.objs.size fun y => ([(p0, dv)] : List (Str × Value)).reverse.lookup y) (kp : ∀ b o, s1.heap.get? b = some o → h₁.get? b = some o) :
    Inv (lamCx X A outer s1 HZ E scope f c') [] σ HZ { s1 with heap := h₁, toks := tk } := by
  have hfree := L.has I.ok
  have cm : ∀ {y c}, (cloFrom X.env.cells scope.names []).lookup y = some c → X.env.cells.lookup y = some c := fun {y c} e => by
    rcases cloFrom_mem (PySem.mem_of_lookup e) with hm | ⟨h1, h2⟩
    · cases hm
    · obtain ⟨c1, hc⟩ := hfree _ h1 rfl
      have hc : X.env.cells.lookup y = some c1 := hc
      have e2 : c = c1 := by
        rw [h2, hc] <;> rfl
      rw [e2]
      exact hc
  have look : ∀ {y}, scope.names.lookup y = some .free → ∃ c, (cloFrom X.env.cells scope.names []).lookup y = some c := fun {y} hl => by
    have hy : (y, NameKind.free) ∈ scope.names := PySem.mem_of_lookup hl
    exact mem_lookup (cloFrom_has (cells := X.env.cells) (acc := []) hy)
  have cellK : ∀ {c : Addr} {v : Option Value}, H c = none → s.heap.IsCell c v → h₁.IsCell c v := fun {c v} n ⟨o, ho, hd⟩ => by
    obtain ⟨sl, q⟩ := un.any ho n (by simp)
    exact ⟨_, kp _ _ q, hd⟩
  have noA : ∀ b : Addr, b ∉ (lamCx X A outer s1 HZ E scope f c').ex := fun b z => absurd (show b ∈ ([] : List Addr) from z) (by simp)
  refine ⟨⟨e0.mod, L.kind, rfl, rfl, Nat.le_refl _, fun y z c e1 e2 => I.ok.inj y z c (cm e1) (cm e2), fun y hy => ?_, fun y c z _ => ?_, fun _ => hd, Around.frames_deeper e0.frames, .inr ⟨rfl, rfl⟩, fun b z => absurd z (noA b), e0.bs, e0.bsz, fun b _ _ => noA b,
      fun b z => absurd z (noA b), e0.funs, e0.frf⟩,
    rfl, e0.bare, Un.kept kp, ⟨_, hns, fun i y v e1 e2 e3 => ?_⟩, fun y c e => ?_, e0.hok.fresh (Nat.le_refl _), fun y c e => ?_, fun q hq => absurd (show q ∈ ([] : List (Addr × Obj)) ++ [] from hq) (by simp), e0.hok.kept kp, I.len⟩
  · have hy : scope.names.lookup y = some .cell ∨ scope.names.lookup y = some .free := hy
    rcases hy with hy | hy
    · exact absurd rfl (L.own _ (PySem.mem_of_lookup hy))
    · exact look hy
  · have z : false = true := z
    cases z
  · have e3 : Vis scope y := e3
    rcases e3 with k | k | k
    · exact absurd (by rw [← L.loc y k]; exact List.mem_of_getElem? e1) L.nin
    · exact absurd rfl (L.own _ (PySem.mem_of_lookup k))
    · obtain ⟨m, hn, hl⟩ := I.loc
      have hvis : Vis X.env.scope y := (L.free _ (PySem.mem_of_lookup k) rfl).elim (fun k => .inr (.inl k)) (fun k => .inr (.inr k))
      obtain ⟨w', r, q⟩ := hl i y v e1 e2 hvis
      obtain ⟨c2, h2⟩ := look k
      refine ⟨w', r, .inr ⟨.inr k, c2, h2, ?_⟩⟩
      have c1 := cm h2
      rcases q with ⟨k', _⟩ | ⟨_, c3, e', z⟩
      · have k' : X.env.scope.names.lookup y = some .local := k'
        rcases L.free _ (PySem.mem_of_lookup k) rfl with k2 | k2 <;> rw [show X.env.scope.names.lookup y = _ from k2] at k' <;> cases k'
      · rw [c1] at e'
        cases e'
        exact cellK (I.freeC y _ c1) z
  · obtain ⟨w', z⟩ := I.cell y c (cm e)
    exact ⟨w', cellK (I.freeC y c (cm e)) z⟩
  · obtain ⟨v, o, ho, hd⟩ := I.cell y c (cm e)
    exact un.free c o ho (I.freeC y c (cm e)) (by simp)
/-- x(), in the def that got the lambda -/
theorem pe_actD {CXg : CXT} {Eg : XK} {Ng : List Str} {qg : Str} {sg : Scope} {g f c' Td : Addr} {cdg dv doc pm ctv : Value} {params : Arguments} {body : Expr} {scope : Scope} {p0 : Str} {k i : Nat} {a : Str} {pn : List (Addr × Obj)} {xe : Value → Shared → Prop} {W : WX} {E : XK} {tb : TE} {p1 p2 : Pos}
    (I : Inv X pins σ H s) (L : LamP X.N p0 X.env.scope scope) (hf : s.heap.get? f = some (PySem.W.kdv_obj "<lambda>" (X.env.qual ++ "<lambda>") params (.expr body) scope (cloFrom X.env.cells scope.names []) (.ref Td) doc pm c' ctv)) (hfn : H f = none) (hfr : f ∉ frs X.stack)
    (hd0 : s.heap.get? Td = some (PySem.W.kdv_tup [dv])) (hdn : H Td = none) (hdr : Td ∉ frs X.stack)
    (hbind : ∀ (s : Shared) (q : Str) (cl : List (Str × Addr)) (doc pm cv ctv : Value), s.heap.get? Td = some (PySem.W.kdv_tup [dv]) → BindsTo s (PySem.W.kdv_fn "<lambda>" q params (.expr body) scope cl (.ref Td) doc pm cv ctv) ⟨[], []⟩ [(p0, dv)])
    (tk : Takes ((cxOf CXg X.prog X.w X.K X.mg X.base Ng qg sg g cdg X.A X.stack s H Eg).tr pn xe) W) (hW : ∀ cls d σ' H', E cls d H' → W cls d σ' H') (hr : Room (k + 1) (X.A.deeper (envOfC qg sg s.heap.objs.size g cdg)))
    (hbody : ∀ (A : Around) (outer : List Env) (s : Shared) (H : Hp), Room k (A.deeper (lamEnv X scope s.heap.objs.size f c')) → PE (lamCx X A outer s H E scope f c') body tb)
    (hN : Ng[i]? = some a) (hv : Vis sg a) (hd : (a == ("__debug__" : Str)) = false := by decide) (hcd : (a == ("__classdict__" : Str)) = false := by decide) :
    PE ((cxOf CXg X.prog X.w X.K X.mg X.base Ng qg sg g cdg X.A X.stack s H Eg).tr pn xe) (.Call (.Name a p1) [] [] p2)
      (fun σZ HZ Q => σZ[i]? = some (some (.ref f)) ∧ HZ c' = some (CodeO c' (X.env.qual ++ "<lambda>")) ∧ tb σ HZ Q) := by
  refine ⟨fun pinsZ sZ σZ HZ Q IZ h => ?_⟩
  obtain ⟨hs, hc, ht⟩ := h
  refine wpAny_Call_Name_kw (thn ((pe_var (pos := p1) (i := i) hN hv hd hcd).run pinsZ sZ σZ HZ (fun v H1 => v = .ref f ∧ H1 = HZ) IZ ⟨.ref f, hs, rfl, rfl⟩) fun u s1 ⟨v, H1, I1, r1, q1⟩ => ?_)
  obtain ⟨ev, eH⟩ := q1
  subst ev
  rw [eH] at I1
  obtain rfl : u = Value.ref f := r1
  have of1 : s1.heap.get? f = some (PySem.W.kdv_obj "<lambda>" (X.env.qual ++ "<lambda>") params (.expr body) scope (cloFrom X.env.cells scope.names []) (.ref Td) doc pm c' ctv) := I1.base.keep f _ hf hfn hfr (fun z => nomatch (show f ∈ ([] : List Addr) from z))
  have od1 : s1.heap.get? Td = some (PySem.W.kdv_tup [dv]) := I1.base.keep Td _ hd0 hdn hdr (fun z => nomatch (show Td ∈ ([] : List Addr) from z))
  refine PySem.W.callWith_F0 ⟨_, _, _, _, of1⟩ ?_
  have un : Un (frs X.stack) [] H HZ s.heap s1.heap := I1.base
  obtain ⟨⟨oc, vs, t, hoc, hdc, hvc⟩, _, _⟩ := I1.hok c' _ hc
  have rc : codeAny (model X.prog X.w) (X.A.deeper (envOfC qg sg s.heap.objs.size g cdg)) (.call (.ref f) ⟨[], []⟩) (CR (L2.CX X.prog X.w) (envOfC qg sg s.heap.objs.size g cdg :: X.stack) X.prog X.w HZ s1 Q E) s1 := by
    refine PySem.W.kla_callFunE hr.depth of1 rfl L.co L.gen rfl ⟨c', oc, vs, t, rfl, hoc, hdc, hvc⟩ (hbind _ _ _ _ _ _ _ od1 _ _ _ _ ?_)
    refine wpAny_newFunctionEnv L.own (fun y hy => ?_) (fun h₁ hns hsb => ⟨I1.nolimit.fresh _ hsb, ?_⟩) L.kind
    · rw [List.mem_singleton.mp hy]; exact L.par
    show codeAny _ _ (.expr body (lamEnv X scope s1.heap.objs.size f c')) _ _
    have kp : ∀ b o, s1.heap.get? b = some o → h₁.get? b = some o := fun b o e => hsb.extBut b o (Nat.ne_of_lt (Heap.lt_size e)) (Heap.get?_push_of_some _ e)
    have J : Inv (lamCx X (X.A.deeper (envOfC qg sg s.heap.objs.size g cdg)) (envOfC qg sg s.heap.objs.size g cdg :: X.stack) s1 HZ E scope f c') [] σ HZ { s1 with heap := h₁, toks := s1.toks + ([(p0, dv)] : List (Str × Value)).length } :=
      lam_startD I L I1.env0 hr.hd un hns kp
    refine PySem.W.kla_codeExpr (wpAny_mono ((hbody _ _ s1 HZ (hr.deeper _)).run [] _ _ HZ Q J ht) (fun v s' hq => ?_) fun e s' hq => hq)
    obtain ⟨w', H', J', rv, q⟩ := hq
    exact ⟨w', H', J'.os, J'.bare, J'.base, J'.hok, rv, q⟩
  have hx : Passes (L2.CX X.prog X.w) ((cxOf CXg X.prog X.w X.K X.mg X.base Ng qg sg g cdg X.A X.stack s H Eg).tr pn xe) E := passes_call tk hW
  refine wpAny_call (codeAny_mono rc fun r s' hq => ?_)
  cases r with
  | error e => exact hx pinsZ σZ HZ s1 e s' I1 hq
  | ok fl =>
    cases fl with
    | ret u => exact I1.after hq
    | next => exact False.elim hq
    | brk => exact False.elim hq
    | cont => exact False.elim hq
end
section
variable {X : Cx}
/-- x(lambda p0=..: body) -/
theorem pe_lamcallD {T : List (Addr × Str)} {TT : (XK → Hp → VK → Prop) → Hp → VK → Prop} {x a p0 : Str} {g c P : Addr} {k : Nat} {pg : Arguments} {bg : List Stmt} {sg : Scope} {dV kV doc pm cdv ct oc : Value} {an od : Option Addr} {osl : Array (Option Value)} {Ng : List Str}
    {params : Arguments} {e : Expr} {body : Expr} {scope : Scope} {t : XK → TE} {p lpos pos : Pos} (hg : Gl X x) (hm : X.mg x = some (.ref g)) (hk : PySem.W.keepIn X.K (.ref g) = true)
    (lk : X.K.lookup g = some ⟨oc, od, .func (PySem.W.fnOf x x pg bg sg dV kV doc pm an cdv ct), osl⟩) (hcg : PySem.W.codeIn X.K cdv x = true) (hb : L2.Binds X.K (PySem.W.fnOf x x pg bg sg dV kV doc pm an cdv ct) [a] []) (Sg : FnScope Ng [a] sg) (hNg : Ng[0]? = some a) (hva : Vis sg a)
    (hG : GivesTo X Ng x sg g cdv bg a (X.env.qual ++ "<lambda>") TT)
    (TB : TabB X.base X.mg c P) (hcode : X.env.code = .ref c) (hmT : (P, X.env.qual ++ "<lambda>") ∈ T) (hu : ∀ p ∈ T, p.1 = P → p.2 = X.env.qual ++ "<lambda>") (hr : Room (k + 2) X.A) (L : LamP X.N p0 X.env.scope scope)
    (hde : params.defaults = [e]) (hk0 : params.kw_defaults = []) (he : ∀ (E : Value → Shared → Prop) (s : Shared) (Q : Value → Shared → Prop), (∀ u t, Q u { s with toks := t }) → wpAny (model X.prog X.w) X.A (eval e X.env) Q E s)
    (hbind : ∀ (s : Shared) (q : Str) (cl : List (Str × Addr)) (Td : Addr) (dv doc pm cv ctv : Value), s.heap.get? Td = some (PySem.W.kdv_tup [dv]) → BindsTo s (PySem.W.kdv_fn "<lambda>" q params (.expr body) scope cl (.ref Td) doc pm cv ctv) ⟨[], []⟩ [(p0, dv)])
    (hbody : ∀ (A : Around) (outer : List Env) (s : Shared) (H : Hp) (E : XK) (f c' : Addr), Room k (A.deeper (lamEnv X scope s.heap.objs.size f c')) → PE (lamCx X A outer s H E scope f c') body (t E))
    (hdb : (x == ("__debug__" : Str)) = false := by decide) (hd : (a == ("__debug__" : Str)) = false := by decide) (hcd : (a == ("__classdict__" : Str)) = false := by decide) :
    PE X (.Call (.Name x p) [.Lambda params body scope lpos] [] pos) (tLam T TT t) := by
  refine ⟨fun pins s σ H Q I h => ?_⟩
  obtain ⟨hT, h⟩ := h
  refine wpAny_Call_Name_kw (ld_glob I hg hm ?_ hdb)
  refine PySem.W.callWith_K (h₀ := X.base) I.ok.mod.kin hk ?_ (by rfl) (by rfl)
  show wpAny _ _ (spliced ((false, eval (.Lambda params body scope lpos) X.env) :: backTo pos (starEach [] X.env))) _ _ s
  refine Calls.spliced_cons (lam_makeD (v0 := .non) I TB hcode hmT hu hT hde hk0 (he _) (L.has I.ok) fun f c' Td dv doc' pm' ctv H1 s' I1 eN T1 hf hfn hfr hd1 hd2 hd3 hco => ?_)
  refine Calls.spliced_nil ⟨I1.kIn, ?_⟩
  have rc : codeAny (model X.prog X.w) X.A (.call (.ref g) ⟨[.ref f], []⟩) (CR C8.CX0 X.stack X.prog X.w H1 s' Q C8.E0) s' := by
    refine run_ofS (N := Ng) (ps := [a]) (us := [.ref f]) (vs := [.ref f]) lk hcg Sg hr I1.env0 (hb s' [.ref f] I1.kIn rfl) (.cons rfl .nil) rfl fun hr' => ?_
    obtain ⟨t', ht', hq'⟩ := hG f c' s' H1 Q (fun E H' Q' => t E σ H' Q') (fun W pn xe E p1 p2 tk hW => pe_actD (i := 0) I1 L hf hfn hfr hd1 hd2 hd3 (fun s q cl doc pm cv ctv hT => hbind s q cl Td dv doc pm cv ctv hT) tk hW hr' (fun A outer s H hr2 => hbody A outer s H E f c' hr2) hNg hva hd hcd) hco (h H1 eN T1)
    exact ⟨t', ht'.nox, hq'⟩
  refine wpAny_call (codeAny_mono rc fun r s2 hq => ?_)
  cases r with
  | error e => exact (show False from hq).elim
  | ok fl =>
    cases fl with
    | ret u => exact I1.after hq
    | next => exact False.elim hq
    | brk => exact False.elim hq
    | cont => exact False.elim hq
end
end K11
end
section
set_option maxRecDepth 100000
set_option maxHeartbeats 4000000
/-! The triples as data: what repr, != and sorted ask of them. -/
namespace K11
open PySem PySem.Spec PyProof.Rows L2 Evl
def i3 (t : T3) : I3 := ((t.1 : Int), (t.2.1 : Int), (t.2.2 : Int))
def dTr (ts : List T3) : PyData := .tuple (ts.map fun t => d3 (i3 t))
theorem d3_can (b : I3) : (d3 b).canLay0 = true := by simp [d3, PyData.canLay0, PyData.canLayAll0]
theorem d3_depth (b : I3) : (d3 b).depth = 1 := by simp [d3, PyData.depth, PyData.depthAll]
theorem log2_small {i : Int} (h : i.natAbs < 1024) : i.natAbs.log2 < 10 := by
  by_cases h0 : i.natAbs = 0
  · rw [h0]; decide
  · exact (Nat.log2_lt h0).mpr h
theorem w_small {i : Int} (h : i.natAbs < 1024) : PyData.weight (.int i) ≤ 11 := by
  simp only [PyData.weight]
  split
  · omega
  · have := log2_small h; omega
theorem s_small {i : Int} (h : i.natAbs < 1024) : PyData.showable (.int i) = true := by
  simp only [PyData.showable, decide_eq_true_eq]
  have := log2_small h; omega
theorem n_small {i : Int} (h : i.natAbs < 1024) : PyData.intsShort 13 (.int i) = true := by
  simp only [PyData.intsShort, decide_eq_true_eq]
  exact PyData.shown_int_le (by omega)
def Sm (b : I3) : Prop := b.1.natAbs < 1024 ∧ b.2.1.natAbs < 1024 ∧ b.2.2.natAbs < 1024
theorem d3_weight {b : I3} (h : Sm b) : (d3 b).weight ≤ 36 := by
  have a1 := w_small h.1
  have a2 := w_small h.2.1
  have a3 := w_small h.2.2
  show PyData.weightAll _ ≤ 36
  simp only [PyData.weightAll]
  omega
theorem d3_show {b : I3} (h : Sm b) : (d3 b).showable = true := by
  show PyData.showableAll _ = true
  simp [PyData.showableAll, s_small h.1, s_small h.2.1, s_small h.2.2]
theorem d3_short {b : I3} (h : Sm b) : (d3 b).intsShort 13 = true := by
  show PyData.intsShortAll 13 _ = true
  simp [PyData.intsShortAll, n_small h.1, n_small h.2.1, n_small h.2.2]
theorem can_all : ∀ ts : List I3, PyData.canLayAll0 (ts.map d3) = true
  | [] => rfl
  | t :: ts => by rw [List.map_cons, PyData.canLayAll0, d3_can, can_all ts]; rfl
theorem depth_all : ∀ ts : List I3, PyData.depthAll (ts.map d3) ≤ 1
  | [] => by simp [PyData.depthAll]
  | t :: ts => by rw [List.map_cons, PyData.depthAll, d3_depth]; have := depth_all ts; omega
theorem weight_all : ∀ ts : List I3, (∀ t ∈ ts, Sm t) → PyData.weightAll (ts.map d3) ≤ 37 * ts.length
  | [], _ => by simp [PyData.weightAll]
  | t :: ts, h => by
    rw [List.map_cons, PyData.weightAll, List.length_cons]
    have a := d3_weight (h t List.mem_cons_self)
    have b := weight_all ts fun x hx => h x (List.mem_cons_of_mem _ hx)
    omega
theorem show_all : ∀ ts : List I3, (∀ t ∈ ts, Sm t) → PyData.showableAll (ts.map d3) = true
  | [], _ => rfl
  | t :: ts, h => by rw [List.map_cons, PyData.showableAll, d3_show (h t List.mem_cons_self), show_all ts fun x hx => h x (List.mem_cons_of_mem _ hx)]; rfl
theorem short_all : ∀ ts : List I3, (∀ t ∈ ts, Sm t) → PyData.intsShortAll 13 (ts.map d3) = true
  | [], _ => rfl
  | t :: ts, h => by rw [List.map_cons, PyData.intsShortAll, d3_short (h t List.mem_cons_self), short_all ts fun x hx => h x (List.mem_cons_of_mem _ hx)]; rfl
theorem dTr_eq (ts : List T3) : dTr ts = .tuple ((ts.map i3).map d3) := by rw [List.map_map]; rfl
theorem dTr_can (ts : List T3) : (dTr ts).canLay0 = true := by rw [dTr_eq]; exact can_all _
theorem dTr_depth (ts : List T3) : (dTr ts).depth ≤ 2 := by rw [dTr_eq]; have := depth_all (ts.map i3); simp only [PyData.depth]; omega
theorem dTr_dict (ts : List T3) : (dTr ts).hasDict = false := PyData.hasDict_of_canLay _ (dTr_can ts)
theorem dTr_shaped (ts : List T3) : SeqAt.shaped (dTr ts) = true := by
  have h1 := dTr_can ts
  have h2 := dTr_depth ts
  show ((dTr ts).canLay0 && decide ((dTr ts).depth ≤ 64)) = true
  rw [h1, decide_eq_true (show (dTr ts).depth ≤ 64 by omega)]; rfl
theorem dTr_show {ts : List T3} (h : ∀ t ∈ ts, Sm (i3 t)) : (dTr ts).showable = true := by
  rw [dTr_eq]
  exact show_all _ fun t ht => (let ⟨x, hx, e⟩ := List.mem_map.mp ht; e ▸ h x hx)
theorem dTr_len {ts : List T3} (h : ∀ t ∈ ts, Sm (i3 t)) (hl : ts.length ≤ 1000) : (dTr ts).shown.length ≤ sizeLine := by
  have hs : ∀ t ∈ ts.map i3, Sm t := fun t ht => (let ⟨x, hx, e⟩ := List.mem_map.mp ht; e ▸ h x hx)
  refine PyData.shown_fits_of_layable0 (B := 13) (by decide) (by decide) ?_ ?_
  · have h1 := dTr_can ts
    have h2 := dTr_depth ts
    have h3 : (dTr ts).weight ≤ 37 * 1000 := by
      rw [dTr_eq]
      have := weight_all _ hs
      rw [List.length_map] at this
      show PyData.weightAll _ ≤ _
      omega
    show ((dTr ts).canLay0 && decide ((dTr ts).depth ≤ 64) && decide ((dTr ts).weight ≤ 2 ^ 20)) = true
    rw [h1, decide_eq_true (show (dTr ts).depth ≤ 64 by omega), decide_eq_true (show (dTr ts).weight ≤ 2 ^ 20 by omega)]; rfl
  · rw [dTr_eq]; exact short_all _ hs
theorem sm_trip {n : Nat} (hn : n ≤ 10) {t : T3} (h : t ∈ triplesOf n) : Sm (i3 t) := by
  obtain ⟨a, b, c, _⟩ := mem_triples.mp h
  refine ⟨?_, ?_, ?_⟩ <;> simp only [i3] <;> omega
/-- a tuple of triples is that data -/
theorem dp_trip {K : PySem.W.Frag} {H : Hp} {v : V} {t : T3} (h : IsT H v t) : Dp K H v (d3 (i3 t)) := by
  obtain ⟨r, rfl, hr⟩ := h
  exact .tup (SqT.of hr) (.cons (.int _) (.cons (.int _) (.cons (.int _) .nil)))
theorem dp_all {K : PySem.W.Frag} {H : Hp} : ∀ {xs : List V} {ts : List T3}, Trs H xs ts → DpAll K H xs (ts.map fun t => d3 (i3 t))
  | _, _, .nil => .nil
  | _, _, .cons a b => .cons (dp_trip a) (dp_all b)
theorem dp_trs {K : PySem.W.Frag} {H : Hp} {p : Addr} {xs : List V} {ts : List T3} (hp : SqT K H p xs) (h : Trs H xs ts) : Dp K H (.ref p) (dTr ts) := .tup hp (dp_all h)
theorem paired_d3 {K : PySem.W.Frag} {H : Hp} : ∀ {xs : List V} {ts : List T3}, Trs H xs ts → Paired (fun x b => Dp K H x (d3 b)) xs (ts.map i3)
  | _, _, .nil => .nil
  | _, _, .cons a b => .cons (dp_trip a) (paired_d3 b)
/-! ### the triples stand in order -/
def ltT (s t : T3) : Prop := s.1 < t.1 ∨ (s.1 = t.1 ∧ (s.2.1 < t.2.1 ∨ (s.2.1 = t.2.1 ∧ s.2.2 < t.2.2)))
theorem dlt_no {i j : Int} (h : i < j) : PySem.W.DatumOrd.lt j i = false := decide_eq_false (Int.not_lt.mpr (Int.le_of_lt h))
theorem lt3_no {s t : T3} (h : ltT s t) : lt3 (i3 t) (i3 s) = false := by
  unfold lt3 i3
  rcases h with h | ⟨e, h | ⟨e2, h⟩⟩
  · have h2 : ((s.1 : Int) < t.1) := by omega
    simp [PySem.W.listLt, Int.ne_of_gt h2, dlt_no h2]
  · have h2 : ((s.2.1 : Int) < t.2.1) := by omega
    simp [PySem.W.listLt, e, Int.ne_of_gt h2, dlt_no h2]
  · have h2 : ((s.2.2 : Int) < t.2.2) := by omega
    simp [PySem.W.listLt, e, e2, Int.ne_of_gt h2, dlt_no h2]
theorem pw_flat {β : Type} {R : β → β → Prop} {n : Nat} {g : Nat → List β} (h1 : ∀ i, (g i).Pairwise R) (h2 : ∀ i j, i < j → ∀ x ∈ g i, ∀ y ∈ g j, R x y) : ((List.range n).flatMap g).Pairwise R := by
  induction n with
  | zero => simp
  | succ n ih =>
    rw [List.range_succ, List.flatMap_append, List.flatMap_singleton, List.pairwise_append]
    refine ⟨ih, h1 n, fun x hx y hy => ?_⟩
    obtain ⟨i, hi, hx⟩ := List.mem_flatMap.mp hx
    exact h2 i n (List.mem_range.mp hi) x hx y hy
theorem trips_pw (n : Nat) : (triplesOf n).Pairwise ltT := by
  rw [triples_row]
  refine pw_flat (fun f => pw_flat (fun s => ?_) fun s s' hs x hx y hy => ?_) fun f f' hf x hx y hy => ?_
  · unfold rowT
    rw [List.pairwise_map]
    refine List.Pairwise.filter _ ?_
    exact List.pairwise_lt_range.imp fun h => .inr ⟨rfl, .inr ⟨rfl, h⟩⟩
  · have a := row_mem hx
    have b := row_mem hy
    exact .inr ⟨by rw [a.1, b.1], .inl (by rw [a.2.1, b.2.1]; exact hs)⟩
  · obtain ⟨s, _, hx⟩ := List.mem_flatMap.mp hx
    obtain ⟨s', _, hy⟩ := List.mem_flatMap.mp hy
    exact .inl (by rw [(row_mem hx).1, (row_mem hy).1]; exact hf)
theorem trips_up {n : Nat} (p : T3 → Bool) : (((triplesOf n).filter p).map i3).Pairwise fun b c => lt3 c b = false := by
  rw [List.pairwise_map]
  exact ((trips_pw n).filter p).imp fun h => lt3_no h
end K11
end
section
set_option maxRecDepth 100000
set_option maxHeartbeats 4000000
/-! The def law, its inner loop. -/
namespace K11
open PySem PySem.Spec PyProof.Rows L2 Evl
/-- a def that stands under its name and keeps its promise -/
structure Cf (P : Program) (w : World) (K : PySem.W.Frag) (mg : Str → Option Value) (base : Heap) (CX : CXT) (k : Nat) (x : Str) (ps : List Str) (sp : Sp) : Prop where
  ex : ∃ f fd, FnOk P w K mg base CX k f fd ps sp ∧ mg x = some (.ref f) ∧ PySem.W.keepIn K (.ref f) = true ∧ Binds K fd ps []
theorem Df.cf {P : Program} {w : World} {K : PySem.W.Frag} {mg : Str → Option Value} {base : Heap} {CX : CXT} {k : Nat} {x : Str} {st : Stmt} {f : Addr} {fd : FuncData} {ps : List Str} {sp : Sp} (d : Df K mg x st f fd ps) (F : FnOk P w K mg base CX k f fd ps sp) : Cf P w K mg base CX k x ps sp :=
  ⟨f, fd, F, d.m, d.F.kp, d.b⟩
section
variable {X : Cx} {CX : CXT} {k : Nat} {x : Str} {ps : List Str} {sp : Sp} {E : XK} {e : Expr} {es : List Expr} {t : TA} {p pos : Pos}
theorem pe_cf (F : Cf X.prog X.w X.K X.mg X.base CX k x ps sp) (hr : Room k X.A) (hg : Gl X x) (hx : Passes CX X E) (ha : PA X (e :: es) t) (hdb : (x == ("__debug__" : Str)) = false := by decide)
    (he : starEach (e :: es) X.env = (false, eval e X.env) :: starEach es X.env := by rfl) (hpl : (backTo pos (starEach es X.env)).any (·.1) = false := by rfl) : PE X (.Call (.Name x p) (e :: es) [] pos) (tCall sp [] E t) := by
  obtain ⟨f, fd, F, hm, hk, hb⟩ := F.ex
  exact pe_call F hr hg hm hk hb .nil hx ha hdb he hpl
theorem passN {P : Program} {w : World} (hp : X.prog = P) (hw : X.w = w) : Passes (L2.CX P w) X (fun _ _ _ => False) := by
  subst hp hw
  exact passes_call LamX.takes0 fun _ _ _ _ z => z
end
abbrev NL : List Str := ["_law_script", "_law_knife_here", "_law_turn", "_law_words_here", "_law_many", "_law_costs_here", "_law_most", "_law_due", "_law_least", "_law_heard_here", "_law_book", "_law_none", "_law_odd", "_law_word_here", "_law_triple"]
/-- the law's context -/
abbrev LX (P : Program) (w : World) (K : PySem.W.Frag) (mg : Str → Option Value) (base : Heap) (f : Addr) (cdv : Value) (A : Around) (outer : List Env) (s : Shared) (H : Hp) : Cx := (cxOf L2.CX0 P w K mg base NL "law" (defScope sLaw) f cdv A outer s H L2.E0).nox
def forB : Stmt → List Stmt
  | .For _ _ b _ _ => b
  | _ => []
/-- the statements of the law's loop -/
def lb (i : Nat) : Stmt := (forB ((defBody sLaw).getD 1 (.Pass ⟨0, 0, 0, 0⟩))).getD i (.Pass ⟨0, 0, 0, 0⟩)
section
variable {P : Program} {w : World} {K : PySem.W.Frag} {mg : Str → Option Value} {base : Heap} {f : Addr} {cdv : Value} {A : Around} {outer : List Env} {s0 : Shared} {H0 : Hp}
/-- a comprehension over the dict's keys: the keys that pass -/
theorem e_keysLc {ws : List (List Nat)} {M : Nat} {q : Addr} {σ : L2.St} {H : Hp} {Q : VK} (hw : ∀ x, wipe ((wipe σ [14]).set 14 (some x)) [14] = wipe σ [14]) (h5 : σ[5]? = some (some (.ref q))) (hq : H q = some (.dT (kvs3 ws M (triplesOf ws.length)))) (hn : ws.length ≤ 10) {tt : TT} {te : TE} (p : T3 → Bool) (out : T3 → V → Hp → Prop)
    (htt : ∀ (t : T3) (v : V) (H1 : Hp), t ∈ triplesOf ws.length → IsT H1 v t → (∃ od, H1 q = some (.frz od (.dT (kvs3 ws M (triplesOf ws.length))))) → ∀ R : Bool → Hp → Prop, R (p t) H1 → tt ((wipe σ [14]).set 14 (some v)) H1 R)
    (hte : ∀ (t : T3) (v : V) (H1 : Hp), t ∈ triplesOf ws.length → IsT H1 v t → (∃ od, H1 q = some (.frz od (.dT (kvs3 ws M (triplesOf ws.length))))) → ∀ R : VK, (∀ y, out t y H1 → R y H1) → te ((wipe σ [14]).set 14 (some v)) H1 R)
    (hout : ∀ (t : T3) (y : V) (H1 H2 : Hp), out t y H1 → (∀ b xs, H1 b = some (.tup xs) → H2 b = some (.tup xs)) → out t y H2)
    (k : ∀ D xs H', H D = none → Ex H H' → H' D = some (.lst xs) → Paired (fun y t => out t y H') xs ((triplesOf ws.length).filter p) → Q (.ref D) H') :
    tLockE (tLc (iKeys (tVar 5)) (gName 14) tt te [14]) σ H Q := by
  have hlen := triples_len ws.length hn
  refine ⟨q, _, hq, True.intro, fun od => ?_⟩
  refine ⟨_, h5, q, od, rfl, .inr ⟨_, upd_same, fun D hD => ?_⟩⟩
  have nDq : D ≠ q := fun z => by rw [z, upd_same] at hD; cases hD
  have hD0 : H D = none := by rw [upd_ne nDq] at hD; exact hD
  have hl3 : (kvs3 ws M (triplesOf ws.length)).length = (triplesOf ws.length).length := by simp [kvs3]
  have mono : ∀ {H1 H2 : Hp} {acc : List V} {ts : List T3}, (∀ b xs, H1 b = some (.tup xs) → H2 b = some (.tup xs)) → Paired (fun y t => out t y H1) acc ts → Paired (fun y t => out t y H2) acc ts := fun h hp => Paired.mapP hp fun _ _ z => hout _ _ _ _ z h
  refine lc_it walk_keysT (fun i H' => H' q = some (.frz od (.dT (kvs3 ws M (triplesOf ws.length)))) ∧ (∀ b o, H b = some o → b ≠ q → H' b = some o) ∧ ∃ acc, H' D = some (.lst acc) ∧ acc.length ≤ i ∧ Paired (fun y t => out t y H') acc (((triplesOf ws.length).take i).filter p))
    ⟨by rw [upd_ne (Ne.symm nDq), upd_same], fun b o e hb => by rw [upd_ne (ne_of_none e hD0), upd_ne hb]; exact e, [], upd_same, Nat.le_refl _, .nil⟩ (fun i H' _ h => h.1) ?_ ?_
  · rintro i x H1 H' hi ⟨h1, h2, acc, h3, h4, h5⟩ ⟨rfl, ky, v, a, hk, rfl, ha⟩
    rw [hl3] at hi
    obtain ⟨t, ht, e⟩ : ∃ t, (triplesOf ws.length)[i]? = some t ∧ (key3 t, V.int ((lawTr ws M t : Nat) : Int)) = (ky, v) := by
      unfold kvs3 at hk
      rw [List.getElem?_map] at hk
      obtain ⟨t, ht, e⟩ := Option.map_eq_some_iff.mp hk
      exact ⟨t, ht, e⟩
    injection e with e1 e2
    subst e1
    have hm : t ∈ triplesOf ws.length := List.mem_of_getElem? ht
    have hT : IsT H' (.ref a) t := ⟨a, rfl, ha⟩
    refine ⟨hw _, htt t _ _ hm hT ⟨od, h1⟩ _ ?_⟩
    cases hp : p t with
    | true =>
      refine iteT (hte t _ _ hm hT ⟨od, h1⟩ _ fun y hy => ?_)
      refine ⟨acc, h3, by unfold sizeLine; omega, ?_⟩
      have kt : ∀ b xs, H' b = some (.tup xs) → upd H' D (.lst (acc ++ [y])) b = some (.tup xs) := fun b xs e => by rw [upd_ne (fun z => by rw [z, h3] at e; cases e)]; exact e
      refine ⟨by rw [upd_ne (Ne.symm nDq)]; exact h1, fun b o e hb => by rw [upd_ne (ne_of_none e hD0)]; exact h2 b o e hb, _, upd_same, by rw [List.length_append, List.length_singleton]; omega, ?_⟩
      rw [take_succ_of ht, List.filter_append, List.filter_cons_of_pos hp]
      exact paired_app (mono kt h5) (.cons (hout _ _ _ _ hy kt) .nil)
    | false =>
      refine iteF ⟨h1, h2, acc, h3, by omega, ?_⟩
      rw [take_succ_of ht, List.filter_append, List.filter_cons_of_neg (by simp [hp]), List.filter_nil, List.append_nil]
      exact h5
  · rintro H' ⟨h1, h2, acc, h3, _, h5⟩
    rw [hl3, List.take_length] at h5
    refine ⟨h1, k D acc _ hD0 (fun b o e => ?_) (by rw [upd_ne nDq]; exact h3) (mono (fun b xs e => by rw [upd_ne (fun z => by rw [z, h1] at e; cases e)]; exact e) h5)⟩
    by_cases hb : b = q
    · rw [hb, upd_same, ← hq, ← hb, e]
    · rw [upd_ne hb]; exact h2 b o e hb
/-- costs[t] -/
theorem e_costAt {ws : List (List Nat)} {M : Nat} {q : Addr} {σ : L2.St} {H : Hp} {Q : VK} {t : T3} {v : V} (h5 : σ[5]? = some (some (.ref q))) (hv : σ[14]? = some (some v)) (ht : t ∈ triplesOf ws.length) (hT : IsT H v t) (hq : ∃ od, H q = some (.frz od (.dT (kvs3 ws M (triplesOf ws.length))))) (k : Q (.int ((lawTr ws M t : Nat) : Int)) H) :
    tDGet (tVar 5) (tVar 14) σ H Q := by
  obtain ⟨od, hq⟩ := hq
  obtain ⟨r, rfl, hr⟩ := hT
  exact ⟨_, h5, _, hv, q, _, rfl, .inr ⟨_, key3 t, r, .inr ⟨od, hq⟩, rfl, hr, (kvs3_some ht).symm⟩, k⟩
end
end K11
end
section
set_option maxRecDepth 100000
set_option maxHeartbeats 4000000
/-! The def law, its inner loop. -/
namespace K11
open PySem PySem.Spec PyProof.Rows L2 Evl
/-- the same, called with keywords alone -/
structure CfK (P : Program) (w : World) (K : PySem.W.Frag) (mg : Str → Option Value) (base : Heap) (CX : CXT) (k : Nat) (x : Str) (ps ks : List Str) (sp : Sp) : Prop where
  ex : ∃ f fd, FnOk P w K mg base CX k f fd ps sp ∧ mg x = some (.ref f) ∧ PySem.W.keepIn K (.ref f) = true ∧ KBinds K fd ps ks (fun us ws => us ++ ws.reverse) (fun us ws => us ++ ws.reverse)
section
variable {X : Cx} {CX : CXT} {k : Nat} {x : Str} {ps ks : List Str} {sp : Sp} {E : XK} {kws : List Keyword} {tk : TA} {p pos : Pos}
theorem pe_cfK (F : CfK X.prog X.w X.K X.mg X.base CX k x ps ks sp) (hr : Room k X.A) (hg : Gl X x) (hx : Passes CX X E) (hkw : PK X kws tk) (hall : (backToKw pos (keywordEach kws X.env)).all (·.1.isSome) = true := by rfl) (names : (backToKw pos (keywordEach kws X.env)).filterMap (·.1) = ks := by rfl)
    (hdb : (x == ("__debug__" : Str)) = false := by decide) (plain : ((backTo pos (starEach [] X.env)).any (·.1) || (backToKw pos (keywordEach kws X.env)).any (·.1.isNone)) = false := by rfl) :
    PE X (.Call (.Name x p) [] kws pos) (tCallK sp (fun us ws => us ++ ws.reverse) E tNil tk) := by
  obtain ⟨f, fd, F, hm, hk, hb⟩ := F.ex
  exact pe_callKw F hr hg hm hk hb hx hkw hall names hdb plain
end
theorem s_forNT {K : PySem.W.Frag} {xs : List V} {tl : TE} {j : Nat} {σ : L2.St} {H : Hp} {tb : TS} {D : Ends} (h : EvU tl σ H xs) (Pv : Addr → Nat → L2.St → Hp → Prop) (h0 : ∀ a H1, H a = none → Ex H H1 → H1 a = some (.tup xs) → Pv a 0 σ H1) (hl : ∀ a i σ' H', Pv a i σ' H' → H' a = some (.tup xs))
    (hs : ∀ a i x σ' H', xs[i]? = some x → Pv a i σ' H' → tb { D with nx := Pv a (i + 1), ct := Pv a (i + 1), bk := D.nx } (σ'.set j (some x)) H') (hd : ∀ a σ' H', Pv a xs.length σ' H' → D.nx σ' H') : tFor (iTup K tl) (gName j) tb D σ H :=
  h H (Ex.refl H) _ fun a H1 ha e1 hx => ⟨a, rfl, ⟨xs, st_of hx⟩, for_tup (K := K) (a := a) (xs := xs) (Pv a) (h0 a H1 ha e1 hx) (fun i σ' H' _ q => st_of (hl a i σ' H' q)) (fun i x σ' H' hx q => hs a i x σ' H' hx q) (hd a)⟩
/-- x = tuple(sorted(e)) -/
theorem q_tupSorted {K : PySem.W.Frag} {i : Nat} {σ : L2.St} {H : Hp} {te : TE} {tz : TS} {D : Ends} (h : te σ H fun v H1 => ∃ (a : Addr) (xs : List V) (bs : List I3), ([v] : List V) = [.ref a] ∧ SqL K H1 a xs ∧ Paired (fun x b => Dp K H1 x (d3 b)) xs bs ∧ bs.Pairwise (fun b c => lt3 c b = false) ∧
      ∀ p, H1 p = none → ∃ p' ys, ([.ref p] : List V) = [.ref p'] ∧ ((SqL K (upd H1 p (.lst xs)) p' ys ∧ ∀ l, upd H1 p (.lst xs) l = none → tz D (σ.set i (some (.ref l))) (upd (upd H1 p (.lst xs)) l (.tup ys))) ∨ (SqT K (upd H1 p (.lst xs)) p' ys ∧ tz D (σ.set i (some (.ref p'))) (upd H1 p (.lst xs))))) :
    tSeq (tAsg (tCB (fun xs H Q => ∃ p ys, xs = [.ref p] ∧ ((SqL K H p ys ∧ ∀ l, H l = none → Q (.ref l) (upd H l (.tup ys))) ∨ (SqT K H p ys ∧ Q (.ref p) H))) (tCons (tCB (rSortUp K) (tCons te tNil)) tNil)) (gName i)) tz D σ H := h
/-- what stands while a book is tried -/
structure Sv (K : PySem.W.Frag) (CB : Addr) (H : Hp) (ws : List (List Nat)) (M : Nat) (p q : Addr) : Prop where
  bk : BookAt K CB H p ws
  ok : WsOk ws
  len : ws.length ≤ 10
  tb : H q = some (.dT (kvs3 ws M (triplesOf ws.length)))
theorem Sv.ex {K : PySem.W.Frag} {CB : Addr} {H H' : Hp} {ws : List (List Nat)} {M : Nat} {p q : Addr} (e : Ex H H') (h : Sv K CB H ws M p q) : Sv K CB H' ws M p q := ⟨h.bk.ex e, h.ok, h.len, e _ _ h.tb⟩
section
variable {P : Program} {w : World} {K : PySem.W.Frag} {mg : Str → Option Value} {base : Heap} {f : Addr} {cdv : Value} {A : Around} {outer : List Env} {s0 : Shared} {H0 : Hp} {CB CE CN : Addr}
theorem g_most (hr : Room 8 (A.deeper (envOfC "law" (defScope sLaw) s0.heap.objs.size f cdv))) (hgd : (A.deeper (envOfC "law" (defScope sLaw) s0.heap.objs.size f cdv)).guards = some []) (B : Bi mg)
    (GM : Cf P w K mg base (L2.CX P w) 8 "made_words" ["book", "many"] (spMade K CB CE CN)) (GK : CfK P w K mg base (L2.CX P w) 8 "made_words" ["book", "many"] ["many", "book"] (spMade K CB CE CN)) :
    ∃ t, PS (LX P w K mg base f cdv A outer s0 H0) (lb 4) t ∧ ∀ (D : Ends) (H : Hp) (ws : List (List Nat)) (M many : Nat) (p q : Addr) (v0 v1 v2 v3 v6 v7 v8 v9 v11 v12 v13 v14 : Option V), Sv K CB H ws M p q → 1 ≤ many → many ≤ 4 → many ≤ M →
      (∀ k ≤ M, (triplesOf ws.length).filter (fun t => decide (lawTr ws M t ≤ k)) = madeT ws k) →
      (∀ v6 v7 v14 H', Ex H H' → D.nx [v0, v1, v2, v3, some (.int (many : Int)), some (.ref q), v6, v7, v8, v9, some (.ref p), v11, v12, v13, v14] H') →
      t D [v0, v1, v2, v3, some (.int (many : Int)), some (.ref q), v6, v7, v8, v9, some (.ref p), v11, v12, v13, v14] H := by
  have hu : (A.deeper (envOfC "law" (defScope sLaw) s0.heap.objs.size f cdv)).units + 64 < cLine := hr.units
  have hu1 : (A.deeper (envOfC "law" (defScope sLaw) s0.heap.objs.size f cdv)).units + 1 < cLine := by omega
  refine ⟨_, ps_for PassesOwn.never rfl (pi_tup (pe_tup (pa_cons (pv 4) (pa_cons (pe_op op_sub (pv 4) pe_int) (pa_cons pe_int pa_nil))))) (pg_name (i := 6) scLaw.nd rfl (.inr rfl))
    (pss_cons (ps_set (i := 7) scLaw.nd rfl (.inl rfl) (pe_callTy call_tuple_of (by rfl) B.tuple (by decide +kernel) (pa_cons (pe_callB (cr_sortUp hu) (by rfl) B.sorted (by decide +kernel) (pa_cons
        (pe_lock (pe_lc (own := [("_law_triple", 14)]) (g := gName 14) (tt := tTest (tOp (rI0 fun i j => .bl (decide (i ≤ j))) (tDGet (tVar 5) (tVar 14)) (tVar 6))) (te := tVar 14) rfl scLaw.nd (pi_keys (pv 5)) (blkOk_by (N := NL) (sc := defScope sLaw) (by decide +kernel))
          (fun _ _ _ _ _ => pg_name (i := 14) scLaw.nd rfl (.inl rfl)) (fun _ _ _ _ _ => pts_one (pt_cmpR op_le (pe_dget hu1 (pv 5) (pv 14) (fun _ _ => rfl)) (pv 6) (nomark _))) (fun _ _ _ _ _ => pv 14))) pa_nil)) pa_nil)))
    (pss_one (ps_if (pw_or (pt_cmpR op_ne (pe_callB (call_reprD hgd hu) (by rfl) B.repr (by decide +kernel) (pa_cons (pe_cf GM hr (by rfl) (passN rfl rfl) (pa_cons (pv 10) (pa_cons (pv 6) pa_nil))) pa_nil)) (pe_callB (call_reprD hgd hu) (by rfl) B.repr (by decide +kernel) (pa_cons (pv 7) pa_nil)) (nomark _))
        (pw_or1 (pt_cmpR (op_neD hu) (pe_cfK GK hr (by rfl) (passN rfl rfl) (pk_cons (pv 6) (pk_cons (pv 10) pk_nil))) (pv 7) (nomark _)))).pt (pss_one (ps_ret pe_bl)) pss_nil))), ?_⟩
  intro D H ws M many p q v0 v1 v2 v3 v6 v7 v8 v9 v11 v12 v13 v14 S h1 h4 hM ag k
  refine s_forNT (xs := [.int (many : Int), .int ((many : Int) - 1), .int 0]) (eu_tup (ea_cons (ev_var rfl) (ea_cons (ev_op (ev_var rfl) ev_c rv_I0) (ea_cons ev_c ea_nil))) (by show 3 ≤ 100000; decide))
    (fun a i σ' H' => ∃ v6 v7 v14, σ' = [v0, v1, v2, v3, some (.int (many : Int)), some (.ref q), v6, v7, v8, v9, some (.ref p), v11, v12, v13, v14] ∧ Ex H H' ∧ H' a = some (.tup [.int (many : Int), .int ((many : Int) - 1), .int 0]))
    (fun a H1 _ e1 hx => ⟨_, _, _, rfl, e1, hx⟩) (fun a i σ' H' ⟨_, _, _, _, _, h⟩ => h) ?_ (fun a σ' H' ⟨v6, v7, v14, e, e1, _⟩ => by rw [e]; exact k v6 v7 v14 H' e1)
  rintro a i x σ' H1 hx ⟨v6, v7, v14, rfl, e1, hta⟩
  obtain ⟨kk, rfl, hkk⟩ : ∃ kk : Nat, x = .int (kk : Int) ∧ kk ≤ many := by
    match i, hx with
    | 0, hx => exact ⟨many, (Option.some.inj hx).symm, Nat.le_refl _⟩
    | 1, hx => exact ⟨many - 1, by rw [← Option.some.inj hx]; congr 1; omega, by omega⟩
    | 2, hx => exact ⟨0, (Option.some.inj hx).symm, by omega⟩
  have S1 := S.ex e1
  have hk := ag kk (by omega)
  refine q_tupSorted (e_keysLc (ws := ws) (M := M) (q := q) (fun _ => rfl) rfl S1.tb S1.len (fun t => decide (lawTr ws M t ≤ kk)) (fun t y H => IsT H y t) (fun t v H2 ht hT hq R hR => ?_) (fun t v H2 ht hT hq R hR => ⟨v, rfl, hR v hT⟩) (fun t y H1 H2 ⟨r, e, hr⟩ h => ⟨r, e, h _ _ hr⟩) fun D1 xs H2 hD e2 hx hpair => ?_)
  · refine e_costAt (t := t) (v := v) rfl rfl ht hT hq ⟨_, rfl, _, _, rfl, rfl, decide (lawTr ws M t ≤ kk), ?_, hR⟩
    show V.bl (decide (((lawTr ws M t : Nat) : Int) ≤ (kk : Int))) = V.bl (decide (lawTr ws M t ≤ kk))
    rw [show decide (((lawTr ws M t : Nat) : Int) ≤ (kk : Int)) = decide (lawTr ws M t ≤ kk) from by rw [decide_eq_decide]; exact Int.ofNat_le]
  · rw [hk] at hpair
    refine ⟨D1, xs, (madeT ws kk).map i3, rfl, SqL.of hx, paired_d3 hpair, trips_up _, fun r hr => ⟨r, xs, rfl, .inl ⟨SqL.of upd_same, fun l hl => ?_⟩⟩⟩
    have e3 : Ex H2 (upd (upd H2 r (.lst xs)) l (.tup xs)) := (Ex.new hr).trans (Ex.new hl)
    have hl3 : upd (upd H2 r (.lst xs)) l (.tup xs) l = some (.tup xs) := upd_same
    have hp3 : Trs _ xs (madeT ws kk) := Trs.ex e3 hpair
    generalize upd (upd H2 r (.lst xs)) l (.tup xs) = H3 at e3 hl3 hp3
    have e13 : Ex H1 H3 := e2.trans e3
    have S3 := S1.ex e13
    have hsm : ∀ t ∈ madeT ws kk, Sm (i3 t) := fun t ht => sm_trip S.len (List.mem_filter.mp ht).1
    have hlen : (madeT ws kk).length ≤ 1000 := Nat.le_trans (List.length_filter_le _ _) (triples_len ws.length S.len)
    have hdep : (dTr (madeT ws kk)).depth ≤ 50 := Nat.le_trans (dTr_depth _) (by decide)
    refine ⟨_, rfl, _, rfl, _, _, rfl, .inl ⟨p, ws, rfl, S3.bk, S3.ok, S3.len, .inl ⟨kk, rfl, by omega, fun r4 xs4 H4 hr4 e4 hx4 ht4 => ?_⟩⟩⟩
    refine ⟨r4, dTr (madeT ws kk), rfl, dp_trs (SqT.of hx4) ht4, dTr_show hsm, dTr_dict _, hdep, dTr_len hsm hlen, ?_⟩
    refine ⟨_, rfl, l, dTr (madeT ws kk), rfl, dp_trs (SqT.of (e4 _ _ hl3)) (Trs.ex e4 hp3), dTr_show hsm, dTr_dict _, hdep, dTr_len hsm hlen, ?_⟩
    refine ⟨rfl, false, by simp, iteF ?_⟩
    have S4 := S3.ex e4
    refine ⟨_, rfl, _, rfl, _, _, rfl, .inl ⟨p, ws, rfl, S4.bk, S4.ok, S4.len, .inl ⟨kk, rfl, by omega, fun r5 xs5 H5 hr5 e5 hx5 ht5 => ?_⟩⟩⟩
    refine ⟨_, rfl, dTr (madeT ws kk), dTr (madeT ws kk), dp_trs (SqT.of hx5) ht5, dp_trs (SqT.of (e5 _ _ (e4 _ _ hl3))) (Trs.ex e5 (Trs.ex e4 hp3)), dTr_shaped _, dTr_shaped _, false, by rw [SeqAt.eqv_refl _ (dTr_can _)]; rfl, iteF ?_⟩
    exact ⟨_, _, _, rfl, ((e1.trans e13).trans e4).trans e5, e5 _ _ (e4 _ _ (e13 _ _ hta))⟩
end
end K11
end
section
set_option maxRecDepth 100000
set_option maxHeartbeats 4000000
/-! The def law: the least cost, the price. -/
namespace K11
open PySem PySem.Spec PyProof.Rows L2 Evl
theorem lmin_mem {l : List Nat} (h : l ≠ []) : lmin l ∈ l := (lmin_spec l h).1
theorem paired_vals {ws : List (List Nat)} {M : Nat} : ∀ {xs : List V} {ts : List T3}, Paired (fun y t => y = V.int ((lawTr ws M t : Nat) : Int)) xs ts → xs = (ts.map (lawTr ws M)).map fun (c : Nat) => V.int (c : Int)
  | _, _, .nil => rfl
  | _, _, .cons a b => by rw [List.map_cons, List.map_cons, ← paired_vals b, a]
def dPr (ws : List (List Nat)) : PyData := if triplesOf ws.length = [] then .none else .int ((lmin ((triplesOf ws.length).map (costT3 ws)) : Nat) : Int)
theorem dp_pr {K : PySem.W.Frag} {H : Hp} (ws : List (List Nat)) : Dp K H (priceV ws) (dPr ws) := by
  unfold priceV dPr
  by_cases h : triplesOf ws.length = []
  · rw [if_pos h, if_pos h]; exact .non
  · rw [if_neg h, if_neg h]; exact .int _
theorem pr_show {d : PyData} (h : d = .none ∨ ∃ i : Int, d = .int i ∧ i.natAbs < 1024) : PyData.showable (.list [d, d]) = true ∧ PyData.hasDict (.list [d, d]) = false ∧ PyData.depth (.list [d, d]) ≤ 50 ∧ (PyData.shown (.list [d, d])).length ≤ sizeLine := by
  have fin : PyData.canLay0 (.list [d, d]) = true → PyData.depth (.list [d, d]) ≤ 50 → PyData.weight (.list [d, d]) ≤ 100 → PyData.intsShort 13 (.list [d, d]) = true → (PyData.shown (.list [d, d])).length ≤ sizeLine := fun h1 h2 h3 h4 =>
    PyData.shown_fits_of_layable0 (B := 13) (by decide) (by decide) (by
      show (PyData.canLay0 _ && decide (PyData.depth _ ≤ 64) && decide (PyData.weight _ ≤ 2 ^ 20)) = true
      rw [h1, decide_eq_true (show PyData.depth (.list [d, d]) ≤ 64 by omega), decide_eq_true (show PyData.weight (.list [d, d]) ≤ 2 ^ 20 by omega)]; rfl) h4
  rcases h with rfl | ⟨i, rfl, hi⟩
  · exact ⟨by decide +kernel, by decide +kernel, by decide +kernel, fin (by decide +kernel) (by decide +kernel) (by decide +kernel) (by decide +kernel)⟩
  · have hw := w_small hi
    refine ⟨?_, ?_, ?_, fin ?_ ?_ ?_ ?_⟩
    · simp [PyData.showable, PyData.showableAll, s_small hi]
      exact of_decide_eq_true (s_small hi)
    · simp [PyData.hasDict, PyData.hasDictAll]
    · simp [PyData.depth, PyData.depthAll]
    · simp [PyData.canLay0, PyData.canLayAll0]
    · simp [PyData.depth, PyData.depthAll]
    · show PyData.weightAll _ ≤ 100
      simp only [PyData.weightAll]
      omega
    · show PyData.intsShortAll 13 _ = true
      simp [PyData.intsShortAll, n_small hi]
theorem pr_small {ws : List (List Nat)} (hb : ∀ t ∈ triplesOf ws.length, costT3 ws t < 1000) : dPr ws = .none ∨ ∃ i : Int, dPr ws = .int i ∧ i.natAbs < 1024 := by
  unfold dPr
  by_cases h : triplesOf ws.length = []
  · rw [if_pos h]; exact .inl rfl
  · rw [if_neg h]
    refine .inr ⟨_, rfl, ?_⟩
    obtain ⟨t, ht, e⟩ := List.mem_map.mp (lmin_mem (l := (triplesOf ws.length).map (costT3 ws)) (by simpa using h))
    have := hb t ht
    omega
section
variable {P : Program} {w : World} {K : PySem.W.Frag} {mg : Str → Option Value} {base : Heap} {f : Addr} {cdv : Value} {A : Around} {outer : List Env} {s0 : Shared} {H0 : Hp} {CB CE CN : Addr}
theorem g_least (hr : Room 8 (A.deeper (envOfC "law" (defScope sLaw) s0.heap.objs.size f cdv))) (B : Bi mg) :
    ∃ t, PS (LX P w K mg base f cdv A outer s0 H0) (lb 5) t ∧ ∀ (D : Ends) (H : Hp) (ws : List (List Nat)) (M : Nat) (p q : Addr) (v0 v1 v2 v3 v4 v6 v7 v8 v9 v11 v12 v13 v14 : Option V), Sv K CB H ws M p q →
      (triplesOf ws.length ≠ [] → lmin ((triplesOf ws.length).map (lawTr ws M)) = lmin ((triplesOf ws.length).map (costT3 ws))) →
      (∀ H', Ex H H' → D.nx [v0, v1, v2, v3, v4, some (.ref q), v6, v7, some (priceV ws), v9, some (.ref p), v11, v12, v13, v14] H') →
      t D [v0, v1, v2, v3, v4, some (.ref q), v6, v7, v8, v9, some (.ref p), v11, v12, v13, v14] H := by
  have hu : (A.deeper (envOfC "law" (defScope sLaw) s0.heap.objs.size f cdv)).units + 64 < cLine := hr.units
  have hu1 : (A.deeper (envOfC "law" (defScope sLaw) s0.heap.objs.size f cdv)).units + 1 < cLine := by omega
  have hu0 : (A.deeper (envOfC "law" (defScope sLaw) s0.heap.objs.size f cdv)).units < cLine := by omega
  refine ⟨_, ps_set (i := 8) scLaw.nd rfl (.inl rfl) (pe_ifExp (pt_cmpR (op_ne0 hu0) (pv 5) pe_dnewT (nomark _)) (pe_callB (cr_min rfl) (by rfl) B.min (by decide +kernel) (pa_cons
        (pe_lock (pe_lc (own := [("_law_triple", 14)]) (g := gName 14) (tt := tYes) (te := tDGet (tVar 5) (tVar 14)) rfl scLaw.nd (pi_keys (pv 5)) (blkOk_by (N := NL) (sc := defScope sLaw) (by decide +kernel))
          (fun _ _ _ _ _ => pg_name (i := 14) scLaw.nd rfl (.inl rfl)) (fun _ _ _ _ _ => pts_nil) (fun _ _ _ _ _ => pe_dget hu1 (pv 5) (pv 14) (fun _ _ => rfl)))) pa_nil)) pe_non), ?_⟩
  intro D H ws M p q v0 v1 v2 v3 v4 v6 v7 v8 v9 v11 v12 v13 v14 S hpr k
  refine ⟨_, rfl, fun r hr => ⟨q, r, _, rfl, rfl, Ex.new hr _ _ S.tb, upd_same, ?_⟩⟩
  have e1 : Ex H (upd H r (.dT [])) := Ex.new hr
  generalize upd H r (.dT []) = H1 at e1
  have S1 := S.ex e1
  by_cases h0 : triplesOf ws.length = []
  · refine ⟨false, by rw [h0]; rfl, iteF ?_⟩
    have := k H1 e1
    unfold priceV at this
    rw [if_pos h0] at this
    exact this
  · have ne : (kvs3 ws M (triplesOf ws.length)).isEmpty = false := by
      unfold kvs3
      rw [List.isEmpty_eq_false_iff]
      simpa using h0
    refine ⟨true, by rw [ne]; rfl, iteT ?_⟩
    refine e_keysLc (ws := ws) (M := M) (q := q) (fun _ => rfl) rfl S1.tb S1.len (fun _ => true) (fun t y _ => y = .int ((lawTr ws M t : Nat) : Int)) (fun t v H2 ht hT hq R hR => hR) (fun t v H2 ht hT hq R hR => e_costAt (t := t) (v := v) rfl rfl ht hT hq (hR _ rfl)) (fun _ _ _ _ e _ => e) fun D1 xs H2 hD e2 hx hpair => ?_
    rw [show (triplesOf ws.length).filter (fun _ => true) = triplesOf ws.length from List.filter_eq_self.mpr fun _ _ => rfl] at hpair
    have hxs := paired_vals hpair
    refine ⟨D1, ((triplesOf ws.length).map (lawTr ws M)).map fun (c : Nat) => (c : Int), rfl, SqL.of ?_, ?_, fun m hm hall => ?_⟩
    · rw [hx, hxs]; simp [List.map_map, Function.comp_def]
    · rw [List.length_map, List.length_map]; exact List.length_pos_iff.mpr h0
    · obtain ⟨c, hc, rfl⟩ := List.mem_map.mp hm
      have hcl : c = lmin ((triplesOf ws.length).map (lawTr ws M)) := lmin_unique hc fun x hx => by
        have := hall (x : Int) (List.mem_map.mpr ⟨x, hx, rfl⟩)
        omega
      have kk := k H2 (e1.trans e2)
      unfold priceV at kk
      rw [if_neg h0, ← hpr h0, ← hcl] at kk
      exact kk
theorem g_price (hr : Room 8 (A.deeper (envOfC "law" (defScope sLaw) s0.heap.objs.size f cdv))) (hgd : (A.deeper (envOfC "law" (defScope sLaw) s0.heap.objs.size f cdv)).guards = some []) (B : Bi mg)
    (GM : Cf P w K mg base (L2.CX P w) 8 "price" ["book"] (spPrice K CB CE)) (GK : CfK P w K mg base (L2.CX P w) 8 "price" ["book"] ["book"] (spPrice K CB CE)) :
    ∃ t, PS (LX P w K mg base f cdv A outer s0 H0) (lb 6) t ∧ ∀ (D : Ends) (H : Hp) (ws : List (List Nat)) (M : Nat) (p q : Addr) (v0 v1 v2 v3 v4 v6 v7 v9 v11 v12 v13 v14 : Option V), Sv K CB H ws M p q → (∀ t ∈ triplesOf ws.length, costT3 ws t < 1000) →
      (∀ H', Ex H H' → D.nx [v0, v1, v2, v3, v4, some (.ref q), v6, v7, some (priceV ws), v9, some (.ref p), v11, v12, v13, v14] H') →
      t D [v0, v1, v2, v3, v4, some (.ref q), v6, v7, some (priceV ws), v9, some (.ref p), v11, v12, v13, v14] H := by
  have hu : (A.deeper (envOfC "law" (defScope sLaw) s0.heap.objs.size f cdv)).units + 64 < cLine := hr.units
  refine ⟨_, ps_if (pt_cmpR op_ne (pe_callB (call_reprD hgd hu) (by rfl) B.repr (by decide +kernel) (pa_cons (pe_lst (pa_cons (pe_cf GM hr (by rfl) (passN rfl rfl) (pa_cons (pv 10) pa_nil)) (pa_cons (pe_cfK GK hr (by rfl) (passN rfl rfl) (pk_cons (pv 10) pk_nil)) pa_nil))) pa_nil))
      (pe_callB (call_reprD hgd hu) (by rfl) B.repr (by decide +kernel) (pa_cons (pe_lst (pa_cons (pv 8) (pa_cons (pv 8) pa_nil))) pa_nil)) (nomark _)) (pss_one (ps_ret pe_bl)) pss_nil, ?_⟩
  intro D H ws M p q v0 v1 v2 v3 v4 v6 v7 v9 v11 v12 v13 v14 S hb k
  obtain ⟨g1, g2, g3, g4⟩ := pr_show (pr_small hb)
  refine ⟨_, rfl, _, rfl, .inl ⟨p, ws, rfl, S.bk, S.ok, S.len, fun H1 e1 => ?_⟩⟩
  have S1 := S.ex e1
  refine ⟨_, rfl, _, rfl, .inl ⟨p, ws, rfl, S1.bk, S1.ok, S1.len, fun H2 e2 => ?_⟩⟩
  refine ⟨by show 2 ≤ sizeLine; decide, fun r hr => ?_⟩
  refine ⟨r, _, rfl, .lst (SqL.of upd_same) (.cons (dp_pr ws) (.cons (dp_pr ws) .nil)), g1, g2, g3, g4, ?_⟩
  refine ⟨_, rfl, _, rfl, by show 2 ≤ sizeLine; decide, fun r' hr' => ?_⟩
  refine ⟨r', _, rfl, .lst (SqL.of upd_same) (.cons (dp_pr ws) (.cons (dp_pr ws) .nil)), g1, g2, g3, g4, ?_⟩
  refine ⟨rfl, false, by simp, iteF ?_⟩
  exact k _ (((e1.trans e2).trans (Ex.new hr)).trans (Ex.new hr'))
end
end K11
end
section
set_option maxRecDepth 100000
set_option maxHeartbeats 4000000
/-! The def law: words, book, costs. -/
namespace K11
open PySem PySem.Spec PyProof.Rows L2 Evl
theorem DrawnL.mono {m k m' k' : Nat} {ws : List (List Nat)} (h : DrawnL m k ws) (hm : m ≤ m') (hk : k ≤ k') : DrawnL m' k' ws := ⟨fun x hx => (let d := h.ok x hx; ⟨d.lo, Nat.le_trans d.hi hm, d.ab⟩), h.nd, h.lo, Nat.le_trans h.hi hk⟩
theorem KnAt.ne {H : Hp} {kf c p : Addr} {n : Nat} (h : KnAt H kf c n) (hp : H p = none) : p ≠ kf := fun z => by
  obtain ⟨xs, e⟩ := h.lst
  rw [z, e] at hp; cases hp
theorem KnAt.ne2 {H : Hp} {kf c p : Addr} {n : Nat} {o : HO} (h : KnAt H kf c n) (hp : H p = some o) (ho : ∀ xs, o ≠ .lst xs) : p ≠ kf := fun z => by
  obtain ⟨xs, e⟩ := h.lst
  rw [z, e] at hp; cases hp; exact ho xs rfl
/-- one of a new list is drawn -/
theorem e_one {K : PySem.W.Frag} {σ : L2.St} {H : Hp} {kf c : Addr} {n : Nat} {te : TE} {xs : List V} {E : XK} {Q : VK} (hv : σ[1]? = some (some (.ref kf))) (hk : KnAt H kf c n) (hn : n ≤ 90000) (hl : EvL te σ H xs) (h1 : 1 ≤ xs.length ∧ xs.length ≤ 1000)
    (k : ∀ x H', x ∈ xs → KnAt H' kf c (n + 1) → KpK kf H H' → Q x H') : tCall (spOne K) [] E (tCons (tVar 1) (tCons te tNil)) σ H Q :=
  ⟨_, hv, hl H (Ex.refl _) _ fun p H1 hp e hx => ⟨kf, c, p, xs, n, rfl, SqL.of hx, hk.ne hp, h1.1, h1.2, hk.ex e, hn, fun x H' hx hk' kp => k x H' hx hk' (KpK.pre e kp)⟩⟩
theorem el_ints {σ : L2.St} {H : Hp} {ta : TA} {xs : List V} (h : EvA ta σ H xs) (hl : xs.length ≤ 100000) : EvL (tLst ta) σ H xs := el_lst h hl
section
variable {P : Program} {w : World} {K : PySem.W.Frag} {mg : Str → Option Value} {base : Heap} {f : Addr} {cdv : Value} {A : Around} {outer : List Env} {s0 : Shared} {H0 : Hp} {CB CE CN : Addr}
theorem g_words (hr : Room 8 (A.deeper (envOfC "law" (defScope sLaw) s0.heap.objs.size f cdv))) (GW : Cf P w K mg base L2.CX0 3 "_law_words" ["_law_knife_here", "_law_many", "_law_most", "_law_letters"] spWords) (GO : Cf P w K mg base L2.CX0 2 "_law_one_of" ["_law_knife_here", "_law_some"] (spOne K)) :
    ∃ t, PS (LX P w K mg base f cdv A outer s0 H0) (lb 0) t ∧ ∀ (D : Ends) (H : Hp) (kf c : Addr) (n : Nat) (v0 v2 v3 v4 v5 v6 v7 v8 v9 v10 v11 v12 v13 v14 : Option V), KnAt H kf c n → n ≤ 60000 →
      (∀ q ws H', DrawnL 5 4 ws → H' q = some (.lst (wstr ws)) → q ≠ kf → KnAt H' kf c (n + 120) → KpK kf H H' → D.nx [v0, some (.ref kf), v2, some (.ref q), v4, v5, v6, v7, v8, v9, v10, v11, v12, v13, v14] H') →
      t D [v0, some (.ref kf), v2, v3, v4, v5, v6, v7, v8, v9, v10, v11, v12, v13, v14] H := by
  refine ⟨_, ps_set (i := 3) scLaw.nd rfl (.inl rfl) (pe_cf GW (hr.mono (by decide)) (by rfl) pass0 (pa_cons (pv 1) (pa_cons (pe_cf GO (hr.mono (by decide)) (by rfl) pass0 (pa_cons (pv 1) (pa_cons (pe_lst (pa_cons pe_int (pa_cons pe_int (pa_cons pe_int (pa_cons pe_int pa_nil))))) pa_nil)))
    (pa_cons (pe_cf GO (hr.mono (by decide)) (by rfl) pass0 (pa_cons (pv 1) (pa_cons (pe_lst (pa_cons pe_int (pa_cons pe_int (pa_cons pe_int pa_nil)))) pa_nil))) (pa_cons (pe_cf GO (hr.mono (by decide)) (by rfl) pass0 (pa_cons (pv 1) (pa_cons (pe_lst (pa_cons pe_int (pa_cons pe_int (pa_cons pe_int pa_nil)))) pa_nil))) pa_nil))))), ?_⟩
  intro D H kf c n v0 v2 v3 v4 v5 v6 v7 v8 v9 v10 v11 v12 v13 v14 hk hn k
  refine ⟨_, rfl, ?_⟩
  refine e_one (xs := [.int 2, .int 3, .int 2, .int 4]) rfl hk (by omega) (el_lst (ea_cons ev_c (ea_cons ev_c (ea_cons ev_c (ea_cons ev_c ea_nil)))) (by show 4 ≤ 100000; decide)) ⟨by decide, by show 4 ≤ 1000; decide⟩ fun x H1 hx k1 p1 => ?_
  refine e_one (xs := [.int 3, .int 2, .int 4]) rfl k1 (by omega) (el_lst (ea_cons ev_c (ea_cons ev_c (ea_cons ev_c ea_nil))) (by show 3 ≤ 100000; decide)) ⟨by decide, by show 3 ≤ 1000; decide⟩ fun y H2 hy k2 p2 => ?_
  refine e_one (xs := [.int 2, .int 3, .int 4]) rfl k2 (by omega) (el_lst (ea_cons ev_c (ea_cons ev_c (ea_cons ev_c ea_nil))) (by show 3 ≤ 100000; decide)) ⟨by decide, by show 3 ≤ 1000; decide⟩ fun z H3 hz k3 p3 => ?_
  obtain ⟨a, rfl, ha⟩ : ∃ a : Nat, x = .int (a : Int) ∧ 2 ≤ a ∧ a ≤ 4 := by
    simp only [List.mem_cons, List.not_mem_nil, or_false] at hx
    rcases hx with rfl | rfl | rfl | rfl
    · exact ⟨2, rfl, by decide⟩
    · exact ⟨3, rfl, by decide⟩
    · exact ⟨2, rfl, by decide⟩
    · exact ⟨4, rfl, by decide⟩
  obtain ⟨b, rfl, hb⟩ : ∃ a : Nat, y = .int (a : Int) ∧ 2 ≤ a ∧ a ≤ 4 := by
    simp only [List.mem_cons, List.not_mem_nil, or_false] at hy
    rcases hy with rfl | rfl | rfl
    · exact ⟨3, rfl, by decide⟩
    · exact ⟨2, rfl, by decide⟩
    · exact ⟨4, rfl, by decide⟩
  obtain ⟨d, rfl, hd⟩ : ∃ a : Nat, z = .int (a : Int) ∧ 2 ≤ a ∧ a ≤ 4 := by
    simp only [List.mem_cons, List.not_mem_nil, or_false] at hz
    rcases hz with rfl | rfl | rfl
    · exact ⟨2, rfl, by decide⟩
    · exact ⟨3, rfl, by decide⟩
    · exact ⟨4, rfl, by decide⟩
  refine ⟨kf, c, a, b, d, n + 1 + 1 + 1, rfl, by omega, by omega, by omega, by omega, by omega, by omega, k3, by omega, fun q ws H4 hq dl hl k4 p4 => ?_⟩
  exact k q ws H4 (dl.mono (by omega) (by omega)) hl (k3.ne hq) (k4.mono (by omega)) (((p1.trans p2).trans p3).trans p4)
theorem g_near (hr : Room 8 (A.deeper (envOfC "law" (defScope sLaw) s0.heap.objs.size f cdv))) (GN : Cf P w K mg base L2.CX0 3 "_law_near" ["_law_knife_here", "_law_words_here"] (spNear K)) (GC : Cf P w K mg base L2.CX0 1 "_law_cut" ["_law_knife_here", "_law_many"] spCut) :
    ∃ t, PS (LX P w K mg base f cdv A outer s0 H0) (lb 1) t ∧ ∀ (D : Ends) (H : Hp) (kf c q : Addr) (ws : List (List Nat)) (n : Nat) (v0 v2 v4 v5 v6 v7 v8 v9 v10 v11 v12 v13 v14 : Option V), KnAt H kf c n → n ≤ 60000 → DrawnL 5 4 ws → H q = some (.lst (wstr ws)) → q ≠ kf →
      (∀ q ws H', DrawnL 6 5 ws → H' q = some (.lst (wstr ws)) → q ≠ kf → KnAt H' kf c (n + 5) → KpK kf H H' → D.nx [v0, some (.ref kf), v2, some (.ref q), v4, v5, v6, v7, v8, v9, v10, v11, v12, v13, v14] H') →
      t D [v0, some (.ref kf), v2, some (.ref q), v4, v5, v6, v7, v8, v9, v10, v11, v12, v13, v14] H := by
  refine ⟨_, ps_set (i := 3) scLaw.nd rfl (.inl rfl) (pe_ifExp (pt_cmpR op_gt (pe_cf GC (hr.mono (by decide)) (by rfl) pass0 (pa_cons (pv 1) (pa_cons pe_int pa_nil))) pe_int (nomark _)) (pe_cf GN (hr.mono (by decide)) (by rfl) pass0 (pa_cons (pv 1) (pa_cons (pv 3) pa_nil))) (pv 3)), ?_⟩
  intro D H kf c q ws n v0 v2 v4 v5 v6 v7 v8 v9 v10 v11 v12 v13 v14 hk hn hd hq hne k
  refine ⟨_, rfl, kf, c, 3, n, rfl, by decide, by decide, hk, by omega, fun r H1 hr1 k1 p1 => ?_⟩
  have hq1 := p1 _ _ hq hne
  refine ⟨(r : Int), 0, rfl, rfl, decide ((r : Int) > 0), rfl, ?_⟩
  cases hb : decide ((r : Int) > 0) with
  | true =>
    refine iteT ⟨_, rfl, _, rfl, kf, c, q, ws, n + 1, rfl, hq1, hne, hd, k1, by omega, fun q2 ws2 H2 d2 h2 n2 k2 p2 => ?_⟩
    exact k q2 ws2 H2 d2 h2 n2 (k2.mono (by omega)) (p1.trans p2)
  | false => exact iteF ⟨_, rfl, k q ws H1 (hd.mono (by omega) (by omega)) hq1 hne (k1.mono (by omega)) p1⟩
end
end K11
end
section
set_option maxRecDepth 100000
set_option maxHeartbeats 4000000
/-! The def law: book, costs. -/
namespace K11
open PySem PySem.Spec PyProof.Rows L2 Evl
theorem KnAt.sqT {K : PySem.W.Frag} {H H' : Hp} {kf c t : Addr} {n : Nat} {xs : List V} (h : KnAt H kf c n) (k : KpK kf H H') (s : SqT K H t xs) : SqT K H' t xs := by
  rcases s with (s | ⟨o, s⟩) | s
  · exact .inl (.inl (k _ _ s (h.ne2 s fun _ z => by cases z)))
  · exact .inl (.inr ⟨o, k _ _ s (h.ne2 s fun _ z => by cases z)⟩)
  · exact .inr s
theorem KnAt.book {K : PySem.W.Frag} {H H' : Hp} {kf c p C : Addr} {n : Nat} {ws : List (List Nat)} (h : KnAt H kf c n) (k : KpK kf H H') (b : BookAt K C H p ws) : BookAt K C H' p ws := by
  obtain ⟨dx, t, e, s⟩ := b
  exact ⟨dx, t, k _ _ e (h.ne2 e fun _ z => by cases z), h.sqT k s⟩
/-- the class Book, made -/
structure BkF (P : Program) (w : World) (K : PySem.W.Frag) (mg : Str → Option Value) (base : Heap) (CB : Addr) : Prop where
  m : mg "Book" = some (.ref CB)
  ex : ∃ f fd, Mk K CB f ∧ FnOk P w K mg base L2.CX0 3 f fd ["self", "words"] (spBInit K CB) ∧ Binds K fd ["self", "words"] []
theorem s_asgCall {σ : L2.St} {H : Hp} {ta : TA} {vs dvs : List V} {sp : Sp} {E : XK} {i : Nat} {D : Ends} (h : EvA ta σ H vs) (k : ∀ H1, Ex H H1 → sp (vs ++ dvs) H1 (fun v H2 => D.nx (σ.set i (some v)) H2) E) : tAsg (tCall sp dvs E ta) (gName i) D σ H :=
  h H (Ex.refl H) _ fun H1 e => k H1 e
theorem drawn_ok {m k : Nat} {ws : List (List Nat)} (h : DrawnL m k ws) (hm : m ≤ 12) : ∀ x ∈ ws, WordOk x := fun x hx => (let d := h.ok x hx; ⟨d.lo, Nat.le_trans d.hi hm, d.ab⟩)
section
variable {P : Program} {w : World} {K : PySem.W.Frag} {mg : Str → Option Value} {base : Heap} {f : Addr} {cdv : Value} {A : Around} {outer : List Env} {s0 : Shared} {H0 : Hp} {CB CE CN : Addr}
theorem g_book (hr : Room 8 (A.deeper (envOfC "law" (defScope sLaw) s0.heap.objs.size f cdv))) (GB : BkF P w K mg base CB) (GO : Cf P w K mg base L2.CX0 2 "_law_one_of" ["_law_knife_here", "_law_some"] (spOne K)) :
    ∃ t, PS (LX P w K mg base f cdv A outer s0 H0) (lb 2) t ∧ ∀ (D : Ends) (H : Hp) (kf c q : Addr) (ws : List (List Nat)) (n : Nat) (v0 v2 v4 v5 v6 v7 v8 v9 v10 v11 v12 v13 v14 : Option V), KnAt H kf c n → n ≤ 60000 → DrawnL 6 5 ws → H q = some (.lst (wstr ws)) → q ≠ kf →
      (∀ p H' (many : Nat), 1 ≤ many → many ≤ 4 → BookAt K CB H' p ws → H' q = some (.lst (wstr ws)) → KnAt H' kf c (n + 1) → KpK kf H H' → D.nx [v0, some (.ref kf), v2, some (.ref q), some (.int (many : Int)), v5, v6, v7, v8, v9, some (.ref p), v11, v12, v13, v14] H') →
      t D [v0, some (.ref kf), v2, some (.ref q), v4, v5, v6, v7, v8, v9, v10, v11, v12, v13, v14] H := by
  obtain ⟨fb, fdb, mk, FB, bb⟩ := GB.ex
  refine ⟨_, ps_asg (pe_tup (pa_cons (pe_make mk FB (hr.mono (by decide)) (by rfl) GB.m bb .nil pass0 (pa_cons (pv 3) pa_nil)) (pa_cons (pe_cf GO (hr.mono (by decide)) (by rfl) pass0 (pa_cons (pv 1) (pa_cons (pe_lst (pa_cons pe_int (pa_cons pe_int (pa_cons pe_int (pa_cons pe_int (pa_cons pe_int pa_nil)))))) pa_nil))) pa_nil)))
    (pg_tup rfl (pgs_cons (pg_name (i := 10) scLaw.nd rfl (.inr rfl)) (pgs_cons (pg_name (i := 4) scLaw.nd rfl (.inl rfl)) pgs_nil))), ?_⟩
  intro D H kf c q ws n v0 v2 v4 v5 v6 v7 v8 v9 v10 v11 v12 v13 v14 hk hn hd hq hne k
  refine ⟨_, rfl, fun x dx hx hdx hne2 => ?_⟩
  have e0 : Ex H (upd (upd H dx (.own x)) x (.ins CB dx [])) := (Ex.new hdx).trans (Ex.new (by rw [upd_ne hne2.symm]; exact hx))
  refine ⟨x, dx, q, ws, rfl, upd_same, e0 _ _ hq, drawn_ok hd (by decide), hd.nd, hd.lo, Nat.le_trans hd.hi (by decide), fun H2 keep bk => ⟨rfl, ?_⟩⟩
  have e2 : Ex H H2 := fun b o e => keep b o (e0 b o e) (ne_of_none e hx)
  refine e_one (xs := [.int 1, .int 2, .int 3, .int 2, .int 4]) rfl (hk.ex e2) (by omega) (el_lst (ea_cons ev_c (ea_cons ev_c (ea_cons ev_c (ea_cons ev_c (ea_cons ev_c ea_nil))))) (by show 5 ≤ 100000; decide)) ⟨by decide, by show 5 ≤ 1000; decide⟩ fun y H3 hy k3 p3 => ?_
  obtain ⟨a, rfl, ha⟩ : ∃ a : Nat, y = .int (a : Int) ∧ 1 ≤ a ∧ a ≤ 4 := by
    simp only [List.mem_cons, List.not_mem_nil, or_false] at hy
    rcases hy with rfl | rfl | rfl | rfl | rfl
    · exact ⟨1, rfl, by decide⟩
    · exact ⟨2, rfl, by decide⟩
    · exact ⟨3, rfl, by decide⟩
    · exact ⟨2, rfl, by decide⟩
    · exact ⟨4, rfl, by decide⟩
  refine ⟨by show 2 ≤ sizeLine; decide, fun r hr0 => ⟨r, _, rfl, SqT.of upd_same, rfl, _, _, rfl, _, _, rfl, rfl, ?_⟩⟩
  have e4 : Ex H3 (upd H3 r (.tup [.ref x, .int (a : Int)])) := Ex.new hr0
  exact k x _ a ha.1 ha.2 ((hk.ex e2).book p3 bk |>.ex e4) (e4 _ _ (p3 _ _ (e2 _ _ hq) hne)) (k3.ex e4) ((KpK.pre e2 p3).ex e4)
theorem g_costs (hr : Room 8 (A.deeper (envOfC "law" (defScope sLaw) s0.heap.objs.size f cdv))) (B : Bi mg) (GL : Cf P w K mg base L2.CX0 3 "_law_costs" ["_law_words_here", "_law_most"] (spLCosts K)) :
    ∃ t, PS (LX P w K mg base f cdv A outer s0 H0) (lb 3) t ∧ ∀ (D : Ends) (H : Hp) (q : Addr) (ws : List (List Nat)) (many : Nat) (v0 v1 v2 v5 v6 v7 v8 v9 v10 v11 v12 v13 v14 : Option V), DrawnL 6 5 ws → H q = some (.lst (wstr ws)) → 1 ≤ many → many ≤ 4 →
      (∀ d H' M, Ex H H' → many ≤ M → (∃ x ∈ ws, x.length + 1 ≤ M) → H' d = some (.dT (kvs3 ws M (triplesOf ws.length))) → D.nx [v0, v1, v2, some (.ref q), some (.int (many : Int)), some (.ref d), v6, v7, v8, v9, v10, v11, v12, v13, v14] H') →
      t D [v0, v1, v2, some (.ref q), some (.int (many : Int)), v5, v6, v7, v8, v9, v10, v11, v12, v13, v14] H := by
  refine ⟨_, ps_set (i := 5) scLaw.nd rfl (.inr rfl) (pe_cf GL (hr.mono (by decide)) (by rfl) pass0 (pa_cons (pv 3) (pa_cons (pe_callB (call_max2 rfl) (by rfl) B.max (by decide +kernel) (pa_cons (pv 4) (pa_cons (pe_op op_add pe_int (pe_callB (cr_min rfl) (by rfl) B.min (by decide +kernel) (pa_cons
      (pe_lc (own := [("_law_word_here", 13)]) (g := gName 13) (tt := tYes) rfl scLaw.nd (pi_list (pv 3)) (blkOk_by (N := NL) (sc := defScope sLaw) (by decide +kernel)) (fun _ _ _ _ _ => pg_name (i := 13) scLaw.nd rfl (.inl rfl)) (fun _ _ _ _ _ => pts_nil)
        (fun _ _ _ _ _ => pe_callB call_len_str (by rfl) B.len PySem.boot_len (pa_cons (pv 13) pa_nil))) pa_nil))) pa_nil))) pa_nil))), ?_⟩
  intro D H q ws many v0 v1 v2 v5 v6 v7 v8 v9 v10 v11 v12 v13 v14 hd hq h1 h4 k
  have hl : (wstr ws).length = ws.length := by simp
  have h5 := hd.hi
  have hlo := hd.lo
  have hc := el_lcL (K := K) (σ := [v0, v1, v2, some (.ref q), some (.int (many : Int)), v5, v6, v7, v8, v9, v10, v11, v12, v13, v14]) (H := H) (a := q) (xs := wstr ws) (tl := tVar 3) (j := 13) (vs := [13]) (t := tYes) (te := tCB (fun xs H Q => ∃ z, xs = [.str z] ∧ z.length ≤ sizeLine ∧ Q (.int z.length) H) (tCons (tVar 13) tNil))
    (fun _ => true) (fun i => .int (((wd ws i).length : Nat) : Int)) (ev_var rfl) (sq_of hq) (by omega) (fun _ => rfl) (fun i x H1 _ _ H2 _ Q q => q H2 (Ex.refl _)) (fun i x H1 e1 hx _ => by
      have hi : i < ws.length := by rw [← hl]; exact (List.getElem?_eq_some_iff.mp hx).1
      have hw := word_at hi
      rw [hw] at hx
      obtain rfl : V.str (tx (wd ws i)) = x := Option.some.inj hx
      have := (hd.ok _ (wd_mem hi)).hi
      exact ev_lenS (ev_var rfl) (by omega))
  rw [given_map, hl] at hc
  have hns : ((List.range ws.length).map fun i => V.int (((wd ws i).length : Nat) : Int)) = ((List.range ws.length).map fun i => (wd ws i).length).map fun (c : Nat) => V.int (c : Int) := by rw [List.map_map]; rfl
  rw [hns] at hc
  have hne : ((List.range ws.length).map fun i => (wd ws i).length) ≠ [] := by
    intro z
    have := congrArg List.length z
    simp at this
    rw [this] at hlo
    simp at hlo
  have hm := lmin_mem hne
  obtain ⟨i, hi, hil⟩ := List.mem_map.mp hm
  have hi := List.mem_range.mp hi
  have hmem := wd_mem hi
  have hW := hd.ok _ hmem
  have h6 := hW.hi
  have hmin := ev_minL (K := K) (v := fun _ => .non) hc hne
  generalize lmin ((List.range ws.length).map fun i => (wd ws i).length) = m at hil hmin
  obtain ⟨M, hM, hM1, hM2, hM3⟩ : ∃ M : Nat, (if ((1 : Int) + (m : Int)) > (many : Int) then (1 : Int) + (m : Int) else (many : Int)) = (M : Int) ∧ many ≤ M ∧ m + 1 ≤ M ∧ M ≤ 10 := by
    by_cases h : ((1 : Int) + (m : Int)) > (many : Int)
    · exact ⟨1 + m, by rw [if_pos h]; omega, by omega, by omega, by omega⟩
    · exact ⟨many, by rw [if_neg h], Nat.le_refl _, by omega, by omega⟩
  refine s_asgCall (vs := [.ref q, .int (M : Int)]) (ea_cons (ev_var rfl) (ea_cons (ev_is (ev_max2 (i := (many : Int)) (j := 1 + (m : Int)) (ev_var rfl) (ev_op ev_c hmin rv_I0)) (congrArg V.int hM)) ea_nil)) fun H1 e1 => ⟨q, ws, M, rfl, sq_of (e1 _ _ hq), by omega, fun i => ?_, by omega, fun d H2 hd2 e2 ht => k d H2 M (e1.trans e2) hM1 ⟨_, hmem, by omega⟩ ht⟩
  by_cases hi2 : i < ws.length
  · have := (hd.ok _ (wd_mem hi2)).hi; omega
  · have : wd ws i = [] := by simp [wd, List.getD_eq_getElem?_getD, List.getElem?_eq_none (Nat.le_of_not_lt hi2)]
    rw [this]; simp
end
end K11
end
section
set_option maxRecDepth 100000
set_option maxHeartbeats 4000000
/-! The def law: the odd values, the errors heard. -/
namespace K11
open PySem PySem.Spec PyProof.Rows L2 Evl LamX
section
variable {P : Program} {w : World} {K : PySem.W.Frag} {mg : Str → Option Value} {base : Heap} {f : Addr} {cdv : Value} {A : Around} {outer : List Env} {s0 : Shared} {H0 : Hp} {CB CE CN : Addr}
theorem g_odd (hr : Room 8 (A.deeper (envOfC "law" (defScope sLaw) s0.heap.objs.size f cdv))) (GO : Cf P w K mg base L2.CX0 2 "_law_one_of" ["_law_knife_here", "_law_some"] (spOne K)) :
    ∃ t, PS (LX P w K mg base f cdv A outer s0 H0) (lb 7) t ∧ ∀ (D : Ends) (H : Hp) (kf c q : Addr) (ws : List (List Nat)) (n : Nat) (v0 v2 v4 v5 v6 v7 v8 v9 v10 v11 v12 v13 v14 : Option V), KnAt H kf c n → n ≤ 60000 → H q = some (.lst (wstr ws)) → q ≠ kf →
      (∀ x y H', NoBook H' x → NumV H' y → okNum 0 4 y = false → KnAt H' kf c (n + 2) → KpK kf H H' → D.nx [v0, some (.ref kf), v2, some (.ref q), v4, v5, v6, v7, v8, v9, v10, some x, some y, v13, v14] H') →
      t D [v0, some (.ref kf), v2, some (.ref q), v4, v5, v6, v7, v8, v9, v10, v11, v12, v13, v14] H := by
  refine ⟨_, ps_asg (pe_tup (pa_cons (pe_cf GO (hr.mono (by decide)) (by rfl) pass0 (pa_cons (pv 1) (pa_cons (pe_lst (pa_cons pe_non (pa_cons (pv 3) (pa_cons pe_str (pa_cons pe_int pa_nil))))) pa_nil)))
      (pa_cons (pe_cf GO (hr.mono (by decide)) (by rfl) pass0 (pa_cons (pv 1) (pa_cons (pe_lst (pa_cons (pe_un un_neg pe_int) (pa_cons pe_int (pa_cons pe_non (pa_cons pe_bl (pa_cons pe_str (pa_cons (pe_lst (pa_cons pe_int pa_nil)) pa_nil))))))) pa_nil))) pa_nil)))
    (pg_tup rfl (pgs_cons (pg_name (i := 11) scLaw.nd rfl (.inr rfl)) (pgs_cons (pg_name (i := 12) scLaw.nd rfl (.inr rfl)) pgs_nil))), ?_⟩
  intro D H kf c q ws n v0 v2 v4 v5 v6 v7 v8 v9 v10 v11 v12 v13 v14 hk hn hq hne k
  refine e_one (xs := [.non, .ref q, .str "ab", .int 5]) rfl hk (by omega) (el_lst (ea_cons ev_c (ea_cons (ev_var rfl) (ea_cons ev_c (ea_cons ev_c ea_nil)))) (by show 4 ≤ 100000; decide)) ⟨by show 1 ≤ 4; decide, by show 4 ≤ 1000; decide⟩ fun x H1 hx k1 p1 => ?_
  have hq1 := p1 _ _ hq hne
  refine ⟨_, rfl, 1, rfl, by show 1 ≤ sizeLine; decide, fun r hr0 => ⟨by show 6 ≤ sizeLine; decide, fun l hl => ?_⟩⟩
  have e1 : Ex H1 (upd (upd H1 r (.lst [.int 1])) l (.lst [.int (-1), .int 5, .non, .bl true, .str "1", .ref r])) := (Ex.new hr0).trans (Ex.new hl)
  have hl1 : upd (upd H1 r (.lst [.int 1])) l (.lst [.int (-1), .int 5, .non, .bl true, .str "1", .ref r]) l = some (.lst [.int (-1), .int 5, .non, .bl true, .str "1", .ref r]) := upd_same
  have hr1 : upd (upd H1 r (.lst [.int 1])) l (.lst [.int (-1), .int 5, .non, .bl true, .str "1", .ref r]) r = some (.lst [.int 1]) := Ex.new hl _ _ upd_same
  have nl : l ≠ kf := (k1.ex (Ex.new hr0)).ne hl
  have nr : r ≠ kf := k1.ne hr0
  refine ⟨kf, c, l, [.int (-1), .int 5, .non, .bl true, .str "1", .ref r], n + 1, rfl, sq_of hl1, nl, by show 1 ≤ 6; decide, by show 6 ≤ 1000; decide, k1.ex e1, by omega, fun y H2 hy k2 p2 => ?_⟩
  have hq2 := p2 _ _ (e1 _ _ hq1) hne
  have hr2 := p2 _ _ hr1 nr
  refine ⟨by show 2 ≤ sizeLine; decide, fun z hz => ⟨z, _, rfl, SqT.of upd_same, rfl, _, _, rfl, _, _, rfl, rfl, ?_⟩⟩
  have e3 : Ex H2 (upd H2 z (.tup [x, y])) := Ex.new hz
  refine k x y _ ?_ ?_ ?_ (k2.ex e3) (((KpK.trans (p1.ex e1) p2)).ex e3)
  · simp only [List.mem_cons, List.not_mem_nil, or_false] at hx
    rcases hx with rfl | rfl | rfl | rfl
    · exact .non
    · exact .lst (e3 _ _ hq2)
    · exact .str _
    · exact .int _
  · simp only [List.mem_cons, List.not_mem_nil, or_false] at hy
    rcases hy with rfl | rfl | rfl | rfl | rfl | rfl
    · exact .int _
    · exact .int _
    · exact .non
    · exact .bl _
    · exact .str _
    · exact .lst (e3 _ _ hr2)
  · simp only [List.mem_cons, List.not_mem_nil, or_false] at hy
    rcases hy with rfl | rfl | rfl | rfl | rfl | rfl <;> first | rfl | decide
end
end K11
end
section
set_option maxRecDepth 100000
set_option maxHeartbeats 4000000
/-! The def law: the errors heard. -/
namespace K11
open PySem PySem.Spec PyProof.Rows L2 Evl LamX
/-- the name of the law's lambdas -/
abbrev qL : Str := ("law" ++ ".<locals>.") ++ "<lambda>"
theorem NoBook.xn {H H' : Hp} {v : V} (e : ExtN H H') (h : NoBook H v) : NoBook H' v := by
  cases h with
  | non => exact .non
  | lst h => exact .lst (e _ _ h fun _ z => by cases z)
  | str z => exact .str z
  | int i => exact .int i
theorem NumV.xn {H H' : Hp} {v : V} (e : ExtN H H') (h : NumV H v) : NumV H' v := by
  cases h with
  | int i => exact .int i
  | non => exact .non
  | bl b => exact .bl b
  | str z => exact .str z
  | lst h => exact .lst (e _ _ h fun _ z => by cases z)
theorem sqT_xn {K : PySem.W.Frag} {H H' : Hp} {t : Addr} {xs : List V} (e : ExtN H H') (s : SqT K H t xs) : SqT K H' t xs := by
  rcases s with (s | ⟨o, s⟩) | s
  · exact .inl (.inl (e _ _ s fun _ z => by cases z))
  · exact .inl (.inr ⟨o, e _ _ s fun _ z => by cases z⟩)
  · exact .inr s
theorem BookAt.xn {K : PySem.W.Frag} {C p : Addr} {H H' : Hp} {ws : List (List Nat)} (e : ExtN H H') (h : BookAt K C H p ws) : BookAt K C H' p ws := let ⟨dx, t, a, b⟩ := h; ⟨dx, t, e _ _ a fun _ z => (by cases z), sqT_xn e b⟩
theorem KnAt.xn {H H' : Hp} {kf c : Addr} {n : Nat} (e : ExtN H H') (h : KnAt H kf c n) : KnAt H' kf c n := let ⟨zs, t, r, a, b, d, f, g⟩ := h; ⟨zs, t, r, e _ _ a fun _ z => (by cases z), e _ _ b fun _ z => (by cases z), d, f, g⟩
theorem xn_tup {H H' : Hp} {t : Addr} {xs : List V} (e : ExtN H H') (h : H t = some (.tup xs)) : H' t = some (.tup xs) := e _ _ h fun _ z => by cases z
theorem Tabs.kp {T : List (Addr × Str)} {H H' : Hp} {kf c : Addr} {n : Nat} (hk : KnAt H kf c n) (k : KpK kf H H') (t : Tabs T H) : Tabs T H' := fun p hp => by
  obtain ⟨ps, h1, h2, h3⟩ := t p hp
  refine ⟨ps, k _ _ h1 (hk.ne2 h1 fun _ z => by cases z), h2, fun pos cv hc => ?_⟩
  obtain ⟨a, e1, e2⟩ := h3 pos cv hc
  exact ⟨a, e1, k _ _ e2 (hk.ne2 e2 fun xs z => by unfold CodeO at z; cases z)⟩
def lamPB (N : List Str) (p0 : Str) (sc scope : Scope) : Bool :=
  decide (scope.kind = .function) && !scope.isCoroutine && !scope.isGenerator && decide (scope.names.lookup p0 = some .local) && decide (p0 ∉ N) && scope.names.all fun y => !decide (y.2 = .cell) && (!decide (y.2 = .local) || decide (y.1 = p0)) && (!decide (y.2 = .free) || decide (sc.names.lookup y.1 = some .cell) || decide (sc.names.lookup y.1 = some .free))
theorem lamP_by {N : List Str} {p0 : Str} {sc scope : Scope} (h : lamPB N p0 sc scope = true) : LamP N p0 sc scope := by
  unfold lamPB at h
  simp only [Bool.and_eq_true, Bool.or_eq_true, Bool.not_eq_true', decide_eq_true_eq, decide_eq_false_iff_not, List.all_eq_true] at h
  obtain ⟨⟨⟨⟨⟨h1, h2⟩, h3⟩, h4⟩, h5⟩, h6⟩ := h
  refine ⟨h1, h2, h3, fun y hy => (h6 y hy).1.1, fun y hy => ?_, h4, h5, fun y hy e => ?_⟩
  · rcases (h6 _ (PySem.mem_of_lookup hy)).1.2 with z | z
    · exact absurd rfl z
    · exact z
  · rcases (h6 y hy).2 with (z | z) | z
    · exact absurd e z
    · exact .inl z
    · exact .inr z
/-- what the def law knows of its own lambdas and of the def that hears -/
structure Hr (K : PySem.W.Frag) (mg : Str → Option Value) (base : Heap) (cdv : Value) (cL PL : Addr) (CL CT CE CN fh : Addr) (fdh : FuncData) : Prop where
  tb : TabB base mg cL PL
  cd : cdv = .ref cL
  d : Df K mg "_law_heard" sHeard fh fdh ["_law_ask"]
  er : ErrT K mg CL CT CE CN
theorem e_zero {M : Model} {A : Around} {i : Int} {j : Nat} {pos : Pos} {env : Env} {E : Value → Shared → Prop} {s : Shared} {Q : Value → Shared → Prop} (h : ∀ u t, Q u { s with toks := t }) : wpAny M A (eval (.Constant (.int i) j pos) env) Q E s := wpAny_Constant_int (h _ _)
section
variable {P : Program} {w : World} {K : PySem.W.Frag} {mg : Str → Option Value} {base : Heap} {f : Addr} {cdv : Value} {A : Around} {outer : List Env} {s0 : Shared} {H0 : Hp} {CB CE CN cL PL CL CT fh : Addr} {fdh : FuncData}
/-- one call of _law_heard with a lambda: an error of the kind C with the part z is raised -/
theorem e_heard {T : List (Addr × Str)} {σ : L2.St} {H : Hp} {t : XK → TE} {Q : VK} (C : Addr) (kd z : Str) (hC : (C = CE ∧ kd = "book") ∨ (C = CN ∧ kd = "number")) (hT : Tabs T H) (ht : ∀ (H1 : Hp) (E : XK), ExtN H H1 → Raised C z H1 E → ∀ Q, t E σ H1 Q)
    (k : ∀ r H', Tabs T H' → ExtN H H' → H' r = some (.tup [.str kd, .str z]) → Q (.ref r) H') : tLam T (THeard CE CN) t σ H Q := by
  refine ⟨hT, fun H1 e1 T1 => ht H1 _ e1 (fun d H2 hd e2 hx => ⟨d, z, rfl, hx, ?_⟩) _⟩
  rcases hC with ⟨rfl, rfl⟩ | ⟨rfl, rfl⟩
  · exact .inl ⟨rfl, fun r H3 e3 hr h3 => k r H3 (T1.ext (e2.trans e3)) (e1.trans (ExtN.of (e2.trans e3))) h3⟩
  · exact .inr ⟨rfl, fun r H3 e3 hr h3 => k r H3 (T1.ext (e2.trans e3)) (e1.trans (ExtN.of (e2.trans e3))) h3⟩
theorem g_heard (hr : Room 10 (A.deeper (envOfC "law" (defScope sLaw) s0.heap.objs.size f cdv))) (B : Bi mg) (G : Hr K mg base cdv cL PL CL CT CE CN fh fdh)
    (GM : Cf P w K mg base (L2.CX P w) 8 "made_words" ["book", "many"] (spMade K CB CE CN)) (GP : Cf P w K mg base (L2.CX P w) 8 "price" ["book"] (spPrice K CB CE)) :
    ∃ t, PS (LX P w K mg base f cdv A outer s0 H0) (lb 8) t ∧ ∀ (D : Ends) (H : Hp) (p : Addr) (ws : List (List Nat)) (x y : V) (v0 v1 v2 v3 v4 v5 v6 v7 v8 v9 v13 v14 : Option V), Tabs [(PL, qL)] H → BookAt K CB H p ws → WsOk ws → ws.length ≤ 10 → NoBook H x → NumV H y → okNum 0 4 y = false →
      (∀ l r1 r2 r3 H', Tabs [(PL, qL)] H' → ExtN H H' → H' l = some (.lst [.ref r1, .ref r2, .ref r3]) → H' r1 = some (.tup [.str "book", .str "book"]) → H' r2 = some (.tup [.str "number", .str "many"]) → H' r3 = some (.tup [.str "book", .str "book"]) →
        D.nx [v0, v1, v2, v3, v4, v5, v6, v7, v8, some (.ref l), some (.ref p), some x, some y, v13, v14] H') →
      t D [v0, v1, v2, v3, v4, v5, v6, v7, v8, v9, some (.ref p), some x, some y, v13, v14] H := by
  obtain ⟨tb, rfl, d, er⟩ := G
  obtain ⟨oc, od, kV, doc, pm, an, cdh, ct, osl, rfl, lk, hcd⟩ := d.F.ex
  have hG := fun (q : Str) => heard_gives (X := LX P w K mg base f (.ref cL) A outer s0 H0) (q := q) (g := fh) (cdg := cdh) er B
  refine ⟨_, ps_set (i := 9) scLaw.nd rfl (.inl rfl) (pe_lst
    (pa_cons (pe_lamcall (T := [(PL, qL)]) (k := 8) (Ng := ["_law_ask", "_law_caught", "error", "_law_told", "_law_word_here", "_law_is_so"]) (a := "_law_ask") (c := cL) (P := PL) (t := fun E => tCall (spMade K CB CE CN) [] E (tCons (tVar 11) (tCons (tVar 12) tNil))) (by rfl) d.m d.F.kp lk hcd d.b scHeard rfl (.inl rfl) (hG _) tb rfl (List.mem_singleton.mpr rfl) (fun _ h _ => by rw [List.mem_singleton.mp h]; rfl) hr (lamS_by (sc := defScope sLaw) (by decide +kernel)) rfl (fun _ _ _ _ _ => rfl)
      (fun A' outer' s' H' E f' c' hr' => pe_cf GM hr' (by rfl) (passes_call (takes_of rfl rfl rfl rfl) fun _ _ _ _ z => z) (pa_cons (pv 11) (pa_cons (pv 12) pa_nil))))
    (pa_cons (pe_lamcallD (p0 := "_law_a1") (T := [(PL, qL)]) (k := 8) (Ng := ["_law_ask", "_law_caught", "error", "_law_told", "_law_word_here", "_law_is_so"]) (a := "_law_ask") (c := cL) (P := PL) (t := fun E => tCall (spMade K CB CE CN) [] E (tCons (tVar 10) (tCons (tVar 12) tNil))) (by rfl) d.m d.F.kp lk hcd d.b scHeard rfl (.inl rfl) (hG _) tb rfl (List.mem_singleton.mpr rfl) (fun _ h _ => by rw [List.mem_singleton.mp h]; rfl) hr (lamP_by (N := NL) (sc := defScope sLaw) (by decide +kernel)) rfl rfl
      (fun E s Q h => e_zero h) (fun s q cl Td dv doc pm cv ctv h => BindsTo.of_defaults rfl h rfl rfl rfl)
      (fun A' outer' s' H' E f' c' hr' => pe_cf GM hr' (by rfl) (passes_call (takes_of rfl rfl rfl rfl) fun _ _ _ _ z => z) (pa_cons (pv 10) (pa_cons (pv 12) pa_nil))))
    (pa_cons (pe_lamcallD (p0 := "_law_a2") (T := [(PL, qL)]) (k := 8) (Ng := ["_law_ask", "_law_caught", "error", "_law_told", "_law_word_here", "_law_is_so"]) (a := "_law_ask") (c := cL) (P := PL) (t := fun E => tCall (spPrice K CB CE) [] E (tCons (tVar 11) tNil)) (by rfl) d.m d.F.kp lk hcd d.b scHeard rfl (.inl rfl) (hG _) tb rfl (List.mem_singleton.mpr rfl) (fun _ h _ => by rw [List.mem_singleton.mp h]; rfl) hr (lamP_by (N := NL) (sc := defScope sLaw) (by decide +kernel)) rfl rfl
      (fun E s Q h => e_zero h) (fun s q cl Td dv doc pm cv ctv h => BindsTo.of_defaults rfl h rfl rfl rfl)
      (fun A' outer' s' H' E f' c' hr' => pe_cf GP hr' (by rfl) (passes_call (takes_of rfl rfl rfl rfl) fun _ _ _ _ z => z) (pa_cons (pv 11) pa_nil))) pa_nil)))), ?_⟩
  intro D H p ws x y v0 v1 v2 v3 v4 v5 v6 v7 v8 v9 v13 v14 hT bk hw hn hx hy ho k
  refine e_heard CE "book" "book" (.inl ⟨rfl, rfl⟩) hT (fun H1 E e1 R Q => ⟨_, rfl, _, rfl, x, y, rfl, .inr ⟨hx.xn e1, R⟩⟩) fun r1 H1 T1 e1 t1 => ?_
  refine e_heard CN "number" "many" (.inr ⟨rfl, rfl⟩) T1 (fun H2 E e2 R Q => ⟨_, rfl, _, rfl, _, y, rfl, .inl ⟨p, ws, rfl, bk.xn (e1.trans e2), hw, hn, .inr ⟨hy.xn (e1.trans e2), ho, R⟩⟩⟩) fun r2 H2 T2 e2 t2 => ?_
  refine e_heard CE "book" "book" (.inl ⟨rfl, rfl⟩) T2 (fun H3 E e3 R Q => ⟨_, rfl, x, rfl, .inr ⟨hx.xn ((e1.trans e2).trans e3), R⟩⟩) fun r3 H3 T3 e3 t3 => ?_
  refine ⟨by show 3 ≤ sizeLine; decide, fun l hl => ?_⟩
  have e4 : Ex H3 (upd H3 l (.lst [.ref r1, .ref r2, .ref r3])) := Ex.new hl
  exact k l r1 r2 r3 _ (T3.ext e4) (((e1.trans e2).trans e3).trans (ExtN.of e4)) upd_same (e4 _ _ (xn_tup e3 (xn_tup e2 t1))) (e4 _ _ (xn_tup e3 t2)) (e4 _ _ t3)
/-- what is heard, as data -/
def dHeard : PyData := .list [.tuple [.str "book", .str "book"], .tuple [.str "number", .str "many"], .tuple [.str "book", .str "book"]]
theorem g_told (hr : Room 8 (A.deeper (envOfC "law" (defScope sLaw) s0.heap.objs.size f cdv))) :
    ∃ t, PS (LX P w K mg base f cdv A outer s0 H0) (lb 9) t ∧ ∀ (D : Ends) (H : Hp) (l r1 r2 r3 : Addr) (v0 v1 v2 v3 v4 v5 v6 v7 v8 v10 v11 v12 v13 v14 : Option V), H l = some (.lst [.ref r1, .ref r2, .ref r3]) → H r1 = some (.tup [.str "book", .str "book"]) → H r2 = some (.tup [.str "number", .str "many"]) → H r3 = some (.tup [.str "book", .str "book"]) →
      (∀ H', Ex H H' → D.nx [v0, v1, v2, v3, v4, v5, v6, v7, v8, some (.ref l), v10, v11, v12, v13, v14] H') →
      t D [v0, v1, v2, v3, v4, v5, v6, v7, v8, some (.ref l), v10, v11, v12, v13, v14] H := by
  have hu : (A.deeper (envOfC "law" (defScope sLaw) s0.heap.objs.size f cdv)).units + 64 < cLine := hr.units
  refine ⟨_, ps_if (pt_cmpR (op_neD hu) (pv 9) (pe_lst (pa_cons (pe_tup (pa_cons pe_str (pa_cons pe_str pa_nil))) (pa_cons (pe_tup (pa_cons pe_str (pa_cons pe_str pa_nil))) (pa_cons (pe_tup (pa_cons pe_str (pa_cons pe_str pa_nil))) pa_nil)))) (nomark _)) (pss_one (ps_ret pe_bl)) pss_nil, ?_⟩
  intro D H l r1 r2 r3 v0 v1 v2 v3 v4 v5 v6 v7 v8 v10 v11 v12 v13 v14 h0 h1 h2 h3 k
  refine ⟨_, rfl, ?_⟩
  refine ⟨by show 2 ≤ sizeLine; decide, fun a ha => ⟨by show 2 ≤ sizeLine; decide, fun b hb => ⟨by show 2 ≤ sizeLine; decide, fun c hc => ⟨by show 3 ≤ sizeLine; decide, fun m hm => ?_⟩⟩⟩⟩
  have e1 := Ex.new (o := .tup [.str "book", .str "book"]) ha
  have e2 := Ex.new (o := .tup [.str "number", .str "many"]) hb
  have e3 := Ex.new (o := .tup [.str "book", .str "book"]) hc
  have e4 := Ex.new (o := .lst [.ref a, .ref b, .ref c]) hm
  have e := ((e1.trans e2).trans e3).trans e4
  have pr : ∀ {H : Hp} {r : Addr} {x y : Str}, H r = some (.tup [.str x, .str y]) → Dp K H (.ref r) (.tuple [.str x, .str y]) := fun h => .tup (SqT.of h) (.cons (.str _) (.cons (.str _) .nil))
  refine ⟨dHeard, dHeard, .lst (SqL.of (e _ _ h0)) (.cons (pr (e _ _ h1)) (.cons (pr (e _ _ h2)) (.cons (pr (e _ _ h3)) .nil))),
    .lst (SqL.of upd_same) (.cons (pr (e4 _ _ (e3 _ _ (e2 _ _ upd_same)))) (.cons (pr (e4 _ _ (e3 _ _ upd_same))) (.cons (pr (e4 _ _ upd_same)) .nil))), by decide +kernel, by decide +kernel, false, by rw [SeqAt.eqv_refl _ (by decide +kernel)]; rfl, iteF ?_⟩
  exact k _ e
end
end K11
end
section
set_option maxRecDepth 100000
set_option maxHeartbeats 4000000
/-! The def law, whole. -/
namespace K11
open PySem PySem.Spec PyProof.Rows L2 Evl LamX
/-! ### the words that are drawn: the plain law told of them -/
theorem drawn_book {ws : List (List Nat)} (h : DrawnL 6 5 ws) : BookOk ws := ⟨fun x hx => (let d := h.ok x hx; ⟨d.lo, Nat.le_trans d.hi (by decide)⟩), fun x hx hm => by have := (h.ok x hx).ab 32 hm; omega, h.nd⟩
theorem drawn_ws {ws : List (List Nat)} (h : DrawnL 6 5 ws) : WsOk ws := fun i => by
  by_cases hi : i < ws.length
  · have := (h.ok _ (wd_mem hi)).hi; omega
  · have : wd ws i = [] := by simp [wd, List.getD_eq_getElem?_getD, List.getElem?_eq_none (Nat.le_of_not_lt hi)]
    rw [this]; simp
theorem wd_inj {ws : List (List Nat)} (h : ws.Nodup) {i j : Nat} (hi : i < ws.length) (hj : j < ws.length) (e : wd ws i = wd ws j) : i = j := by
  have a : ws[i]? = ws[j]? := by
    rw [List.getElem?_eq_getElem hi, List.getElem?_eq_getElem hj]
    have e1 : wd ws i = ws[i] := by simp [wd, List.getD_eq_getElem?_getD, List.getElem?_eq_getElem hi]
    have e2 : wd ws j = ws[j] := by simp [wd, List.getD_eq_getElem?_getD, List.getElem?_eq_getElem hj]
    rw [← e1, ← e2, e]
  rw [List.getElem?_eq_getElem hi, List.getElem?_eq_getElem hj] at a
  have hp := List.pairwise_iff_getElem.mp h
  rcases Nat.lt_trichotomy i j with q | q | q
  · exact absurd (Option.some.inj a) (hp i j hi hj q)
  · exact q
  · exact absurd (Option.some.inj a).symm (hp j i hj hi q)
theorem cost_eq {ws : List (List Nat)} (h : ws.Nodup) {t : T3} (ht : t ∈ triplesOf ws.length) : costT3 ws t = progT ws t := by
  obtain ⟨a, b, _⟩ := mem_triples.mp ht
  unfold costT3 costT progT progC
  by_cases e : t.1 = t.2.1
  · rw [if_pos e, if_pos (by rw [e])]
  · rw [if_neg e, if_neg fun z => e (wd_inj h a b z)]
theorem drawn_made {ws : List (List Nat)} (h : DrawnL 6 5 ws) {M k : Nat} (hk : k ≤ M) : (triplesOf ws.length).filter (fun t => decide (lawTr ws M t ≤ k)) = madeT ws k := by
  rw [made_eq (drawn_book h) hk]
  unfold madeT
  refine List.filter_congr fun t ht => ?_
  rw [cost_eq h.nd ht]
theorem drawn_price {ws : List (List Nat)} (h : DrawnL 6 5 ws) {M : Nat} (hM : ∃ x ∈ ws, x.length + 1 ≤ M) (h0 : triplesOf ws.length ≠ []) : lmin ((triplesOf ws.length).map (lawTr ws M)) = lmin ((triplesOf ws.length).map (costT3 ws)) := by
  rw [price_eq (drawn_book h) hM h0]
  congr 1
  exact List.map_congr_left fun t ht => (cost_eq h.nd ht).symm
theorem drawn_small {ws : List (List Nat)} (h : DrawnL 6 5 ws) : ∀ t ∈ triplesOf ws.length, costT3 ws t < 1000 := fun t ht => by
  rw [cost_eq h.nd ht]
  obtain ⟨_, _, c, _⟩ := mem_triples.mp ht
  have hm := wd_mem c
  have := progC_le (wd ws t.1) (wd ws t.2.1) (wd ws t.2.2) ((drawn_book h).no _ hm)
  have h6 := (h.ok _ hm).hi
  unfold progT
  omega
theorem sq {t u : TS} {D : Ends} {σ : L2.St} {H : Hp} (h : t { D with nx := u D } σ H) : tSeq t u D σ H := h
def spLaw (K : PySem.W.Frag) (PL : Addr) : Sp := fun vs H Q _ => ∃ (a : Addr) (ns : List Int), vs = [.ref a] ∧ SqL K H a (ns.map V.int) ∧ ns.length ≤ 63 ∧ Tabs [(PL, qL)] H ∧ ∀ H', Q (.bl true) H'
section
variable {P : Program} {w : World} {K : PySem.W.Frag} {mg : Str → Option Value} {base : Heap} {CB CE CN cL PL CL CT fh : Addr} {fdh : FuncData}
/-- all that the def law calls -/
structure LawC (P : Program) (w : World) (K : PySem.W.Frag) (mg : Str → Option Value) (base : Heap) (CB CE CN : Addr) : Prop where
  kn : Cf P w K mg base L2.CX0 1 "_law_knife" ["_law_script"] (spKnife K)
  wo : Cf P w K mg base L2.CX0 3 "_law_words" ["_law_knife_here", "_law_many", "_law_most", "_law_letters"] spWords
  one : Cf P w K mg base L2.CX0 2 "_law_one_of" ["_law_knife_here", "_law_some"] (spOne K)
  ne : Cf P w K mg base L2.CX0 3 "_law_near" ["_law_knife_here", "_law_words_here"] (spNear K)
  cut : Cf P w K mg base L2.CX0 1 "_law_cut" ["_law_knife_here", "_law_many"] spCut
  bk : BkF P w K mg base CB
  co : Cf P w K mg base L2.CX0 3 "_law_costs" ["_law_words_here", "_law_most"] (spLCosts K)
  ma : Cf P w K mg base (L2.CX P w) 8 "made_words" ["book", "many"] (spMade K CB CE CN)
  mak : CfK P w K mg base (L2.CX P w) 8 "made_words" ["book", "many"] ["many", "book"] (spMade K CB CE CN)
  pr : Cf P w K mg base (L2.CX P w) 8 "price" ["book"] (spPrice K CB CE)
  pk : CfK P w K mg base (L2.CX P w) 8 "price" ["book"] ["book"] (spPrice K CB CE)
theorem law_body {f : Addr} {cdv : Value} {A : Around} {outer : List Env} {s : Shared} {H : Hp} {vs : List V} {Q : VK} (hr : Room 10 (A.deeper (envOfC "law" (defScope sLaw) s.heap.objs.size f cdv))) (hgd : (A.deeper (envOfC "law" (defScope sLaw) s.heap.objs.size f cdv)).guards = some []) (B : Bi mg)
    (C : LawC P w K mg base CB CE CN) (G : Hr K mg base cdv cL PL CL CT CE CN fh fdh) (h : spLaw K PL vs H Q L2.E0) :
    ∃ t, PSs (LX P w K mg base f cdv A outer s H) (defBody sLaw) t ∧ t { nx := fun _ H' => Q .non H', rt := Q } (L2.start NL vs) H := by
  obtain ⟨a, ns, rfl, ha, hz, hT, k⟩ := h
  have hr8 : Room 8 (A.deeper (envOfC "law" (defScope sLaw) s.heap.objs.size f cdv)) := hr.mono (by decide)
  have hu : (A.deeper (envOfC "law" (defScope sLaw) s.heap.objs.size f cdv)).units + 64 < cLine := hr.units
  obtain ⟨t0, P0, F0⟩ := g_words (P := P) (w := w) (mg := mg) (base := base) (f := f) (cdv := cdv) (A := A) (outer := outer) (s0 := s) (H0 := H) hr8 C.wo C.one
  obtain ⟨t1, P1, F1⟩ := g_near (P := P) (w := w) (mg := mg) (base := base) (f := f) (cdv := cdv) (A := A) (outer := outer) (s0 := s) (H0 := H) hr8 C.ne C.cut
  obtain ⟨t2, P2, F2⟩ := g_book (f := f) (cdv := cdv) (A := A) (outer := outer) (s0 := s) (H0 := H) hr8 C.bk C.one
  obtain ⟨t3, P3, F3⟩ := g_costs (P := P) (w := w) (base := base) (f := f) (cdv := cdv) (A := A) (outer := outer) (s0 := s) (H0 := H) hr8 B C.co
  obtain ⟨t4, P4, F4⟩ := g_most (f := f) (cdv := cdv) (A := A) (outer := outer) (s0 := s) (H0 := H) hr8 hgd B C.ma C.mak
  obtain ⟨t5, P5, F5⟩ := g_least (P := P) (w := w) (K := K) (base := base) (f := f) (cdv := cdv) (A := A) (outer := outer) (s0 := s) (H0 := H) (CB := CB) hr8 B
  obtain ⟨t6, P6, F6⟩ := g_price (f := f) (cdv := cdv) (A := A) (outer := outer) (s0 := s) (H0 := H) hr8 hgd B C.pr C.pk
  obtain ⟨t7, P7, F7⟩ := g_odd (P := P) (w := w) (mg := mg) (base := base) (f := f) (cdv := cdv) (A := A) (outer := outer) (s0 := s) (H0 := H) hr8 C.one
  obtain ⟨t8, P8, F8⟩ := g_heard (f := f) (cdv := cdv) (A := A) (outer := outer) (s0 := s) (H0 := H) hr B G C.ma C.pr
  obtain ⟨t9, P9, F9⟩ := g_told (P := P) (w := w) (K := K) (mg := mg) (base := base) (f := f) (cdv := cdv) (A := A) (outer := outer) (s0 := s) (H0 := H) hr8
  refine ⟨_, pss_cons (ps_set (i := 1) scLaw.nd rfl (.inl rfl) (pe_cf C.kn (hr.mono (show 1 ≤ 10 by decide)) (by rfl) pass0 (pa_cons (pv 0) pa_nil)))
    (pss_cons (ps_for PassesOwn.never rfl (pi_range1 rfl B.range (pa_cons (pe_ifExp (pt_cmpR (op_eqD hu) (pv 0) (pe_lst pa_nil) (nomark _)) pe_int pe_int) pa_nil)) (pg_name (i := 2) scLaw.nd rfl (.inl rfl))
      (pss_cons P0 (pss_cons P1 (pss_cons P2 (pss_cons P3 (pss_cons P4 (pss_cons P5 (pss_cons P6 (pss_cons P7 (pss_cons P8 (pss_one P9)))))))))))
    (pss_one (ps_ret pe_bl))), ?_⟩
  refine q_asgCall (vs := [.ref a]) (ea_cons (ev_var rfl) ea_nil) fun H1 e1 => ⟨a, ns, rfl, ex_l e1 ha, hz, fun kf c H2 hkf e2 hk => ?_⟩
  have hT2 := (Tabs.ext hT e1).ext e2
  have e12 := e1.trans e2
  have hev : EvA (tCons (tIf (tTest (tOp (rEqD K) (tVar 0) (tLst tNil))) (tC (.int 1)) (tC (.int 2))) tNil) [some (.ref a), some (.ref kf), none, none, none, none, none, none, none, none, none, none, none, none, none] H2 [.int (if PyData.eqv (.list (ns.map PyData.int)) (.list (([] : List Int).map PyData.int)) = true then 1 else 2)] :=
    ea_cons (ev_if (b := PyData.eqv (.list (ns.map PyData.int)) (.list (([] : List Int).map PyData.int))) (et_test (ev_opL (ev_var rfl) (el_lst ea_nil (by show 0 ≤ 100000; decide)) fun p H3 hp e3 H4 e4 Q q =>
      ⟨_, _, .lst (ex_l ((e12.trans e3).trans e4) ha) (dp_ints ns), .lst (SqL.of (e4 _ _ hp)) (dp_ints []), PySem.W.shaped_ints ns, PySem.W.shaped_ints [], q H4 (Ex.refl _)⟩))
      (fun hb => by rw [if_pos hb]; exact ev_c) (fun hb => by rw [if_neg (by rw [hb]; decide)]; exact ev_c)) ea_nil
  generalize hnn : (if PyData.eqv (.list (ns.map PyData.int)) (.list (([] : List Int).map PyData.int)) = true then (1 : Int) else 2) = nn at hev
  have hn2 : 0 ≤ nn ∧ nn ≤ 2 := by
    rw [← hnn]
    split <;> exact ⟨by decide, by decide⟩
  refine q_forR1 (n := nn) hev ⟨hn2.1, by omega⟩ (fun i σ' H' => ∃ v2 v3 v4 v5 v6 v7 v8 v9 v10 v11 v12 v13 v14, σ' = [some (.ref a), some (.ref kf), v2, v3, v4, v5, v6, v7, v8, v9, v10, v11, v12, v13, v14] ∧ KnAt H' kf c (i * 1000) ∧ Tabs [(PL, qL)] H')
    (fun H3 e3 => ⟨_, _, _, _, _, _, _, _, _, _, _, _, _, rfl, (hk.ex e3).mono (by omega), hT2.ext e3⟩) ?_ (fun σ' H' _ => k H')
  rintro i σ' H3 hi ⟨v2, v3, v4, v5, v6, v7, v8, v9, v10, v11, v12, v13, v14, rfl, hk3, hT3⟩
  have hi1 : i ≤ 1 := by omega
  refine sq (F0 _ H3 kf c (i * 1000) _ _ _ _ _ _ _ _ _ _ _ _ _ _ hk3 (by omega) fun q ws H4 d4 q4 n4 k4 p4 => ?_)
  have T4 := Tabs.kp hk3 p4 hT3
  refine sq (F1 _ H4 kf c q ws _ _ _ _ _ _ _ _ _ _ _ _ _ _ k4 (by omega) d4 q4 n4 fun q ws H5 d5 q5 n5 k5 p5 => ?_)
  have T5 := Tabs.kp k4 p5 T4
  refine sq (F2 _ H5 kf c q ws _ _ _ _ _ _ _ _ _ _ _ _ _ _ k5 (by omega) d5 q5 n5 fun p H6 many m1 m4 b6 q6 k6 p6 => ?_)
  have T6 := Tabs.kp k5 p6 T5
  refine sq (F3 _ H6 q ws many _ _ _ _ _ _ _ _ _ _ _ _ _ d5 q6 m1 m4 fun d H7 M e7 hM hx h7 => ?_)
  have S7 : Sv K CB H7 ws M p d := ⟨b6.ex e7, drawn_ws d5, Nat.le_trans d5.hi (by decide), h7⟩
  refine sq (F4 _ H7 ws M many p d _ _ _ _ _ _ _ _ _ _ _ _ S7 m1 m4 hM (fun k hk => drawn_made d5 hk) fun v6 v7 v14 H8 e8 => ?_)
  have S8 := S7.ex e8
  refine sq (F5 _ H8 ws M p d _ _ _ _ _ _ _ _ _ _ _ _ _ S8 (drawn_price d5 hx) fun H9 e9 => ?_)
  have S9 := S8.ex e9
  refine sq (F6 _ H9 ws M p d _ _ _ _ _ _ _ _ _ _ _ _ S9 (drawn_small d5) fun H10 e10 => ?_)
  have S10 := S9.ex e10
  have e610 : Ex H6 H10 := ((e7.trans e8).trans e9).trans e10
  have k10 := k6.ex e610
  have T10 := T6.ext e610
  have n10 : q ≠ kf := n5
  refine sq (F7 _ H10 kf c q ws _ _ _ _ _ _ _ _ _ _ _ _ _ _ k10 (by omega) (e610 _ _ q6) n10 fun x y H11 hx hy ho k11 p11 => ?_)
  have T11 := Tabs.kp k10 p11 T10
  refine sq (F8 _ H11 p ws x y _ _ _ _ _ _ _ _ _ _ _ _ T11 (k10.book p11 S10.bk) (drawn_ws d5) S10.len hx hy ho fun l r1 r2 r3 H12 T12 e12 h0 h1 h2 h3 => ?_)
  refine F9 _ H12 l r1 r2 r3 _ _ _ _ _ _ _ _ _ _ _ _ _ _ h0 h1 h2 h3 fun H13 e13 => ?_
  exact ⟨_, _, _, _, _, _, _, _, _, _, _, _, _, rfl, ((k11.xn e12).ex e13).mono (by rw [Nat.succ_mul]; omega), T12.ext e13⟩
end
end K11
end
section
set_option maxRecDepth 100000
set_option maxHeartbeats 4000000
/-! The end: the call of law from outside, with its own table of code objects, under no guard. -/
namespace K11
open PySem PySem.Spec PyProof.Rows L2 Evl LamX
/-- an empty table of code objects -/
abbrev tab0 : Obj := { cls := .none, data := .fields #[] }
/-- what is tracked at the start: the table, and the script where it is no written part -/
def H00 (a T : Addr) (o : Option HO) : Hp := fun b => if b = T then some (.tbl #[]) else if b = a then o else none
section
variable {P : Program} {w : World} {K : PySem.W.Frag} {mg mb : Str → Option Value} {fa a c T : Addr} {s₁ : Shared} {vs : List Value} {ns : List Int}
/-- the call, from a heap in which but the table and the script may be tracked -/
theorem call_from {H : Hp} (KX : K.In s₁.heap) (hns : s₁.heap.Ns mainGlobals mg) (hb : s₁.heap.Ns builtinsNs mb) (hbb : ∀ x : Str, x ≠ "__name__" → mb x = bootBuiltins x) (hlim : s₁.heap.NoLimit) (hg : s₁.gens = #[])
    (hT : s₁.heap.get? T = some tab0) (nT : K.lookup T = none) (C : PySem.W.CodeHd s₁.heap c T)
    (hbm : ∃ (bm : Addr) (ob : Obj), mg "__builtins__" = some (.ref bm) ∧ bm ≠ builtinsNs ∧ s₁.heap.get? bm = some ob ∧ ob.cls = .type "module" ∧ ob.dict = some builtinsNs ∧ ob.data = .plain)
    (ha : s₁.heap.get? a = some { cls := .type "list", data := .seq vs.toArray }) (hHT : H T = some (.tbl #[])) (hO : ∀ b, b ≠ T → H b = none ∨ (b = a ∧ K.lookup a = none ∧ ∃ o xs, H b = some (.frz o (.lst xs)))) (hok : HOk P w H s₁.heap)
    (F : ∀ base : Heap, K.In base → base.Ns mainGlobals mg → TabB base mg c T → Env0 P w K mg base callerA [] s₁ H → codeAny (model P w) callerA (.call (.ref fa) ⟨[.ref a], []⟩) (CR L2.CX0 [] P w H s₁ (fun v _ => v = .bl true) L2.E0) s₁) :
    codeAny (model P w) callerA (.call (.ref fa) ⟨[.ref a], []⟩) (fun r s' => r = .ok (.ret (.bool true)) ∧ OldK s₁.heap s'.heap ∧ s'.os = s₁.os ∧ AllBare s'.gens) s₁ := by
  -- what is no list and no table is not tracked
  have free : ∀ {b : Addr} {o : Obj}, s₁.heap.get? b = some o → (∀ us n, o.data ≠ .seq us n) → o.data ≠ .fields #[] → H b = none := fun {b o} e n1 n2 => by
    by_cases hbT : b = T
    · rw [hbT, hT] at e
      exact (n2 (by rw [← Option.some.inj e])).elim
    · rcases hO b hbT with z | ⟨z, _⟩
      · exact z
      · rw [z, ha] at e
        exact (n1 vs.toArray _ (by rw [← Option.some.inj e])).elim
  have onB : ∀ {b : Addr} {o : Obj}, s₁.heap.get? b = some o → H b = none → (hidT s₁.heap H).get? b = some o := fun e z => hidT_get e z
  have nsB : ∀ {b : Addr} {m : Str → Option Value}, s₁.heap.Ns b m → (hidT s₁.heap H).Ns b m := fun {b m} z => by
    obtain ⟨o, es, ep, e, d, r⟩ := z
    exact ⟨o, es, ep, onB e (free e (fun us n q => by rw [d] at q; cases q) fun q => by rw [d] at q; cases q), d, r⟩
  have KB : K.In (hidT s₁.heap H) := fun b o e => onB (KX b o e) (by
    by_cases hbT : b = T
    · rw [hbT, nT] at e; cases e
    · rcases hO b hbT with z | ⟨z, z2, _⟩
      · exact z
      · rw [z, z2] at e; cases e)
  have MB : L2.Mod K mg (hidT s₁.heap H) := ⟨KB, nsB hns, ⟨mb, nsB hb, hbb⟩, let ⟨mc, h1, h2⟩ := hlim; ⟨mc, nsB h1, h2⟩⟩
  have gT : mainGlobals ≠ T := fun z => by
    obtain ⟨o, es, ep, e, hd, _⟩ := hns
    rw [z, hT] at e
    cases e
    cases hd
  have TB : TabB (hidT s₁.heap H) mg c T := by
    refine ⟨?_, ?_, gT⟩
    · obtain ⟨o, us, file, tf, flags, tg, inF, text, tt, e1, r1, r2, r3, r⟩ := C
      refine ⟨o, us, file, tf, flags, tg, inF, text, tt, onB e1 (free e1 (fun us n z => by rw [r2] at z; cases z) fun z => ?_), r1, r2, r3, r⟩
      rw [r2] at z
      cases z
      simp at r3
    · obtain ⟨bm, ob, b1, b2, b3, b4, b5, b6⟩ := hbm
      refine ⟨bm, ob, b1, b2, fun q => ?_, fun q => ?_, onB b3 (free b3 (fun us n z => by rw [b6] at z; cases z) fun z => by rw [b6] at z; cases z), b4, b5, b6⟩
      · obtain ⟨o, es, ep, e, hd, _⟩ := hns
        rw [q, e] at b3
        cases b3
        rw [hd] at b6
        cases b6
      · rw [q, hT] at b3
        cases b3
        cases b6
  have e0 : Env0 P w K mg (hidT s₁.heap H) callerA [] s₁ H := ⟨rfl, MB, fun b o e => of_hidT e, Nat.le_of_eq (hidT_size _ _), trivial, fun b hb => absurd (show b ∈ ([] : List Addr) from hb) (by simp), hok, .of_eq hg⟩
  refine codeAny_mono (F _ KB (nsB hns) TB e0) fun r s' h => ?_
  match r, h with
  | .error e, h => exact (show False from h).elim
  | .ok .next, h => exact False.elim h
  | .ok .brk, h => exact False.elim h
  | .ok .cont, h => exact False.elim h
  | .ok (.ret u), h =>
    obtain ⟨v, H', os, bare, un, hok', r', q⟩ := h
    obtain rfl : v = .bl true := q
    obtain rfl : u = Value.bool true := r'
    have key : ∀ b o, b ≠ T → s₁.heap.get? b = some o → s'.heap.get? b = some o := fun b o hbT e => by
      rcases hO b hbT with z | ⟨_, _, ob, xs, z⟩
      · exact un.keep b o e z (fun q => nomatch (show b ∈ ([] : List Addr) from q)) (fun q => nomatch (show b ∈ ([] : List Addr) from q))
      · obtain ⟨e1, _⟩ := hok b _ z
        obtain ⟨e2, _⟩ := hok' b _ (un.frzs b ob _ z)
        rw [e] at e1
        cases e1
        exact e2
    obtain ⟨more, z⟩ := un.tbls T #[] hHT
    have hm : s'.heap.get? T = some { cls := .none, data := .fields (#[] ++ more) } := hok' T _ z
    refine ⟨rfl, ⟨fun b o e => ?_, fun b o e => ?_⟩, os, bare⟩
    · by_cases hbT : b = T
      · rw [hbT] at e ⊢
        rw [hT] at e
        cases e
        exact .inr (.inl ⟨(C.tab hT).isCodeTable, rfl, #[], more, rfl, by rw [hm, Array.empty_append]⟩)
      · exact .inl (key b o hbT e)
    · by_cases hbT : b = T
      · rw [hbT]; exact ⟨_, hm⟩
      · exact ⟨o, key b o hbT e⟩
/-- the call of the law -/
theorem call_law (KX : K.In s₁.heap) (hns : s₁.heap.Ns mainGlobals mg) (hb : s₁.heap.Ns builtinsNs mb) (hbb : ∀ x : Str, x ≠ "__name__" → mb x = bootBuiltins x) (hlim : s₁.heap.NoLimit) (hg : s₁.gens = #[])
    (hT : s₁.heap.get? T = some tab0) (nT : K.lookup T = none) (C : PySem.W.CodeHd s₁.heap c T)
    (hbm : ∃ (bm : Addr) (ob : Obj), mg "__builtins__" = some (.ref bm) ∧ bm ≠ builtinsNs ∧ s₁.heap.get? bm = some ob ∧ ob.cls = .type "module" ∧ ob.dict = some builtinsNs ∧ ob.data = .plain)
    (ha : s₁.heap.get? a = some { cls := .type "list", data := .seq vs.toArray }) (hi : IntsAre vs ns) (hl : ns.length ≤ sizeLine)
    (F : ∀ (base : Heap) (H : Hp), K.In base → base.Ns mainGlobals mg → TabB base mg c T → Env0 P w K mg base callerA [] s₁ H → H T = some (.tbl #[]) → SqL K H a (ns.map V.int) → codeAny (model P w) callerA (.call (.ref fa) ⟨[.ref a], []⟩) (CR L2.CX0 [] P w H s₁ (fun v _ => v = .bl true) L2.E0) s₁) :
    codeAny (model P w) callerA (.call (.ref fa) ⟨[.ref a], []⟩) (fun r s' => r = .ok (.ret (.bool true)) ∧ OldK s₁.heap s'.heap ∧ s'.os = s₁.os ∧ AllBare s'.gens) s₁ := by
  have rv := vals_ints hi
  have aT : a ≠ T := fun z => by
    rw [z, hT] at ha
    have := congrArg Obj.data (Option.some.inj ha)
    cases this
  cases hk : K.lookup a with
  | some o =>
    have e := KX a o hk
    rw [ha] at e
    cases e
    have hHT : H00 a T none T = some (.tbl #[]) := if_pos rfl
    have hn : ∀ b, b ≠ T → H00 a T none b = none := fun b hb => by unfold H00; rw [if_neg hb]; split <;> rfl
    refine call_from (c := c) (T := T) KX hns hb hbb hlim hg hT nT C hbm ha hHT (fun b hb => .inl (hn b hb)) (fun b u z => ?_) fun base h1 h2 h3 h4 => F base _ h1 h2 h3 h4 hHT (.inr ⟨_, vs.toArray, _, hk, rfl, rfl, rfl, by rw [List.size_toArray, hi.length]; exact hl, by simpa using rv⟩)
    by_cases hb : b = T
    · rw [hb, hHT] at z
      cases z
      rw [hb]; exact hT
    · rw [hn b hb] at z; cases z
  | none =>
    have hHT : H00 a T (some (.frz { cls := .type "list", data := .seq vs.toArray } (.lst (ns.map V.int)))) T = some (.tbl #[]) := if_pos rfl
    have hHa : H00 a T (some (.frz { cls := .type "list", data := .seq vs.toArray } (.lst (ns.map V.int)))) a = some (.frz { cls := .type "list", data := .seq vs.toArray } (.lst (ns.map V.int))) := by
      unfold H00; rw [if_neg aT, if_pos rfl]
    have hn : ∀ b, b ≠ T → b ≠ a → H00 a T (some (.frz { cls := .type "list", data := .seq vs.toArray } (.lst (ns.map V.int)))) b = none := fun b h1 h2 => by unfold H00; rw [if_neg h1, if_neg h2]
    refine call_from (c := c) (T := T) KX hns hb hbb hlim hg hT nT C hbm ha hHT (fun b hb => ?_) (fun b u z => ?_) fun base h1 h2 h3 h4 => F base _ h1 h2 h3 h4 hHT (.inl (.inr ⟨_, hHa⟩))
    · by_cases h2 : b = a
      · exact .inr ⟨h2, hk, _, _, by rw [h2]; exact hHa⟩
      · exact .inl (hn b hb h2)
    · by_cases hb : b = T
      · rw [hb, hHT] at z
        cases z
        rw [hb]; exact hT
      · by_cases h2 : b = a
        · rw [h2, hHa] at z
          cases z
          rw [h2]
          exact ⟨ha, by rw [List.length_map]; exact hl, vs, _, rv, ha⟩
        · rw [hn b hb h2] at z; cases z
theorem law_run {base : Heap} {H : Hp} {fdL fdh : FuncData} {cL PL CB CE CN CL CT fh : Addr} (d : Df K mg "law" sLaw fa fdL ["_law_script"]) (hc : fdL.code = .ref cL) (hz : ns.length ≤ 63) (B : Bi mg) (C : LawC P w K mg base CB CE CN) (dh : Df K mg "_law_heard" sHeard fh fdh ["_law_ask"]) (er : ErrT K mg CL CT CE CN)
    (TB : TabB base mg cL PL) (e0 : Env0 P w K mg base callerA [] s₁ H) (hT : H PL = some (.tbl #[])) (hS : SqL K H a (ns.map V.int)) : codeAny (model P w) callerA (.call (.ref fa) ⟨[.ref a], []⟩) (CR L2.CX0 [] P w H s₁ (fun v _ => v = .bl true) L2.E0) s₁ := by
  obtain ⟨oc, od, kV, doc, pm, an, cdv, ct, osl, rfl, lk, hcd⟩ := d.F.ex
  obtain rfl : cdv = .ref cL := hc
  have KX : K.In s₁.heap := e0.mod.kin.keeps fun b o e => (e0.bs b o e).1
  refine LamX.run_ofS (N := NL) (ps := ["_law_script"]) (us := [.ref a]) (vs := [.ref a]) (k := 10) lk hcd scLaw ⟨rfl, by decide, by decide⟩ e0 (d.b s₁ [.ref a] KX rfl) (.cons rfl .nil) rfl fun hr => ?_
  obtain ⟨t, ht, hq⟩ := law_body (P := P) (w := w) (base := base) (f := fa) (outer := []) (s := s₁) (H := H) (vs := [.ref a]) (Q := fun v _ => v = .bl true) hr rfl B C ⟨TB, rfl, dh, er⟩ ⟨a, ns, rfl, hS, hz, (fun p hp => by rw [List.mem_singleton.mp hp]; exact TabS.nil hT), fun _ => rfl⟩
  exact ⟨t, ht.nox, hq⟩
end
/-- all that the top must have left -/
def LeftAll (P : Program) (w : World) (K : PySem.W.Frag) (mg : Str → Option Value) (fa : Addr) : Prop :=
  ∃ (fdL fdh : FuncData) (cL PL CB CE CN CL CT fh : Addr), Df K mg "law" sLaw fa fdL ["_law_script"] ∧ fdL.code = .ref cL ∧ PySem.W.tabIn K "law" = some (cL, PL) ∧ K.lookup PL = none ∧ Bi mg ∧ (∀ base : Heap, LawC P w K mg base CB CE CN) ∧ Df K mg "_law_heard" sHeard fh fdh ["_law_ask"] ∧ ErrT K mg CL CT CE CN
theorem walk_law {l : PySem.W.OpenLaw} {q : Program} {loose : List Str} {XP : (Str → Option Value) → Heap → Prop} {YP : World → Heap → Prop} {d dL : DefRec} {K : Params → PySem.W.Frag} (hn : l.most = some 63) (hdf : d.params.defaults = []) (hrec : (recsOf q).find? (fun e => e.name == ("law" : Str)) = some dL)
    (hY : ∀ (w : World) (h : Heap), YP w h → (K w.params).In h) (F : ∀ (w : World) (mg : Str → Option Value) (fa : Addr) (h : Heap), YP w h → (K w.params).In h → h.Ns mainGlobals mg → mg d.name = some (.ref fa) → LeftAll l.prog w (K w.params) mg fa) :
    PySem.W.WalkO q loose XP YP l.row.toRowW d [] (fun f vs => PySem.call f vs) := by
  refine Att.attach_callB hn hdf fun w s₀ s₁ mg mb fa o pm cd doc a vs ns G Y ho hd hcd hmg hobj hints hlen hbits hg => ?_
  have KX := hY w _ Y
  obtain ⟨fdL, fdh, cL, PL, CB, CE, CN, CL, CT, fh, dl, hc, ht, nP, B, C, dh, er⟩ := F w mg fa _ Y KX G.T.g hmg
  obtain ⟨hC, hP⟩ := PySem.W.tab_of G.T KX hrec ht
  exact call_law KX G.T.g G.T.b G.T.builtins G.T.nolimit hg hP nP hC G.T.bmain hobj hints (Nat.le_trans hlen (by decide)) fun base H h1 h2 h3 h4 h5 h6 => law_run dl hc hlen B (C base) dh er h3 h4 h5 h6
end K11
end
section
set_option maxRecDepth 100000
set_option maxHeartbeats 0
/-! From what the top has left to all that the law's proof asks. Printed by gen_end.py. -/
namespace K11
open PySem PySem.Spec PyProof.Rows L2 Evl LamX
theorem exm_mk {K : PySem.W.Frag} {S D : Addr} (h1 : PySem.W.subIn K (.ref S) (.type "BaseException") = some true) (h2 : PySem.W.isClsIn K S = true) (h3 : PySem.W.typeIn K (.ref S) = some (.type "type")) (h4 : PySem.W.subIn K (.ref D) (.ref S) = some true) : PySem.W.exmOne K (.ref D) (.ref S) = some true := by
  have h2' : (PySem.W.clsIn K S).isSome = true := h2
  show (if (PySem.W.subIn K (.ref S) (.type "BaseException") == some true) = true then (if ((PySem.W.clsIn K S).isSome && PySem.W.typeIn K (.ref S) == some (.type "type")) = true then PySem.W.subIn K (.ref D) (.ref S) else none) else none) = some true
  rw [if_pos (by rw [h1]; rfl), if_pos (by rw [h2', h3]; rfl)]
  exact h4
theorem tab_mk {K : PySem.W.Frag} {x : Str} {f c P : Addr} {e1 e2 : Value} {d1 d2 : Option Addr} {fd : FuncData} {s1 s2 : Array (Option Value)} {vs : Array Value} (h1 : PySem.W.nsIn K mainGlobals x = some (some (.ref f))) (h2 : K.lookup f = some ⟨e1, d1, .func fd, s1⟩) (h3 : fd.code = .ref c) (h4 : K.lookup c = some ⟨e2, d2, .fields vs, s2⟩) (h5 : vs[11]? = some (.ref P)) : PySem.W.tabIn K x = some (c, P) := by
  unfold PySem.W.tabIn
  rw [h1]
  simp only [h2, h3, h4, h5]
theorem isCls_ex {K : PySem.W.Frag} {C : Addr} (h : PySem.W.isClsIn K C = true) : ∃ cd, PySem.W.clsIn K C = some cd := Option.isSome_iff_exists.mp h
/-- keywords alone -/
theorem kb_made {K : PySem.W.Frag} {kV dc pm cd ct : Value} {an : Option Addr} : KBinds K (PySem.W.fnOf "made_words" "made_words" (defArgs sMade) (defBody sMade) (defScope sMade) .none kV dc pm an cd ct) ["book", "many"] ["many", "book"] (fun us ws => us ++ ws.reverse) (fun us ws => us ++ ws.reverse) := by
  refine ⟨fun s us ws _ hl => ?_, fun r1 r2 => r1.append r2.reverse⟩
  match us, ws, hl with
  | [], [_, _], _ => exact .of_eq rfl
  | [_], [_], _ => exact .of_eq rfl
  | [_, _], [], _ => exact .of_eq rfl
  | [], [], hl => simp at hl
  | [], [_], hl => simp at hl
  | [], _ :: _ :: _ :: _, hl => simp at hl
  | [_], [], hl => simp at hl
  | [_], _ :: _ :: _, hl => simp at hl
  | [_, _], _ :: _, hl => simp at hl
  | _ :: _ :: _ :: _, _, hl => first | (simp at hl; done) | (simp at hl; omega)
theorem kb_price {K : PySem.W.Frag} {kV dc pm cd ct : Value} {an : Option Addr} : KBinds K (PySem.W.fnOf "price" "price" (defArgs sPrice) (defBody sPrice) (defScope sPrice) .none kV dc pm an cd ct) ["book"] ["book"] (fun us ws => us ++ ws.reverse) (fun us ws => us ++ ws.reverse) := by
  refine ⟨fun s us ws _ hl => ?_, fun r1 r2 => r1.append r2.reverse⟩
  match us, ws, hl with
  | [], [_], _ => exact .of_eq rfl
  | [_], [], _ => exact .of_eq rfl
  | [], [], hl => simp at hl
  | [], _ :: _ :: _, hl => simp at hl
  | [_], _ :: _, hl => simp at hl
  | _ :: _ :: _, _, hl => first | (simp at hl; done) | (simp at hl; omega)
theorem fun_needb {K : PySem.W.Frag} {f T : Addr} {oc kV doc pm cdv ct : Value} {od an : Option Addr} {osl : Array (Option Value)} {o : Obj} {t : Tok} {n : Nat} (l : K.lookup f = some ⟨oc, od, .func (PySem.W.fnOf "need_book" "need_book" (defArgs sNeedB) (defBody sNeedB) (defScope sNeedB) (.ref T) kV doc pm an cdv ct), osl⟩)
    (c : PySem.W.codeIn K cdv "need_book" = true) (k : PySem.W.keepIn K (.ref f) = true) (lT : K.lookup T = some o) (d : o.data = .seq #[.str "book" t] n) :
    FunD K "need_book" "need_book" (defArgs sNeedB) (defBody sNeedB) (defScope sNeedB) [.str "book"] [] f (PySem.W.fnOf "need_book" "need_book" (defArgs sNeedB) (defBody sNeedB) (defScope sNeedB) (.ref T) kV doc pm an cdv ct) :=
  ⟨⟨oc, od, .ref T, kV, doc, pm, an, cdv, ct, osl, rfl, l, c, .inr ⟨by simp, T, o, [.str "book" t], n, rfl, lT, d, .cons ⟨t, rfl⟩ .nil⟩, .inl rfl⟩, k⟩
theorem binds_needb {K : PySem.W.Frag} {f : Addr} {fd : FuncData} (F : FunD K "need_book" "need_book" (defArgs sNeedB) (defBody sNeedB) (defScope sNeedB) [.str "book"] [] f fd) : ∃ ds, Vals [V.str "book"] ds ∧ Binds K fd ["value", "part"] ds :=
  F.binds1 (ps := ["value", "part"]) 1 0 (by simp) rfl fun T kV doc pm an cdv ct us its h1 h2 => match us, its, h1, h2 with | [_], [_], _, _ => ⟨_, rfl, rfl⟩
theorem left_mk {P : Program} {w : World} {K : PySem.W.Frag} {h : Heap} {mg : Str → Option Value} {fa : Addr} (X : K.In h) (G : h.Ns mainGlobals mg) (hfa : mg "law" = some (.ref fa))
    {CB CC CL CT CE CN : Addr}
    {f_isint : Addr} {oc_isint kV_isint dc_isint pm_isint cd_isint ct_isint : Value} {od_isint an_isint : Option Addr} {sl_isint : Array (Option Value)}
    {f_within : Addr} {oc_within kV_within dc_within pm_within cd_within ct_within : Value} {od_within an_within : Option Addr} {sl_within : Array (Option Value)}
    {f_isword : Addr} {oc_isword kV_isword dc_isword pm_isword cd_isword ct_isword : Value} {od_isword an_isword : Option Addr} {sl_isword : Array (Option Value)}
    {f_needn : Addr} {oc_needn kV_needn dc_needn pm_needn cd_needn ct_needn : Value} {od_needn an_needn : Option Addr} {sl_needn : Array (Option Value)}
    {f_arew : Addr} {oc_arew kV_arew dc_arew pm_arew cd_arew ct_arew : Value} {od_arew an_arew : Option Addr} {sl_arew : Array (Option Value)}
    {f_iscut : Addr} {oc_iscut kV_iscut dc_iscut pm_iscut cd_iscut ct_iscut : Value} {od_iscut an_iscut : Option Addr} {sl_iscut : Array (Option Value)}
    {f_told : Addr} {oc_told kV_told dc_told pm_told cd_told ct_told : Value} {od_told an_told : Option Addr} {sl_told : Array (Option Value)}
    {f_best : Addr} {oc_best kV_best dc_best pm_best cd_best ct_best : Value} {od_best an_best : Option Addr} {sl_best : Array (Option Value)}
    {f_raised : Addr} {oc_raised kV_raised dc_raised pm_raised cd_raised ct_raised : Value} {od_raised an_raised : Option Addr} {sl_raised : Array (Option Value)}
    {f_alone : Addr} {oc_alone kV_alone dc_alone pm_alone cd_alone ct_alone : Value} {od_alone an_alone : Option Addr} {sl_alone : Array (Option Value)}
    {f_side : Addr} {oc_side kV_side dc_side pm_side cd_side ct_side : Value} {od_side an_side : Option Addr} {sl_side : Array (Option Value)}
    {f_bord : Addr} {oc_bord kV_bord dc_bord pm_bord cd_bord ct_bord : Value} {od_bord an_bord : Option Addr} {sl_bord : Array (Option Value)}
    {f_trips : Addr} {oc_trips kV_trips dc_trips pm_trips cd_trips ct_trips : Value} {od_trips an_trips : Option Addr} {sl_trips : Array (Option Value)}
    {f_cheap : Addr} {oc_cheap kV_cheap dc_cheap pm_cheap cd_cheap ct_cheap : Value} {od_cheap an_cheap : Option Addr} {sl_cheap : Array (Option Value)}
    {f_made : Addr} {oc_made kV_made dc_made pm_made cd_made ct_made : Value} {od_made an_made : Option Addr} {sl_made : Array (Option Value)}
    {f_price : Addr} {oc_price kV_price dc_price pm_price cd_price ct_price : Value} {od_price an_price : Option Addr} {sl_price : Array (Option Value)}
    {f_knife : Addr} {oc_knife kV_knife dc_knife pm_knife cd_knife ct_knife : Value} {od_knife an_knife : Option Addr} {sl_knife : Array (Option Value)}
    {f_cut : Addr} {oc_cut kV_cut dc_cut pm_cut cd_cut ct_cut : Value} {od_cut an_cut : Option Addr} {sl_cut : Array (Option Value)}
    {f_one : Addr} {oc_one kV_one dc_one pm_one cd_one ct_one : Value} {od_one an_one : Option Addr} {sl_one : Array (Option Value)}
    {f_word : Addr} {oc_word kV_word dc_word pm_word cd_word ct_word : Value} {od_word an_word : Option Addr} {sl_word : Array (Option Value)}
    {f_words : Addr} {oc_words kV_words dc_words pm_words cd_words ct_words : Value} {od_words an_words : Option Addr} {sl_words : Array (Option Value)}
    {f_heard : Addr} {oc_heard kV_heard dc_heard pm_heard cd_heard ct_heard : Value} {od_heard an_heard : Option Addr} {sl_heard : Array (Option Value)}
    {f_stretch : Addr} {oc_stretch kV_stretch dc_stretch pm_stretch cd_stretch ct_stretch : Value} {od_stretch an_stretch : Option Addr} {sl_stretch : Array (Option Value)}
    {f_tripc : Addr} {oc_tripc kV_tripc dc_tripc pm_tripc cd_tripc ct_tripc : Value} {od_tripc an_tripc : Option Addr} {sl_tripc : Array (Option Value)}
    {f_lcosts : Addr} {oc_lcosts kV_lcosts dc_lcosts pm_lcosts cd_lcosts ct_lcosts : Value} {od_lcosts an_lcosts : Option Addr} {sl_lcosts : Array (Option Value)}
    {f_near : Addr} {oc_near kV_near dc_near pm_near cd_near ct_near : Value} {od_near an_near : Option Addr} {sl_near : Array (Option Value)}
    {f_law : Addr} {oc_law kV_law dc_law pm_law ct_law : Value} {od_law an_law : Option Addr} {sl_law : Array (Option Value)}
    {f_binit : Addr} {oc_binit kV_binit dc_binit pm_binit cd_binit ct_binit : Value} {od_binit an_binit : Option Addr} {sl_binit : Array (Option Value)}
    {f_cinit : Addr} {oc_cinit kV_cinit dc_cinit pm_cinit cd_cinit ct_cinit : Value} {od_cinit an_cinit : Option Addr} {sl_cinit : Array (Option Value)}
    {f_cof : Addr} {oc_cof kV_cof dc_cof pm_cof cd_cof ct_cof : Value} {od_cof an_cof : Option Addr} {sl_cof : Array (Option Value)}
    {f_cover : Addr} {oc_cover kV_cover dc_cover pm_cover cd_cover ct_cover : Value} {od_cover an_cover : Option Addr} {sl_cover : Array (Option Value)}
    {f_ctrip : Addr} {oc_ctrip kV_ctrip dc_ctrip pm_ctrip cd_ctrip ct_ctrip : Value} {od_ctrip an_ctrip : Option Addr} {sl_ctrip : Array (Option Value)}
    {f_nb T_nb : Addr} {oc_nb kV_nb dc_nb pm_nb cd_nb ct_nb : Value} {od_nb an_nb : Option Addr} {sl_nb : Array (Option Value)} {o_nb : Obj} {t_nb : Tok} {n_nb : Nat}
    {f_E cc_E cda_E : Addr} {oc_E dc_E pm_E ct_E ccl_E ccv_E : Value} {od_E an_E cdd_E ccd_E : Option Addr} {sl_E ccs_E cvs_E : Array (Option Value)} {vs_E : Array Value} {fi_E : Str} {tf_E : Tok} {nm_E qn_E : Str} {N_E : Addr} {bs_E bm_E sub_E : List Value} {sn_E : List Str} {ab_E : Bool} {col_E : Option Bool} {dd_E : Option Addr} {m0_E m1_E m2_E m3_E m5_E : Option Value}
    {f_N cc_N cda_N : Addr} {oc_N dc_N pm_N ct_N ccl_N ccv_N : Value} {od_N an_N cdd_N ccd_N : Option Addr} {sl_N ccs_N cvs_N : Array (Option Value)} {vs_N : Array Value} {fi_N : Str} {tf_N : Tok} {nm_N qn_N : Str} {N_N : Addr} {bs_N bm_N sub_N : List Value} {sn_N : List Str} {ab_N : Bool} {col_N : Option Bool} {dd_N : Option Addr} {m0_N m1_N m2_N m3_N m5_N : Option Value}
    {cL PL : Addr} {e_cL : Value} {d_cL : Option Addr} {vs_cL : Array Value} {s_cL : Array (Option Value)}
    {t_blank t_letters t_mostL t_mostW t_mostM : Tok}
    (a_isint : PySem.W.nsIn K mainGlobals "is_integer" = some (some (.ref f_isint)))
    (l_isint : K.lookup f_isint = some ⟨oc_isint, od_isint, .func (PySem.W.fnOf "is_integer" "is_integer" (defArgs sIsInt) (defBody sIsInt) (defScope sIsInt) .none kV_isint dc_isint pm_isint an_isint cd_isint ct_isint), sl_isint⟩)
    (c_isint : PySem.W.codeIn K cd_isint "is_integer" = true)
    (k_isint : PySem.W.keepIn K (.ref f_isint) = true)
    (a_within : PySem.W.nsIn K mainGlobals "is_within" = some (some (.ref f_within)))
    (l_within : K.lookup f_within = some ⟨oc_within, od_within, .func (PySem.W.fnOf "is_within" "is_within" (defArgs sWithin) (defBody sWithin) (defScope sWithin) .none kV_within dc_within pm_within an_within cd_within ct_within), sl_within⟩)
    (c_within : PySem.W.codeIn K cd_within "is_within" = true)
    (k_within : PySem.W.keepIn K (.ref f_within) = true)
    (a_isword : PySem.W.nsIn K mainGlobals "is_word" = some (some (.ref f_isword)))
    (l_isword : K.lookup f_isword = some ⟨oc_isword, od_isword, .func (PySem.W.fnOf "is_word" "is_word" (defArgs sIsWord) (defBody sIsWord) (defScope sIsWord) .none kV_isword dc_isword pm_isword an_isword cd_isword ct_isword), sl_isword⟩)
    (c_isword : PySem.W.codeIn K cd_isword "is_word" = true)
    (k_isword : PySem.W.keepIn K (.ref f_isword) = true)
    (a_needn : PySem.W.nsIn K mainGlobals "need_number" = some (some (.ref f_needn)))
    (l_needn : K.lookup f_needn = some ⟨oc_needn, od_needn, .func (PySem.W.fnOf "need_number" "need_number" (defArgs sNeedN) (defBody sNeedN) (defScope sNeedN) .none kV_needn dc_needn pm_needn an_needn cd_needn ct_needn), sl_needn⟩)
    (c_needn : PySem.W.codeIn K cd_needn "need_number" = true)
    (k_needn : PySem.W.keepIn K (.ref f_needn) = true)
    (a_arew : PySem.W.nsIn K mainGlobals "are_words" = some (some (.ref f_arew)))
    (l_arew : K.lookup f_arew = some ⟨oc_arew, od_arew, .func (PySem.W.fnOf "are_words" "are_words" (defArgs sAreW) (defBody sAreW) (defScope sAreW) .none kV_arew dc_arew pm_arew an_arew cd_arew ct_arew), sl_arew⟩)
    (c_arew : PySem.W.codeIn K cd_arew "are_words" = true)
    (k_arew : PySem.W.keepIn K (.ref f_arew) = true)
    (a_iscut : PySem.W.nsIn K mainGlobals "is_cut" = some (some (.ref f_iscut)))
    (l_iscut : K.lookup f_iscut = some ⟨oc_iscut, od_iscut, .func (PySem.W.fnOf "is_cut" "is_cut" (defArgs sIsCut) (defBody sIsCut) (defScope sIsCut) .none kV_iscut dc_iscut pm_iscut an_iscut cd_iscut ct_iscut), sl_iscut⟩)
    (c_iscut : PySem.W.codeIn K cd_iscut "is_cut" = true)
    (k_iscut : PySem.W.keepIn K (.ref f_iscut) = true)
    (a_told : PySem.W.nsIn K mainGlobals "copies_told" = some (some (.ref f_told)))
    (l_told : K.lookup f_told = some ⟨oc_told, od_told, .func (PySem.W.fnOf "copies_told" "copies_told" (defArgs sTold) (defBody sTold) (defScope sTold) .none kV_told dc_told pm_told an_told cd_told ct_told), sl_told⟩)
    (c_told : PySem.W.codeIn K cd_told "copies_told" = true)
    (k_told : PySem.W.keepIn K (.ref f_told) = true)
    (a_best : PySem.W.nsIn K mainGlobals "best_begins" = some (some (.ref f_best)))
    (l_best : K.lookup f_best = some ⟨oc_best, od_best, .func (PySem.W.fnOf "best_begins" "best_begins" (defArgs sBest) (defBody sBest) (defScope sBest) .none kV_best dc_best pm_best an_best cd_best ct_best), sl_best⟩)
    (c_best : PySem.W.codeIn K cd_best "best_begins" = true)
    (k_best : PySem.W.keepIn K (.ref f_best) = true)
    (a_raised : PySem.W.nsIn K mainGlobals "raised" = some (some (.ref f_raised)))
    (l_raised : K.lookup f_raised = some ⟨oc_raised, od_raised, .func (PySem.W.fnOf "raised" "raised" (defArgs sRaised) (defBody sRaised) (defScope sRaised) .none kV_raised dc_raised pm_raised an_raised cd_raised ct_raised), sl_raised⟩)
    (c_raised : PySem.W.codeIn K cd_raised "raised" = true)
    (k_raised : PySem.W.keepIn K (.ref f_raised) = true)
    (a_alone : PySem.W.nsIn K mainGlobals "alone_cost" = some (some (.ref f_alone)))
    (l_alone : K.lookup f_alone = some ⟨oc_alone, od_alone, .func (PySem.W.fnOf "alone_cost" "alone_cost" (defArgs sAlone) (defBody sAlone) (defScope sAlone) .none kV_alone dc_alone pm_alone an_alone cd_alone ct_alone), sl_alone⟩)
    (c_alone : PySem.W.codeIn K cd_alone "alone_cost" = true)
    (k_alone : PySem.W.keepIn K (.ref f_alone) = true)
    (a_side : PySem.W.nsIn K mainGlobals "side_costs" = some (some (.ref f_side)))
    (l_side : K.lookup f_side = some ⟨oc_side, od_side, .func (PySem.W.fnOf "side_costs" "side_costs" (defArgs sSide) (defBody sSide) (defScope sSide) .none kV_side dc_side pm_side an_side cd_side ct_side), sl_side⟩)
    (c_side : PySem.W.codeIn K cd_side "side_costs" = true)
    (k_side : PySem.W.keepIn K (.ref f_side) = true)
    (a_bord : PySem.W.nsIn K mainGlobals "border_cost" = some (some (.ref f_bord)))
    (l_bord : K.lookup f_bord = some ⟨oc_bord, od_bord, .func (PySem.W.fnOf "border_cost" "border_cost" (defArgs sBord) (defBody sBord) (defScope sBord) .none kV_bord dc_bord pm_bord an_bord cd_bord ct_bord), sl_bord⟩)
    (c_bord : PySem.W.codeIn K cd_bord "border_cost" = true)
    (k_bord : PySem.W.keepIn K (.ref f_bord) = true)
    (a_trips : PySem.W.nsIn K mainGlobals "triples_of" = some (some (.ref f_trips)))
    (l_trips : K.lookup f_trips = some ⟨oc_trips, od_trips, .func (PySem.W.fnOf "triples_of" "triples_of" (defArgs sTrips) (defBody sTrips) (defScope sTrips) .none kV_trips dc_trips pm_trips an_trips cd_trips ct_trips), sl_trips⟩)
    (c_trips : PySem.W.codeIn K cd_trips "triples_of" = true)
    (k_trips : PySem.W.keepIn K (.ref f_trips) = true)
    (a_cheap : PySem.W.nsIn K mainGlobals "cheapest" = some (some (.ref f_cheap)))
    (l_cheap : K.lookup f_cheap = some ⟨oc_cheap, od_cheap, .func (PySem.W.fnOf "cheapest" "cheapest" (defArgs sCheap) (defBody sCheap) (defScope sCheap) .none kV_cheap dc_cheap pm_cheap an_cheap cd_cheap ct_cheap), sl_cheap⟩)
    (c_cheap : PySem.W.codeIn K cd_cheap "cheapest" = true)
    (k_cheap : PySem.W.keepIn K (.ref f_cheap) = true)
    (a_made : PySem.W.nsIn K mainGlobals "made_words" = some (some (.ref f_made)))
    (l_made : K.lookup f_made = some ⟨oc_made, od_made, .func (PySem.W.fnOf "made_words" "made_words" (defArgs sMade) (defBody sMade) (defScope sMade) .none kV_made dc_made pm_made an_made cd_made ct_made), sl_made⟩)
    (c_made : PySem.W.codeIn K cd_made "made_words" = true)
    (k_made : PySem.W.keepIn K (.ref f_made) = true)
    (a_price : PySem.W.nsIn K mainGlobals "price" = some (some (.ref f_price)))
    (l_price : K.lookup f_price = some ⟨oc_price, od_price, .func (PySem.W.fnOf "price" "price" (defArgs sPrice) (defBody sPrice) (defScope sPrice) .none kV_price dc_price pm_price an_price cd_price ct_price), sl_price⟩)
    (c_price : PySem.W.codeIn K cd_price "price" = true)
    (k_price : PySem.W.keepIn K (.ref f_price) = true)
    (a_knife : PySem.W.nsIn K mainGlobals "_law_knife" = some (some (.ref f_knife)))
    (l_knife : K.lookup f_knife = some ⟨oc_knife, od_knife, .func (PySem.W.fnOf "_law_knife" "_law_knife" (defArgs sKnife) (defBody sKnife) (defScope sKnife) .none kV_knife dc_knife pm_knife an_knife cd_knife ct_knife), sl_knife⟩)
    (c_knife : PySem.W.codeIn K cd_knife "_law_knife" = true)
    (k_knife : PySem.W.keepIn K (.ref f_knife) = true)
    (a_cut : PySem.W.nsIn K mainGlobals "_law_cut" = some (some (.ref f_cut)))
    (l_cut : K.lookup f_cut = some ⟨oc_cut, od_cut, .func (PySem.W.fnOf "_law_cut" "_law_cut" (defArgs sCut) (defBody sCut) (defScope sCut) .none kV_cut dc_cut pm_cut an_cut cd_cut ct_cut), sl_cut⟩)
    (c_cut : PySem.W.codeIn K cd_cut "_law_cut" = true)
    (k_cut : PySem.W.keepIn K (.ref f_cut) = true)
    (a_one : PySem.W.nsIn K mainGlobals "_law_one_of" = some (some (.ref f_one)))
    (l_one : K.lookup f_one = some ⟨oc_one, od_one, .func (PySem.W.fnOf "_law_one_of" "_law_one_of" (defArgs sOneOf) (defBody sOneOf) (defScope sOneOf) .none kV_one dc_one pm_one an_one cd_one ct_one), sl_one⟩)
    (c_one : PySem.W.codeIn K cd_one "_law_one_of" = true)
    (k_one : PySem.W.keepIn K (.ref f_one) = true)
    (a_word : PySem.W.nsIn K mainGlobals "_law_word" = some (some (.ref f_word)))
    (l_word : K.lookup f_word = some ⟨oc_word, od_word, .func (PySem.W.fnOf "_law_word" "_law_word" (defArgs sWord) (defBody sWord) (defScope sWord) .none kV_word dc_word pm_word an_word cd_word ct_word), sl_word⟩)
    (c_word : PySem.W.codeIn K cd_word "_law_word" = true)
    (k_word : PySem.W.keepIn K (.ref f_word) = true)
    (a_words : PySem.W.nsIn K mainGlobals "_law_words" = some (some (.ref f_words)))
    (l_words : K.lookup f_words = some ⟨oc_words, od_words, .func (PySem.W.fnOf "_law_words" "_law_words" (defArgs sWords) (defBody sWords) (defScope sWords) .none kV_words dc_words pm_words an_words cd_words ct_words), sl_words⟩)
    (c_words : PySem.W.codeIn K cd_words "_law_words" = true)
    (k_words : PySem.W.keepIn K (.ref f_words) = true)
    (a_heard : PySem.W.nsIn K mainGlobals "_law_heard" = some (some (.ref f_heard)))
    (l_heard : K.lookup f_heard = some ⟨oc_heard, od_heard, .func (PySem.W.fnOf "_law_heard" "_law_heard" (defArgs sHeard) (defBody sHeard) (defScope sHeard) .none kV_heard dc_heard pm_heard an_heard cd_heard ct_heard), sl_heard⟩)
    (c_heard : PySem.W.codeIn K cd_heard "_law_heard" = true)
    (k_heard : PySem.W.keepIn K (.ref f_heard) = true)
    (a_stretch : PySem.W.nsIn K mainGlobals "_law_stretch_costs" = some (some (.ref f_stretch)))
    (l_stretch : K.lookup f_stretch = some ⟨oc_stretch, od_stretch, .func (PySem.W.fnOf "_law_stretch_costs" "_law_stretch_costs" (defArgs sStretch) (defBody sStretch) (defScope sStretch) .none kV_stretch dc_stretch pm_stretch an_stretch cd_stretch ct_stretch), sl_stretch⟩)
    (c_stretch : PySem.W.codeIn K cd_stretch "_law_stretch_costs" = true)
    (k_stretch : PySem.W.keepIn K (.ref f_stretch) = true)
    (a_tripc : PySem.W.nsIn K mainGlobals "_law_triple_cost" = some (some (.ref f_tripc)))
    (l_tripc : K.lookup f_tripc = some ⟨oc_tripc, od_tripc, .func (PySem.W.fnOf "_law_triple_cost" "_law_triple_cost" (defArgs sTripC) (defBody sTripC) (defScope sTripC) .none kV_tripc dc_tripc pm_tripc an_tripc cd_tripc ct_tripc), sl_tripc⟩)
    (c_tripc : PySem.W.codeIn K cd_tripc "_law_triple_cost" = true)
    (k_tripc : PySem.W.keepIn K (.ref f_tripc) = true)
    (a_lcosts : PySem.W.nsIn K mainGlobals "_law_costs" = some (some (.ref f_lcosts)))
    (l_lcosts : K.lookup f_lcosts = some ⟨oc_lcosts, od_lcosts, .func (PySem.W.fnOf "_law_costs" "_law_costs" (defArgs sLCosts) (defBody sLCosts) (defScope sLCosts) .none kV_lcosts dc_lcosts pm_lcosts an_lcosts cd_lcosts ct_lcosts), sl_lcosts⟩)
    (c_lcosts : PySem.W.codeIn K cd_lcosts "_law_costs" = true)
    (k_lcosts : PySem.W.keepIn K (.ref f_lcosts) = true)
    (a_near : PySem.W.nsIn K mainGlobals "_law_near" = some (some (.ref f_near)))
    (l_near : K.lookup f_near = some ⟨oc_near, od_near, .func (PySem.W.fnOf "_law_near" "_law_near" (defArgs sNear) (defBody sNear) (defScope sNear) .none kV_near dc_near pm_near an_near cd_near ct_near), sl_near⟩)
    (c_near : PySem.W.codeIn K cd_near "_law_near" = true)
    (k_near : PySem.W.keepIn K (.ref f_near) = true)
    (a_law : PySem.W.nsIn K mainGlobals "law" = some (some (.ref f_law)))
    (l_law : K.lookup f_law = some ⟨oc_law, od_law, .func (PySem.W.fnOf "law" "law" (defArgs sLaw) (defBody sLaw) (defScope sLaw) .none kV_law dc_law pm_law an_law (.ref cL) ct_law), sl_law⟩)
    (c_law : PySem.W.codeIn K (.ref cL) "law" = true)
    (k_law : PySem.W.keepIn K (.ref f_law) = true)
    (m_B : PySem.W.nsIn K mainGlobals "Book" = some (some (.ref CB)))
    (m_C : PySem.W.nsIn K mainGlobals "Costs" = some (some (.ref CC)))
    (m_L : PySem.W.nsIn K mainGlobals "LetterError" = some (some (.ref CL)))
    (m_T : PySem.W.nsIn K mainGlobals "TooMany" = some (some (.ref CT)))
    (m_E : PySem.W.nsIn K mainGlobals "BadBook" = some (some (.ref CE)))
    (m_N : PySem.W.nsIn K mainGlobals "BadNumber" = some (some (.ref CN)))
    (a_binit : PySem.W.findIn K (.ref CB) "__init__" = some (some (.ref f_binit)))
    (i_binit : PySem.W.isFn K (.ref f_binit) = true)
    (l_binit : K.lookup f_binit = some ⟨oc_binit, od_binit, .func (PySem.W.fnOf "__init__" "Book.__init__" (defArgs sBInit) (defBody sBInit) (defScope sBInit) .none kV_binit dc_binit pm_binit an_binit cd_binit ct_binit), sl_binit⟩)
    (c_binit : PySem.W.codeIn K cd_binit "Book.__init__" = true)
    (k_binit : PySem.W.keepIn K (.ref f_binit) = true)
    (a_cinit : PySem.W.findIn K (.ref CC) "__init__" = some (some (.ref f_cinit)))
    (i_cinit : PySem.W.isFn K (.ref f_cinit) = true)
    (l_cinit : K.lookup f_cinit = some ⟨oc_cinit, od_cinit, .func (PySem.W.fnOf "__init__" "Costs.__init__" (defArgs sCInit) (defBody sCInit) (defScope sCInit) .none kV_cinit dc_cinit pm_cinit an_cinit cd_cinit ct_cinit), sl_cinit⟩)
    (c_cinit : PySem.W.codeIn K cd_cinit "Costs.__init__" = true)
    (k_cinit : PySem.W.keepIn K (.ref f_cinit) = true)
    (a_cof : PySem.W.findIn K (.ref CC) "of" = some (some (.ref f_cof)))
    (i_cof : PySem.W.isFn K (.ref f_cof) = true)
    (l_cof : K.lookup f_cof = some ⟨oc_cof, od_cof, .func (PySem.W.fnOf "of" "Costs.of" (defArgs sCOf) (defBody sCOf) (defScope sCOf) .none kV_cof dc_cof pm_cof an_cof cd_cof ct_cof), sl_cof⟩)
    (c_cof : PySem.W.codeIn K cd_cof "Costs.of" = true)
    (k_cof : PySem.W.keepIn K (.ref f_cof) = true)
    (a_cover : PySem.W.findIn K (.ref CC) "over" = some (some (.ref f_cover)))
    (i_cover : PySem.W.isFn K (.ref f_cover) = true)
    (l_cover : K.lookup f_cover = some ⟨oc_cover, od_cover, .func (PySem.W.fnOf "over" "Costs.over" (defArgs sCOver) (defBody sCOver) (defScope sCOver) .none kV_cover dc_cover pm_cover an_cover cd_cover ct_cover), sl_cover⟩)
    (c_cover : PySem.W.codeIn K cd_cover "Costs.over" = true)
    (k_cover : PySem.W.keepIn K (.ref f_cover) = true)
    (a_ctrip : PySem.W.findIn K (.ref CC) "triple" = some (some (.ref f_ctrip)))
    (i_ctrip : PySem.W.isFn K (.ref f_ctrip) = true)
    (l_ctrip : K.lookup f_ctrip = some ⟨oc_ctrip, od_ctrip, .func (PySem.W.fnOf "triple" "Costs.triple" (defArgs sCTrip) (defBody sCTrip) (defScope sCTrip) .none kV_ctrip dc_ctrip pm_ctrip an_ctrip cd_ctrip ct_ctrip), sl_ctrip⟩)
    (c_ctrip : PySem.W.codeIn K cd_ctrip "Costs.triple" = true)
    (k_ctrip : PySem.W.keepIn K (.ref f_ctrip) = true)
    (pg_B : PySem.W.plainGet K CB Str.empty = true)
    (hd_B : PySem.W.hasDictIn K CB = true)
    (po_B : PySem.W.plainOver K CB = true)
    (sa_B : PySem.W.findIn K (.ref CB) "__setattr__" = some (some (.builtin "object.__setattr__")))
    (mk_B : PySem.W.makesIn K CB = true)
    (kc_B : PySem.W.keepIn K (.ref CB) = true)
    (pg_C : PySem.W.plainGet K CC Str.empty = true)
    (hd_C : PySem.W.hasDictIn K CC = true)
    (po_C : PySem.W.plainOver K CC = true)
    (sa_C : PySem.W.findIn K (.ref CC) "__setattr__" = some (some (.builtin "object.__setattr__")))
    (mk_C : PySem.W.makesIn K CC = true)
    (kc_C : PySem.W.keepIn K (.ref CC) = true)
    (nW_B : PySem.W.findIn K (.ref CB) "words" = some none)
    (nW_C : PySem.W.findIn K (.ref CC) "words" = some none)
    (nA_C : PySem.W.findIn K (.ref CC) "alone" = some none)
    (nH_C : PySem.W.findIn K (.ref CC) "ahead" = some none)
    (nB_C : PySem.W.findIn K (.ref CC) "behind" = some none)
    (ha_B : PySem.W.findIn K (.ref CB) "__class__" = some (some (.builtin "object.__class__")))
    (oc_g : PySem.W.specialIn K (.builtin "object.__class__") "__get__" = some (some (.builtin "getset_descriptor.__get__")))
    (oc_t : PySem.W.takesIn K (.builtin "object.__class__") = some true)
    (hm_B : PySem.W.mroIn K CB (.type "object") = some true)
    (k1_B : PySem.W.kitOne K (.ref CB) (.ref CB) = some true)
    (kN_B : PySem.W.kitOne K (.type "NoneType") (.ref CB) = some false)
    (kL_B : PySem.W.kitOne K (.type "list") (.ref CB) = some false)
    (kS_B : PySem.W.kitOne K (.type "str") (.ref CB) = some false)
    (kI_B : PySem.W.kitOne K (.type "int") (.ref CB) = some false)
    (a_nb : PySem.W.nsIn K mainGlobals "need_book" = some (some (.ref f_nb)))
    (l_nb : K.lookup f_nb = some ⟨oc_nb, od_nb, .func (PySem.W.fnOf "need_book" "need_book" (defArgs sNeedB) (defBody sNeedB) (defScope sNeedB) (.ref T_nb) kV_nb dc_nb pm_nb an_nb cd_nb ct_nb), sl_nb⟩)
    (c_nb : PySem.W.codeIn K cd_nb "need_book" = true)
    (k_nb : PySem.W.keepIn K (.ref f_nb) = true)
    (t_nb2 : K.lookup T_nb = some o_nb)
    (d_nb : o_nb.data = .seq #[.str "book" t_nb] n_nb)
    (a_E : PySem.W.findIn K (.ref CE) "__init__" = some (some (.ref f_E)))
    (t_E : PySem.W.typeIn K (.ref f_E) = some (.type "function"))
    (l_E : K.lookup f_E = some ⟨oc_E, od_E, .func (PySem.W.fnX "__init__" "BadBook.__init__" (defArgs sBook0) (defBody sBook0) (defScope sBook0) [("__class__", cc_E)] .none .none dc_E pm_E an_E (.ref cda_E) ct_E), sl_E⟩)
    (c_E : PySem.W.codeIn K (.ref cda_E) "BadBook.__init__" = true)
    (o_E : K.lookup cda_E = some ⟨ccl_E, cdd_E, .fields vs_E, ccs_E⟩)
    (v_E : vs_E[2]? = some (.str fi_E tf_E))
    (e_E : ((P.main.file : Str) == fi_E) = true)
    (w_E : K.lookup cc_E = some ⟨ccv_E, ccd_E, .cell (some (.ref CE)), cvs_E⟩)
    (y_E : PySem.W.isClsIn K CE = true)
    (s_E : PySem.W.mroIn K CE (.ref CE) = some true)
    (u_E : PySem.W.ks_superIn K CE CE "__init__" = some (some (.builtin "ValueError.__init__")))
    (ve_E : PySem.W.subIn K (.ref CE) (.type "ValueError") = some true)
    (x_E : K.lookup CE = some (excClassObj nm_E qn_E CE N_E bs_E bm_E true sn_E sub_E ab_E col_E dd_E m0_E m1_E m2_E m3_E m5_E "ValueError.__new__"))
    (r_E : PySem.HandSPX.refsVE bm_E = true)
    (sa_E : PySem.W.findIn K (.ref CE) "__setattr__" = some (some (.builtin "object.__setattr__")))
    (xe_E : PySem.W.subIn K (.ref CE) (.type "BaseException") = some true)
    (ty_E : PySem.W.typeIn K (.ref CE) = some (.type "type"))
    (kc_E : PySem.W.keepIn K (.ref CE) = true)
    (np_E : PySem.W.findIn K (.ref CE) "part" = some none)
    (ga_E : PySem.W.findIn K (.ref CE) "__getattribute__" = some (some (.builtin "BaseException.__getattribute__")))
    (gg_E : PySem.W.findIn K (.ref CE) "__getattr__" = some none)
    (hd_E : PySem.W.hasDictIn K CE = true)
    (ha_E : PySem.W.findIn K (.ref CE) "__class__" = some (some (.builtin "object.__class__")))
    (hm_E : PySem.W.mroIn K CE (.type "object") = some true)
    (sL_E : PySem.W.subIn K (.ref CE) (.ref CL) = some true)
    (qT_E : PySem.W.kitOne K (.ref CE) (.ref CT) = some false)
    (qE_E : PySem.W.kitOne K (.ref CE) (.ref CE) = some true)
    (qN_E : PySem.W.kitOne K (.ref CE) (.ref CN) = some false)
    (a_N : PySem.W.findIn K (.ref CN) "__init__" = some (some (.ref f_N)))
    (t_N : PySem.W.typeIn K (.ref f_N) = some (.type "function"))
    (l_N : K.lookup f_N = some ⟨oc_N, od_N, .func (PySem.W.fnX "__init__" "BadNumber.__init__" (defArgs sNumber) (defBody sNumber) (defScope sNumber) [("__class__", cc_N)] .none .none dc_N pm_N an_N (.ref cda_N) ct_N), sl_N⟩)
    (c_N : PySem.W.codeIn K (.ref cda_N) "BadNumber.__init__" = true)
    (o_N : K.lookup cda_N = some ⟨ccl_N, cdd_N, .fields vs_N, ccs_N⟩)
    (v_N : vs_N[2]? = some (.str fi_N tf_N))
    (e_N : ((P.main.file : Str) == fi_N) = true)
    (w_N : K.lookup cc_N = some ⟨ccv_N, ccd_N, .cell (some (.ref CN)), cvs_N⟩)
    (y_N : PySem.W.isClsIn K CN = true)
    (s_N : PySem.W.mroIn K CN (.ref CN) = some true)
    (u_N : PySem.W.ks_superIn K CN CN "__init__" = some (some (.builtin "ValueError.__init__")))
    (ve_N : PySem.W.subIn K (.ref CN) (.type "ValueError") = some true)
    (x_N : K.lookup CN = some (excClassObj nm_N qn_N CN N_N bs_N bm_N true sn_N sub_N ab_N col_N dd_N m0_N m1_N m2_N m3_N m5_N "ValueError.__new__"))
    (r_N : PySem.HandSPX.refsVE bm_N = true)
    (sa_N : PySem.W.findIn K (.ref CN) "__setattr__" = some (some (.builtin "object.__setattr__")))
    (xe_N : PySem.W.subIn K (.ref CN) (.type "BaseException") = some true)
    (ty_N : PySem.W.typeIn K (.ref CN) = some (.type "type"))
    (kc_N : PySem.W.keepIn K (.ref CN) = true)
    (np_N : PySem.W.findIn K (.ref CN) "part" = some none)
    (ga_N : PySem.W.findIn K (.ref CN) "__getattribute__" = some (some (.builtin "BaseException.__getattribute__")))
    (gg_N : PySem.W.findIn K (.ref CN) "__getattr__" = some none)
    (hd_N : PySem.W.hasDictIn K CN = true)
    (ha_N : PySem.W.findIn K (.ref CN) "__class__" = some (some (.builtin "object.__class__")))
    (hm_N : PySem.W.mroIn K CN (.type "object") = some true)
    (sL_N : PySem.W.subIn K (.ref CN) (.ref CL) = some true)
    (qT_N : PySem.W.kitOne K (.ref CN) (.ref CT) = some false)
    (qE_N : PySem.W.kitOne K (.ref CN) (.ref CE) = some false)
    (qN_N : PySem.W.kitOne K (.ref CN) (.ref CN) = some true)
    (z_super : PySem.W.nsIn K mainGlobals "super" = some none)
    (z_top : (P.main.scope.names.lookup ("super" : Str)).isSome = false)
    (z_opq : PySem.W.nsIn K cStatics "thirdparty.any" = some none)
    (xb_L : PySem.W.subIn K (.ref CL) (.type "BaseException") = some true)
    (y_L : PySem.W.isClsIn K CL = true)
    (ty_L : PySem.W.typeIn K (.ref CL) = some (.type "type"))
    (o_cL : K.lookup cL = some ⟨e_cL, d_cL, .fields vs_cL, s_cL⟩)
    (v_cL : vs_cL[11]? = some (.ref PL))
    (n_PL : K.lookup PL = none)
    (b_len : PySem.W.nsIn K mainGlobals "len" = some none)
    (b_int : PySem.W.nsIn K mainGlobals "int" = some none)
    (b_min : PySem.W.nsIn K mainGlobals "min" = some none)
    (b_max : PySem.W.nsIn K mainGlobals "max" = some none)
    (b_range : PySem.W.nsIn K mainGlobals "range" = some none)
    (b_list : PySem.W.nsIn K mainGlobals "list" = some none)
    (b_tuple : PySem.W.nsIn K mainGlobals "tuple" = some none)
    (b_set : PySem.W.nsIn K mainGlobals "set" = some none)
    (b_str : PySem.W.nsIn K mainGlobals "str" = some none)
    (b_bool : PySem.W.nsIn K mainGlobals "bool" = some none)
    (b_all : PySem.W.nsIn K mainGlobals "all" = some none)
    (b_abs : PySem.W.nsIn K mainGlobals "abs" = some none)
    (b_enumerate : PySem.W.nsIn K mainGlobals "enumerate" = some none)
    (b_sorted : PySem.W.nsIn K mainGlobals "sorted" = some none)
    (b_repr : PySem.W.nsIn K mainGlobals "repr" = some none)
    (b_isinstance : PySem.W.nsIn K mainGlobals "isinstance" = some none)
    (b_blank : PySem.W.nsIn K mainGlobals "BLANK" = some (some (.str " " t_blank)))
    (b_letters : PySem.W.nsIn K mainGlobals "LETTERS" = some (some (.str "abcdefghijklmnopqrstuvwxyz" t_letters)))
    (b_mostL : PySem.W.nsIn K mainGlobals "MOST_LETTERS" = some (some (.int 12 t_mostL)))
    (b_mostW : PySem.W.nsIn K mainGlobals "MOST_WORDS" = some (some (.int 40 t_mostW)))
    (b_mostM : PySem.W.nsIn K mainGlobals "MOST_MADE" = some (some (.int 4 t_mostM)))
    : LeftAll P w K mg fa := by
  have e := hfa.symm.trans (PySem.W.mg_of X G a_law)
  cases e
  have B : Bi mg := ⟨PySem.W.mg_none_of X G b_len, PySem.W.mg_none_of X G b_int, PySem.W.mg_none_of X G b_min, PySem.W.mg_none_of X G b_max, PySem.W.mg_none_of X G b_range, PySem.W.mg_none_of X G b_list, PySem.W.mg_none_of X G b_tuple, PySem.W.mg_none_of X G b_set, PySem.W.mg_none_of X G b_str, PySem.W.mg_none_of X G b_bool, PySem.W.mg_none_of X G b_all, PySem.W.mg_none_of X G b_abs, PySem.W.mg_none_of X G b_enumerate, PySem.W.mg_none_of X G b_sorted, PySem.W.mg_none_of X G b_repr, PySem.W.mg_none_of X G b_isinstance, ⟨_, PySem.W.mg_of X G b_blank⟩, ⟨_, PySem.W.mg_of X G b_letters⟩, ⟨_, PySem.W.mg_of X G b_mostL⟩, ⟨_, PySem.W.mg_of X G b_mostW⟩, ⟨_, PySem.W.mg_of X G b_mostM⟩⟩
  have d_isint : Df K mg "is_integer" sIsInt f_isint _ ["value"] := ⟨fun_mk (st := sIsInt) l_isint c_isint k_isint, (fun_mk (st := sIsInt) l_isint c_isint k_isint).binds (ps := ["value"]) fun _ _ _ _ _ _ us hl => match us, hl with | [_], _ => rfl, PySem.W.mg_of X G a_isint⟩
  have d_within : Df K mg "is_within" sWithin f_within _ ["value", "least", "most"] := ⟨fun_mk (st := sWithin) l_within c_within k_within, (fun_mk (st := sWithin) l_within c_within k_within).binds (ps := ["value", "least", "most"]) fun _ _ _ _ _ _ us hl => match us, hl with | [_, _, _], _ => rfl, PySem.W.mg_of X G a_within⟩
  have d_isword : Df K mg "is_word" sIsWord f_isword _ ["value"] := ⟨fun_mk (st := sIsWord) l_isword c_isword k_isword, (fun_mk (st := sIsWord) l_isword c_isword k_isword).binds (ps := ["value"]) fun _ _ _ _ _ _ us hl => match us, hl with | [_], _ => rfl, PySem.W.mg_of X G a_isword⟩
  have d_needn : Df K mg "need_number" sNeedN f_needn _ ["value", "part", "least", "most"] := ⟨fun_mk (st := sNeedN) l_needn c_needn k_needn, (fun_mk (st := sNeedN) l_needn c_needn k_needn).binds (ps := ["value", "part", "least", "most"]) fun _ _ _ _ _ _ us hl => match us, hl with | [_, _, _, _], _ => rfl, PySem.W.mg_of X G a_needn⟩
  have d_arew : Df K mg "are_words" sAreW f_arew _ ["value", "most"] := ⟨fun_mk (st := sAreW) l_arew c_arew k_arew, (fun_mk (st := sAreW) l_arew c_arew k_arew).binds (ps := ["value", "most"]) fun _ _ _ _ _ _ us hl => match us, hl with | [_, _], _ => rfl, PySem.W.mg_of X G a_arew⟩
  have d_iscut : Df K mg "is_cut" sIsCut f_iscut _ ["text", "at"] := ⟨fun_mk (st := sIsCut) l_iscut c_iscut k_iscut, (fun_mk (st := sIsCut) l_iscut c_iscut k_iscut).binds (ps := ["text", "at"]) fun _ _ _ _ _ _ us hl => match us, hl with | [_, _], _ => rfl, PySem.W.mg_of X G a_iscut⟩
  have d_told : Df K mg "copies_told" sTold f_told _ ["word", "other"] := ⟨fun_mk (st := sTold) l_told c_told k_told, (fun_mk (st := sTold) l_told c_told k_told).binds (ps := ["word", "other"]) fun _ _ _ _ _ _ us hl => match us, hl with | [_, _], _ => rfl, PySem.W.mg_of X G a_told⟩
  have d_best : Df K mg "best_begins" sBest f_best _ ["text", "word", "last"] := ⟨fun_mk (st := sBest) l_best c_best k_best, (fun_mk (st := sBest) l_best c_best k_best).binds (ps := ["text", "word", "last"]) fun _ _ _ _ _ _ us hl => match us, hl with | [_, _, _], _ => rfl, PySem.W.mg_of X G a_best⟩
  have d_raised : Df K mg "raised" sRaised f_raised _ ["pair", "more"] := ⟨fun_mk (st := sRaised) l_raised c_raised k_raised, (fun_mk (st := sRaised) l_raised c_raised k_raised).binds (ps := ["pair", "more"]) fun _ _ _ _ _ _ us hl => match us, hl with | [_, _], _ => rfl, PySem.W.mg_of X G a_raised⟩
  have d_alone : Df K mg "alone_cost" sAlone f_alone _ ["mine", "word"] := ⟨fun_mk (st := sAlone) l_alone c_alone k_alone, (fun_mk (st := sAlone) l_alone c_alone k_alone).binds (ps := ["mine", "word"]) fun _ _ _ _ _ _ us hl => match us, hl with | [_, _], _ => rfl, PySem.W.mg_of X G a_alone⟩
  have d_side : Df K mg "side_costs" sSide f_side _ ["mine", "word"] := ⟨fun_mk (st := sSide) l_side c_side k_side, (fun_mk (st := sSide) l_side c_side k_side).binds (ps := ["mine", "word"]) fun _ _ _ _ _ _ us hl => match us, hl with | [_, _], _ => rfl, PySem.W.mg_of X G a_side⟩
  have d_bord : Df K mg "border_cost" sBord f_bord _ ["ahead", "behind"] := ⟨fun_mk (st := sBord) l_bord c_bord k_bord, (fun_mk (st := sBord) l_bord c_bord k_bord).binds (ps := ["ahead", "behind"]) fun _ _ _ _ _ _ us hl => match us, hl with | [_, _], _ => rfl, PySem.W.mg_of X G a_bord⟩
  have d_trips : Df K mg "triples_of" sTrips f_trips _ ["many"] := ⟨fun_mk (st := sTrips) l_trips c_trips k_trips, (fun_mk (st := sTrips) l_trips c_trips k_trips).binds (ps := ["many"]) fun _ _ _ _ _ _ us hl => match us, hl with | [_], _ => rfl, PySem.W.mg_of X G a_trips⟩
  have d_cheap : Df K mg "cheapest" sCheap f_cheap _ ["words"] := ⟨fun_mk (st := sCheap) l_cheap c_cheap k_cheap, (fun_mk (st := sCheap) l_cheap c_cheap k_cheap).binds (ps := ["words"]) fun _ _ _ _ _ _ us hl => match us, hl with | [_], _ => rfl, PySem.W.mg_of X G a_cheap⟩
  have d_made : Df K mg "made_words" sMade f_made _ ["book", "many"] := ⟨fun_mk (st := sMade) l_made c_made k_made, (fun_mk (st := sMade) l_made c_made k_made).binds (ps := ["book", "many"]) fun _ _ _ _ _ _ us hl => match us, hl with | [_, _], _ => rfl, PySem.W.mg_of X G a_made⟩
  have d_price : Df K mg "price" sPrice f_price _ ["book"] := ⟨fun_mk (st := sPrice) l_price c_price k_price, (fun_mk (st := sPrice) l_price c_price k_price).binds (ps := ["book"]) fun _ _ _ _ _ _ us hl => match us, hl with | [_], _ => rfl, PySem.W.mg_of X G a_price⟩
  have d_knife : Df K mg "_law_knife" sKnife f_knife _ ["_law_script"] := ⟨fun_mk (st := sKnife) l_knife c_knife k_knife, (fun_mk (st := sKnife) l_knife c_knife k_knife).binds (ps := ["_law_script"]) fun _ _ _ _ _ _ us hl => match us, hl with | [_], _ => rfl, PySem.W.mg_of X G a_knife⟩
  have d_cut : Df K mg "_law_cut" sCut f_cut _ ["_law_knife_here", "_law_many"] := ⟨fun_mk (st := sCut) l_cut c_cut k_cut, (fun_mk (st := sCut) l_cut c_cut k_cut).binds (ps := ["_law_knife_here", "_law_many"]) fun _ _ _ _ _ _ us hl => match us, hl with | [_, _], _ => rfl, PySem.W.mg_of X G a_cut⟩
  have d_one : Df K mg "_law_one_of" sOneOf f_one _ ["_law_knife_here", "_law_some"] := ⟨fun_mk (st := sOneOf) l_one c_one k_one, (fun_mk (st := sOneOf) l_one c_one k_one).binds (ps := ["_law_knife_here", "_law_some"]) fun _ _ _ _ _ _ us hl => match us, hl with | [_, _], _ => rfl, PySem.W.mg_of X G a_one⟩
  have d_word : Df K mg "_law_word" sWord f_word _ ["_law_knife_here", "_law_most", "_law_letters"] := ⟨fun_mk (st := sWord) l_word c_word k_word, (fun_mk (st := sWord) l_word c_word k_word).binds (ps := ["_law_knife_here", "_law_most", "_law_letters"]) fun _ _ _ _ _ _ us hl => match us, hl with | [_, _, _], _ => rfl, PySem.W.mg_of X G a_word⟩
  have d_words : Df K mg "_law_words" sWords f_words _ ["_law_knife_here", "_law_many", "_law_most", "_law_letters"] := ⟨fun_mk (st := sWords) l_words c_words k_words, (fun_mk (st := sWords) l_words c_words k_words).binds (ps := ["_law_knife_here", "_law_many", "_law_most", "_law_letters"]) fun _ _ _ _ _ _ us hl => match us, hl with | [_, _, _, _], _ => rfl, PySem.W.mg_of X G a_words⟩
  have d_heard : Df K mg "_law_heard" sHeard f_heard _ ["_law_ask"] := ⟨fun_mk (st := sHeard) l_heard c_heard k_heard, (fun_mk (st := sHeard) l_heard c_heard k_heard).binds (ps := ["_law_ask"]) fun _ _ _ _ _ _ us hl => match us, hl with | [_], _ => rfl, PySem.W.mg_of X G a_heard⟩
  have d_stretch : Df K mg "_law_stretch_costs" sStretch f_stretch _ ["_law_text", "_law_word_here", "_law_most", "_law_begin"] := ⟨fun_mk (st := sStretch) l_stretch c_stretch k_stretch, (fun_mk (st := sStretch) l_stretch c_stretch k_stretch).binds (ps := ["_law_text", "_law_word_here", "_law_most", "_law_begin"]) fun _ _ _ _ _ _ us hl => match us, hl with | [_, _, _, _], _ => rfl, PySem.W.mg_of X G a_stretch⟩
  have d_tripc : Df K mg "_law_triple_cost" sTripC f_tripc _ ["_law_first", "_law_second", "_law_word_here", "_law_most"] := ⟨fun_mk (st := sTripC) l_tripc c_tripc k_tripc, (fun_mk (st := sTripC) l_tripc c_tripc k_tripc).binds (ps := ["_law_first", "_law_second", "_law_word_here", "_law_most"]) fun _ _ _ _ _ _ us hl => match us, hl with | [_, _, _, _], _ => rfl, PySem.W.mg_of X G a_tripc⟩
  have d_lcosts : Df K mg "_law_costs" sLCosts f_lcosts _ ["_law_words_here", "_law_most"] := ⟨fun_mk (st := sLCosts) l_lcosts c_lcosts k_lcosts, (fun_mk (st := sLCosts) l_lcosts c_lcosts k_lcosts).binds (ps := ["_law_words_here", "_law_most"]) fun _ _ _ _ _ _ us hl => match us, hl with | [_, _], _ => rfl, PySem.W.mg_of X G a_lcosts⟩
  have d_near : Df K mg "_law_near" sNear f_near _ ["_law_knife_here", "_law_words_here"] := ⟨fun_mk (st := sNear) l_near c_near k_near, (fun_mk (st := sNear) l_near c_near k_near).binds (ps := ["_law_knife_here", "_law_words_here"]) fun _ _ _ _ _ _ us hl => match us, hl with | [_, _], _ => rfl, PySem.W.mg_of X G a_near⟩
  have d_law : Df K mg "law" sLaw fa _ ["_law_script"] := ⟨fun_mk (st := sLaw) l_law c_law k_law, (fun_mk (st := sLaw) l_law c_law k_law).binds (ps := ["_law_script"]) fun _ _ _ _ _ _ us hl => match us, hl with | [_], _ => rfl, PySem.W.mg_of X G a_law⟩
  have F_binit : Fun K "__init__" "Book.__init__" sBInit f_binit _ := fun_mk (st := sBInit) l_binit c_binit k_binit
  have y_binit := F_binit.binds (ps := ["self", "words"]) fun _ _ _ _ _ _ us hl => match us, hl with | [_, _], _ => rfl
  have F_cinit : Fun K "__init__" "Costs.__init__" sCInit f_cinit _ := fun_mk (st := sCInit) l_cinit c_cinit k_cinit
  have y_cinit := F_cinit.binds (ps := ["self", "words"]) fun _ _ _ _ _ _ us hl => match us, hl with | [_, _], _ => rfl
  have F_cof : Fun K "of" "Costs.of" sCOf f_cof _ := fun_mk (st := sCOf) l_cof c_cof k_cof
  have y_cof := F_cof.binds (ps := ["self", "mine", "word"]) fun _ _ _ _ _ _ us hl => match us, hl with | [_, _, _], _ => rfl
  have F_cover : Fun K "over" "Costs.over" sCOver f_cover _ := fun_mk (st := sCOver) l_cover c_cover k_cover
  have y_cover := F_cover.binds (ps := ["self", "first", "second", "word"]) fun _ _ _ _ _ _ us hl => match us, hl with | [_, _, _, _], _ => rfl
  have F_ctrip : Fun K "triple" "Costs.triple" sCTrip f_ctrip _ := fun_mk (st := sCTrip) l_ctrip c_ctrip k_ctrip
  have y_ctrip := F_ctrip.binds (ps := ["self", "first", "second", "word"]) fun _ _ _ _ _ _ us hl => match us, hl with | [_, _, _, _], _ => rfl
  have cl_B : Cls K CB := ⟨pg_B, hd_B, po_B, sa_B⟩
  have cl_C : Cls K CC := ⟨pg_C, hd_C, po_C, sa_C⟩
  have TC : TxC K CC := ⟨cl_C, nW_C, nA_C, nH_C, nB_C⟩
  have A7 := DfA.mk d_iscut d_raised d_told d_best d_alone d_side d_bord
  have Z : CoT K mg CC f_cinit f_cof f_cover f_ctrip _ _ _ _ := ⟨PySem.W.mg_of X G m_C, TC, ⟨mk_C, a_cinit, i_cinit, kc_C⟩, F_cinit, y_cinit, F_cof, y_cof, ⟨a_cof, i_cof, k_cof⟩, F_cover, y_cover, ⟨a_cover, i_cover, k_cover⟩, F_ctrip, y_ctrip, ⟨a_ctrip, i_ctrip, k_ctrip⟩⟩
  have TB : BkT K mg CB := ⟨PySem.W.mg_of X G m_B, cl_B, nW_B, ha_B, oc_g, oc_t, hm_B, k1_B, kN_B, kL_B, kS_B, kI_B⟩
  have D_E : EIn P K CE f_E cc_E cda_E "BadBook.__init__" sBook0 _ := ⟨⟨_, _, _, _, _, _, _, rfl, l_E⟩, c_E, ⟨_, _, _, _, _, _, o_E, v_E, e_E⟩, ⟨_, _, _, w_E⟩, isCls_ex y_E, s_E, z_super, z_top, z_opq, u_E, ve_E, ⟨⟨_, _, _, _, _, _, _, _, _, _, _, _, _, _, _, x_E, r_E⟩, sa_E, xe_E, ty_E, kc_E⟩, np_E⟩
  have R_E : Rse P K mg "BadBook" "BadBook.__init__" sBook0 CE f_E cc_E cda_E _ := ⟨D_E, a_E, t_E, .all fun us hl => match us, hl with | [_, _], _ => rfl, PySem.W.mg_of X G m_E⟩
  have X_E : ExcC K CE := ⟨ga_E, gg_E, xe_E, hd_E, ha_E, oc_g, oc_t, hm_E⟩
  have Y_E : XfC K CE := ⟨ga_E, gg_E, xe_E, hd_E⟩
  have D_N : EIn P K CN f_N cc_N cda_N "BadNumber.__init__" sNumber _ := ⟨⟨_, _, _, _, _, _, _, rfl, l_N⟩, c_N, ⟨_, _, _, _, _, _, o_N, v_N, e_N⟩, ⟨_, _, _, w_N⟩, isCls_ex y_N, s_N, z_super, z_top, z_opq, u_N, ve_N, ⟨⟨_, _, _, _, _, _, _, _, _, _, _, _, _, _, _, x_N, r_N⟩, sa_N, xe_N, ty_N, kc_N⟩, np_N⟩
  have R_N : Rse P K mg "BadNumber" "BadNumber.__init__" sNumber CN f_N cc_N cda_N _ := ⟨D_N, a_N, t_N, .all fun us hl => match us, hl with | [_, _], _ => rfl, PySem.W.mg_of X G m_N⟩
  have X_N : ExcC K CN := ⟨ga_N, gg_N, xe_N, hd_N, ha_N, oc_g, oc_t, hm_N⟩
  have Y_N : XfC K CN := ⟨ga_N, gg_N, xe_N, hd_N⟩
  have FD := fun_needb l_nb c_nb k_nb t_nb2 d_nb
  obtain ⟨ds, vd, bd⟩ := binds_needb FD
  have NB : NbT P K mg f_nb CB CE f_E cc_E cda_E _ _ ds := ⟨⟨_, _, FD⟩, k_nb, TB, R_E, PySem.W.mg_of X G a_nb, bd, vd⟩
  have NN : NnT P K mg f_needn f_isint f_within CN f_N cc_N cda_N _ _ _ _ := ⟨d_needn, d_isint, d_within, R_N⟩
  have er : ErrT K mg CL CT CE CN := ⟨PySem.W.mg_of X G m_L, PySem.W.mg_of X G m_T, PySem.W.mg_of X G m_E, PySem.W.mg_of X G m_N, exm_mk xb_L y_L ty_L sL_E, exm_mk xb_L y_L ty_L sL_N, X_E, X_N, Y_E, Y_N, np_E, np_N, qT_E, qE_E, qN_E, qT_N, qE_N, qN_N⟩
  have lc : ∀ base : Heap, LawC P w K mg base CB CE CN := fun base => by
    have GM : FnOk P w K mg base (L2.CX P w) 8 f_made _ ["book", "many"] (spMade K CB CE CN) := ok_made d_made d_trips B A7 Z NB NN
    have GP : FnOk P w K mg base (L2.CX P w) 8 f_price _ ["book"] (spPrice K CB CE) := ok_price d_price d_cheap d_trips B A7 Z NB
    have G1 : FnOk P w K mg base L2.CX0 1 f_knife _ _ (spKnife K) := ok_knife d_knife B
    have G2 : FnOk P w K mg base L2.CX0 3 f_words _ _ spWords := ok_words d_words d_cut d_word B
    have G3 : FnOk P w K mg base L2.CX0 2 f_one _ _ (spOne K) := ok_one d_one d_cut B
    have G4 : FnOk P w K mg base L2.CX0 3 f_near _ _ (spNear K) := ok_near d_near d_cut d_one B
    have G5 : FnOk P w K mg base L2.CX0 1 f_cut _ _ spCut := ok_cut d_cut B
    have G6 : FnOk P w K mg base L2.CX0 3 f_binit _ _ (spBInit K CB) := ok_binit F_binit cl_B nW_B d_isword d_arew B
    have G7 : FnOk P w K mg base L2.CX0 3 f_lcosts _ _ (spLCosts K) := ok_lcosts d_lcosts d_stretch d_tripc B
    exact ⟨d_knife.cf G1, d_words.cf G2, d_one.cf G3, d_near.cf G4, d_cut.cf G5, ⟨TB.m, _, _, ⟨mk_B, a_binit, i_binit, kc_B⟩, G6, y_binit⟩, d_lcosts.cf G7, d_made.cf GM, ⟨_, _, GM, d_made.m, d_made.F.kp, kb_made⟩, d_price.cf GP, ⟨_, _, GP, d_price.m, d_price.F.kp, kb_price⟩⟩
  exact ⟨_, _, cL, PL, CB, CE, CN, CL, CT, f_heard, d_law, rfl, tab_mk a_law l_law rfl o_cL v_cL, n_PL, B, lc, d_heard, er⟩
end K11
end
section
open PySem PySem.W PyProof.Rows K11
set_option maxRecDepth 100000 in
set_option maxHeartbeats 0 in
theorem PySem.Challenge.cw_anyletter_k11_whole_made_words_by_all_st_holds : PySem.Challenge.rw_anyletter_k11_whole_made_words_by_all_st.Holds := by
  refine hd ?_
  k_fill
  refine walk_law (l := PySem.Challenge.rw_anyletter_k11_whole_made_words_by_all_st) rfl rfl (by first | rfl | kernel_rfl) (fun w h Y => PySem.W.km_in_of Y) ?F
  case F =>
    intro w mg fa h Y KX G hmg
    refine' left_mk KX G hmg ?a_isint ?l_isint ?c_isint ?k_isint ?a_within ?l_within ?c_within ?k_within ?a_isword ?l_isword ?c_isword ?k_isword ?a_needn ?l_needn ?c_needn ?k_needn ?a_arew ?l_arew ?c_arew ?k_arew ?a_iscut ?l_iscut ?c_iscut ?k_iscut ?a_told ?l_told ?c_told ?k_told ?a_best ?l_best ?c_best ?k_best ?a_raised ?l_raised ?c_raised ?k_raised ?a_alone ?l_alone ?c_alone ?k_alone ?a_side ?l_side ?c_side ?k_side ?a_bord ?l_bord ?c_bord ?k_bord ?a_trips ?l_trips ?c_trips ?k_trips ?a_cheap ?l_cheap ?c_cheap ?k_cheap ?a_made ?l_made ?c_made ?k_made ?a_price ?l_price ?c_price ?k_price ?a_knife ?l_knife ?c_knife ?k_knife ?a_cut ?l_cut ?c_cut ?k_cut ?a_one ?l_one ?c_one ?k_one ?a_word ?l_word ?c_word ?k_word ?a_words ?l_words ?c_words ?k_words ?a_heard ?l_heard ?c_heard ?k_heard ?a_stretch ?l_stretch ?c_stretch ?k_stretch ?a_tripc ?l_tripc ?c_tripc ?k_tripc ?a_lcosts ?l_lcosts ?c_lcosts ?k_lcosts ?a_near ?l_near ?c_near ?k_near ?a_law ?l_law ?c_law ?k_law ?m_B ?m_C ?m_L ?m_T ?m_E ?m_N ?a_binit ?i_binit ?l_binit ?c_binit ?k_binit ?a_cinit ?i_cinit ?l_cinit ?c_cinit ?k_cinit ?a_cof ?i_cof ?l_cof ?c_cof ?k_cof ?a_cover ?i_cover ?l_cover ?c_cover ?k_cover ?a_ctrip ?i_ctrip ?l_ctrip ?c_ctrip ?k_ctrip ?pg_B ?hd_B ?po_B ?sa_B ?mk_B ?kc_B ?pg_C ?hd_C ?po_C ?sa_C ?mk_C ?kc_C ?nW_B ?nW_C ?nA_C ?nH_C ?nB_C ?ha_B ?oc_g ?oc_t ?hm_B ?k1_B ?kN_B ?kL_B ?kS_B ?kI_B ?a_nb ?l_nb ?c_nb ?k_nb ?t_nb2 ?d_nb ?a_E ?t_E ?l_E ?c_E ?o_E ?v_E ?e_E ?w_E ?y_E ?s_E ?u_E ?ve_E ?x_E ?r_E ?sa_E ?xe_E ?ty_E ?kc_E ?np_E ?ga_E ?gg_E ?hd_E ?ha_E ?hm_E ?sL_E ?qT_E ?qE_E ?qN_E ?a_N ?t_N ?l_N ?c_N ?o_N ?v_N ?e_N ?w_N ?y_N ?s_N ?u_N ?ve_N ?x_N ?r_N ?sa_N ?xe_N ?ty_N ?kc_N ?np_N ?ga_N ?gg_N ?hd_N ?ha_N ?hm_N ?sL_N ?qT_N ?qE_N ?qN_N ?z_super ?z_top ?z_opq ?xb_L ?y_L ?ty_L ?o_cL ?v_cL ?n_PL ?b_len ?b_int ?b_min ?b_max ?b_range ?b_list ?b_tuple ?b_set ?b_str ?b_bool ?b_all ?b_abs ?b_enumerate ?b_sorted ?b_repr ?b_isinstance ?b_blank ?b_letters ?b_mostL ?b_mostW ?b_mostM
    (case a_isint => k_is)
    (case l_isint => k_is)
    (case c_isint => k_is)
    (case k_isint => k_is)
    (case a_within => k_is)
    (case l_within => k_is)
    (case c_within => k_is)
    (case k_within => k_is)
    (case a_isword => k_is)
    (case l_isword => k_is)
    (case c_isword => k_is)
    (case k_isword => k_is)
    (case a_needn => k_is)
    (case l_needn => k_is)
    (case c_needn => k_is)
    (case k_needn => k_is)
    (case a_arew => k_is)
    (case l_arew => k_is)
    (case c_arew => k_is)
    (case k_arew => k_is)
    (case a_iscut => k_is)
    (case l_iscut => k_is)
    (case c_iscut => k_is)
    (case k_iscut => k_is)
    (case a_told => k_is)
    (case l_told => k_is)
    (case c_told => k_is)
    (case k_told => k_is)
    (case a_best => k_is)
    (case l_best => k_is)
    (case c_best => k_is)
    (case k_best => k_is)
    (case a_raised => k_is)
    (case l_raised => k_is)
    (case c_raised => k_is)
    (case k_raised => k_is)
    (case a_alone => k_is)
    (case l_alone => k_is)
    (case c_alone => k_is)
    (case k_alone => k_is)
    (case a_side => k_is)
    (case l_side => k_is)
    (case c_side => k_is)
    (case k_side => k_is)
    (case a_bord => k_is)
    (case l_bord => k_is)
    (case c_bord => k_is)
    (case k_bord => k_is)
    (case a_trips => k_is)
    (case l_trips => k_is)
    (case c_trips => k_is)
    (case k_trips => k_is)
    (case a_cheap => k_is)
    (case l_cheap => k_is)
    (case c_cheap => k_is)
    (case k_cheap => k_is)
    (case a_made => k_is)
    (case l_made => k_is)
    (case c_made => k_is)
    (case k_made => k_is)
    (case a_price => k_is)
    (case l_price => k_is)
    (case c_price => k_is)
    (case k_price => k_is)
    (case a_knife => k_is)
    (case l_knife => k_is)
    (case c_knife => k_is)
    (case k_knife => k_is)
    (case a_cut => k_is)
    (case l_cut => k_is)
    (case c_cut => k_is)
    (case k_cut => k_is)
    (case a_one => k_is)
    (case l_one => k_is)
    (case c_one => k_is)
    (case k_one => k_is)
    (case a_word => k_is)
    (case l_word => k_is)
    (case c_word => k_is)
    (case k_word => k_is)
    (case a_words => k_is)
    (case l_words => k_is)
    (case c_words => k_is)
    (case k_words => k_is)
    (case a_heard => k_is)
    (case l_heard => k_is)
    (case c_heard => k_is)
    (case k_heard => k_is)
    (case a_stretch => k_is)
    (case l_stretch => k_is)
    (case c_stretch => k_is)
    (case k_stretch => k_is)
    (case a_tripc => k_is)
    (case l_tripc => k_is)
    (case c_tripc => k_is)
    (case k_tripc => k_is)
    (case a_lcosts => k_is)
    (case l_lcosts => k_is)
    (case c_lcosts => k_is)
    (case k_lcosts => k_is)
    (case a_near => k_is)
    (case l_near => k_is)
    (case c_near => k_is)
    (case k_near => k_is)
    (case a_law => k_is)
    (case l_law => k_is)
    (case c_law => k_is)
    (case k_law => k_is)
    (case m_B => k_is)
    (case m_C => k_is)
    (case m_L => k_is)
    (case m_T => k_is)
    (case m_E => k_is)
    (case m_N => k_is)
    (case a_binit => k_is)
    (case i_binit => k_is)
    (case l_binit => k_is)
    (case c_binit => k_is)
    (case k_binit => k_is)
    (case a_cinit => k_is)
    (case i_cinit => k_is)
    (case l_cinit => k_is)
    (case c_cinit => k_is)
    (case k_cinit => k_is)
    (case a_cof => k_is)
    (case i_cof => k_is)
    (case l_cof => k_is)
    (case c_cof => k_is)
    (case k_cof => k_is)
    (case a_cover => k_is)
    (case i_cover => k_is)
    (case l_cover => k_is)
    (case c_cover => k_is)
    (case k_cover => k_is)
    (case a_ctrip => k_is)
    (case i_ctrip => k_is)
    (case l_ctrip => k_is)
    (case c_ctrip => k_is)
    (case k_ctrip => k_is)
    (case pg_B => k_is)
    (case hd_B => k_is)
    (case po_B => k_is)
    (case sa_B => k_is)
    (case mk_B => k_is)
    (case kc_B => k_is)
    (case pg_C => k_is)
    (case hd_C => k_is)
    (case po_C => k_is)
    (case sa_C => k_is)
    (case mk_C => k_is)
    (case kc_C => k_is)
    (case nW_B => k_is)
    (case nW_C => k_is)
    (case nA_C => k_is)
    (case nH_C => k_is)
    (case nB_C => k_is)
    (case ha_B => k_is)
    (case oc_g => k_is)
    (case oc_t => k_is)
    (case hm_B => k_is)
    (case k1_B => kit_is)
    (case kN_B => kit_is)
    (case kL_B => kit_is)
    (case kS_B => kit_is)
    (case kI_B => kit_is)
    (case a_nb => k_is)
    (case l_nb => k_is)
    (case c_nb => k_is)
    (case k_nb => k_is)
    (case t_nb2 => k_is)
    (case d_nb => rfl)
    (case a_E => k_is)
    (case t_E => k_is)
    (case l_E => k_is)
    (case c_E => k_is)
    (case o_E => k_is)
    (case v_E => rfl)
    (case e_E => rfl)
    (case w_E => k_is)
    (case y_E => k_is)
    (case s_E => k_is)
    (case u_E => ks_is)
    (case ve_E => k_is)
    (case x_E => k_is)
    (case r_E => first | rfl | decide +kernel)
    (case sa_E => k_is)
    (case xe_E => k_is)
    (case ty_E => k_is)
    (case kc_E => k_is)
    (case np_E => k_is)
    (case ga_E => k_is)
    (case gg_E => k_is)
    (case hd_E => k_is)
    (case ha_E => k_is)
    (case hm_E => k_is)
    (case sL_E => k_is)
    (case qT_E => kit_is)
    (case qE_E => kit_is)
    (case qN_E => kit_is)
    (case a_N => k_is)
    (case t_N => k_is)
    (case l_N => k_is)
    (case c_N => k_is)
    (case o_N => k_is)
    (case v_N => rfl)
    (case e_N => rfl)
    (case w_N => k_is)
    (case y_N => k_is)
    (case s_N => k_is)
    (case u_N => ks_is)
    (case ve_N => k_is)
    (case x_N => k_is)
    (case r_N => first | rfl | decide +kernel)
    (case sa_N => k_is)
    (case xe_N => k_is)
    (case ty_N => k_is)
    (case kc_N => k_is)
    (case np_N => k_is)
    (case ga_N => k_is)
    (case gg_N => k_is)
    (case hd_N => k_is)
    (case ha_N => k_is)
    (case hm_N => k_is)
    (case sL_N => k_is)
    (case qT_N => kit_is)
    (case qE_N => kit_is)
    (case qN_N => kit_is)
    (case z_super => k_is)
    (case z_top => first | rfl | decide +kernel)
    (case z_opq => k_is)
    (case xb_L => k_is)
    (case y_L => k_is)
    (case ty_L => k_is)
    (case o_cL => k_is)
    (case v_cL => rfl)
    (case n_PL => first | rfl | kernel_rfl)
    (case b_len => k_is)
    (case b_int => k_is)
    (case b_min => k_is)
    (case b_max => k_is)
    (case b_range => k_is)
    (case b_list => k_is)
    (case b_tuple => k_is)
    (case b_set => k_is)
    (case b_str => k_is)
    (case b_bool => k_is)
    (case b_all => k_is)
    (case b_abs => k_is)
    (case b_enumerate => k_is)
    (case b_sorted => k_is)
    (case b_repr => k_is)
    (case b_isinstance => k_is)
    (case b_blank => k_is)
    (case b_letters => k_is)
    (case b_mostL => k_is)
    (case b_mostW => k_is)
    (case b_mostM => k_is)
end
