import PyProof.Rows.All
import Wide.All
import OpenK.AllK
import Wide.FinOn
import HandS.ForMost
import HandS.Walk
import HandS.IsInst
import HandS.Codes
import PyProof.ListStr
import KE.KOpsOwn
import KE.KDictKeyed
import HandS.DictTup
import KE.SortData
import KE.KDictSum
import KE.KDictCopyH
import HandS.Star
import HandS.TupLe
import HandS.MakeKw
import HandS.Lambda
import HandS.IterVal
import HandS.SortKw
import KE.DataMinKey
import HandS.EndTab
import PySem.Challenge.RW_gluedlines_k35_whole_faces_of_a_choice
set_option Elab.async false
set_option linter.all false
set_option maxRecDepth 100000
set_option maxHeartbeats 4000000
namespace K35
/-! ### lines and their order -/
abbrev Line := List Nat
/-- strict order of lists of codes, sign by sign -/
def lex : List Nat → List Nat → Bool
  | [], [] => false
  | [], _ :: _ => true
  | _ :: _, [] => false
  | a :: as, b :: bs => if a = b then lex as bs else decide (a < b)
theorem lex_irrefl : ∀ a : List Nat, lex a a = false
  | [] => rfl
  | a :: as => by rw [lex, if_pos rfl]; exact lex_irrefl as
theorem lex_trans : ∀ {a b c : List Nat}, lex a b = true → lex b c = true → lex a c = true
  | [], [], _, h, _ => by cases h
  | [], _ :: _, [], _, h => by cases h
  | [], _ :: _, _ :: _, _, _ => rfl
  | _ :: _, [], _, h, _ => by cases h
  | _ :: _, _ :: _, [], _, h => by cases h
  | a :: as, b :: bs, c :: cs, h1, h2 => by
    rw [lex] at h1 h2 ⊢
    by_cases e1 : a = b
    · subst e1
      rw [if_pos rfl] at h1
      by_cases e2 : a = c
      · subst e2
        rw [if_pos rfl] at h2 ⊢
        exact lex_trans h1 h2
      · rw [if_neg e2] at h2 ⊢
        exact h2
    · rw [if_neg e1] at h1
      have l1 := of_decide_eq_true h1
      by_cases e2 : b = c
      · subst e2
        rw [if_neg e1]
        exact h1
      · rw [if_neg e2] at h2
        have l2 := of_decide_eq_true h2
        rw [if_neg (by omega)]
        exact decide_eq_true (by omega)
theorem lex_tri : ∀ a b : List Nat, lex a b = true ∨ a = b ∨ lex b a = true
  | [], [] => .inr (.inl rfl)
  | [], _ :: _ => .inl rfl
  | _ :: _, [] => .inr (.inr rfl)
  | a :: as, b :: bs => by
    by_cases e : a = b
    · subst e
      rcases lex_tri as bs with h | h | h
      · exact .inl (by rw [lex, if_pos rfl]; exact h)
      · exact .inr (.inl (by rw [h]))
      · exact .inr (.inr (by rw [lex, if_pos rfl]; exact h))
    · by_cases l : a < b
      · exact .inl (by rw [lex, if_neg e]; exact decide_eq_true l)
      · exact .inr (.inr (by rw [lex, if_neg (Ne.symm e)]; exact decide_eq_true (by omega)))
theorem lex_snoc : ∀ {a b : List Nat} (x y : Nat), a.length = b.length → lex a b = true → lex (a ++ [x]) (b ++ [y]) = true
  | [], [], _, _, _, h => by cases h
  | [], _ :: _, _, _, h, _ => by simp at h
  | _ :: _, [], _, _, h, _ => by simp at h
  | a :: as, b :: bs, x, y, hl, h => by
    show lex (a :: (as ++ [x])) (b :: (bs ++ [y])) = true
    rw [lex] at h ⊢
    by_cases e : a = b
    · subst e
      rw [if_pos rfl] at h ⊢
      exact lex_snoc x y (by simpa using hl) h
    · rw [if_neg e] at h ⊢
      exact h
theorem lex_last : ∀ (a : List Nat) {x y : Nat}, x < y → lex (a ++ [x]) (a ++ [y]) = true
  | [], x, y, h => by
    show lex [x] [y] = true
    rw [lex, if_neg (by omega)]
    exact decide_eq_true h
  | a :: as, x, y, h => by
    show lex (a :: (as ++ [x])) (a :: (as ++ [y])) = true
    rw [lex, if_pos rfl]
    exact lex_last as h
/-- fewer signs, or as many and less -/
def less (a b : Line) : Prop := a.length < b.length ∨ (a.length = b.length ∧ lex a b = true)
def lessB (a b : Line) : Bool := decide (a.length < b.length) || (decide (a.length = b.length) && lex a b)
theorem lessB_iff {a b : Line} : lessB a b = true ↔ less a b := by
  unfold lessB less
  simp
instance (a b : Line) : Decidable (less a b) := decidable_of_iff _ lessB_iff
def le (a b : Line) : Prop := a = b ∨ less a b
theorem less_irrefl (a : Line) : ¬ less a a := by
  rintro (h | ⟨_, h⟩)
  · omega
  · rw [lex_irrefl] at h; cases h
theorem less_trans {a b c : Line} (h1 : less a b) (h2 : less b c) : less a c := by
  rcases h1 with h1 | ⟨e1, h1⟩
  · rcases h2 with h2 | ⟨e2, h2⟩
    · exact .inl (by omega)
    · exact .inl (by omega)
  · rcases h2 with h2 | ⟨e2, h2⟩
    · exact .inl (by omega)
    · exact .inr ⟨by omega, lex_trans h1 h2⟩
theorem less_tri (a b : Line) : less a b ∨ a = b ∨ less b a := by
  by_cases l1 : a.length < b.length
  · exact .inl (.inl l1)
  · by_cases l2 : b.length < a.length
    · exact .inr (.inr (.inl l2))
    · rcases lex_tri a b with h | h | h
      · exact .inl (.inr ⟨by omega, h⟩)
      · exact .inr (.inl h)
      · exact .inr (.inr (.inr ⟨by omega, h⟩))
theorem le_refl (a : Line) : le a a := .inl rfl
theorem le_trans {a b c : Line} (h1 : le a b) (h2 : le b c) : le a c := by
  rcases h1 with rfl | h1
  · exact h2
  · rcases h2 with rfl | h2
    · exact .inr h1
    · exact .inr (less_trans h1 h2)
theorem le_antisymm {a b : Line} (h1 : le a b) (h2 : le b a) : a = b := by
  rcases h1 with h1 | h1
  · exact h1
  · rcases h2 with h2 | h2
    · exact h2.symm
    · exact absurd (less_trans h1 h2) (less_irrefl a)
theorem not_less {a b : Line} : ¬ less a b ↔ le b a := by
  constructor
  · intro h
    rcases less_tri a b with q | q | q
    · exact absurd q h
    · exact .inl q.symm
    · exact .inr q
  · rintro (rfl | h) q
    · exact less_irrefl _ q
    · exact less_irrefl _ (less_trans h q)
theorem le_total (a b : Line) : le a b ∨ le b a := by
  rcases less_tri a b with q | q | q
  · exact .inl (.inr q)
  · exact .inl (.inl q)
  · exact .inr (.inr q)
theorem less_snoc {a b : Line} (x y : Nat) (h : less a b) : less (a ++ [x]) (b ++ [y]) := by
  rcases h with h | ⟨e, h⟩
  · exact .inl (by simpa using h)
  · exact .inr ⟨by simpa using e, lex_snoc x y e h⟩
theorem less_last (a : Line) {x y : Nat} (h : x < y) : less (a ++ [x]) (a ++ [y]) := .inr ⟨by simp, lex_last a h⟩
theorem le_snoc {a b : Line} (x : Nat) (h : le a b) : le (a ++ [x]) (b ++ [x]) := by
  rcases h with rfl | h
  · exact .inl rfl
  · exact .inr (less_snoc x x h)
theorem less_grow (a : Line) (x : Nat) : less a (a ++ [x]) := .inl (by simp)
theorem nil_less {a : Line} (h : a ≠ []) : less [] a := .inl (by cases a <;> simp_all)
/-- place by place not greater -/
theorem le_map (f : Nat → Nat) : ∀ w : Line, (∀ c ∈ w, f c ≤ c) → lex (w.map f) w = true ∨ w.map f = w
  | [], _ => .inr rfl
  | c :: w, h => by
    have h1 := h c List.mem_cons_self
    rw [List.map_cons]
    by_cases e : f c = c
    · rcases le_map f w fun d hd => h d (List.mem_cons_of_mem _ hd) with q | q
      · exact .inl (by rw [lex, if_pos e]; exact q)
      · exact .inr (by rw [q, e])
    · exact .inl (by rw [lex, if_neg e]; exact decide_eq_true (by omega))
theorem map_le (f : Nat → Nat) (w : Line) (h : ∀ c ∈ w, f c ≤ c) : le (w.map f) w := by
  rcases le_map f w h with q | q
  · exact .inr (.inr ⟨by simp, q⟩)
  · exact .inl q
/-! ### the search, breadth first -/
section
variable {T : Type} [DecidableEq T]
/-- one sign more behind an entry -/
def addOne (step : T → Nat → T) (line : Line) (st : T) (found : List (Line × T)) (c : Nat) : List (Line × T) :=
  if step st c ∈ found.tail.map (·.2) then found else found ++ [(line ++ [c], step st c)]
/-- entries below at_ are followed by every sign, the entry at at_ by the first k -/
structure Bfs (S : List Nat) (step : T → Nat → T) (start : T) (found : List (Line × T)) (at_ k : Nat) : Prop where
  head : ∃ tl, found = ([], start) :: tl
  run : ∀ e ∈ found, e.2 = e.1.foldl step start
  over : ∀ e ∈ found, ∀ c ∈ e.1, c ∈ S
  full : ∀ e ∈ found.tail, e.1 ≠ []
  sorted : found.Pairwise fun a b => less a.1 b.1
  nodup : (found.tail.map (·.2)).Nodup
  came : ∀ e ∈ found.tail, ∃ (i j : Nat) (p : Line × T) (c : Nat), found[i]? = some p ∧ S[j]? = some c ∧ e.1 = p.1 ++ [c] ∧ (i < at_ ∨ (i = at_ ∧ j < k))
  done : ∀ (i j : Nat) (p : Line × T) (c : Nat), (i < at_ ∨ (i = at_ ∧ j < k)) → found[i]? = some p → S[j]? = some c → ∃ e ∈ found.tail, e.2 = step p.2 c ∧ le e.1 (p.1 ++ [c])
variable {S : List Nat} {step : T → Nat → T} {start : T}
theorem Bfs.init : Bfs S step start [([], start)] 0 0 where
  head := ⟨[], rfl⟩
  run := fun e h => by simp at h; subst h; rfl
  over := fun e h c hc => by simp at h; subst h; simp at hc
  full := fun e h => by simp at h
  sorted := by simp
  nodup := by simp
  came := fun e h => by simp at h
  done := fun i j p c h => by omega
theorem Bfs.grown {found : List (Line × T)} {at_ k : Nat} (B : Bfs S step start found at_ k) (hS : S.Pairwise (· < ·)) {p : Line × T} {c : Nat} (hp : found[at_]? = some p) (hc : S[k]? = some c) :
    ∀ e ∈ found, less e.1 (p.1 ++ [c]) := by
  intro e he
  obtain ⟨tl, ht⟩ := B.head
  have hpm : p ∈ found := List.mem_of_getElem? hp
  rw [ht] at he
  rcases List.mem_cons.mp he with rfl | he
  · exact nil_less (by simp)
  · obtain ⟨i, j, q, d, h1, h2, h3, h4⟩ := B.came e (by rw [ht]; exact he)
    rw [h3]
    rcases h4 with h4 | ⟨h4, h5⟩
    · have : less q.1 p.1 := by
        obtain ⟨l1, e1⟩ := List.getElem?_eq_some_iff.mp h1
        obtain ⟨l2, e2⟩ := List.getElem?_eq_some_iff.mp hp
        have := (List.pairwise_iff_getElem.mp B.sorted) i at_ l1 l2 h4
        rw [e1, e2] at this
        exact this
      exact less_snoc _ _ this
    · subst h4
      rw [h1] at hp
      cases hp
      obtain ⟨l1, e1⟩ := List.getElem?_eq_some_iff.mp h2
      obtain ⟨l2, e2⟩ := List.getElem?_eq_some_iff.mp hc
      have := (List.pairwise_iff_getElem.mp hS) j k l1 l2 h5
      rw [e1, e2] at this
      exact less_last _ this
theorem Bfs.one {found : List (Line × T)} {at_ k : Nat} (B : Bfs S step start found at_ k) (hS : S.Pairwise (· < ·)) {p : Line × T} {c : Nat} (hp : found[at_]? = some p) (hc : S[k]? = some c) :
    Bfs S step start (addOne step p.1 p.2 found c) at_ (k + 1) := by
  have hg := B.grown hS hp hc
  obtain ⟨tl, ht⟩ := B.head
  have hpm : p ∈ found := List.mem_of_getElem? hp
  have wk : ∀ {i j : Nat}, (i < at_ ∨ (i = at_ ∧ j < k)) → (i < at_ ∨ (i = at_ ∧ j < k + 1)) := fun h => by omega
  unfold addOne
  by_cases hm : step p.2 c ∈ found.tail.map (·.2)
  · rw [if_pos hm]
    refine ⟨B.head, B.run, B.over, B.full, B.sorted, B.nodup, fun e he => ?_, fun i j q d h h1 h2 => ?_⟩
    · obtain ⟨i, j, q, d, h1, h2, h3, h4⟩ := B.came e he
      exact ⟨i, j, q, d, h1, h2, h3, wk h4⟩
    · by_cases hk : i < at_ ∨ (i = at_ ∧ j < k)
      · exact B.done i j q d hk h1 h2
      · obtain ⟨rfl, rfl⟩ : i = at_ ∧ j = k := by omega
        rw [hp] at h1; cases h1
        rw [hc] at h2; cases h2
        obtain ⟨e, he, e2⟩ := List.mem_map.mp hm
        refine ⟨e, he, e2, .inr (hg e ?_)⟩
        rw [ht] at he ⊢
        exact List.mem_cons_of_mem _ he
  · rw [if_neg hm]
    have ta : (found ++ [(p.1 ++ [c], step p.2 c)]).tail = found.tail ++ [(p.1 ++ [c], step p.2 c)] := by rw [ht]; rfl
    refine ⟨⟨tl ++ [(p.1 ++ [c], step p.2 c)], by rw [ht]; rfl⟩, fun e he => ?_, fun e he d hd => ?_, fun e he => ?_, ?_, ?_, fun e he => ?_, fun i j q d h h1 h2 => ?_⟩
    · rcases List.mem_append.mp he with he | he
      · exact B.run e he
      · simp at he; subst he
        show step p.2 c = (p.1 ++ [c]).foldl step start
        rw [List.foldl_append, ← B.run p hpm]; rfl
    · rcases List.mem_append.mp he with he | he
      · exact B.over e he d hd
      · simp at he; subst he
        rcases List.mem_append.mp hd with hd | hd
        · exact B.over p hpm d hd
        · simp at hd; subst hd; exact List.mem_of_getElem? hc
    · rw [ta] at he
      rcases List.mem_append.mp he with he | he
      · exact B.full e he
      · simp at he; subst he; simp
    · rw [List.pairwise_append]
      refine ⟨B.sorted, by simp, fun a ha b hb => ?_⟩
      simp at hb; subst hb
      exact hg a ha
    · rw [ta, List.map_append, List.nodup_append]
      refine ⟨B.nodup, by simp, fun a ha b hb => ?_⟩
      simp at hb; subst hb
      intro e
      subst e
      exact hm ha
    · rw [ta] at he
      rcases List.mem_append.mp he with he | he
      · obtain ⟨i, j, q, d, h1, h2, h3, h4⟩ := B.came e he
        refine ⟨i, j, q, d, ?_, h2, h3, wk h4⟩
        rw [List.getElem?_append_left (List.getElem?_eq_some_iff.mp h1).1]
        exact h1
      · simp at he; subst he
        refine ⟨at_, k, p, c, ?_, hc, rfl, .inr ⟨rfl, Nat.lt_succ_self _⟩⟩
        rw [List.getElem?_append_left (List.getElem?_eq_some_iff.mp hp).1]
        exact hp
    · have hla : at_ < found.length := (List.getElem?_eq_some_iff.mp hp).1
      have hil : i < found.length := by omega
      rw [List.getElem?_append_left hil] at h1
      by_cases hk : i < at_ ∨ (i = at_ ∧ j < k)
      · obtain ⟨e, he, e2, e3⟩ := B.done i j q d hk h1 h2
        exact ⟨e, by rw [ta]; exact List.mem_append_left _ he, e2, e3⟩
      · obtain ⟨rfl, rfl⟩ : i = at_ ∧ j = k := by omega
        rw [hp] at h1; cases h1
        rw [hc] at h2; cases h2
        exact ⟨(p.1 ++ [c], step p.2 c), by rw [ta]; exact List.mem_append_right _ (List.mem_singleton.mpr rfl), rfl, .inl rfl⟩
theorem Bfs.next {found : List (Line × T)} {at_ : Nat} (B : Bfs S step start found at_ S.length) : Bfs S step start found (at_ + 1) 0 := by
  refine ⟨B.head, B.run, B.over, B.full, B.sorted, B.nodup, fun e he => ?_, fun i j q d h h1 h2 => ?_⟩
  · obtain ⟨i, j, q, d, h1, h2, h3, h4⟩ := B.came e he
    exact ⟨i, j, q, d, h1, h2, h3, by omega⟩
  · have := (List.getElem?_eq_some_iff.mp h2).1
    exact B.done i j q d (by omega) h1 h2
/-- behind the search every line over S has a state that an entry has, with a line that is not greater -/
theorem Bfs.all {found : List (Line × T)} {at_ : Nat} (B : Bfs S step start found at_ 0) (hl : found.length ≤ at_) :
    ∀ (w u : Line) (e : Line × T), e ∈ found → e.2 = u.foldl step start → le e.1 u → (∀ c ∈ w, c ∈ S) →
      ∃ e' : Line × T, e'.2 = (u ++ w).foldl step start ∧ le e'.1 (u ++ w) ∧ ((w = [] ∧ e' = e) ∨ e' ∈ found.tail)
  | [], u, e, he, h1, h2, _ => ⟨e, by rw [List.append_nil]; exact h1, by rw [List.append_nil]; exact h2, .inl ⟨rfl, rfl⟩⟩
  | c :: w, u, e, he, h1, h2, h3 => by
    obtain ⟨i, hi⟩ := List.getElem?_of_mem he
    obtain ⟨j, hj⟩ := List.getElem?_of_mem (h3 c List.mem_cons_self)
    obtain ⟨e1, m1, s1, l1⟩ := B.done i j e c (by have := (List.getElem?_eq_some_iff.mp hi).1; omega) hi hj
    have m1' : e1 ∈ found := by
      obtain ⟨tl, ht⟩ := B.head
      rw [ht] at m1 ⊢
      exact List.mem_cons_of_mem _ m1
    have hs : e1.2 = (u ++ [c]).foldl step start := by rw [s1, List.foldl_append, ← h1]; rfl
    obtain ⟨e2, s2, l2, t2⟩ := B.all hl w (u ++ [c]) e1 m1' hs (le_trans l1 (le_snoc c h2)) fun d hd => h3 d (List.mem_cons_of_mem _ hd)
    have ea : u ++ [c] ++ w = u ++ c :: w := by simp
    rw [ea] at s2 l2
    refine ⟨e2, s2, l2, .inr ?_⟩
    rcases t2 with ⟨_, z⟩ | z
    · rw [z]; exact m1
    · exact z
theorem Bfs.least {found : List (Line × T)} {at_ : Nat} (B : Bfs S step start found at_ 0) (hl : found.length ≤ at_) {w : Line} (hw : w ≠ []) (h : ∀ c ∈ w, c ∈ S) :
    ∃ e ∈ found.tail, e.2 = w.foldl step start ∧ le e.1 w := by
  obtain ⟨tl, ht⟩ := B.head
  obtain ⟨e, h1, h2, h3⟩ := B.all hl w [] ([], start) (by rw [ht]; exact List.mem_cons_self) rfl (le_refl _) h
  rcases h3 with ⟨z, _⟩ | z
  · exact absurd z hw
  · exact ⟨e, z, h1, h2⟩
end
end K35
namespace K35
/-! ### signs, cells, positions -/
def signsAll : List Nat := [32, 35, 45, 46, 48, 49, 50, 51, 52, 53, 54, 55, 56, 57, 58, 62, 65, 66, 67, 68, 69, 70, 71, 72, 73, 74, 75, 76, 77, 78, 79, 80, 81, 82, 83, 84, 85, 86, 87, 88, 89, 90, 97, 98, 99, 100, 101, 102, 103, 104, 105, 106, 107, 108, 109, 110, 111, 112, 113, 114, 115, 116, 117, 118, 119, 120, 121, 122]
def digs : List Nat := [48, 49, 50, 51, 52, 53, 54, 55, 56, 57]
def lets : List Nat := [65, 66, 67, 68, 69, 70, 71, 72, 73, 74, 75, 76, 77, 78, 79, 80, 81, 82, 83, 84, 85, 86, 87, 88, 89, 90, 97, 98, 99, 100, 101, 102, 103, 104, 105, 106, 107, 108, 109, 110, 111, 112, 113, 114, 115, 116, 117, 118, 119, 120, 121, 122]
inductive Cell where
  | any | digits | word | sign (c : Nat)
  deriving DecidableEq
def takes : Cell → Nat → Bool
  | .any, _ => true
  | .digits, c => decide (c ∈ digs)
  | .word, c => decide (c ∈ lets)
  | .sign d, c => decide (d = c)
def kindOf (c : Nat) : Nat := if c ∈ digs then 0 else if c ∈ lets then 1 else 2
/-- one place looked at by closed -/
def cloStep (cells : List Cell) (pos found : List Nat) (k : Nat) : List Nat :=
  if k ∈ pos ∨ (0 < k ∧ cells[k - 1]? = some .any ∧ k - 1 ∈ found) then found ++ [k] else found
def cloTo (cells : List Cell) (pos : List Nat) (n : Nat) : List Nat := (List.range n).foldl (cloStep cells pos) []
def closed (cells : List Cell) (pos : List Nat) : List Nat := cloTo cells pos (cells.length + 1)
def started (cells : List Cell) : List Nat := closed cells [0]
/-- one position moved -/
def mov1 (cells : List Cell) (c k : Nat) : List Nat :=
  match cells[k]? with
  | some x => if takes x c then [if x = .any then k else k + 1] else []
  | none => []
def mov2 (cells : List Cell) (c k : Nat) : List Nat :=
  if 0 < k then
    match cells[k - 1]? with
    | some x => if (x = .digits ∨ x = .word) ∧ takes x c = true then [k] else []
    | none => []
  else []
def mov (cells : List Cell) (c k : Nat) : List Nat := mov1 cells c k ++ mov2 cells c k
def moved (cells : List Cell) (pos : List Nat) (c : Nat) : List Nat := closed cells (pos.flatMap (mov cells c))
def isDone (cells : List Cell) (pos : List Nat) : Bool := decide (cells.length ∈ pos)
theorem cloTo_succ (cells : List Cell) (pos : List Nat) (n : Nat) : cloTo cells pos (n + 1) = cloStep cells pos (cloTo cells pos n) n := by
  unfold cloTo
  rw [List.range_succ, List.foldl_append]
  rfl
theorem cloTo_lt {cells : List Cell} {pos : List Nat} : ∀ {n k : Nat}, k ∈ cloTo cells pos n → k < n
  | 0, k, h => by simp [cloTo] at h
  | n + 1, k, h => by
    rw [cloTo_succ] at h
    unfold cloStep at h
    split at h
    · rcases List.mem_append.mp h with h | h
      · have := cloTo_lt h; omega
      · simp at h; omega
    · have := cloTo_lt h; omega
theorem cloTo_filter (cells : List Cell) (pos : List Nat) : ∀ n, cloTo cells pos n = (List.range n).filter fun k => decide (k ∈ cloTo cells pos n)
  | 0 => rfl
  | n + 1 => by
    have ih := cloTo_filter cells pos n
    have hn : n ∉ cloTo cells pos n := fun h => by have := cloTo_lt h; omega
    have e : ∀ k ∈ List.range n, decide (k ∈ cloTo cells pos (n + 1)) = decide (k ∈ cloTo cells pos n) := fun k hk => by
      have : k < n := List.mem_range.mp hk
      rw [cloTo_succ]
      unfold cloStep
      split
      · have h2 : k ≠ n := by omega
        simp [h2]
      · rfl
    rw [List.range_succ, List.filter_append]
    have e2 : List.filter (fun k => decide (k ∈ cloTo cells pos (n + 1))) (List.range n) = cloTo cells pos n := by
      rw [List.filter_congr e]
      exact ih.symm
    rw [e2, cloTo_succ]
    unfold cloStep
    split
    · simp
    · simp [hn]
theorem closed_le {cells : List Cell} {pos : List Nat} {k : Nat} (h : k ∈ closed cells pos) : k ≤ cells.length := Nat.le_of_lt_succ (cloTo_lt h)
theorem closed_filter (cells : List Cell) (pos : List Nat) : closed cells pos = (List.range (cells.length + 1)).filter fun k => decide (k ∈ closed cells pos) := cloTo_filter cells pos _
theorem closed_nodup (cells : List Cell) (pos : List Nat) : (closed cells pos).Nodup := by
  rw [closed_filter]
  exact List.Nodup.sublist (List.filter_sublist) List.nodup_range
/-- place 0 is there exactly if it was asked -/
theorem zero_cloTo (cells : List Cell) (pos : List Nat) : ∀ n, 0 ∈ cloTo cells pos (n + 1) ↔ 0 ∈ pos
  | 0 => by
    rw [cloTo_succ]
    unfold cloStep
    by_cases h : 0 ∈ pos
    · simp [h, cloTo]
    · simp [h, cloTo]
  | n + 1 => by
    have ih := zero_cloTo cells pos n
    rw [cloTo_succ]
    unfold cloStep
    split
    · simp [ih]
    · exact ih
theorem zero_closed {cells : List Cell} {pos : List Nat} : 0 ∈ closed cells pos ↔ 0 ∈ pos := zero_cloTo cells pos _
theorem zero_mov {cells : List Cell} {c k : Nat} : 0 ∈ mov cells c k ↔ k = 0 ∧ cells[0]? = some .any := by
  unfold mov
  rw [List.mem_append]
  have h2 : 0 ∉ mov2 cells c k := by
    unfold mov2
    split
    · split
      · split
        · simp; omega
        · simp
      · simp
    · simp
  have h1 : 0 ∈ mov1 cells c k ↔ k = 0 ∧ cells[0]? = some .any := by
    unfold mov1
    constructor
    · intro h
      split at h
      · rename_i x hx
        split at h
        · simp at h
          by_cases e : x = .any
          · rw [if_pos e] at h
            subst h
            exact ⟨rfl, by rw [hx, e]⟩
          · rw [if_neg e] at h
            omega
        · simp at h
      · simp at h
    · rintro ⟨rfl, h⟩
      rw [h]
      simp [takes]
  rw [h1]
  simp [h2]
def hasZero (cells : List Cell) : Bool := decide (cells[0]? = some .any)
theorem zero_moved {cells : List Cell} {pos : List Nat} {c : Nat} (h : hasZero cells = true → 0 ∈ pos) : 0 ∈ moved cells pos c ↔ hasZero cells = true := by
  unfold moved
  rw [zero_closed, List.mem_flatMap]
  constructor
  · rintro ⟨k, _, hk⟩
    exact decide_eq_true (zero_mov.mp hk).2
  · intro hz
    exact ⟨0, h hz, zero_mov.mpr ⟨rfl, of_decide_eq_true hz⟩⟩
/-! ### states of several forms -/
abbrev State := List (List Nat)
def begin_ (rows : List (List Cell)) : State := rows.map started
def stepped : List (List Cell) → State → Nat → State
  | cells :: rows, p :: st, c => moved cells p c :: stepped rows st c
  | _, _, _ => []
def truths : List (List Cell) → State → List Bool
  | cells :: rows, p :: st => isDone cells p :: truths rows st
  | _, _ => []
def run (cells : List Cell) (w : Line) : List Nat := w.foldl (moved cells) (started cells)
def runs (rows : List (List Cell)) (w : Line) : State := rows.map fun cells => run cells w
theorem stepped_map (rows : List (List Cell)) (f : List Cell → List Nat) (c : Nat) : stepped rows (rows.map f) c = rows.map fun cells => moved cells (f cells) c := by
  induction rows with
  | nil => rfl
  | cons r rows ih => show moved r (f r) c :: stepped rows (rows.map f) c = _; rw [ih]; rfl
theorem runs_nil (rows : List (List Cell)) : runs rows [] = begin_ rows := rfl
theorem runs_foldl (rows : List (List Cell)) : ∀ (w : Line) (f : List Cell → List Nat), w.foldl (stepped rows) (rows.map f) = rows.map fun cells => w.foldl (moved cells) (f cells)
  | [], f => rfl
  | c :: w, f => by
    show w.foldl (stepped rows) (stepped rows (rows.map f) c) = _
    rw [stepped_map, runs_foldl rows w]
    rfl
theorem runs_eq (rows : List (List Cell)) (w : Line) : w.foldl (stepped rows) (begin_ rows) = runs rows w := runs_foldl rows w started
theorem truths_runs (rows : List (List Cell)) (f : List Cell → List Nat) : truths rows (rows.map f) = rows.map fun cells => isDone cells (f cells) := by
  induction rows with
  | nil => rfl
  | cons r rows ih => show isDone r (f r) :: truths rows (rows.map f) = _; rw [ih]; rfl
theorem stepped_length : ∀ {rows : List (List Cell)} {st : State} (c : Nat), st.length = rows.length → (stepped rows st c).length = rows.length
  | [], [], _, _ => rfl
  | [], _ :: _, _, h => by simp at h
  | _ :: _, [], _, h => by simp at h
  | _ :: rows, _ :: st, c, h => by
    show (stepped rows st c).length + 1 = _
    rw [stepped_length c (by simpa using h)]
    rfl
theorem run_snoc (cells : List Cell) (w : Line) (c : Nat) : run cells (w ++ [c]) = moved cells (run cells w) c := by
  unfold run
  rw [List.foldl_append]
  rfl
theorem run_le {cells : List Cell} {w : Line} {k : Nat} (h : k ∈ run cells w) : k ≤ cells.length := by
  rcases List.eq_nil_or_concat w with rfl | ⟨u, c, rfl⟩
  · exact closed_le h
  · rw [List.concat_eq_append, run_snoc] at h
    exact closed_le h
theorem run_zero {cells : List Cell} : ∀ w : Line, hasZero cells = true → 0 ∈ run cells w := by
  intro w hz
  have key : ∀ (w : Line) (p : List Nat), 0 ∈ p → 0 ∈ w.foldl (moved cells) p := by
    intro w
    induction w with
    | nil => exact fun p h => h
    | cons c w ih => exact fun p h => ih _ ((zero_moved fun _ => h).mpr hz)
  exact key w _ (zero_closed.mpr List.mem_cons_self)
/-! ### how many states there are -/
/-- all sublists, in order -/
def subs : List Nat → List (List Nat)
  | [] => [[]]
  | a :: l => subs l ++ (subs l).map (a :: ·)
theorem subs_length : ∀ l : List Nat, (subs l).length = 2 ^ l.length
  | [] => rfl
  | a :: l => by
    rw [subs, List.length_append, List.length_map, subs_length l, List.length_cons, Nat.pow_succ]
    omega
theorem mem_subs (q : Nat → Bool) : ∀ l : List Nat, l.filter q ∈ subs l
  | [] => List.mem_cons_self
  | a :: l => by
    have ih := mem_subs q l
    rw [subs, List.mem_append]
    by_cases h : q a = true
    · rw [List.filter_cons_of_pos h]
      exact .inr (List.mem_map.mpr ⟨_, ih, rfl⟩)
    · rw [List.filter_cons_of_neg h]
      exact .inl ih
def places (cells : List Cell) : List Nat := (List.range cells.length).map (· + 1)
/-- the sets of positions behind a sign -/
def sets (cells : List Cell) : List (List Nat) := (subs (places cells)).map fun l => if hasZero cells then 0 :: l else l
theorem sets_length (cells : List Cell) : (sets cells).length = 2 ^ cells.length := by
  unfold sets places
  rw [List.length_map, subs_length, List.length_map, List.length_range]
theorem mem_sets {cells : List Cell} {pos : List Nat} {c : Nat} (h : hasZero cells = true → 0 ∈ pos) : moved cells pos c ∈ sets cells := by
  have hz := zero_moved (c := c) h
  have hf := closed_filter cells (pos.flatMap (mov cells c))
  have e : List.range (cells.length + 1) = 0 :: places cells := by
    rw [List.range_succ_eq_map]
    rfl
  rw [e] at hf
  refine List.mem_map.mpr ⟨(places cells).filter fun k => decide (k ∈ moved cells pos c), mem_subs _ _, ?_⟩
  show _ = closed cells (pos.flatMap (mov cells c))
  rw [hf]
  by_cases q : hasZero cells = true
  · rw [if_pos q, List.filter_cons_of_pos]
    · rfl
    · exact decide_eq_true (hz.mpr q)
  · rw [if_neg q, List.filter_cons_of_neg]
    · rfl
    · intro z
      exact q (hz.mp (of_decide_eq_true z))
/-- all combinations -/
def combos : List (List (List Nat)) → List State
  | [] => [[]]
  | l :: ls => l.flatMap fun x => (combos ls).map (x :: ·)
def prodLen : List (List (List Nat)) → Nat
  | [] => 1
  | l :: ls => l.length * prodLen ls
theorem flatMap_len {α β : Type} (f : α → List β) (n : Nat) : ∀ l : List α, (∀ a ∈ l, (f a).length = n) → (l.flatMap f).length = l.length * n
  | [], _ => by simp
  | a :: l, h => by
    rw [List.flatMap_cons, List.length_append, flatMap_len f n l fun b hb => h b (List.mem_cons_of_mem _ hb), h a List.mem_cons_self, List.length_cons, Nat.succ_mul]
    omega
theorem combos_length : ∀ ls : List (List (List Nat)), (combos ls).length = prodLen ls
  | [] => rfl
  | l :: ls => by
    rw [combos, flatMap_len _ (prodLen ls) l fun a _ => by rw [List.length_map, combos_length ls]]
    rfl
def cellCount (rows : List (List Cell)) : Nat := (rows.map (·.length)).sum
theorem univ_length : ∀ rows : List (List Cell), (combos (rows.map sets)).length = 2 ^ cellCount rows := by
  intro rows
  rw [combos_length]
  induction rows with
  | nil => rfl
  | cons r rows ih =>
    show (sets r).length * prodLen (rows.map sets) = _
    rw [ih, sets_length, ← Nat.pow_add]
    rfl
theorem mem_univ : ∀ (rows : List (List Cell)) (f : List Cell → List Nat), (∀ r ∈ rows, f r ∈ sets r) → rows.map f ∈ combos (rows.map sets)
  | [], _, _ => List.mem_cons_self
  | r :: rows, f, h => by
    show f r :: rows.map f ∈ (sets r).flatMap fun x => (combos (rows.map sets)).map (x :: ·)
    exact List.mem_flatMap.mpr ⟨f r, h r List.mem_cons_self, List.mem_map.mpr ⟨_, mem_univ rows f fun q hq => h q (List.mem_cons_of_mem _ hq), rfl⟩⟩
theorem runs_univ (rows : List (List Cell)) {w : Line} (h : w ≠ []) : runs rows w ∈ combos (rows.map sets) := by
  refine mem_univ rows _ fun r _ => ?_
  rcases List.eq_nil_or_concat w with e | ⟨u, c, e⟩
  · exact absurd e h
  · rw [e, List.concat_eq_append]
    rw [run_snoc]
    exact mem_sets fun hz => run_zero u hz
theorem nodup_len {α : Type} [DecidableEq α] : ∀ (l m : List α), l.Nodup → (∀ a ∈ l, a ∈ m) → l.length ≤ m.length
  | [], m, _, _ => Nat.zero_le _
  | a :: l, m, hn, hm => by
    have ha : a ∈ m := hm a List.mem_cons_self
    have h2 := nodup_len l (m.erase a) (List.nodup_cons.mp hn).2 fun b hb => by
      have hne : b ≠ a := fun e => (List.nodup_cons.mp hn).1 (e ▸ hb)
      exact (List.mem_erase_of_ne hne).mpr (hm b (List.mem_cons_of_mem _ hb))
    rw [List.length_erase_of_mem ha] at h2
    have : 0 < m.length := List.length_pos_of_mem ha
    rw [List.length_cons]
    omega
theorem Bfs.size {S : List Nat} {rows : List (List Cell)} {found : List (Line × State)} {i k : Nat} (B : Bfs S (stepped rows) (begin_ rows) found i k) : found.length ≤ 2 ^ cellCount rows + 1 := by
  obtain ⟨tl, ht⟩ := B.head
  have h1 : (found.tail.map (·.2)).length ≤ (combos (rows.map sets)).length := nodup_len _ _ B.nodup fun st hst => by
    obtain ⟨e, he, rfl⟩ := List.mem_map.mp hst
    have hm : e ∈ found := by
      rw [ht] at he ⊢
      exact List.mem_cons_of_mem _ he
    rw [B.run e hm, runs_eq]
    exact runs_univ rows (B.full e he)
  rw [univ_length, List.length_map, List.length_tail] at h1
  omega
end K35
namespace K35
/-! ### the signs that tell all lines apart -/
def sgnStep (fixed : List Nat) (st : List Nat × List Bool) (c : Nat) : List Nat × List Bool :=
  if c ∈ fixed then (st.1 ++ [c], st.2)
  else if st.2.getD (kindOf c) false = true then (st.1 ++ [c], st.2.set (kindOf c) false)
  else st
def sgnTo (fixed : List Nat) (pre : List Nat) : List Nat × List Bool := pre.foldl (sgnStep fixed) ([], [true, true, true])
def signsFor (fixed : List Nat) : List Nat := (sgnTo fixed signsAll).1
theorem sgnTo_snoc (fixed pre : List Nat) (c : Nat) : sgnTo fixed (pre ++ [c]) = sgnStep fixed (sgnTo fixed pre) c := by
  unfold sgnTo
  rw [List.foldl_append]
  rfl
theorem kind_lt (c : Nat) : kindOf c < 3 := by
  unfold kindOf
  split
  · omega
  · split <;> omega
structure SgnOk (fixed pre : List Nat) (st : List Nat × List Bool) : Prop where
  sub : st.1.Sublist pre
  len : st.2.length = 3
  spare : ∀ k, k < 3 → st.2.getD k false = false → ∃ r ∈ st.1, kindOf r = k ∧ r ∉ fixed
  rep : ∀ c ∈ pre, ∃ r ∈ st.1, r ≤ c ∧ (r = c ∨ (kindOf r = kindOf c ∧ r ∉ fixed ∧ c ∉ fixed))
theorem SgnOk.nil (fixed : List Nat) : SgnOk fixed [] ([], [true, true, true]) where
  sub := .refl _
  len := rfl
  spare := fun k hk h => by
    match k, hk with
    | 0, _ => simp at h
    | 1, _ => simp at h
    | 2, _ => simp at h
  rep := fun c h => by simp at h
theorem SgnOk.step {fixed pre : List Nat} {st : List Nat × List Bool} (o : SgnOk fixed pre st) {c : Nat} (hc : ∀ d ∈ pre, d < c) : SgnOk fixed (pre ++ [c]) (sgnStep fixed st c) := by
  have keep : ∀ {st' : List Nat × List Bool}, (∀ r ∈ st.1, r ∈ st'.1) → (∃ r ∈ st'.1, r ≤ c ∧ (r = c ∨ (kindOf r = kindOf c ∧ r ∉ fixed ∧ c ∉ fixed))) →
      ∀ d ∈ pre ++ [c], ∃ r ∈ st'.1, r ≤ d ∧ (r = d ∨ (kindOf r = kindOf d ∧ r ∉ fixed ∧ d ∉ fixed)) := fun {st'} h1 h2 d hd => by
    rcases List.mem_append.mp hd with hd | hd
    · obtain ⟨r, hr, q⟩ := o.rep d hd
      exact ⟨r, h1 r hr, q⟩
    · simp at hd
      subst hd
      exact h2
  unfold sgnStep
  by_cases hf : c ∈ fixed
  · rw [if_pos hf]
    refine ⟨o.sub.append (.refl _), o.len, fun k hk h => ?_, keep (fun r hr => List.mem_append_left _ hr) ⟨c, by simp, Nat.le_refl _, .inl rfl⟩⟩
    obtain ⟨r, hr, q⟩ := o.spare k hk h
    exact ⟨r, List.mem_append_left _ hr, q⟩
  · rw [if_neg hf]
    by_cases hs : st.2.getD (kindOf c) false = true
    · rw [if_pos hs]
      refine ⟨o.sub.append (.refl _), by simp [o.len], fun k hk h => ?_, keep (fun r hr => List.mem_append_left _ hr) ⟨c, by simp, Nat.le_refl _, .inl rfl⟩⟩
      by_cases e : kindOf c = k
      · exact ⟨c, by simp, e, hf⟩
      · have h' : st.2.getD k false = false := by
          simp only [List.getD_eq_getElem?_getD] at h ⊢
          rw [List.getElem?_set_ne e] at h
          exact h
        obtain ⟨r, hr, q⟩ := o.spare k hk h'
        exact ⟨r, List.mem_append_left _ hr, q⟩
    · rw [if_neg hs]
      have hs' : st.2.getD (kindOf c) false = false := by simpa using hs
      obtain ⟨r, hr, q1, q2⟩ := o.spare _ (kind_lt c) hs'
      have hr' : r ∈ pre := o.sub.subset hr
      exact ⟨o.sub.trans (List.sublist_append_left _ _), o.len, o.spare, keep (fun r hr => hr) ⟨r, hr, Nat.le_of_lt (hc r hr'), .inr ⟨q1, q2, hf⟩⟩⟩
theorem sgn_ok (fixed : List Nat) : ∀ (post pre : List Nat), (pre ++ post).Pairwise (· < ·) → SgnOk fixed pre (sgnTo fixed pre) → SgnOk fixed (pre ++ post) (sgnTo fixed (pre ++ post))
  | [], pre, _, o => by rw [List.append_nil]; exact o
  | c :: post, pre, h, o => by
    have e : pre ++ c :: post = (pre ++ [c]) ++ post := by simp
    rw [e] at h ⊢
    refine sgn_ok fixed post (pre ++ [c]) h ?_
    rw [sgnTo_snoc]
    refine o.step fun d hd => ?_
    have h1 := (List.pairwise_append.mp (List.pairwise_append.mp h).1).2.2
    exact h1 d hd c (by simp)
theorem signsAll_sorted : signsAll.Pairwise (· < ·) := by decide
theorem signsFor_ok (fixed : List Nat) : SgnOk fixed signsAll (sgnTo fixed signsAll) := sgn_ok fixed signsAll [] signsAll_sorted (SgnOk.nil fixed)
theorem signsFor_sorted (fixed : List Nat) : (signsFor fixed).Pairwise (· < ·) := signsAll_sorted.sublist (signsFor_ok fixed).sub
theorem signsFor_sub {fixed : List Nat} {c : Nat} (h : c ∈ signsFor fixed) : c ∈ signsAll := (signsFor_ok fixed).sub.subset h
/-- the sign that stands for c -/
theorem rep_ex (fixed : List Nat) (c : Nat) : ∃ r, (c ∈ signsAll → r ∈ signsFor fixed ∧ r ≤ c ∧ (r = c ∨ (kindOf r = kindOf c ∧ r ∉ fixed ∧ c ∉ fixed))) := by
  by_cases h : c ∈ signsAll
  · obtain ⟨r, h1, h2, h3⟩ := (signsFor_ok fixed).rep c h
    exact ⟨r, fun _ => ⟨h1, h2, h3⟩⟩
  · exact ⟨0, fun z => absurd z h⟩
noncomputable def rep (fixed : List Nat) (c : Nat) : Nat := Classical.choose (rep_ex fixed c)
theorem rep_ok (fixed : List Nat) {c : Nat} (h : c ∈ signsAll) : rep fixed c ∈ signsFor fixed ∧ rep fixed c ≤ c ∧ (rep fixed c = c ∨ (kindOf (rep fixed c) = kindOf c ∧ rep fixed c ∉ fixed ∧ c ∉ fixed)) := Classical.choose_spec (rep_ex fixed c) h
theorem kind_digs {c : Nat} : c ∈ digs ↔ kindOf c = 0 := by
  unfold kindOf
  by_cases h : c ∈ digs
  · simp [h]
  · by_cases h2 : c ∈ lets <;> simp [h, h2]
theorem digs_lets : ∀ c ∈ digs, c ∉ lets := by decide
theorem kind_lets {c : Nat} : c ∈ lets ↔ kindOf c = 1 := by
  unfold kindOf
  by_cases h : c ∈ digs
  · have := digs_lets c h
    simp [h, this]
  · by_cases h2 : c ∈ lets <;> simp [h, h2]
/-- the fixed signs of the cells stand among fixed -/
def FixIn (fixed : List Nat) (cells : List Cell) : Prop := ∀ d, Cell.sign d ∈ cells → d ∈ fixed
theorem takes_rep {fixed : List Nat} {c : Nat} (h : c ∈ signsAll) {x : Cell} (hx : ∀ d, x = .sign d → d ∈ fixed) : takes x (rep fixed c) = takes x c := by
  obtain ⟨_, _, q⟩ := rep_ok fixed h
  rcases q with q | ⟨q1, q2, q3⟩
  · rw [q]
  · cases x with
    | any => rfl
    | digits =>
      show decide _ = decide _
      rw [decide_eq_decide, kind_digs, kind_digs, q1]
    | word =>
      show decide _ = decide _
      rw [decide_eq_decide, kind_lets, kind_lets, q1]
    | sign d =>
      have hd := hx d rfl
      show decide _ = decide _
      rw [decide_eq_decide]
      constructor
      · rintro rfl; exact absurd hd q2
      · rintro rfl; exact absurd hd q3
theorem mov_rep {fixed : List Nat} {c : Nat} (h : c ∈ signsAll) {cells : List Cell} (hf : FixIn fixed cells) (k : Nat) : mov cells (rep fixed c) k = mov cells c k := by
  have key : ∀ (j : Nat) (x : Cell), cells[j]? = some x → takes x (rep fixed c) = takes x c := fun j x e => takes_rep h fun d ed => hf d (by rw [← ed]; exact List.mem_of_getElem? e)
  unfold mov
  have e1 : mov1 cells (rep fixed c) k = mov1 cells c k := by
    unfold mov1
    cases e : cells[k]? with
    | none => rfl
    | some x =>
      show (if takes x (rep fixed c) = true then [if x = Cell.any then k else k + 1] else []) = _
      rw [key k x e]
  have e2 : mov2 cells (rep fixed c) k = mov2 cells c k := by
    unfold mov2
    by_cases hk : 0 < k
    · rw [if_pos hk, if_pos hk]
      cases e : cells[k - 1]? with
      | none => rfl
      | some x =>
        show (if (x = .digits ∨ x = .word) ∧ takes x (rep fixed c) = true then [k] else []) = _
        rw [key (k - 1) x e]
    · rw [if_neg hk, if_neg hk]
  rw [e1, e2]
theorem moved_rep {fixed : List Nat} {c : Nat} (h : c ∈ signsAll) {cells : List Cell} (hf : FixIn fixed cells) (pos : List Nat) : moved cells pos (rep fixed c) = moved cells pos c := by
  unfold moved
  rw [show mov cells (rep fixed c) = mov cells c from funext fun k => mov_rep h hf k]
theorem run_rep {fixed : List Nat} {cells : List Cell} (hf : FixIn fixed cells) : ∀ (w : Line) (p : List Nat), (∀ c ∈ w, c ∈ signsAll) → (w.map (rep fixed)).foldl (moved cells) p = w.foldl (moved cells) p
  | [], _, _ => rfl
  | c :: w, p, h => by
    show (w.map (rep fixed)).foldl (moved cells) (moved cells p (rep fixed c)) = _
    rw [moved_rep (h c List.mem_cons_self) hf, run_rep hf w _ fun d hd => h d (List.mem_cons_of_mem _ hd)]
    rfl
/-- a line -/
def IsLine (w : Line) : Prop := w ≠ [] ∧ ∀ c ∈ w, c ∈ signsAll
/-- what scanned gives -/
structure ScanOk (rows : List (List Cell)) (res : List (Line × State)) : Prop where
  sorted : res.Pairwise fun a b => less a.1 b.1
  real : ∀ e ∈ res, IsLine e.1 ∧ e.2 = runs rows e.1
  least : ∀ w, IsLine w → ∃ e ∈ res, e.2 = runs rows w ∧ le e.1 w
theorem Bfs.scan {fixed : List Nat} {rows : List (List Cell)} (hf : ∀ r ∈ rows, FixIn fixed r) {found : List (Line × State)} {i : Nat} (B : Bfs (signsFor fixed) (stepped rows) (begin_ rows) found i 0) (hl : found.length ≤ i) :
    ScanOk rows found.tail := by
  obtain ⟨tl, ht⟩ := B.head
  have mt : ∀ e ∈ found.tail, e ∈ found := fun e he => by
    rw [ht] at he ⊢
    exact List.mem_cons_of_mem _ he
  refine ⟨?_, fun e he => ⟨⟨B.full e he, fun c hc => signsFor_sub (B.over e (mt e he) c hc)⟩, ?_⟩, fun w hw => ?_⟩
  · have := B.sorted
    rw [ht] at this ⊢
    exact (List.pairwise_cons.mp this).2
  · rw [B.run e (mt e he), runs_eq]
  · have hr : w.map (rep fixed) ≠ [] := by simp [hw.1]
    obtain ⟨e, he, h1, h2⟩ := B.least hl hr fun c hc => by
      obtain ⟨d, hd, rfl⟩ := List.mem_map.mp hc
      exact (rep_ok fixed (hw.2 d hd)).1
    refine ⟨e, he, ?_, le_trans h2 (map_le _ w fun c hc => (rep_ok fixed (hw.2 c hc)).2.1)⟩
    rw [h1, runs_eq]
    refine List.map_congr_left fun r hr => ?_
    exact run_rep (hf r hr) w _ hw.2
/-! ### forms, patterns, faces -/
inductive Part where
  | any | digits | word | fixed (w : List Nat)
  deriving DecidableEq
def Part.cells : Part → List Cell
  | .any => [.any]
  | .digits => [.digits]
  | .word => [.word]
  | .fixed w => w.map Cell.sign
abbrev Form := List Part
def cellsOf (f : Form) : List Cell := f.flatMap Part.cells
def Part.signs : Part → List Nat
  | .fixed w => w
  | _ => []
def fixedOf (fs : List Form) : List Nat := fs.flatMap fun f => f.flatMap Part.signs
theorem fix_in {fs : List Form} {f : Form} (h : f ∈ fs) : FixIn (fixedOf fs) (cellsOf f) := by
  intro d hd
  obtain ⟨p, hp, hc⟩ := List.mem_flatMap.mp hd
  refine List.mem_flatMap.mpr ⟨f, h, List.mem_flatMap.mpr ⟨p, hp, ?_⟩⟩
  cases p with
  | any => simp [Part.cells] at hc
  | digits => simp [Part.cells] at hc
  | word => simp [Part.cells] at hc
  | fixed w =>
    obtain ⟨e, he, q⟩ := List.mem_map.mp hc
    cases q
    exact he
inductive Pat where
  | one (f : Form) | both (f g : Form) | either (f g : Form)
def Pat.forms : Pat → List Form
  | .one f => [f]
  | .both f g => [f, g]
  | .either f g => [f, g]
def Pat.holds : Pat → List Bool → Bool
  | .one _, t => t.getD 0 false
  | .both _ _, t => t.getD 0 false && t.getD 1 false
  | .either _ _, t => t.getD 0 false || t.getD 1 false
def fitsF (f : Form) (w : Line) : Bool := isDone (cellsOf f) (run (cellsOf f) w)
def fits : Pat → Line → Bool
  | .one f, w => fitsF f w
  | .both f g, w => fitsF f w && fitsF g w
  | .either f g, w => fitsF f w || fitsF g w
theorem holds_fits (p : Pat) (w : Line) : p.holds (p.forms.map fun f => fitsF f w) = fits p w := by
  cases p <;> rfl
/-- the look of a line: the places of the marks that it fits -/
def lookFrom (w : Line) : Nat → List Pat → List Nat
  | _, [] => []
  | k, m :: ms => (if fits m w then [k] else []) ++ lookFrom w (k + 1) ms
def lookW (marks : List Pat) (w : Line) : List Nat := lookFrom w 0 marks
abbrev Face := Bool × Bool
def faceW (bs es : List Pat) (w : Line) : Face := (bs.any fun m => fits m w, es.any fun m => fits m w)
def faceOf (many : Nat) (look : List Nat) : Face := (look.any fun k => decide (k < many), look.any fun k => decide (many ≤ k))
theorem lookFrom_lt (w : Line) : ∀ (ms : List Pat) (k n : Nat), k + ms.length ≤ n → ((lookFrom w k ms).any fun i => decide (i < n)) = ms.any fun m => fits m w
  | [], _, _, _ => rfl
  | m :: ms, k, n, h => by
    rw [List.length_cons] at h
    rw [lookFrom, List.any_append, lookFrom_lt w ms (k + 1) n (by omega), List.any_cons]
    by_cases q : fits m w = true
    · rw [if_pos q, q]
      have : k < n := by omega
      simp [this]
    · rw [if_neg q]
      have q' : fits m w = false := by simpa using q
      rw [q']
      rfl
theorem lookFrom_nlt (w : Line) : ∀ (ms : List Pat) (k n : Nat), k + ms.length ≤ n → ((lookFrom w k ms).any fun i => decide (n ≤ i)) = false
  | [], _, _, _ => rfl
  | m :: ms, k, n, h => by
    rw [List.length_cons] at h
    rw [lookFrom, List.any_append, lookFrom_nlt w ms (k + 1) n (by omega)]
    by_cases q : fits m w = true
    · rw [if_pos q]
      have : ¬ n ≤ k := by omega
      simp [this]
    · rw [if_neg q]
      rfl
theorem lookFrom_ge (w : Line) : ∀ (ms : List Pat) (k n : Nat), n ≤ k → ((lookFrom w k ms).any fun i => decide (n ≤ i)) = ms.any fun m => fits m w
  | [], _, _, _ => rfl
  | m :: ms, k, n, h => by
    rw [lookFrom, List.any_append, lookFrom_ge w ms (k + 1) n (by omega), List.any_cons]
    by_cases q : fits m w = true
    · rw [if_pos q, q]
      simp [h]
    · rw [if_neg q]
      have q' : fits m w = false := by simpa using q
      rw [q']
      rfl
theorem lookFrom_nge (w : Line) : ∀ (ms : List Pat) (k n : Nat), n ≤ k → ((lookFrom w k ms).any fun i => decide (i < n)) = false
  | [], _, _, _ => rfl
  | m :: ms, k, n, h => by
    rw [lookFrom, List.any_append, lookFrom_nge w ms (k + 1) n (by omega)]
    by_cases q : fits m w = true
    · rw [if_pos q]
      have : ¬ k < n := by omega
      simp [this]
    · rw [if_neg q]
      rfl
theorem lookFrom_append (w : Line) : ∀ (ms ns : List Pat) (k : Nat), lookFrom w k (ms ++ ns) = lookFrom w k ms ++ lookFrom w (k + ms.length) ns
  | [], ns, k => rfl
  | m :: ms, ns, k => by
    show (if fits m w then [k] else []) ++ lookFrom w (k + 1) (ms ++ ns) = ((if fits m w then [k] else []) ++ lookFrom w (k + 1) ms) ++ _
    rw [lookFrom_append w ms ns (k + 1), List.append_assoc, List.length_cons, show k + 1 + ms.length = k + (ms.length + 1) by omega]
theorem face_look (bs es : List Pat) (w : Line) : faceOf bs.length (lookW (bs ++ es) w) = faceW bs es w := by
  unfold faceOf faceW lookW
  rw [lookFrom_append, List.any_append, List.any_append, lookFrom_lt w bs 0 _ (by omega), lookFrom_nge w es _ _ (by omega), lookFrom_nlt w bs 0 _ (by omega), lookFrom_ge w es _ _ (by omega)]
  simp
/-- what looks gives: each look with its least line -/
structure LooksOk (p : Pat) (marks : List Pat) (rows : List (List Nat × Line)) : Prop where
  real : ∀ r ∈ rows, IsLine r.2 ∧ fits p r.2 = true ∧ lookW marks r.2 = r.1
  least : ∀ w, IsLine w → fits p w = true → ∃ r ∈ rows, r.1 = lookW marks w ∧ le r.2 w
def code (f : Face) : Nat := (if f.1 then 2 else 0) + (if f.2 then 1 else 0)
theorem code_inj {f g : Face} (h : code f = code g) : f = g := by
  obtain ⟨a, b⟩ := f
  obtain ⟨c, d⟩ := g
  cases a <;> cases b <;> cases c <;> cases d <;> simp [code] at h ⊢
/-- what faces gives -/
structure FacesOk (p : Pat) (bs es : List Pat) (rows : List (Face × Line)) : Prop where
  real : ∀ r ∈ rows, IsLine r.2 ∧ fits p r.2 = true ∧ faceW bs es r.2 = r.1
  least : ∀ w, IsLine w → fits p w = true → ∃ r ∈ rows, r.1 = faceW bs es w ∧ le r.2 w
  ord : rows.Pairwise fun a b => code a.1 < code b.1
end K35
namespace K35
/-! ### the law's own reckoning -/
def linesAt (rows : List (Face × Line)) (f : Face) : List Line := rows.filterMap fun r => if r.1 = f then some r.2 else none
def minOf (l : Line) (ls : List Line) : Line := ls.foldl (fun b x => if less x b then x else b) l
def leastIn (rows : List (Face × Line)) (f : Face) : Option Line :=
  match linesAt rows f with
  | [] => none
  | l :: ls => some (minOf l ls)
theorem minOf_ok : ∀ (ls : List Line) (l : Line), (minOf l ls = l ∨ minOf l ls ∈ ls) ∧ le (minOf l ls) l ∧ ∀ x ∈ ls, le (minOf l ls) x
  | [], l => ⟨.inl rfl, le_refl _, fun x h => by simp at h⟩
  | y :: ls, l => by
    obtain ⟨h1, h2, h3⟩ := minOf_ok ls (if less y l then y else l)
    have e : minOf l (y :: ls) = minOf (if less y l then y else l) ls := rfl
    rw [e]
    have hl : le (if less y l then y else l) l ∧ le (if less y l then y else l) y := by
      split
      · rename_i q; exact ⟨.inr q, le_refl _⟩
      · rename_i q; exact ⟨le_refl _, not_less.mp q⟩
    refine ⟨?_, le_trans h2 hl.1, fun x hx => ?_⟩
    · rcases h1 with h1 | h1
      · rw [h1]
        split
        · exact .inr List.mem_cons_self
        · exact .inl rfl
      · exact .inr (List.mem_cons_of_mem _ h1)
    · rcases List.mem_cons.mp hx with rfl | hx
      · exact le_trans h2 hl.2
      · exact h3 x hx
theorem mem_linesAt {rows : List (Face × Line)} {f : Face} {l : Line} : l ∈ linesAt rows f ↔ (f, l) ∈ rows := by
  unfold linesAt
  rw [List.mem_filterMap]
  constructor
  · rintro ⟨⟨g, m⟩, hr, h⟩
    by_cases e : g = f
    · rw [if_pos e] at h
      cases h
      rw [← e]
      exact hr
    · rw [if_neg e] at h
      cases h
  · intro h
    exact ⟨(f, l), h, if_pos rfl⟩
theorem leastIn_none {rows : List (Face × Line)} {f : Face} : leastIn rows f = none ↔ ∀ r ∈ rows, r.1 ≠ f := by
  unfold leastIn
  cases e : linesAt rows f with
  | nil =>
    simp only [true_iff]
    rintro ⟨g, l⟩ hr rfl
    have := mem_linesAt.mpr hr
    rw [e] at this
    simp at this
  | cons l ls =>
    simp only [reduceCtorEq, false_iff]
    intro h
    exact h (f, l) (mem_linesAt.mp (by rw [e]; exact List.mem_cons_self)) rfl
theorem leastIn_some {rows : List (Face × Line)} {f : Face} {l : Line} (h : leastIn rows f = some l) : (f, l) ∈ rows ∧ ∀ r ∈ rows, r.1 = f → le l r.2 := by
  unfold leastIn at h
  cases e : linesAt rows f with
  | nil => rw [e] at h; cases h
  | cons m ls =>
    rw [e] at h
    cases h
    obtain ⟨h1, h2, h3⟩ := minOf_ok ls m
    refine ⟨mem_linesAt.mp ?_, ?_⟩
    · rw [e]
      rcases h1 with h1 | h1
      · rw [h1]; exact List.mem_cons_self
      · exact List.mem_cons_of_mem _ h1
    · rintro ⟨g, x⟩ hr rfl
      have := mem_linesAt.mpr hr
      rw [e] at this
      rcases List.mem_cons.mp this with rfl | q
      · exact h2
      · exact h3 x q
def faces4 : List Face := [(false, false), (false, true), (true, false), (true, true)]
def dueFrom (rows : List (Face × Line)) (fs : List Face) : List (Face × Line) := fs.filterMap fun f => (leastIn rows f).map fun l => (f, l)
def due (rows : List (Face × Line)) : List (Face × Line) := dueFrom rows faces4
theorem mem_faces4 (f : Face) : f ∈ faces4 := by
  obtain ⟨a, b⟩ := f
  cases a <;> cases b <;> simp [faces4]
theorem mem_due {rows : List (Face × Line)} {f : Face} {l : Line} : (f, l) ∈ due rows ↔ leastIn rows f = some l := by
  unfold due dueFrom
  rw [List.mem_filterMap]
  constructor
  · rintro ⟨g, _, h⟩
    cases e : leastIn rows g with
    | none => rw [e] at h; cases h
    | some m =>
      rw [e] at h
      have h' : (g, m) = (f, l) := Option.some.inj h
      cases h'
      exact e
  · intro h
    exact ⟨f, mem_faces4 f, by rw [h]; rfl⟩
theorem due_ord (rows : List (Face × Line)) : (due rows).Pairwise fun a b => code a.1 < code b.1 := by
  unfold due dueFrom
  rw [List.pairwise_filterMap]
  have h4 : faces4.Pairwise fun a b => code a < code b := by decide
  refine h4.imp fun {f g} hfg x hx y hy => ?_
  cases e : leastIn rows f with
  | none => rw [e] at hx; cases hx
  | some m =>
    cases e2 : leastIn rows g with
    | none => rw [e2] at hy; cases hy
    | some n =>
      rw [e] at hx
      rw [e2] at hy
      have hx' : (f, m) = x := Option.some.inj hx
      have hy' : (g, n) = y := Option.some.inj hy
      subst hx'
      subst hy'
      exact hfg
theorem ord_eq : ∀ (l m : List (Face × Line)), (l.Pairwise fun a b => code a.1 < code b.1) → (m.Pairwise fun a b => code a.1 < code b.1) → (∀ x, x ∈ l ↔ x ∈ m) → l = m
  | [], [], _, _, _ => rfl
  | [], y :: m, _, _, h => by have := (h y).mpr List.mem_cons_self; simp at this
  | x :: l, [], _, _, h => by have := (h x).mp List.mem_cons_self; simp at this
  | x :: l, y :: m, hl, hm, h => by
    have hx := List.pairwise_cons.mp hl
    have hy := List.pairwise_cons.mp hm
    have e : x = y := by
      rcases List.mem_cons.mp ((h x).mp List.mem_cons_self) with q | q
      · exact q
      · rcases List.mem_cons.mp ((h y).mpr List.mem_cons_self) with r | r
        · exact r.symm
        · have h1 := hx.1 y r
          have h2 := hy.1 x q
          omega
    subst e
    have ih := ord_eq l m hx.2 hy.2 fun z => by
      constructor
      · intro hz
        rcases List.mem_cons.mp ((h z).mp (List.mem_cons_of_mem _ hz)) with q | q
        · subst q
          have := hx.1 z hz
          omega
        · exact q
      · intro hz
        rcases List.mem_cons.mp ((h z).mpr (List.mem_cons_of_mem _ hz)) with q | q
        · subst q
          have := hy.1 z hz
          omega
        · exact q
    rw [ih]
/-- the least line of a face is told by what it is -/
theorem either_due {f g : Form} {bs es : List Pat} {mine theirs both : List (Face × Line)} (h1 : FacesOk (.one f) bs es mine) (h2 : FacesOk (.one g) bs es theirs) (h3 : FacesOk (.either f g) bs es both) : both = due (mine ++ theirs) := by
  refine ord_eq _ _ h3.ord (due_ord _) fun ⟨c, l⟩ => ?_
  rw [mem_due]
  -- every line of one or other is a line of either
  have up : ∀ r ∈ mine ++ theirs, IsLine r.2 ∧ fits (.either f g) r.2 = true ∧ faceW bs es r.2 = r.1 := fun r hr => by
    rcases List.mem_append.mp hr with hr | hr
    · obtain ⟨a, b, c⟩ := h1.real r hr
      exact ⟨a, by show (fitsF f r.2 || fitsF g r.2) = true; rw [show fitsF f r.2 = true from b]; rfl, c⟩
    · obtain ⟨a, b, c⟩ := h2.real r hr
      exact ⟨a, by show (fitsF f r.2 || fitsF g r.2) = true; rw [show fitsF g r.2 = true from b, Bool.or_true], c⟩
  have down : ∀ w, IsLine w → fits (.either f g) w = true → ∃ r ∈ mine ++ theirs, r.1 = faceW bs es w ∧ le r.2 w := fun w hw hf => by
    have hf' : fitsF f w = true ∨ fitsF g w = true := by
      have : (fitsF f w || fitsF g w) = true := hf
      simpa using this
    rcases hf' with q | q
    · obtain ⟨r, hr, z⟩ := h1.least w hw q
      exact ⟨r, List.mem_append_left _ hr, z⟩
    · obtain ⟨r, hr, z⟩ := h2.least w hw q
      exact ⟨r, List.mem_append_right _ hr, z⟩
  have inj : ∀ {x y : Face × Line}, x ∈ both → y ∈ both → x.1 = y.1 → x = y := fun {x y} hx hy e => by
    obtain ⟨i, hi, ei⟩ := List.mem_iff_getElem.mp hx
    obtain ⟨j, hj, ej⟩ := List.mem_iff_getElem.mp hy
    have hp := List.pairwise_iff_getElem.mp h3.ord
    rcases Nat.lt_trichotomy i j with q | q | q
    · have := hp i j hi hj q
      rw [ei, ej, e] at this
      omega
    · subst q; rw [← ei, ← ej]
    · have := hp j i hj hi q
      rw [ei, ej, e] at this
      omega
  constructor
  · intro hm
    obtain ⟨a, b, d⟩ := h3.real _ hm
    obtain ⟨r, hr, r1, r2⟩ := down l a b
    have r1' : r.1 = c := r1.trans d
    cases q : leastIn (mine ++ theirs) c with
    | none => exact absurd r1' (leastIn_none.mp q r hr)
    | some m =>
      obtain ⟨q1, q2⟩ := leastIn_some q
      obtain ⟨a', b', d'⟩ := up _ q1
      obtain ⟨s, hs, s1, s2⟩ := h3.least m a' b'
      have es : s = (c, l) := inj hs hm (s1.trans d')
      rw [es] at s2
      have l1 : le m l := le_trans (q2 r hr r1') r2
      rw [le_antisymm l1 s2]
  · intro q
    obtain ⟨q1, q2⟩ := leastIn_some q
    obtain ⟨a', b', d'⟩ := up _ q1
    obtain ⟨s, hs, s1, s2⟩ := h3.least l a' b'
    obtain ⟨a, b, d⟩ := h3.real s hs
    obtain ⟨r, hr, r1, r2⟩ := down s.2 a b
    have e1 : s.1 = c := s1.trans d'
    have l1 : le l s.2 := le_trans (q2 r hr (r1.trans (d.trans e1))) r2
    have : s = (c, l) := by
      rw [← e1, le_antisymm l1 s2]
    rw [← this]
    exact hs
theorem both_fine {f g : Form} {bs es : List Pat} {mine theirs rows : List (Face × Line)} (h1 : FacesOk (.one f) bs es mine) (h2 : FacesOk (.one g) bs es theirs) (h3 : FacesOk (.both f g) bs es rows) {r : Face × Line} (hr : r ∈ rows) :
    IsLine r.2 ∧ fitsF f r.2 = true ∧ fitsF g r.2 = true ∧ (∃ l, leastIn mine r.1 = some l ∧ ¬ less r.2 l) ∧ (∃ l, leastIn theirs r.1 = some l ∧ ¬ less r.2 l) := by
  obtain ⟨a, b, d⟩ := h3.real r hr
  have b' : fitsF f r.2 = true ∧ fitsF g r.2 = true := by
    have : (fitsF f r.2 && fitsF g r.2) = true := b
    simpa using this
  have key : ∀ (h : Form) (rs : List (Face × Line)), FacesOk (.one h) bs es rs → fitsF h r.2 = true → ∃ l, leastIn rs r.1 = some l ∧ ¬ less r.2 l := fun h rs hk hf => by
    obtain ⟨s, hs, s1, s2⟩ := hk.least r.2 a hf
    have e : s.1 = r.1 := s1.trans d
    cases q : leastIn rs r.1 with
    | none => exact absurd e (leastIn_none.mp q s hs)
    | some l => exact ⟨l, rfl, not_less.mpr (le_trans ((leastIn_some q).2 s hs e) s2)⟩
  exact ⟨a, b'.1, b'.2, key f mine h1 b'.1, key g theirs h2 b'.2⟩
/-! ### from what scanned gives to what looks and faces give -/
/-- the first line of each look, in the order of the entries -/
def lookStep (p : Pat) (marks : List Pat) (found : List (List Nat × Line)) (w : Line) : List (List Nat × Line) :=
  if fits p w = true then (if lookW marks w ∈ found.map (·.1) then found else found ++ [(lookW marks w, w)]) else found
structure LookInv (p : Pat) (marks : List Pat) (pre : List Line) (found : List (List Nat × Line)) : Prop where
  real : ∀ r ∈ found, r.2 ∈ pre ∧ fits p r.2 = true ∧ lookW marks r.2 = r.1
  all : ∀ w ∈ pre, fits p w = true → ∃ r ∈ found, r.1 = lookW marks w ∧ le r.2 w
  nodup : (found.map (·.1)).Nodup
theorem LookInv.nil (p : Pat) (marks : List Pat) : LookInv p marks [] [] := ⟨fun r h => by simp at h, fun w h => by simp at h, by simp⟩
theorem LookInv.step {p : Pat} {marks : List Pat} {pre : List Line} {found : List (List Nat × Line)} (I : LookInv p marks pre found) {w : Line} (hw : ∀ u ∈ pre, less u w) : LookInv p marks (pre ++ [w]) (lookStep p marks found w) := by
  unfold lookStep
  by_cases hf : fits p w = true
  · rw [if_pos hf]
    by_cases hm : lookW marks w ∈ found.map (·.1)
    · rw [if_pos hm]
      refine ⟨fun r hr => ?_, fun u hu hfu => ?_, I.nodup⟩
      · obtain ⟨a, b⟩ := I.real r hr
        exact ⟨List.mem_append_left _ a, b⟩
      · rcases List.mem_append.mp hu with hu | hu
        · exact I.all u hu hfu
        · simp at hu
          subst hu
          obtain ⟨r, hr, e⟩ := List.mem_map.mp hm
          exact ⟨r, hr, e, .inr (hw _ (I.real r hr).1)⟩
    · rw [if_neg hm]
      refine ⟨fun r hr => ?_, fun u hu hfu => ?_, ?_⟩
      · rcases List.mem_append.mp hr with hr | hr
        · obtain ⟨a, b⟩ := I.real r hr
          exact ⟨List.mem_append_left _ a, b⟩
        · simp at hr
          subst hr
          exact ⟨by simp, hf, rfl⟩
      · rcases List.mem_append.mp hu with hu | hu
        · obtain ⟨r, hr, q⟩ := I.all u hu hfu
          exact ⟨r, List.mem_append_left _ hr, q⟩
        · simp at hu
          subst hu
          exact ⟨(lookW marks u, u), by simp, rfl, le_refl _⟩
      · rw [List.map_append, List.nodup_append]
        refine ⟨I.nodup, by simp, fun a ha b hb => ?_⟩
        simp at hb
        subst hb
        rintro rfl
        exact hm ha
  · rw [if_neg hf]
    refine ⟨fun r hr => ?_, fun u hu hfu => ?_, I.nodup⟩
    · obtain ⟨a, b⟩ := I.real r hr
      exact ⟨List.mem_append_left _ a, b⟩
    · rcases List.mem_append.mp hu with hu | hu
      · exact I.all u hu hfu
      · simp at hu
        subst hu
        exact absurd hfu hf
theorem LookInv.looks {p : Pat} {marks : List Pat} {rows : List (List Cell)} {res : List (Line × State)} {found : List (List Nat × Line)} (hs : ScanOk rows res) (hp : ∀ f ∈ p.forms, cellsOf f ∈ rows) (hm : ∀ m ∈ marks, ∀ f ∈ m.forms, cellsOf f ∈ rows)
    (I : LookInv p marks (res.map (·.1)) found) : LooksOk p marks found := by
  have same : ∀ {w u : Line}, runs rows w = runs rows u → ∀ r ∈ rows, run r w = run r u := fun {w u} e r hr => by
    have := List.map_inj_left.mp e
    exact this r hr
  have sf : ∀ {w u : Line}, runs rows w = runs rows u → ∀ q : Pat, (∀ f ∈ q.forms, cellsOf f ∈ rows) → fits q w = fits q u := fun {w u} e q hq => by
    rw [← holds_fits, ← holds_fits]
    congr 1
    refine List.map_congr_left fun f hf => ?_
    unfold fitsF
    rw [same e _ (hq f hf)]
  have sl : ∀ {w u : Line}, runs rows w = runs rows u → lookW marks w = lookW marks u := fun {w u} e => by
    have : ∀ (ms : List Pat) (k : Nat), (∀ m ∈ ms, ∀ f ∈ m.forms, cellsOf f ∈ rows) → lookFrom w k ms = lookFrom u k ms := by
      intro ms
      induction ms with
      | nil => exact fun _ _ => rfl
      | cons m ms ih =>
        intro k h
        rw [lookFrom, lookFrom, ih (k + 1) fun x hx => h x (List.mem_cons_of_mem _ hx), sf e m (h m List.mem_cons_self)]
    exact this marks 0 hm
  refine ⟨fun r hr => ?_, fun w hw hf => ?_⟩
  · obtain ⟨a, b, c⟩ := I.real r hr
    obtain ⟨e, he, q⟩ := List.mem_map.mp a
    exact ⟨by rw [← q]; exact (hs.real e he).1, b, c⟩
  · obtain ⟨e, he, e2, e3⟩ := hs.least w hw
    have er : runs rows e.1 = runs rows w := by rw [← (hs.real e he).2]; exact e2
    obtain ⟨r, hr, r1, r2⟩ := I.all e.1 (List.mem_map.mpr ⟨e, he, rfl⟩) (by rw [sf er p hp]; exact hf)
    exact ⟨r, hr, by rw [r1, sl er], le_trans r2 e3⟩
/-- the least line of each face so far -/
def bestStep (many : Nat) (best : List (Face × Line)) (r : List Nat × Line) : List (Face × Line) :=
  match best.find? (fun b => decide (b.1 = faceOf many r.1)) with
  | none => best ++ [(faceOf many r.1, r.2)]
  | some b => if less r.2 b.2 then best.map fun x => if x.1 = faceOf many r.1 then (x.1, r.2) else x else best
structure BestInv (many : Nat) (pre : List (List Nat × Line)) (best : List (Face × Line)) : Prop where
  real : ∀ b ∈ best, ∃ r ∈ pre, faceOf many r.1 = b.1 ∧ r.2 = b.2
  all : ∀ r ∈ pre, ∃ b ∈ best, b.1 = faceOf many r.1 ∧ le b.2 r.2
  nodup : (best.map (·.1)).Nodup
theorem BestInv.nil (many : Nat) : BestInv many [] [] := ⟨fun r h => by simp at h, fun w h => by simp at h, by simp⟩
theorem BestInv.new {many : Nat} {pre : List (List Nat × Line)} {best : List (Face × Line)} (I : BestInv many pre best) {r : List Nat × Line} (hn : faceOf many r.1 ∉ best.map (·.1)) : BestInv many (pre ++ [r]) (best ++ [(faceOf many r.1, r.2)]) := by
  refine ⟨fun b hb => ?_, fun x hx => ?_, ?_⟩
  · rcases List.mem_append.mp hb with hb | hb
    · obtain ⟨x, hx, q⟩ := I.real b hb
      exact ⟨x, List.mem_append_left _ hx, q⟩
    · simp at hb
      subst hb
      exact ⟨r, by simp, rfl, rfl⟩
  · rcases List.mem_append.mp hx with hx | hx
    · obtain ⟨b, hb, q⟩ := I.all x hx
      exact ⟨b, List.mem_append_left _ hb, q⟩
    · simp at hx
      subst hx
      exact ⟨(faceOf many x.1, x.2), by simp, rfl, le_refl _⟩
  · rw [List.map_append, List.nodup_append]
    refine ⟨I.nodup, by simp, fun a ha b hb => ?_⟩
    simp at hb
    subst hb
    rintro rfl
    exact hn ha
theorem BestInv.less_ {many : Nat} {pre : List (List Nat × Line)} {best : List (Face × Line)} (I : BestInv many pre best) {r : List Nat × Line} {b0 : Face × Line} (hb0 : b0 ∈ best) (e0 : b0.1 = faceOf many r.1) (hl : less r.2 b0.2) :
    BestInv many (pre ++ [r]) (best.map fun x => if x.1 = faceOf many r.1 then (x.1, r.2) else x) := by
  have uniq : ∀ x ∈ best, x.1 = faceOf many r.1 → x = b0 := fun x hx e => by
    obtain ⟨i, hi, ei⟩ := List.mem_iff_getElem.mp hx
    obtain ⟨j, hj, ej⟩ := List.mem_iff_getElem.mp hb0
    have hij : i = j := by
      have h1 : (best.map (·.1))[i]? = some x.1 := by rw [List.getElem?_map, List.getElem?_eq_getElem hi, ei]; rfl
      have h2 : (best.map (·.1))[j]? = some b0.1 := by rw [List.getElem?_map, List.getElem?_eq_getElem hj, ej]; rfl
      rw [e, ← e0] at h1
      exact (List.getElem?_inj (by simpa using hi) I.nodup).mp (h1.trans h2.symm)
    subst hij
    rw [← ei, ← ej]
  refine ⟨fun b hb => ?_, fun x hx => ?_, ?_⟩
  · obtain ⟨x, hx, rfl⟩ := List.mem_map.mp hb
    by_cases e : x.1 = faceOf many r.1
    · rw [if_pos e]
      exact ⟨r, by simp, e.symm, rfl⟩
    · rw [if_neg e]
      obtain ⟨y, hy, q⟩ := I.real x hx
      exact ⟨y, List.mem_append_left _ hy, q⟩
  · have old : ∀ b ∈ best, ∀ y : List Nat × Line, b.1 = faceOf many y.1 → le b.2 y.2 → ∃ b' ∈ best.map (fun x => if x.1 = faceOf many r.1 then (x.1, r.2) else x), b'.1 = faceOf many y.1 ∧ le b'.2 y.2 := fun b hb y e1 e2 => by
      by_cases e : b.1 = faceOf many r.1
      · refine ⟨(b.1, r.2), List.mem_map.mpr ⟨b, hb, if_pos e⟩, e1, ?_⟩
        have : b = b0 := uniq b hb e
        rw [this] at e2
        exact le_trans (.inr hl) e2
      · exact ⟨b, List.mem_map.mpr ⟨b, hb, if_neg e⟩, e1, e2⟩
    rcases List.mem_append.mp hx with hx | hx
    · obtain ⟨b, hb, q1, q2⟩ := I.all x hx
      exact old b hb x q1 q2
    · simp at hx
      subst hx
      exact ⟨(b0.1, x.2), List.mem_map.mpr ⟨b0, hb0, if_pos e0⟩, e0, le_refl _⟩
  · have : (best.map fun x => if x.1 = faceOf many r.1 then (x.1, r.2) else x).map (·.1) = best.map (·.1) := by
      rw [List.map_map]
      refine List.map_congr_left fun x _ => ?_
      show (if x.1 = faceOf many r.1 then (x.1, r.2) else x).1 = x.1
      split <;> rfl
    rw [this]
    exact I.nodup
theorem BestInv.kept {many : Nat} {pre : List (List Nat × Line)} {best : List (Face × Line)} (I : BestInv many pre best) {r : List Nat × Line} {b0 : Face × Line} (hb0 : b0 ∈ best) (e0 : b0.1 = faceOf many r.1) (hl : ¬ less r.2 b0.2) :
    BestInv many (pre ++ [r]) best := by
  refine ⟨fun b hb => ?_, fun x hx => ?_, I.nodup⟩
  · obtain ⟨x, hx, q⟩ := I.real b hb
    exact ⟨x, List.mem_append_left _ hx, q⟩
  · rcases List.mem_append.mp hx with hx | hx
    · exact I.all x hx
    · simp at hx
      subst hx
      exact ⟨b0, hb0, e0, not_less.mp hl⟩
theorem BestInv.faces {p : Pat} {bs es : List Pat} {rows : List (List Nat × Line)} {best out : List (Face × Line)} (hl : LooksOk p (bs ++ es) rows) (I : BestInv bs.length rows best) (hmem : ∀ x, x ∈ out ↔ x ∈ best) (ho : out.Pairwise fun a b => code a.1 < code b.1) : FacesOk p bs es out := by
  refine ⟨fun r hr => ?_, fun w hw hf => ?_, ho⟩
  · obtain ⟨x, hx, e1, e2⟩ := I.real r ((hmem r).mp hr)
    obtain ⟨a, b, c⟩ := hl.real x hx
    rw [← e2]
    refine ⟨a, b, ?_⟩
    rw [← face_look, c, e1]
  · obtain ⟨r, hr, r1, r2⟩ := hl.least w hw hf
    obtain ⟨b, hb, b1, b2⟩ := I.all r hr
    exact ⟨b, (hmem b).mpr hb, by rw [b1, r1, face_look], le_trans b2 r2⟩
end K35
namespace K35
open PySem L2
/-! ### the text by places -/
def top (i : Nat) : Stmt := PySem.Challenge.pw_gluedlines_k35_whole_faces_of_a_choice.main.body.getD i (.Pass ⟨0, 0, 0, 0⟩)
/-- a def of the module at the name g -/
structure Def (K : PySem.W.Frag) (mg : Str → Option Value) (g x : Str) (st : Stmt) (ps : List Str) where
  f : Addr
  fd : FuncData
  F : Fun K x x st f fd
  m : mg g = some (.ref f)
  b : Binds K fd ps []
/-- a method of the class at C -/
structure Met (K : PySem.W.Frag) (C : Addr) (x qual : Str) (st : Stmt) (ps : List Str) where
  f : Addr
  fd : FuncData
  F : Fun K x qual st f fd
  m : Meth K C x f
  b : Binds K fd ps []
/-! ### texts -/
def strOf (w : List Nat) : Str := ⟨w.toArray⟩
theorem strOf_list (w : List Nat) : (strOf w).cps.toList = w := rfl
theorem strOf_len (w : List Nat) : (strOf w).length = w.length := by
  show w.toArray.size = _
  simp
theorem strOf_app (a b : List Nat) : strOf a ++ strOf b = strOf (a ++ b) := by
  show (⟨a.toArray ++ b.toArray⟩ : Str) = ⟨(a ++ b).toArray⟩
  simp
theorem strOf_inj {a b : List Nat} : strOf a = strOf b ↔ a = b := by
  constructor
  · intro h
    have h2 := congrArg (fun z : Str => z.cps.toList) h
    exact h2
  · rintro rfl; rfl
theorem strOf_of (z : Str) : strOf z.cps.toList = z := rfl
abbrev one (c : Nat) : Str := ⟨#[c]⟩
theorem one_eq (c : Nat) : one c = strOf [c] := rfl
theorem one_inj {c d : Nat} : one c = one d ↔ c = d := by rw [one_eq, one_eq, strOf_inj]; simp
abbrev anyS : Str := "<any>"
abbrev digS : Str := "<digits>"
abbrev wordS : Str := "<word>"
abbrev signsS : Str := " #-.0123456789:>ABCDEFGHIJKLMNOPQRSTUVWXYZabcdefghijklmnopqrstuvwxyz"
abbrev digitsS : Str := "0123456789"
abbrev lettersS : Str := "ABCDEFGHIJKLMNOPQRSTUVWXYZabcdefghijklmnopqrstuvwxyz"
theorem signs_cps : signsS.cps.toList = signsAll := by decide +kernel
theorem digits_cps : digitsS.cps.toList = digs := by decide +kernel
theorem letters_cps : lettersS.cps.toList = lets := by decide +kernel
theorem any_len : anyS.cps.toList.length = 5 := by decide +kernel
theorem dig_len : digS.cps.toList.length = 8 := by decide +kernel
theorem word_len : wordS.cps.toList.length = 6 := by decide +kernel
theorem any_ne_dig : ¬ anyS = digS := by decide +kernel
theorem any_ne_word : ¬ anyS = wordS := by decide +kernel
theorem dig_ne_word : ¬ digS = wordS := by decide +kernel
theorem short_ne_any {w : List Nat} (h : w.length ≤ 4) : ¬ strOf w = anyS := fun e => by
  have := congrArg (fun z : Str => z.cps.toList.length) e
  have h2 : w.length = 5 := this.trans any_len
  omega
theorem short_ne_dig {w : List Nat} (h : w.length ≤ 4) : ¬ strOf w = digS := fun e => by
  have := congrArg (fun z : Str => z.cps.toList.length) e
  have h2 : w.length = 8 := this.trans dig_len
  omega
theorem short_ne_word {w : List Nat} (h : w.length ≤ 4) : ¬ strOf w = wordS := fun e => by
  have := congrArg (fun z : Str => z.cps.toList.length) e
  have h2 : w.length = 6 := this.trans word_len
  omega
/-! ### cells as values -/
def cellS : Cell → Str
  | .any => anyS
  | .digits => digS
  | .word => wordS
  | .sign c => one c
def cellV (x : Cell) : V := .str (cellS x)
theorem cellS_any (x : Cell) : cellS x = anyS ↔ x = .any := by
  cases x with
  | any => simp [cellS]
  | digits => exact ⟨fun h => absurd h.symm any_ne_dig, fun h => nomatch h⟩
  | word => exact ⟨fun h => absurd h.symm any_ne_word, fun h => nomatch h⟩
  | sign c => exact ⟨fun h => absurd h (short_ne_any (w := [c]) (by simp)), fun h => nomatch h⟩
theorem cellS_dig (x : Cell) : cellS x = digS ↔ x = .digits := by
  cases x with
  | any => exact ⟨fun h => absurd h any_ne_dig, fun h => nomatch h⟩
  | digits => simp [cellS]
  | word => exact ⟨fun h => absurd h.symm dig_ne_word, fun h => nomatch h⟩
  | sign c => exact ⟨fun h => absurd h (short_ne_dig (w := [c]) (by simp)), fun h => nomatch h⟩
theorem cellS_word (x : Cell) : cellS x = wordS ↔ x = .word := by
  cases x with
  | any => exact ⟨fun h => absurd h any_ne_word, fun h => nomatch h⟩
  | digits => exact ⟨fun h => absurd h dig_ne_word, fun h => nomatch h⟩
  | word => simp [cellS]
  | sign c => exact ⟨fun h => absurd h (short_ne_word (w := [c]) (by simp)), fun h => nomatch h⟩
theorem dec_str_iff {a b : Str} {p : Prop} [Decidable p] (h : a = b ↔ p) : decide (V.str a = V.str b) = decide p := by
  rw [decide_eq_decide]
  constructor
  · intro e
    exact h.mp (by injection e)
  · intro q
    rw [h.mpr q]
/-- ints -/
def intsV (l : List Nat) : List V := l.map fun k => V.int (k : Nat)
theorem intsV_flat (l : List Nat) : (intsV l).all flatV = true := by
  unfold intsV
  rw [List.all_map, List.all_eq_true]
  exact fun _ _ => rfl
theorem inV_ints (k : Nat) (l : List Nat) : inV (.int (k : Nat)) (intsV l) = decide (k ∈ l) := by
  unfold inV intsV
  rw [List.any_map, Bool.eq_iff_iff, List.any_eq_true, decide_eq_true_iff]
  constructor
  · rintro ⟨y, hy, h⟩
    have h2 : ((y : Nat) : Int) = (k : Nat) := by simpa [eqV] using h
    have : y = k := by omega
    rw [← this]; exact hy
  · intro h
    exact ⟨k, h, by simp [eqV]⟩
theorem strs_flat (l : List Str) : (l.map V.str).all flatV = true := by
  rw [List.all_map, List.all_eq_true]
  exact fun _ _ => rfl
theorem inV_strs (x : Str) (l : List Str) : inV (.str x) (l.map V.str) = decide (x ∈ l) := by
  unfold inV
  rw [List.any_map, Bool.eq_iff_iff, List.any_eq_true, decide_eq_true_iff]
  constructor
  · rintro ⟨y, hy, h⟩
    have h2 : y = x := by simpa [eqV] using h
    rw [← h2]; exact hy
  · intro h
    exact ⟨x, h, by simp [eqV]⟩
theorem intsV_length (l : List Nat) : (intsV l).length = l.length := List.length_map ..
theorem intsV_app (l m : List Nat) : intsV (l ++ m) = intsV l ++ intsV m := List.map_append ..
theorem intsV_get (l : List Nat) (i : Nat) : (intsV l)[i]? = l[i]?.map fun k => V.int (k : Nat) := List.getElem?_map ..
theorem intsV_some {l : List Nat} {i : Nat} {x : V} (h : (intsV l)[i]? = some x) : ∃ k, l[i]? = some k ∧ x = .int (k : Nat) := by
  rw [intsV_get] at h
  cases e : l[i]? with
  | none => rw [e] at h; cases h
  | some k => rw [e] at h; exact ⟨k, rfl, (Option.some.inj h).symm⟩
/-! ### heaps -/
theorem same_upd {H : Hp} {p : Addr} {o : HO} (h : H p = none) : Same H (upd H p o) := fun b u e => by
  rw [upd_ne (ne_of_none e h)]; exact e
theorem same_new {H H1 : Hp} {p : Addr} {o : HO} (s : Same H H1) (h : H1 p = none) : Same H (upd H1 p o) := s.trans (same_upd h)
theorem same_over {H H1 : Hp} {p : Addr} {o : HO} (s : Same H H1) (h : H p = none) : Same H (upd H1 p o) := fun b u e => by
  rw [upd_ne (ne_of_none e h)]; exact s b u e
theorem same_tup {K : PySem.W.Frag} {H H' : Hp} {a : Addr} {xs : List V} (e : Same H H') (h : SqT K H a xs) : SqT K H' a xs := by
  rcases h with (h | ⟨o, h⟩) | h
  · exact .inl (.inl (e _ _ h))
  · exact .inl (.inr ⟨o, e _ _ h⟩)
  · exact .inr h
/-- a list or a tuple -/
def Sq (K : PySem.W.Frag) (H : Hp) (a : Addr) (xs : List V) : Prop := SqL K H a xs ∨ SqT K H a xs
theorem same_sq {K : PySem.W.Frag} {H H' : Hp} {a : Addr} {xs : List V} (e : Same H H') (h : Sq K H a xs) : Sq K H' a xs := h.elim (fun z => .inl (e.seq z)) fun z => .inr (same_tup e z)
theorem line_big {n : Nat} (h : n ≤ 16777216) : n ≤ sizeLine := by rw [sizeLine_eq]; exact h
theorem line_lt {n : Nat} (h : n < 16777216) : n < sizeLine := by rw [sizeLine_eq]; exact h
/-! ### list(text) -/
section
variable {X : Cx}
theorem call_listS (hc : X.calm = true) : CallR X (.type "list") (fun xs H Q => ∃ z : Str, xs = [.str z] ∧ z.length ≤ sizeLine ∧ ∀ l, H l = none → Q (.ref l) (upd H l (.lst (z.cps.toList.map fun c => V.str (one c))))) := by
  intro pins s σ H xs us Q I r h
  obtain ⟨z, rfl, hz, q⟩ := h
  obtain ⟨u, rfl, t, rfl⟩ := vals1 r
  refine PySem.call_list_str (I.ok.hd hc) z t (fun h' tk acc c kp hl hi => ?_) hz
  have hv : Vals (z.cps.toList.map fun c => V.str (one c)) acc.toList := by
    have hlen : acc.toList.length = z.cps.toList.length := by
      have := hi.1
      simp only [Array.length_toList]
      exact this
    have key : ∀ (l : List Nat) (m : List Value), m.length = l.length → (∀ (i : Nat) (v : Value), m[i]? = some v → ∃ c u, l[i]? = some c ∧ v = Value.str (one c) u) → Vals (l.map fun c => V.str (one c)) m := by
      intro l
      induction l with
      | nil =>
        intro m hm _
        cases m with
        | nil => exact .nil
        | cons a m => simp at hm
      | cons c l ih =>
        intro m hm hp
        cases m with
        | nil => simp at hm
        | cons v m =>
          obtain ⟨c', u, e1, e2⟩ := hp 0 v rfl
          have e1' : c = c' := Option.some.inj e1
          subst e1'
          exact .cons ⟨u, e2⟩ (ih m (by simpa using hm) fun i v hv => by simpa using hp (i + 1) v (by simpa using hv))
    refine key _ _ hlen fun i v hv => ?_
    obtain ⟨c, u, e1, e2⟩ := hi.2 i v (by simpa using hv)
    exact ⟨c, u, by simpa using e1, e2⟩
  have hz2 : (z.cps.toList.map fun c => V.str (one c)).length ≤ sizeLine := by
    rw [List.length_map, Array.length_toList]; exact hz
  exact ⟨.ref s.heap.objs.size, _, I.laid kp (Nat.le_refl _) (show ObjOk X.prog X.w _ h' _ (.lst _) from ⟨hz2, acc.toList, c, hv, hl⟩), rfl, q _ (I.hok.fresh (Nat.le_refl _))⟩
end
end K35
namespace K35
open PySem L2
/-! ### what the top has written -/
structure Met0 (K : PySem.W.Frag) (C : Addr) (x qual : Str) (st : Stmt) where
  f : Addr
  fd : FuncData
  F : Fun K x qual st f fd
  m : Meth K C x f
/-- a class of the module at the name x -/
structure ClsT (K : PySem.W.Frag) (mg : Str → Option Value) (x : Str) where
  C : Addr
  m : mg x = some (.ref C)
  cl : Cls K C
  makes : PySem.W.makesIn K C = true
  kp : PySem.W.keepIn K (.ref C) = true
  ha : PySem.W.findIn K (.ref C) "__class__" = some (some (.builtin "object.__class__"))
  hn : PySem.W.specialIn K (.builtin "object.__class__") "__get__" = some (some (.builtin "getset_descriptor.__get__"))
  ht : PySem.W.takesIn K (.builtin "object.__class__") = some true
  hm : PySem.W.mroIn K C (.type "object") = some true
structure Txt (K : PySem.W.Frag) (mg : Str → Option Value) where
  zIsinstance : mg "isinstance" = none
  zStr : mg "str" = none
  zList : mg "list" = none
  zRange : mg "range" = none
  zLen : mg "len" = none
  zTuple : mg "tuple" = none
  zEnumerate : mg "enumerate" = none
  zSorted : mg "sorted" = none
  zAny : mg "any" = none
  zInt : mg "int" = none
  zBool : mg "bool" = none
  zMax : mg "max" = none
  zMin : mg "min" = none
  kSIGNS : ∃ t, mg "SIGNS" = some (.str signsS t)
  kDIGITSIGNS : ∃ t, mg "DIGIT_SIGNS" = some (.str digitsS t)
  kLETTERSIGNS : ∃ t, mg "LETTER_SIGNS" = some (.str lettersS t)
  kDIGITSCELL : ∃ t, mg "DIGITS_CELL" = some (.str digS t)
  kWORDCELL : ∃ t, mg "WORD_CELL" = some (.str wordS t)
  kANYCELL : ∃ t, mg "ANY_CELL" = some (.str anyS t)
  kMOSTFORMS : ∃ t, mg "MOST_FORMS" = some (.int 3 t)
  kMOSTPARTS : ∃ t, mg "MOST_PARTS" = some (.int 4 t)
  kMOSTSIGNS : ∃ t, mg "MOST_SIGNS" = some (.int 4 t)
  free : Addr
  kFREE : mg "FREE_CELLS" = some (.ref free)
  sFREE : ∀ H : Hp, SqT K H free ([digS, wordS, anyS].map V.str)
  fields : Addr
  kFIELDS : mg "FIELDS" = some (.ref fields)
  sFIELDS : ∀ H : Hp, SqT K H fields ((["most", "alone", "tags", "quiet"] : List Str).map V.str)
  dIsLine : Def K mg "is_line" "is_line" (top 5) ["thing"]
  dCellsOf : Def K mg "cells_of" "cells_of" (top 11) ["parts"]
  dTakes : Def K mg "takes" "takes" (top 12) ["cell", "sign"]
  dClosed : Def K mg "closed" "closed" (top 13) ["cells", "positions"]
  dStarted : Def K mg "started" "started" (top 14) ["cells"]
  dMoved : Def K mg "moved" "moved" (top 15) ["cells", "positions", "sign"]
  dIsDone : Def K mg "is_done" "is_done" (top 16) ["cells", "positions"]
  dBegin : Def K mg "begin" "begin" (top 18) ["forms"]
  dStepped : Def K mg "stepped" "stepped" (top 19) ["rows", "state", "sign"]
  dTruths : Def K mg "truths" "truths" (top 20) ["forms", "state"]
  dKindOf : Def K mg "kind_of" "kind_of" (top 21) ["sign"]
  dSignsFor : Def K mg "signs_for" "signs_for" (top 22) ["forms"]
  dScanned : Def K mg "scanned" "scanned" (top 24) ["forms"]
  dLookOf : Def K mg "look_of" "look_of" (top 25) ["marks", "told"]
  dLooks : Def K mg "looks" "looks" (top 26) ["pattern", "marks"]
  dIsLess : Def K mg "is_less" "is_less" (top 28) ["line", "other"]
  dFaces : Def K mg "faces" "faces" (top 29) ["pattern", "rule"]
  dIsAllowedPatterns : Def K mg "is_allowed_patterns" "is_allowed" (top 38) ["parts", "at"]
  dIsAllowedRules : Def K mg "is_allowed_rules" "is_allowed" (top 46) ["field", "value"]
  dCheckSettings : Def K mg "check_settings" "check_settings" (top 48) ["settings"]
  dLawPool : Def K mg "_law_pool" "_law_pool" (top 52) ["_law_script", "_law_k"]
  dLawTake : Def K mg "_law_take" "_law_take" (top 53) ["_law_pool_here", "_law_many"]
  dLawAllSigns : Def K mg "_law_all_signs" "_law_all_signs" (top 54) []
  dLawText : Def K mg "_law_text" "_law_text" (top 55) ["_law_pool_here"]
  dLawParts : Def K mg "_law_parts" "_law_parts" (top 56) ["_law_pool_here"]
  dLawForm : Def K mg "_law_form" "_law_form" (top 57) ["_law_parts_here"]
  dLawTree : Def K mg "_law_tree" "_law_tree" (top 58) ["_law_pool_here"]
  dLawBuilt : Def K mg "_law_built" "_law_built" (top 59) ["_law_tree_here"]
  dLawRule : Def K mg "_law_rule" "_law_rule" (top 60) ["_law_pool_here"]
  dLawMarks : Def K mg "_law_marks" "_law_marks" (top 61) ["_law_trees"]
  dLawRuled : Def K mg "_law_ruled" "_law_ruled" (top 62) ["_law_rule_here"]
  dLawLeast : Def K mg "_law_least" "_law_least" (top 63) ["_law_rows", "_law_face"]
  dLawRight : Def K mg "_law_right" "_law_right" (top 64) ["_law_one", "_law_other", "_law_rule_here"]
  dLawShort : Def K mg "_law_short" "_law_short" (top 65) ["_law_trees"]
  cForm : ClsT K mg "Form"
  cBoth : ClsT K mg "Both"
  cEither : ClsT K mg "Either"
  cRule : ClsT K mg "Rule"
  nFormPieces : NoAttr K cForm.C "pieces"
  nBothLeft : NoAttr K cBoth.C "left"
  nBothRight : NoAttr K cBoth.C "right"
  nEitherLeft : NoAttr K cEither.C "left"
  nEitherRight : NoAttr K cEither.C "right"
  nRuleOpeners : NoAttr K cRule.C "openers"
  nRuleClosers : NoAttr K cRule.C "closers"
  nRuleSettings : NoAttr K cRule.C "settings"
  iBoth : Met K cBoth.C "__init__" "Both.__init__" (inClass (top 42) 0) ["self", "one", "other"]
  iEither : Met K cEither.C "__init__" "Either.__init__" (inClass (top 43) 0) ["self", "one", "other"]
  mParts : Met K cForm.C "parts" "Form.parts" (inClass (top 41) 5) ["self"]
  mForms : Met K cForm.C "forms" "Form.forms" (inClass (top 41) 6) ["self"]
  mHolds : Met K cForm.C "holds" "Form.holds" (inClass (top 41) 7) ["self", "truths"]
  bForms : Met K cBoth.C "forms" "Both.forms" (inClass (top 42) 2) ["self"]
  bHolds : Met K cBoth.C "holds" "Both.holds" (inClass (top 42) 3) ["self", "truths"]
  eForms : Met K cEither.C "forms" "Either.forms" (inClass (top 43) 2) ["self"]
  eHolds : Met K cEither.C "holds" "Either.holds" (inClass (top 43) 3) ["self", "truths"]
  mAnd : Met K cForm.C "__and__" "Pattern.__and__" (inClass (top 40) 0) ["self", "other"]
  mOr : Met K cForm.C "__or__" "Pattern.__or__" (inClass (top 40) 1) ["self", "other"]
  mContains : Met K cForm.C "__contains__" "Pattern.__contains__" (inClass (top 40) 2) ["self", "line"]
  rBegins : Met K cRule.C "begins" "Rule.begins" (inClass (top 50) 10) ["self"]
  rEnds : Met K cRule.C "ends" "Rule.ends" (inClass (top 50) 11) ["self"]
  iForm : Met0 K cForm.C "__init__" "Form.__init__" (inClass (top 41) 3)
  iRule : Met0 K cRule.C "__init__" "Rule.__init__" (inClass (top 50) 0)
  neFB : ¬ cForm.C = cBoth.C
  neFE : ¬ cForm.C = cEither.C
  neBE : ¬ cBoth.C = cEither.C
  sfForm : PySem.W.selfFirst K cForm.C = true
  pattern : Addr
  kPattern : mg "Pattern" = some (.ref pattern)
  kitForm : PySem.W.kitOne K (.ref cForm.C) (.ref pattern) = some true
end K35
namespace K35
open PySem L2
section
variable {P : Program} {w : World} {K : PySem.W.Frag} {mg : Str → Option Value} {base : Heap}
theorem kit_str_str {K : PySem.W.Frag} : PySem.W.kitOne K (.type "str") (.type "str") = some true := by first | rfl | decide +kernel
/-! ### is_line -/
def isLineB (l : List Nat) : Bool := !l.isEmpty && l.all fun c => decide (c ∈ signsAll)
def spIsLine : Sp := fun vs H Q _ => ∃ z : Str, vs = [.str z] ∧ Q (.bl (isLineB z.cps.toList)) H
theorem scIsLine : FnScope ["thing", "sign"] ["thing"] (defScope (top 5)) := ⟨rfl, rfl, rfl, by decide +kernel, rfl, by decide +kernel, by decide +kernel⟩
theorem ok_is_line (T : Txt K mg) : FnOk P w K mg base CX0 1 T.dIsLine.f T.dIsLine.fd ["thing"] spIsLine := by
  obtain ⟨tS, kS⟩ := T.kSIGNS
  refine T.dIsLine.F.ok scIsLine (fun vs H Q E h => ?_) (fun cdv A outer s H vs Q E hr h => ?_)
  · obtain ⟨z, rfl, _⟩ := h
    rfl
  · obtain ⟨z, rfl, k⟩ := h
    refine ⟨_, pss_cons (ps_if (PW.pt (pw_or (pt_not (pt_val (pe_callB call_isi rfl T.zIsinstance (by decide +kernel) (pa_cons (pv 0) (pa_cons (pe_bltn (v := .ty "str") rfl T.zStr (by decide +kernel) rfl) pa_nil)))))
          (pw_or1 (pt_cmpR op_eq (pv 0) pe_str (nomark _))))) (pss_one (ps_ret pe_bl)) pss_nil)
      (pss_cons (ps_for PassesOwn.never rfl (pi_str (pv 0)) (pg_name (i := 1) scIsLine.nd rfl (.inl rfl))
        (pss_one (ps_if (pt_cmpR op_notIn_sign (pv 1) (pe_glob (v := .str signsS) rfl kS ⟨_, rfl⟩) (by rfl)) (pss_one (ps_ret pe_bl)) pss_nil)))
      (pss_one (ps_ret pe_bl))), ?_⟩
    refine ⟨_, rfl, _, _, _, _, true, rfl, .ty _, .base (.str z), kit_str_str, _, rfl, ?_⟩
    refine iteF ⟨_, rfl, rfl, _, rfl, ?_⟩
    refine ite2 (fun he => ?_) (fun he => ?_)
    · have e : z = "" := by
        have := of_decide_eq_true he
        injection this
      have e2 : isLineB z.cps.toList = false := by rw [e]; decide +kernel
      rw [e2] at k
      exact k
    · have hne : z.cps.toList ≠ [] := fun e => he (decide_eq_true (by
        have : z = strOf [] := by rw [← e]; rfl
        rw [this]; rfl))
      refine ⟨_, rfl, _, rfl, for_it walk_str (fun i σ H' => H' = H ∧ (∃ v, σ = [some (.str z), v]) ∧ ∀ c ∈ z.cps.toList.take i, c ∈ signsAll) ⟨rfl, ⟨_, rfl⟩, fun c hc => by simp at hc⟩ (fun _ _ _ _ _ => trivial) ?_ ?_⟩
      · rintro i x σ H1 H2 hi ⟨rfl, ⟨v, rfl⟩, hall⟩ ⟨rfl, c, hc, rfl⟩
        have hc' : z.cps.toList[i]? = some c := by simpa using hc
        refine ⟨_, rfl, c, _, rfl, rfl, _, rfl, ?_⟩
        rw [signs_cps]
        refine ite2 (fun hn => ?_) (fun hn => ?_)
        · have hn' : c ∉ signsAll := by simpa using hn
          have e2 : isLineB z.cps.toList = false := by
            have hm : c ∈ z.cps.toList := List.mem_of_getElem? hc'
            unfold isLineB
            have : (z.cps.toList.all fun c => decide (c ∈ signsAll)) = false := by
              rw [List.all_eq_false]
              exact ⟨c, hm, by simpa using hn'⟩
            rw [this, Bool.and_false]
          rw [e2] at k
          exact k
        · have hn' : c ∈ signsAll := by simpa using hn
          refine ⟨rfl, ⟨_, rfl⟩, fun d hd => ?_⟩
          rw [List.take_succ, hc'] at hd
          rcases List.mem_append.mp hd with hd | hd
          · exact hall d hd
          · simp at hd; subst hd; exact hn'
      · rintro σ H1 ⟨rfl, _, hall⟩
        have e2 : isLineB z.cps.toList = true := by
          have hz : z.cps.toList.take z.cps.size = z.cps.toList := by
            have : z.cps.size = z.cps.toList.length := by simp
            rw [this, List.take_length]
          rw [hz] at hall
          unfold isLineB
          have h1 : (z.cps.toList.all fun c => decide (c ∈ signsAll)) = true := by
            rw [List.all_eq_true]
            exact fun c hc => decide_eq_true (hall c hc)
          rw [h1, Bool.and_true]
          cases e : z.cps.toList with
          | nil => exact absurd e hne
          | cons a l => rfl
        rw [e2] at k
        exact k
/-! ### takes -/
def spTakes : Sp := fun vs H Q _ => ∃ (x : Cell) (c : Nat), vs = [cellV x, .str (one c)] ∧ Q (.bl (takes x c)) H
theorem scTakes : FnScope ["cell", "sign"] ["cell", "sign"] (defScope (top 12)) := ⟨rfl, rfl, rfl, by decide +kernel, rfl, by decide +kernel, by decide +kernel⟩
theorem ok_takes (T : Txt K mg) : FnOk P w K mg base CX0 1 T.dTakes.f T.dTakes.fd ["cell", "sign"] spTakes := by
  obtain ⟨t1, k1⟩ := T.kANYCELL
  obtain ⟨t2, k2⟩ := T.kDIGITSCELL
  obtain ⟨t3, k3⟩ := T.kWORDCELL
  obtain ⟨t4, k4⟩ := T.kDIGITSIGNS
  obtain ⟨t5, k5⟩ := T.kLETTERSIGNS
  refine T.dTakes.F.ok scTakes (fun vs H Q E h => ?_) (fun cdv A outer s H vs Q E hr h => ?_)
  · obtain ⟨x, c, rfl, _⟩ := h
    rfl
  · obtain ⟨x, c, rfl, k⟩ := h
    refine ⟨_, pss_cons (ps_if (pt_cmpR op_eq (pv 0) (pe_glob (v := .str anyS) rfl k1 ⟨_, rfl⟩) (nomark _)) (pss_one (ps_ret pe_bl)) pss_nil)
      (pss_cons (ps_if (pt_cmpR op_eq (pv 0) (pe_glob (v := .str digS) rfl k2 ⟨_, rfl⟩) (nomark _)) (pss_one (ps_ret (pe_cmpR op_in_sign (pv 1) (pe_glob (v := .str digitsS) rfl k4 ⟨_, rfl⟩) (by rfl)))) pss_nil)
      (pss_cons (ps_if (pt_cmpR op_eq (pv 0) (pe_glob (v := .str wordS) rfl k3 ⟨_, rfl⟩) (nomark _)) (pss_one (ps_ret (pe_cmpR op_in_sign (pv 1) (pe_glob (v := .str lettersS) rfl k5 ⟨_, rfl⟩) (by rfl)))) pss_nil)
      (pss_one (ps_ret (pe_cmpR op_eq (pv 0) (pv 1) (nomark _)))))), ?_⟩
    refine ⟨_, rfl, rfl, _, rfl, ?_⟩
    rw [show decide (cellV x = V.str anyS) = decide (x = .any) from dec_str_iff (cellS_any x)]
    refine ite2 (fun h1 => ?_) (fun h1 => ?_)
    · have e : x = .any := of_decide_eq_true h1
      subst e
      exact k
    have n1 : x ≠ .any := fun e => h1 (decide_eq_true e)
    refine ⟨_, rfl, rfl, _, rfl, ?_⟩
    rw [show decide (cellV x = V.str digS) = decide (x = .digits) from dec_str_iff (cellS_dig x)]
    refine ite2 (fun h2 => ?_) (fun h2 => ?_)
    · have e : x = .digits := of_decide_eq_true h2
      subst e
      refine ⟨_, rfl, c, _, rfl, rfl, ?_⟩
      rw [digits_cps]
      exact k
    have n2 : x ≠ .digits := fun e => h2 (decide_eq_true e)
    refine ⟨_, rfl, rfl, _, rfl, ?_⟩
    rw [show decide (cellV x = V.str wordS) = decide (x = .word) from dec_str_iff (cellS_word x)]
    refine ite2 (fun h3 => ?_) (fun h3 => ?_)
    · have e : x = .word := of_decide_eq_true h3
      subst e
      refine ⟨_, rfl, c, _, rfl, rfl, ?_⟩
      rw [letters_cps]
      exact k
    have n3 : x ≠ .word := fun e => h3 (decide_eq_true e)
    cases x with
    | any => exact absurd rfl n1
    | digits => exact absurd rfl n2
    | word => exact absurd rfl n3
    | sign d =>
      refine ⟨_, rfl, _, rfl, rfl, ?_⟩
      rw [show decide (cellV (.sign d) = V.str (one c)) = decide (d = c) from dec_str_iff one_inj]
      exact k
/-! ### closed -/
def spClosed (K : PySem.W.Frag) : Sp := fun vs H Q _ => ∃ (a b : Addr) (cells : List Cell) (pos : List Nat), vs = [.ref a, .ref b] ∧ SqL K H a (cells.map cellV) ∧ Sq K H b (intsV pos) ∧ cells.length ≤ 1000000 ∧
  ∀ (H' : Hp) (p : Addr), Same H H' → H p = none → H' p = some (.tup (intsV (closed cells pos))) → Q (.ref p) H'
theorem scClosed : FnScope ["cells", "positions", "found", "at"] ["cells", "positions"] (defScope (top 13)) := ⟨rfl, rfl, rfl, by decide +kernel, rfl, by decide +kernel, by decide +kernel⟩
theorem cells_at {cells : List Cell} {k : Nat} {x : Cell} (h : cells[k]? = some x) : atI (cells.map cellV) (k : Int) = some (cellV x) := atI_nat (by rw [List.getElem?_map, h]; rfl)
theorem cloTo_length (cells : List Cell) (pos : List Nat) : ∀ n, (cloTo cells pos n).length ≤ n
  | 0 => Nat.le_refl _
  | n + 1 => by
    have ih := cloTo_length cells pos n
    rw [cloTo_succ]
    unfold cloStep
    split
    · rw [List.length_append]
      show _ + 1 ≤ _
      omega
    · omega
theorem ok_closed (T : Txt K mg) : FnOk P w K mg base CX0 1 T.dClosed.f T.dClosed.fd ["cells", "positions"] (spClosed K) := by
  obtain ⟨t1, k1⟩ := T.kANYCELL
  refine T.dClosed.F.ok scClosed (fun vs H Q E h => ?_) (fun cdv A outer s H vs Q E hr h => ?_)
  · obtain ⟨a, b, cells, pos, rfl, _⟩ := h
    rfl
  · obtain ⟨a, b, cells, pos, rfl, hA, hB, hn, k⟩ := h
    refine ⟨_, pss_cons (ps_set (i := 2) scClosed.nd rfl (.inl rfl) (pe_lst pa_nil))
      (pss_cons (ps_for PassesOwn.never rfl (pi_range1 rfl T.zRange (pa_cons (pe_op op_add (pe_callB call_len_seq rfl T.zLen (by decide +kernel) (pa_cons (pv 0) pa_nil)) pe_int) pa_nil)) (pg_name (i := 3) scClosed.nd rfl (.inl rfl))
        (pss_one (ps_if (PW.pt (pw_or (pt_cmpR op_in_seq (pv 3) (pv 1) (by rfl)) (pw_or1 (PW.pt (pw_and (pt_cmpR op_gt (pv 3) pe_int (nomark _))
            (pw_and (pt_cmpR op_eq (pe_ix ix_list (pv 0) (pe_op op_sub (pv 3) pe_int) (fun _ _ => rfl)) (pe_glob (v := .str anyS) rfl k1 ⟨_, rfl⟩) (nomark _))
            (pw_and1 (pt_cmpR op_in_seq (pe_op op_sub (pv 3) pe_int) (pv 2) (by rfl)))))))))
          (pss_one (ps_expr (pe_bm PySem.F.plainAttrs_list PySem.F.slot_list_append PySem.F.type_list_append mt_append (pv 2) (pa_cons (pv 3) pa_nil)))) pss_nil)))
      (pss_one (ps_ret (pe_callTy call_tuple_of rfl T.zTuple (by decide +kernel) (pa_cons (pv 2) pa_nil))))), ?_⟩
    refine ⟨Nat.zero_le _, fun l hl => ?_⟩
    have s1 : ∀ o, Same H (upd H l o) := fun o => same_upd hl
    refine ⟨_, rfl, _, _, rfl, .inl ((s1 _).seq hA), _, _, rfl, rfl, _, rfl, by omega, by rw [List.length_map]; omega, ?_⟩
    have en : (((cells.map cellV).length : Int) + 1).toNat = cells.length + 1 := by rw [List.length_map]; omega
    rw [en]
    refine for_range (lo := 0) (n := cells.length + 1) (fun i σ H2 => (∃ v, σ = [some (.ref a), some (.ref b), some (.ref l), v]) ∧ H2 = upd H l (.lst (intsV (cloTo cells pos i)))) ⟨⟨_, rfl⟩, rfl⟩ ?_ ?_
    · rintro i σ H2 hi ⟨⟨v, rfl⟩, rfl⟩
      rw [Int.zero_add]
      -- the test
      have fin1 : (i ∈ pos ∨ (0 < i ∧ cells[i - 1]? = some .any ∧ i - 1 ∈ cloTo cells pos i)) → cloTo cells pos (i + 1) = cloTo cells pos i ++ [i] := fun q => by
        rw [cloTo_succ]
        unfold cloStep
        rw [if_pos q]
      have fin0 : ¬ (i ∈ pos ∨ (0 < i ∧ cells[i - 1]? = some .any ∧ i - 1 ∈ cloTo cells pos i)) → cloTo cells pos (i + 1) = cloTo cells pos i := fun q => by
        rw [cloTo_succ]
        unfold cloStep
        rw [if_neg q]
      have app : ∀ {R : Prop}, (∀ z, (∃ v, z = [some (V.ref a), some (V.ref b), some (V.ref l), v]) ∧ True → R) → R := fun h => h _ ⟨⟨none, rfl⟩, trivial⟩
      have hlen := cloTo_length cells pos i
      refine ⟨_, rfl, _, rfl, _, _, rfl, same_sq (s1 _) hB, rfl, intsV_flat _, _, rfl, ?_⟩
      refine ite2 (fun c1 => ?_) (fun c1 => ?_)
      · have c1' : i ∈ pos := by simpa [inV_ints] using c1
        refine iteT ?_
        refine ⟨_, rfl, .inl ⟨rfl, _, .inl (.inl upd_same)⟩, _, rfl, _, _, _, rfl, rfl, upd_same, by rw [intsV_length]; exact line_lt (by omega), ?_⟩
        refine ⟨⟨_, rfl⟩, ?_⟩
        rw [upd_upd, fin1 (.inl c1'), intsV_app]
        rfl
      · have c1' : i ∉ pos := by simpa [inV_ints] using c1
        refine ⟨_, rfl, _, _, rfl, rfl, _, rfl, ?_⟩
        refine ite2 (fun c2 => ?_) (fun c2 => ?_)
        · have c2' : 0 < i := by have := of_decide_eq_true c2; omega
          obtain ⟨x, hx⟩ : ∃ x, cells[i - 1]? = some x := ⟨cells[i - 1]'(by omega), by simp [show i - 1 < cells.length by omega]⟩
          have ei : (i : Int) - 1 = ((i - 1 : Nat) : Int) := by omega
          refine ⟨_, rfl, _, rfl, _, _, rfl, rfl, _, _, _, _, rfl, rfl, (s1 _).seq hA, (by rw [ei]; exact cells_at hx), rfl, _, rfl, ?_⟩
          rw [show decide (cellV x = V.str anyS) = decide (x = .any) from dec_str_iff (cellS_any x)]
          refine ite2 (fun c3 => ?_) (fun c3 => ?_)
          · have c3' : x = .any := of_decide_eq_true c3
            refine ⟨_, rfl, _, _, rfl, rfl, _, rfl, _, _, rfl, .inl (.inl (.inl upd_same)), rfl, intsV_flat _, _, rfl, ?_⟩
            have eV : inV (V.int ((i : Int) - 1)) (intsV (cloTo cells pos i)) = decide (i - 1 ∈ cloTo cells pos i) := by rw [ei, inV_ints]
            refine ite2 (fun c4 => ?_) (fun c4 => ?_)
            · have c4' : i - 1 ∈ cloTo cells pos i := of_decide_eq_true (eV.symm.trans c4)
              refine ⟨_, rfl, .inl ⟨rfl, _, .inl (.inl upd_same)⟩, _, rfl, _, _, _, rfl, rfl, upd_same, by rw [intsV_length]; exact line_lt (by omega), ?_⟩
              refine ⟨⟨_, rfl⟩, ?_⟩
              rw [upd_upd, fin1 (.inr ⟨c2', by rw [hx, c3'], c4'⟩), intsV_app]
              rfl
            · have c4' : i - 1 ∉ cloTo cells pos i := fun e => c4 (eV.trans (decide_eq_true e))
              refine ⟨⟨_, rfl⟩, ?_⟩
              rw [fin0 (by rintro (q | ⟨_, _, q⟩); exact c1' q; exact c4' q)]
          · have c3' : x ≠ .any := fun e => c3 (decide_eq_true e)
            refine iteF ⟨⟨_, rfl⟩, ?_⟩
            rw [fin0 (by
              rintro (q | ⟨_, q, _⟩)
              · exact c1' q
              · rw [hx] at q; exact c3' (Option.some.inj q))]
        · have c2' : ¬ 0 < i := fun e => c2 (decide_eq_true (by omega))
          refine iteF ⟨⟨_, rfl⟩, ?_⟩
          rw [fin0 (by
            rintro (q | ⟨q, _⟩)
            · exact c1' q
            · exact c2' q)]
    · rintro σ H2 ⟨⟨v, rfl⟩, rfl⟩
      refine ⟨_, rfl, _, _, rfl, .inl ⟨.inl (.inl upd_same), fun p hp => ?_⟩⟩
      have hp' : H p = none := Same.free (s1 _) hp
      exact k _ p ((s1 _).trans (same_upd hp)) hp' upd_same
end
end K35
namespace K35
open PySem L2
/-! ### lists of addresses and what stands there -/
def AllAt {B : Type} (R : Addr → B → Prop) : List Addr → List B → Prop
  | [], [] => True
  | a :: as, x :: xs => R a x ∧ AllAt R as xs
  | [], _ :: _ => False
  | _ :: _, [] => False
section
variable {B : Type} {R R' : Addr → B → Prop}
theorem AllAt.imp (h : ∀ a x, R a x → R' a x) : ∀ {as : List Addr} {xs : List B}, AllAt R as xs → AllAt R' as xs
  | [], [], _ => trivial
  | _ :: _, _ :: _, ⟨q, r⟩ => ⟨h _ _ q, AllAt.imp h r⟩
  | [], _ :: _, q => q.elim
  | _ :: _, [], q => q.elim
theorem AllAt.length : ∀ {as : List Addr} {xs : List B}, AllAt R as xs → as.length = xs.length
  | [], [], _ => rfl
  | _ :: _, _ :: _, ⟨_, r⟩ => congrArg (· + 1) (AllAt.length r)
  | [], _ :: _, q => q.elim
  | _ :: _, [], q => q.elim
theorem AllAt.get : ∀ {as : List Addr} {xs : List B} {i : Nat} {a : Addr}, AllAt R as xs → as[i]? = some a → ∃ x, xs[i]? = some x ∧ R a x
  | [], [], _, _, _, h => by simp at h
  | b :: _, x :: _, 0, a, ⟨q, _⟩, h => by
    have e : b = a := by simpa using h
    subst e
    exact ⟨x, by simp, q⟩
  | _ :: _, _ :: _, i + 1, a, ⟨_, r⟩, h => by
    obtain ⟨y, h1, h2⟩ := AllAt.get (i := i) r (by simpa using h)
    exact ⟨y, by simpa using h1, h2⟩
  | [], _ :: _, _, _, q, _ => q.elim
  | _ :: _, [], _, _, q, _ => q.elim
theorem AllAt.at_ {as : List Addr} {xs : List B} {i : Nat} {x : B} (h : AllAt R as xs) (e : xs[i]? = some x) : ∃ a, as[i]? = some a ∧ R a x := by
  have hl := h.length
  have hi : i < xs.length := (List.getElem?_eq_some_iff.mp e).1
  have ha : as[i]? = some (as[i]'(by omega)) := by simp [show i < as.length by omega]
  obtain ⟨y, h1, h2⟩ := h.get ha
  rw [e] at h1
  cases h1
  exact ⟨_, ha, h2⟩
theorem AllAt.app : ∀ {as bs : List Addr} {xs ys : List B}, AllAt R as xs → AllAt R bs ys → AllAt R (as ++ bs) (xs ++ ys)
  | [], _, [], _, _, h => h
  | _ :: _, _, _ :: _, _, ⟨q, r⟩, h => ⟨q, AllAt.app r h⟩
  | [], _, _ :: _, _, q, _ => q.elim
  | _ :: _, _, [], _, q, _ => q.elim
theorem AllAt.snoc {as : List Addr} {xs : List B} {a : Addr} {x : B} (h : AllAt R as xs) (q : R a x) : AllAt R (as ++ [a]) (xs ++ [x]) := h.app ⟨q, trivial⟩
theorem AllAt.take {as : List Addr} {xs : List B} (n : Nat) (h : AllAt R as xs) : AllAt R (as.take n) (xs.take n) := by
  induction n generalizing as xs with
  | zero => exact trivial
  | succ n ih =>
    match as, xs, h with
    | [], [], _ => exact trivial
    | _ :: _, _ :: _, ⟨q, r⟩ => exact ⟨q, ih r⟩
theorem AllAt.drop {as : List Addr} {xs : List B} (n : Nat) (h : AllAt R as xs) : AllAt R (as.drop n) (xs.drop n) := by
  induction n generalizing as xs with
  | zero => exact h
  | succ n ih =>
    match as, xs, h with
    | [], [], _ => exact trivial
    | _ :: _, _ :: _, ⟨_, r⟩ => exact ih r
end
def refsV (as : List Addr) : List V := as.map V.ref
theorem refsV_some {as : List Addr} {i : Nat} {x : V} (h : (refsV as)[i]? = some x) : ∃ a, as[i]? = some a ∧ x = .ref a := by
  unfold refsV at h
  rw [List.getElem?_map] at h
  cases e : as[i]? with
  | none => rw [e] at h; cases h
  | some a => rw [e] at h; exact ⟨a, rfl, (Option.some.inj h).symm⟩
theorem refsV_get {as : List Addr} {i : Nat} {a : Addr} (h : as[i]? = some a) : (refsV as)[i]? = some (.ref a) := by
  unfold refsV
  rw [List.getElem?_map, h]
  rfl
theorem refsV_length (as : List Addr) : (refsV as).length = as.length := List.length_map ..
theorem refsV_app (as bs : List Addr) : refsV (as ++ bs) = refsV as ++ refsV bs := List.map_append ..
theorem take_snoc {B : Type} {l : List B} {i : Nat} {x : B} (h : l[i]? = some x) : l.take (i + 1) = l.take i ++ [x] := by
  rw [List.take_succ, h]
  rfl
/-! ### tuples of numbers, lists of cells, states -/
def TupAt (H : Hp) (a : Addr) (p : List Nat) : Prop := H a = some (.tup (intsV p))
def StAt (H : Hp) (t : Addr) (st : State) : Prop := ∃ as, H t = some (.tup (refsV as)) ∧ AllAt (TupAt H) as st
def CellsAt (H : Hp) (a : Addr) (cells : List Cell) : Prop := H a = some (.lst (cells.map cellV))
def RowsAt (H : Hp) (l : Addr) (rows : List (List Cell)) : Prop := ∃ as, H l = some (.lst (refsV as)) ∧ AllAt (CellsAt H) as rows
theorem StAt.mono {H H' : Hp} {t : Addr} {st : State} (e : Same H H') (h : StAt H t st) : StAt H' t st := by
  obtain ⟨as, h1, h2⟩ := h
  exact ⟨as, e _ _ h1, h2.imp fun a x q => e _ _ q⟩
theorem RowsAt.mono {H H' : Hp} {t : Addr} {st : List (List Cell)} (e : Same H H') (h : RowsAt H t st) : RowsAt H' t st := by
  obtain ⟨as, h1, h2⟩ := h
  exact ⟨as, e _ _ h1, h2.imp fun a x q => e _ _ q⟩
/-! ### forms -/
def partS : Part → Str
  | .any => anyS
  | .digits => digS
  | .word => wordS
  | .fixed w => strOf w
def PartOk : Part → Prop
  | .fixed w => w ≠ [] ∧ w.length ≤ 4 ∧ ∀ c ∈ w, c ∈ signsAll
  | _ => True
def partsV (f : Form) : List V := f.map fun p => V.str (partS p)
theorem partsV_some {f : Form} {i : Nat} {x : V} (h : (partsV f)[i]? = some x) : ∃ p, f[i]? = some p ∧ x = .str (partS p) := by
  unfold partsV at h
  rw [List.getElem?_map] at h
  cases e : f[i]? with
  | none => rw [e] at h; cases h
  | some a => rw [e] at h; exact ⟨a, rfl, (Option.some.inj h).symm⟩
theorem partsV_length (f : Form) : (partsV f).length = f.length := List.length_map ..
def FOk (f : Form) : Prop := f ≠ [] ∧ f.length ≤ 4 ∧ ∀ p ∈ f, PartOk p
def isFree : Part → Bool
  | .fixed _ => false
  | _ => true
theorem free_in {p : Part} (h : PartOk p) : inV (.str (partS p)) ([digS, wordS, anyS].map V.str) = isFree p := by
  rw [inV_strs]
  cases p with
  | any => exact decide_eq_true (by simp [partS])
  | digits => exact decide_eq_true (by simp [partS])
  | word => exact decide_eq_true (by simp [partS])
  | fixed w =>
    refine decide_eq_false fun hm => ?_
    obtain ⟨h1, h2, _⟩ := h
    rcases List.mem_cons.mp hm with e | hm
    · exact short_ne_dig h2 e
    · rcases List.mem_cons.mp hm with e | hm
      · exact short_ne_word h2 e
      · rcases List.mem_cons.mp hm with e | hm
        · exact short_ne_any h2 e
        · simp at hm
section
variable {K : PySem.W.Frag} {mg : Str → Option Value}
def FormAt (T : Txt K mg) (H : Hp) (a : Addr) (f : Form) : Prop := ∃ dx t, H a = some (.ins T.cForm.C dx [("pieces", .ref t)]) ∧ H t = some (.tup (partsV f)) ∧ FOk f
theorem FormAt.mono {T : Txt K mg} {H H' : Hp} {a : Addr} {f : Form} (e : Same H H') (h : FormAt T H a f) : FormAt T H' a f := by
  obtain ⟨dx, t, h1, h2, h3⟩ := h
  exact ⟨dx, t, e _ _ h1, e _ _ h2, h3⟩
def FormsAt (T : Txt K mg) (H : Hp) (l : Addr) (fs : List Form) : Prop := ∃ as, H l = some (.lst (refsV as)) ∧ AllAt (FormAt T H) as fs
theorem FormsAt.mono {T : Txt K mg} {H H' : Hp} {a : Addr} {fs : List Form} (e : Same H H') (h : FormsAt T H a fs) : FormsAt T H' a fs := by
  obtain ⟨as, h1, h2⟩ := h
  exact ⟨as, e _ _ h1, h2.imp fun a x q => q.mono e⟩
def PatAt (T : Txt K mg) (H : Hp) (a : Addr) : Pat → Prop
  | .one f => FormAt T H a f
  | .both f g => ∃ dx b c, H a = some (.ins T.cBoth.C dx [("left", .ref b), ("right", .ref c)]) ∧ FormAt T H b f ∧ FormAt T H c g
  | .either f g => ∃ dx b c, H a = some (.ins T.cEither.C dx [("left", .ref b), ("right", .ref c)]) ∧ FormAt T H b f ∧ FormAt T H c g
theorem PatAt.mono {T : Txt K mg} {H H' : Hp} {a : Addr} {p : Pat} (e : Same H H') (h : PatAt T H a p) : PatAt T H' a p := by
  cases p with
  | one f => exact FormAt.mono (T := T) e h
  | both f g =>
    obtain ⟨dx, b, c, h1, h2, h3⟩ := h
    exact ⟨dx, b, c, e _ _ h1, h2.mono e, h3.mono e⟩
  | either f g =>
    obtain ⟨dx, b, c, h1, h2, h3⟩ := h
    exact ⟨dx, b, c, e _ _ h1, h2.mono e, h3.mono e⟩
def PatsAt (T : Txt K mg) (H : Hp) (l : Addr) (ps : List Pat) : Prop := ∃ as, H l = some (.lst (refsV as)) ∧ AllAt (PatAt T H) as ps
theorem PatsAt.mono {T : Txt K mg} {H H' : Hp} {a : Addr} {fs : List Pat} (e : Same H H') (h : PatsAt T H a fs) : PatsAt T H' a fs := by
  obtain ⟨as, h1, h2⟩ := h
  exact ⟨as, e _ _ h1, h2.imp fun a x q => q.mono e⟩
theorem FormAt.ok {T : Txt K mg} {H : Hp} {a : Addr} {f : Form} (h : FormAt T H a f) : FOk f := let ⟨_, _, _, _, h3⟩ := h; h3
end
theorem part_cells_len {p : Part} (h : PartOk p) : p.cells.length ≤ 4 := by
  cases p with
  | fixed w => show (w.map Cell.sign).length ≤ 4; rw [List.length_map]; exact h.2.1
  | any => show (1 : Nat) ≤ 4; omega
  | digits => show (1 : Nat) ≤ 4; omega
  | word => show (1 : Nat) ≤ 4; omega
theorem cells_len : ∀ {f : Form}, (∀ p ∈ f, PartOk p) → (cellsOf f).length ≤ 4 * f.length
  | [], _ => by simp [cellsOf]
  | p :: f, h => by
    have h1 := part_cells_len (h p List.mem_cons_self)
    have h2 := cells_len (f := f) fun q hq => h q (List.mem_cons_of_mem _ hq)
    show (List.flatMap Part.cells (p :: f)).length ≤ _
    rw [List.flatMap_cons, List.length_append, List.length_cons]
    have h3 : (List.flatMap Part.cells f).length ≤ 4 * f.length := h2
    omega
theorem FOk.cells {f : Form} (h : FOk f) : (cellsOf f).length ≤ 16 := by
  have h1 := cells_len h.2.2
  have h2 := h.2.1
  omega
theorem run_len (cells : List Cell) (u : Line) : (run cells u).length ≤ cells.length + 1 := by
  have hn : (run cells u).Nodup := by
    rcases List.eq_nil_or_concat u with rfl | ⟨v, c, rfl⟩
    · exact closed_nodup _ _
    · rw [List.concat_eq_append, run_snoc]
      exact closed_nodup _ _
  have := nodup_len _ (List.range (cells.length + 1)) hn fun k hk => List.mem_range.mpr (Nat.lt_succ_of_le (run_le hk))
  rwa [List.length_range] at this
/-! ### one of two rules -/
section
variable {X : Cx}
theorem pe_alt {e : Expr} {t1 t2 : TE} (h1 : PE X e t1) (h2 : PE X e t2) : PE X e (fun σ H Q => t1 σ H Q ∨ t2 σ H Q) := by
  refine ⟨fun pins s σ H Q I h => ?_⟩
  rcases h with h | h
  · exact h1.run pins s σ H Q I h
  · exact h2.run pins s σ H Q I h
/-- a comprehension with two fors, over what is walked -/
theorem lc2_walk {J : It} {n : Nat} {G : Hp → Prop} {Y : Nat → Hp → V → Hp → Prop} (w : Walk J n G Y) {g : TG} {tt : TT} {wi1 : TI} {g1 : TG} {tt1 : TT} {te : TE} {vs vs1 : List Nat} {σ : St} {H1 : Hp} {D : Addr} {Qd : Hp → Prop} (Pv : Nat → Hp → Prop) (h0 : Pv 0 (upd H1 D (.lst []))) (hG : ∀ i H, i ≤ n → Pv i H → G H)
    (hs : ∀ i x H H', i < n → Pv i H → Y i H x H' → g x (wipe σ vs) H' fun σ2 H2 => wipe σ2 vs = wipe σ vs ∧ tt σ2 H2 fun b H3 =>
      if b = true then wi1 σ2 H3 fun J1 H4 => ∃ (n1 : Nat) (G1 : Hp → Prop) (Y1 : Nat → Hp → V → Hp → Prop) (P1 : Nat → Hp → Prop), Walk J1 n1 G1 Y1 ∧ P1 0 H4 ∧ (∀ j H, j ≤ n1 → P1 j H → G1 H) ∧ (∀ H, P1 n1 H → Pv (i + 1) H) ∧
        ∀ j x H H', j < n1 → P1 j H → Y1 j H x H' → g1 x (wipe σ2 vs1) H' fun σ3 H5 => wipe σ3 vs1 = wipe σ2 vs1 ∧ tt1 σ3 H5 fun b H6 =>
          if b = true then te σ3 H6 fun y H7 => ∃ acc, H7 D = some (.lst acc) ∧ acc.length < sizeLine ∧ P1 (j + 1) (upd H7 D (.lst (acc ++ [y]))) else P1 (j + 1) H6
      else Pv (i + 1) H3) (hd : ∀ H, Pv n H → Qd H)
    (mono : ∀ σ H R R', (∀ J H, R J H → R' J H) → wi1 σ H R → wi1 σ H R')
    (mg_ : ∀ v σ H Q Q', (∀ σ H, Q σ H → Q' σ H) → g v σ H Q → g v σ H Q') (mt : ∀ σ H Q Q', (∀ b H, Q b H → Q' b H) → tt σ H Q → tt σ H Q') :
    ∃ W : Nat → Nat → Hp → Prop, (∃ m, W 0 m (upd H1 D (.lst []))) ∧ ∀ i m H, W i m H →
      (J.stop i H ∧ Qd H) ∨ (J.go i H ∧ ∃ Nx : Hp → Prop, (∀ H', Nx H' → ∃ m', m' < m ∧ W (i + 1) m' H') ∧ ∀ x H', J.yld i H x H' → g x (wipe σ vs) H' fun σ2 H2 => wipe σ2 vs = wipe σ vs ∧ tt σ2 H2 fun b H3 =>
        if b = true then wi1 σ2 H3 fun J1 H4 => ∃ W1 : Nat → Nat → Hp → Prop, (∃ m, W1 0 m H4) ∧ ∀ j k H, W1 j k H →
          (J1.stop j H ∧ Nx H) ∨ (J1.go j H ∧ ∃ Nx1 : Hp → Prop, (∀ H', Nx1 H' → ∃ k', k' < k ∧ W1 (j + 1) k' H') ∧ ∀ x H', J1.yld j H x H' → g1 x (wipe σ2 vs1) H' fun σ3 H5 => wipe σ3 vs1 = wipe σ2 vs1 ∧ tt1 σ3 H5 fun b H6 =>
            if b = true then te σ3 H6 fun y H7 => ∃ acc, H7 D = some (.lst acc) ∧ acc.length < sizeLine ∧ Nx1 (upd H7 D (.lst (acc ++ [y]))) else Nx1 H6)
        else Nx H3) := by
  refine ⟨fun i m H => m = n - i ∧ i ≤ n ∧ Pv i H, ⟨n, by simp, Nat.zero_le _, h0⟩, ?_⟩
  rintro i m H ⟨rfl, hi, p⟩
  have q := hG i H hi p
  by_cases hlt : i < n
  · refine .inr ⟨w.goes i H hlt q, Pv (i + 1), fun H' p' => ⟨n - (i + 1), by omega, rfl, hlt, p'⟩, fun x H' y => ?_⟩
    refine mg_ _ _ _ _ _ (fun σ2 H2 hq => ⟨hq.1, mt _ _ _ _ (fun b H3 hq2 => ?_) hq.2⟩) (hs i x H H' hlt p (w.yields i H x H' hlt q y))
    cases b with
    | false => exact hq2
    | true =>
      refine mono _ _ _ _ (fun J1 H4 h4 => ?_) hq2
      obtain ⟨n1, G1, Y1, P1, w1, p0, hG1, hd1, hs1⟩ := h4
      refine ⟨fun j k H => k = n1 - j ∧ j ≤ n1 ∧ P1 j H, ⟨n1, by simp, Nat.zero_le _, p0⟩, ?_⟩
      rintro j k H ⟨rfl, hj, pj⟩
      have qj := hG1 j H hj pj
      by_cases hlj : j < n1
      · exact .inr ⟨w1.goes j H hlj qj, P1 (j + 1), fun H' p' => ⟨n1 - (j + 1), by omega, rfl, hlj, p'⟩, fun x H' y => hs1 j x H H' hlj pj (w1.yields j H x H' hlj qj y)⟩
      · have e : j = n1 := by omega
        subst e
        exact .inl ⟨w1.stops H qj, hd1 H pj⟩
  · have e : i = n := by omega
    subst e
    exact .inl ⟨w.stops H q, hd H p⟩
end
theorem join_flat : ∀ ys : List Str, (Txt.join (Str.ofString "") ys).cps.toList = ys.flatMap fun y => y.cps.toList := by
  intro ys
  unfold Txt.join
  rw [StrLaws.glued_eq_join]
  induction ys with
  | nil => rfl
  | cons x ys ih =>
    cases ys with
    | nil => simp [Str.join]
    | cons y ys =>
      show (x.cps ++ (Str.ofString "").cps ++ (Str.join (Str.ofString "") (y :: ys)).cps).toList = _
      rw [Array.toList_append, Array.toList_append, ih]
      have e : (Str.ofString "").cps.toList = [] := by decide +kernel
      rw [e, List.append_nil]
      rfl
end K35
namespace K35
open PySem L2
section
variable {P : Program} {w : World} {K : PySem.W.Frag} {mg : Str → Option Value} {base : Heap}
/-! ### started -/
def spStarted (K : PySem.W.Frag) : Sp := fun vs H Q _ => ∃ (a : Addr) (cells : List Cell), vs = [.ref a] ∧ SqL K H a (cells.map cellV) ∧ cells.length ≤ 1000000 ∧
  ∀ (H' : Hp) (p : Addr), Same H H' → H p = none → H' p = some (.tup (intsV (started cells))) → Q (.ref p) H'
theorem scStarted : FnScope ["cells"] ["cells"] (defScope (top 14)) := ⟨rfl, rfl, rfl, by decide +kernel, rfl, by decide +kernel, by decide +kernel⟩
theorem ok_started (T : Txt K mg) : FnOk P w K mg base CX0 2 T.dStarted.f T.dStarted.fd ["cells"] (spStarted K) := by
  have G : FnOk P w K mg base CX0 1 T.dClosed.f T.dClosed.fd ["cells", "positions"] (spClosed K) := ok_closed T
  refine T.dStarted.F.ok scStarted (fun vs H Q E h => ?_) (fun cdv A outer s H vs Q E hr h => ?_)
  · obtain ⟨a, cells, rfl, _⟩ := h
    rfl
  · obtain ⟨a, cells, rfl, hA, hn, k⟩ := h
    refine ⟨_, pss_one (ps_ret (pe_call G hr rfl T.dClosed.m T.dClosed.F.kp T.dClosed.b .nil pass0 (pa_cons (pv 0) (pa_cons (pe_lst (pa_cons pe_int pa_nil)) pa_nil)))), ?_⟩
    refine ⟨_, rfl, by show 1 ≤ sizeLine; exact line_big (by decide), fun l hl => ?_⟩
    refine ⟨a, l, cells, [0], rfl, (same_upd hl).seq hA, .inl (.inl (.inl upd_same)), hn, fun H' p s2 hp hv => ?_⟩
    exact k H' p ((same_upd hl).trans s2) (Same.free (same_upd hl) hp) hv
/-! ### is_done -/
def spIsDone (K : PySem.W.Frag) : Sp := fun vs H Q _ => ∃ (a b : Addr) (cells : List Cell) (pos : List Nat), vs = [.ref a, .ref b] ∧ SqL K H a (cells.map cellV) ∧ SqT K H b (intsV pos) ∧ Q (.bl (isDone cells pos)) H
theorem scIsDone : FnScope ["cells", "positions"] ["cells", "positions"] (defScope (top 16)) := ⟨rfl, rfl, rfl, by decide +kernel, rfl, by decide +kernel, by decide +kernel⟩
theorem ok_is_done (T : Txt K mg) : FnOk P w K mg base CX0 1 T.dIsDone.f T.dIsDone.fd ["cells", "positions"] (spIsDone K) := by
  refine T.dIsDone.F.ok scIsDone (fun vs H Q E h => ?_) (fun cdv A outer s H vs Q E hr h => ?_)
  · obtain ⟨a, b, cells, pos, rfl, _⟩ := h
    rfl
  · obtain ⟨a, b, cells, pos, rfl, hA, hB, k⟩ := h
    refine ⟨_, pss_one (ps_ret (pe_cmpR op_in_seq (pe_callB call_len_seq rfl T.zLen (by decide +kernel) (pa_cons (pv 0) pa_nil)) (pv 1) (by rfl))), ?_⟩
    refine ⟨_, rfl, _, _, rfl, .inl hA, _, rfl, _, _, rfl, .inr hB, rfl, intsV_flat _, ?_⟩
    have e : inV (V.int ((cells.map cellV).length : Nat)) (intsV pos) = isDone cells pos := by rw [inV_ints, List.length_map]; rfl
    exact e ▸ k
/-! ### moved -/
def spMoved (K : PySem.W.Frag) : Sp := fun vs H Q _ => ∃ (a b : Addr) (cells : List Cell) (pos : List Nat) (c : Nat), vs = [.ref a, .ref b, .str (one c)] ∧ SqL K H a (cells.map cellV) ∧ SqT K H b (intsV pos) ∧ cells.length ≤ 1000000 ∧
  (∀ k ∈ pos, k ≤ cells.length) ∧ pos.length ≤ 1000001 ∧ ∀ (H' : Hp) (p : Addr), Same H H' → H p = none → H' p = some (.tup (intsV (moved cells pos c))) → Q (.ref p) H'
theorem scMoved : FnScope ["cells", "positions", "sign", "found", "at"] ["cells", "positions", "sign"] (defScope (top 15)) := ⟨rfl, rfl, rfl, by decide +kernel, rfl, by decide +kernel, by decide +kernel⟩
theorem mov1_len (cells : List Cell) (c k : Nat) : (mov1 cells c k).length ≤ 1 := by
  unfold mov1
  split
  · split <;> simp
  · simp
theorem mov2_len (cells : List Cell) (c k : Nat) : (mov2 cells c k).length ≤ 1 := by
  unfold mov2
  split
  · split
    · split <;> simp
    · simp
  · simp
theorem flat_len (cells : List Cell) (c : Nat) : ∀ pos : List Nat, (pos.flatMap (mov cells c)).length ≤ 2 * pos.length
  | [] => by simp
  | k :: pos => by
    have ih := flat_len cells c pos
    have h1 := mov1_len cells c k
    have h2 := mov2_len cells c k
    have h3 : (mov cells c k).length = (mov1 cells c k).length + (mov2 cells c k).length := List.length_append
    rw [List.flatMap_cons, List.length_append, List.length_cons]
    omega
theorem flat_snoc (cells : List Cell) (c : Nat) {pos : List Nat} {i k : Nat} (h : pos[i]? = some k) : (pos.take (i + 1)).flatMap (mov cells c) = (pos.take i).flatMap (mov cells c) ++ mov cells c k := by
  rw [List.take_succ, h, List.flatMap_append]
  simp
theorem ok_moved (T : Txt K mg) : FnOk P w K mg base CX0 2 T.dMoved.f T.dMoved.fd ["cells", "positions", "sign"] (spMoved K) := by
  have G : FnOk P w K mg base CX0 1 T.dClosed.f T.dClosed.fd ["cells", "positions"] (spClosed K) := ok_closed T
  have GT : FnOk P w K mg base CX0 1 T.dTakes.f T.dTakes.fd ["cell", "sign"] spTakes := ok_takes T
  obtain ⟨t1, k1⟩ := T.kANYCELL
  obtain ⟨t2, k2⟩ := T.kDIGITSCELL
  obtain ⟨t3, k3⟩ := T.kWORDCELL
  refine T.dMoved.F.ok scMoved (fun vs H Q E h => ?_) (fun cdv A outer s H vs Q E hr h => ?_)
  · obtain ⟨a, b, cells, pos, c, rfl, _⟩ := h
    rfl
  · obtain ⟨a, b, cells, pos, c, rfl, hA, hB, hn, hle, hpl, k⟩ := h
    refine ⟨_, pss_cons (ps_set (i := 3) scMoved.nd rfl (.inl rfl) (pe_lst pa_nil))
      (pss_cons (ps_for PassesOwn.never rfl (pi_tup (pv 1)) (pg_name (i := 4) scMoved.nd rfl (.inl rfl))
        (C8.pss_cut (ps_if (PW.pt (pw_and (pt_cmpR op_lt (pv 4) (pe_callB call_len_seq rfl T.zLen (by decide +kernel) (pa_cons (pv 0) pa_nil)) (nomark _))
            (pw_and1 (pt_val (pe_call GT hr rfl T.dTakes.m T.dTakes.F.kp T.dTakes.b .nil pass0 (pa_cons (pe_ix ix_list (pv 0) (pv 4) (fun _ _ => rfl)) (pa_cons (pv 2) pa_nil)))))))
          (pss_one (ps_expr (pe_bm PySem.F.plainAttrs_list PySem.F.slot_list_append PySem.F.type_list_append mt_append (pv 3)
            (pa_cons (pe_ifExp (pt_cmpR op_eq (pe_ix ix_list (pv 0) (pv 4) (fun _ _ => rfl)) (pe_glob (v := .str anyS) rfl k1 ⟨_, rfl⟩) (nomark _)) (pv 4) (pe_op op_add (pv 4) pe_int)) pa_nil)))) pss_nil)
        (pss_one (ps_if (PW.pt (pw_and (pt_cmpR op_gt (pv 4) pe_int (nomark _))
            (pw_and (pt_cmpR op_in_seq (pe_ix ix_list (pv 0) (pe_op op_sub (pv 4) pe_int) (fun _ _ => rfl)) (pe_tup (pa_cons (pe_glob (v := .str digS) rfl k2 ⟨_, rfl⟩) (pa_cons (pe_glob (v := .str wordS) rfl k3 ⟨_, rfl⟩) pa_nil))) (by rfl))
            (pw_and1 (pt_val (pe_call GT hr rfl T.dTakes.m T.dTakes.F.kp T.dTakes.b .nil pass0 (pa_cons (pe_ix ix_list (pv 0) (pe_op op_sub (pv 4) pe_int) (fun _ _ => rfl)) (pa_cons (pv 2) pa_nil))))))))
          (pss_one (ps_expr (pe_bm PySem.F.plainAttrs_list PySem.F.slot_list_append PySem.F.type_list_append mt_append (pv 3) (pa_cons (pv 4) pa_nil)))) pss_nil))))
      (pss_one (ps_ret (pe_call G hr rfl T.dClosed.m T.dClosed.F.kp T.dClosed.b .nil pass0 (pa_cons (pv 0) (pa_cons (pv 3) pa_nil)))))), ?_⟩
    refine ⟨Nat.zero_le _, fun l hl => ?_⟩
    have s0 : ∀ o, Same H (upd H l o) := fun o => same_upd hl
    have hfl := flat_len cells c
    refine ⟨_, rfl, _, rfl, ⟨_, same_tup (s0 _) hB⟩, for_it (walk_tup (xs := intsV pos)) (fun i σ H2 => (∃ v, σ = [some (.ref a), some (.ref b), some (.str (one c)), some (.ref l), v]) ∧ Same H H2 ∧ H2 l = some (.lst (intsV ((pos.take i).flatMap (mov cells c)))))
      ⟨⟨_, rfl⟩, s0 _, upd_same⟩ (fun i σ H2 _ ⟨_, s2, _⟩ => same_tup s2 hB) ?_ ?_⟩
    · rintro i x σ H2 H3 hi ⟨⟨v, rfl⟩, s2, hl2⟩ ⟨rfl, hx⟩
      obtain ⟨q, hq, rfl⟩ := intsV_some hx
      have hqn : q ≤ cells.length := hle q (List.mem_of_getElem? hq)
      have hbig : ((pos.take i).flatMap (mov cells c)).length ≤ 2 * 1000001 := by
        have := hfl (pos.take i)
        have h2 : (pos.take i).length ≤ pos.length := by rw [List.length_take]; omega
        omega
      refine ⟨fun σ' H' => σ' = [some (.ref a), some (.ref b), some (.str (one c)), some (.ref l), some (.int (q : Nat))] ∧ Same H H' ∧ H' l = some (.lst (intsV ((pos.take i).flatMap (mov cells c) ++ mov1 cells c q))), ?_, ?_⟩
      · -- the first test
        refine ⟨_, rfl, _, rfl, _, _, rfl, .inl (s2.seq hA), _, _, rfl, rfl, _, rfl, ?_⟩
        refine ite2 (fun c1 => ?_) (fun c1 => ?_)
        · have c1' : q < cells.length := by
            have := of_decide_eq_true c1
            rw [List.length_map] at this
            omega
          obtain ⟨y, hy⟩ : ∃ y, cells[q]? = some y := ⟨cells[q], by simp [c1']⟩
          refine ⟨_, rfl, _, rfl, _, _, _, _, rfl, rfl, s2.seq hA, cells_at hy, _, rfl, y, c, rfl, _, rfl, ?_⟩
          have e1 : mov1 cells c q = if takes y c = true then [if y = .any then q else q + 1] else [] := by unfold mov1; rw [hy]
          refine ite2 (fun c2 => ?_) (fun c2 => ?_)
          · refine ⟨_, rfl, .inl ⟨rfl, _, .inl (.inl hl2)⟩, ?_⟩
            refine ⟨_, rfl, _, rfl, _, _, _, _, rfl, rfl, s2.seq hA, cells_at hy, rfl, _, rfl, ?_⟩
            rw [show decide (cellV y = V.str anyS) = decide (y = .any) from dec_str_iff (cellS_any y)]
            rw [if_pos c2] at e1
            refine ite2 (fun c3 => ?_) (fun c3 => ?_)
            · have c3' := of_decide_eq_true c3
              rw [if_pos c3'] at e1
              refine ⟨_, rfl, _, _, _, rfl, rfl, hl2, by rw [intsV_length]; exact line_lt (by omega), rfl, same_over s2 hl, ?_⟩
              rw [upd_same, e1, intsV_app]
              rfl
            · have c3' : y ≠ .any := fun e => c3 (decide_eq_true e)
              rw [if_neg c3'] at e1
              refine ⟨_, rfl, _, _, rfl, rfl, _, _, _, rfl, rfl, hl2, by rw [intsV_length]; exact line_lt (by omega), rfl, same_over s2 hl, ?_⟩
              rw [upd_same, e1, intsV_app]
              rfl
          · rw [if_neg c2] at e1
            exact ⟨rfl, s2, by rw [e1, List.append_nil]; exact hl2⟩
        · have e1 : mov1 cells c q = [] := by
            have : cells[q]? = none := by
              rw [List.getElem?_eq_none_iff]
              have h3 : ¬ ((q : Nat) : Int) < ((cells.map cellV).length : Nat) := fun e => c1 (decide_eq_true e)
              rw [List.length_map] at h3
              omega
            unfold mov1
            rw [this]
          refine iteF ⟨rfl, s2, by rw [e1, List.append_nil]; exact hl2⟩
      · -- the second test
        rintro σ' H' ⟨rfl, s3, hl3⟩
        have hsn := flat_snoc cells c hq
        have hb2 : (((pos.take i).flatMap (mov cells c)) ++ mov1 cells c q).length ≤ 2 * 1000001 + 1 := by
          have := mov1_len cells c q
          rw [List.length_append]; omega
        have fin0 : mov2 cells c q = [] → (pos.take (i + 1)).flatMap (mov cells c) = (pos.take i).flatMap (mov cells c) ++ mov1 cells c q := fun e => by
          rw [hsn]
          unfold mov
          rw [e, List.append_nil]
        refine ⟨_, rfl, _, _, rfl, rfl, _, rfl, ?_⟩
        refine ite2 (fun c1 => ?_) (fun c1 => ?_)
        · have c1' : 0 < q := by have := of_decide_eq_true c1; omega
          obtain ⟨y, hy⟩ : ∃ y, cells[q - 1]? = some y := ⟨cells[q - 1]'(by omega), by simp [show q - 1 < cells.length by omega]⟩
          have ei : (q : Int) - 1 = ((q - 1 : Nat) : Int) := by omega
          have e2 : mov2 cells c q = if (y = .digits ∨ y = .word) ∧ takes y c = true then [q] else [] := by unfold mov2; rw [if_pos c1', hy]
          refine ⟨_, rfl, _, rfl, _, _, rfl, rfl, _, _, _, _, rfl, rfl, s3.seq hA, (by rw [ei]; exact cells_at hy), ?_⟩
          refine ⟨by show 2 ≤ sizeLine; exact line_big (by decide), fun tp htp => ?_⟩
          have s4 : Same H (upd H' tp (.tup [.str digS, .str wordS])) := s3.trans (same_upd htp)
          have hl4 : (upd H' tp (.tup [.str digS, .str wordS])) l = some (.lst (intsV ((pos.take i).flatMap (mov cells c) ++ mov1 cells c q))) := by rw [upd_ne (ne_of_none hl3 htp)]; exact hl3
          refine ⟨_, _, rfl, .inr (.inl (.inl upd_same)), rfl, rfl, _, rfl, ?_⟩
          have eV : inV (cellV y) [V.str digS, V.str wordS] = decide (y = .digits ∨ y = .word) := by
            show inV (.str (cellS y)) ([digS, wordS].map V.str) = _
            rw [inV_strs, decide_eq_decide]
            constructor
            · intro h
              rcases List.mem_cons.mp h with h | h
              · exact .inl ((cellS_dig y).mp h)
              · exact .inr ((cellS_word y).mp (by simpa using h))
            · rintro (h | h)
              · rw [h]; exact List.mem_cons_self
              · rw [h]; exact List.mem_cons_of_mem _ List.mem_cons_self
          refine ite2 (fun c2 => ?_) (fun c2 => ?_)
          · have c2' := of_decide_eq_true (eV.symm.trans c2)
            refine ⟨_, rfl, _, rfl, _, _, rfl, rfl, _, _, _, _, rfl, rfl, s4.seq hA, (by rw [ei]; exact cells_at hy), _, rfl, y, c, rfl, _, rfl, ?_⟩
            refine ite2 (fun c3 => ?_) (fun c3 => ?_)
            · rw [if_pos ⟨c2', c3⟩] at e2
              refine ⟨_, rfl, .inl ⟨rfl, _, .inl (.inl hl4)⟩, _, rfl, _, _, _, rfl, rfl, hl4, by rw [intsV_length]; exact line_lt (by omega), ⟨_, rfl⟩, same_over s4 hl, ?_⟩
              rw [upd_same, hsn]
              unfold mov
              rw [e2, intsV_app, intsV_app, intsV_app, List.append_assoc]
              rfl
            · rw [if_neg fun z => c3 z.2] at e2
              exact ⟨⟨_, rfl⟩, s4, by rw [fin0 e2]; exact hl4⟩
          · have c2' : ¬ (y = .digits ∨ y = .word) := fun e => c2 (eV.trans (decide_eq_true e))
            rw [if_neg fun z => c2' z.1] at e2
            exact iteF ⟨⟨_, rfl⟩, s4, by rw [fin0 e2]; exact hl4⟩
        · have c1' : ¬ 0 < q := fun e => c1 (decide_eq_true (by omega))
          have e2 : mov2 cells c q = [] := by unfold mov2; rw [if_neg c1']
          exact iteF ⟨⟨_, rfl⟩, s3, by rw [fin0 e2]; exact hl3⟩
    · rintro σ H2 ⟨⟨v, rfl⟩, s2, hl2⟩
      rw [intsV_length, List.take_length] at hl2
      refine ⟨_, rfl, _, rfl, a, l, cells, pos.flatMap (mov cells c), rfl, s2.seq hA, .inl (.inl (.inl hl2)), hn, fun H' p s3 hp hv => ?_⟩
      exact k H' p (s2.trans s3) (Same.free s2 hp) hv
end
end K35
namespace K35
open PySem L2
section
variable {P : Program} {w : World} {K : PySem.W.Frag} {mg : Str → Option Value} {base : Heap}
/-! ### cells_of -/
def spCellsOf (K : PySem.W.Frag) : Sp := fun vs H Q _ => ∃ (a : Addr) (f : Form), vs = [.ref a] ∧ SqT K H a (partsV f) ∧ FOk f ∧
  ∀ (H' : Hp) (p : Addr), Same H H' → H p = none → CellsAt H' p (cellsOf f) → Q (.ref p) H'
theorem scCellsOf : FnScope ["parts", "cells", "part"] ["parts"] (defScope (top 11)) := ⟨rfl, rfl, rfl, by decide +kernel, rfl, by decide +kernel, by decide +kernel⟩
theorem cellsOf_snoc {f : Form} {i : Nat} {p : Part} (h : f[i]? = some p) : cellsOf (f.take (i + 1)) = cellsOf (f.take i) ++ p.cells := by
  unfold cellsOf
  rw [take_snoc h, List.flatMap_append]
  simp
theorem cells_take_len {f : Form} (h : FOk f) (i : Nat) : (cellsOf (f.take i)).length ≤ 16 := by
  have h1 := cells_len (f := f.take i) fun p hp => h.2.2 p (List.mem_of_mem_take hp)
  have h2 : (f.take i).length ≤ f.length := by rw [List.length_take]; omega
  have h3 := h.2.1
  omega
theorem ok_cells_of (T : Txt K mg) : FnOk P w K mg base CX0 1 T.dCellsOf.f T.dCellsOf.fd ["parts"] (spCellsOf K) := by
  refine T.dCellsOf.F.ok scCellsOf (fun vs H Q E h => ?_) (fun cdv A outer s H vs Q E hr h => ?_)
  · obtain ⟨a, f, rfl, _⟩ := h
    rfl
  · obtain ⟨a, f, rfl, hA, hf, k⟩ := h
    refine ⟨_, pss_cons (ps_set (i := 1) scCellsOf.nd rfl (.inl rfl) (pe_lst pa_nil))
      (pss_cons (ps_for PassesOwn.never rfl (pi_tup (pv 0)) (pg_name (i := 2) scCellsOf.nd rfl (.inl rfl))
        (pss_one (ps_if (pt_cmpR op_in_seq (pv 2) (pe_glob (v := .ref T.free) rfl T.kFREE rfl) (by rfl))
          (pss_one (ps_expr (pe_bm PySem.F.plainAttrs_list PySem.F.slot_list_append PySem.F.type_list_append mt_append (pv 1) (pa_cons (pv 2) pa_nil))))
          (pss_one (ps_expr (pe_bm PySem.F.plainAttrs_list PySem.F.slot_list_extend PySem.F.type_list_extend mt_extend (pv 1) (pa_cons (pe_callTy (call_listS rfl) rfl T.zList (by decide +kernel) (pa_cons (pv 2) pa_nil)) pa_nil)))))))
      (pss_one (ps_ret (pv 1)))), ?_⟩
    refine ⟨Nat.zero_le _, fun l hl => ?_⟩
    refine ⟨_, rfl, _, rfl, ⟨_, same_tup (same_upd hl) hA⟩, for_it (walk_tup (xs := partsV f)) (fun i σ H2 => (∃ v, σ = [some (.ref a), some (.ref l), v]) ∧ Same H H2 ∧ CellsAt H2 l (cellsOf (f.take i)))
      ⟨⟨_, rfl⟩, same_upd hl, upd_same⟩ (fun i σ H2 _ ⟨_, s2, _⟩ => same_tup s2 hA) ?_ ?_⟩
    · rintro i x σ H0 H2 hi ⟨⟨v, rfl⟩, s2, hl2⟩ ⟨rfl, hx⟩
      obtain ⟨p, hp, rfl⟩ := partsV_some hx
      have po := hf.2.2 p (List.mem_of_getElem? hp)
      have hbig := cells_take_len hf i
      refine ⟨_, rfl, _, _, rfl, .inr (T.sFREE _), rfl, strs_flat _, _, rfl, ?_⟩
      refine ite2 (fun c1 => ?_) (fun c1 => ?_)
      · have c1' : isFree p = true := (free_in po).symm.trans c1
        have e : p.cells.map cellV = [V.str (partS p)] := by cases p <;> first | rfl | cases c1'
        refine ⟨_, rfl, .inl ⟨rfl, _, .inl (.inl hl2)⟩, _, rfl, _, _, _, rfl, rfl, hl2, by rw [List.length_map]; exact line_lt (by omega), ⟨_, rfl⟩, same_over s2 hl, ?_⟩
        unfold CellsAt
        rw [upd_same, cellsOf_snoc hp, List.map_append, e]
      · have c1' : isFree p = false := by
          cases q : isFree p with
          | false => rfl
          | true => exact absurd ((free_in po).trans q) c1
        cases p with
        | any => cases c1'
        | digits => cases c1'
        | word => cases c1'
        | fixed u =>
          have hu : u.length ≤ 4 := po.2.1
          refine ⟨_, rfl, .inl ⟨rfl, _, .inl (.inl hl2)⟩, _, rfl, strOf u, rfl, (by rw [strOf_len]; exact line_big (by omega)), fun l2 hl2n => ?_⟩
          have hl3 : (upd H2 l2 (.lst ((strOf u).cps.toList.map fun c => V.str (one c)))) l = some (.lst ((cellsOf (f.take i)).map cellV)) := by rw [upd_ne (ne_of_none hl2 hl2n)]; exact hl2
          refine ⟨_, l2, _, _, rfl, rfl, hl3, upd_same, (by rw [List.length_map, List.length_map, strOf_list]; exact line_big (by omega)), ⟨_, rfl⟩, same_over (s2.trans (same_upd hl2n)) hl, ?_⟩
          unfold CellsAt
          rw [upd_same, cellsOf_snoc hp, List.map_append, strOf_list]
          show _ = some (HO.lst (_ ++ (u.map Cell.sign).map cellV))
          rw [List.map_map]
          rfl
    · rintro σ H2 ⟨⟨v, rfl⟩, s2, hl2⟩
      rw [partsV_length, List.take_length] at hl2
      exact ⟨_, rfl, k _ l s2 hl hl2⟩
/-! ### kind_of -/
def spKindOf : Sp := fun vs H Q _ => ∃ c : Nat, vs = [.str (one c)] ∧ Q (.int (kindOf c : Nat)) H
theorem scKindOf : FnScope ["sign"] ["sign"] (defScope (top 21)) := ⟨rfl, rfl, rfl, by decide +kernel, rfl, by decide +kernel, by decide +kernel⟩
theorem ok_kind_of (T : Txt K mg) : FnOk P w K mg base CX0 1 T.dKindOf.f T.dKindOf.fd ["sign"] spKindOf := by
  obtain ⟨t4, k4⟩ := T.kDIGITSIGNS
  obtain ⟨t5, k5⟩ := T.kLETTERSIGNS
  refine T.dKindOf.F.ok scKindOf (fun vs H Q E h => ?_) (fun cdv A outer s H vs Q E hr h => ?_)
  · obtain ⟨c, rfl, _⟩ := h
    rfl
  · obtain ⟨c, rfl, k⟩ := h
    refine ⟨_, pss_cons (ps_if (pt_cmpR op_in_sign (pv 0) (pe_glob (v := .str digitsS) rfl k4 ⟨_, rfl⟩) (by rfl)) (pss_one (ps_ret pe_int)) pss_nil)
      (pss_one (ps_ret (pe_ifExp (pt_cmpR op_in_sign (pv 0) (pe_glob (v := .str lettersS) rfl k5 ⟨_, rfl⟩) (by rfl)) pe_int pe_int))), ?_⟩
    refine ⟨_, rfl, c, _, rfl, rfl, _, rfl, ?_⟩
    rw [digits_cps]
    unfold kindOf at k
    refine ite2 (fun h1 => ?_) (fun h1 => ?_)
    · rw [if_pos (of_decide_eq_true h1)] at k
      exact k
    · rw [if_neg fun e => h1 (decide_eq_true e)] at k
      refine ⟨_, rfl, c, _, rfl, rfl, _, rfl, ?_⟩
      rw [letters_cps]
      refine ite2 (fun h2 => ?_) (fun h2 => ?_)
      · rw [if_pos (of_decide_eq_true h2)] at k
        exact k
      · rw [if_neg fun e => h2 (decide_eq_true e)] at k
        exact k
/-! ### the methods of Form -/
theorem flds_pieces (t : Addr) : ([("pieces", V.ref t)] : List (Str × V)).lookup ("pieces" : Str) = some (.ref t) := by simp [List.lookup]
theorem one_no {x m : Str} {v : V} (h : ¬ m = x) : ([(x, v)] : List (Str × V)).lookup m = none := by
  have : (m == x) = false := beq_eq_false_iff_ne.mpr h
  simp [List.lookup, this]
theorem two_no {x y m : Str} {v u : V} (h : ¬ m = x) (h2 : ¬ m = y) : ([(x, v), (y, u)] : List (Str × V)).lookup m = none := by
  have e1 : (m == x) = false := beq_eq_false_iff_ne.mpr h
  have e2 : (m == y) = false := beq_eq_false_iff_ne.mpr h2
  simp [List.lookup, e1, e2]
theorem flds_left (b c : Addr) : ([("left", V.ref b), ("right", V.ref c)] : List (Str × V)).lookup ("left" : Str) = some (.ref b) := by simp [List.lookup]
theorem flds_right (b c : Addr) : ([("left", V.ref b), ("right", V.ref c)] : List (Str × V)).lookup ("right" : Str) = some (.ref c) := by
  have e1 : (("right" : Str) == ("left" : Str)) = false := by decide +kernel
  simp [List.lookup, e1]
def spParts (C : Addr) : Sp := fun vs H Q _ => ∃ (a dx t : Addr), vs = [.ref a] ∧ H a = some (.ins C dx [("pieces", .ref t)]) ∧ Q (.ref t) H
theorem scParts : FnScope ["self"] ["self"] (defScope (inClass (top 41) 5)) := ⟨rfl, rfl, rfl, by decide +kernel, rfl, by decide +kernel, by decide +kernel⟩
theorem ok_parts (T : Txt K mg) : FnOk P w K mg base CX0 1 T.mParts.f T.mParts.fd ["self"] (spParts T.cForm.C) := by
  refine T.mParts.F.ok scParts (fun vs H Q E h => ?_) (fun cdv A outer s H vs Q E hr h => ?_)
  · obtain ⟨a, dx, t, rfl, _⟩ := h
    rfl
  · obtain ⟨a, dx, t, rfl, hA, k⟩ := h
    refine ⟨_, pss_one (ps_ret (pe_fld (pv 0) rfl)), ?_⟩
    exact ⟨_, rfl, a, _, dx, _, _, rfl, hA, T.cForm.cl, T.nFormPieces, flds_pieces t, k⟩
def spForms (T : Txt K mg) : Sp := fun vs H Q _ => ∃ (a : Addr) (p : Pat), vs = [.ref a] ∧ PatAt T H a p ∧ ∀ (H' : Hp) (l : Addr), Same H H' → H l = none → FormsAt T H' l p.forms → Q (.ref l) H'
def spFormsF (T : Txt K mg) : Sp := fun vs H Q _ => ∃ (a : Addr) (f : Form), vs = [.ref a] ∧ FormAt T H a f ∧ ∀ (l : Addr), H l = none → Q (.ref l) (upd H l (.lst [.ref a]))
theorem scFormsF : FnScope ["self"] ["self"] (defScope (inClass (top 41) 6)) := ⟨rfl, rfl, rfl, by decide +kernel, rfl, by decide +kernel, by decide +kernel⟩
theorem ok_formsF (T : Txt K mg) : FnOk P w K mg base CX0 1 T.mForms.f T.mForms.fd ["self"] (spFormsF T) := by
  refine T.mForms.F.ok scFormsF (fun vs H Q E h => ?_) (fun cdv A outer s H vs Q E hr h => ?_)
  · obtain ⟨a, f, rfl, _⟩ := h
    rfl
  · obtain ⟨a, f, rfl, hA, k⟩ := h
    refine ⟨_, pss_one (ps_ret (pe_lst (pa_cons (pv 0) pa_nil))), ?_⟩
    exact ⟨_, rfl, line_big (n := 1) (by decide), fun l hl => k l hl⟩
def blsV (bs : List Bool) : List V := bs.map V.bl
def spHolds (T : Txt K mg) : Sp := fun vs H Q _ => ∃ (a l : Addr) (p : Pat) (ts : List Bool), vs = [.ref a, .ref l] ∧ PatAt T H a p ∧ SqL K H l (blsV ts) ∧ ts.length = p.forms.length ∧ ∀ H' : Hp, Same H H' → Q (.bl (p.holds ts)) H'
def spHoldsF (T : Txt K mg) : Sp := fun vs H Q _ => ∃ (a l : Addr) (f : Form) (t : Bool), vs = [.ref a, .ref l] ∧ FormAt T H a f ∧ SqL K H l (blsV [t]) ∧ Q (.bl t) H
theorem scHoldsF : FnScope ["self", "truths"] ["self", "truths"] (defScope (inClass (top 41) 7)) := ⟨rfl, rfl, rfl, by decide +kernel, rfl, by decide +kernel, by decide +kernel⟩
theorem ok_holdsF (T : Txt K mg) : FnOk P w K mg base CX0 1 T.mHolds.f T.mHolds.fd ["self", "truths"] (spHoldsF T) := by
  refine T.mHolds.F.ok scHoldsF (fun vs H Q E h => ?_) (fun cdv A outer s H vs Q E hr h => ?_)
  · obtain ⟨a, l, f, t, rfl, _⟩ := h
    rfl
  · obtain ⟨a, l, f, t, rfl, hA, hL, k⟩ := h
    refine ⟨_, pss_one (ps_ret (pe_ix ix_list (pv 1) pe_int (fun _ _ => rfl))), ?_⟩
    exact ⟨_, rfl, l, _, _, .bl t, rfl, rfl, hL, atI_nat (j := 0) rfl, k⟩
/-! ### forms and holds of Both and Either -/
theorem formAt_one {T : Txt K mg} {H : Hp} {a l : Addr} {f : Form} (h : FormAt T H a f) (e : H l = some (.lst [.ref a])) : FormsAt T H l [f] := ⟨[a], e, h, trivial⟩
theorem scFormsB : FnScope ["self"] ["self"] (defScope (inClass (top 42) 2)) := ⟨rfl, rfl, rfl, by decide +kernel, rfl, by decide +kernel, by decide +kernel⟩
theorem scFormsE : FnScope ["self"] ["self"] (defScope (inClass (top 43) 2)) := ⟨rfl, rfl, rfl, by decide +kernel, rfl, by decide +kernel, by decide +kernel⟩
def spFormsB (T : Txt K mg) (C : Addr) : Sp := fun vs H Q _ => ∃ (a dx b c : Addr) (f g : Form), vs = [.ref a] ∧ H a = some (.ins C dx [("left", .ref b), ("right", .ref c)]) ∧ FormAt T H b f ∧ FormAt T H c g ∧
  ∀ (H' : Hp) (l : Addr), Same H H' → H l = none → FormsAt T H' l [f, g] → Q (.ref l) H'
theorem pieces_no_forms : ¬ (("forms" : Str) = "pieces") := by decide +kernel
theorem pieces_no_holds : ¬ (("holds" : Str) = "pieces") := by decide +kernel
theorem pieces_no_parts : ¬ (("parts" : Str) = "pieces") := by decide +kernel
theorem ok_formsB (T : Txt K mg) : FnOk P w K mg base CX0 2 T.bForms.f T.bForms.fd ["self"] (spFormsB T T.cBoth.C) := by
  have G : FnOk P w K mg base CX0 1 T.mForms.f T.mForms.fd ["self"] (spFormsF T) := ok_formsF T
  refine T.bForms.F.ok scFormsB (fun vs H Q E h => ?_) (fun cdv A outer s H vs Q E hr h => ?_)
  · obtain ⟨a, dx, b, c, f, g, rfl, _⟩ := h
    rfl
  · obtain ⟨a, dx, b, c, f, g, rfl, hA, hb, hc, k⟩ := h
    refine ⟨_, pss_one (ps_ret (pe_op op_cat (pe_meth0 (pe_fld (pv 0) rfl) T.cForm.cl T.mForms.m G hr T.mForms.b .nil pass0) (pe_meth0 (pe_fld (pv 0) rfl) T.cForm.cl T.mForms.m G hr T.mForms.b .nil pass0))), ?_⟩
    obtain ⟨db, tb, hb1, _⟩ := id hb
    refine ⟨_, rfl, a, _, dx, _, _, rfl, hA, T.cBoth.cl, T.nBothLeft, flds_left b c, b, db, _, rfl, hb1, one_no pieces_no_forms, b, f, rfl, hb, fun l1 n1 => ?_⟩
    have s1 : Same H (upd H l1 (.lst [.ref b])) := same_upd n1
    have hc' := FormAt.mono s1 hc
    obtain ⟨dc, tc, hc1, _⟩ := id hc'
    refine ⟨_, rfl, a, _, dx, _, _, rfl, s1 _ _ hA, T.cBoth.cl, T.nBothRight, flds_right b c, c, dc, _, rfl, hc1, one_no pieces_no_forms, c, g, rfl, hc', fun l2 n2 => ?_⟩
    have s2 := same_upd (o := .lst [.ref c]) n2
    have ne : l1 ≠ l2 := ne_of_none upd_same n2
    refine ⟨l1, l2, [.ref b], [.ref c], rfl, rfl, (by rw [upd_ne ne]; exact upd_same), upd_same, line_big (n := 2) (by decide), fun p hp => ?_⟩
    have s3 := same_upd (o := .lst ([.ref b] ++ [.ref c])) hp
    have s123 := (s1.trans s2).trans s3
    exact k _ p s123 (Same.free (s1.trans s2) hp) ⟨[b, c], upd_same, FormAt.mono s123 hb, FormAt.mono s123 hc, trivial⟩
theorem ok_formsE (T : Txt K mg) : FnOk P w K mg base CX0 2 T.eForms.f T.eForms.fd ["self"] (spFormsB T T.cEither.C) := by
  have G : FnOk P w K mg base CX0 1 T.mForms.f T.mForms.fd ["self"] (spFormsF T) := ok_formsF T
  refine T.eForms.F.ok scFormsE (fun vs H Q E h => ?_) (fun cdv A outer s H vs Q E hr h => ?_)
  · obtain ⟨a, dx, b, c, f, g, rfl, _⟩ := h
    rfl
  · obtain ⟨a, dx, b, c, f, g, rfl, hA, hb, hc, k⟩ := h
    refine ⟨_, pss_one (ps_ret (pe_op op_cat (pe_meth0 (pe_fld (pv 0) rfl) T.cForm.cl T.mForms.m G hr T.mForms.b .nil pass0) (pe_meth0 (pe_fld (pv 0) rfl) T.cForm.cl T.mForms.m G hr T.mForms.b .nil pass0))), ?_⟩
    obtain ⟨db, tb, hb1, _⟩ := id hb
    refine ⟨_, rfl, a, _, dx, _, _, rfl, hA, T.cEither.cl, T.nEitherLeft, flds_left b c, b, db, _, rfl, hb1, one_no pieces_no_forms, b, f, rfl, hb, fun l1 n1 => ?_⟩
    have s1 : Same H (upd H l1 (.lst [.ref b])) := same_upd n1
    have hc' := FormAt.mono s1 hc
    obtain ⟨dc, tc, hc1, _⟩ := id hc'
    refine ⟨_, rfl, a, _, dx, _, _, rfl, s1 _ _ hA, T.cEither.cl, T.nEitherRight, flds_right b c, c, dc, _, rfl, hc1, one_no pieces_no_forms, c, g, rfl, hc', fun l2 n2 => ?_⟩
    have s2 := same_upd (o := .lst [.ref c]) n2
    have ne : l1 ≠ l2 := ne_of_none upd_same n2
    refine ⟨l1, l2, [.ref b], [.ref c], rfl, rfl, (by rw [upd_ne ne]; exact upd_same), upd_same, line_big (n := 2) (by decide), fun p hp => ?_⟩
    have s3 := same_upd (o := .lst ([.ref b] ++ [.ref c])) hp
    have s123 := (s1.trans s2).trans s3
    exact k _ p s123 (Same.free (s1.trans s2) hp) ⟨[b, c], upd_same, FormAt.mono s123 hb, FormAt.mono s123 hc, trivial⟩
end
end K35
namespace K35
open PySem L2
theorem cut_to (xs : List V) (k : Nat) : cutV xs none (some (k : Nat)) = xs.take k := by
  unfold cutV
  rw [HT.sIx_none, HT.sIx_nat, List.drop_zero, Nat.sub_zero]
  by_cases h : k ≤ xs.length
  · rw [Nat.min_eq_left h]
  · rw [Nat.min_eq_right (by omega), List.take_length, List.take_of_length_le (by omega)]
theorem cut_from (xs : List V) (k : Nat) : cutV xs (some (k : Nat)) none = xs.drop k := by
  unfold cutV
  rw [HT.sIx_none, HT.sIx_nat]
  by_cases h : k ≤ xs.length
  · rw [Nat.min_eq_left h]
    exact List.take_of_length_le (by rw [List.length_drop]; omega)
  · rw [Nat.min_eq_right (by omega), Nat.sub_self, List.take_zero, List.drop_of_length_le (by omega)]
section
variable {P : Program} {w : World} {K : PySem.W.Frag} {mg : Str → Option Value} {base : Heap}
theorem scHoldsB : FnScope ["self", "truths", "middle"] ["self", "truths"] (defScope (inClass (top 42) 3)) := ⟨rfl, rfl, rfl, by decide +kernel, rfl, by decide +kernel, by decide +kernel⟩
theorem scHoldsE : FnScope ["self", "truths", "middle"] ["self", "truths"] (defScope (inClass (top 43) 3)) := ⟨rfl, rfl, rfl, by decide +kernel, rfl, by decide +kernel, by decide +kernel⟩
def spHoldsB (T : Txt K mg) (C : Addr) (op : Bool → Bool → Bool) : Sp := fun vs H Q _ => ∃ (a l dx b c : Addr) (f g : Form) (t u : Bool), vs = [.ref a, .ref l] ∧ H a = some (.ins C dx [("left", .ref b), ("right", .ref c)]) ∧ FormAt T H b f ∧ FormAt T H c g ∧ SqL K H l (blsV [t, u]) ∧
  ∀ H' : Hp, Same H H' → Q (.bl (op t u)) H'
theorem ok_holdsB (T : Txt K mg) : FnOk P w K mg base CX0 2 T.bHolds.f T.bHolds.fd ["self", "truths"] (spHoldsB T T.cBoth.C (· && ·)) := by
  have GF : FnOk P w K mg base CX0 1 T.mForms.f T.mForms.fd ["self"] (spFormsF T) := ok_formsF T
  have GH : FnOk P w K mg base CX0 1 T.mHolds.f T.mHolds.fd ["self", "truths"] (spHoldsF T) := ok_holdsF T
  refine T.bHolds.F.ok scHoldsB (fun vs H Q E h => ?_) (fun cdv A outer s H vs Q E hr h => ?_)
  · obtain ⟨a, l, dx, b, c, f, g, t, u, rfl, _⟩ := h
    rfl
  · obtain ⟨a, l, dx, b, c, f, g, t, u, rfl, hA, hb, hc, hL, k⟩ := h
    refine ⟨_, pss_cons (ps_set (i := 2) scHoldsB.nd rfl (.inl rfl) (pe_callB call_len_seq rfl T.zLen (by decide +kernel) (pa_cons (pe_meth0 (pe_fld (pv 0) rfl) T.cForm.cl T.mForms.m GF hr T.mForms.b .nil pass0) pa_nil)))
      (pss_one (ps_ret (pe_and (pe_meth (pe_fld (pv 0) rfl) T.cForm.cl T.mHolds.m GH hr T.mHolds.b .nil pass0 (pa_cons (pe_slice sl_list (pv 1) po_none (po_some (pv 2))) pa_nil))
        (pe_one (pe_meth (pe_fld (pv 0) rfl) T.cForm.cl T.mHolds.m GH hr T.mHolds.b .nil pass0 (pa_cons (pe_slice sl_list (pv 1) (po_some (pv 2)) po_none) pa_nil)))))), ?_⟩
    obtain ⟨db, tb, hb1, _⟩ := id hb
    refine ⟨_, rfl, a, _, dx, _, _, rfl, hA, T.cBoth.cl, T.nBothLeft, flds_left b c, b, db, _, rfl, hb1, one_no pieces_no_forms, b, f, rfl, hb, fun l1 n1 => ?_⟩
    have s1 : Same H (upd H l1 (.lst [.ref b])) := same_upd n1
    have hb2 := FormAt.mono s1 hb
    obtain ⟨dB, tB, hb3, _⟩ := id hb2
    refine ⟨_, _, rfl, .inl (.inl (.inl upd_same)), ?_⟩
    refine ⟨_, rfl, a, _, dx, _, _, rfl, s1 _ _ hA, T.cBoth.cl, T.nBothLeft, flds_left b c, b, dB, _, rfl, hb3, one_no pieces_no_holds, ?_⟩
    refine ⟨_, rfl, _, rfl, _, rfl, l, _, rfl, s1.seq hL, fun p hp => ?_⟩
    have e1 : cutV (blsV [t, u]) none (some ((([V.ref b] : List V).length : Nat) : Int)) = blsV [t] := (cut_to _ 1).trans rfl
    rw [e1]
    have s2 := s1.trans (same_upd (o := .lst (blsV [t])) hp)
    refine ⟨b, p, f, t, rfl, FormAt.mono s2 hb, .inl (.inl upd_same), t, rfl, ?_⟩
    refine ite2 (fun ht => ?_) (fun ht => ?_)
    · have hc2 := FormAt.mono s2 hc
      obtain ⟨dC, tC, hc3, _⟩ := id hc2
      refine ⟨_, rfl, a, _, dx, _, _, rfl, s2 _ _ hA, T.cBoth.cl, T.nBothRight, flds_right b c, c, dC, _, rfl, hc3, one_no pieces_no_holds, ?_⟩
      refine ⟨_, rfl, _, rfl, _, rfl, l, _, rfl, s2.seq hL, fun p2 hp2 => ?_⟩
      have e2 : cutV (blsV [t, u]) (some ((([V.ref b] : List V).length : Nat) : Int)) none = blsV [u] := (cut_from _ 1).trans rfl
      rw [e2]
      have s3 := s2.trans (same_upd (o := .lst (blsV [u])) hp2)
      refine ⟨c, p2, g, u, rfl, FormAt.mono s3 hc, .inl (.inl upd_same), ?_⟩
      have z : Q (.bl (t && u)) _ := k _ s3
      rw [show (t && u) = u by rw [ht]; rfl] at z
      exact z
    · have ht' : t = false := by simpa using ht
      have z : Q (.bl (t && u)) _ := k _ s2
      rw [show (t && u) = false by rw [ht']; rfl] at z
      exact z
theorem ok_holdsE (T : Txt K mg) : FnOk P w K mg base CX0 2 T.eHolds.f T.eHolds.fd ["self", "truths"] (spHoldsB T T.cEither.C (· || ·)) := by
  have GF : FnOk P w K mg base CX0 1 T.mForms.f T.mForms.fd ["self"] (spFormsF T) := ok_formsF T
  have GH : FnOk P w K mg base CX0 1 T.mHolds.f T.mHolds.fd ["self", "truths"] (spHoldsF T) := ok_holdsF T
  refine T.eHolds.F.ok scHoldsE (fun vs H Q E h => ?_) (fun cdv A outer s H vs Q E hr h => ?_)
  · obtain ⟨a, l, dx, b, c, f, g, t, u, rfl, _⟩ := h
    rfl
  · obtain ⟨a, l, dx, b, c, f, g, t, u, rfl, hA, hb, hc, hL, k⟩ := h
    refine ⟨_, pss_cons (ps_set (i := 2) scHoldsE.nd rfl (.inl rfl) (pe_callB call_len_seq rfl T.zLen (by decide +kernel) (pa_cons (pe_meth0 (pe_fld (pv 0) rfl) T.cForm.cl T.mForms.m GF hr T.mForms.b .nil pass0) pa_nil)))
      (pss_one (ps_ret (pe_or (pe_meth (pe_fld (pv 0) rfl) T.cForm.cl T.mHolds.m GH hr T.mHolds.b .nil pass0 (pa_cons (pe_slice sl_list (pv 1) po_none (po_some (pv 2))) pa_nil))
        (pe_one (pe_meth (pe_fld (pv 0) rfl) T.cForm.cl T.mHolds.m GH hr T.mHolds.b .nil pass0 (pa_cons (pe_slice sl_list (pv 1) (po_some (pv 2)) po_none) pa_nil)))))), ?_⟩
    obtain ⟨db, tb, hb1, _⟩ := id hb
    refine ⟨_, rfl, a, _, dx, _, _, rfl, hA, T.cEither.cl, T.nEitherLeft, flds_left b c, b, db, _, rfl, hb1, one_no pieces_no_forms, b, f, rfl, hb, fun l1 n1 => ?_⟩
    have s1 : Same H (upd H l1 (.lst [.ref b])) := same_upd n1
    have hb2 := FormAt.mono s1 hb
    obtain ⟨dB, tB, hb3, _⟩ := id hb2
    refine ⟨_, _, rfl, .inl (.inl (.inl upd_same)), ?_⟩
    refine ⟨_, rfl, a, _, dx, _, _, rfl, s1 _ _ hA, T.cEither.cl, T.nEitherLeft, flds_left b c, b, dB, _, rfl, hb3, one_no pieces_no_holds, ?_⟩
    refine ⟨_, rfl, _, rfl, _, rfl, l, _, rfl, s1.seq hL, fun p hp => ?_⟩
    have e1 : cutV (blsV [t, u]) none (some ((([V.ref b] : List V).length : Nat) : Int)) = blsV [t] := (cut_to _ 1).trans rfl
    rw [e1]
    have s2 := s1.trans (same_upd (o := .lst (blsV [t])) hp)
    refine ⟨b, p, f, t, rfl, FormAt.mono s2 hb, .inl (.inl upd_same), t, rfl, ?_⟩
    refine ite2 (fun ht => ?_) (fun ht => ?_)
    · have z : Q (.bl (t || u)) _ := k _ s2
      rw [show (t || u) = true by rw [ht]; rfl] at z
      exact z
    · have ht' : t = false := by simpa using ht
      have hc2 := FormAt.mono s2 hc
      obtain ⟨dC, tC, hc3, _⟩ := id hc2
      refine ⟨_, rfl, a, _, dx, _, _, rfl, s2 _ _ hA, T.cEither.cl, T.nEitherRight, flds_right b c, c, dC, _, rfl, hc3, one_no pieces_no_holds, ?_⟩
      refine ⟨_, rfl, _, rfl, _, rfl, l, _, rfl, s2.seq hL, fun p2 hp2 => ?_⟩
      have e2 : cutV (blsV [t, u]) (some ((([V.ref b] : List V).length : Nat) : Int)) none = blsV [u] := (cut_from _ 1).trans rfl
      rw [e2]
      have s3 := s2.trans (same_upd (o := .lst (blsV [u])) hp2)
      refine ⟨c, p2, g, u, rfl, FormAt.mono s3 hc, .inl (.inl upd_same), ?_⟩
      have z : Q (.bl (t || u)) _ := k _ s3
      rw [show (t || u) = u by rw [ht']; rfl] at z
      exact z
/-! ### a pattern's methods, whatever its class -/
theorem patAt_cls {T : Txt K mg} {H : Hp} {a : Addr} {p : Pat} (h : PatAt T H a p) : ∃ C dx fs, H a = some (.ins C dx fs) ∧ (C = T.cForm.C ∨ C = T.cBoth.C ∨ C = T.cEither.C) ∧ fs.lookup ("forms" : Str) = none ∧ fs.lookup ("holds" : Str) = none := by
  cases p with
  | one f =>
    obtain ⟨dx, t, h1, _⟩ := h
    exact ⟨_, dx, _, h1, .inl rfl, one_no pieces_no_forms, one_no pieces_no_holds⟩
  | both f g =>
    obtain ⟨dx, b, c, h1, _⟩ := h
    exact ⟨_, dx, _, h1, .inr (.inl rfl), two_no (by decide +kernel) (by decide +kernel), two_no (by decide +kernel) (by decide +kernel)⟩
  | either f g =>
    obtain ⟨dx, b, c, h1, _⟩ := h
    exact ⟨_, dx, _, h1, .inr (.inr rfl), two_no (by decide +kernel) (by decide +kernel), two_no (by decide +kernel) (by decide +kernel)⟩
/-- the promise of holds for the objects of the class at C -/
def spHoldsC (T : Txt K mg) (C : Addr) : Sp := fun vs H Q _ => ∃ (a l dx : Addr) (fs : List (Str × V)) (p : Pat) (ts : List Bool), vs = [.ref a, .ref l] ∧ H a = some (.ins C dx fs) ∧ PatAt T H a p ∧ SqL K H l (blsV ts) ∧ ts.length = p.forms.length ∧ ∀ H' : Hp, Same H H' → Q (.bl (p.holds ts)) H'
def spFormsC (T : Txt K mg) (C : Addr) : Sp := fun vs H Q _ => ∃ (a dx : Addr) (fs : List (Str × V)) (p : Pat), vs = [.ref a] ∧ H a = some (.ins C dx fs) ∧ PatAt T H a p ∧ ∀ (H' : Hp) (l : Addr), Same H H' → H l = none → FormsAt T H' l p.forms → Q (.ref l) H'
theorem len1 {ts : List Bool} (h : ts.length = 1) : ∃ t, ts = [t] := by
  match ts, h with
  | [t], _ => exact ⟨t, rfl⟩
theorem len2 {ts : List Bool} (h : ts.length = 2) : ∃ t u, ts = [t, u] := by
  match ts, h with
  | [t, u], _ => exact ⟨t, u, rfl⟩
theorem ins_cls {H : Hp} {a C D dx dy : Addr} {fs gs : List (Str × V)} (h : H a = some (.ins C dx fs)) (h2 : H a = some (.ins D dy gs)) : C = D := by
  rw [h] at h2
  injection h2 with h2
  injection h2
theorem hC_form (T : Txt K mg) : FnOk P w K mg base CX0 1 T.mHolds.f T.mHolds.fd ["self", "truths"] (spHoldsC T T.cForm.C) := (ok_holdsF T).imp fun vs H Q E ⟨a, l, dx, fs, p, ts, ev, hc, hp, hl, hn, k⟩ => by
  cases p with
  | one f =>
    obtain ⟨t, rfl⟩ := len1 hn
    exact ⟨a, l, f, t, ev, hp, hl, k H (Same.refl H)⟩
  | both f g => obtain ⟨_, _, _, h1, _⟩ := hp; exact absurd (ins_cls hc h1) T.neFB
  | either f g => obtain ⟨_, _, _, h1, _⟩ := hp; exact absurd (ins_cls hc h1) T.neFE
theorem hC_both (T : Txt K mg) : FnOk P w K mg base CX0 2 T.bHolds.f T.bHolds.fd ["self", "truths"] (spHoldsC T T.cBoth.C) := (ok_holdsB T).imp fun vs H Q E ⟨a, l, dx, fs, p, ts, ev, hc, hp, hl, hn, k⟩ => by
  cases p with
  | one f => obtain ⟨_, _, h1, _⟩ := hp; exact absurd (ins_cls h1 hc) T.neFB
  | both f g =>
    obtain ⟨t, u, rfl⟩ := len2 hn
    obtain ⟨dy, b, c, h1, h2, h3⟩ := hp
    exact ⟨a, l, dy, b, c, f, g, t, u, ev, h1, h2, h3, hl, k⟩
  | either f g => obtain ⟨_, _, _, h1, _⟩ := hp; exact absurd (ins_cls hc h1) T.neBE
theorem hC_either (T : Txt K mg) : FnOk P w K mg base CX0 2 T.eHolds.f T.eHolds.fd ["self", "truths"] (spHoldsC T T.cEither.C) := (ok_holdsE T).imp fun vs H Q E ⟨a, l, dx, fs, p, ts, ev, hc, hp, hl, hn, k⟩ => by
  cases p with
  | one f => obtain ⟨_, _, h1, _⟩ := hp; exact absurd (ins_cls h1 hc) T.neFE
  | both f g => obtain ⟨_, _, _, h1, _⟩ := hp; exact absurd (ins_cls h1 hc) T.neBE
  | either f g =>
    obtain ⟨t, u, rfl⟩ := len2 hn
    obtain ⟨dy, b, c, h1, h2, h3⟩ := hp
    exact ⟨a, l, dy, b, c, f, g, t, u, ev, h1, h2, h3, hl, k⟩
theorem fC_form (T : Txt K mg) : FnOk P w K mg base CX0 1 T.mForms.f T.mForms.fd ["self"] (spFormsC T T.cForm.C) := (ok_formsF T).imp fun vs H Q E ⟨a, dx, fs, p, ev, hc, hp, k⟩ => by
  cases p with
  | one f => exact ⟨a, f, ev, hp, fun l hl => k _ l (same_upd hl) hl ⟨[a], upd_same, FormAt.mono (same_upd hl) hp, trivial⟩⟩
  | both f g => obtain ⟨_, _, _, h1, _⟩ := hp; exact absurd (ins_cls hc h1) T.neFB
  | either f g => obtain ⟨_, _, _, h1, _⟩ := hp; exact absurd (ins_cls hc h1) T.neFE
theorem fC_both (T : Txt K mg) : FnOk P w K mg base CX0 2 T.bForms.f T.bForms.fd ["self"] (spFormsC T T.cBoth.C) := (ok_formsB T).imp fun vs H Q E ⟨a, dx, fs, p, ev, hc, hp, k⟩ => by
  cases p with
  | one f => obtain ⟨_, _, h1, _⟩ := hp; exact absurd (ins_cls h1 hc) T.neFB
  | both f g =>
    obtain ⟨dy, b, c, h1, h2, h3⟩ := hp
    exact ⟨a, dy, b, c, f, g, ev, h1, h2, h3, k⟩
  | either f g => obtain ⟨_, _, _, h1, _⟩ := hp; exact absurd (ins_cls hc h1) T.neBE
theorem fC_either (T : Txt K mg) : FnOk P w K mg base CX0 2 T.eForms.f T.eForms.fd ["self"] (spFormsC T T.cEither.C) := (ok_formsE T).imp fun vs H Q E ⟨a, dx, fs, p, ev, hc, hp, k⟩ => by
  cases p with
  | one f => obtain ⟨_, _, h1, _⟩ := hp; exact absurd (ins_cls h1 hc) T.neFE
  | both f g => obtain ⟨_, _, _, h1, _⟩ := hp; exact absurd (ins_cls h1 hc) T.neBE
  | either f g =>
    obtain ⟨dy, b, c, h1, h2, h3⟩ := hp
    exact ⟨a, dy, b, c, f, g, ev, h1, h2, h3, k⟩
section
variable {X : Cx} {P : Program} {w : World} {base : Heap} {x : Str} {p apos pos : Pos} {e : Expr} {es : List Expr} {t : TA}
theorem pe_imp {e : Expr} {t t' : TE} (h : PE X e t) (i : ∀ σ H Q, t' σ H Q → t σ H Q) : PE X e t' := ⟨fun pins s σ H Q I q => h.run pins s σ H Q I (i _ _ _ q)⟩
/-- x.forms() of a pattern in slot i -/
theorem pe_formsP (T : Txt K mg) (i : Nat) (hP : X.K = K) (hm : X.mg = mg) (hr : Room 2 X.A) (hv : PE X (.Name x p) (tVar i))
    {pl : Sem Bool} (ht : eval (.Call (.Attribute (.Name x p) "forms" apos) [] [] pos) X.env = (do
      let ov ← eval (.Name x p) X.env
      standAt apos.atName
      let (f, first) ← holding [ov] (getMethod ov "forms" pl)
      callWith pos f first (backTo pos (starEach [] X.env)) (backToKw pos (keywordEach [] X.env))) := by rfl) :
    PE X (.Call (.Attribute (.Name x p) "forms" apos) [] [] pos) (fun σ H Q => ∃ a q, σ[i]? = some (some (.ref a)) ∧ PatAt T H a q ∧ ∀ (H' : Hp) (l : Addr), Same H H' → H l = none → FormsAt T H' l q.forms → Q (.ref l) H') := by
  subst hP
  subst hm
  have h1 := pe_meth0 (apos := apos) (pos := pos) hv T.cForm.cl T.mForms.m (fC_form (P := X.prog) (w := X.w) (base := X.base) T) (hr.mono (by decide)) T.mForms.b .nil pass0 ht
  have h2 := pe_meth0 (apos := apos) (pos := pos) hv T.cBoth.cl T.bForms.m (fC_both (P := X.prog) (w := X.w) (base := X.base) T) hr T.bForms.b .nil pass0 ht
  have h3 := pe_meth0 (apos := apos) (pos := pos) hv T.cEither.cl T.eForms.m (fC_either (P := X.prog) (w := X.w) (base := X.base) T) hr T.eForms.b .nil pass0 ht
  refine pe_imp (pe_alt h1 (pe_alt h2 h3)) fun σ H Q ⟨a, q, e1, hp, k⟩ => ?_
  obtain ⟨C, dx, fs, hc, hC, n1, _⟩ := patAt_cls hp
  rcases hC with rfl | rfl | rfl
  · exact .inl ⟨_, e1, a, dx, fs, rfl, hc, n1, a, dx, fs, q, rfl, hc, hp, k⟩
  · exact .inr (.inl ⟨_, e1, a, dx, fs, rfl, hc, n1, a, dx, fs, q, rfl, hc, hp, k⟩)
  · exact .inr (.inr ⟨_, e1, a, dx, fs, rfl, hc, n1, a, dx, fs, q, rfl, hc, hp, k⟩)
/-- x.holds(e) of a pattern in slot i -/
theorem pe_holdsP (T : Txt K mg) (i : Nat) (hP : X.K = K) (hm : X.mg = mg) (hr : Room 2 X.A) (hv : PE X (.Name x p) (tVar i)) (ha : PA X [e] t) (hst : starEach [e] X.env = (false, eval e X.env) :: starEach [] X.env := by rfl)
    {pl : Sem Bool} (ht : eval (.Call (.Attribute (.Name x p) "holds" apos) [e] [] pos) X.env = (do
      let ov ← eval (.Name x p) X.env
      standAt apos.atName
      let (f, first) ← holding [ov] (getMethod ov "holds" pl)
      callWith pos f first (backTo pos (starEach [e] X.env)) (backToKw pos (keywordEach [] X.env))) := by rfl) :
    PE X (.Call (.Attribute (.Name x p) "holds" apos) [e] [] pos) (fun σ H Q => ∃ (a C dx : Addr) (fs : List (Str × V)), σ[i]? = some (some (.ref a)) ∧ H a = some (.ins C dx fs) ∧ (C = T.cForm.C ∨ C = T.cBoth.C ∨ C = T.cEither.C) ∧ fs.lookup ("holds" : Str) = none ∧
      t σ H fun vs H2 => spHoldsC T C (.ref a :: (vs ++ [])) H2 Q E0) := by
  subst hP
  subst hm
  have h1 := pe_meth (apos := apos) (pos := pos) hv T.cForm.cl T.mHolds.m (hC_form (P := X.prog) (w := X.w) (base := X.base) T) (hr.mono (by decide)) T.mHolds.b .nil pass0 ha hst (by rfl) ht
  have h2 := pe_meth (apos := apos) (pos := pos) hv T.cBoth.cl T.bHolds.m (hC_both (P := X.prog) (w := X.w) (base := X.base) T) hr T.bHolds.b .nil pass0 ha hst (by rfl) ht
  have h3 := pe_meth (apos := apos) (pos := pos) hv T.cEither.cl T.eHolds.m (hC_either (P := X.prog) (w := X.w) (base := X.base) T) hr T.eHolds.b .nil pass0 ha hst (by rfl) ht
  refine pe_imp (pe_alt h1 (pe_alt h2 h3)) fun σ H Q ⟨a, C, dx, fs, e1, hc, hC, n1, k⟩ => ?_
  rcases hC with rfl | rfl | rfl
  · exact .inl ⟨_, e1, a, dx, fs, rfl, hc, n1, k⟩
  · exact .inr (.inl ⟨_, e1, a, dx, fs, rfl, hc, n1, k⟩)
  · exact .inr (.inr ⟨_, e1, a, dx, fs, rfl, hc, n1, k⟩)
end
end
end K35
namespace K35
open PySem L2
theorem tyes {R : Bool → Hp → Prop} {σ : St} {H : Hp} (h : R true H) : tYes σ H R := h
section
variable {P : Program} {w : World} {K : PySem.W.Frag} {mg : Str → Option Value} {base : Heap}
/-! ### begin -/
def spBegin (T : Txt K mg) : Sp := fun vs H Q _ => ∃ (l : Addr) (fs : List Form), vs = [.ref l] ∧ FormsAt T H l fs ∧ fs.length ≤ 1000 ∧ ∀ (H' : Hp) (p : Addr), Same H H' → H p = none → StAt H' p (begin_ (fs.map cellsOf)) → Q (.ref p) H'
theorem scBegin : FnScope ["forms", "form"] ["forms"] (defScope (top 18)) := ⟨rfl, rfl, rfl, by decide +kernel, rfl, by decide +kernel, by decide +kernel⟩
theorem ok_begin (T : Txt K mg) : FnOk P w K mg base CX0 3 T.dBegin.f T.dBegin.fd ["forms"] (spBegin T) := by
  have GS : FnOk P w K mg base CX0 2 T.dStarted.f T.dStarted.fd ["cells"] (spStarted K) := ok_started T
  have GC : FnOk P w K mg base CX0 1 T.dCellsOf.f T.dCellsOf.fd ["parts"] (spCellsOf K) := ok_cells_of T
  have GP : FnOk P w K mg base CX0 1 T.mParts.f T.mParts.fd ["self"] (spParts T.cForm.C) := ok_parts T
  refine T.dBegin.F.ok scBegin (fun vs H Q E h => ?_) (fun cdv A outer s H vs Q E hr h => ?_)
  · obtain ⟨l, fs, rfl, _⟩ := h
    rfl
  · obtain ⟨l, fs, rfl, ⟨as, hL, hAs⟩, hfl, k⟩ := h
    have hr1 := hr.mono (show 1 ≤ 2 by decide)
    refine ⟨_, pss_one (ps_ret (pe_callTy call_tuple_of rfl T.zTuple (by decide +kernel) (pa_cons
      (pe_lc (own := [("form", 1)]) (g := gName 1) (tt := tYes) rfl scBegin.nd (pi_list (pv 0)) (blkOk_by (own := [("form", 1)]) (N := ["forms", "form"]) (sc := defScope (top 18)) (by decide +kernel))
        (fun _ _ _ _ _ => pg_name (i := 1) scBegin.nd rfl (Or.inl rfl)) (fun _ _ _ _ _ => pts_nil)
        (fun _ _ _ _ _ => pe_call GS hr rfl T.dStarted.m T.dStarted.F.kp T.dStarted.b .nil pass0 (pa_cons (pe_call GC hr1 rfl T.dCellsOf.m T.dCellsOf.F.kp T.dCellsOf.b .nil pass0
          (pa_cons (pe_meth0 (pv 1) T.cForm.cl T.mParts.m GP hr1 T.mParts.b .nil pass0) pa_nil)) pa_nil))) pa_nil))), ?_⟩
    refine ⟨_, rfl, l, rfl, ⟨_, .inl (.inl hL)⟩, fun D hD => lc_it (walk_list (xs := refsV as)) (fun i H2 => Same H H2 ∧ ∃ ps, H2 D = some (.lst (refsV ps)) ∧ AllAt (TupAt H2) ps (begin_ ((fs.take i).map cellsOf)))
      ⟨same_upd hD, [], upd_same, trivial⟩ (fun i H2 _ q => .inl (.inl (q.1 _ _ hL))) ?_ ?_⟩
    · rintro i x H0 H2 hi ⟨s2, ps, hD2, hps⟩ ⟨rfl, hx⟩
      obtain ⟨a, ha, rfl⟩ := refsV_some hx
      obtain ⟨f, hf, hfa⟩ := hAs.get ha
      obtain ⟨dx, t, h1, h2, fo⟩ := FormAt.mono s2 hfa
      have hi2 : i < as.length := by rw [refsV_length] at hi; exact hi
      have hpl : ps.length ≤ 1000 := by
        rw [hps.length]
        unfold begin_
        rw [List.length_map, List.length_map, List.length_take]
        omega
      refine ⟨rfl, tyes (iteT ?_)⟩
      refine ⟨_, rfl, a, dx, _, rfl, h1, one_no pieces_no_parts, a, dx, t, rfl, h1, ?_⟩
      refine ⟨t, f, rfl, .inl (.inl h2), fo, fun H3 c s3 hn3 hc3 => ?_⟩
      refine ⟨c, cellsOf f, rfl, .inl (.inl hc3), by have := fo.cells; omega, fun H4 p s4 hn4 hp4 => ?_⟩
      have hD4 : H4 D = some (.lst (refsV ps)) := s4 _ _ (s3 _ _ hD2)
      have np : p ≠ D := fun e => by
        have hz := s3 _ _ hD2
        rw [← e, hn4] at hz
        cases hz
      refine ⟨refsV ps, hD4, by rw [refsV_length]; exact line_lt (by omega), ?_⟩
      have sD : ∀ b o, H4 b = some o → b ≠ D → (upd H4 D (.lst (refsV ps ++ [.ref p]))) b = some o := fun b o e n => by rw [upd_ne n]; exact e
      refine ⟨?_, ps ++ [p], by rw [upd_same, refsV_app]; rfl, ?_⟩
      · exact same_over ((s2.trans s3).trans s4) hD
      · rw [take_snoc hf, List.map_append]
        have e : begin_ ((fs.take i).map cellsOf ++ [f].map cellsOf) = begin_ ((fs.take i).map cellsOf) ++ [started (cellsOf f)] := by unfold begin_; rw [List.map_append]; rfl
        rw [e]
        refine AllAt.snoc (hps.imp fun b q hb => ?_) (sD _ _ hp4 np)
        have hb4 := s4 _ _ (s3 _ _ hb)
        refine sD _ _ hb4 fun eb => ?_
        rw [eb, hD4] at hb4
        cases hb4
    · rintro H2 ⟨s2, ps, hD2, hps⟩
      rw [refsV_length, show fs.take as.length = fs by rw [hAs.length, List.take_length]] at hps
      refine ⟨D, _, rfl, .inl ⟨.inl (.inl hD2), fun p hp => ?_⟩⟩
      have s3 := same_upd (o := .tup (refsV ps)) hp
      exact k _ p (s2.trans s3) (Same.free s2 hp) ⟨ps, upd_same, hps.imp fun b q hb => s3 _ _ hb⟩
/-! ### stepped -/
def spStepped : Sp := fun vs H Q _ => ∃ (l t : Addr) (rows : List (List Cell)) (u : Line) (c : Nat), vs = [.ref l, .ref t, .str (one c)] ∧ RowsAt H l rows ∧ StAt H t (runs rows u) ∧ rows.length ≤ 1000 ∧ (∀ r ∈ rows, r.length ≤ 1000) ∧
  ∀ (H' : Hp) (p : Addr), Same H H' → H p = none → StAt H' p (runs rows (u ++ [c])) → Q (.ref p) H'
theorem scStepped : FnScope ["rows", "state", "sign", "k", "cells"] ["rows", "state", "sign"] (defScope (top 19)) := ⟨rfl, rfl, rfl, by decide +kernel, rfl, by decide +kernel, by decide +kernel⟩
theorem ok_stepped (T : Txt K mg) : FnOk P w K mg base CX0 3 T.dStepped.f T.dStepped.fd ["rows", "state", "sign"] spStepped := by
  have GM : FnOk P w K mg base CX0 2 T.dMoved.f T.dMoved.fd ["cells", "positions", "sign"] (spMoved K) := ok_moved T
  refine T.dStepped.F.ok scStepped (fun vs H Q E h => ?_) (fun cdv A outer s H vs Q E hr h => ?_)
  · obtain ⟨l, t, rows, u, c, rfl, _⟩ := h
    rfl
  · obtain ⟨l, t, rows, u, c, rfl, ⟨as, hL, hAs⟩, ⟨bs, hT, hBs⟩, hrl, hrs, k⟩ := h
    refine ⟨_, pss_one (ps_ret (pe_callTy call_tuple_of rfl T.zTuple (by decide +kernel) (pa_cons
      (pe_lc (own := [("k", 3), ("cells", 4)]) (g := gTup K 2 (gCons (gName 3) (gCons (gName 4) gNil))) (tt := tYes) rfl scStepped.nd (pi_enum rfl T.zEnumerate (pa_cons (pv 0) pa_nil)) (blkOk_by (own := [("k", 3), ("cells", 4)]) (N := ["rows", "state", "sign", "k", "cells"]) (sc := defScope (top 19)) (by decide +kernel))
        (fun _ _ _ _ _ => pg_tup rfl (pgs_cons (pg_name (i := 3) scStepped.nd rfl (Or.inl rfl)) (pgs_cons (pg_name (i := 4) scStepped.nd rfl (Or.inl rfl)) pgs_nil))) (fun _ _ _ _ _ => pts_nil)
        (fun _ _ _ _ _ => pe_call GM hr rfl T.dMoved.m T.dMoved.F.kp T.dMoved.b .nil pass0 (pa_cons (pv 4) (pa_cons (pe_ix (r := rIxT K) ix_tup (pv 1) (pv 3) (fun _ _ => rfl)) (pa_cons (pv 2) pa_nil))))) pa_nil))), ?_⟩
    refine ⟨_, rfl, l, _, rfl, .inl (.inl hL), fun D hD => lc_it (walk_enum (xs := refsV as)) (fun i H2 => Same H H2 ∧ ∃ ps, H2 D = some (.lst (refsV ps)) ∧ AllAt (TupAt H2) ps (runs (rows.take i) (u ++ [c])))
      ⟨same_upd hD, [], upd_same, trivial⟩ (fun i H2 _ q => .inl (.inl (q.1 _ _ hL))) ?_ ?_⟩
    · rintro i x H0 H2 hi ⟨s2, ps, hD2, hps⟩ ⟨tp, x1, y1, rfl, hn1, rfl, e1, e2⟩
      cases e1
      obtain ⟨a, ha, rfl⟩ := refsV_some e2
      obtain ⟨cells, hc, hca⟩ := hAs.get ha
      have hst : (runs rows u)[i]? = some (run cells u) := by unfold runs; rw [List.getElem?_map, hc]; rfl
      obtain ⟨b, hb, hbt⟩ := hBs.at_ hst
      have s3 := s2.trans (same_upd (o := .tup [.int (i : Nat), .ref a]) hn1)
      have nD : tp ≠ D := fun e => by rw [e, hD2] at hn1; cases hn1
      have hi2 : i < as.length := by rw [refsV_length] at hi; exact hi
      have hpl : ps.length ≤ 1000 := by
        rw [hps.length]
        unfold runs
        rw [List.length_map, List.length_take]
        omega
      have hcl : cells.length ≤ 1000 := hrs cells (List.mem_of_getElem? hc)
      refine ⟨tp, _, rfl, .inl (.inl upd_same), rfl, _, _, rfl, _, _, rfl, rfl, rfl, tyes (iteT ?_)⟩
      refine ⟨_, rfl, _, rfl, _, rfl, t, _, _, _, rfl, rfl, .inl (.inl (s3 _ _ hT)), atI_nat (refsV_get hb), _, rfl, ?_⟩
      refine ⟨a, b, cells, run cells u, c, rfl, .inl (.inl (s3 _ _ hca)), .inl (.inl (s3 _ _ hbt)), by omega, fun q hq => run_le hq, by have := run_len cells u; omega, fun H4 p s4 hn4 hp4 => ?_⟩
      have hD3 : (upd H0 tp (.tup [.int (i : Nat), .ref a])) D = some (.lst (refsV ps)) := by rw [upd_ne (Ne.symm nD)]; exact hD2
      have hD4 : H4 D = some (.lst (refsV ps)) := s4 _ _ hD3
      have np : p ≠ D := fun e => by rw [e, hD3] at hn4; cases hn4
      refine ⟨refsV ps, hD4, by rw [refsV_length]; exact line_lt (by omega), ?_⟩
      have sD : ∀ b o, H4 b = some o → b ≠ D → (upd H4 D (.lst (refsV ps ++ [.ref p]))) b = some o := fun b o e n => by rw [upd_ne n]; exact e
      refine ⟨same_over (s3.trans s4) hD, ps ++ [p], by rw [upd_same, refsV_app]; rfl, ?_⟩
      rw [take_snoc hc]
      have e : runs (rows.take i ++ [cells]) (u ++ [c]) = runs (rows.take i) (u ++ [c]) ++ [moved cells (run cells u) c] := by unfold runs; rw [List.map_append, ← run_snoc]; rfl
      rw [e]
      refine AllAt.snoc (hps.imp fun b q hb => ?_) (sD _ _ hp4 np)
      have hb4 := s4 _ _ (same_upd (o := .tup [.int (i : Nat), .ref a]) hn1 _ _ hb)
      refine sD _ _ hb4 fun eb => ?_
      rw [eb, hD4] at hb4
      cases hb4
    · rintro H2 ⟨s2, ps, hD2, hps⟩
      rw [refsV_length, show rows.take as.length = rows by rw [hAs.length, List.take_length]] at hps
      refine ⟨D, _, rfl, .inl ⟨.inl (.inl hD2), fun p hp => ?_⟩⟩
      have s3 := same_upd (o := .tup (refsV ps)) hp
      exact k _ p (s2.trans s3) (Same.free s2 hp) ⟨ps, upd_same, hps.imp fun b q hb => s3 _ _ hb⟩
/-! ### truths -/
def spTruths (T : Txt K mg) : Sp := fun vs H Q _ => ∃ (l t : Addr) (fs : List Form) (u : Line), vs = [.ref l, .ref t] ∧ FormsAt T H l fs ∧ StAt H t (runs (fs.map cellsOf) u) ∧ fs.length ≤ 1000 ∧
  ∀ (H' : Hp) (p : Addr), Same H H' → H p = none → H' p = some (.lst (blsV (fs.map fun f => fitsF f u))) → Q (.ref p) H'
theorem scTruths : FnScope ["forms", "state", "k", "form"] ["forms", "state"] (defScope (top 20)) := ⟨rfl, rfl, rfl, by decide +kernel, rfl, by decide +kernel, by decide +kernel⟩
theorem ok_truths (T : Txt K mg) : FnOk P w K mg base CX0 2 T.dTruths.f T.dTruths.fd ["forms", "state"] (spTruths T) := by
  have GD : FnOk P w K mg base CX0 1 T.dIsDone.f T.dIsDone.fd ["cells", "positions"] (spIsDone K) := ok_is_done T
  have GC : FnOk P w K mg base CX0 1 T.dCellsOf.f T.dCellsOf.fd ["parts"] (spCellsOf K) := ok_cells_of T
  have GP : FnOk P w K mg base CX0 1 T.mParts.f T.mParts.fd ["self"] (spParts T.cForm.C) := ok_parts T
  refine T.dTruths.F.ok scTruths (fun vs H Q E h => ?_) (fun cdv A outer s H vs Q E hr h => ?_)
  · obtain ⟨l, t, fs, u, rfl, _⟩ := h
    rfl
  · obtain ⟨l, t, fs, u, rfl, ⟨as, hL, hAs⟩, ⟨bs, hT, hBs⟩, hfl, k⟩ := h
    refine ⟨_, pss_one (ps_ret
      (pe_lc (own := [("k", 2), ("form", 3)]) (g := gTup K 2 (gCons (gName 2) (gCons (gName 3) gNil))) (tt := tYes) rfl scTruths.nd (pi_enum rfl T.zEnumerate (pa_cons (pv 0) pa_nil)) (blkOk_by (own := [("k", 2), ("form", 3)]) (N := ["forms", "state", "k", "form"]) (sc := defScope (top 20)) (by decide +kernel))
        (fun _ _ _ _ _ => pg_tup rfl (pgs_cons (pg_name (i := 2) scTruths.nd rfl (Or.inl rfl)) (pgs_cons (pg_name (i := 3) scTruths.nd rfl (Or.inl rfl)) pgs_nil))) (fun _ _ _ _ _ => pts_nil)
        (fun _ _ _ _ _ => pe_call GD hr rfl T.dIsDone.m T.dIsDone.F.kp T.dIsDone.b .nil pass0 (pa_cons (pe_call GC hr rfl T.dCellsOf.m T.dCellsOf.F.kp T.dCellsOf.b .nil pass0
          (pa_cons (pe_meth0 (pv 3) T.cForm.cl T.mParts.m GP hr T.mParts.b .nil pass0) pa_nil)) (pa_cons (pe_ix (r := rIxT K) ix_tup (pv 1) (pv 2) (fun _ _ => rfl)) pa_nil))))), ?_⟩
    refine ⟨_, rfl, l, _, rfl, .inl (.inl hL), fun D hD => lc_it (walk_enum (xs := refsV as)) (fun i H2 => Same H H2 ∧ H2 D = some (.lst (blsV ((fs.take i).map fun f => fitsF f u))))
      ⟨same_upd hD, upd_same⟩ (fun i H2 _ q => .inl (.inl (q.1 _ _ hL))) ?_ ?_⟩
    · rintro i x H0 H2 hi ⟨s2, hD2⟩ ⟨tp, x1, y1, rfl, hn1, rfl, e1, e2⟩
      cases e1
      obtain ⟨a, ha, rfl⟩ := refsV_some e2
      obtain ⟨f, hf, hfa⟩ := hAs.get ha
      have hst : (runs (fs.map cellsOf) u)[i]? = some (run (cellsOf f) u) := by unfold runs; rw [List.getElem?_map, List.getElem?_map, hf]; rfl
      obtain ⟨b, hb, hbt⟩ := hBs.at_ hst
      have s3 := s2.trans (same_upd (o := .tup [.int (i : Nat), .ref a]) hn1)
      obtain ⟨dx, q, h1, h2, fo⟩ := FormAt.mono s3 hfa
      have nD : tp ≠ D := fun e => by rw [e, hD2] at hn1; cases hn1
      have hD3 : (upd H0 tp (.tup [.int (i : Nat), .ref a])) D = some (.lst (blsV ((fs.take i).map fun f => fitsF f u))) := by rw [upd_ne (Ne.symm nD)]; exact hD2
      refine ⟨tp, _, rfl, .inl (.inl upd_same), rfl, _, _, rfl, _, _, rfl, rfl, rfl, tyes (iteT ?_)⟩
      refine ⟨_, rfl, a, dx, _, rfl, h1, one_no pieces_no_parts, a, dx, q, rfl, h1, ?_⟩
      refine ⟨q, f, rfl, .inl (.inl h2), fo, fun H4 c s4 hn4 hc4 => ?_⟩
      refine ⟨_, rfl, _, rfl, t, _, _, _, rfl, rfl, .inl (.inl (s4 _ _ (s3 _ _ hT))), atI_nat (refsV_get hb), ?_⟩
      refine ⟨c, b, cellsOf f, run (cellsOf f) u, rfl, .inl (.inl hc4), .inl (.inl (s4 _ _ (s3 _ _ hbt))), ?_⟩
      refine ⟨_, s4 _ _ hD3, ?_, same_over (s3.trans s4) hD, ?_⟩
      · unfold blsV
        rw [List.length_map, List.length_map, List.length_take]
        exact line_lt (by omega)
      · rw [upd_same, take_snoc hf]
        unfold blsV
        rw [List.map_append, List.map_append]
        rfl
    · rintro H2 ⟨s2, hD2⟩
      rw [refsV_length, show fs.take as.length = fs by rw [hAs.length, List.take_length]] at hD2
      exact k _ D s2 hD hD2
end
end K35
namespace K35
open PySem L2
/-! ### keys: numbers, truth values, tuples of keys -/
mutual
inductive KeyIs (H : Hp) : V → NestedKey → Prop
  | num (i : Int) : KeyIs H (.int i) (.num i)
  | bl (b : Bool) : KeyIs H (.bl b) (.num (if b = true then 1 else 0))
  | tup {a : Addr} {vs : List V} {ks : List NestedKey} : H a = some (.tup vs) → KeyAll H vs ks → KeyIs H (.ref a) (.tup ks)
inductive KeyAll (H : Hp) : List V → List NestedKey → Prop
  | nil : KeyAll H [] []
  | cons {v : V} {vs : List V} {k : NestedKey} {ks : List NestedKey} : KeyIs H v k → KeyAll H vs ks → KeyAll H (v :: vs) (k :: ks)
end
mutual
theorem KeyIs.mono {H H' : Hp} (e : ∀ a vs, H a = some (.tup vs) → H' a = some (.tup vs)) : ∀ (k : NestedKey) (v : V), KeyIs H v k → KeyIs H' v k
  | .num i, _, h => by
    cases h with
    | num => exact .num _
    | bl b => exact .bl b
  | .tup ks, _, h => by
    cases h with
    | tup h1 h2 => exact .tup (e _ _ h1) (KeyAll.mono e ks _ h2)
  | .none, _, h => by cases h
  | .text _, _, h => by cases h
theorem KeyAll.mono {H H' : Hp} (e : ∀ a vs, H a = some (.tup vs) → H' a = some (.tup vs)) : ∀ (ks : List NestedKey) (vs : List V), KeyAll H vs ks → KeyAll H' vs ks
  | [], _, h => by cases h; exact .nil
  | k :: ks, _, h => by
    cases h with
    | cons h1 h2 => exact .cons (KeyIs.mono e k _ h1) (KeyAll.mono e ks _ h2)
end
mutual
theorem KeyIs.nested {X : Cx} {pins : List (Addr × Obj)} {σ : St} {H : Hp} {s : Shared} (I : Inv X pins σ H s) : ∀ (k : NestedKey) (v : V) (u : Value), KeyIs H v k → RelV v u → NestedIs s.heap k u
  | .num i, _, _, h, r => by
    cases h with
    | num =>
      obtain ⟨t, rfl⟩ := r
      exact NestedIs.int _ _
    | bl b =>
      cases r
      exact NestedIs.bool rfl
  | .tup ks, _, _, h, r => by
    cases h with
    | @tup a vs _ h1 h2 =>
      cases r
      obtain ⟨_, its, rv, o, ho, hc, n, hd⟩ := (show ObjOk X.prog X.w H s.heap a (.tup vs) from I.hok a _ h1)
      exact NestedIs.tup ho hc hd (KeyAll.nested I ks vs its h2 rv)
  | .none, _, _, h, _ => by cases h
  | .text _, _, _, h, _ => by cases h
theorem KeyAll.nested {X : Cx} {pins : List (Addr × Obj)} {σ : St} {H : Hp} {s : Shared} (I : Inv X pins σ H s) : ∀ (ks : List NestedKey) (vs : List V) (us : List Value), KeyAll H vs ks → Vals vs us → NestedAll s.heap ks us
  | [], _, _, h, r => by
    cases h
    cases r
    exact NestedAll.nil
  | k :: ks, _, _, h, r => by
    cases h with
    | cons h1 h2 =>
      cases r with
      | cons r1 r2 => exact NestedAll.cons (KeyIs.nested I k _ _ h1 r1) (KeyAll.nested I ks _ _ h2 r2)
end
/-! ### a dict of such keys: key, the key's own tuple, value -/
abbrev NRow := NestedKey × Addr × V
def RelN (p : NRow) (q : NestedKey × Addr × Value) : Prop := p.1 = q.1 ∧ p.2.1 = q.2.1 ∧ RelV p.2.2 q.2.2
def DNo (P : Program) (w : World) (d : Addr) (xs : List NRow) : HO := .ext fun h => (d == sysModules) = false ∧ xs.length ≤ sizeLine ∧ ∃ us : List (NestedKey × Addr × Value), Paired RelN xs us ∧
  ∃ o es ep, h.get? d = some o ∧ o.ExactDict ∧ o.data = .dict es ep ∧ es.toList = us.map (entryOfKey (nestedKind P w)) ∧ (us.map (·.1)).Nodup
def KeysIn (H : Hp) (xs : List NRow) : Prop := ∀ x ∈ xs, KeyIs H (.ref x.2.1) x.1 ∧ x.1.depth ≤ 8
theorem KeysIn.mono {H H' : Hp} {xs : List NRow} (e : ∀ a vs, H a = some (.tup vs) → H' a = some (.tup vs)) (h : KeysIn H xs) : KeysIn H' xs := fun x hx => ⟨KeyIs.mono e _ _ (h x hx).1, (h x hx).2⟩
def atN (xs : List NRow) (k : NestedKey) : Option (Addr × V) := (xs.find? fun x => decide (x.1 = k)).map (·.2)
def storeN (xs : List NRow) (k : NestedKey) (a : Addr) (v : V) : List NRow := if (atN xs k).isSome then xs.map (fun x => if x.1 = k then (x.1, x.2.1, v) else x) else xs ++ [(k, a, v)]
theorem DNo.ne_tup {P : Program} {w : World} {d : Addr} {xs : List NRow} {vs : List V} : DNo P w d xs ≠ .tup vs := fun z => by
  unfold DNo at z
  cases z
theorem dno_ok {P : Program} {w : World} {H : Hp} {h : Heap} {d : Addr} {xs : List NRow} (hd : (d == sysModules) = false) (hl : xs.length ≤ sizeLine) {us : List (NestedKey × Addr × Value)} (r : Paired RelN xs us) {o : Obj} {es : Array DictEntry} {ep : Nat}
    (h1 : h.get? d = some o) (h2 : o.ExactDict) (h3 : o.data = .dict es ep) (h4 : es.toList = us.map (entryOfKey (nestedKind P w))) (h5 : (us.map (·.1)).Nodup) : ObjOk P w H h d (DNo P w d xs) :=
  ⟨⟨hd, hl, us, r, o, es, ep, h1, h2, h3, h4, h5⟩, ⟨o, h1⟩, fun g1 g2 ⟨a1, a2, vs, a3, ob, fs, fp, b1, b2, b3, b4, b5⟩ k => ⟨a1, a2, vs, a3, ob, fs, fp, k _ b1, b2, b3, b4, b5⟩⟩
theorem paired_find {xs : List NRow} {us : List (NestedKey × Addr × Value)} (r : Paired RelN xs us) (k : NestedKey) : (atN xs k = none ∧ atKey us k = none) ∨ ∃ a v u, atN xs k = some (a, v) ∧ atKey us k = some (a, u) ∧ RelV v u := by
  induction r with
  | nil => exact .inl ⟨rfl, rfl⟩
  | @cons x u xs us h t ih =>
    obtain ⟨e1, e2, e3⟩ := h
    by_cases q : x.1 = k
    · refine .inr ⟨x.2.1, x.2.2, u.2.2, ?_, ?_, e3⟩
      · unfold atN
        rw [List.find?_cons_of_pos (by simpa using q)]
        rfl
      · unfold atKey
        rw [List.find?_cons_of_pos (by rw [← e1]; simpa using q), e2]
        rfl
    · have e4 : atN (x :: xs) k = atN xs k := by unfold atN; rw [List.find?_cons_of_neg (by simpa using q)]
      have e5 : atKey (u :: us) k = atKey us k := by unfold atKey; rw [List.find?_cons_of_neg (by rw [← e1]; simpa using q)]
      rw [e4, e5]
      exact ih
theorem paired_store {xs : List NRow} {us : List (NestedKey × Addr × Value)} (r : Paired RelN xs us) {k : NestedKey} {a : Addr} {v : V} {u : Value} (rv : RelV v u) : Paired RelN (storeN xs k a v) (storedH us k a u) := by
  rcases paired_find r k with ⟨h1, h2⟩ | ⟨b, v0, u0, h1, h2, h3⟩
  · rw [storedH_new h2]
    unfold storeN
    rw [h1]
    simp only [Option.isSome_none, Bool.false_eq_true, if_false]
    have app : ∀ {xs : List NRow} {us : List (NestedKey × Addr × Value)}, Paired RelN xs us → Paired RelN (xs ++ [(k, a, v)]) (us ++ [(k, a, u)]) := by
      intro xs us r
      induction r with
      | nil => exact .cons ⟨rfl, rfl, rv⟩ .nil
      | cons h t ih => exact .cons h ih
    exact app r
  · rw [storedH_old h2]
    unfold storeN
    rw [h1]
    simp only [Option.isSome_some, if_true]
    have mp : ∀ {xs : List NRow} {us : List (NestedKey × Addr × Value)}, Paired RelN xs us → Paired RelN (xs.map fun x => if x.1 = k then (x.1, x.2.1, v) else x) (us.map (putAt k u)) := by
      intro xs us r
      induction r with
      | nil => exact .nil
      | @cons x y xs us h t ih =>
        refine .cons ?_ ih
        obtain ⟨e1, e2, e3⟩ := h
        show RelN (if x.1 = k then (x.1, x.2.1, v) else x) (putAt k u y)
        unfold putAt
        by_cases q : x.1 = k
        · rw [if_pos q, if_pos (by rw [← e1]; exact q)]
          exact ⟨e1, e2, rv⟩
        · rw [if_neg q, if_neg (by rw [← e1]; exact q)]
          exact ⟨e1, e2, e3⟩
    exact mp r
theorem storeN_new {xs : List NRow} {k : NestedKey} (h : atN xs k = none) (a : Addr) (v : V) : storeN xs k a v = xs ++ [(k, a, v)] := by
  unfold storeN
  rw [h]
  rfl
theorem storeN_old {xs : List NRow} {k : NestedKey} {p : Addr × V} (h : atN xs k = some p) (a : Addr) (v : V) : storeN xs k a v = xs.map fun x => if x.1 = k then (x.1, x.2.1, v) else x := by
  unfold storeN
  rw [h]
  rfl
theorem atN_none {xs : List NRow} {k : NestedKey} : atN xs k = none ↔ k ∉ xs.map (·.1) := by
  unfold atN
  rw [Option.map_eq_none_iff, List.find?_eq_none]
  constructor
  · intro h hm
    obtain ⟨x, hx, e⟩ := List.mem_map.mp hm
    exact h x hx (decide_eq_true e)
  · intro h x hx e
    exact h (List.mem_map.mpr ⟨x, hx, of_decide_eq_true e⟩)
theorem atN_some {xs : List NRow} {k : NestedKey} {p : Addr × V} (h : atN xs k = some p) : (k, p) ∈ xs := by
  unfold atN at h
  obtain ⟨x, hx, e⟩ := Option.map_eq_some_iff.mp h
  have h1 := List.mem_of_find?_eq_some hx
  have h2 := List.find?_some hx
  have e2 : x.1 = k := of_decide_eq_true h2
  obtain ⟨x1, x2⟩ := x
  have e3 : x2 = p := e
  have e4 : x1 = k := e2
  rw [← e3, ← e4]
  exact h1
theorem storeN_length (xs : List NRow) (k : NestedKey) (a : Addr) (v : V) : (storeN xs k a v).length ≤ xs.length + 1 := by
  unfold storeN
  split
  · rw [List.length_map]; omega
  · rw [List.length_append]
    show _ + 1 ≤ _
    omega
section
variable {X : Cx} {pins : List (Addr × Obj)} {σ : St} {H : Hp} {s : Shared}
theorem dno_of (I : Inv X pins σ H s) {d : Addr} {xs : List NRow} (h : H d = some (DNo X.prog X.w d xs)) (hk : KeysIn H xs) : (d == sysModules) = false ∧ xs.length ≤ sizeLine ∧ ∃ us, Paired RelN xs us ∧ s.heap.DictOfH (nestedKind X.prog X.w) d us := by
  obtain ⟨⟨h1, h2, us, h3, o, es, ep, g1, g2, g3, g4, g5⟩, _, _⟩ := (show ObjOk X.prog X.w H s.heap d (DNo X.prog X.w d xs) from I.hok d _ h)
  refine ⟨h1, h2, us, h3, o, es, ep, g1, g2, g3, g4, ?_, g5⟩
  have all : ∀ {xs : List NRow} {us : List (NestedKey × Addr × Value)}, Paired RelN xs us → KeysIn H xs → ∀ u ∈ us, (nestedKind X.prog X.w).is s.heap u.1 u.2.1 := by
    intro xs us r
    induction r with
    | nil => exact fun _ u hu => by simp at hu
    | @cons x y xs us h t ih =>
      intro hk u hu
      rcases List.mem_cons.mp hu with rfl | hu
      · obtain ⟨e1, e2, _⟩ := h
        obtain ⟨k1, k2⟩ := hk x List.mem_cons_self
        rw [e1, e2] at k1
        rw [e1] at k2
        exact ⟨KeyIs.nested I _ _ _ k1 rfl, k2⟩
      · exact ih (fun z hz => hk z (List.mem_cons_of_mem _ hz)) u hu
  exact all h3 hk
theorem room_n {k : Nat} {A : Around} (hr : Room k A) {prog : Program} {w : World} : (nestedKind prog w).room A.in1 := by
  have := hr.un
  show A.units + 1 + 8 < cLine
  omega
theorem dno_write (I : Inv X pins σ H s) {d : Addr} {xs ys : List NRow} {h' : Heap} {t' : Nat} (h : H d = some (DNo X.prog X.w d xs)) (hd : (d == sysModules) = false) (hl : ys.length ≤ sizeLine) {us : List (NestedKey × Addr × Value)} (r : Paired RelN ys us)
    (hm : h'.DictOfH (nestedKind X.prog X.w) d us) (hs : Heap.SameBut d s.heap h') : Inv X pins σ (upd H d (DNo X.prog X.w d ys)) { s with heap := h', toks := t' } := by
  obtain ⟨o, es, ep, g1, g2, g3, g4, _, g5⟩ := hm
  exact I.write (x := d) (e := d) (by rw [h]; exact True.intro) (.inl rfl) (fun b u hb e => (hs.2 b hb).trans e) ⟨o, g1⟩ (dno_ok hd hl r g1 g2 g3 g4 g5)
theorem keys_upd {d : Addr} {P : Program} {w : World} {xs : List NRow} {o : HO} (h : H d = some (DNo P w d xs)) : ∀ a vs, H a = some (.tup vs) → upd H d o a = some (.tup vs) := fun a vs e => by
  have : a ≠ d := fun z => by
    rw [z, h] at e
    exact DNo.ne_tup (Option.some.inj e)
  rw [upd_ne this]
  exact e
/-! ### the rules -/
def rInN (P : Program) (w : World) (neg : Bool) : R2 := fun x y H Q => ∃ (a d : Addr) (k : NestedKey) (xs : List NRow), x = .ref a ∧ y = .ref d ∧ KeyIs H (.ref a) k ∧ k.depth ≤ 8 ∧ H d = some (DNo P w d xs) ∧ KeysIn H xs ∧ Q (.bl (if neg then !(atN xs k).isSome else (atN xs k).isSome)) H
theorem op_inN {n : Nat} (hr : Room n X.A) : OpR X (compareOp .In) (rInN X.prog X.w false) := by
  intro pins s σ H x y v u Q I rx ry h
  obtain ⟨a, d, k, xs, rfl, rfl, hk, hd8, hd, hks, q⟩ := h
  cases rx
  cases ry
  obtain ⟨hS, hl, us, r, hm⟩ := dno_of I hd hks
  refine wpAny_in_heap (room_n hr) ⟨KeyIs.nested I _ _ _ hk rfl, hd8⟩ hS hm ?_
  refine ⟨.bl _, H, I.tok _, rfl, ?_⟩
  have e : (atKey us k).isSome = (atN xs k).isSome := by
    rcases paired_find r k with ⟨h1, h2⟩ | ⟨_, _, _, h1, h2, _⟩ <;> rw [h1, h2] <;> rfl
  rw [e]
  exact q
theorem op_notInN {n : Nat} (hr : Room n X.A) : OpR X (compareOp .NotIn) (rInN X.prog X.w true) := by
  intro pins s σ H x y v u Q I rx ry h
  obtain ⟨a, d, k, xs, rfl, rfl, hk, hd8, hd, hks, q⟩ := h
  cases rx
  cases ry
  obtain ⟨hS, hl, us, r, hm⟩ := dno_of I hd hks
  show wpAny _ _ (do return Value.bool (!(← contains (.ref d) (.ref a)))) _ _ s
  refine wpAny_bind (wpAny_contains_heap (room_n hr) ⟨KeyIs.nested I _ _ _ hk rfl, hd8⟩ hS hm (wpAny_pure ?_))
  refine ⟨.bl _, H, I.tok _, rfl, ?_⟩
  have e : (atKey us k).isSome = (atN xs k).isSome := by
    rcases paired_find r k with ⟨h1, h2⟩ | ⟨_, _, _, h1, h2, _⟩ <;> rw [h1, h2] <;> rfl
  rw [e]
  exact q
theorem set_N {n : Nat} (hr : Room n X.A) : PSet X (fun o i v H Q => ∃ (d a : Addr) (k : NestedKey) (xs : List NRow), o = .ref d ∧ i = .ref a ∧ KeyIs H (.ref a) k ∧ k.depth ≤ 8 ∧ H d = some (DNo X.prog X.w d xs) ∧ KeysIn H xs ∧ xs.length < sizeLine ∧ ∀ H', H' = upd H d (DNo X.prog X.w d (storeN xs k a v)) → Q H') := by
  intro pins s σ H o i v ov iv u Q I ro ri rv h
  obtain ⟨d, a, k, xs, rfl, rfl, hk, hd8, hd, hks, hz, q⟩ := h
  cases ro
  cases ri
  obtain ⟨hS, hl, us, r, hm⟩ := dno_of I hd hks
  have hlen : us.length ≤ sizeLine := by rw [← Paired.length r]; exact hl
  refine wpAny_setItem_heap (room_n hr) ⟨KeyIs.nested I _ _ _ hk rfl, hd8⟩ hm (fun h' hm' hs => ?_) hlen
  exact ⟨_, dno_write I hd hS (Nat.le_trans (storeN_length xs k a v) hz) (paired_store r rv) hm' hs, q _ rfl⟩
def rIxN (P : Program) (w : World) : R2 := fun x y H Q => ∃ (d a : Addr) (k : NestedKey) (xs : List NRow) (p : Addr × V), x = .ref d ∧ y = .ref a ∧ KeyIs H (.ref a) k ∧ k.depth ≤ 8 ∧ H d = some (DNo P w d xs) ∧ KeysIn H xs ∧ atN xs k = some p ∧ Q p.2 H
theorem ix_N {n : Nat} (hr : Room n X.A) : IxR X (rIxN X.prog X.w) := by
  intro value slice pins s σ H x y v u Q I rx ry h hs
  obtain ⟨d, a, k, xs, p, rfl, rfl, hk, hd8, hd, hks, hp, q⟩ := h
  cases rx
  cases ry
  obtain ⟨hS, hl, us, r, hm⟩ := dno_of I hd hks
  rcases paired_find r k with ⟨h1, _⟩ | ⟨b, v0, u0, h1, h2, h3⟩
  · rw [h1] at hp
    cases hp
  · rw [h1] at hp
    cases hp
    exact PyProof.Rows.tail_any hm.typeIs PySem.F.slot_dict_getitem.lookup (wpAny_getItem_heap (room_n hr) ⟨KeyIs.nested I _ _ _ hk rfl, hd8⟩ hm h2 ⟨v0, H, I.tok _, h3, q⟩) hs
/-- the dict's own method -/
def tBMd (r : V → List V → Hp → VK → Prop) (to : TE) (t : TA) (P : Program) (w : World) : TE := fun σ H Q => to σ H fun x H1 => (∃ d xs, x = .ref d ∧ H1 d = some (DNo P w d xs)) ∧ t σ H1 fun ys H2 => r x ys H2 Q
def tBMd0 (r : V → List V → Hp → VK → Prop) (to : TE) (P : Program) (w : World) : TE := fun σ H Q => to σ H fun x H1 => (∃ d xs, x = .ref d ∧ H1 d = some (DNo P w d xs)) ∧ r x [] H1 Q
theorem dno_ty (I : Inv X pins σ H s) {d : Addr} {xs : List NRow} (h : H d = some (DNo X.prog X.w d xs)) : s.TypeIs (.ref d) "dict" ∧ ∀ a, Value.ref d = .ref a → ∃ ob, s.heap.get? a = some ob ∧ ob.dict = none := by
  obtain ⟨⟨_, _, _, _, o, _, _, e, ex, _⟩, _, _⟩ := (show ObjOk X.prog X.w H s.heap d (DNo X.prog X.w d xs) from I.hok d _ h)
  refine ⟨⟨o, e, ex.1⟩, fun a e2 => ?_⟩
  cases e2
  exact ⟨o, e, ex.2.1⟩
theorem pe_bmd {o e : Expr} {es : List Expr} {to : TE} {t : TA} {name : Str} {apos cpos : Pos} {id : String} {r : V → List V → Hp → VK → Prop} (pa : PlainAttrs "dict") (slot : Slot "dict" name id) (hty : typeOf (.builtin id) = pure (.type "method_descriptor")) (hm : MtR X id r) (ho : PE X o to) (ha : PA X (e :: es) t)
    (hbase : attributeBase o name X.env (eval o X.env) = eval o X.env := by rfl)
    (hfew : ((backTo cpos (starEach (e :: es) X.env)).all (fun x => !x.1) && (backToKw cpos (keywordEach [] X.env)).all (fun x => x.1.isSome)
      && decide ((e :: es).length + ([] : List Keyword).length + (if ([] : List Keyword).isEmpty then 0 else 1) < 30)) = true := by rfl)
    (hline : (apos.endLine == cpos.line) = true := by rfl) (hs : starEach (e :: es) X.env = (false, eval e X.env) :: starEach es X.env := by rfl) (hplain : (backTo cpos (starEach es X.env)).any (·.1) = false := by rfl) :
    PE X (.Call (.Attribute o name apos) (e :: es) [] cpos) (tBMd r to t X.prog X.w) := by
  refine ⟨fun pins s σ H Q I h => ?_⟩
  refine wpAny_Call_method_late hbase hfew hline rfl (thn (ho.run pins s σ H _ I h) fun v s1 ⟨x, H1, I1, r1, ⟨d, xs, e1, hd⟩, q1⟩ => ?_)
  subst e1
  cases r1
  obtain ⟨h1, h2⟩ := dno_ty I1 hd
  refine ⟨_, id, pa, slot, hty, h1, h2, ?_⟩
  have hA := ha.run cpos pins s1 σ H1 _ I1 q1
  rw [hs] at hA ⊢
  refine Calls.callWith_builtin (by show (false || (backTo cpos (starEach es X.env)).any (·.1)) = false; rw [hplain] <;> rfl) (Calls.evalArgs_plain ?_)
  exact thn hA fun us s2 ⟨vs, H2, I2, r2, q2⟩ => hm pins s2 σ H2 (.ref d) vs _ us Q I2 rfl r2 q2
theorem pe_bmd0 {o : Expr} {to : TE} {name : Str} {apos cpos : Pos} {id : String} {r : V → List V → Hp → VK → Prop} (pa : PlainAttrs "dict") (slot : Slot "dict" name id) (hty : typeOf (.builtin id) = pure (.type "method_descriptor")) (hm : MtR X id r) (ho : PE X o to)
    (hbase : attributeBase o name X.env (eval o X.env) = eval o X.env := by rfl) (hline : (apos.endLine == cpos.line) = true := by rfl) : PE X (.Call (.Attribute o name apos) [] [] cpos) (tBMd0 r to X.prog X.w) := by
  refine ⟨fun pins s σ H Q I h => ?_⟩
  refine wpAny_Call_method0_late hbase hline (thn (ho.run pins s σ H _ I h) fun v s1 ⟨x, H1, I1, r1, ⟨d, xs, e1, hd⟩, q1⟩ => ?_)
  subst e1
  cases r1
  obtain ⟨h1, h2⟩ := dno_ty I1 hd
  exact ⟨_, id, pa, slot, hty, h1, h2, Calls.callWith_builtin rfl (PySem.evalArgs_none (hm pins s1 σ H1 (.ref d) [] _ [] Q I1 rfl .nil q1))⟩
/-- d.setdefault(k, v) -/
theorem mt_setN {n : Nat} (hr : Room n X.A) : MtR X "dict.setdefault" (fun x ys H Q => ∃ (d a : Addr) (k : NestedKey) (v : V) (xs : List NRow), x = .ref d ∧ ys = [.ref a, v] ∧ KeyIs H (.ref a) k ∧ k.depth ≤ 8 ∧ H d = some (DNo X.prog X.w d xs) ∧ KeysIn H xs ∧ xs.length < sizeLine ∧
    (∀ p, atN xs k = some p → Q p.2 H) ∧ (atN xs k = none → Q v (upd H d (DNo X.prog X.w d (xs ++ [(k, a, v)]))))) := by
  intro pins s σ H x ys v us Q I rx rs h
  obtain ⟨d, a, k, v0, xs, rfl, rfl, hk, hd8, hd, hks, hz, q1, q2⟩ := h
  cases rx
  obtain ⟨u1, u2, rfl, ra, rv⟩ := Vals.two rs
  cases ra
  obtain ⟨hS, hl, ws, r, hm⟩ := dno_of I hd hks
  have hlen : ws.length ≤ sizeLine := by rw [← Paired.length r]; exact hl
  refine call_setdefault_heap (room_n hr) ⟨KeyIs.nested I _ _ _ hk rfl, hd8⟩ hS hm (fun p hp => ?_) (fun hn h' hm' hs => ?_) hlen
  · rcases paired_find r k with ⟨_, h2⟩ | ⟨b, v1, u1, h1, h2, h3⟩
    · rw [h2] at hp
      cases hp
    · rw [h2] at hp
      cases hp
      exact ⟨v1, H, I.tok _, h3, q1 _ h1⟩
  · rcases paired_find r k with ⟨h1, _⟩ | ⟨b, v1, u1, h1, h2, h3⟩
    · refine ⟨v0, _, dno_write I hd hS (ys := xs ++ [(k, a, v0)]) ?_ ?_ hm' hs, rv, q2 h1⟩
      · rw [List.length_append]
        exact hz
      · rw [← storeN_new h1]
        exact paired_store r rv
    · rw [h2] at hn
      cases hn
/-- {} -/
theorem pe_dnewN {pos : Pos} : PE X (.Dict [] [] pos) (fun _ H Q => ∀ p, H p = none → Q (.ref p) (upd H p (DNo X.prog X.w p []))) := ⟨fun pins s σ H Q I h =>
  wpAny_Dict_empty ⟨.ref s.heap.objs.size, _, I.laid (a := s.heap.objs.size) (o := DNo X.prog X.w s.heap.objs.size []) (t' := s.toks) (fun _ _ q => Heap.get?_push_of_some _ q) (Nat.le_refl _)
    (dno_ok (es := #[]) (beq_eq_false_iff_ne.mpr (Ne.symm (Nat.ne_of_lt I.big))) (Nat.zero_le _) (us := []) .nil (Heap.get?_push_size _ rfl) ⟨rfl, rfl, rfl⟩ rfl rfl List.nodup_nil), rfl, h _ (I.hok.fresh (Nat.le_refl _))⟩⟩
end
end K35
namespace K35
open PySem L2
section
variable {P : Program} {w : World} {K : PySem.W.Frag} {mg : Str → Option Value} {base : Heap}
/-! ### signs_for -/
def fixP : Part → List Str
  | .fixed w => [strOf w]
  | _ => []
def fixF (f : Form) : List Str := f.flatMap fixP
def fixFs (fs : List Form) : List Str := fs.flatMap fixF
theorem fix_cps (fs : List Form) : ((fixFs fs).flatMap fun y => y.cps.toList) = fixedOf fs := by
  unfold fixFs fixedOf fixF
  rw [List.flatMap_assoc]
  congr 1
  funext f
  rw [List.flatMap_assoc]
  congr 1
  funext p
  cases p with
  | fixed w => show ((strOf w).cps.toList ++ [] : List Nat) = _; rw [List.append_nil]; rfl
  | any => rfl
  | digits => rfl
  | word => rfl
theorem fixP_len {p : Part} (h : PartOk p) : (fixP p).length ≤ 1 ∧ ((fixP p).map (·.length)).sum ≤ 4 := by
  cases p with
  | fixed w =>
    refine ⟨Nat.le_refl _, ?_⟩
    show (strOf w).length + 0 ≤ 4
    rw [strOf_len]
    exact h.2.1
  | any => exact ⟨Nat.zero_le _, Nat.zero_le _⟩
  | digits => exact ⟨Nat.zero_le _, Nat.zero_le _⟩
  | word => exact ⟨Nat.zero_le _, Nat.zero_le _⟩
theorem fixF_len : ∀ {f : Form}, (∀ p ∈ f, PartOk p) → (fixF f).length ≤ f.length ∧ ((fixF f).map (·.length)).sum ≤ 4 * f.length
  | [], _ => ⟨Nat.zero_le _, Nat.zero_le _⟩
  | p :: f, h => by
    have h1 := fixP_len (h p List.mem_cons_self)
    have h2 := fixF_len (f := f) fun q hq => h q (List.mem_cons_of_mem _ hq)
    have e : fixF (p :: f) = fixP p ++ fixF f := List.flatMap_cons ..
    rw [e, List.length_append, List.map_append, List.sum_append, List.length_cons]
    omega
theorem fixFs_len : ∀ {fs : List Form}, (∀ f ∈ fs, FOk f) → (fixFs fs).length ≤ 4 * fs.length ∧ ((fixFs fs).map (·.length)).sum ≤ 16 * fs.length
  | [], _ => ⟨Nat.zero_le _, Nat.zero_le _⟩
  | f :: fs, h => by
    have h1 := fixF_len (h f List.mem_cons_self).2.2
    have h3 := (h f List.mem_cons_self).2.1
    have h2 := fixFs_len (fs := fs) fun q hq => h q (List.mem_cons_of_mem _ hq)
    have e : fixFs (f :: fs) = fixF f ++ fixFs fs := List.flatMap_cons ..
    rw [e, List.length_append, List.map_append, List.sum_append, List.length_cons]
    omega
theorem AllAt.mem {B : Type} {R : Addr → B → Prop} : ∀ {as : List Addr} {xs : List B} {x : B}, AllAt R as xs → x ∈ xs → ∃ a, R a x
  | _ :: _, _ :: _, x, ⟨q, r⟩, h => by
    rcases List.mem_cons.mp h with rfl | h
    · exact ⟨_, q⟩
    · exact AllAt.mem r h
  | [], [], _, _, h => by simp at h
  | [], _ :: _, _, q, _ => q.elim
  | _ :: _, [], _, q, _ => q.elim
def onesV (l : List Nat) : List V := l.map fun c => V.str (one c)
theorem onesV_app (l m : List Nat) : onesV (l ++ m) = onesV l ++ onesV m := List.map_append ..
def spSignsFor (T : Txt K mg) : Sp := fun vs H Q _ => ∃ (l : Addr) (fs : List Form), vs = [.ref l] ∧ FormsAt T H l fs ∧ fs.length ≤ 1000 ∧
  ∀ (H' : Hp) (p : Addr), Same H H' → H p = none → H' p = some (.lst (onesV (signsFor (fixedOf fs)))) → Q (.ref p) H'
theorem scSignsFor : FnScope ["forms", "fixed", "found", "spare", "sign", "form", "part"] ["forms"] (defScope (top 22)) := ⟨rfl, rfl, rfl, by decide +kernel, rfl, by decide +kernel, by decide +kernel⟩
theorem fix_snoc {f : Form} {j : Nat} {p : Part} (h : f[j]? = some p) : fixF (f.take (j + 1)) = fixF (f.take j) ++ fixP p := by
  unfold fixF
  rw [take_snoc h, List.flatMap_append]
  simp
theorem fixs_snoc {fs : List Form} {j : Nat} {p : Form} (h : fs[j]? = some p) : fixFs (fs.take (j + 1)) = fixFs (fs.take j) ++ fixF p := by
  unfold fixFs
  rw [take_snoc h, List.flatMap_append]
  simp
theorem blsV_get {l : List Bool} {i : Nat} (h : i < l.length) : atI (blsV l) (i : Nat) = some (.bl (l.getD i false)) := by
  refine atI_nat ?_
  unfold blsV
  rw [List.getElem?_map, List.getElem?_eq_getElem h, List.getD_eq_getElem?_getD, List.getElem?_eq_getElem h]
  rfl
theorem blsV_set (l : List Bool) (i : Nat) (b : Bool) : (blsV l).set i (.bl b) = blsV (l.set i b) := by
  unfold blsV
  rw [List.map_set]
theorem iteT2 {c A B : Prop} [Decidable c] (h : c) (a : A) : if c then A else B := by rw [if_pos h]; exact a
theorem iteF2 {b : Bool} {A B : Prop} (h : b = false) (a : B) : if b = true then A else B := by subst h; exact a
theorem ok_signs_for (T : Txt K mg) : FnOk P w K mg base CX0 2 T.dSignsFor.f T.dSignsFor.fd ["forms"] (spSignsFor T) := by
  have GK : FnOk P w K mg base CX0 1 T.dKindOf.f T.dKindOf.fd ["sign"] spKindOf := ok_kind_of T
  have GP : FnOk P w K mg base CX0 1 T.mParts.f T.mParts.fd ["self"] (spParts T.cForm.C) := ok_parts T
  obtain ⟨tS, kS⟩ := T.kSIGNS
  refine T.dSignsFor.F.ok scSignsFor (fun vs H Q E h => ?_) (fun cdv A outer s H vs Q E hr h => ?_)
  · obtain ⟨l, fs, rfl, _⟩ := h
    rfl
  · obtain ⟨l, fs, rfl, ⟨as, hL, hAs⟩, hfl, k⟩ := h
    have hok : ∀ f ∈ fs, FOk f := fun f hf => by
      obtain ⟨a, ha⟩ := hAs.mem hf
      exact ha.ok
    have hlen := fixFs_len hok
    have hlenT : ∀ i, (fixFs (fs.take i)).length ≤ 4000 := fun i => by
      have h1 := (fixFs_len (fs := fs.take i) fun f hf => hok f (List.mem_of_mem_take hf)).1
      have h2 : (fs.take i).length ≤ fs.length := by rw [List.length_take]; omega
      omega
    refine ⟨_, pss_cons (ps_set (i := 1) scSignsFor.nd rfl (.inl rfl) (pe_join pe_str
        (pe_lc2 (own := [("form", 5), ("part", 6)]) (vs1 := [6]) (wi1 := iTup K _) (g := gName 5) (tt := tYes) (g1 := gName 6) rfl scSignsFor.nd (pi_list (pv 0)) (blkOk_by (own := [("form", 5), ("part", 6)]) (N := ["forms", "fixed", "found", "spare", "sign", "form", "part"]) (sc := defScope (top 22)) (by decide +kernel)) (by decide)
          (fun _ _ _ _ _ => pg_name (i := 5) scSignsFor.nd rfl (Or.inl rfl)) (fun _ _ _ _ _ => pts_nil)
          (fun _ _ _ _ _ => pi_tup (pe_meth0 (pv 5) T.cForm.cl T.mParts.m GP hr T.mParts.b .nil pass0))
          (fun _ _ _ _ _ => pg_name (i := 6) scSignsFor.nd rfl (Or.inl rfl)) (fun _ _ _ _ _ => pts_one (pt_cmpR (r := rIn K true) op_notIn_seq (pv 6) (pe_glob (v := .ref T.free) rfl T.kFREE rfl) (by rfl)))
          (fun _ _ _ _ _ => pv 6))))
      (pss_cons (ps_set (i := 2) scSignsFor.nd rfl (.inl rfl) (pe_lst pa_nil))
      (pss_cons (ps_set (i := 3) scSignsFor.nd rfl (.inl rfl) (pe_lst (pa_cons pe_bl (pa_cons pe_bl (pa_cons pe_bl pa_nil)))))
      (pss_cons (ps_for PassesOwn.never rfl (pi_str (pe_glob (v := .str signsS) rfl kS ⟨_, rfl⟩)) (pg_name (i := 4) scSignsFor.nd rfl (.inl rfl))
        (pss_one (ps_if (pt_cmpR op_in_sign (pv 4) (pv 1) (by rfl))
          (pss_one (ps_expr (pe_bm PySem.F.plainAttrs_list PySem.F.slot_list_append PySem.F.type_list_append mt_append (pv 2) (pa_cons (pv 4) pa_nil))))
          (pss_one (ps_if (pt_val (pe_ix ix_list (pv 3) (pe_call GK hr rfl T.dKindOf.m T.dKindOf.F.kp T.dKindOf.b .nil pass0 (pa_cons (pv 4) pa_nil)) (fun _ _ => rfl)))
            (pss_cons (ps_asg pe_bl (pg_sub (pv 3) (pe_call GK hr rfl T.dKindOf.m T.dKindOf.F.kp T.dKindOf.b .nil pass0 (pa_cons (pv 4) pa_nil)) set_list))
            (pss_one (ps_expr (pe_bm PySem.F.plainAttrs_list PySem.F.slot_list_append PySem.F.type_list_append mt_append (pv 2) (pa_cons (pv 4) pa_nil))))) pss_nil)))))
      (pss_one (ps_ret (pv 2)))))), ?_⟩
    refine ⟨⟨_, rfl⟩, _, rfl, l, rfl, ⟨_, .inl (.inl hL)⟩, fun D hD => lc2_walk (walk_list (xs := refsV as)) (fun i H2 => Same H H2 ∧ H2 D = some (.lst ((fixFs (fs.take i)).map V.str)))
      ⟨same_upd hD, upd_same⟩ (fun i H2 _ q => .inl (.inl (q.1 _ _ hL))) ?_ ?_ ?_ ?_ ?_⟩
    · rintro i x H0 H2 hi ⟨s2, hD2⟩ ⟨rfl, hx⟩
      obtain ⟨a, ha, rfl⟩ := refsV_some hx
      obtain ⟨f, hf, dx, t, h1, h2, fo⟩ := hAs.get ha
      have hl1 := hlenT i
      refine ⟨rfl, tyes (iteT ?_)⟩
      refine ⟨_, rfl, a, dx, _, rfl, s2 _ _ h1, one_no pieces_no_parts, a, dx, t, rfl, s2 _ _ h1, t, rfl, ⟨_, .inl (.inl (s2 _ _ h2))⟩, _, _, _, fun j H3 => Same H H3 ∧ H3 D = some (.lst ((fixFs (fs.take i) ++ fixF (f.take j)).map V.str)), walk_tup (xs := partsV f), ?_, ?_, ?_, ?_⟩
      · refine ⟨s2, ?_⟩
        rw [hD2]
        simp [fixF]
      · rintro j H3 hj ⟨s3, _⟩
        exact .inl (.inl (s3 _ _ h2))
      · rintro H3 ⟨s3, hD3⟩
        refine ⟨s3, ?_⟩
        rw [partsV_length, List.take_length] at hD3
        rw [fixs_snoc hf]
        exact hD3
      · rintro j x H3 H4 hj ⟨s3, hD3⟩ ⟨rfl, hx⟩
        obtain ⟨p, hp, rfl⟩ := partsV_some hx
        have po := fo.2.2 p (List.mem_of_getElem? hp)
        refine ⟨rfl, _, rfl, _, _, rfl, .inr (T.sFREE _), rfl, strs_flat _, _, rfl, ?_⟩
        have hin := free_in po
        cases hp2 : isFree p with
        | true =>
          rw [hp2] at hin
          refine iteF2 (by rw [hin]; rfl) ?_
          refine ⟨s3, ?_⟩
          have e0 : fixP p = [] := by cases p <;> first | rfl | cases hp2
          rw [hD3, fix_snoc hp, e0, List.append_nil]
        | false =>
          rw [hp2] at hin
          refine iteT2 (by rw [hin]; rfl) ?_
          have e1 : fixP p = [partS p] := by cases p <;> first | rfl | cases hp2
          refine ⟨_, rfl, _, hD3, ?_, same_over s3 hD, ?_⟩
          · have h5 : (fixF (f.take j)).length ≤ 4 := by
              have h6 := (fixF_len (f := f.take j) fun q hq => fo.2.2 q (List.mem_of_mem_take hq)).1
              have h7 : (f.take j).length ≤ f.length := by rw [List.length_take]; omega
              have h8 := fo.2.1
              omega
            rw [List.length_map, List.length_append]
            exact line_lt (by omega)
          · rw [upd_same, fix_snoc hp, e1, ← List.append_assoc, List.map_append (l₂ := [partS p])]
            rfl
    · rintro H2 ⟨s2, hD2⟩
      rw [refsV_length, show fs.take as.length = fs by rw [hAs.length, List.take_length]] at hD2
      refine ⟨_, D, fixFs fs, rfl, rfl, .inl (.inl (.inl hD2)), ?_, ?_⟩
      · have e0 : ("" : Str).length = 0 := by decide +kernel
        rw [e0]
        omega
      have eJ : (Txt.join (Str.ofString "") (fixFs fs)).cps.toList = fixedOf fs := (join_flat _).trans (fix_cps fs)
      generalize hz : Txt.join (Str.ofString "") (fixFs fs) = z at eJ
      refine ⟨Nat.zero_le _, fun fa hfa => ?_⟩
      refine ⟨?_, fun sp hsp => ?_⟩
      · exact line_big (n := 3) (by decide)
      have s3 : Same H (upd (upd H2 fa (.lst [])) sp (.lst [.bl true, .bl true, .bl true])) := same_new (same_new s2 hfa) hsp
      have nfs : ¬ fa = sp := fun e => by rw [← e, upd_same] at hsp; cases hsp
      have hfaH : H fa = none := Same.free s2 hfa
      have hspH : H sp = none := Same.free (same_new s2 hfa) hsp
      have hcl : signsAll.length = 68 := by decide
      refine ⟨_, rfl, for_it (walk_str (z := signsS)) (fun i σ H2 => (∃ v, σ = [some (.ref l), some (.str z), some (.ref fa), some (.ref sp), v, none, none]) ∧ Same H H2 ∧ H2 fa = some (.lst (onesV (sgnTo (fixedOf fs) (signsAll.take i)).1)) ∧ H2 sp = some (.lst (blsV (sgnTo (fixedOf fs) (signsAll.take i)).2)) ∧
          (sgnTo (fixedOf fs) (signsAll.take i)).2.length = 3 ∧ (sgnTo (fixedOf fs) (signsAll.take i)).1.length ≤ i)
        ⟨⟨_, rfl⟩, s3, (by rw [upd_ne nfs, upd_same]; rfl), upd_same, rfl, Nat.le_refl _⟩ (fun _ _ _ _ _ => trivial) ?_ ?_⟩
      · rintro i x σ H0 H4 hi ⟨⟨v, rfl⟩, s4, hF, hP, h3, hle⟩ ⟨rfl, c, hc, rfl⟩
        have hc' : signsAll[i]? = some c := by
          rw [← signs_cps]
          simpa using hc
        have e5 : sgnTo (fixedOf fs) (signsAll.take (i + 1)) = sgnStep (fixedOf fs) (sgnTo (fixedOf fs) (signsAll.take i)) c := by rw [take_snoc hc', sgnTo_snoc]
        have hi2 : i < 68 := by
          have := (List.getElem?_eq_some_iff.mp hc').1
          omega
        have hkl := kind_lt c
        generalize hst : sgnTo (fixedOf fs) (signsAll.take i) = st at hF hP h3 hle e5
        rw [e5]
        refine ⟨_, rfl, _, rfl, c, _, rfl, rfl, _, rfl, ?_⟩
        rw [eJ]
        refine ite2 (fun c1 => ?_) (fun c1 => ?_)
        · have e6 : sgnStep (fixedOf fs) st c = (st.1 ++ [c], st.2) := if_pos (of_decide_eq_true c1)
          rw [e6]
          refine ⟨_, rfl, .inl ⟨rfl, _, .inl (.inl hF)⟩, _, rfl, _, _, _, rfl, rfl, hF, (by unfold onesV; rw [List.length_map]; exact line_lt (by omega)), ⟨_, rfl⟩, same_over s4 hfaH, ?_, ?_, h3, ?_⟩
          · rw [upd_same, onesV_app]
            rfl
          · rw [upd_ne (Ne.symm nfs)]
            exact hP
          · show (st.1 ++ [c]).length ≤ _
            rw [List.length_append]
            show st.1.length + 1 ≤ _
            omega
        · have c1' : ¬ c ∈ fixedOf fs := fun e => c1 (decide_eq_true e)
          refine ⟨_, rfl, _, rfl, c, rfl, _, _, _, _, rfl, rfl, .inl (.inl hP), blsV_get (by omega), _, rfl, ?_⟩
          refine ite2 (fun c2 => ?_) (fun c2 => ?_)
          · have e6 : sgnStep (fixedOf fs) st c = (st.1 ++ [c], st.2.set (kindOf c) false) := by
              unfold sgnStep
              rw [if_neg c1', if_pos c2]
            rw [e6]
            refine ⟨_, rfl, _, rfl, c, rfl, sp, _, _, kindOf c, rfl, rfl, hP, ?_, ?_⟩
            · have : (blsV st.2).length = 3 := by unfold blsV; rw [List.length_map]; exact h3
              rw [this]
              unfold ixN; rw [if_pos (by omega), if_pos (by omega)]; simp
            refine ⟨_, rfl, .inl ⟨rfl, _, .inl (.inl (by rw [upd_ne nfs]; exact hF))⟩, _, rfl, _, _, _, rfl, rfl, (by rw [upd_ne nfs]; exact hF), (by unfold onesV; rw [List.length_map]; exact line_lt (by omega)), ⟨_, rfl⟩, same_over (same_over s4 hspH) hfaH, ?_, ?_, ?_, ?_⟩
            · rw [upd_same, onesV_app]
              rfl
            · rw [upd_ne (Ne.symm nfs), upd_same, blsV_set]
            · show (st.2.set _ _).length = 3
              rw [List.length_set]
              exact h3
            · show (st.1 ++ [c]).length ≤ _
              rw [List.length_append]
              show st.1.length + 1 ≤ _
              omega
          · have e6 : sgnStep (fixedOf fs) st c = st := by
              unfold sgnStep
              rw [if_neg c1', if_neg c2]
            rw [e6]
            exact ⟨⟨_, rfl⟩, s4, hF, hP, h3, by omega⟩
      · rintro σ H4 ⟨⟨v, rfl⟩, s4, hF, hP, h3, hle⟩
        have e7 : signsS.cps.size = signsAll.length := by rw [← signs_cps]; simp
        rw [e7, List.take_length] at hF
        exact ⟨_, rfl, k _ fa s4 hfaH hF⟩
    · intro σ H R R' hRR h
      obtain ⟨x, h0, a, dx, fs', e1, e2, e3, b, dx', t, e4, e5, t2, e6, e7, h⟩ := h
      exact ⟨x, h0, a, dx, fs', e1, e2, e3, b, dx', t, e4, e5, t2, e6, e7, hRR _ _ h⟩
    · exact fun v σ H Q Q' hq h => hq _ _ h
    · exact fun σ H Q Q' hq h => hq _ _ h
end
end K35
namespace K35
open PySem L2
/-! ### a line's length by its place -/
theorem Bfs.len {T : Type} [DecidableEq T] {S : List Nat} {step : T → Nat → T} {start : T} {found : List (Line × T)} {at_ k : Nat} (B : Bfs S step start found at_ k) : ∀ (n j : Nat) (e : Line × T), j ≤ n → found[j]? = some e → e.1.length ≤ j := by
  intro n
  induction n with
  | zero =>
    intro j e hj he
    obtain rfl : j = 0 := by omega
    obtain ⟨tl, ht⟩ := B.head
    rw [ht] at he
    have : e = ([], start) := by simpa using he.symm
    rw [this]
    exact Nat.le_refl _
  | succ n ih =>
    intro j e hj he
    obtain ⟨tl, ht⟩ := B.head
    cases j with
    | zero =>
      rw [ht] at he
      have : e = ([], start) := by simpa using he.symm
      rw [this]
      exact Nat.le_refl _
    | succ j =>
      have hm : e ∈ found.tail := by
        rw [ht] at he ⊢
        exact List.mem_of_getElem? (i := j) (by simpa using he)
      obtain ⟨i, q, p, c, h1, h2, h3, h4⟩ := B.came e hm
      have hij : i < j + 1 := by
        have hl : less p.1 e.1 := by rw [h3]; exact less_grow _ _
        refine Classical.byContradiction fun hge => ?_
        obtain ⟨l1, e1⟩ := List.getElem?_eq_some_iff.mp h1
        obtain ⟨l2, e2⟩ := List.getElem?_eq_some_iff.mp he
        rcases Nat.lt_or_eq_of_le (Nat.le_of_not_lt hge) with hlt | heq
        · have := (List.pairwise_iff_getElem.mp B.sorted) (j + 1) i l2 l1 hlt
          rw [e1, e2] at this
          exact less_irrefl _ (less_trans hl this)
        · subst heq
          rw [h1] at he
          cases he
          exact less_irrefl _ hl
      have := ih i p (by omega) h1
      rw [h3, List.length_append]
      show p.1.length + 1 ≤ _
      omega
/-! ### tuples stay -/
def Tups (H H' : Hp) : Prop := ∀ a vs, H a = some (.tup vs) → H' a = some (.tup vs)
theorem tups_same {H H' : Hp} (e : Same H H') : Tups H H' := fun a vs h => e _ _ h
theorem Tups.trans {A B C : Hp} (h : Tups A B) (k : Tups B C) : Tups A C := fun a vs q => k _ _ (h _ _ q)
theorem tups_upd {H : Hp} {d : Addr} {o o' : HO} (h : H d = some o) (hn : ∀ vs, o ≠ .tup vs) : Tups H (upd H d o') := fun a vs q => by
  have : a ≠ d := fun e => by
    rw [e, h] at q
    exact hn vs (Option.some.inj q)
  rw [upd_ne this]
  exact q
theorem StAt.tups {H H' : Hp} {t : Addr} {st : State} (e : Tups H H') (h : StAt H t st) : StAt H' t st := by
  obtain ⟨as, h1, h2⟩ := h
  exact ⟨as, e _ _ h1, h2.imp fun a x q => e _ _ q⟩
/-! ### states as keys -/
def keyP (p : List Nat) : NestedKey := .tup (p.map fun k => .num (k : Nat))
def keyS (st : State) : NestedKey := .tup (st.map keyP)
theorem keyP_inj {p q : List Nat} (h : keyP p = keyP q) : p = q := by
  have h2 := NestedKey.tup.inj h
  refine List.map_inj_right (f := fun k : Nat => NestedKey.num (k : Nat)) (fun a b e => ?_) |>.mp h2
  have := NestedKey.num.inj e
  omega
theorem keyS_inj {p q : State} (h : keyS p = keyS q) : p = q := List.map_inj_right (fun _ _ => keyP_inj) |>.mp (NestedKey.tup.inj h)
theorem depthAll_le (n : Nat) : ∀ ks : List NestedKey, (∀ k ∈ ks, k.depth ≤ n) → NestedKey.depthAll ks ≤ n
  | [], _ => Nat.zero_le _
  | k :: ks, h => by
    have h1 := h k List.mem_cons_self
    have h2 := depthAll_le n ks fun q hq => h q (List.mem_cons_of_mem _ hq)
    show max _ _ ≤ n
    exact Nat.max_le.mpr ⟨h1, h2⟩
theorem keyP_depth (p : List Nat) : (keyP p).depth ≤ 2 := by
  show NestedKey.depthAll _ + 1 ≤ 2
  refine Nat.succ_le_succ (depthAll_le 1 _ fun k hk => ?_)
  obtain ⟨j, _, rfl⟩ := List.mem_map.mp hk
  show NestedKey.depth (.num _) ≤ 1
  simp [NestedKey.depth]
theorem keyS_depth (st : State) : (keyS st).depth ≤ 8 := by
  show NestedKey.depthAll _ + 1 ≤ 8
  refine Nat.succ_le_succ (depthAll_le 7 _ fun k hk => ?_)
  obtain ⟨j, _, rfl⟩ := List.mem_map.mp hk
  exact Nat.le_trans (keyP_depth j) (by decide)
theorem keyAll_nums (H : Hp) : ∀ p : List Nat, KeyAll H (intsV p) (p.map fun k => .num (k : Nat))
  | [] => .nil
  | k :: p => .cons (.num _) (keyAll_nums H p)
theorem keyIs_tup {H : Hp} {a : Addr} {p : List Nat} (h : TupAt H a p) : KeyIs H (.ref a) (keyP p) := .tup h (keyAll_nums H p)
theorem keyAll_tups {H : Hp} : ∀ {as : List Addr} {st : State}, AllAt (TupAt H) as st → KeyAll H (refsV as) (st.map keyP)
  | [], [], _ => .nil
  | _ :: _, _ :: _, ⟨q, r⟩ => .cons (keyIs_tup q) (keyAll_tups r)
  | [], _ :: _, q => q.elim
  | _ :: _, [], q => q.elim
theorem keyIs_st {H : Hp} {t : Addr} {st : State} (h : StAt H t st) : KeyIs H (.ref t) (keyS st) := by
  obtain ⟨as, h1, h2⟩ := h
  exact .tup h1 (keyAll_tups h2)
/-! ### the entries of the search -/
def EntAt (H : Hp) (a : Addr) (e : Line × State) : Prop := ∃ t, H a = some (.tup [.str (strOf e.1), .ref t]) ∧ StAt H t e.2
theorem EntAt.tups {H H' : Hp} {a : Addr} {x : Line × State} (e : Tups H H') (h : EntAt H a x) : EntAt H' a x := by
  obtain ⟨t, h1, h2⟩ := h
  exact ⟨t, e _ _ h1, h2.tups e⟩
theorem stepped_runs (rows : List (List Cell)) (u : Line) (c : Nat) : stepped rows (runs rows u) c = runs rows (u ++ [c]) := by
  unfold runs
  rw [stepped_map]
  exact List.map_congr_left fun r _ => (run_snoc r u c).symm
theorem keys_map {xs : List NRow} {found : List (Line × State)} (h : xs.map (·.1) = found.map fun e => keyS e.2) (st : State) : (atN xs (keyS st)).isSome = decide (st ∈ found.map (·.2)) := by
  have e : keyS st ∈ xs.map (·.1) ↔ st ∈ found.map (·.2) := by
    rw [h]
    constructor
    · intro hm
      obtain ⟨x, hx, e⟩ := List.mem_map.mp hm
      exact List.mem_map.mpr ⟨x, hx, keyS_inj e⟩
    · intro hm
      obtain ⟨x, hx, e⟩ := List.mem_map.mp hm
      exact List.mem_map.mpr ⟨x, hx, by rw [e]⟩
  cases q : atN xs (keyS st) with
  | none =>
    have := atN_none.mp q
    rw [e] at this
    exact (decide_eq_false this).symm
  | some p =>
    have : ¬ keyS st ∉ xs.map (·.1) := fun z => by
      rw [atN_none.mpr z] at q
      cases q
    have := e.mp (Classical.not_not.mp this)
    exact (decide_eq_true this).symm
section
variable {P : Program} {w : World} {K : PySem.W.Frag} {mg : Str → Option Value} {base : Heap}
/-! ### scanned -/
def spScanned (T : Txt K mg) : Sp := fun vs H Q _ => ∃ (l : Addr) (fs : List Form), vs = [.ref l] ∧ FormsAt T H l fs ∧ fs.length ≤ 1000 ∧ cellCount (fs.map cellsOf) ≤ 22 ∧
  ∀ (H' : Hp) (p : Addr) (es : List Addr) (res : List (Line × State)), Same H H' → H p = none → H' p = some (.lst (refsV es)) → AllAt (EntAt H') es res → ScanOk (fs.map cellsOf) res → res.length ≤ 4194304 → (∀ e ∈ res, e.1.length ≤ 4194304) → Q (.ref p) H'
theorem scScanned : FnScope ["forms", "signs", "rows", "seen", "found", "at", "line", "state", "sign", "state_behind", "form"] ["forms"] (defScope (top 24)) := ⟨rfl, rfl, rfl, by decide +kernel, rfl, by decide +kernel, by decide +kernel⟩
theorem ok_scanned (T : Txt K mg) : FnOk P w K mg base CX0 4 T.dScanned.f T.dScanned.fd ["forms"] (spScanned T) := by
  have GS : FnOk P w K mg base CX0 2 T.dSignsFor.f T.dSignsFor.fd ["forms"] (spSignsFor T) := ok_signs_for T
  have GC : FnOk P w K mg base CX0 1 T.dCellsOf.f T.dCellsOf.fd ["parts"] (spCellsOf K) := ok_cells_of T
  have GP : FnOk P w K mg base CX0 1 T.mParts.f T.mParts.fd ["self"] (spParts T.cForm.C) := ok_parts T
  have GB : FnOk P w K mg base CX0 3 T.dBegin.f T.dBegin.fd ["forms"] (spBegin T) := ok_begin T
  have GT : FnOk P w K mg base CX0 3 T.dStepped.f T.dStepped.fd ["rows", "state", "sign"] spStepped := ok_stepped T
  refine T.dScanned.F.ok scScanned (fun vs H Q E h => ?_) (fun cdv A outer s H vs Q E hr h => ?_)
  · obtain ⟨l, fs, rfl, _⟩ := h
    rfl
  · obtain ⟨l, fs, rfl, ⟨as, hL, hAs⟩, hfl, hcc, k⟩ := h
    have hr2 := hr.mono (show 2 ≤ 3 by decide)
    have hr1 := hr.mono (show 1 ≤ 3 by decide)
    refine ⟨_, pss_cons (ps_set (i := 1) scScanned.nd rfl (.inl rfl) (pe_call GS hr2 rfl T.dSignsFor.m T.dSignsFor.F.kp T.dSignsFor.b .nil pass0 (pa_cons (pv 0) pa_nil)))
      (pss_cons (ps_setLc (i := 2) (own := [("form", 10)]) (g := gName 10) (tt := tYes) rfl scScanned.nd rfl rfl rfl (pi_list (pv 0)) (blkOk_by (own := [("form", 10)]) (N := ["forms", "signs", "rows", "seen", "found", "at", "line", "state", "sign", "state_behind", "form"]) (sc := defScope (top 24)) (by decide +kernel))
        (fun _ _ _ _ _ => pg_name (i := 10) scScanned.nd rfl (Or.inl rfl)) (fun _ _ _ _ _ => pts_nil)
        (fun _ _ _ _ _ => pe_call GC hr1 rfl T.dCellsOf.m T.dCellsOf.F.kp T.dCellsOf.b .nil pass0
          (pa_cons (pe_meth0 (pv 10) T.cForm.cl T.mParts.m GP hr1 T.mParts.b .nil pass0) pa_nil)))
      (pss_cons (ps_set (i := 3) scScanned.nd rfl (.inl rfl) pe_dnewN)
      (pss_cons (ps_set (i := 4) scScanned.nd rfl (.inl rfl) (pe_lst (pa_cons (pe_tup (pa_cons pe_str (pa_cons (pe_call GB hr rfl T.dBegin.m T.dBegin.F.kp T.dBegin.b .nil pass0 (pa_cons (pv 0) pa_nil)) pa_nil))) pa_nil)))
      (pss_cons (ps_set (i := 5) scScanned.nd rfl (.inl rfl) pe_int)
      (pss_cons (ps_while PassesOwn.never (pt_cmpR op_lt (pv 5) (pe_callB call_len_seq rfl T.zLen (by decide +kernel) (pa_cons (pv 4) pa_nil)) (nomark _))
        (pss_cons (ps_asg (pe_ix ix_list (pv 4) (pv 5) (fun _ _ => rfl)) (pg_tup rfl (pgs_cons (pg_name (i := 6) scScanned.nd rfl (Or.inl rfl)) (pgs_cons (pg_name (i := 7) scScanned.nd rfl (Or.inl rfl)) pgs_nil))))
        (pss_cons (ps_for PassesOwn.never rfl (pi_list (pv 1)) (pg_name (i := 8) scScanned.nd rfl (.inl rfl))
          (pss_cons (ps_set (i := 9) scScanned.nd rfl (.inl rfl) (pe_call GT hr rfl T.dStepped.m T.dStepped.F.kp T.dStepped.b .nil pass0 (pa_cons (pv 2) (pa_cons (pv 7) (pa_cons (pv 8) pa_nil)))))
          (pss_one (ps_if (pt_cmpR (op_notInN hr) (pv 9) (pv 3) (by rfl))
            (pss_cons (ps_asg pe_bl (pg_sub (pv 3) (pv 9) (set_N hr)))
            (pss_one (ps_expr (pe_bm PySem.F.plainAttrs_list PySem.F.slot_list_append PySem.F.type_list_append mt_append (pv 4) (pa_cons (pe_tup (pa_cons (pe_op op_add_str (pv 6) (pv 8)) (pa_cons (pv 9) pa_nil))) pa_nil))))) pss_nil))))
        (pss_one (ps_aug (i := 5) scScanned.nd rfl (.inl rfl) pe_int ip_add)))))
      (pss_one (ps_ret (pe_slice sl_list (pv 4) (po_some pe_int) po_none)))))))), ?_⟩
    refine ⟨_, rfl, l, fs, rfl, ⟨as, hL, hAs⟩, hfl, fun H1 sg s1 hsg hS => ?_⟩
    generalize hrows : fs.map cellsOf = rows at *
    generalize hSS : signsFor (fixedOf fs) = S at hS
    refine ⟨_, rfl, l, rfl, ⟨_, .inl (.inl (s1 _ _ hL))⟩, fun rw hrw => lc_it (walk_list (xs := refsV as)) (fun i H2 => Same H1 H2 ∧ ∃ ps, H2 rw = some (.lst (refsV ps)) ∧ AllAt (fun a x => CellsAt H2 a x ∧ a ≠ rw) ps ((fs.take i).map cellsOf))
      ⟨same_upd hrw, [], upd_same, trivial⟩ (fun i H2 _ q => .inl (.inl (q.1 _ _ (s1 _ _ hL)))) ?_ ?_⟩
    · rintro i x H0 H2 hi ⟨s2, ps, hD2, hps⟩ ⟨rfl, hx⟩
      obtain ⟨a, ha, rfl⟩ := refsV_some hx
      obtain ⟨f, hf, hfa⟩ := hAs.get ha
      obtain ⟨dx, t, h1, h2, fo⟩ := FormAt.mono (s1.trans s2) hfa
      have hi2 : i < as.length := by rw [refsV_length] at hi; exact hi
      have hpl : ps.length ≤ 1000 := by
        rw [hps.length, List.length_map, List.length_take]
        omega
      refine ⟨rfl, tyes (iteT ?_)⟩
      refine ⟨_, rfl, a, dx, _, rfl, h1, one_no pieces_no_parts, a, dx, t, rfl, h1, ?_⟩
      refine ⟨t, f, rfl, .inl (.inl h2), fo, fun H3 c s3 hn3 hc3 => ?_⟩
      have hD3 : H3 rw = some (.lst (refsV ps)) := s3 _ _ hD2
      have nc : c ≠ rw := fun e => by rw [e, hD2] at hn3; cases hn3
      refine ⟨refsV ps, hD3, by rw [refsV_length]; exact line_lt (by omega), ?_⟩
      refine ⟨same_over (s2.trans s3) hrw, ps ++ [c], by rw [upd_same, refsV_app]; rfl, ?_⟩
      rw [take_snoc hf, List.map_append]
      refine AllAt.snoc (hps.imp fun b q hb => ⟨(upd_ne hb.2).trans (s3 _ _ hb.1), hb.2⟩) ⟨(upd_ne nc).trans hc3, nc⟩
    rintro HR ⟨s2, ps, hD2, hps⟩
    rw [refsV_length, show fs.take as.length = fs by rw [hAs.length, List.take_length], hrows] at hps
    have hRW : RowsAt HR rw rows := ⟨ps, hD2, hps.imp fun a x q => q.1⟩
    have hsgR : HR sg = some (.lst (onesV S)) := s2 _ _ hS
    have hrl : rows.length ≤ 1000 := by rw [← hrows, List.length_map]; exact hfl
    have hok : ∀ f ∈ fs, FOk f := fun f hf => by
      obtain ⟨a, ha⟩ := hAs.mem hf
      exact ha.ok
    have hrs : ∀ r ∈ rows, r.length ≤ 1000 := fun r hr' => by
      rw [← hrows] at hr'
      obtain ⟨f, hf, rfl⟩ := List.mem_map.mp hr'
      have := (hok f hf).cells
      omega
    have sR : Same H HR := s1.trans s2
    intro se hse
    have s3 : Same HR (upd HR se (DNo P w se [])) := same_upd hse
    refine ⟨_, rfl, l, fs, rfl, FormsAt.mono (sR.trans s3) ⟨as, hL, hAs⟩, hfl, fun H5 t0 s5 ht0 hst0 => ?_⟩
    rw [hrows] at hst0
    refine ⟨line_big (n := 2) (by decide), fun e0 he0 => ?_⟩
    refine ⟨line_big (n := 1) (by decide), fun fa hfa => ?_⟩
    have s6 := same_upd (o := .tup [.str "", .ref t0]) he0
    have s7 := same_upd (o := .lst [.ref e0]) hfa
    have hfaR : HR fa = none := Same.free s3 (Same.free s5 (Same.free s6 hfa))
    have hseW : upd (upd H5 e0 (.tup [.str "", .ref t0])) fa (.lst [.ref e0]) se = some (DNo P w se []) := s7 _ _ (s6 _ _ (s5 _ _ upd_same))
    have nfs : fa ≠ se := fun e => by
      have hz := s6 _ _ (s5 _ _ (show upd HR se (DNo P w se []) se = some (DNo P w se []) from upd_same))
      rw [← e, hfa] at hz
      cases hz
    have hSord : S.Pairwise (· < ·) := by rw [← hSS]; exact signsFor_sorted _
    refine ⟨fun m σ H2 => ∃ (i : Nat) (v6 v7 v8 v9 : Option V) (xs : List NRow) (es : List Addr) (found : List (Line × State)), m = 4194306 - i ∧
      σ = [some (.ref l), some (.ref sg), some (.ref rw), some (.ref se), some (.ref fa), some (.int (i : Nat)), v6, v7, v8, v9, none] ∧ Same HR H2 ∧ H2 fa = some (.lst (refsV es)) ∧ AllAt (EntAt H2) es found ∧
      H2 se = some (DNo P w se xs) ∧ xs.map (·.1) = found.tail.map (fun e => keyS e.2) ∧ KeysIn H2 xs ∧ Bfs S (stepped rows) (begin_ rows) found i 0,
      ⟨_, 0, _, _, _, _, [], [e0], [([], begin_ rows)], rfl, rfl, ((s3.trans s5).trans s6).trans s7, upd_same, ⟨⟨t0, s7 _ _ upd_same, StAt.mono (s6.trans s7) hst0⟩, trivial⟩, hseW, rfl, fun x hx => (by simp at hx), Bfs.init⟩, ?_⟩
    rintro m σ H8 ⟨i, v6, v7, v8, v9, xs, es, found, rfl, rfl, s8, hF, hEs, hSe, hkeys, hKI, B⟩
    have hsz := B.size
    have hpow : 2 ^ cellCount rows ≤ 2 ^ 22 := Nat.pow_le_pow_right (by decide) hcc
    have hpow2 : 2 ^ 22 = 4194304 := by decide
    have hes : es.length ≤ 4194305 := by rw [hEs.length]; omega
    refine ⟨_, rfl, _, rfl, _, _, rfl, .inl (.inl (.inl hF)), _, _, rfl, rfl, _, rfl, ?_⟩
    refine ite2 (fun c1 => ?_) (fun c1 => ?_)
    · have hil : i < found.length := by
        have := of_decide_eq_true c1
        rw [refsV_length, hEs.length] at this
        omega
      obtain ⟨e, he⟩ : ∃ e, found[i]? = some e := ⟨found[i], by simp [hil]⟩
      obtain ⟨ea, hea, t, ht1, ht2⟩ := hEs.at_ he
      have hrun : e.2 = runs rows e.1 := by rw [B.run e (List.mem_of_getElem? he), runs_eq]
      have hll := B.len _ i e (Nat.le_refl _) he
      refine ⟨_, fun σ' H' h' => h', ?_⟩
      refine ⟨_, rfl, _, rfl, _, _, _, _, rfl, rfl, .inl (.inl hF), atI_nat (refsV_get hea), ea, _, rfl, .inl (.inl ht1), rfl, _, _, rfl, _, _, rfl, rfl, ?_⟩
      refine ⟨_, rfl, sg, rfl, ⟨_, .inl (.inl (s8 _ _ hsgR))⟩, for_it (walk_list (xs := onesV S)) (fun j σ H2 => ∃ (v8 v9 : Option V) (xs : List NRow) (es : List Addr) (found : List (Line × State)),
        σ = [some (.ref l), some (.ref sg), some (.ref rw), some (.ref se), some (.ref fa), some (.int (i : Nat)), some (.str (strOf e.1)), some (.ref t), v8, v9, none] ∧ Same HR H2 ∧ H2 fa = some (.lst (refsV es)) ∧ AllAt (EntAt H2) es found ∧
        H2 se = some (DNo P w se xs) ∧ xs.map (·.1) = found.tail.map (fun e => keyS e.2) ∧ KeysIn H2 xs ∧ Bfs S (stepped rows) (begin_ rows) found i j ∧ found[i]? = some e ∧ StAt H2 t e.2)
        ⟨_, _, _, _, _, rfl, s8, hF, hEs, hSe, hkeys, hKI, B, he, ht2⟩ (fun j σ H2 _ ⟨_, _, _, _, _, _, s9, _⟩ => .inl (.inl (s9 _ _ hsgR))) ?_ ?_⟩
      · rintro j x σ H0 H9 hj ⟨v8, v9, xs, es, found, rfl, s9, hF, hEs, hSe, hkeys, hKI, B, he, ht2⟩ ⟨rfl, hx⟩
        obtain ⟨c, hc, rfl⟩ : ∃ c, S[j]? = some c ∧ x = .str (one c) := by
          unfold onesV at hx
          rw [List.getElem?_map] at hx
          cases q : S[j]? with
          | none => rw [q] at hx; cases hx
          | some c => rw [q] at hx; exact ⟨c, rfl, (Option.some.inj hx).symm⟩
        have hsz := B.size
        have hes : es.length ≤ 4194305 := by rw [hEs.length]; omega
        have hft : found.tail.length ≤ 4194305 := by rw [List.length_tail]; omega
        have hxs : xs.length ≤ 4194305 := by
          have := congrArg List.length hkeys
          rw [List.length_map, List.length_map] at this
          omega
        have B2 := B.one hSord he hc
        refine ⟨_, rfl, _, rfl, _, rfl, rw, t, rows, e.1, c, rfl, hRW.mono s9, hrun ▸ ht2, hrl, hrs, fun Hb tb sb hnb hstb => ?_⟩
        have hkS : KeyIs Hb (.ref tb) (keyS (runs rows (e.1 ++ [c]))) := keyIs_st hstb
        have hKI2 : KeysIn Hb xs := hKI.mono (tups_same sb)
        refine ⟨_, rfl, _, rfl, tb, se, _, xs, rfl, rfl, hkS, keyS_depth _, sb _ _ hSe, hKI2, _, rfl, ?_⟩
        rw [keys_map hkeys]
        have e8 : stepped rows e.2 c = runs rows (e.1 ++ [c]) := by rw [hrun, stepped_runs]
        unfold addOne at B2
        rw [e8] at B2
        have s10 : Same HR Hb := s9.trans sb
        refine ite2 (fun c2 => ?_) (fun c2 => ?_)
        · have c2' : runs rows (e.1 ++ [c]) ∉ found.tail.map (·.2) := fun z => by
            rw [decide_eq_true z] at c2
            cases c2
          rw [if_neg c2'] at B2
          have hnone : atN xs (keyS (runs rows (e.1 ++ [c]))) = none := by
            have hz := keys_map hkeys (runs rows (e.1 ++ [c]))
            rw [decide_eq_false c2'] at hz
            cases q : atN xs (keyS (runs rows (e.1 ++ [c]))) with
            | none => rfl
            | some p => rw [q] at hz; cases hz
          refine ⟨_, rfl, _, rfl, se, tb, _, xs, rfl, rfl, hkS, keyS_depth _, sb _ _ hSe, hKI2, line_lt (by omega), fun Hc hHc0 => ?_⟩
          rw [storeN_new hnone] at hHc0
          have hse2 := sb _ _ hSe
          have hHc : upd Hb se (DNo P w se (xs ++ [(keyS (runs rows (e.1 ++ [c])), tb, V.bl true)])) = Hc := hHc0.symm
          have sc : Same HR Hc := by rw [← hHc]; exact same_over s10 hse
          have tc : Tups Hb Hc := by rw [← hHc]; exact tups_upd hse2 fun vs => DNo.ne_tup
          have hFc : Hc fa = some (.lst (refsV es)) := by rw [← hHc, upd_ne nfs]; exact sb _ _ hF
          have hSc : Hc se = some (DNo P w se (xs ++ [(keyS (runs rows (e.1 ++ [c])), tb, V.bl true)])) := by rw [← hHc, upd_same]
          refine ⟨_, rfl, .inl ⟨rfl, _, .inl (.inl hFc)⟩, _, rfl, _, rfl, strOf e.1, one c, rfl, rfl, ?_, _, rfl, line_big (n := 2) (by decide), fun ne hne => ?_⟩
          · rw [strOf_len]
            show e.1.length + 1 ≤ _
            exact line_big (by omega)
          have nef : fa ≠ ne := fun z => by rw [← z, hFc] at hne; cases hne
          refine ⟨_, _, _, rfl, rfl, (upd_ne nef).trans hFc, by rw [refsV_length]; exact line_lt (by omega), ?_⟩
          rw [one_eq, strOf_app]
          have tn : Tups Hc (upd Hc ne (.tup [.str (strOf (e.1 ++ [c])), .ref tb])) := tups_same (same_upd hne)
          have tl : Tups (upd Hc ne (.tup [.str (strOf (e.1 ++ [c])), .ref tb])) (upd (upd Hc ne (.tup [.str (strOf (e.1 ++ [c])), .ref tb])) fa (.lst (refsV es ++ [.ref ne]))) := tups_upd ((upd_ne nef).trans hFc) fun vs z => nomatch z
          have tall := (tups_same sb).trans (tc.trans (tn.trans tl))
          have tbl := tc.trans (tn.trans tl)
          obtain ⟨tl0, ht0⟩ := B.head
          refine ⟨_, _, xs ++ [(keyS (runs rows (e.1 ++ [c])), tb, V.bl true)], es ++ [ne], found ++ [(e.1 ++ [c], runs rows (e.1 ++ [c]))], rfl, same_over (same_new sc hne) hfaR, ?_, ?_, ?_, ?_, ?_, B2, ?_, ht2.tups tall⟩
          · rw [upd_same, refsV_app]
            rfl
          · refine AllAt.snoc (hEs.imp fun a x q => q.tups tall) ⟨tb, tl _ _ upd_same, hstb.tups tbl⟩
          · rw [upd_ne (Ne.symm nfs), upd_ne fun z => by rw [← z, hSc] at hne; cases hne]
            exact hSc
          · rw [ht0] at hkeys ⊢
            show _ = (tl0 ++ [_]).map _
            rw [List.map_append, List.map_append, hkeys]
            rfl
          · intro x hx
            rcases List.mem_append.mp hx with hx | hx
            · exact hKI2.mono tbl x hx
            · obtain rfl := List.mem_singleton.mp hx
              exact ⟨KeyIs.mono tbl _ _ hkS, keyS_depth _⟩
          · rw [List.getElem?_append_left (List.getElem?_eq_some_iff.mp he).1]
            exact he
        · have c2' : runs rows (e.1 ++ [c]) ∈ found.tail.map (·.2) := Classical.byContradiction fun z => c2 (by rw [decide_eq_false z]; rfl)
          rw [if_pos c2'] at B2
          exact ⟨_, _, xs, es, found, rfl, s10, sb _ _ hF, hEs.imp fun a x q => q.tups (tups_same sb), sb _ _ hSe, hkeys, hKI2, B2, he, ht2.mono sb⟩
      · rintro σ H9 ⟨v8, v9, xs, es, found, rfl, s9, hF, hEs, hSe, hkeys, hKI, B, he, ht2⟩
        have e9 : (onesV S).length = S.length := by unfold onesV; rw [List.length_map]
        rw [e9] at B
        exact ⟨_, rfl, _, _, rfl, rfl, 4194306 - (i + 1), by omega, i + 1, _, _, _, _, xs, es, found, rfl, rfl, s9, hF, hEs, hSe, hkeys, hKI, B.next⟩
    · have hge : found.length ≤ i := by
        refine Nat.le_of_not_lt fun z => c1 (decide_eq_true ?_)
        rw [refsV_length, hEs.length]
        omega
      have hscan : ScanOk rows found.tail := by
        refine Bfs.scan (fixed := fixedOf fs) (fun r hr' => ?_) (by rw [hSS]; exact B) hge
        rw [← hrows] at hr'
        obtain ⟨f, hf, rfl⟩ := List.mem_map.mp hr'
        exact fix_in hf
      refine ⟨_, rfl, _, rfl, fa, _, rfl, .inl (.inl hF), fun p hp => ?_⟩
      rw [show cutV (refsV es) (some 1) none = refsV es.tail from (cut_from (refsV es) 1).trans (by unfold refsV; rw [List.drop_one, List.map_tail])]
      have sp := same_upd (o := .lst (refsV es.tail)) hp
      refine k _ p es.tail found.tail ((sR.trans s8).trans sp) (Same.free sR (Same.free s8 hp)) upd_same ?_ hscan (by rw [List.length_tail]; omega) (fun e he => ?_)
      rotate_left
      · obtain ⟨tl0, ht0⟩ := B.head
        rw [ht0] at he
        obtain ⟨j, hj⟩ := List.mem_iff_getElem?.mp (show e ∈ tl0 from he)
        have hj2 : found[j + 1]? = some e := by rw [ht0]; simpa using hj
        have h1 := B.len _ _ e (Nat.le_refl _) hj2
        have h2 := (List.getElem?_eq_some_iff.mp hj2).1
        omega
      have := hEs.drop 1
      rw [List.drop_one, List.drop_one] at this
      exact this.imp fun a x q => q.tups (tups_same sp)
end
end K35
namespace K35
open PySem L2
theorem cut_mid {xs A B C : List V} (e : xs = A ++ (B ++ C)) {a b : Nat} (ha : a = A.length) (hb : b = A.length + B.length) : cutV xs (some (a : Nat)) (some (b : Nat)) = B := by
  subst e ha hb
  unfold cutV
  rw [HT.sIx_nat, HT.sIx_nat]
  have e1 : min A.length (A ++ (B ++ C)).length = A.length := by rw [List.length_append]; omega
  have e2 : min (A.length + B.length) (A ++ (B ++ C)).length = A.length + B.length := by rw [List.length_append, List.length_append]; omega
  rw [e1, e2, List.drop_left, show A.length + B.length - A.length = B.length by omega, List.take_left]
def formsOf (marks : List Pat) : List Form := marks.flatMap Pat.forms
theorem formsOf_snoc {marks : List Pat} {i : Nat} {m : Pat} (h : marks[i]? = some m) : formsOf (marks.take (i + 1)) = formsOf (marks.take i) ++ m.forms := by
  unfold formsOf
  rw [take_snoc h, List.flatMap_append]
  simp
theorem formsOf_split {marks : List Pat} {i : Nat} {m : Pat} (h : marks[i]? = some m) : formsOf marks = formsOf (marks.take i) ++ (m.forms ++ formsOf (marks.drop (i + 1))) := by
  have e : marks = marks.take (i + 1) ++ marks.drop (i + 1) := (List.take_append_drop (i + 1) marks).symm
  have e2 : formsOf marks = formsOf (marks.take (i + 1)) ++ formsOf (marks.drop (i + 1)) := by
    conv => lhs; rw [e]
    unfold formsOf
    rw [List.flatMap_append]
  rw [e2, formsOf_snoc h, List.append_assoc]
theorem lookW_snoc {marks : List Pat} {i : Nat} {m : Pat} (h : marks[i]? = some m) (w : Line) : lookW (marks.take (i + 1)) w = lookW (marks.take i) w ++ (if fits m w then [i] else []) := by
  have hl : (marks.take i).length = i := by
    have := (List.getElem?_eq_some_iff.mp h).1
    rw [List.length_take]
    omega
  unfold lookW
  rw [take_snoc h, lookFrom_append, hl]
  show _ ++ ((if fits m w then [0 + i] else []) ++ []) = _
  rw [List.append_nil, Nat.zero_add]
theorem lookW_len (w : Line) : ∀ (ms : List Pat) (k : Nat), (lookFrom w k ms).length ≤ ms.length
  | [], _ => Nat.le_refl _
  | m :: ms, k => by
    have ih := lookW_len w ms (k + 1)
    show ((if fits m w then [k] else []) ++ lookFrom w (k + 1) ms).length ≤ _
    rw [List.length_append, List.length_cons]
    split
    · show 1 + _ ≤ _
      omega
    · show 0 + _ ≤ _
      omega
theorem pforms_pos (m : Pat) : m.forms.length ≤ 2 := by
  cases m with
  | one f => exact (by decide : 1 ≤ 2)
  | both f g => exact (by decide : 2 ≤ 2)
  | either f g => exact (by decide : 2 ≤ 2)
section
variable {P : Program} {w : World} {K : PySem.W.Frag} {mg : Str → Option Value} {base : Heap}
/-! ### look_of -/
def toldV (fs : List Form) (u : Line) : List V := blsV (fs.map fun f => fitsF f u)
theorem toldV_app (fs gs : List Form) (u : Line) : toldV (fs ++ gs) u = toldV fs u ++ toldV gs u := by
  unfold toldV blsV
  rw [List.map_append, List.map_append]
theorem toldV_len (fs : List Form) (u : Line) : (toldV fs u).length = fs.length := by
  unfold toldV blsV
  rw [List.length_map, List.length_map]
def spLookOf (T : Txt K mg) : Sp := fun vs H Q _ => ∃ (l t : Addr) (marks : List Pat) (u : Line), vs = [.ref l, .ref t] ∧ PatsAt T H l marks ∧ SqL K H t (toldV (formsOf marks) u) ∧ marks.length ≤ 1000 ∧
  ∀ (H' : Hp) (p : Addr), Same H H' → H p = none → TupAt H' p (lookW marks u) → Q (.ref p) H'
theorem scLookOf : FnScope ["marks", "told", "found", "at", "k", "mark", "behind"] ["marks", "told"] (defScope (top 25)) := ⟨rfl, rfl, rfl, by decide +kernel, rfl, by decide +kernel, by decide +kernel⟩
theorem ok_look_of (T : Txt K mg) : FnOk P w K mg base CX0 3 T.dLookOf.f T.dLookOf.fd ["marks", "told"] (spLookOf T) := by
  refine T.dLookOf.F.ok scLookOf (fun vs H Q E h => ?_) (fun cdv A outer s H vs Q E hr h => ?_)
  · obtain ⟨l, t, marks, u, rfl, _⟩ := h
    rfl
  · obtain ⟨l, t, marks, u, rfl, ⟨as, hL, hAs⟩, hT, hml, k⟩ := h
    refine ⟨_, pss_cons (ps_set (i := 2) scLookOf.nd rfl (.inl rfl) (pe_lst pa_nil))
      (pss_cons (ps_set (i := 3) scLookOf.nd rfl (.inl rfl) pe_int)
      (pss_cons (ps_for PassesOwn.never rfl (pi_enum rfl T.zEnumerate (pa_cons (pv 0) pa_nil)) (pg_tup rfl (pgs_cons (pg_name (i := 4) scLookOf.nd rfl (Or.inl rfl)) (pgs_cons (pg_name (i := 5) scLookOf.nd rfl (Or.inl rfl)) pgs_nil)))
        (pss_cons (ps_set (i := 6) scLookOf.nd rfl (.inl rfl) (pe_op op_add (pv 3) (pe_callB call_len_seq rfl T.zLen (by decide +kernel) (pa_cons (pe_formsP T 5 rfl rfl hr (pv 5)) pa_nil))))
        (C8.pss_cut (ps_if (pt_val (pe_holdsP T 5 rfl rfl hr (pv 5) (pa_cons (pe_slice sl_list (pv 1) (po_some (pv 3)) (po_some (pv 6))) pa_nil)))
          (pss_one (ps_expr (pe_bm PySem.F.plainAttrs_list PySem.F.slot_list_append PySem.F.type_list_append mt_append (pv 2) (pa_cons (pv 4) pa_nil)))) pss_nil)
        (pss_one (ps_set (i := 3) scLookOf.nd rfl (.inl rfl) (pv 6))))))
      (pss_one (ps_ret (pe_callTy call_tuple_of rfl T.zTuple (by decide +kernel) (pa_cons (pv 2) pa_nil)))))), ?_⟩
    refine ⟨Nat.zero_le _, fun fa hfa => ?_⟩
    have s0 := same_upd (o := .lst []) hfa
    refine ⟨_, rfl, l, _, rfl, .inl (.inl (s0 _ _ hL)), for_it (walk_enum (xs := refsV as)) (fun i σ H2 => (∃ v4 v5 v6, σ = [some (.ref l), some (.ref t), some (.ref fa), some (.int ((formsOf (marks.take i)).length : Nat)), v4, v5, v6]) ∧ Same H H2 ∧ H2 fa = some (.lst (intsV (lookW (marks.take i) u))))
      ⟨⟨_, _, _, rfl⟩, s0, upd_same⟩ (fun i σ H2 _ q => .inl (.inl (q.2.1 _ _ hL))) ?_ ?_⟩
    · rintro i x σ H0 H2 hi ⟨⟨v4, v5, v6, rfl⟩, s2, hF⟩ ⟨tp, x1, y1, rfl, hn1, rfl, e1, e2⟩
      cases e1
      obtain ⟨a, ha, rfl⟩ := refsV_some e2
      obtain ⟨m, hm, hma⟩ := hAs.get ha
      have s3 := s2.trans (same_upd (o := .tup [.int (i : Nat), .ref a]) hn1)
      have nF : tp ≠ fa := fun e => by rw [e, hF] at hn1; cases hn1
      have hF3 : upd H0 tp (.tup [.int (i : Nat), .ref a]) fa = some (.lst (intsV (lookW (marks.take i) u))) := (upd_ne (Ne.symm nF)).trans hF
      refine ⟨tp, _, rfl, .inl (.inl upd_same), rfl, _, _, rfl, _, _, rfl, rfl, ?_⟩
      refine ⟨_, rfl, a, m, rfl, hma.mono s3, fun H4 q s4 hn4 hq4 => ?_⟩
      obtain ⟨bs, hq5, hbs⟩ := hq4
      refine ⟨q, _, rfl, .inl (.inl (.inl hq5)), _, _, rfl, rfl, ?_⟩
      have s5 := s3.trans s4
      have hma5 := hma.mono s5
      obtain ⟨C, dx, fl, hc, hC, _, n2⟩ := patAt_cls hma5
      have hF4 := s4 _ _ hF3
      refine ⟨fun σ' H' => (∃ v5, σ' = [some (.ref l), some (.ref t), some (.ref fa), some (.int ((formsOf (marks.take i)).length : Nat)), some (.int (i : Nat)), v5, some (.int ((formsOf (marks.take (i + 1))).length : Nat))]) ∧ Same H H' ∧ H' fa = some (.lst (intsV (lookW (marks.take (i + 1)) u))), ?_, ?_⟩
      · refine ⟨a, C, dx, fl, rfl, hc, hC, n2, ?_⟩
        refine ⟨_, rfl, _, rfl, _, rfl, _, rfl, _, rfl, t, _, rfl, s5.seq hT, fun p hp => ?_⟩
        have hb2 : (refsV bs).length = m.forms.length := by rw [refsV_length, hbs.length]
        have hcut : cutV (toldV (formsOf marks) u) (some ((formsOf (marks.take i)).length : Nat)) (some (((formsOf (marks.take i)).length : Nat) + ((refsV bs).length : Nat))) = toldV m.forms u := by
          refine cut_mid (A := toldV (formsOf (marks.take i)) u) (B := toldV m.forms u) (C := toldV (formsOf (marks.drop (i + 1))) u) (by rw [formsOf_split hm, toldV_app, toldV_app]) (by rw [toldV_len]) (by rw [toldV_len, toldV_len, hb2])
        have hcut2 := hcut
        rw [show (((formsOf (marks.take i)).length : Nat) : Int) + ((refsV bs).length : Nat) = (((formsOf (marks.take i)).length + (refsV bs).length : Nat) : Int) by omega] at hcut
        have s6 := same_upd (o := .lst (toldV m.forms u)) hp
        have hheap : upd H4 p (.lst (cutV (toldV (formsOf marks) u) (some ((formsOf (marks.take i)).length : Nat)) (some (((formsOf (marks.take i)).length : Nat) + ((refsV bs).length : Nat))))) = upd H4 p (.lst (toldV m.forms u)) := by rw [hcut2]
        rw [hheap]
        refine ⟨a, p, dx, fl, m, m.forms.map fun f => fitsF f u, rfl, s6 _ _ hc, hma5.mono s6, .inl (.inl upd_same), List.length_map .., fun H' s7 => ?_⟩
        rw [holds_fits]
        refine ⟨_, rfl, ?_⟩
        have hF7 := s7 _ _ (s6 _ _ hF4)
        have s8 := (s5.trans s6).trans s7
        have e9 := lookW_snoc hm u
        have hnum : V.int (((formsOf (marks.take i)).length : Nat) + ((refsV bs).length : Nat) : Int) = V.int (((formsOf (marks.take (i + 1))).length : Nat) : Int) := by
          rw [formsOf_snoc hm, List.length_append, hb2]
          rfl
        refine ite2 (fun c1 => ?_) (fun c1 => ?_)
        · rw [if_pos c1] at e9
          have hle : (lookW (marks.take i) u).length ≤ 1000 := by
            have := lookW_len u (marks.take i) 0
            rw [List.length_take] at this
            unfold lookW
            omega
          refine ⟨_, rfl, .inl ⟨rfl, _, .inl (.inl hF7)⟩, _, rfl, _, _, _, rfl, rfl, hF7, (by rw [intsV_length]; exact line_lt (by omega)), ⟨_, congrArg (fun z => [some (V.ref l), some (.ref t), some (.ref fa), some (.int ((formsOf (marks.take i)).length : Nat)), some (.int (i : Nat)), some (.ref a), some z]) hnum⟩, same_over s8 hfa, ?_⟩
          rw [upd_same, e9, intsV_app]
          rfl
        · rw [if_neg c1, List.append_nil] at e9
          refine ⟨⟨_, congrArg (fun z => [some (V.ref l), some (.ref t), some (.ref fa), some (.int ((formsOf (marks.take i)).length : Nat)), some (.int (i : Nat)), some (.ref a), some z]) hnum⟩, s8, ?_⟩
          rw [e9]
          exact hF7
      · rintro σ' H' ⟨⟨v5, rfl⟩, s6, hF6⟩
        refine ⟨_, rfl, ?_⟩
        exact ⟨⟨_, _, _, rfl⟩, s6, hF6⟩
    · rintro σ H2 ⟨⟨v4, v5, v6, rfl⟩, s2, hF⟩
      rw [refsV_length, show marks.take as.length = marks by rw [hAs.length, List.take_length]] at hF
      refine ⟨_, rfl, fa, _, rfl, .inl ⟨.inl (.inl hF), fun p hp => ?_⟩⟩
      exact k _ p (s2.trans (same_upd hp)) (Same.free s2 hp) upd_same
end
end K35
namespace K35
open PySem L2
/-! ### reads -/
theorem readsAll_nums {H : Heap} : ∀ (p : List Nat) (its : List Value), Vals (intsV p) its → ReadsAll H its (p.map fun k => PyData.int (k : Nat)) []
  | [], _, h => by
    cases h
    exact .nil
  | k :: p, _, h => by
    cases h with
    | cons r rs =>
      obtain ⟨t, rfl⟩ := r
      exact .cons (.int _ _) (readsAll_nums p _ rs)
theorem vals_two {x y : V} {its : List Value} (h : Vals [x, y] its) : ∃ u v, its = [u, v] ∧ RelV x u ∧ RelV y v := by
  cases h with
  | cons r rs =>
    cases rs with
    | cons q rs =>
      cases rs
      exact ⟨_, _, rfl, r, q⟩
section
variable {X : Cx} {pins : List (Addr × Obj)} {σ : St} {H : Hp} {s : Shared}
theorem reads_is (I : Inv X pins σ H s) {a : Addr} {i : Int} {z : Str} (h : H a = some (.tup [.int i, .str z])) : Reads s.heap (.ref a) (.tuple [.int i, .str z]) [] := by
  obtain ⟨_, its, rv, o, ho, hc, n, hd⟩ := (show ObjOk X.prog X.w H s.heap a (.tup [.int i, .str z]) from I.hok a _ h)
  obtain ⟨u, v, rfl, ⟨t, rfl⟩, ⟨t2, rfl⟩⟩ := vals_two rv
  exact .tuple ho hc hd (.cons (.int _ _) (.cons (.str _ _) .nil))
theorem reads_nums (I : Inv X pins σ H s) {a : Addr} {p : List Nat} (h : TupAt H a p) : Reads s.heap (.ref a) (.tuple (p.map fun k => PyData.int (k : Nat))) [] := by
  obtain ⟨_, its, rv, o, ho, hc, n, hd⟩ := (show ObjOk X.prog X.w H s.heap a (.tup (intsV p)) from I.hok a _ h)
  exact .tuple ho hc hd (by simpa using readsAll_nums p its rv)
theorem reads_bls (I : Inv X pins σ H s) {a : Addr} {b c : Bool} (h : H a = some (.tup [.bl b, .bl c])) : Reads s.heap (.ref a) (.tuple [.bool b, .bool c]) [] := by
  obtain ⟨_, its, rv, o, ho, hc, n, hd⟩ := (show ObjOk X.prog X.w H s.heap a (.tup [.bl b, .bl c]) from I.hok a _ h)
  obtain ⟨u, v, rfl, r1, r2⟩ := vals_two rv
  cases r1
  cases r2
  exact .tuple ho hc hd (.cons (.bool _) (.cons (.bool _) .nil))
/-! ### (int, str) < (int, str) -/
theorem lex_lt : ∀ a b : List Nat, lex a b = decide (a < b)
  | [], [] => by simp [lex]
  | [], b :: bs => by simp [lex]
  | a :: as, [] => by simp [lex]
  | a :: as, b :: bs => by
    rw [lex, lex_lt as bs, Bool.eq_iff_iff]
    simp only [List.cons_lt_cons_iff, decide_eq_true_eq]
    by_cases h : a = b
    · subst h
      simp
    · simp [h]
def lessIS (i j : Int) (x y : Str) : Bool := if i = j then decide (x.cps.toList < y.cps.toList) else decide (i < j)
theorem dataLt_is (i j : Int) (x y : Str) : PySem.W.dataLt (.tuple [.int i, .str x]) (.tuple [.int j, .str y]) = lessIS i j x y := by
  rw [PySem.W.dataLt_pair rfl rfl, PySem.W.dataLt_int, PySem.W.dataLt_str]
  unfold lessIS
  by_cases h : i = j
  · rw [if_pos h, if_pos (by simp [PyData.eqv, h])]
    by_cases h2 : x = y
    · rw [if_pos (by simp [PyData.eqv, h2]), h2]
      exact (decide_eq_false (List.lt_irrefl _)).symm
    · rw [if_neg (by simp [PyData.eqv, h2])]
  · rw [if_neg h, if_neg (by simp [PyData.eqv, h])]
theorem lessIS_eq (a b : Line) : lessIS (a.length : Nat) (b.length : Nat) (strOf a) (strOf b) = lessB a b := by
  unfold lessIS lessB
  rw [strOf_list, strOf_list, ← lex_lt]
  by_cases h : a.length = b.length
  · rw [if_pos (by omega), h]
    simp
  · rw [if_neg (by omega)]
    simp [h]
theorem op_ltIS {n : Nat} (hr : Room n X.A) : OpR X (compareOp .Lt) (fun x y H Q => ∃ (a b : Addr) (i j : Int) (p q : Str), x = .ref a ∧ y = .ref b ∧ H a = some (.tup [.int i, .str p]) ∧ H b = some (.tup [.int j, .str q]) ∧ Q (.bl (lessIS i j p q)) H) := by
  intro pins s σ H x y v u Q I rx ry h
  obtain ⟨a, b, i, j, p, q, rfl, rfl, ha, hb, k⟩ := h
  cases rx
  cases ry
  have hu : X.A.units + 8 < cLine := by have := hr.un; omega
  refine PySem.W.rcLt_alike _ _ X.A s _ _ _ _ (reads_is I ha) (reads_is I hb) (by rfl) (fun z => nomatch z) ?_ X.prog X.w X.xe _ ?_
  · have : min (PyData.depth (.tuple [.int i, .str p])) (PyData.depth (.tuple [.int j, .str q])) ≤ 2 := by
      refine Nat.le_trans (Nat.min_le_left _ _) ?_
      simp [PyData.depth, PyData.depthAll]
    omega
  · rw [dataLt_is]
    exact ⟨.bl _, H, I, rfl, k⟩
/-! ### d.items() -/
theorem mt_itemsN : MtR X "dict.items" (fun x ys H Q => ∃ (d : Addr) (xs : List NRow), x = .ref d ∧ ys = [] ∧ H d = some (DNo X.prog X.w d xs) ∧ KeysIn H xs ∧ ∀ p, H p = none → Q (.ref p) (upd H p (DX.itemsO p d))) := by
  intro pins s σ H x xs v us Q I rx rxs h
  obtain ⟨d, xs, rfl, rfl, ha, hk, q⟩ := h
  cases rx
  cases rxs
  obtain ⟨hS, hl, us, r, o, es, ep, ho, hx, hdat, _⟩ := dno_of I ha hk
  refine DT.callItems (es := es) (ep := ep) hS ⟨o, ho, hx, hdat⟩ ?_
  have hf : H s.heap.objs.size = none := I.hok.fresh (Nat.le_refl _)
  exact ⟨.ref s.heap.objs.size, upd H s.heap.objs.size (DX.itemsO s.heap.objs.size d), I.laid (t' := s.toks) (fun b u e => Heap.get?_push_of_some _ e) (Nat.le_refl _) (DX.itemsO_ok (Heap.get?_push_size _ rfl)), rfl, q _ hf⟩
theorem paired_get {A B : Type} {R : A → B → Prop} : ∀ {as : List A} {bs : List B} {j : Nat} {a : A}, Paired R as bs → as[j]? = some a → ∃ b, bs[j]? = some b ∧ R a b
  | _, _, j, a, .nil, h => by simp at h
  | _, _, 0, a, .cons (b := y) f _, h => by
    simp only [List.getElem?_cons_zero] at h
    cases h
    exact ⟨y, by simp, f⟩
  | _, _, j + 1, a, .cons _ t, h => by
    simp only [List.getElem?_cons_succ] at h
    obtain ⟨y, h1, h2⟩ := paired_get (j := j) t h
    exact ⟨y, by simpa using h1, h2⟩
/-! ### sorted(d.items()): keys are tuples of numbers, values texts -/
abbrev LRow := List Nat × Line
def encL (z : Addr × LRow) : PyData := .tuple [.tuple (z.2.1.map fun k => .int (k : Nat)), .str (strOf z.2.2)]
def RowsAre (H : Hp) (xs : List NRow) (rows : List LRow) : Prop := xs.length = rows.length ∧ ∀ (j : Nat) (x : NRow) (r : LRow), xs[j]? = some x → rows[j]? = some r → TupAt H x.2.1 r.1 ∧ x.2.2 = .str (strOf r.2)
theorem alike_nums (xs ys : List Nat) : PySem.W.alikeAll (xs.map fun k => PyData.int (k : Nat)) (ys.map fun k => PyData.int (k : Nat)) = true := by
  have e : ∀ zs : List Nat, (zs.map fun k => PyData.int (k : Nat)) = (zs.map fun k => ((k : Nat) : Int)).map .int := fun zs => by rw [List.map_map]; rfl
  rw [e, e]
  exact PySem.W.alike_ints _ _
theorem depth_nums (xs : List Nat) : PyData.depthAll (xs.map fun k => PyData.int (k : Nat)) = 0 := by
  have e : (xs.map fun k => PyData.int (k : Nat)) = (xs.map fun k => ((k : Nat) : Int)).map .int := by rw [List.map_map]; rfl
  rw [e]
  exact PySem.W.depth_ints _
theorem each_of {A B : Type} {R : A → B → Prop} : ∀ {as : List A} {bs : List B}, as.length = bs.length → (∀ (j : Nat) (a : A) (b : B), as[j]? = some a → bs[j]? = some b → R a b) → PySem.W.EachIs R as bs
  | [], [], _, _ => .nil
  | a :: as, b :: bs, h, k => .cons (k 0 a b (by simp) (by simp)) (each_of (by simpa using h) fun j x y hx hy => k (j + 1) x y (by simpa using hx) (by simpa using hy))
  | [], _ :: _, h, _ => by simp at h
  | _ :: _, [], h, _ => by simp at h
theorem each_map_eq {B : Type} (f : B → Value) : ∀ {out : List Value} {bs : List B}, PySem.W.EachIs (fun v b => v = f b) out bs → out = bs.map f
  | _, _, .nil => rfl
  | _, _, .cons h t => by rw [h, each_map_eq f t]; rfl
theorem cr_sortedItemsN {n : Nat} (hc : X.calm = true) (hr : Room n X.A) : CallR X (.builtin "sorted") (fun vs H Q => ∃ (p d : Addr) (xs : List NRow) (rows : List LRow), vs = [.ref p] ∧ H p = some (DX.itemsO p d) ∧ H d = some (DNo X.prog X.w d xs) ∧ KeysIn H xs ∧ RowsAre H xs rows ∧
    ∀ (H' : Hp) (l : Addr) (zs : List (Addr × LRow)), Same H H' → H l = none → (zs.map (·.2)).Perm rows → H' l = some (.lst (refsV (zs.map (·.1)))) → (∀ z ∈ zs, ∃ q, H' z.1 = some (.tup [.ref q, .str (strOf z.2.2)]) ∧ TupAt H' q z.2.1) → Q (.ref l) H') := by
  intro pins s σ H vs us Q I rv h
  obtain ⟨p, d, xs, rows, rfl, hp, ha, hks, ⟨hrl, hrows⟩, q⟩ := h
  obtain rfl := Vals.ref1 rv
  have view : s.heap.IsItemsView p d := (show ObjOk X.prog X.w H s.heap p (DX.itemsO p d) from I.hok p _ hp).1
  obtain ⟨hS, hxl, us, rel, o, es, ep, ho, hx, hdat, hes, his, hn⟩ := dno_of I ha hks
  have l1 : xs.length = us.length := Paired.length rel
  have l2 : es.size = us.length := size_of_entries hes
  have hh : X.A.handled = none := I.ok.hd hc
  have hu8 : X.A.units + 8 < cLine := by have := hr.un; omega
  refine DT.sortedI (es := es) (ep := ep) hh view ⟨o, ho, hx, hdat⟩ (by omega) fun h' tk as hk hlt hl hG => ?_
  have lak : as.length = rows.length := by omega
  have nd : as.Nodup := List.Pairwise.imp (fun h => Nat.ne_of_lt h) hG.rise
  have pr : ∀ (j : Nat) (b : Addr) (r : LRow), as[j]? = some b → rows[j]? = some r → ∃ (kq : Addr) (t : Tok), TupAt H kq r.1 ∧ h'.get? b = some { cls := .type "tuple", data := .seq #[Value.ref kq, Value.str (strOf r.2) t] } := by
    intro j b r hj hrj
    obtain ⟨en, he, hg⟩ := hG.pairs j b hj
    rw [entry_at hes j] at he
    have hjx : j < xs.length := by
      have := (List.getElem?_eq_some_iff.mp hrj).1
      omega
    obtain ⟨x, hxj⟩ : ∃ x, xs[j]? = some x := ⟨xs[j], by simp [hjx]⟩
    obtain ⟨u, huj, r1, r2, r3⟩ := paired_get rel hxj
    rw [huj] at he
    have een : entryOfKey (nestedKind X.prog X.w) u = en := Option.some.inj he
    obtain ⟨t1, t2⟩ := hrows j x r hxj hrj
    rw [t2] at r3
    obtain ⟨t, r3⟩ := r3
    refine ⟨x.2.1, t, t1, ?_⟩
    rw [hg, ← een, r2, ← r3]
    rfl
  have hob : (h'.push { cls := .type "list", data := .seq (as.map Value.ref).toArray }).get? h'.objs.size = some (PyProof.Rows.seqObj "list" (as.map Value.ref).toArray 0) := Heap.get?_push_size _ rfl
  have kb : ∀ b o, s.heap.get? b = some o → (h'.push { cls := .type "list", data := .seq (as.map Value.ref).toArray }).get? b = some o := fun b o e => Heap.get?_push_of_some _ (hk b o e)
  have ne0 : ∀ b o, h'.get? b = some o → b ≠ h'.objs.size := fun b o e => Nat.ne_of_lt (Heap.lt_size e)
  generalize hh2 : h'.push { cls := .type "list", data := .seq (as.map Value.ref).toArray } = h2 at hob kb ⊢
  have ka : ∀ b o, h'.get? b = some o → h2.get? b = some o := fun b o e => by rw [← hh2]; exact Heap.get?_push_of_some _ e
  have zlen : (as.map Value.ref).length = (as.zip rows).length := by rw [List.length_map, List.length_zip]; omega
  have zat : ∀ (j : Nat) (v : Value) (z : Addr × LRow), (as.map Value.ref)[j]? = some v → (as.zip rows)[j]? = some z → v = .ref z.1 ∧ as[j]? = some z.1 ∧ rows[j]? = some z.2 := by
    intro j v z hv hz
    obtain ⟨h1, h2⟩ := List.getElem?_zip_eq_some.mp hz
    rw [List.getElem?_map, h1] at hv
    exact ⟨(Option.some.inj hv).symm, h1, h2⟩
  refine PySem.W.list_sort_data (s := { s with heap := h2, toks := tk }) (enc := encL) (R := fun v (z : Addr × LRow) => v = .ref z.1) (vs := as.map Value.ref) (bs := as.zip rows) hob (each_of zlen fun j v z hv hz => (zat j v z hv hz).1) (each_of zlen fun j v z hv hz => ?_)
    (PySem.W.AllAlike.of fun b b' => ?_) (PySem.W.Sortable.tuples fun b => ⟨_, _, rfl⟩) (by rw [← zlen, List.length_map]; omega) (fun b _ => ?_) fun out hol hout => ?_
  · obtain ⟨rfl, h1, h3⟩ := zat j v z hv hz
    obtain ⟨kq, t, ht, hg⟩ := pr j _ _ h1 h3
    obtain ⟨_, its, rvv, ok, hok, hck, nk, hdk⟩ := (show ObjOk X.prog X.w H s.heap kq (.tup (intsV z.2.1)) from I.hok kq _ ht)
    exact ⟨_, .tuple (ka _ _ hg) rfl rfl (.cons (.tuple (kb _ _ hok) hck hdk (by simpa using readsAll_nums _ its rvv)) (.cons (.str _ _) .nil)), by simp⟩
  · show PySem.W.alikeAll [.tuple _, .str _] [.tuple _, .str _] = true
    rw [PySem.W.alikeAll, PySem.W.alike, alike_nums]
    rfl
  · show X.A.units + 1 + 1 + PyData.depth (encL b) < cLine
    have : PyData.depth (encL b) ≤ 3 := by
      unfold encL
      simp [PyData.depth, PyData.depthAll, depth_nums]
    omega
  · have eo : out = ((as.zip rows).mergeSort (PySem.W.dataLe false encL)).map fun z => Value.ref z.1 := each_map_eq (fun z : Addr × LRow => Value.ref z.1) hout
    have pz : ((as.zip rows).mergeSort (PySem.W.dataLe false encL)).Perm (as.zip rows) := List.mergeSort_perm _ _
    generalize (as.zip rows).mergeSort (PySem.W.dataLe false encL) = zs at eo pz hout
    have idx : ∀ z ∈ zs, ∃ j : Nat, as[j]? = some z.1 ∧ rows[j]? = some z.2 := by
      intro z' hz'
      obtain ⟨j, hj⟩ := List.mem_iff_getElem?.mp (pz.mem_iff.mp hz')
      exact ⟨j, List.getElem?_zip_eq_some.mp hj⟩
    have hperm : (zs.map (·.2)).Perm rows := by
      have e := pz.map (·.2)
      have m2 : (as.zip rows).map (·.2) = rows := List.map_snd_zip (by rw [lak]; exact Nat.le_refl _)
      rw [m2] at e
      exact e
    have kF : ∀ b o, b ≠ h'.objs.size → h2.get? b = some o → (PyProof.Rows.sortedHeap h2 h'.objs.size (as.map Value.ref) out.toArray).get? b = some o := fun b o hb e => (PyProof.Rows.sortedHeap_old hb (Heap.lt_size e)).trans e
    have kS : ∀ b o, s.heap.get? b = some o → (PyProof.Rows.sortedHeap h2 h'.objs.size (as.map Value.ref) out.toArray).get? b = some o := fun b o e => kF b o (ne0 _ _ (hk b o e)) (kb b o e)
    obtain ⟨eF, heF⟩ := PyProof.Rows.sortedHeap_at (vs := as.map Value.ref) (out := out.toArray) hob
    have I1 : Inv X pins σ H { s with heap := PyProof.Rows.sortedHeap h2 h'.objs.size (as.map Value.ref) out.toArray, toks := tk } := I.kept (t' := tk) kS
    have hn0 : H h'.objs.size = none := I.hok.fresh (Nat.le_of_lt hlt)
    have hlen : (refsV (zs.map (·.1))).length ≤ sizeLine := by
      have e := pz.length_eq
      rw [refsV_length, List.length_map, e, ← zlen, List.length_map]
      omega
    have rvo : Vals (refsV (zs.map (·.1))) out := by
      rw [eo]
      unfold refsV
      rw [List.map_map]
      exact vals_maps (fun z : Addr × LRow => V.ref z.1) (fun z => Value.ref z.1) zs fun _ _ => rfl
    have I2 : Inv X pins σ (upd H h'.objs.size (.lst (refsV (zs.map (·.1))))) { s with heap := PyProof.Rows.sortedHeap h2 h'.objs.size (as.map Value.ref) out.toArray, toks := tk } :=
      I1.take (h' := PyProof.Rows.sortedHeap h2 h'.objs.size (as.map Value.ref) out.toArray) (t' := tk) (fun b ob _ e => e) (I.fpOk (Nat.le_of_lt hlt) hn0) ⟨hlen, out, eF, rvo, heF⟩
    obtain ⟨H2, I3, g, qt⟩ := DX.takeT (P := fun b vs => ∃ (j : Nat) (r : LRow) (kq : Addr), as[j]? = some b ∧ rows[j]? = some r ∧ vs = [.ref kq, .str (strOf r.2)] ∧ TupAt H kq r.1) I as _ I2 nd fun b hb => by
      obtain ⟨j, hj⟩ := List.mem_iff_getElem?.mp hb
      have hjr : j < rows.length := by
        have := (List.getElem?_eq_some_iff.mp hj).1
        omega
      obtain ⟨r, hrj⟩ : ∃ r, rows[j]? = some r := ⟨rows[j], by simp [hjr]⟩
      obtain ⟨kq, t, ht, hg⟩ := pr j b r hj hrj
      have hbl : s.heap.objs.size ≤ b := Nat.le_of_lt (hG.above b hb)
      refine ⟨hbl, ?_, [.ref kq, .str (strOf r.2)], ⟨j, r, kq, hj, hrj, rfl, ht⟩, fun H3 => ⟨line_big (n := 2) (by decide), [Value.ref kq, Value.str (strOf r.2) t], .cons rfl (.cons ⟨t, rfl⟩ .nil), ⟨_, kF _ _ (ne0 _ _ hg) (ka _ _ hg), rfl, 0, rfl⟩⟩⟩
      rw [upd_ne (ne0 _ _ hg)]
      exact I.hok.fresh hbl
    have gr : ∀ b o, H b = some o → H2 b = some o := fun b o e => g b o (by rw [upd_ne (ne_of_none e hn0)]; exact e)
    refine ⟨.ref h'.objs.size, H2, I3, rfl, q H2 h'.objs.size zs gr hn0 hperm (g _ _ upd_same) fun z' hz' => ?_⟩
    obtain ⟨i, i1, i2⟩ := idx z' hz'
    obtain ⟨vs, ⟨j, e, kq, j1, j2, ev, hkq⟩, hH⟩ := qt z'.1 (List.mem_of_getElem? i1)
    have eij : i = j := (List.getElem?_inj (List.getElem?_eq_some_iff.mp i1).1 nd).mp (i1.trans j1.symm)
    subst eij
    have ee : e = z'.2 := Option.some.inj (j2.symm.trans i2)
    rw [ev, ee] at hH
    rw [ee] at hkq
    exact ⟨kq, hH, gr _ _ hkq⟩
end
end K35
namespace K35
open PySem L2
theorem LooksOk.perm {p : Pat} {marks : List Pat} {rows rows' : List (List Nat × Line)} (h : LooksOk p marks rows) (q : rows'.Perm rows) : LooksOk p marks rows' :=
  ⟨fun r hr => h.real r (q.mem_iff.mp hr), fun w hw hf => let ⟨r, hr, x⟩ := h.least w hw hf; ⟨r, q.mem_iff.mpr hr, x⟩⟩
theorem RowsAre.tups {H H' : Hp} {xs : List NRow} {rows : List LRow} (e : Tups H H') (h : RowsAre H xs rows) : RowsAre H' xs rows := ⟨h.1, fun j x r hx hr => ⟨e _ _ (h.2 j x r hx hr).1, (h.2 j x r hx hr).2⟩⟩
theorem RowsAre.snoc {H : Hp} {xs : List NRow} {rows : List LRow} (h : RowsAre H xs rows) {k : NestedKey} {a : Addr} {r : LRow} (ht : TupAt H a r.1) : RowsAre H (xs ++ [(k, a, .str (strOf r.2))]) (rows ++ [r]) := by
  refine ⟨by rw [List.length_append, List.length_append, h.1]; rfl, fun j x r' hx hr => ?_⟩
  by_cases hj : j < xs.length
  · rw [List.getElem?_append_left hj] at hx
    rw [List.getElem?_append_left (by rw [← h.1]; exact hj)] at hr
    exact h.2 j x r' hx hr
  · rw [List.getElem?_append_right (by omega)] at hx
    rw [List.getElem?_append_right (by rw [← h.1]; omega)] at hr
    cases e : j - xs.length with
    | succ m => rw [e] at hx; simp at hx
    | zero =>
      rw [e] at hx
      rw [← h.1, e] at hr
      have e1 : x = (k, a, .str (strOf r.2)) := by simpa using hx.symm
      have e2 : r' = r := by simpa using hr.symm
      subst e1 e2
      exact ⟨ht, rfl⟩
theorem keysL_map {xs : List NRow} {rows : List LRow} (h : xs.map (·.1) = rows.map fun e => keyP e.1) (lk : List Nat) : (atN xs (keyP lk)).isSome = decide (lk ∈ rows.map (·.1)) := by
  have e : keyP lk ∈ xs.map (·.1) ↔ lk ∈ rows.map (·.1) := by
    rw [h]
    constructor
    · intro hm
      obtain ⟨x, hx, e⟩ := List.mem_map.mp hm
      exact List.mem_map.mpr ⟨x, hx, keyP_inj e⟩
    · intro hm
      obtain ⟨x, hx, e⟩ := List.mem_map.mp hm
      exact List.mem_map.mpr ⟨x, hx, by rw [e]⟩
  cases q : atN xs (keyP lk) with
  | none =>
    have := atN_none.mp q
    rw [e] at this
    exact (decide_eq_false this).symm
  | some p =>
    have : ¬ keyP lk ∉ xs.map (·.1) := fun z => by
      rw [atN_none.mpr z] at q
      cases q
    have := e.mp (Classical.not_not.mp this)
    exact (decide_eq_true this).symm
theorem formsOf_len : ∀ l : List Pat, (formsOf l).length ≤ 2 * l.length
  | [] => Nat.le_refl _
  | m :: l => by
    have ih := formsOf_len l
    show (List.flatMap Pat.forms (m :: l)).length ≤ _
    rw [List.flatMap_cons, List.length_append, List.length_cons]
    have h1 := pforms_pos m
    have h2 : (List.flatMap Pat.forms l).length ≤ 2 * l.length := ih
    omega
section
variable {P : Program} {w : World} {K : PySem.W.Frag} {mg : Str → Option Value} {base : Heap}
/-! ### looks -/
def LookAt (H : Hp) (z : Addr × LRow) : Prop := ∃ t, H z.1 = some (.tup [.ref t, .str (strOf z.2.2)]) ∧ TupAt H t z.2.1
def spLooks (T : Txt K mg) : Sp := fun vs H Q _ => ∃ (a l : Addr) (p : Pat) (marks : List Pat), vs = [.ref a, .ref l] ∧ PatAt T H a p ∧ PatsAt T H l marks ∧ marks.length ≤ 400 ∧ cellCount ((p.forms ++ formsOf marks).map cellsOf) ≤ 22 ∧
  ∀ (H' : Hp) (q : Addr) (zs : List (Addr × LRow)), Same H H' → H q = none → H' q = some (.lst (refsV (zs.map (·.1)))) → (∀ z ∈ zs, LookAt H' z ∧ z.2.2.length ≤ 4194304) → LooksOk p marks (zs.map (·.2)) → Q (.ref q) H'
theorem scLooks : FnScope ["pattern", "marks", "forms", "middle", "mark", "found", "line", "state", "told"] ["pattern", "marks"] (defScope (top 26)) := ⟨rfl, rfl, rfl, by decide +kernel, rfl, by decide +kernel, by decide +kernel⟩
theorem ok_looks (T : Txt K mg) : FnOk P w K mg base CX0 5 T.dLooks.f T.dLooks.fd ["pattern", "marks"] (spLooks T) := by
  have GS : FnOk P w K mg base CX0 4 T.dScanned.f T.dScanned.fd ["forms"] (spScanned T) := ok_scanned T
  have GT : FnOk P w K mg base CX0 2 T.dTruths.f T.dTruths.fd ["forms", "state"] (spTruths T) := ok_truths T
  have GL : FnOk P w K mg base CX0 3 T.dLookOf.f T.dLookOf.fd ["marks", "told"] (spLookOf T) := ok_look_of T
  refine T.dLooks.F.ok scLooks (fun vs H Q E h => ?_) (fun cdv A outer s H vs Q E hr h => ?_)
  · obtain ⟨a, l, p, marks, rfl, _⟩ := h
    rfl
  · obtain ⟨a, l, p, marks, rfl, hP, ⟨ms, hL, hMs⟩, hml, hcc, k⟩ := h
    have hr2 := hr.mono (show 2 ≤ 4 by decide)
    have hr3 := hr.mono (show 3 ≤ 4 by decide)
    refine ⟨_, pss_cons (ps_set (i := 2) scLooks.nd rfl (.inl rfl) (pe_formsP T 0 rfl rfl hr2 (pv 0)))
      (pss_cons (ps_set (i := 3) scLooks.nd rfl (.inl rfl) (pe_callB call_len_seq rfl T.zLen (by decide +kernel) (pa_cons (pv 2) pa_nil)))
      (pss_cons (ps_for PassesOwn.never rfl (pi_list (pv 1)) (pg_name (i := 4) scLooks.nd rfl (.inl rfl))
        (pss_one (ps_set (i := 2) scLooks.nd rfl (.inl rfl) (pe_op op_cat (pv 2) (pe_formsP T 4 rfl rfl hr2 (pv 4))))))
      (pss_cons (ps_set (i := 5) scLooks.nd rfl (.inl rfl) pe_dnewN)
      (pss_cons (ps_for PassesOwn.never rfl (pi_list (pe_call GS hr rfl T.dScanned.m T.dScanned.F.kp T.dScanned.b .nil pass0 (pa_cons (pv 2) pa_nil))) (pg_tup rfl (pgs_cons (pg_name (i := 6) scLooks.nd rfl (Or.inl rfl)) (pgs_cons (pg_name (i := 7) scLooks.nd rfl (Or.inl rfl)) pgs_nil)))
        (pss_cons (ps_set (i := 8) scLooks.nd rfl (.inl rfl) (pe_call GT hr2 rfl T.dTruths.m T.dTruths.F.kp T.dTruths.b .nil pass0 (pa_cons (pv 2) (pa_cons (pv 7) pa_nil))))
        (pss_one (ps_if (pt_val (pe_holdsP T 0 rfl rfl hr2 (pv 0) (pa_cons (pe_slice sl_list (pv 8) po_none (po_some (pv 3))) pa_nil)))
          (pss_one (ps_expr (pe_bmd PySem.F.plainAttrs_dict PySem.F.slot_dict_setdefault PySem.F.type_dict_setdefault (mt_setN hr) (pv 5)
            (pa_cons (pe_call GL hr3 rfl T.dLookOf.m T.dLookOf.F.kp T.dLookOf.b .nil pass0 (pa_cons (pv 1) (pa_cons (pe_slice sl_list (pv 8) (po_some (pv 3)) po_none) pa_nil))) (pa_cons (pv 6) pa_nil))))) pss_nil))))
      (pss_one (ps_ret (pe_callB (cr_sortedItemsN rfl hr) rfl T.zSorted (by decide +kernel) (pa_cons (pe_bmd0 PySem.F.plainAttrs_dict PySem.F.slot_dict_items PySem.F.type_dict_items mt_itemsN (pv 5)) pa_nil)))))))), ?_⟩
    refine ⟨a, p, rfl, hP, fun H1 f1 s1 hf1 hF1 => ?_⟩
    obtain ⟨fs1, hf1L, hf1A⟩ := hF1
    refine ⟨_, rfl, _, _, rfl, .inl (.inl (.inl hf1L)), ?_⟩
    have hn1 : (refsV fs1).length = p.forms.length := by rw [refsV_length, hf1A.length]
    refine ⟨_, rfl, l, rfl, ⟨_, .inl (.inl (s1 _ _ hL))⟩, for_it (walk_list (xs := refsV ms)) (fun i σ H2 => (∃ (f : Addr) (v4 : Option V), σ = [some (.ref a), some (.ref l), some (.ref f), some (.int ((refsV fs1).length : Nat)), v4, none, none, none, none] ∧ FormsAt T H2 f (p.forms ++ formsOf (marks.take i))) ∧ Same H H2)
      ⟨⟨f1, none, rfl, fs1, hf1L, by simpa [formsOf] using hf1A⟩, s1⟩ (fun i σ H2 _ q => .inl (.inl (q.2 _ _ hL))) ?_ ?_⟩
    · rintro i x σ H0 H2 hi ⟨⟨f, v4, rfl, fs, hfL, hfA⟩, s2⟩ ⟨rfl, hx⟩
      obtain ⟨b, hb, rfl⟩ := refsV_some hx
      obtain ⟨m, hm, hma⟩ := hMs.get hb
      refine ⟨_, rfl, b, m, rfl, hma.mono s2, fun H3 g s3 hg hG => ?_⟩
      obtain ⟨gs, hgL, hgA⟩ := hG
      have htl : (formsOf (marks.take i)).length ≤ 2 * marks.length := by
        have h1 := formsOf_len (marks.take i)
        have h2 : (marks.take i).length ≤ marks.length := by rw [List.length_take]; omega
        omega
      have hfl : fs.length ≤ 802 := by
        have h1 := hfA.length
        have h2 := pforms_pos p
        rw [List.length_append] at h1
        omega
      have hgl : gs.length ≤ 2 := by
        have h1 := hgA.length
        have h2 := pforms_pos m
        omega
      refine ⟨f, g, _, _, rfl, rfl, s3 _ _ hfL, hgL, ?_, fun f' hf' => ?_⟩
      · rw [refsV_length, refsV_length]
        exact line_big (by omega)
      have s4 := same_upd (o := .lst (refsV fs ++ refsV gs)) hf'
      refine ⟨⟨f', _, rfl, fs ++ gs, by rw [upd_same, refsV_app], ?_⟩, (s2.trans s3).trans s4⟩
      rw [formsOf_snoc hm, ← List.append_assoc]
      exact (hfA.imp fun c z q => FormAt.mono (s3.trans s4) q).app (hgA.imp fun c z q => FormAt.mono s4 q)
    rintro σ H2 ⟨⟨f, v4, rfl, hF⟩, s2⟩
    rw [refsV_length, show marks.take ms.length = marks by rw [hMs.length, List.take_length]] at hF
    generalize hfs : p.forms ++ formsOf marks = fs at hF hcc
    intro fd hfd
    have s3 : Same H2 (upd H2 fd (DNo P w fd [])) := same_upd hfd
    have hfl : fs.length ≤ 1000 := by
      rw [← hfs, List.length_append]
      have h1 := formsOf_len marks
      have h2 := pforms_pos p
      omega
    refine ⟨_, rfl, f, fs, rfl, hF.mono s3, hfl, hcc, fun H4 q es res s4 hq hqL hEs hscan hrl hlen => ?_⟩
    have s24 := s3.trans s4
    have hfdH : H fd = none := Same.free s2 hfd
    have ffn : H2 fd = none := hfd
    refine ⟨q, rfl, ⟨_, .inl (.inl hqL)⟩, for_it (walk_list (xs := refsV es)) (fun i σ H5 => ∃ (v6 v7 v8 : Option V) (xs : List NRow) (rows : List LRow), σ = [some (.ref a), some (.ref l), some (.ref f), some (.int ((refsV fs1).length : Nat)), v4, some (.ref fd), v6, v7, v8] ∧
        Same H2 H5 ∧ H5 q = some (.lst (refsV es)) ∧ AllAt (EntAt H5) es res ∧ H5 fd = some (DNo P w fd xs) ∧ KeysIn H5 xs ∧ RowsAre H5 xs rows ∧ xs.map (·.1) = rows.map (fun e => keyP e.1) ∧ LookInv p marks ((res.take i).map (·.1)) rows ∧ rows.length ≤ i)
      ⟨_, _, _, [], [], rfl, s24, hqL, hEs, s4 _ _ upd_same, fun x hx => (by simp at hx), ⟨rfl, fun j x r hx => by simp at hx⟩, rfl, LookInv.nil p marks, Nat.le_refl _⟩ (fun i σ H5 _ ⟨_, _, _, _, _, _, _, z, _⟩ => .inl (.inl z)) ?_ ?_⟩
    · rintro i x σ H0 H5 hi ⟨v6, v7, v8, xs, rows, rfl, s5, hqL, hEs, hD, hKI, hRA, hkeys, hLI, hri⟩ ⟨rfl, hx⟩
      obtain ⟨ea, hea, rfl⟩ := refsV_some hx
      obtain ⟨e, he, t, ht1, ht2⟩ := hEs.get hea
      have hem := List.mem_of_getElem? he
      obtain ⟨hline, hst⟩ := hscan.real e hem
      have hrl2 : i < es.length := by rw [refsV_length] at hi; exact hi
      have hel := hEs.length
      refine ⟨ea, _, rfl, .inl (.inl ht1), rfl, _, _, rfl, _, _, rfl, rfl, ?_⟩
      refine ⟨_, rfl, _, rfl, f, t, fs, e.1, rfl, hF.mono s5, hst ▸ ht2, hfl, fun H6 tl s6 htl htL => ?_⟩
      have s56 := s5.trans s6
      have hP6 := hP.mono (s2.trans s56)
      obtain ⟨C, dx, fl, hc, hC, _, n2⟩ := patAt_cls hP6
      have htV : H6 tl = some (.lst (toldV fs e.1)) := htL
      refine ⟨a, C, dx, fl, rfl, hc, hC, n2, _, rfl, _, rfl, _, rfl, tl, _, rfl, .inl (.inl htV), fun p1 hp1 => ?_⟩
      have hcut : cutV (toldV fs e.1) none (some ((refsV fs1).length : Nat)) = toldV p.forms e.1 := by
        rw [cut_to, hn1, ← hfs, toldV_app, List.take_left' (toldV_len _ _)]
      have hcut2 : cutV (toldV fs e.1) (some ((refsV fs1).length : Nat)) none = toldV (formsOf marks) e.1 := by
        rw [cut_from, hn1, ← hfs, toldV_app, List.drop_left' (toldV_len _ _)]
      rw [hcut]
      have s7 := same_upd (o := .lst (toldV p.forms e.1)) hp1
      have htk : (res.take (i + 1)).map (·.1) = (res.take i).map (·.1) ++ [e.1] := by rw [take_snoc he, List.map_append]; rfl
      have hlt : ∀ u ∈ (res.take i).map (·.1), less u e.1 := by
        intro u hu
        obtain ⟨e', he', rfl⟩ := List.mem_map.mp hu
        obtain ⟨j, hj⟩ := List.mem_iff_getElem?.mp he'
        have hji : j < i := by
          have := (List.getElem?_eq_some_iff.mp hj).1
          rw [List.length_take] at this
          omega
        rw [List.getElem?_take_of_lt hji] at hj
        obtain ⟨l1, e1⟩ := List.getElem?_eq_some_iff.mp hj
        obtain ⟨l2, e2⟩ := List.getElem?_eq_some_iff.mp he
        have := (List.pairwise_iff_getElem.mp hscan.sorted) j i l1 l2 hji
        rw [e1, e2] at this
        exact this
      have hLI2 := hLI.step hlt
      unfold lookStep at hLI2
      rw [← htk] at hLI2
      refine ⟨a, p1, dx, fl, p, p.forms.map fun g => fitsF g e.1, rfl, s7 _ _ hc, hP6.mono s7, .inl (.inl upd_same), List.length_map .., fun H8 s8 => ?_⟩
      rw [holds_fits]
      have s58 := (s6.trans s7).trans s8
      have hD8 := s58 _ _ hD
      have hq8 := s58 _ _ hqL
      refine ⟨_, rfl, ?_⟩
      refine ite2 (fun c1 => ?_) (fun c1 => ?_)
      · rw [if_pos c1] at hLI2
        have htV8 := s8 _ _ (s7 _ _ htV)
        refine ⟨_, rfl, ⟨fd, xs, rfl, hD8⟩, _, rfl, _, rfl, _, rfl, _, rfl, tl, _, rfl, .inl (.inl htV8), fun p2 hp2 => ?_⟩
        rw [hcut2]
        have s9 := same_upd (o := .lst (toldV (formsOf marks) e.1)) hp2
        have s29 := ((s2.trans s5).trans s58).trans s9
        refine ⟨l, p2, marks, e.1, rfl, ⟨ms, s29 _ _ hL, hMs.imp fun c z q => q.mono s29⟩, .inl (.inl upd_same), by omega, fun H10 lk s10 hlk10 hlkT => ?_⟩
        have s510 := (s58.trans s9).trans s10
        have hD10 := s510 _ _ hD
        have hKI10 := hKI.mono (tups_same s510)
        have hRA10 := hRA.tups (tups_same s510)
        have hxr : xs.length = rows.length := hRA.1
        refine ⟨_, rfl, fd, lk, _, _, xs, rfl, rfl, keyIs_tup hlkT, Nat.le_trans (keyP_depth _) (by decide), hD10, hKI10, line_lt (by omega), fun p3 hp3 => ?_, fun hn3 => ?_⟩
        · have hm := keysL_map hkeys (lookW marks e.1)
          rw [hp3] at hm
          rw [if_pos (of_decide_eq_true hm.symm)] at hLI2
          exact ⟨_, _, _, xs, rows, rfl, s5.trans s510, s510 _ _ hqL, hEs.imp fun c z q => q.tups (tups_same s510), hD10, hKI10, hRA10, hkeys, hLI2, by omega⟩
        · have hm := keysL_map hkeys (lookW marks e.1)
          rw [hn3] at hm
          rw [if_neg (of_decide_eq_false hm.symm)] at hLI2
          have tu : ∀ o, Tups H10 (upd H10 fd o) := fun o => tups_upd hD10 fun vs => DNo.ne_tup
          have nq : q ≠ fd := fun z => by
            have hz := s510 _ _ hqL
            rw [z, hD10] at hz
            unfold DNo at hz
            cases hz
          refine ⟨_, _, _, xs ++ [(keyP (lookW marks e.1), lk, .str (strOf e.1))], rows ++ [(lookW marks e.1, e.1)], rfl, same_over (s5.trans s510) ffn, (upd_ne nq).trans (s510 _ _ hqL), hEs.imp fun c z q => q.tups ((tups_same s510).trans (tu _)), upd_same, ?_, ?_, ?_, hLI2, ?_⟩
          · intro x hx
            rcases List.mem_append.mp hx with hx | hx
            · exact hKI10.mono (tu _) x hx
            · obtain rfl := List.mem_singleton.mp hx
              exact ⟨keyIs_tup (tu _ _ _ hlkT), Nat.le_trans (keyP_depth _) (by decide)⟩
          · exact (hRA10.tups (tu _)).snoc (r := (lookW marks e.1, e.1)) (tu _ _ _ hlkT)
          · rw [List.map_append, List.map_append, hkeys]
            rfl
          · rw [List.length_append]
            show rows.length + 1 ≤ _
            omega
      · rw [if_neg c1] at hLI2
        exact ⟨_, _, _, xs, rows, rfl, s5.trans s58, hq8, hEs.imp fun c z q => q.tups (tups_same s58), hD8, hKI.mono (tups_same s58), hRA.tups (tups_same s58), hkeys, hLI2, by omega⟩
    · rintro σ H5 ⟨v6, v7, v8, xs, rows, rfl, s5, hqL, hEs, hD, hKI, hRA, hkeys, hLI, hri⟩
      rw [refsV_length, show res.take es.length = res by rw [hEs.length, List.take_length]] at hLI
      have hlk : LooksOk p marks rows := by
        refine LookInv.looks hscan (fun g hg => ?_) (fun m hm g hg => ?_) hLI
        · rw [← hfs]
          exact List.mem_map.mpr ⟨g, List.mem_append_left _ hg, rfl⟩
        · rw [← hfs]
          exact List.mem_map.mpr ⟨g, List.mem_append_right _ (List.mem_flatMap.mpr ⟨m, hm, hg⟩), rfl⟩
      refine ⟨_, rfl, ⟨fd, xs, rfl, hD⟩, fd, xs, rfl, rfl, hD, hKI, fun v hv => ?_⟩
      have s6 := same_upd (o := DX.itemsO v fd) hv
      refine ⟨v, fd, xs, rows, rfl, upd_same, s6 _ _ hD, hKI.mono (tups_same s6), hRA.tups (tups_same s6), fun H7 r zs s7 hr7 hperm hzL hzs => ?_⟩
      refine k H7 r zs (((s2.trans s5).trans s6).trans s7) (Same.free s2 (Same.free s5 (Same.free s6 hr7))) hzL (fun z hz => ?_) (hlk.perm hperm)
      have hz2 := (hLI.real z.2 (hperm.mem_iff.mp (List.mem_map.mpr ⟨z, hz, rfl⟩))).1
      obtain ⟨e, he, e2⟩ := List.mem_map.mp hz2
      exact ⟨hzs z hz, e2 ▸ hlen e he⟩
end
end K35
namespace K35
open PySem L2
/-! ### sorted(best): keys are pairs of truth values -/
def faceV (f : Face) : List V := [.bl f.1, .bl f.2]
def FaceTup (H : Hp) (a : Addr) (f : Face) : Prop := H a = some (.tup (faceV f))
def keyF (f : Face) : NestedKey := .tup [.num (if f.1 = true then 1 else 0), .num (if f.2 = true then 1 else 0)]
theorem keyF_inj {f g : Face} (h : keyF f = keyF g) : f = g := by
  obtain ⟨a, b⟩ := f
  obtain ⟨c, d⟩ := g
  have h2 := NestedKey.tup.inj h
  injection h2 with h3 h4
  injection h4 with h4 _
  have h5 := NestedKey.num.inj h3
  have h6 := NestedKey.num.inj h4
  cases a <;> cases b <;> cases c <;> cases d <;> simp at h5 h6 ⊢
theorem keyF_depth (f : Face) : (keyF f).depth ≤ 8 := by simp [keyF, NestedKey.depth, NestedKey.depthAll]
theorem keyIs_face {H : Hp} {a : Addr} {f : Face} (h : FaceTup H a f) : KeyIs H (.ref a) (keyF f) := .tup h (.cons (.bl _) (.cons (.bl _) .nil))
def encF (z : Addr × Face) : PyData := .tuple [.bool z.2.1, .bool z.2.2]
theorem dataLt_face (f g : Face) : PySem.W.dataLt (.tuple [.bool f.1, .bool f.2]) (.tuple [.bool g.1, .bool g.2]) = decide (code f < code g) := by
  obtain ⟨a, b⟩ := f
  obtain ⟨c, d⟩ := g
  rw [PySem.W.dataLt_pair rfl rfl, PySem.W.dataLt_bool, PySem.W.dataLt_bool]
  cases a <;> cases b <;> cases c <;> cases d <;> simp [PyData.eqv, code, PyProof.Rows.b2i]
theorem dataLe_face (y z : Addr × Face) : PySem.W.dataLe false encF y z = decide (code y.2 ≤ code z.2) := by
  rw [PySem.W.dataLe_eq]
  show (!PySem.W.dataLt (encF z) (encF y)) = _
  unfold encF
  rw [dataLt_face z.2 y.2]
  by_cases h : code z.2 < code y.2
  · rw [decide_eq_true h, decide_eq_false (by omega)]; rfl
  · rw [decide_eq_false h, decide_eq_true (by omega)]; rfl
section
variable {X : Cx} {pins : List (Addr × Obj)} {σ : St} {H : Hp} {s : Shared}
theorem cr_sortedKeysN {n : Nat} (hc : X.calm = true) (hr : Room n X.A) : CallR X (.builtin "sorted") (fun vs H Q => ∃ (d : Addr) (xs : List NRow) (fs : List Face), vs = [.ref d] ∧ H d = some (DNo X.prog X.w d xs) ∧ KeysIn H xs ∧ xs.length = fs.length ∧
    (∀ (j : Nat) (x : NRow) (f : Face), xs[j]? = some x → fs[j]? = some f → FaceTup H x.2.1 f) ∧
    ∀ (H' : Hp) (l : Addr) (zs : List (Addr × Face)), Same H H' → H l = none → (zs.map (·.2)).Perm fs → (zs.map (·.2)).Pairwise (fun f g => code f ≤ code g) → H' l = some (.lst (refsV (zs.map (·.1)))) → (∀ z ∈ zs, FaceTup H' z.1 z.2) → Q (.ref l) H') := by
  intro pins s σ H vs us Q I rv h
  obtain ⟨d, xs, fs, rfl, ha, hks, hrl, hrows, q⟩ := h
  obtain rfl := Vals.ref1 rv
  obtain ⟨hS, hxl, us, rel, o, es, ep, ho, hx, hdat, hes, his, hn⟩ := dno_of I ha hks
  have l1 : xs.length = us.length := Paired.length rel
  have l2 : es.size = us.length := size_of_entries hes
  have hh : X.A.handled = none := I.ok.hd hc
  have hu8 : X.A.units + 8 < cLine := by have := hr.un; omega
  refine Calls.call_function_entry PyProof.Rows.kind_sorted PyProof.Rows.plain_sorted PyProof.Rows.entry_sorted (PyProof.Rows.args_sorted1 _) ?_
  unfold Builtin.«sorted»
  refine wpAny_bind (m := checkCount "sorted" 1 1 _) (wpAny_pure ?_)
  refine wpAny_bind (PySem.W.kdu_collect (A := X.A.in1) (KdlSrc.rawDict (es := es) (ep := ep) hS) hh ⟨o, ho, hx, hdat⟩ (by omega) fun h' tk acc hk hacc => ?_)
  have hal : acc.toList.length = us.length := by rw [Array.length_toList, hacc.1, l2]
  have hat : ∀ (j : Nat) (v : Value), acc.toList[j]? = some v → ∃ x : NRow, xs[j]? = some x ∧ v = .ref x.2.1 := by
    intro j v hv
    obtain ⟨hi, e⟩ := hacc.2 j v (by rw [← Array.getElem?_toList]; exact hv)
    have hjx : j < xs.length := by omega
    obtain ⟨x, hxj⟩ : ∃ x, xs[j]? = some x := ⟨xs[j], by simp [hjx]⟩
    obtain ⟨u, huj, r1, r2, r3⟩ := paired_get rel hxj
    have he := entry_at hes j
    rw [huj, Array.getElem?_eq_getElem hi] at he
    have een : es[j] = entryOfKey (nestedKind X.prog X.w) u := Option.some.inj he
    refine ⟨x, hxj, ?_⟩
    rw [e, een, r2]
    rfl
  have eacc : acc.toList = (xs.map (·.2.1)).map Value.ref := by
    refine List.ext_getElem? fun j => ?_
    cases e : acc.toList[j]? with
    | none =>
      have hj := List.getElem?_eq_none_iff.mp e
      rw [List.getElem?_eq_none (by rw [List.length_map, List.length_map]; omega)]
    | some v =>
      obtain ⟨x, hxj, rfl⟩ := hat j v e
      rw [List.getElem?_map, List.getElem?_map, hxj]
      rfl
  rw [eacc]
  refine wpAny_bind (wpAny_newList ?_ (by rw [List.length_map, List.length_map]; omega))
  refine wpAny_bind (wpAny_holding (wpAny_mono (Q := fun _ s' => EP X pins σ Q (.ref h'.objs.size) s') ?_ (fun _ s' x => ?_) fun _ _ e => e))
  rotate_left
  · exact wpAny_pure ⟨_, rfl, x⟩
  have hob : (h'.push { cls := .type "list", data := .seq ((xs.map (·.2.1)).map Value.ref).toArray }).get? h'.objs.size = some (PyProof.Rows.seqObj "list" ((xs.map (·.2.1)).map Value.ref).toArray 0) := Heap.get?_push_size _ rfl
  have kb : ∀ b o, s.heap.get? b = some o → (h'.push { cls := .type "list", data := .seq ((xs.map (·.2.1)).map Value.ref).toArray }).get? b = some o := fun b o e => Heap.get?_push_of_some _ (hk b o e)
  have ne0 : ∀ b o, h'.get? b = some o → b ≠ h'.objs.size := fun b o e => Nat.ne_of_lt (Heap.lt_size e)
  have I0 : Inv X pins σ H { s with heap := h', toks := tk } := I.kept (t' := tk) hk
  generalize hh2 : h'.push { cls := .type "list", data := .seq ((xs.map (·.2.1)).map Value.ref).toArray } = h2 at hob kb
  have ka : ∀ b o, h'.get? b = some o → h2.get? b = some o := fun b o e => by rw [← hh2]; exact Heap.get?_push_of_some _ e
  have lak : (xs.map (·.2.1)).length = fs.length := by rw [List.length_map]; exact hrl
  have zlen : ((xs.map (·.2.1)).map Value.ref).length = ((xs.map (·.2.1)).zip fs).length := by rw [List.length_map, List.length_zip]; omega
  have zat : ∀ (j : Nat) (v : Value) (z : Addr × Face), ((xs.map (·.2.1)).map Value.ref)[j]? = some v → ((xs.map (·.2.1)).zip fs)[j]? = some z → v = .ref z.1 ∧ FaceTup H z.1 z.2 := by
    intro j v z hv hz
    obtain ⟨h1, h2⟩ := List.getElem?_zip_eq_some.mp hz
    rw [List.getElem?_map, h1] at hv
    rw [List.getElem?_map] at h1
    obtain ⟨x, hx1, hx2⟩ := Option.map_eq_some_iff.mp h1
    exact ⟨(Option.some.inj hv).symm, hx2 ▸ hrows j x z.2 hx1 h2⟩
  have zin : ∀ z ∈ (xs.map (·.2.1)).zip fs, FaceTup H z.1 z.2 := fun z hz => by
    obtain ⟨j, hj⟩ := List.mem_iff_getElem?.mp hz
    obtain ⟨h1, _⟩ := List.getElem?_zip_eq_some.mp hj
    exact (zat j (.ref z.1) z (by rw [List.getElem?_map, h1]; rfl) hj).2
  show wpAny _ X.A.in1 (call (.builtin "list.sort") [.ref h'.objs.size]) _ _ { s with heap := h2, toks := tk }
  refine PySem.W.list_sort_data (s := { s with heap := h2, toks := tk }) (enc := encF) (R := fun v (z : Addr × Face) => v = .ref z.1) (vs := (xs.map (·.2.1)).map Value.ref) (bs := (xs.map (·.2.1)).zip fs) hob (each_of zlen fun j v z hv hz => (zat j v z hv hz).1) (each_of zlen fun j v z hv hz => ?_)
    (PySem.W.AllAlike.of fun b b' => rfl) (PySem.W.Sortable.tuples fun b => ⟨_, _, rfl⟩) (by rw [← zlen, List.length_map, List.length_map]; omega) (fun b _ => ?_) fun out hol hout => ?_
  · obtain ⟨rfl, hf⟩ := zat j v z hv hz
    obtain ⟨_, its, rvv, ok, hok, hck, nk, hdk⟩ := (show ObjOk X.prog X.w H s.heap z.1 (.tup (faceV z.2)) from I.hok z.1 _ hf)
    obtain ⟨u, v2, rfl, r1, r2⟩ := vals_two rvv
    cases r1
    cases r2
    exact ⟨_, .tuple (kb _ _ hok) hck hdk (.cons (.bool _) (.cons (.bool _) .nil)), by simp⟩
  · show X.A.units + 1 + 1 + PyData.depth (encF b) < cLine
    have : PyData.depth (encF b) ≤ 3 := by
      unfold encF
      simp [PyData.depth, PyData.depthAll]
    omega
  · have eo : out = (((xs.map (·.2.1)).zip fs).mergeSort (PySem.W.dataLe false encF)).map fun z => Value.ref z.1 := each_map_eq (fun z : Addr × Face => Value.ref z.1) hout
    have pz : (((xs.map (·.2.1)).zip fs).mergeSort (PySem.W.dataLe false encF)).Perm ((xs.map (·.2.1)).zip fs) := List.mergeSort_perm _ _
    have ps : (((xs.map (·.2.1)).zip fs).mergeSort (PySem.W.dataLe false encF)).Pairwise (fun a b => PySem.W.dataLe false encF a b) := by
      refine List.pairwise_mergeSort (fun a b c h1 h2 => ?_) (fun a b => ?_) _
      · rw [dataLe_face] at h1 h2 ⊢
        have h1 := of_decide_eq_true h1
        have h2 := of_decide_eq_true h2
        exact decide_eq_true (by omega)
      · rw [dataLe_face, dataLe_face]
        by_cases h : code a.2 ≤ code b.2
        · rw [decide_eq_true h]; rfl
        · rw [decide_eq_true (show code b.2 ≤ code a.2 by omega), Bool.or_true]
    generalize ((xs.map (·.2.1)).zip fs).mergeSort (PySem.W.dataLe false encF) = zs at eo pz hout ps
    have hperm : (zs.map (·.2)).Perm fs := by
      have e := pz.map (·.2)
      have m2 : ((xs.map (·.2.1)).zip fs).map (·.2) = fs := List.map_snd_zip (by rw [lak]; exact Nat.le_refl _)
      rw [m2] at e
      exact e
    have hsort : (zs.map (·.2)).Pairwise (fun f g => code f ≤ code g) := by
      rw [List.pairwise_map]
      refine ps.imp fun {a b} h => ?_
      rw [dataLe_face] at h
      exact of_decide_eq_true h
    have kF : ∀ b o, b ≠ h'.objs.size → h2.get? b = some o → (PyProof.Rows.sortedHeap h2 h'.objs.size ((xs.map (·.2.1)).map Value.ref) out.toArray).get? b = some o := fun b o hb e => (PyProof.Rows.sortedHeap_old hb (Heap.lt_size e)).trans e
    obtain ⟨eF, heF⟩ := PyProof.Rows.sortedHeap_at (vs := (xs.map (·.2.1)).map Value.ref) (out := out.toArray) hob
    have fin : ∀ (h3 : Heap), (∀ b o, b ≠ h'.objs.size → h2.get? b = some o → h3.get? b = some o) → h3.get? h'.objs.size = some (PyProof.Rows.seqObj "list" out.toArray eF) → EP X pins σ Q (.ref h'.objs.size) { s with heap := h3, toks := tk } := by
      intro h3 kF heF
      have hn0 : H h'.objs.size = none := I0.hok.fresh (Nat.le_refl _)
      have hlen : (refsV (zs.map (·.1))).length ≤ sizeLine := by
        have e := pz.length_eq
        rw [refsV_length, List.length_map, e, ← zlen, List.length_map, List.length_map]
        omega
      have rvo : Vals (refsV (zs.map (·.1))) out := by
        rw [eo]
        unfold refsV
        rw [List.map_map]
        exact vals_maps (fun z : Addr × Face => V.ref z.1) (fun z => Value.ref z.1) zs fun _ _ => rfl
      have kk : ∀ b ob, b ≠ h'.objs.size → ({ s with heap := h', toks := tk } : Shared).heap.get? b = some ob → h3.get? b = some ob := fun b ob hb e => kF b ob hb (ka b ob e)
      have ok3 : ObjOk X.prog X.w (upd H h'.objs.size (.lst (refsV (zs.map (·.1))))) h3 h'.objs.size (.lst (refsV (zs.map (·.1)))) := ⟨hlen, out, eF, rvo, heF⟩
      have I2 : Inv X pins σ (upd H h'.objs.size (.lst (refsV (zs.map (·.1))))) { s with heap := h3, toks := tk } := I0.take (h' := h3) (t' := tk) kk (I0.fpOk (Nat.le_refl _) hn0) ok3
      have s1 : Same H (upd H h'.objs.size (.lst (refsV (zs.map (·.1))))) := same_upd hn0
      exact ⟨.ref h'.objs.size, _, I2, rfl, q _ h'.objs.size zs s1 hn0 hperm hsort upd_same fun z hz => s1 _ _ (zin z (pz.mem_iff.mp hz))⟩
    exact fin _ kF heF
end
end K35
namespace K35
open PySem L2
/-! ### rows of best -/
def FRows (H : Hp) (xs : List NRow) (best : List (Face × Line)) : Prop := xs.length = best.length ∧ ∀ (j : Nat) (x : NRow) (b : Face × Line), xs[j]? = some x → best[j]? = some b → FaceTup H x.2.1 b.1 ∧ x.1 = keyF b.1 ∧ x.2.2 = .str (strOf b.2)
theorem FRows.tups {H H' : Hp} {xs : List NRow} {best : List (Face × Line)} (e : Tups H H') (h : FRows H xs best) : FRows H' xs best := ⟨h.1, fun j x r hx hr => ⟨e _ _ (h.2 j x r hx hr).1, (h.2 j x r hx hr).2⟩⟩
theorem FRows.keys {H : Hp} {xs : List NRow} {best : List (Face × Line)} (h : FRows H xs best) : xs.map (·.1) = best.map fun b => keyF b.1 := by
  refine List.ext_getElem? fun j => ?_
  rw [List.getElem?_map, List.getElem?_map]
  by_cases hj : j < xs.length
  · have h1 : xs[j]? = some xs[j] := by simp [hj]
    have hj2 : j < best.length := by rw [← h.1]; exact hj
    have h2 : best[j]? = some best[j] := by simp [hj2]
    rw [h1, h2]
    exact congrArg some (h.2 j _ _ h1 h2).2.1
  · rw [List.getElem?_eq_none (by omega), List.getElem?_eq_none (by have := h.1; omega)]
    rfl
theorem FRows.at_ {H : Hp} {xs : List NRow} {best : List (Face × Line)} (h : FRows H xs best) (f : Face) : (atN xs (keyF f) = none ∧ f ∉ best.map (·.1)) ∨ ∃ p b, atN xs (keyF f) = some p ∧ b ∈ best ∧ b.1 = f ∧ p.2 = .str (strOf b.2) := by
  cases q : atN xs (keyF f) with
  | none =>
    refine .inl ⟨rfl, fun hm => ?_⟩
    have := atN_none.mp q
    rw [h.keys] at this
    obtain ⟨b, hb, e⟩ := List.mem_map.mp hm
    exact this (List.mem_map.mpr ⟨b, hb, by rw [e]⟩)
  | some p =>
    refine .inr ?_
    have hm := atN_some q
    obtain ⟨j, hj⟩ := List.mem_iff_getElem?.mp hm
    have hjl : j < best.length := by
      have := (List.getElem?_eq_some_iff.mp hj).1
      have := h.1
      omega
    have h2 : best[j]? = some best[j] := by simp [hjl]
    obtain ⟨_, e1, e2⟩ := h.2 j _ _ hj h2
    exact ⟨p, best[j], rfl, List.mem_of_getElem? h2, (keyF_inj e1).symm, e2⟩
theorem FRows.snoc {H : Hp} {xs : List NRow} {best : List (Face × Line)} (h : FRows H xs best) {a : Addr} {b : Face × Line} (ht : FaceTup H a b.1) : FRows H (xs ++ [(keyF b.1, a, .str (strOf b.2))]) (best ++ [b]) := by
  refine ⟨by rw [List.length_append, List.length_append, h.1]; rfl, fun j x r' hx hr => ?_⟩
  by_cases hj : j < xs.length
  · rw [List.getElem?_append_left hj] at hx
    rw [List.getElem?_append_left (by rw [← h.1]; exact hj)] at hr
    exact h.2 j x r' hx hr
  · rw [List.getElem?_append_right (by omega)] at hx
    rw [List.getElem?_append_right (by rw [← h.1]; omega)] at hr
    cases e : j - xs.length with
    | succ m => rw [e] at hx; simp at hx
    | zero =>
      rw [e] at hx
      rw [← h.1, e] at hr
      have e1 : x = (keyF b.1, a, .str (strOf b.2)) := by simpa using hx.symm
      have e2 : r' = b := by simpa using hr.symm
      subst e1 e2
      exact ⟨ht, rfl, rfl⟩
theorem FRows.over {H : Hp} {xs : List NRow} {best : List (Face × Line)} (h : FRows H xs best) (f : Face) (l : Line) : FRows H (xs.map fun x => if x.1 = keyF f then (x.1, x.2.1, .str (strOf l)) else x) (best.map fun b => if b.1 = f then (b.1, l) else b) := by
  refine ⟨by rw [List.length_map, List.length_map]; exact h.1, fun j x r hx hr => ?_⟩
  rw [List.getElem?_map] at hx hr
  obtain ⟨x0, hx0, rfl⟩ := Option.map_eq_some_iff.mp hx
  obtain ⟨r0, hr0, rfl⟩ := Option.map_eq_some_iff.mp hr
  obtain ⟨e1, e2, e3⟩ := h.2 j x0 r0 hx0 hr0
  by_cases hf : r0.1 = f
  · rw [if_pos hf, if_pos (by rw [e2, hf])]
    exact ⟨e1, e2, rfl⟩
  · rw [if_neg hf, if_neg (fun z => hf (keyF_inj (e2.symm.trans z)))]
    exact ⟨e1, e2, e3⟩
theorem KeysIn.over {H : Hp} {xs : List NRow} (h : KeysIn H xs) (k : NestedKey) (v : V) : KeysIn H (xs.map fun x => if x.1 = k then (x.1, x.2.1, v) else x) := by
  intro x hx
  obtain ⟨y, hy, rfl⟩ := List.mem_map.mp hx
  by_cases hk : y.1 = k
  · rw [if_pos hk]
    exact h y hy
  · rw [if_neg hk]
    exact h y hy
theorem BestInv.len {many : Nat} {pre : List (List Nat × Line)} {best : List (Face × Line)} (I : BestInv many pre best) : best.length ≤ 4 := by
  have := nodup_len _ faces4 I.nodup fun f _ => mem_faces4 f
  rwa [List.length_map] at this
section
variable {P : Program} {w : World} {K : PySem.W.Frag} {mg : Str → Option Value} {base : Heap}
/-! ### is_less -/
def spIsLess : Sp := fun vs H Q _ => ∃ (a b : Line), vs = [.str (strOf a), .str (strOf b)] ∧ a.length ≤ 16777216 ∧ b.length ≤ 16777216 ∧ ∀ H' : Hp, Same H H' → Q (.bl (lessB a b)) H'
theorem scIsLess : FnScope ["line", "other"] ["line", "other"] (defScope (top 28)) := ⟨rfl, rfl, rfl, by decide +kernel, rfl, by decide +kernel, by decide +kernel⟩
theorem ok_is_less (T : Txt K mg) : FnOk P w K mg base CX0 1 T.dIsLess.f T.dIsLess.fd ["line", "other"] spIsLess := by
  refine T.dIsLess.F.ok scIsLess (fun vs H Q E h => ?_) (fun cdv A outer s H vs Q E hr h => ?_)
  · obtain ⟨a, b, rfl, _⟩ := h
    rfl
  · obtain ⟨a, b, rfl, ha, hb, k⟩ := h
    refine ⟨_, pss_one (ps_ret (pe_cmpR (op_ltIS hr) (pe_tup (pa_cons (pe_callB call_len_str rfl T.zLen (by decide +kernel) (pa_cons (pv 0) pa_nil)) (pa_cons (pv 0) pa_nil)))
      (pe_tup (pa_cons (pe_callB call_len_str rfl T.zLen (by decide +kernel) (pa_cons (pv 1) pa_nil)) (pa_cons (pv 1) pa_nil))) (nomark _))), ?_⟩
    refine ⟨_, rfl, _, rfl, (by rw [strOf_len]; exact line_big ha), _, rfl, line_big (n := 2) (by decide), fun p hp => ?_⟩
    refine ⟨_, rfl, _, rfl, (by rw [strOf_len]; exact line_big hb), _, rfl, line_big (n := 2) (by decide), fun q hq => ?_⟩
    have s1 := same_upd (o := .tup [.int ((strOf a).length : Nat), .str (strOf a)]) hp
    have s2 := same_upd (o := .tup [.int ((strOf b).length : Nat), .str (strOf b)]) hq
    refine ⟨p, q, _, _, _, _, rfl, rfl, s2 _ _ upd_same, upd_same, ?_⟩
    rw [strOf_len, strOf_len, lessIS_eq]
    have := k _ (s1.trans s2)
    rw [strOf_len, strOf_len] at this
    exact this
/-! ### begins, ends -/
def RuleAt (T : Txt K mg) (H : Hp) (r : Addr) (bs es : List Pat) : Prop := ∃ dx o c d, H r = some (.ins T.cRule.C dx [("openers", .ref o), ("closers", .ref c), ("settings", .ref d)]) ∧ PatsAt T H o bs ∧ PatsAt T H c es
theorem RuleAt.mono {T : Txt K mg} {H H' : Hp} {r : Addr} {bs es : List Pat} (e : Same H H') (h : RuleAt T H r bs es) : RuleAt T H' r bs es := by
  obtain ⟨dx, o, c, d, h1, h2, h3⟩ := h
  exact ⟨dx, o, c, d, e _ _ h1, h2.mono e, h3.mono e⟩
theorem three_no {x y z m : Str} {v u t : V} (h : ¬ m = x) (h2 : ¬ m = y) (h3 : ¬ m = z) : ([(x, v), (y, u), (z, t)] : List (Str × V)).lookup m = none := by
  have e1 : (m == x) = false := beq_eq_false_iff_ne.mpr h
  have e2 : (m == y) = false := beq_eq_false_iff_ne.mpr h2
  have e3 : (m == z) = false := beq_eq_false_iff_ne.mpr h3
  simp [List.lookup, e1, e2, e3]
theorem flds_openers (b c d : Addr) : ([("openers", V.ref b), ("closers", V.ref c), ("settings", V.ref d)] : List (Str × V)).lookup ("openers" : Str) = some (.ref b) := by simp [List.lookup]
theorem flds_closers (b c d : Addr) : ([("openers", V.ref b), ("closers", V.ref c), ("settings", V.ref d)] : List (Str × V)).lookup ("closers" : Str) = some (.ref c) := by
  have e1 : (("closers" : Str) == ("openers" : Str)) = false := by decide +kernel
  simp [List.lookup, e1]
def spBegins (T : Txt K mg) : Sp := fun vs H Q _ => ∃ (r : Addr) (bs es : List Pat), vs = [.ref r] ∧ RuleAt T H r bs es ∧ ∀ (H' : Hp) (l : Addr), Same H H' → H l = none → PatsAt T H' l bs → Q (.ref l) H'
def spEnds (T : Txt K mg) : Sp := fun vs H Q _ => ∃ (r : Addr) (bs es : List Pat), vs = [.ref r] ∧ RuleAt T H r bs es ∧ ∀ (H' : Hp) (l : Addr), Same H H' → H l = none → PatsAt T H' l es → Q (.ref l) H'
theorem scBegins : FnScope ["self"] ["self"] (defScope (inClass (top 50) 10)) := ⟨rfl, rfl, rfl, by decide +kernel, rfl, by decide +kernel, by decide +kernel⟩
theorem scEnds : FnScope ["self"] ["self"] (defScope (inClass (top 50) 11)) := ⟨rfl, rfl, rfl, by decide +kernel, rfl, by decide +kernel, by decide +kernel⟩
theorem ok_begins (T : Txt K mg) : FnOk P w K mg base CX0 1 T.rBegins.f T.rBegins.fd ["self"] (spBegins T) := by
  refine T.rBegins.F.ok scBegins (fun vs H Q E h => ?_) (fun cdv A outer s H vs Q E hr h => ?_)
  · obtain ⟨r, bs, es, rfl, _⟩ := h
    rfl
  · obtain ⟨r, bs, es, rfl, ⟨dx, o, c, d, hR, ⟨as, hO, hOs⟩, hC⟩, k⟩ := h
    refine ⟨_, pss_one (ps_ret (pe_callTy call_list_of rfl T.zList (by decide +kernel) (pa_cons (pe_fld (pv 0) rfl) pa_nil))), ?_⟩
    refine ⟨_, rfl, r, _, dx, _, _, rfl, hR, T.cRule.cl, T.nRuleOpeners, flds_openers o c d, o, _, rfl, .inl (.inl (.inl hO)), fun l hl => ?_⟩
    have s1 := same_upd (o := .lst (refsV as)) hl
    exact k _ l s1 hl ⟨as, upd_same, hOs.imp fun a x q => q.mono s1⟩
theorem ok_ends (T : Txt K mg) : FnOk P w K mg base CX0 1 T.rEnds.f T.rEnds.fd ["self"] (spEnds T) := by
  refine T.rEnds.F.ok scEnds (fun vs H Q E h => ?_) (fun cdv A outer s H vs Q E hr h => ?_)
  · obtain ⟨r, bs, es, rfl, _⟩ := h
    rfl
  · obtain ⟨r, bs, es, rfl, ⟨dx, o, c, d, hR, hO, ⟨as, hC, hCs⟩⟩, k⟩ := h
    refine ⟨_, pss_one (ps_ret (pe_callTy call_list_of rfl T.zList (by decide +kernel) (pa_cons (pe_fld (pv 0) rfl) pa_nil))), ?_⟩
    refine ⟨_, rfl, r, _, dx, _, _, rfl, hR, T.cRule.cl, T.nRuleClosers, flds_closers o c d, c, _, rfl, .inl (.inl (.inl hC)), fun l hl => ?_⟩
    have s1 := same_upd (o := .lst (refsV as)) hl
    exact k _ l s1 hl ⟨as, upd_same, hCs.imp fun a x q => q.mono s1⟩
/-! ### faces -/
def FaceAt (H : Hp) (z : Addr × (Face × Line)) : Prop := ∃ t, H z.1 = some (.tup [.ref t, .str (strOf z.2.2)]) ∧ FaceTup H t z.2.1
def spFaces (T : Txt K mg) : Sp := fun vs H Q _ => ∃ (a r : Addr) (p : Pat) (bs es : List Pat), vs = [.ref a, .ref r] ∧ PatAt T H a p ∧ RuleAt T H r bs es ∧ bs.length + es.length ≤ 400 ∧ cellCount ((p.forms ++ formsOf (bs ++ es)).map cellsOf) ≤ 22 ∧
  ∀ (H' : Hp) (q : Addr) (zs : List (Addr × (Face × Line))), Same H H' → H q = none → H' q = some (.lst (refsV (zs.map (·.1)))) → (∀ z ∈ zs, FaceAt H' z ∧ z.2.2.length ≤ 4194304) → FacesOk p bs es (zs.map (·.2)) → Q (.ref q) H'
theorem scFaces : FnScope ["pattern", "rule", "begins", "many", "best", "look", "line", "face", "k"] ["pattern", "rule"] (defScope (top 29)) := ⟨rfl, rfl, rfl, by decide +kernel, rfl, by decide +kernel, by decide +kernel⟩
theorem ok_faces (T : Txt K mg) : FnOk P w K mg base CX0 6 T.dFaces.f T.dFaces.fd ["pattern", "rule"] (spFaces T) := by
  have GL : FnOk P w K mg base CX0 5 T.dLooks.f T.dLooks.fd ["pattern", "marks"] (spLooks T) := ok_looks T
  have GB : FnOk P w K mg base CX0 1 T.rBegins.f T.rBegins.fd ["self"] (spBegins T) := ok_begins T
  have GE : FnOk P w K mg base CX0 1 T.rEnds.f T.rEnds.fd ["self"] (spEnds T) := ok_ends T
  have GI : FnOk P w K mg base CX0 1 T.dIsLess.f T.dIsLess.fd ["line", "other"] spIsLess := ok_is_less T
  refine T.dFaces.F.ok scFaces (fun vs H Q E h => ?_) (fun cdv A outer s H vs Q E hr h => ?_)
  · obtain ⟨a, r, p, bs, es, rfl, _⟩ := h
    rfl
  · obtain ⟨a, r, p, bs, es, rfl, hP, hR, hml, hcc, k⟩ := h
    have hr1 := hr.mono (show 1 ≤ 5 by decide)
    refine ⟨_, pss_cons (ps_set (i := 2) scFaces.nd rfl (.inl rfl) (pe_meth0 (pv 1) T.cRule.cl T.rBegins.m GB hr1 T.rBegins.b .nil pass0))
      (pss_cons (ps_set (i := 3) scFaces.nd rfl (.inr rfl) (pe_callB call_len_seq rfl T.zLen (by decide +kernel) (pa_cons (pv 2) pa_nil)))
      (pss_cons (ps_set (i := 4) scFaces.nd rfl (.inr rfl) pe_dnewN)
      (pss_cons (ps_for PassesOwn.never rfl (pi_list (pe_call GL hr rfl T.dLooks.m T.dLooks.F.kp T.dLooks.b .nil pass0 (pa_cons (pv 0) (pa_cons (pe_op op_cat (pv 2) (pe_meth0 (pv 1) T.cRule.cl T.rEnds.m GE hr1 T.rEnds.b .nil pass0)) pa_nil)))) (pg_tup rfl (pgs_cons (pg_name (i := 5) scFaces.nd rfl (Or.inl rfl)) (pgs_cons (pg_name (i := 6) scFaces.nd rfl (Or.inl rfl)) pgs_nil)))
        (pss_cons (ps_set (i := 7) scFaces.nd rfl (.inl rfl) (pe_tup (pa_cons (pe_callB (cr_any rfl) rfl T.zAny (by decide +kernel) (pa_cons
            (pe_lc (own := [("k", 8)]) (g := gName 8) (tt := tYes) rfl scFaces.nd (pi_tup (pv 5)) (blkOk_by (own := [("k", 8)]) (N := ["pattern", "rule", "begins", "many", "best", "look", "line", "face", "k"]) (sc := defScope (top 29)) (by decide +kernel))
              (fun _ _ _ _ _ => pg_name (i := 8) scFaces.nd rfl (Or.inl rfl)) (fun _ _ _ _ _ => pts_nil) (fun _ _ _ _ _ => pe_cmpR op_lt (pv 8) (pv 3) (nomark _))) pa_nil))
          (pa_cons (pe_callB (cr_any rfl) rfl T.zAny (by decide +kernel) (pa_cons
            (pe_lc (own := [("k", 8)]) (g := gName 8) (tt := tYes) rfl scFaces.nd (pi_tup (pv 5)) (blkOk_by (own := [("k", 8)]) (N := ["pattern", "rule", "begins", "many", "best", "look", "line", "face", "k"]) (sc := defScope (top 29)) (by decide +kernel))
              (fun _ _ _ _ _ => pg_name (i := 8) scFaces.nd rfl (Or.inl rfl)) (fun _ _ _ _ _ => pts_nil) (fun _ _ _ _ _ => pe_cmpR op_ge (pv 8) (pv 3) (nomark _))) pa_nil)) pa_nil))))
        (pss_one (ps_if (PW.pt (pw_or (pt_cmpR (op_notInN hr) (pv 7) (pv 4) (by rfl)) (pw_or1 (pt_val (pe_call GI hr1 rfl T.dIsLess.m T.dIsLess.F.kp T.dIsLess.b .nil pass0 (pa_cons (pv 6) (pa_cons (pe_ix (ix_N hr) (pv 4) (pv 7) (fun _ _ => rfl)) pa_nil)))))))
          (pss_one (ps_asg (pv 6) (pg_sub (pv 4) (pv 7) (set_N hr)))) pss_nil))))
      (pss_one (ps_ret (pe_lc (own := [("face", 7)]) (g := gName 7) (tt := tYes) rfl scFaces.nd (pi_list (pe_callB (cr_sortedKeysN rfl hr) rfl T.zSorted (by decide +kernel) (pa_cons (pv 4) pa_nil))) (blkOk_by (own := [("face", 7)]) (N := ["pattern", "rule", "begins", "many", "best", "look", "line", "face", "k"]) (sc := defScope (top 29)) (by decide +kernel))
        (fun _ _ _ _ _ => pg_name (i := 7) scFaces.nd rfl (Or.inl rfl)) (fun _ _ _ _ _ => pts_nil) (fun _ _ _ _ _ => pe_tup (pa_cons (pv 7) (pa_cons (pe_ix (r := rIxN P w) (ix_N hr) (pv 4) (pv 7) (fun _ _ => rfl)) pa_nil))))))))), ?_⟩
    refine ⟨_, rfl, ?_⟩
    obtain ⟨dR, oR, cR, sR, hR0, hR1, hR2⟩ := id hR
    refine ⟨r, dR, _, rfl, hR0, three_no (by decide +kernel) (by decide +kernel) (by decide +kernel), r, bs, es, rfl, hR, fun H1 bg s1 hbg hB => ?_⟩
    obtain ⟨bas, hbgL, hbas⟩ := hB
    refine ⟨_, rfl, _, _, rfl, .inl (.inl (.inl hbgL)), fun bd hbd => ?_⟩
    have hmany : (refsV bas).length = bs.length := by rw [refsV_length, hbas.length]
    have s2 : Same H1 (upd H1 bd (DNo P w bd [])) := same_upd hbd
    have hR2' := hR.mono (s1.trans s2)
    obtain ⟨dR2, oR2, cR2, sR2, hR3, _, _⟩ := id hR2'
    refine ⟨_, rfl, _, rfl, _, rfl, ?_⟩
    refine ⟨r, dR2, _, rfl, hR3, three_no (by decide +kernel) (by decide +kernel) (by decide +kernel), r, bs, es, rfl, hR2', fun H3 en s3 hen hE => ?_⟩
    obtain ⟨eas, henL, heas⟩ := hE
    have s23 := s2.trans s3
    refine ⟨bg, en, _, _, rfl, rfl, s23 _ _ hbgL, henL, ?_, fun mk hmk => ?_⟩
    · rw [refsV_length, refsV_length, hbas.length, heas.length]
      exact line_big (by omega)
    have s4 := same_upd (o := .lst (refsV bas ++ refsV eas)) hmk
    have s24 := s23.trans s4
    refine ⟨a, mk, p, bs ++ es, rfl, hP.mono (s1.trans s24), ⟨bas ++ eas, by rw [upd_same, refsV_app], (hbas.imp fun c x q => q.mono s24).app (heas.imp fun c x q => q.mono s4)⟩, by rw [List.length_append]; exact hml, hcc, fun H5 q zs s5 hq hqL hzs hlk => ?_⟩
    have s25 := s24.trans s5
    refine ⟨q, rfl, ⟨_, .inl (.inl hqL)⟩, for_it (walk_list (xs := refsV (zs.map (·.1)))) (fun i σ H6 => ∃ (v5 v6 v7 : Option V) (xs : List NRow) (best : List (Face × Line)), σ = [some (.ref a), some (.ref r), some (.ref bg), some (.int ((refsV bas).length : Nat)), some (.ref bd), v5, v6, v7, none] ∧
        Same H1 H6 ∧ H6 q = some (.lst (refsV (zs.map (·.1)))) ∧ (∀ z ∈ zs, LookAt H6 z) ∧ H6 bd = some (DNo P w bd xs) ∧ KeysIn H6 xs ∧ FRows H6 xs best ∧ BestInv bs.length ((zs.map (·.2)).take i) best)
      ⟨_, _, _, [], [], rfl, s25, hqL, fun z hz => (hzs z hz).1, s5 _ _ (s4 _ _ (s3 _ _ upd_same)), fun x hx => (by simp at hx), ⟨rfl, fun j x r hx => by simp at hx⟩, BestInv.nil _⟩ (fun i σ H6 _ ⟨_, _, _, _, _, _, _, z, _⟩ => .inl (.inl z)) ?_ ?_⟩
    · rintro i x σ H0 H6 hi ⟨v5, v6, v7, xs, best, rfl, s6, hqL, hLk, hD, hKI, hFR, hBI⟩ ⟨rfl, hx⟩
      obtain ⟨za, hza, rfl⟩ := refsV_some hx
      rw [List.getElem?_map] at hza
      obtain ⟨z, hz, rfl⟩ := Option.map_eq_some_iff.mp hza
      have hzm := List.mem_of_getElem? hz
      obtain ⟨t, ht1, ht2⟩ := hLk z hzm
      have hz2 : (zs.map (·.2))[i]? = some z.2 := by rw [List.getElem?_map, hz]; rfl
      have hzl := (hzs z hzm).2
      have hlook : z.2.1.length ≤ 400 := by
        obtain ⟨_, _, e⟩ := hlk.real z.2 (List.mem_map.mpr ⟨z, hzm, rfl⟩)
        have := lookW_len z.2.2 (bs ++ es) 0
        rw [← e]
        unfold lookW
        rw [List.length_append] at this
        omega
      refine ⟨z.1, _, rfl, .inl (.inl ht1), rfl, _, _, rfl, _, _, rfl, rfl, ?_⟩
      refine ⟨_, rfl, t, rfl, ⟨_, .inl (.inl ht2)⟩, fun D1 hD1 => lc_it (walk_tup (xs := intsV z.2.1)) (fun j H7 => Same H6 H7 ∧ H7 D1 = some (.lst (blsV ((z.2.1.take j).map fun k => decide (k < bs.length)))))
        ⟨same_upd hD1, upd_same⟩ (fun j H7 _ q => .inl (.inl (q.1 _ _ ht2))) ?_ ?_⟩
      · rintro j y H8 H7 hj ⟨s7, hD7⟩ ⟨rfl, hy⟩
        obtain ⟨kk, hkk, rfl⟩ := intsV_some hy
        have hjl : j < z.2.1.length := (List.getElem?_eq_some_iff.mp hkk).1
        refine ⟨rfl, tyes (iteT ?_)⟩
        refine ⟨_, rfl, _, rfl, _, _, rfl, rfl, _, hD7, ?_, same_over s7 hD1, ?_⟩
        · unfold blsV
          rw [List.length_map, List.length_map, List.length_take]
          exact line_lt (by omega)
        · rw [upd_same, take_snoc hkk, List.map_append, hmany]
          unfold blsV
          rw [List.map_append]
          have e : decide ((kk : Int) < (bs.length : Nat)) = decide (kk < bs.length) := decide_eq_decide.mpr (by omega)
          show some (HO.lst (_ ++ [V.bl (decide ((kk : Int) < (bs.length : Nat)))])) = _
          rw [e]
          rfl
      rintro H7 ⟨s7, hD7⟩
      rw [intsV_length, List.take_length] at hD7
      refine ⟨D1, _, rfl, .inl (.inl hD7), ?_⟩
      refine ⟨_, rfl, t, rfl, ⟨_, .inl (.inl (s7 _ _ ht2))⟩, fun D2 hD2 => lc_it (walk_tup (xs := intsV z.2.1)) (fun j H9 => Same H7 H9 ∧ H9 D2 = some (.lst (blsV ((z.2.1.take j).map fun k => decide (bs.length ≤ k)))))
        ⟨same_upd hD2, upd_same⟩ (fun j H9 _ q => .inl (.inl (q.1 _ _ (s7 _ _ ht2)))) ?_ ?_⟩
      · rintro j y H8 H9 hj ⟨s9, hD9⟩ ⟨rfl, hy⟩
        obtain ⟨kk, hkk, rfl⟩ := intsV_some hy
        have hjl : j < z.2.1.length := (List.getElem?_eq_some_iff.mp hkk).1
        refine ⟨rfl, tyes (iteT ?_)⟩
        refine ⟨_, rfl, _, rfl, _, _, rfl, rfl, _, hD9, ?_, same_over s9 hD2, ?_⟩
        · unfold blsV
          rw [List.length_map, List.length_map, List.length_take]
          exact line_lt (by omega)
        · rw [upd_same, take_snoc hkk, List.map_append, hmany]
          unfold blsV
          rw [List.map_append]
          have e : decide (((bs.length : Nat) : Int) ≤ kk) = decide (bs.length ≤ kk) := decide_eq_decide.mpr (by omega)
          show some (HO.lst (_ ++ [V.bl (decide (((bs.length : Nat) : Int) ≤ kk))])) = _
          rw [e]
          rfl
      rintro H9 ⟨s9, hD9⟩
      rw [intsV_length, List.take_length] at hD9
      refine ⟨D2, _, rfl, .inl (.inl hD9), line_big (n := 2) (by decide), fun ft hft => ?_⟩
      have eF : [V.bl ((z.2.1.map fun k => decide (k < bs.length)).any id), V.bl ((z.2.1.map fun k => decide (bs.length ≤ k)).any id)] = faceV (faceOf bs.length z.2.1) := by
        unfold faceV faceOf
        rw [List.any_map, List.any_map]
        rfl
      rw [eF]
      generalize hface : faceOf bs.length z.2.1 = face
      have s10 := (s7.trans s9).trans (same_upd (o := .tup (faceV face)) hft)
      have hFt : FaceTup (upd H9 ft (.tup (faceV face))) ft face := upd_same
      generalize upd H9 ft (.tup (faceV face)) = HA at s10 hFt
      have sA := s6.trans s10
      have hDA := s10 _ _ hD
      have hqA := s10 _ _ hqL
      have hKA := hKI.mono (tups_same s10)
      have hFA := hFR.tups (tups_same s10)
      have hxl : xs.length ≤ 4 := by rw [hFR.1]; exact hBI.len
      have htk : (zs.map (·.2)).take (i + 1) = (zs.map (·.2)).take i ++ [z.2] := take_snoc hz2
      have tu : ∀ {HB : Hp} {xs : List NRow} (o : HO), HB bd = some (DNo P w bd xs) → Tups HB (upd HB bd o) := fun o h => tups_upd h fun vs => DNo.ne_tup
      have nq : ∀ {HB : Hp} {xs : List NRow}, HB bd = some (DNo P w bd xs) → HB q = some (.lst (refsV (zs.map (·.1)))) → q ≠ bd := fun h h2 e => by
        rw [e, h] at h2
        unfold DNo at h2
        cases h2
      refine ⟨_, rfl, _, rfl, ft, bd, keyF face, xs, rfl, rfl, keyIs_face hFt, keyF_depth _, hDA, hKA, _, rfl, ?_⟩
      rcases hFA.at_ face with ⟨hn, hnm⟩ | ⟨p0, b0, hp0, hb0, hb1, hb2⟩
      · rw [hn]
        refine iteT (iteT ?_)
        refine ⟨_, rfl, _, rfl, _, rfl, bd, ft, keyF face, xs, rfl, rfl, keyIs_face hFt, keyF_depth _, hDA, hKA, line_lt (by omega), fun HB hHB => ?_⟩
        rw [storeN_new hn] at hHB
        have hHB2 : HB = upd HA bd (DNo P w bd (xs ++ [(keyF face, ft, .str (strOf z.2.2))])) := hHB
        have tB : Tups HA HB := by rw [hHB2]; exact tu _ hDA
        refine ⟨_, _, _, _, best ++ [(face, z.2.2)], rfl, by rw [hHB2]; exact same_over sA hbd, by rw [hHB2, upd_ne (nq hDA hqA)]; exact hqA, fun z' hz' => ?_, by rw [hHB2, upd_same], ?_, ?_, ?_⟩
        · obtain ⟨t', h1, h2⟩ := hLk z' hz'
          exact ⟨t', tB _ _ (s10 _ _ h1), tB _ _ (s10 _ _ h2)⟩
        · intro x hx
          rcases List.mem_append.mp hx with hx | hx
          · exact hKA.mono tB x hx
          · obtain rfl := List.mem_singleton.mp hx
            exact ⟨keyIs_face (tB _ _ hFt), keyF_depth _⟩
        · exact (hFA.tups tB).snoc (b := (face, z.2.2)) (tB _ _ hFt)
        · rw [htk]
          have := hBI.new (r := z.2) (by rw [hface]; exact hnm)
          rw [hface] at this
          exact this
      · rw [hp0]
        refine iteF ?_
        refine ⟨_, rfl, _, rfl, _, rfl, bd, ft, keyF face, xs, p0, rfl, rfl, keyIs_face hFt, keyF_depth _, hDA, hKA, hp0, ?_⟩
        rw [hb2]
        have hb0l : b0.2.length ≤ 4194304 := by
          obtain ⟨rr, hrr, _, e⟩ := hBI.real b0 hb0
          have hrr2 := List.mem_of_mem_take hrr
          obtain ⟨z', hz', e2⟩ := List.mem_map.mp hrr2
          rw [← e, ← e2]
          exact (hzs z' hz').2
        refine ⟨z.2.2, b0.2, rfl, by omega, by omega, fun HC sC => ?_⟩
        have hDC := sC _ _ hDA
        have hFtC : FaceTup HC ft face := sC _ _ hFt
        have hKC := hKA.mono (tups_same sC)
        have hFC := hFA.tups (tups_same sC)
        have hqC := sC _ _ hqA
        refine ⟨_, rfl, ?_⟩
        refine ite2 (fun c1 => ?_) (fun c1 => ?_)
        · refine ⟨_, rfl, _, rfl, _, rfl, bd, ft, keyF face, xs, rfl, rfl, keyIs_face hFtC, keyF_depth _, hDC, hKC, line_lt (by omega), fun HB hHB => ?_⟩
          rw [storeN_old hp0] at hHB
          have hHB2 : HB = upd HC bd (DNo P w bd (xs.map fun x => if x.1 = keyF face then (x.1, x.2.1, .str (strOf z.2.2)) else x)) := hHB
          have tB : Tups HC HB := by rw [hHB2]; exact tu _ hDC
          refine ⟨_, _, _, _, _, rfl, by rw [hHB2]; exact same_over (sA.trans sC) hbd, by rw [hHB2, upd_ne (nq hDC hqC)]; exact hqC, fun z' hz' => ?_, by rw [hHB2, upd_same], (hKC.mono tB).over _ _, (hFC.tups tB).over face z.2.2, ?_⟩
          · obtain ⟨t', h1, h2⟩ := hLk z' hz'
            exact ⟨t', tB _ _ (sC _ _ (s10 _ _ h1)), tB _ _ (sC _ _ (s10 _ _ h2))⟩
          · rw [htk]
            have := hBI.less_ (r := z.2) hb0 (by rw [hface]; exact hb1) (lessB_iff.mp c1)
            rw [hface] at this
            exact this
        · refine ⟨_, _, _, xs, best, rfl, sA.trans sC, hqC, fun z' hz' => ?_, hDC, hKC, hFC, ?_⟩
          · obtain ⟨t', h1, h2⟩ := hLk z' hz'
            exact ⟨t', sC _ _ (s10 _ _ h1), sC _ _ (s10 _ _ h2)⟩
          · rw [htk]
            exact hBI.kept (r := z.2) hb0 (by rw [hface]; exact hb1) fun z => c1 (lessB_iff.mpr z)
    · rintro σ H6 ⟨v5, v6, v7, xs, best, rfl, s6, hqL, hLk, hD, hKI, hFR, hBI⟩
      rw [refsV_length, List.length_map, show (zs.map (·.2)).take zs.length = zs.map (·.2) by rw [← List.length_map (f := (·.2)), List.take_length]] at hBI
      have hblen : ∀ b ∈ best, b.2.length ≤ 4194304 := fun b hb => by
        obtain ⟨rr, hrr, _, e⟩ := hBI.real b hb
        obtain ⟨z', hz', e2⟩ := List.mem_map.mp hrr
        rw [← e, ← e2]
        exact (hzs z' hz').2
      refine ⟨_, rfl, bd, xs, best.map (·.1), rfl, hD, hKI, by rw [List.length_map]; exact hFR.1, fun j x f hx hf => ?_, fun H7 l fz s7 hl hperm hsort hlL hfz => ?_⟩
      · rw [List.getElem?_map] at hf
        obtain ⟨b, hb, rfl⟩ := Option.map_eq_some_iff.mp hf
        exact (hFR.2 j x b hx hb).1
      have hD7 := s7 _ _ hD
      have hK7 := hKI.mono (tups_same s7)
      have hF7 := hFR.tups (tups_same s7)
      have hfl : fz.length ≤ 4 := by
        have h1 := hperm.length_eq
        rw [List.length_map, List.length_map] at h1
        have := hBI.len
        omega
      refine ⟨l, rfl, ⟨_, .inl (.inl hlL)⟩, fun D hDn => lc_it (walk_list (xs := refsV (fz.map (·.1)))) (fun i H8 => Same H7 H8 ∧ ∃ ts outs, H8 D = some (.lst (refsV ts)) ∧ AllAt (fun a (b : Face × Line) => FaceAt H8 (a, b)) ts outs ∧ outs.map (·.1) = (fz.map (·.2)).take i ∧ ∀ o ∈ outs, o ∈ best)
        ⟨same_upd hDn, [], [], upd_same, trivial, rfl, fun o ho => by simp at ho⟩ (fun i H8 _ q => .inl (.inl (q.1 _ _ hlL))) ?_ ?_⟩
      · rintro i x H8 H9 hi ⟨s8, ts, outs, hDt, hts, hout, hin⟩ ⟨rfl, hx⟩
        obtain ⟨za, hza, rfl⟩ := refsV_some hx
        rw [List.getElem?_map] at hza
        obtain ⟨z, hz, rfl⟩ := Option.map_eq_some_iff.mp hza
        have hzm := List.mem_of_getElem? hz
        have hz2 : (fz.map (·.2))[i]? = some z.2 := by rw [List.getElem?_map, hz]; rfl
        have hft := s8 _ _ (hfz z hzm)
        have hFt : FaceTup H9 z.1 z.2 := hft
        rcases hF7.at_ z.2 with ⟨_, hnm⟩ | ⟨p0, b0, hp0, hb0, hb1, hb2⟩
        · exact absurd (hperm.mem_iff.mp (List.mem_map.mpr ⟨z, hzm, rfl⟩)) hnm
        refine ⟨rfl, tyes (iteT ?_)⟩
        refine ⟨_, rfl, _, rfl, _, rfl, bd, z.1, keyF z.2, xs, p0, rfl, rfl, keyIs_face hFt, keyF_depth _, s8 _ _ hD7, hK7.mono (tups_same s8), hp0, line_big (n := 2) (by decide), fun nt hnt => ?_⟩
        rw [hb2]
        have hDn2 : nt ≠ D := fun e => by rw [e, hDt] at hnt; cases hnt
        have s9 := same_upd (o := .tup [.ref z.1, .str (strOf b0.2)]) hnt
        have htl : ts.length ≤ 4 := by
          have h1 := hts.length
          have h2 := congrArg List.length hout
          rw [List.length_map, List.length_take, List.length_map] at h2
          omega
        have tD : Tups (upd H9 nt (.tup [.ref z.1, .str (strOf b0.2)])) (upd (upd H9 nt (.tup [.ref z.1, .str (strOf b0.2)])) D (.lst (refsV ts ++ [.ref nt]))) := tups_upd (s9 _ _ hDt) fun vs e => nomatch e
        refine ⟨_, s9 _ _ hDt, by rw [refsV_length]; exact line_lt (by omega), same_over (s8.trans s9) hDn, ts ++ [nt], outs ++ [b0], by rw [upd_same, refsV_app]; rfl, ?_, ?_, ?_⟩
        · refine AllAt.snoc (hts.imp fun a b ⟨t', h1, h2⟩ => ⟨t', tD _ _ (s9 _ _ h1), tD _ _ (s9 _ _ h2)⟩) ⟨z.1, tD _ _ upd_same, ?_⟩
          show FaceTup _ z.1 b0.1
          rw [hb1]
          exact tD _ _ (s9 _ _ hft)
        · rw [take_snoc hz2, List.map_append, hout, ← hb1]
          rfl
        · intro o ho
          rcases List.mem_append.mp ho with ho | ho
          · exact hin o ho
          · rw [List.mem_singleton.mp ho]; exact hb0
      · rintro H8 ⟨s8, ts, outs, hDt, hts, hout, hin⟩
        rw [refsV_length, List.length_map, show (fz.map (·.2)).take fz.length = fz.map (·.2) by rw [← List.length_map (f := (·.2)), List.take_length]] at hout
        have hlen := hts.length
        have e1 : (ts.zip outs).map (·.1) = ts := List.map_fst_zip (by omega)
        have e2 : (ts.zip outs).map (·.2) = outs := List.map_snd_zip (by omega)
        refine k H8 D (ts.zip outs) (((s1.trans s6).trans s7).trans s8) (Same.free s1 (Same.free s6 (Same.free s7 hDn))) (by rw [e1]; exact hDt) (fun z hz => ?_) ?_
        · obtain ⟨j, hj⟩ := List.mem_iff_getElem?.mp hz
          obtain ⟨h1, h2⟩ := List.getElem?_zip_eq_some.mp hj
          obtain ⟨b, hb, hb2⟩ := hts.get h1
          rw [h2] at hb
          cases hb
          exact ⟨hb2, hblen _ (hin _ (List.mem_of_getElem? h2))⟩
        · rw [e2]
          have huniq : ∀ x ∈ best, ∀ y ∈ best, x.1 = y.1 → x = y := fun x hx y hy e => by
            obtain ⟨i, hi⟩ := List.mem_iff_getElem?.mp hx
            obtain ⟨j, hj⟩ := List.mem_iff_getElem?.mp hy
            have h1 : (best.map (·.1))[i]? = some x.1 := by rw [List.getElem?_map, hi]; rfl
            have h2 : (best.map (·.1))[j]? = some x.1 := by rw [List.getElem?_map, hj, e]; rfl
            have hij : i = j := (List.getElem?_inj (List.getElem?_eq_some_iff.mp h1).1 hBI.nodup).mp (h1.trans h2.symm)
            subst hij
            rw [hi] at hj
            exact Option.some.inj hj
          refine BestInv.faces hlk hBI (fun x => ⟨fun hx => hin x hx, fun hx => ?_⟩) ?_
          · have h1 : x.1 ∈ outs.map (·.1) := by
              rw [hout]
              exact hperm.mem_iff.mpr (List.mem_map.mpr ⟨x, hx, rfl⟩)
            obtain ⟨o, ho, eo⟩ := List.mem_map.mp h1
            rw [← huniq o (hin o ho) x hx eo]
            exact ho
          · have hnd : (fz.map (·.2)).Nodup := hperm.nodup_iff.mpr hBI.nodup
            have hboth := hsort.and hnd
            rw [← hout, List.pairwise_map] at hboth
            refine hboth.imp fun {a b} ⟨h1, h2⟩ => ?_
            have : code a.1 ≠ code b.1 := fun e => h2 (code_inj e)
            omega
end
end K35
namespace K35
open PySem L2
/-! ### forms that may be built -/
structure Good (f : Form) : Prop where
  ok : FOk f
  any : ∀ i j : Nat, f[i]? = some .any → f[j]? = some .any → i = j
  gap : ∀ (i : Nat) (u v : List Nat), f[i]? = some (.fixed u) → f[i + 1]? = some (.fixed v) → False
theorem partS_any {p : Part} (h : PartOk p) : partS p = anyS ↔ p = .any := by
  cases p with
  | any => simp [partS]
  | digits => exact ⟨fun h => absurd h.symm any_ne_dig, fun h => nomatch h⟩
  | word => exact ⟨fun h => absurd h.symm any_ne_word, fun h => nomatch h⟩
  | fixed u => exact ⟨fun z => absurd z (short_ne_any h.2.1), fun h => nomatch h⟩
section
variable {P : Program} {w : World} {K : PySem.W.Frag} {mg : Str → Option Value} {base : Heap}
def spIsAllowedP (K : PySem.W.Frag) : Sp := fun vs H Q _ => ∃ (t : Addr) (f : Form) (i : Nat), vs = [.ref t, .int (i : Nat)] ∧ SqT K H t (partsV f) ∧ Good f ∧ i < f.length ∧ ∀ H' : Hp, Same H H' → Q (.bl true) H'
theorem scIsAllowedP : FnScope ["parts", "at", "part"] ["parts", "at"] (defScope (top 38)) := ⟨rfl, rfl, rfl, by decide +kernel, rfl, by decide +kernel, by decide +kernel⟩
theorem partsV_at {f : Form} {i : Nat} {p : Part} (h : f[i]? = some p) : atI (partsV f) (i : Nat) = some (.str (partS p)) := by
  refine atI_nat ?_
  unfold partsV
  rw [List.getElem?_map, h]
  rfl
theorem ok_is_allowedP (T : Txt K mg) : FnOk P w K mg base CX0 2 T.dIsAllowedPatterns.f T.dIsAllowedPatterns.fd ["parts", "at"] (spIsAllowedP K) := by
  have GL : FnOk P w K mg base CX0 1 T.dIsLine.f T.dIsLine.fd ["thing"] spIsLine := ok_is_line T
  obtain ⟨t1, k1⟩ := T.kMOSTPARTS
  obtain ⟨t2, k2⟩ := T.kANYCELL
  obtain ⟨t3, k3⟩ := T.kMOSTSIGNS
  refine T.dIsAllowedPatterns.F.ok scIsAllowedP (fun vs H Q E h => ?_) (fun cdv A outer s H vs Q E hr h => ?_)
  · obtain ⟨t, f, i, rfl, _⟩ := h
    rfl
  · obtain ⟨t, f, i, rfl, hT, g, hi, k⟩ := h
    obtain ⟨p, hp⟩ : ∃ p, f[i]? = some p := ⟨f[i], by simp [hi]⟩
    have po := g.ok.2.2 p (List.mem_of_getElem? hp)
    have hf4 := g.ok.2.1
    refine ⟨_, pss_cons (ps_set (i := 2) scIsAllowedP.nd rfl (.inl rfl) (pe_ix (r := rIxT K) ix_tup (pv 0) (pv 1) (fun _ _ => rfl)))
      (pss_cons (ps_if (PW.pt (pw_or (pt_cmpR op_ge (pv 1) (pe_glob (v := .int 4) rfl k1 ⟨_, rfl⟩) (nomark _))
          (pw_or1 (pt_not (pt_val (pe_callB call_isi rfl T.zIsinstance (by decide +kernel) (pa_cons (pv 2) (pa_cons (pe_bltn (v := .ty "str") rfl T.zStr (by decide +kernel) rfl) pa_nil)))))))) (pss_one (ps_ret pe_bl)) pss_nil)
      (pss_cons (ps_if (pt_cmpR op_eq (pv 2) (pe_glob (v := .str anyS) rfl k2 ⟨_, rfl⟩) (nomark _)) (pss_one (ps_ret (pe_cmpR op_notIn_seq (pe_glob (v := .str anyS) rfl k2 ⟨_, rfl⟩) (pe_slice sl_tup (pv 0) po_none (po_some (pv 1))) (by rfl)))) pss_nil)
      (pss_cons (ps_if (pt_cmpR op_in_seq (pv 2) (pe_glob (v := .ref T.free) rfl T.kFREE rfl) (by rfl)) (pss_one (ps_ret pe_bl)) pss_nil)
      (pss_cons (ps_if (PW.pt (pw_and (pt_cmpR op_gt (pv 1) pe_int (nomark _)) (pw_and1 (pt_cmpR op_notIn_seq (pe_ix (r := rIxT K) ix_tup (pv 0) (pe_op op_sub (pv 1) pe_int) (fun _ _ => rfl)) (pe_glob (v := .ref T.free) rfl T.kFREE rfl) (by rfl))))) (pss_one (ps_ret pe_bl)) pss_nil)
      (pss_one (ps_ret (pe_and (pe_call GL hr rfl T.dIsLine.m T.dIsLine.F.kp T.dIsLine.b .nil pass0 (pa_cons (pv 2) pa_nil)) (pe_one (pe_cmpR op_le (pe_callB call_len_str rfl T.zLen (by decide +kernel) (pa_cons (pv 2) pa_nil)) (pe_glob (v := .int 4) rfl k3 ⟨_, rfl⟩) (nomark _)))))))))), ?_⟩
    refine ⟨_, rfl, _, rfl, t, _, _, _, rfl, rfl, hT, partsV_at hp, ?_⟩
    refine ⟨_, rfl, _, _, rfl, rfl, _, rfl, ?_⟩
    rw [show decide ((4 : Int) ≤ (i : Nat)) = false from decide_eq_false (by omega)]
    refine iteF ?_
    refine ⟨_, rfl, _, _, _, _, true, rfl, .ty _, .base (.str _), kit_str_str, _, rfl, ?_⟩
    refine iteF ?_
    refine ⟨_, rfl, rfl, _, rfl, ?_⟩
    rw [show decide (V.str (partS p) = V.str anyS) = decide (p = .any) from dec_str_iff (partS_any po)]
    refine ite2 (fun c1 => ?_) (fun c1 => ?_)
    · have e1 : p = .any := of_decide_eq_true c1
      subst e1
      refine ⟨_, rfl, _, rfl, _, rfl, t, _, rfl, hT, ?_, fun q hq => ?_⟩
      · rw [HT.sIx_nat, partsV_length]
        omega
      · rw [cut_to]
        have e2 : (partsV f).take i = ((f.take i).map partS).map V.str := by
          unfold partsV
          rw [List.map_take, List.map_take, List.map_map]
          rfl
        have e3 : inV (.str anyS) ((partsV f).take i) = false := by
          rw [e2, inV_strs]
          refine decide_eq_false fun hm => ?_
          obtain ⟨x, hx, ex⟩ := List.mem_map.mp hm
          have xo := g.ok.2.2 x (List.mem_of_mem_take hx)
          have ex2 := (partS_any xo).mp ex
          subst ex2
          obtain ⟨j, hj⟩ := List.mem_iff_getElem?.mp hx
          have hji : j < i := by
            have := (List.getElem?_eq_some_iff.mp hj).1
            rw [List.length_take] at this
            omega
          rw [List.getElem?_take_of_lt hji] at hj
          have := g.any j i hj hp
          omega
        refine ⟨q, _, rfl, .inr (.inl (.inl upd_same)), rfl, ?_, ?_⟩
        · rw [e2]
          exact strs_flat _
        · show Q (.bl (!inV (.str anyS) _)) _
          rw [e3]
          exact k _ (same_upd hq)
    have n1 : p ≠ .any := fun e => c1 (decide_eq_true e)
    refine ⟨_, rfl, _, _, rfl, .inr (T.sFREE _), rfl, strs_flat _, _, rfl, ?_⟩
    refine ite2 (fun c2 => ?_) (fun c2 => ?_)
    · exact k _ (Same.refl _)
    have n2 : isFree p = false := by
      cases q : isFree p with
      | false => rfl
      | true => exact absurd ((free_in po).trans q) c2
    cases p with
    | any => cases n2
    | digits => cases n2
    | word => cases n2
    | fixed u =>
      have hline : isLineB (strOf u).cps.toList = true := by
        rw [strOf_list]
        unfold isLineB
        obtain ⟨h1, h2, h3⟩ := po
        have e1 : u.isEmpty = false := by cases u with
          | nil => exact absurd rfl h1
          | cons a l => rfl
        rw [e1, Bool.not_false, Bool.true_and, List.all_eq_true]
        exact fun c hc => decide_eq_true (h3 c hc)
      have hlen : (strOf u).length ≤ 4 := by rw [strOf_len]; exact po.2.1
      refine ⟨_, rfl, _, _, rfl, rfl, _, rfl, ?_⟩
      refine ite2 (fun c3 => ?_) (fun c3 => ?_)
      · have h0 : 0 < i := by
          have := of_decide_eq_true c3
          omega
        obtain ⟨q, hq⟩ : ∃ q, f[i - 1]? = some q := ⟨f[i - 1], by simp [show i - 1 < f.length by omega]⟩
        have qo := g.ok.2.2 q (List.mem_of_getElem? hq)
        have nq : isFree q = true := by
          cases q with
          | fixed v => exact (g.gap (i - 1) v u hq (by rw [show i - 1 + 1 = i by omega]; exact hp)).elim
          | any => rfl
          | digits => rfl
          | word => rfl
        refine ⟨_, rfl, _, rfl, _, _, rfl, rfl, t, _, _, _, rfl, rfl, hT, (by rw [show ((i : Nat) : Int) - 1 = ((i - 1 : Nat) : Int) by omega]; exact partsV_at hq), _, _, rfl, .inr (T.sFREE _), rfl, strs_flat _, _, rfl, ?_⟩
        refine iteF2 (by show (!inV (.str (partS q)) _) = false; rw [free_in qo, nq]; rfl) ?_
        refine ⟨_, rfl, _, rfl, _, rfl, ?_⟩
        refine iteT2 hline ?_
        refine ⟨_, rfl, _, rfl, (line_big (n := (strOf u).length) (by omega)), _, _, rfl, rfl, ?_⟩
        show Q (.bl (decide (((strOf u).length : Int) ≤ 4))) _
        rw [show decide (((strOf u).length : Int) ≤ 4) = true from decide_eq_true (by omega)]
        exact k _ (Same.refl _)
      · refine ⟨_, rfl, _, rfl, _, rfl, ?_⟩
        refine iteT2 hline ?_
        refine ⟨_, rfl, _, rfl, (line_big (n := (strOf u).length) (by omega)), _, _, rfl, rfl, ?_⟩
        show Q (.bl (decide (((strOf u).length : Int) ≤ 4))) _
        rw [show decide (((strOf u).length : Int) ≤ 4) = true from decide_eq_true (by omega)]
        exact k _ (Same.refl _)
end
end K35
namespace K35
open PySem L2
section
variable {P : Program} {w : World} {K : PySem.W.Frag} {mg : Str → Option Value} {base : Heap}
theorem fun_star {x qual : Str} {st : Stmt} {f : Addr} {fd : FuncData} {N ps : List Str} {pv : Str} {k : Nat} {sp : Sp} (F : Fun K x qual st f fd) (S : FnScope N (ps ++ [pv]) (defScope st))
    (hb : ∀ (kV doc pm : Value) (an : Option Addr) (cdv ct : Value) (us rest : List Value), us.length = ps.length → bindArgs (PySem.W.fnOf x qual (defArgs st) (defBody st) (defScope st) .none kV doc pm an cdv ct) ⟨us ++ rest, []⟩ = (newTuple rest >>= fun t => pure (ps.zip us ++ [(pv, t)])))
    (hbody : ∀ (cdv : Value) (A : Around) (outer : List Env) (s : Shared) (H : Hp) (vs : List V) (Q : VK) (E : XK), Room k (A.deeper (PyProof.Rows.envOfC qual (defScope st) s.heap.objs.size f cdv)) → sp vs H Q E →
      ∃ t, PSs (cxOf CX0 P w K mg base N qual (defScope st) f cdv A outer s H E).nox (defBody st) t ∧ t { nx := fun _ H' => Q .non H', rt := Q } (start N vs) H) :
    FnR P w K mg base CX0 (k + 1) f (fun vs H Q E => ∃ ws rest, vs = ws ++ rest ∧ ws.length = ps.length ∧ rest.length ≤ sizeLine ∧ ∀ p, H p = Option.none → sp (ws ++ [V.ref p]) (upd H p (.tup rest)) Q E) := by
  obtain ⟨oc, od, kV, doc, pm, an, cdv, ct, osl, rfl, lk, hcd⟩ := F.ex
  refine StX.fn_star lk hcd S StX.cxUp_none (hb kV doc pm an cdv ct) fun A outer s H vs Q E hr hsp => ?_
  obtain ⟨t, h, q⟩ := hbody cdv A outer s H vs Q E hr hsp
  exact ⟨t, h.nox, q⟩
/-! ### Form.__init__ -/
def spIForm (T : Txt K mg) : Sp := fun vs H Q _ => ∃ (a t dx : Addr) (f : Form), vs = [.ref a, .ref t] ∧ H a = some (.ins T.cForm.C dx []) ∧ H t = some (.tup (partsV f)) ∧ Good f ∧ ∀ H' : Hp, Same H H' → Q .non (upd H' a (.ins T.cForm.C dx [("pieces", .ref t)]))
theorem scIForm : FnScope ["self", "parts", "at"] ((["self"] : List Str) ++ (["parts"] : List Str)) (defScope (inClass (top 41) 3)) := ⟨rfl, rfl, rfl, by decide +kernel, rfl, by decide +kernel, by decide +kernel⟩
theorem ok_iForm (T : Txt K mg) : FnR P w K mg base CX0 3 T.iForm.f (fun vs H Q E => ∃ ws rest, vs = ws ++ rest ∧ ws.length = (["self"] : List Str).length ∧ rest.length ≤ sizeLine ∧ ∀ p, H p = Option.none → spIForm T (ws ++ [V.ref p]) (upd H p (.tup rest)) Q E) := by
  have GA : FnOk P w K mg base CX0 2 T.dIsAllowedPatterns.f T.dIsAllowedPatterns.fd ["parts", "at"] (spIsAllowedP K) := ok_is_allowedP T
  refine fun_star T.iForm.F scIForm (fun kV doc pm an cdv ct => StX.bind_star1 (B := fun us => bindArgs (PySem.W.fnOf "__init__" "Form.__init__" (defArgs (inClass (top 41) 3)) (defBody (inClass (top 41) 3)) (defScope (inClass (top 41) 3)) .none kV doc pm an cdv ct) ⟨us, []⟩) (fun a => rfl) (fun a r rs => rfl)) fun cdv A outer s H vs Q E hr h => ?_
  obtain ⟨a, t, dx, f, rfl, hA, hT, g, k⟩ := h
  refine ⟨_, pss_cons (ps_if (pt_cmpR op_eq (pe_callB call_len_seq rfl T.zLen (by decide +kernel) (pa_cons (pv 1) pa_nil)) pe_int (nomark _)) pss_never pss_nil)
    (pss_cons (ps_for PassesOwn.never rfl (pi_range1 rfl T.zRange (pa_cons (pe_callB call_len_seq rfl T.zLen (by decide +kernel) (pa_cons (pv 1) pa_nil)) pa_nil)) (pg_name (i := 2) scIForm.nd rfl (.inl rfl))
      (pss_one (ps_if (pt_not (pt_val (pe_call GA hr rfl T.dIsAllowedPatterns.m T.dIsAllowedPatterns.F.kp T.dIsAllowedPatterns.b .nil pass0 (pa_cons (pv 1) (pa_cons (pv 2) pa_nil))))) pss_never pss_nil)))
    (pss_one (ps_fld (pv 0) (pv 1) (by rfl)))), ?_⟩
  have hf := g.ok.1
  have hf4 := g.ok.2.1
  have hf1 : 0 < f.length := by cases f with
    | nil => exact absurd rfl hf
    | cons => simp
  refine ⟨_, rfl, _, _, rfl, .inr (.inl (.inl hT)), rfl, _, rfl, ?_⟩
  rw [partsV_length]
  refine iteF2 (decide_eq_false fun e => ?_) ?_
  · injection e with e
    omega
  refine ⟨_, rfl, _, _, rfl, .inr (.inl (.inl hT)), ?_⟩
  refine ⟨_, rfl, by omega, by rw [partsV_length]; omega, ?_⟩
  rw [show (((partsV f).length : Nat) : Int).toNat = f.length by rw [partsV_length]; rfl]
  refine for_range (lo := 0) (n := f.length) (fun i σ H2 => (∃ v, σ = [some (.ref a), some (.ref t), v]) ∧ Same H H2) ⟨⟨_, rfl⟩, Same.refl H⟩ ?_ ?_
  · rintro i σ H2 hi ⟨⟨v, rfl⟩, s2⟩
    rw [Int.zero_add]
    refine ⟨_, rfl, _, rfl, t, f, i, rfl, .inl (.inl (s2 _ _ hT)), g, hi, fun H3 s3 => ?_⟩
    exact ⟨_, rfl, iteF ⟨⟨_, rfl⟩, s2.trans s3⟩⟩
  · rintro σ H2 ⟨⟨v, rfl⟩, s2⟩
    refine ⟨_, rfl, _, rfl, a, _, dx, [], rfl, s2 _ _ hA, T.cForm.cl, T.nFormPieces, (by decide), ?_⟩
    exact k H2 s2
end
end K35
namespace K35
open PySem L2
section
variable {P : Program} {w : World} {K : PySem.W.Frag} {mg : Str → Option Value} {base : Heap}
/-! ### making a form -/
def SpF (T : Txt K mg) : Sp := fun vs H Q E => ∃ ws rest, vs = ws ++ rest ∧ ws.length = (["self"] : List Str).length ∧ rest.length ≤ sizeLine ∧ ∀ p, H p = Option.none → spIForm T (ws ++ [V.ref p]) (upd H p (.tup rest)) Q E
theorem form_made (T : Txt K mg) {H : Hp} {f : Form} (g : Good f) {Q : VK} {E : XK} (k : ∀ (H' : Hp) (a : Addr), Same H H' → H a = none → FormAt T H' a f → Q (.ref a) H') {vs : List V} (hv : vs = partsV f) :
    ∀ x dx, H x = none → H dx = none → dx ≠ x → SpF T (V.ref x :: vs) (upd (upd H dx (.own x)) x (.ins T.cForm.C dx [])) (fun v H2 => v = .non ∧ Q (.ref x) H2) E := by
  subst hv
  intro x dx hx hdx hne
  refine ⟨[.ref x], partsV f, rfl, rfl, by rw [partsV_length]; have := g.ok.2.1; exact line_big (by omega), fun p hp => ?_⟩
  have npx : p ≠ x := fun e => by rw [e, upd_same] at hp; cases hp
  have s1 : Same H (upd (upd H dx (.own x)) x (.ins T.cForm.C dx [])) := same_over (same_upd hdx) hx
  have s2 := s1.trans (same_upd (o := .tup (partsV f)) hp)
  refine ⟨x, p, dx, f, rfl, (upd_ne (Ne.symm npx)).trans upd_same, upd_same, g, fun H' s3 => ⟨rfl, ?_⟩⟩
  refine k _ x (same_over (s2.trans s3) hx) hx ⟨dx, p, upd_same, ?_, g.ok⟩
  rw [upd_ne npx]
  exact s3 _ _ upd_same
/-! ### Both, Either: __init__ -/
def spIPair (T : Txt K mg) (C : Addr) : Sp := fun vs H Q _ => ∃ (a b c dx : Addr) (f g : Form), vs = [.ref a, .ref b, .ref c] ∧ H a = some (.ins C dx []) ∧ FormAt T H b f ∧ FormAt T H c g ∧
  ∀ H' : Hp, Same H H' → Q .non (upd (upd H' a (.ins C dx [("left", .ref b)])) a (.ins C dx [("left", .ref b), ("right", .ref c)]))
theorem scIBoth : FnScope ["self", "one", "other"] ["self", "one", "other"] (defScope (inClass (top 42) 0)) := ⟨rfl, rfl, rfl, by decide +kernel, rfl, by decide +kernel, by decide +kernel⟩
theorem scIEither : FnScope ["self", "one", "other"] ["self", "one", "other"] (defScope (inClass (top 43) 0)) := ⟨rfl, rfl, rfl, by decide +kernel, rfl, by decide +kernel, by decide +kernel⟩
theorem right_left : ¬ (("left" : Str) = ("right" : Str)) := by decide +kernel
theorem put_left (b : Addr) : putF ("left" : Str) (.ref b) [] = ([("left", V.ref b)] : List (Str × V)) := rfl
theorem put_right (b c : Addr) : putF ("right" : Str) (.ref c) ([("left", V.ref b)] : List (Str × V)) = ([("left", V.ref b), ("right", V.ref c)] : List (Str × V)) := by
  unfold putF
  rw [if_neg right_left]
  rfl
theorem ok_iBoth (T : Txt K mg) : FnOk P w K mg base CX0 2 T.iBoth.f T.iBoth.fd ["self", "one", "other"] (spIPair T T.cBoth.C) := by
  have GF : FnOk P w K mg base CX0 1 T.mForms.f T.mForms.fd ["self"] (spFormsF T) := ok_formsF T
  obtain ⟨t3, k3⟩ := T.kMOSTFORMS
  refine T.iBoth.F.ok scIBoth (fun vs H Q E h => ?_) (fun cdv A outer s H vs Q E hr h => ?_)
  · obtain ⟨a, b, c, dx, f, g, rfl, _⟩ := h
    rfl
  · obtain ⟨a, b, c, dx, f, g, rfl, hA, hb, hc, k⟩ := h
    refine ⟨_, pss_cons (ps_if (pt_cmpR op_gt (pe_op op_add (pe_callB call_len_seq rfl T.zLen (by decide +kernel) (pa_cons (pe_meth0 (pv 1) T.cForm.cl T.mForms.m GF hr T.mForms.b .nil pass0) pa_nil))
        (pe_callB call_len_seq rfl T.zLen (by decide +kernel) (pa_cons (pe_meth0 (pv 2) T.cForm.cl T.mForms.m GF hr T.mForms.b .nil pass0) pa_nil))) (pe_glob (v := .int 3) rfl k3 ⟨_, rfl⟩) (nomark _)) pss_never pss_nil)
      (pss_cons (ps_fld (pv 0) (pv 1) (by rfl)) (pss_one (ps_fld (pv 0) (pv 2) (by rfl)))), ?_⟩
    obtain ⟨db, tb, hb1, _⟩ := id hb
    refine ⟨_, rfl, b, db, _, rfl, hb1, one_no pieces_no_forms, b, f, rfl, hb, fun l1 n1 => ?_⟩
    have s1 := same_upd (o := .lst [.ref b]) n1
    have hc1 := FormAt.mono s1 hc
    obtain ⟨dc, tc, hc2, _⟩ := id hc1
    refine ⟨_, _, rfl, .inl (.inl (.inl upd_same)), ?_⟩
    refine ⟨_, rfl, c, dc, _, rfl, hc2, one_no pieces_no_forms, c, g, rfl, hc1, fun l2 n2 => ?_⟩
    have s2 := s1.trans (same_upd (o := .lst [.ref c]) n2)
    refine ⟨_, _, rfl, .inl (.inl (.inl upd_same)), _, _, rfl, rfl, _, _, rfl, rfl, _, rfl, ?_⟩
    refine iteF2 rfl ?_
    refine ⟨_, rfl, _, rfl, a, _, dx, [], rfl, s2 _ _ hA, T.cBoth.cl, T.nBothLeft, by decide, ?_⟩
    rw [put_left]
    refine ⟨_, rfl, _, rfl, a, _, dx, _, rfl, upd_same, T.cBoth.cl, T.nBothRight, (by show (1 : Nat) < 1000; decide), ?_⟩
    rw [put_right]
    exact k _ s2
theorem ok_iEither (T : Txt K mg) : FnOk P w K mg base CX0 2 T.iEither.f T.iEither.fd ["self", "one", "other"] (spIPair T T.cEither.C) := by
  have GF : FnOk P w K mg base CX0 1 T.mForms.f T.mForms.fd ["self"] (spFormsF T) := ok_formsF T
  obtain ⟨t3, k3⟩ := T.kMOSTFORMS
  refine T.iEither.F.ok scIEither (fun vs H Q E h => ?_) (fun cdv A outer s H vs Q E hr h => ?_)
  · obtain ⟨a, b, c, dx, f, g, rfl, _⟩ := h
    rfl
  · obtain ⟨a, b, c, dx, f, g, rfl, hA, hb, hc, k⟩ := h
    refine ⟨_, pss_cons (ps_if (pt_cmpR op_gt (pe_op op_add (pe_callB call_len_seq rfl T.zLen (by decide +kernel) (pa_cons (pe_meth0 (pv 1) T.cForm.cl T.mForms.m GF hr T.mForms.b .nil pass0) pa_nil))
        (pe_callB call_len_seq rfl T.zLen (by decide +kernel) (pa_cons (pe_meth0 (pv 2) T.cForm.cl T.mForms.m GF hr T.mForms.b .nil pass0) pa_nil))) (pe_glob (v := .int 3) rfl k3 ⟨_, rfl⟩) (nomark _)) pss_never pss_nil)
      (pss_cons (ps_fld (pv 0) (pv 1) (by rfl)) (pss_one (ps_fld (pv 0) (pv 2) (by rfl)))), ?_⟩
    obtain ⟨db, tb, hb1, _⟩ := id hb
    refine ⟨_, rfl, b, db, _, rfl, hb1, one_no pieces_no_forms, b, f, rfl, hb, fun l1 n1 => ?_⟩
    have s1 := same_upd (o := .lst [.ref b]) n1
    have hc1 := FormAt.mono s1 hc
    obtain ⟨dc, tc, hc2, _⟩ := id hc1
    refine ⟨_, _, rfl, .inl (.inl (.inl upd_same)), ?_⟩
    refine ⟨_, rfl, c, dc, _, rfl, hc2, one_no pieces_no_forms, c, g, rfl, hc1, fun l2 n2 => ?_⟩
    have s2 := s1.trans (same_upd (o := .lst [.ref c]) n2)
    refine ⟨_, _, rfl, .inl (.inl (.inl upd_same)), _, _, rfl, rfl, _, _, rfl, rfl, _, rfl, ?_⟩
    refine iteF2 rfl ?_
    refine ⟨_, rfl, _, rfl, a, _, dx, [], rfl, s2 _ _ hA, T.cEither.cl, T.nEitherLeft, by decide, ?_⟩
    rw [put_left]
    refine ⟨_, rfl, _, rfl, a, _, dx, _, rfl, upd_same, T.cEither.cl, T.nEitherRight, (by show (1 : Nat) < 1000; decide), ?_⟩
    rw [put_right]
    exact k _ s2
/-! ### a & b, a | b -/
theorem made_pair (T : Txt K mg) (C : Addr) {H : Hp} {b c : Addr} {f g : Form} {q : Pat} (hq : ∀ (H' : Hp) (a dx : Addr), H' a = some (.ins C dx [("left", .ref b), ("right", .ref c)]) → FormAt T H' b f → FormAt T H' c g → PatAt T H' a q) (hb : FormAt T H b f) (hc : FormAt T H c g) {Q : VK} {E : XK} (k : ∀ (H' : Hp) (a : Addr), Same H H' → H a = none → PatAt T H' a q → Q (.ref a) H') :
    ∀ x dx, H x = none → H dx = none → dx ≠ x → spIPair T C (.ref x :: ([.ref b, .ref c] ++ [])) (upd (upd H dx (.own x)) x (.ins C dx [])) (fun v H2 => v = .non ∧ Q (.ref x) H2) E := by
  intro x dx hx hdx hne
  have s1 : Same H (upd (upd H dx (.own x)) x (.ins C dx [])) := same_over (same_upd hdx) hx
  refine ⟨x, b, c, dx, f, g, rfl, upd_same, hb.mono s1, hc.mono s1, fun H' s2 => ⟨rfl, ?_⟩⟩
  have s3 : Same H (upd (upd H' x (.ins C dx [("left", .ref b)])) x (.ins C dx [("left", .ref b), ("right", .ref c)])) := same_over (same_over (s1.trans s2) hx) hx
  exact k _ x s3 hx (hq _ _ _ upd_same (hb.mono s3) (hc.mono s3))
def spPair (T : Txt K mg) (q : Form → Form → Pat) : Sp := fun vs H Q _ => ∃ (a b : Addr) (f g : Form), vs = [.ref a, .ref b] ∧ FormAt T H a f ∧ FormAt T H b g ∧ ∀ (H' : Hp) (c : Addr), Same H H' → H c = none → PatAt T H' c (q f g) → Q (.ref c) H'
theorem scAnd : FnScope ["self", "other"] ["self", "other"] (defScope (inClass (top 40) 0)) := ⟨rfl, rfl, rfl, by decide +kernel, rfl, by decide +kernel, by decide +kernel⟩
theorem scOr : FnScope ["self", "other"] ["self", "other"] (defScope (inClass (top 40) 1)) := ⟨rfl, rfl, rfl, by decide +kernel, rfl, by decide +kernel, by decide +kernel⟩
theorem ok_and (T : Txt K mg) : FnOk P w K mg base CX0 4 T.mAnd.f T.mAnd.fd ["self", "other"] (spPair T .both) := by
  have GI : FnOk P w K mg base CX0 2 T.iBoth.f T.iBoth.fd ["self", "one", "other"] (spIPair T T.cBoth.C) := ok_iBoth T
  refine T.mAnd.F.ok scAnd (fun vs H Q E h => ?_) (fun cdv A outer s H vs Q E hr h => ?_)
  · obtain ⟨a, b, f, g, rfl, _⟩ := h
    rfl
  · obtain ⟨a, b, f, g, rfl, ha, hb, k⟩ := h
    refine ⟨_, pss_cons (ps_if (pt_not (pt_val (pe_callB call_isi rfl T.zIsinstance (by decide +kernel) (pa_cons (pv 1) (pa_cons (pe_glob (v := .ref T.pattern) rfl T.kPattern rfl) pa_nil))))) pss_never pss_nil)
      (pss_one (ps_ret (pe_make ⟨T.cBoth.makes, T.iBoth.m.at_, T.iBoth.m.fn, T.cBoth.kp⟩ GI hr rfl T.cBoth.m T.iBoth.b .nil pass0 (pa_cons (pv 0) (pa_cons (pv 1) pa_nil))))), ?_⟩
    obtain ⟨db, tb, hb1, _⟩ := id hb
    refine ⟨_, rfl, _, _, _, _, true, rfl, .own _, .base (.ins hb1 T.cForm.cl T.cForm.ha T.cForm.hn T.cForm.ht T.cForm.hm), T.kitForm, _, rfl, ?_⟩
    refine iteF ?_
    exact ⟨_, rfl, _, rfl, made_pair T T.cBoth.C (q := .both f g) (fun H' x dx h1 h2 h3 => ⟨dx, a, b, h1, h2, h3⟩) ha hb k⟩
theorem ok_or (T : Txt K mg) : FnOk P w K mg base CX0 4 T.mOr.f T.mOr.fd ["self", "other"] (spPair T .either) := by
  have GI : FnOk P w K mg base CX0 2 T.iEither.f T.iEither.fd ["self", "one", "other"] (spIPair T T.cEither.C) := ok_iEither T
  refine T.mOr.F.ok scOr (fun vs H Q E h => ?_) (fun cdv A outer s H vs Q E hr h => ?_)
  · obtain ⟨a, b, f, g, rfl, _⟩ := h
    rfl
  · obtain ⟨a, b, f, g, rfl, ha, hb, k⟩ := h
    refine ⟨_, pss_cons (ps_if (pt_not (pt_val (pe_callB call_isi rfl T.zIsinstance (by decide +kernel) (pa_cons (pv 1) (pa_cons (pe_glob (v := .ref T.pattern) rfl T.kPattern rfl) pa_nil))))) pss_never pss_nil)
      (pss_one (ps_ret (pe_make ⟨T.cEither.makes, T.iEither.m.at_, T.iEither.m.fn, T.cEither.kp⟩ GI hr rfl T.cEither.m T.iEither.b .nil pass0 (pa_cons (pv 0) (pa_cons (pv 1) pa_nil))))), ?_⟩
    obtain ⟨db, tb, hb1, _⟩ := id hb
    refine ⟨_, rfl, _, _, _, _, true, rfl, .own _, .base (.ins hb1 T.cForm.cl T.cForm.ha T.cForm.hn T.cForm.ht T.cForm.hm), T.kitForm, _, rfl, ?_⟩
    refine iteF ?_
    exact ⟨_, rfl, _, rfl, made_pair T T.cEither.C (q := .either f g) (fun H' x dx h1 h2 h3 => ⟨dx, a, b, h1, h2, h3⟩) ha hb k⟩
end
section
variable {X : Cx} {mg : Str → Option Value}
theorem form_inst {K : PySem.W.Frag} {T : Txt K mg} {pins : List (Addr × Obj)} {σ : L2.St} {H : Hp} {s : Shared} {a : Addr} {f : Form} (I : Inv X pins σ H s) (h : FormAt T H a f) : ∃ ox od, PySem.W.InstAt s.heap a ox T.cForm.C od ∧ ox.data = .plain := by
  obtain ⟨dx, t, h1, _⟩ := h
  exact StX.insC_at I (.inr ⟨dx, _, h1⟩)
theorem op_pair (T : Txt X.K X.mg) (hr : Room 4 X.A) {op : Operator} {q : Form → Form → Pat} {fd : FuncData} {fa : Addr} (G : FnOk X.prog X.w X.K X.mg X.base CX0 4 fa fd ["self", "other"] (spPair T q)) (hb : Binds X.K fd ["self", "other"] [])
    (hs : PySem.W.findIn X.K (.ref T.cForm.C) (PySem.dunder op.info.2) = some (some (.ref fa))) (hf : PySem.W.isFn X.K (.ref fa) = true) :
    OpR X (binaryOp op) (fun x y H Q => ∃ (a b : Addr) (f g : Form), x = .ref a ∧ y = .ref b ∧ FormAt T H a f ∧ FormAt T H b g ∧ ∀ (H' : Hp) (c : Addr), Same H H' → H c = none → PatAt T H' c (q f g) → Q (.ref c) H') := by
  intro pins s σ H x y v u Q I rx ry h
  obtain ⟨a, b, f, g, rfl, rfl, ha, hb', k⟩ := h
  cases rx
  cases ry
  obtain ⟨m, F⟩ := I.fr
  obtain ⟨ox, od, J, _⟩ := form_inst I ha
  obtain ⟨ox2, od2, J2, _⟩ := form_inst I hb'
  refine PySem.W.binop_K F I.ok.mod.kin J J2.type T.sfForm hs hf ?_
  refine wpAny_mono (run_fn (Q := fun v H' => ∃ c, v = .ref c ∧ Q v H') G hr hb .nil pass0 I (us := [.ref a, .ref b]) (vs := [.ref a, .ref b]) (.cons rfl (.cons rfl .nil)) ⟨a, b, f, g, rfl, ha, hb', fun H' c s1 hc hp => ⟨c, rfl, k H' c s1 hc hp⟩⟩) (fun r s' hq => ?_) fun _ _ z => z
  obtain ⟨v, H', I', rv, c, rfl, q⟩ := hq
  cases rv
  exact ⟨.ref c, H', I', rfl, q⟩
theorem op_bitand (T : Txt X.K X.mg) (hr : Room 4 X.A) : OpR X (binaryOp .BitAnd) (fun x y H Q => ∃ (a b : Addr) (f g : Form), x = .ref a ∧ y = .ref b ∧ FormAt T H a f ∧ FormAt T H b g ∧ ∀ (H' : Hp) (c : Addr), Same H H' → H c = none → PatAt T H' c (.both f g) → Q (.ref c) H') :=
  op_pair T hr (ok_and T) T.mAnd.b T.mAnd.m.at_ T.mAnd.m.fn
theorem op_bitor (T : Txt X.K X.mg) (hr : Room 4 X.A) : OpR X (binaryOp .BitOr) (fun x y H Q => ∃ (a b : Addr) (f g : Form), x = .ref a ∧ y = .ref b ∧ FormAt T H a f ∧ FormAt T H b g ∧ ∀ (H' : Hp) (c : Addr), Same H H' → H c = none → PatAt T H' c (.either f g) → Q (.ref c) H') :=
  op_pair T hr (ok_or T) T.mOr.b T.mOr.m.at_ T.mOr.m.fn
end
end K35
namespace K35
open PySem L2
section
variable {P : Program} {w : World} {K : PySem.W.Frag} {mg : Str → Option Value} {base : Heap}
/-! ### line in form -/
def spContains (T : Txt K mg) : Sp := fun vs H Q _ => ∃ (a : Addr) (f : Form) (u : Line), vs = [.ref a, .str (strOf u)] ∧ FormAt T H a f ∧ IsLine u ∧ ∀ H' : Hp, Same H H' → Q (.bl (fitsF f u)) H'
theorem scContains : FnScope ["self", "line", "truths", "form", "cells", "positions", "sign"] ["self", "line"] (defScope (inClass (top 40) 2)) := ⟨rfl, rfl, rfl, by decide +kernel, rfl, by decide +kernel, by decide +kernel⟩
theorem isLineB_of {u : Line} (h : IsLine u) : isLineB (strOf u).cps.toList = true := by
  rw [strOf_list]
  unfold isLineB
  have e1 : u.isEmpty = false := by cases u with
    | nil => exact absurd rfl h.1
    | cons a l => rfl
  rw [e1, Bool.not_false, Bool.true_and, List.all_eq_true]
  exact fun c hc => decide_eq_true (h.2 c hc)
theorem ok_contains (T : Txt K mg) : FnOk P w K mg base CX0 3 T.mContains.f T.mContains.fd ["self", "line"] (spContains T) := by
  have GL : FnOk P w K mg base CX0 1 T.dIsLine.f T.dIsLine.fd ["thing"] spIsLine := ok_is_line T
  have GF : FnOk P w K mg base CX0 1 T.mForms.f T.mForms.fd ["self"] (spFormsF T) := ok_formsF T
  have GC : FnOk P w K mg base CX0 1 T.dCellsOf.f T.dCellsOf.fd ["parts"] (spCellsOf K) := ok_cells_of T
  have GP : FnOk P w K mg base CX0 1 T.mParts.f T.mParts.fd ["self"] (spParts T.cForm.C) := ok_parts T
  have GS : FnOk P w K mg base CX0 2 T.dStarted.f T.dStarted.fd ["cells"] (spStarted K) := ok_started T
  have GM : FnOk P w K mg base CX0 2 T.dMoved.f T.dMoved.fd ["cells", "positions", "sign"] (spMoved K) := ok_moved T
  have GD : FnOk P w K mg base CX0 1 T.dIsDone.f T.dIsDone.fd ["cells", "positions"] (spIsDone K) := ok_is_done T
  have GH : FnOk P w K mg base CX0 1 T.mHolds.f T.mHolds.fd ["self", "truths"] (spHoldsF T) := ok_holdsF T
  refine T.mContains.F.ok scContains (fun vs H Q E h => ?_) (fun cdv A outer s H vs Q E hr h => ?_)
  · obtain ⟨a, f, u, rfl, _⟩ := h
    rfl
  · obtain ⟨a, f, u, rfl, hA, hu, k⟩ := h
    have hr1 := hr.mono (show 1 ≤ 2 by decide)
    refine ⟨_, pss_cons (ps_if (pt_not (pt_val (pe_call GL hr1 rfl T.dIsLine.m T.dIsLine.F.kp T.dIsLine.b .nil pass0 (pa_cons (pv 1) pa_nil)))) (pss_one (ps_ret pe_bl)) pss_nil)
      (pss_cons (ps_set (i := 2) scContains.nd rfl (.inl rfl) (pe_lst pa_nil))
      (pss_cons (ps_for PassesOwn.never rfl (pi_list (pe_meth0 (pv 0) T.cForm.cl T.mForms.m GF hr1 T.mForms.b .nil pass0)) (pg_name (i := 3) scContains.nd rfl (.inl rfl))
        (pss_cons (ps_set (i := 4) scContains.nd rfl (.inl rfl) (pe_call GC hr1 rfl T.dCellsOf.m T.dCellsOf.F.kp T.dCellsOf.b .nil pass0 (pa_cons (pe_meth0 (pv 3) T.cForm.cl T.mParts.m GP hr1 T.mParts.b .nil pass0) pa_nil)))
        (pss_cons (ps_set (i := 5) scContains.nd rfl (.inl rfl) (pe_call GS hr rfl T.dStarted.m T.dStarted.F.kp T.dStarted.b .nil pass0 (pa_cons (pv 4) pa_nil)))
        (pss_cons (ps_for PassesOwn.never rfl (pi_str (pv 1)) (pg_name (i := 6) scContains.nd rfl (.inl rfl))
          (pss_one (ps_set (i := 5) scContains.nd rfl (.inl rfl) (pe_call GM hr rfl T.dMoved.m T.dMoved.F.kp T.dMoved.b .nil pass0 (pa_cons (pv 4) (pa_cons (pv 5) (pa_cons (pv 6) pa_nil)))))))
        (pss_one (ps_expr (pe_bm PySem.F.plainAttrs_list PySem.F.slot_list_append PySem.F.type_list_append mt_append (pv 2) (pa_cons (pe_call GD hr1 rfl T.dIsDone.m T.dIsDone.F.kp T.dIsDone.b .nil pass0 (pa_cons (pv 4) (pa_cons (pv 5) pa_nil))) pa_nil))))))))
      (pss_one (ps_ret (pe_meth (pv 0) T.cForm.cl T.mHolds.m GH hr1 T.mHolds.b .nil pass0 (pa_cons (pv 2) pa_nil)))))), ?_⟩
    refine ⟨_, rfl, strOf u, rfl, _, rfl, ?_⟩
    rw [isLineB_of hu]
    refine iteF ⟨Nat.zero_le _, fun tl htl => ?_⟩
    have s0 := same_upd (o := .lst []) htl
    obtain ⟨dx, t, h1, h2, fo⟩ := id hA
    refine ⟨_, rfl, a, dx, _, rfl, s0 _ _ h1, one_no pieces_no_forms, a, f, rfl, hA.mono s0, fun fl hfl => ?_⟩
    have s1 := s0.trans (same_upd (o := .lst [.ref a]) hfl)
    have htl1 : upd (upd H tl (.lst [])) fl (.lst [.ref a]) tl = some (.lst []) := same_upd hfl _ _ upd_same
    have nft : fl ≠ tl := fun e => by rw [e, upd_same] at hfl; cases hfl
    refine ⟨fl, rfl, ⟨_, .inl (.inl upd_same)⟩, for_it (walk_list (xs := [V.ref a])) (fun i σ H2 => (∃ v3 v4 v5 v6, σ = [some (.ref a), some (.str (strOf u)), some (.ref tl), v3, v4, v5, v6]) ∧ Same H H2 ∧ H2 fl = some (.lst [.ref a]) ∧ H2 tl = some (.lst (if i = 0 then [] else [.bl (fitsF f u)])))
      ⟨⟨_, _, _, _, rfl⟩, s1, upd_same, htl1⟩ (fun i σ H2 _ q => .inl (.inl q.2.2.1)) ?_ ?_⟩
    · rintro i x σ H0 H2 hi ⟨⟨v3, v4, v5, v6, rfl⟩, s2, hfl2, htl2⟩ ⟨rfl, hx⟩
      obtain rfl : i = 0 := by
        have : i < 1 := hi
        omega
      have ex : x = .ref a := by simpa using hx.symm
      subst ex
      rw [if_pos rfl] at htl2
      obtain ⟨dx2, t2, h3, h4, _⟩ := FormAt.mono s2 hA
      refine ⟨_, rfl, a, dx2, _, rfl, h3, one_no pieces_no_parts, a, dx2, t2, rfl, h3, ?_⟩
      refine ⟨t2, f, rfl, .inl (.inl h4), fo, fun H3 c s3 hn3 hc3 => ?_⟩
      refine ⟨_, rfl, c, cellsOf f, rfl, .inl (.inl hc3), by have := fo.cells; omega, fun H4 p s4 hn4 hp4 => ?_⟩
      have s24 := (s2.trans s3).trans s4
      have htl4 := s4 _ _ (s3 _ _ htl2)
      have hfl4 := s4 _ _ (s3 _ _ hfl2)
      have hc4 := s4 _ _ hc3
      refine ⟨_, rfl, _, rfl, for_it (walk_str (z := strOf u)) (fun j σ H5 => (∃ v6 q, σ = [some (.ref a), some (.str (strOf u)), some (.ref tl), some (.ref a), some (.ref c), some (.ref q), v6] ∧ TupAt H5 q (run (cellsOf f) (u.take j))) ∧ Same H4 H5)
        ⟨⟨_, p, rfl, hp4⟩, Same.refl _⟩ (fun _ _ _ _ _ => trivial) ?_ ?_⟩
      · rintro j x σ H6 H5 hj ⟨⟨v6, q, rfl, hq⟩, s5⟩ ⟨rfl, d, hd, rfl⟩
        have hd' : u[j]? = some d := by simpa [strOf] using hd
        refine ⟨_, rfl, _, rfl, _, rfl, c, q, cellsOf f, run (cellsOf f) (u.take j), d, rfl, .inl (.inl (s5 _ _ hc4)), .inl (.inl hq), by have := fo.cells; omega, fun x hx => run_le hx, by have h1 := run_len (cellsOf f) (u.take j); have := fo.cells; omega, fun H7 r s7 hr7 hrv => ?_⟩
        refine ⟨⟨_, r, rfl, ?_⟩, s5.trans s7⟩
        rw [take_snoc hd', run_snoc]
        exact hrv
      · rintro σ H5 ⟨⟨v6, q, rfl, hq⟩, s5⟩
        have e1 : (strOf u).cps.size = u.length := by
          show u.toArray.size = _
          simp
        rw [e1, List.take_length] at hq
        have htl5 := s5 _ _ htl4
        refine ⟨_, rfl, .inl ⟨rfl, _, .inl (.inl htl5)⟩, _, rfl, _, rfl, c, q, cellsOf f, run (cellsOf f) u, rfl, .inl (.inl (s5 _ _ hc4)), .inl (.inl hq), ?_⟩
        refine ⟨_, _, _, rfl, rfl, htl5, line_lt (n := 0) (by decide), ⟨_, _, _, _, rfl⟩, same_over (s24.trans s5) htl, ?_, ?_⟩
        · rw [upd_ne nft]
          exact s5 _ _ hfl4
        · rw [upd_same]
          rfl
    · rintro σ H2 ⟨⟨v3, v4, v5, v6, rfl⟩, s2, hfl2, htl2⟩
      obtain ⟨dx2, t2, h3, h4, _⟩ := FormAt.mono s2 hA
      refine ⟨_, rfl, a, dx2, _, rfl, h3, one_no pieces_no_holds, _, rfl, a, tl, f, fitsF f u, rfl, hA.mono s2, .inl (.inl htl2), ?_⟩
      exact k _ s2
end
section
variable {X : Cx}
theorem op_notInF (T : Txt X.K X.mg) (hr : Room 3 X.A) : OpR X (compareOp .NotIn) (fun x y H Q => ∃ (a : Addr) (f : Form) (u : Line), x = .str (strOf u) ∧ y = .ref a ∧ FormAt T H a f ∧ IsLine u ∧ ∀ H' : Hp, Same H H' → Q (.bl (!fitsF f u)) H') := by
  intro pins s σ H x y v u0 Q I rx ry h
  obtain ⟨a, f, u, rfl, rfl, ha, hu, k⟩ := h
  cases ry
  obtain ⟨m, F⟩ := I.fr
  obtain ⟨ox, od, J, _⟩ := form_inst I ha
  refine PySem.W.notIn_K F I.ok.mod.kin J T.mContains.m.at_ T.mContains.m.fn ?_
  refine wpAny_mono (run_fn (Q := fun v H' => v = .bl (fitsF f u) ∧ Same H H') (ok_contains T) hr T.mContains.b .nil pass0 I (us := [.ref a, v]) (vs := [.ref a, .str (strOf u)]) (.cons rfl (.cons rx .nil)) ⟨a, f, u, rfl, ha, hu, fun H' s1 => ⟨rfl, s1⟩⟩) (fun r s' hq => ?_) fun _ _ z => z
  obtain ⟨v2, H', I', rv, rfl, s1⟩ := hq
  cases rv
  exact wpAny_truthy_bool ⟨.bl _, H', I', rfl, k H' s1⟩
end
end K35
namespace K35
open PySem L2
/-! ### the settings of a rule -/
abbrev fMost : Str := "most"
abbrev fAlone : Str := "alone"
abbrev fTags : Str := "tags"
abbrev fQuiet : Str := "quiet"
def OkSet (x : Str) (v : V) : Prop := (x = fMost ∧ (v = .non ∨ ∃ m : Nat, v = .int m ∧ 1 ≤ m ∧ m ≤ 20)) ∨ (x = fTags ∧ (v = .non ∨ ∃ m : Nat, v = .int m ∧ m ≤ 9)) ∨ ((x = fAlone ∨ x = fQuiet) ∧ ∃ b, v = .bl b)
section
variable {P : Program} {w : World} {K : PySem.W.Frag} {mg : Str → Option Value} {base : Heap}
def spIsAllowedR : Sp := fun vs H Q _ => ∃ (x : Str) (v : V), vs = [.str x, v] ∧ OkSet x v ∧ ∀ H' : Hp, Same H H' → Q (.bl true) H'
theorem scIsAllowedR : FnScope ["field", "value"] ["field", "value"] (defScope (top 46)) := ⟨rfl, rfl, rfl, by decide +kernel, rfl, by decide +kernel, by decide +kernel⟩
theorem isi_ii {K : PySem.W.Frag} : PySem.W.kitOne K (.type "int") (.type "int") = some true := by
  unfold PySem.W.kitOne
  first | rfl | decide +kernel
theorem isi_ib {K : PySem.W.Frag} : PySem.W.kitOne K (.type "int") (.type "bool") = some false := by
  unfold PySem.W.kitOne
  first | rfl | decide +kernel
theorem ok_is_allowedR (T : Txt K mg) : FnOk P w K mg base CX0 1 T.dIsAllowedRules.f T.dIsAllowedRules.fd ["field", "value"] spIsAllowedR := by
  refine T.dIsAllowedRules.F.ok scIsAllowedR (fun vs H Q E h => ?_) (fun cdv A outer s H vs Q E hr h => ?_)
  · obtain ⟨x, v, rfl, _⟩ := h
    rfl
  · obtain ⟨x, v, rfl, ho, k⟩ := h
    refine ⟨_, pss_cons (ps_if (pt_cmpR op_in_seq (pv 0) (pe_tup (pa_cons pe_str (pa_cons pe_str pa_nil))) (by rfl)) (pss_one (ps_ret (pe_or (pe_cmpR op_is_bl (pv 1) pe_bl (by rfl)) (pe_one (pe_cmpR op_is_bl (pv 1) pe_bl (by rfl)))))) pss_nil)
      (pss_cons (ps_if (pt_cmpR op_isN (pv 1) pe_non (by rfl)) (pss_one (ps_ret pe_bl)) pss_nil)
      (pss_cons (ps_if (PW.pt (pw_or (pt_not (pt_val (pe_callB call_isi rfl T.zIsinstance (by decide +kernel) (pa_cons (pv 1) (pa_cons (pe_bltn (v := .ty "int") rfl T.zInt (by decide +kernel) rfl) pa_nil)))))
          (pw_or1 (pt_val (pe_callB call_isi rfl T.zIsinstance (by decide +kernel) (pa_cons (pv 1) (pa_cons (pe_bltn (v := .ty "bool") rfl T.zBool (by decide +kernel) rfl) pa_nil))))))) (pss_one (ps_ret pe_bl)) pss_nil)
      (pss_cons (ps_if (pt_cmpR op_eq (pv 0) pe_str (nomark _)) (pss_one (ps_ret (pe_chain op_le op_le pe_int (pv 1) pe_int))) pss_nil)
      (pss_one (ps_ret (pe_chain op_le op_le pe_int (pv 1) pe_int)))))), ?_⟩
    refine ⟨_, rfl, line_big (n := 2) (by decide), fun p hp => ?_⟩
    have s1 := same_upd (o := .tup [.str fAlone, .str fQuiet]) hp
    refine ⟨p, _, rfl, .inr (.inl (.inl upd_same)), rfl, strs_flat [fAlone, fQuiet], _, rfl, ?_⟩
    have num : ∀ {R : Prop} {m lo hi : Nat} {H' : Hp}, lo ≤ m → m ≤ hi → (Q (.bl true) H') → (∃ k, V.bl (decide (((lo : Nat) : Int) ≤ (m : Nat))) = .bl k ∧ (if k = true then ∃ i j, V.int (m : Nat) = .int i ∧ V.int ((hi : Nat) : Int) = .int j ∧ Q (.bl (decide (i ≤ j))) H' else Q (.bl false) H')) := by
      intro R m lo hi H' h1 h2 hq
      refine ⟨_, rfl, iteT2 (decide_eq_true (by omega)) ⟨_, _, rfl, rfl, ?_⟩⟩
      rw [show decide (((m : Nat) : Int) ≤ (hi : Nat)) = true from decide_eq_true (by omega)]
      exact hq
    have kk := k _ s1
    rcases ho with ⟨rfl, hv⟩ | ⟨rfl, hv⟩ | ⟨hx, b, rfl⟩
    · refine iteF2 ((inV_strs fMost [fAlone, fQuiet]).trans (by decide +kernel)) ?_
      rcases hv with rfl | ⟨m, rfl, h1, h2⟩
      · exact ⟨_, rfl, rfl, _, rfl, iteT2 (decide_eq_true rfl) kk⟩
      · refine ⟨_, rfl, rfl, _, rfl, iteF2 (decide_eq_false fun z => nomatch z) ?_⟩
        refine ⟨_, rfl, _, _, _, _, true, rfl, .ty _, .base (.int _), isi_ii, _, rfl, iteF ?_⟩
        refine ⟨_, rfl, _, _, _, _, false, rfl, .ty _, .base (.int _), isi_ib, _, rfl, iteF ?_⟩
        refine ⟨_, rfl, rfl, _, rfl, iteT2 (decide_eq_true rfl) ?_⟩
        exact ⟨_, rfl, _, _, rfl, rfl, num (R := True) (lo := 1) (hi := 20) h1 h2 kk⟩
    · refine iteF2 ((inV_strs fTags [fAlone, fQuiet]).trans (by decide +kernel)) ?_
      rcases hv with rfl | ⟨m, rfl, h2⟩
      · exact ⟨_, rfl, rfl, _, rfl, iteT2 (decide_eq_true rfl) kk⟩
      · refine ⟨_, rfl, rfl, _, rfl, iteF2 (decide_eq_false fun z => nomatch z) ?_⟩
        refine ⟨_, rfl, _, _, _, _, true, rfl, .ty _, .base (.int _), isi_ii, _, rfl, iteF ?_⟩
        refine ⟨_, rfl, _, _, _, _, false, rfl, .ty _, .base (.int _), isi_ib, _, rfl, iteF ?_⟩
        refine ⟨_, rfl, rfl, _, rfl, iteF2 ((dec_str_iff (p := fTags = fMost) Iff.rfl).trans (by decide +kernel)) ?_⟩
        exact ⟨_, rfl, _, _, rfl, rfl, num (R := True) (lo := 0) (hi := 9) (Nat.zero_le _) h2 kk⟩
    · refine iteT2 ?_ ?_
      · rcases hx with rfl | rfl
        · exact (inV_strs fAlone [fAlone, fQuiet]).trans (by decide +kernel)
        · exact (inV_strs fQuiet [fAlone, fQuiet]).trans (by decide +kernel)
      · refine ⟨_, rfl, _, _, rfl, rfl, _, rfl, ?_⟩
        cases b with
        | true => exact iteT kk
        | false => exact iteF ⟨_, rfl, _, _, rfl, rfl, kk⟩
/-! ### check_settings -/
def setRows (m a t q : V) : List (Key × V) := [(.inr fMost, m), (.inr fAlone, a), (.inr fTags, t), (.inr fQuiet, q)]
structure OkSets (m a t q : V) : Prop where
  most : OkSet fMost m
  alone : OkSet fAlone a
  tags : OkSet fTags t
  quiet : OkSet fQuiet q
theorem val_set {m a t q : V} (o : OkSets m a t q) {x : Str} (h : x ∈ ([fMost, fAlone, fTags, fQuiet] : List Str)) : ∃ v, valV (setRows m a t q) (.inr x) = some v ∧ OkSet x v := by
  have e : ∀ (x y : Str), ¬ x = y → ¬ ((.inr x : Key) = .inr y) := fun x y n z => n (by injection z)
  have n1 : ¬ fMost = fAlone := by decide +kernel
  have n2 : ¬ fMost = fTags := by decide +kernel
  have n3 : ¬ fMost = fQuiet := by decide +kernel
  have n4 : ¬ fAlone = fTags := by decide +kernel
  have n5 : ¬ fAlone = fQuiet := by decide +kernel
  have n6 : ¬ fTags = fQuiet := by decide +kernel
  rcases List.mem_cons.mp h with rfl | h
  · exact ⟨m, by simp [valV, setRows], o.most⟩
  rcases List.mem_cons.mp h with rfl | h
  · exact ⟨a, by simp [valV, setRows, n1], o.alone⟩
  rcases List.mem_cons.mp h with rfl | h
  · exact ⟨t, by simp [valV, setRows, n2, n4], o.tags⟩
  rcases List.mem_cons.mp h with rfl | h
  · exact ⟨q, by simp [valV, setRows, n3, n5, n6], o.quiet⟩
  · simp at h
def spCheck : Sp := fun vs H Q _ => ∃ (d : Addr) (m a t q : V), vs = [.ref d] ∧ H d = some (.dK (setRows m a t q)) ∧ OkSets m a t q ∧ ∀ H' : Hp, Same H H' → Q .non H'
theorem scCheck : FnScope ["settings", "field"] ["settings"] (defScope (top 48)) := ⟨rfl, rfl, rfl, by decide +kernel, rfl, by decide +kernel, by decide +kernel⟩
theorem ok_check (T : Txt K mg) : FnOk P w K mg base CX0 2 T.dCheckSettings.f T.dCheckSettings.fd ["settings"] spCheck := by
  have GA : FnOk P w K mg base CX0 1 T.dIsAllowedRules.f T.dIsAllowedRules.fd ["field", "value"] spIsAllowedR := ok_is_allowedR T
  refine T.dCheckSettings.F.ok scCheck (fun vs H Q E h => ?_) (fun cdv A outer s H vs Q E hr h => ?_)
  · obtain ⟨d, m, a, t, q, rfl, _⟩ := h
    rfl
  · obtain ⟨d, m, a, t, q, rfl, hD, ho, k⟩ := h
    have hu := hu_of hr
    refine ⟨_, pss_one (ps_for PassesOwn.never rfl (pi_tup (pe_glob (v := .ref T.fields) rfl T.kFIELDS rfl)) (pg_name (i := 1) scCheck.nd rfl (.inl rfl))
      (pss_one (ps_if (PW.pt (pw_and (pt_cmp (pc_din hu (pv 1) (pv 0)) (by rfl)) (pw_and1 (pt_not (pt_val (pe_call GA hr rfl T.dIsAllowedRules.m T.dIsAllowedRules.F.kp T.dIsAllowedRules.b .nil pass0 (pa_cons (pv 1) (pa_cons (pe_dget hu (pv 0) (pv 1) (by exact fun _ _ => rfl)) pa_nil))))))))
        pss_never pss_nil))), ?_⟩
    refine ⟨T.fields, rfl, ⟨_, T.sFIELDS _⟩, for_it (walk_tup (xs := ([fMost, fAlone, fTags, fQuiet] : List Str).map V.str)) (fun i σ H2 => (∃ v, σ = [some (.ref d), v]) ∧ Same H H2) ⟨⟨_, rfl⟩, Same.refl _⟩ (fun i σ H2 _ _ => T.sFIELDS _) ?_ ?_⟩
    · rintro i x σ H0 H2 hi ⟨⟨v, rfl⟩, s2⟩ ⟨rfl, hx⟩
      obtain ⟨x0, hx0, rfl⟩ : ∃ x0, x0 ∈ ([fMost, fAlone, fTags, fQuiet] : List Str) ∧ x = .str x0 := by
        rw [List.getElem?_map] at hx
        obtain ⟨y, hy, e⟩ := Option.map_eq_some_iff.mp hx
        exact ⟨y, List.mem_of_getElem? hy, e.symm⟩
      obtain ⟨u, hu1, hu2⟩ := val_set ho hx0
      refine ⟨_, rfl, _, rfl, d, _, rfl, DGet.k (k := .inr x0) (s2 _ _ hD), _, rfl, ?_⟩
      rw [hu1]
      refine iteT ?_
      refine ⟨_, rfl, _, rfl, _, rfl, d, u, rfl, ?_, ?_⟩
      · have := DGet.k (k := .inr x0) (s2 _ _ hD)
        rw [hu1] at this
        exact this
      · exact ⟨x0, u, rfl, hu2, fun H3 s3 => ⟨_, rfl, iteF ⟨⟨_, rfl⟩, s2.trans s3⟩⟩⟩
    · rintro σ H2 ⟨⟨v, rfl⟩, s2⟩
      exact k _ s2
end
end K35
namespace K35
open PySem L2
section
variable {P : Program} {w : World} {K : PySem.W.Frag} {mg : Str → Option Value} {base : Heap}
/-! ### Rule.__init__ -/
abbrev psRule : List Str := ["self", "begins", "ends", "most", "alone", "tags", "quiet"]
theorem kb_rule (T : Txt K mg) : KBn K T.iRule.fd psRule (2 + 1) [fMost, fAlone, fTags, fQuiet] (fun us ws => us ++ ws) (fun vs zs => vs ++ zs) := by
  obtain ⟨oc, od, kV, doc, pm, an, cdv, ct, osl, e, lk, hcd⟩ := T.iRule.F.ex
  rw [e]
  refine ⟨fun s us ws X l1 l2 => ?_, fun r1 r2 => r1.append r2⟩
  match us, ws, l1, l2 with
  | [u1, u2, u3], [w1, w2, w3, w4], _, _ => exact BindsTo.of_looks fun M => PySem.W.Looks.of_pure rfl
def spIRule (T : Txt K mg) : Sp := fun vs H Q _ => ∃ (a b e dx : Addr) (as es : List Addr) (m al tg q : V), vs = [.ref a, .ref b, .ref e, m, al, tg, q] ∧ H a = some (.ins T.cRule.C dx []) ∧ H b = some (.lst (refsV as)) ∧ H e = some (.lst (refsV es)) ∧ as.length + es.length ≤ 6 ∧ OkSets m al tg q ∧
  ∀ (H' : Hp) (o c d : Addr), (∀ x u, x ≠ a → H x = some u → H' x = some u) → H' a = some (.ins T.cRule.C dx [("openers", .ref o), ("closers", .ref c), ("settings", .ref d)]) → H' o = some (.lst (refsV as)) → H' c = some (.lst (refsV es)) → Q .non H'
theorem scIRule : FnScope ["self", "begins", "ends", "most", "alone", "tags", "quiet", "settings"] psRule (defScope (inClass (top 50) 0)) := ⟨rfl, rfl, rfl, by decide +kernel, rfl, by decide +kernel, by decide +kernel⟩
theorem put_op (b : Addr) : putF ("openers" : Str) (.ref b) [] = ([("openers", V.ref b)] : List (Str × V)) := rfl
theorem put_cl (b c : Addr) : putF ("closers" : Str) (.ref c) ([("openers", V.ref b)] : List (Str × V)) = ([("openers", V.ref b), ("closers", V.ref c)] : List (Str × V)) := by
  unfold putF
  rw [if_neg (by decide +kernel)]
  rfl
theorem put_se (b c d : Addr) : putF ("settings" : Str) (.ref d) ([("openers", V.ref b), ("closers", V.ref c)] : List (Str × V)) = ([("openers", V.ref b), ("closers", V.ref c), ("settings", V.ref d)] : List (Str × V)) := by
  unfold putF
  rw [if_neg (by decide +kernel)]
  unfold putF
  rw [if_neg (by decide +kernel)]
  rfl
theorem merge_set (m a t q : V) : mergeK [] (setRows m a t q) = setRows m a t q := by
  have n1 : ¬ fMost = fAlone := by decide +kernel
  have n2 : ¬ fMost = fTags := by decide +kernel
  have n3 : ¬ fMost = fQuiet := by decide +kernel
  have n4 : ¬ fAlone = fTags := by decide +kernel
  have n5 : ¬ fAlone = fQuiet := by decide +kernel
  have n6 : ¬ fTags = fQuiet := by decide +kernel
  simp [mergeK, setRows, putK, n1, n2, n3, n4, n5, n6]
theorem ok_iRule (T : Txt K mg) : FnOk P w K mg base CX0 3 T.iRule.f T.iRule.fd psRule (spIRule T) := by
  have GC : FnOk P w K mg base CX0 2 T.dCheckSettings.f T.dCheckSettings.fd ["settings"] spCheck := ok_check T
  refine T.iRule.F.ok scIRule (fun vs H Q E h => ?_) (fun cdv A outer s H vs Q E hr h => ?_)
  · obtain ⟨a, b, e, dx, as, es, m, al, tg, q, rfl, _⟩ := h
    rfl
  · obtain ⟨a, b, e, dx, as, es, m, al, tg, q, rfl, hA, hB, hE, hl, ho, k⟩ := h
    refine ⟨_, pss_cons (ps_if (pt_cmpR op_gt (pe_op op_add (pe_callB call_len_seq rfl T.zLen (by decide +kernel) (pa_cons (pv 1) pa_nil)) (pe_callB call_len_seq rfl T.zLen (by decide +kernel) (pa_cons (pv 2) pa_nil))) pe_int (nomark _)) pss_never pss_nil)
      (pss_cons (ps_set (i := 7) scIRule.nd rfl (.inl rfl) (pe_disp (pps_cons pe_str (pv 3) (pps_cons pe_str (pv 4) (pps_cons pe_str (pv 5) (pps_cons pe_str (pv 6) pps_nil)))) (by rfl) (by rfl) (by exact fun z => nomatch z) (by decide)))
      (pss_cons (ps_expr (pe_call GC hr rfl T.dCheckSettings.m T.dCheckSettings.F.kp T.dCheckSettings.b .nil pass0 (pa_cons (pv 7) pa_nil)))
      (pss_cons (ps_fld (pv 0) (pe_callTy call_list_of rfl T.zList (by decide +kernel) (pa_cons (pv 1) pa_nil)) (by rfl))
      (pss_cons (ps_fld (pv 0) (pe_callTy call_list_of rfl T.zList (by decide +kernel) (pa_cons (pv 2) pa_nil)) (by rfl))
      (pss_one (ps_fld (pv 0) (pv 7) (by rfl))))))), ?_⟩
    refine ⟨_, rfl, _, _, rfl, .inl (.inl (.inl hB)), _, rfl, _, _, rfl, .inl (.inl (.inl hE)), _, _, rfl, rfl, _, _, rfl, rfl, _, rfl, ?_⟩
    refine iteF2 (decide_eq_false (by rw [refsV_length, refsV_length]; omega)) ?_
    intro d hd
    have s1 := same_upd (o := .dK []) hd
    refine ⟨_, rfl, _, rfl, _, rfl, _, rfl, upd_same, setRows m al tg q, rfl, (by show (4 : Nat) ≤ 15; decide), ?_⟩
    rw [merge_set]
    have s2 : Same H (upd (upd H d (.dK [])) d (.dK (setRows m al tg q))) := same_over s1 hd
    refine ⟨_, rfl, d, m, al, tg, q, rfl, upd_same, ho, fun H3 s3 => ?_⟩
    have s4 := s2.trans s3
    refine ⟨_, rfl, b, _, rfl, .inl (.inl (.inl (s4 _ _ hB))), fun o hon => ?_⟩
    have noa : o ≠ a := fun e => by rw [e, s4 _ _ hA] at hon; cases hon
    have s5 := s4.trans (same_upd (o := .lst (refsV as)) hon)
    refine ⟨_, rfl, a, _, dx, [], rfl, s5 _ _ hA, T.cRule.cl, T.nRuleOpeners, by decide, ?_⟩
    rw [put_op]
    have nea : e ≠ a := fun z => by rw [z, hA] at hE; cases hE
    refine ⟨_, rfl, e, _, rfl, .inl (.inl (.inl ((upd_ne nea).trans (s5 _ _ hE)))), fun c hcn => ?_⟩
    have nca : c ≠ a := fun z => by rw [z, upd_same] at hcn; cases hcn
    refine ⟨_, rfl, a, _, dx, _, rfl, (upd_ne (Ne.symm nca)).trans upd_same, T.cRule.cl, T.nRuleClosers, (by show (1 : Nat) < 1000; decide), ?_⟩
    rw [put_cl]
    refine ⟨_, rfl, _, rfl, a, _, dx, _, rfl, upd_same, T.cRule.cl, T.nRuleSettings, (by show (2 : Nat) < 1000; decide), ?_⟩
    rw [put_se]
    have nco : o ≠ c := fun z => by
      rw [← z, upd_ne noa, upd_same] at hcn
      cases hcn
    refine k _ o c d (fun x u hx hxu => ?_) upd_same ?_ ?_
    · rw [upd_ne hx, upd_ne hx]
      have h5 := s5 _ _ hxu
      have nxc : x ≠ c := fun z => by rw [← z, upd_ne hx, h5] at hcn; cases hcn
      rw [upd_ne nxc, upd_ne hx]
      exact h5
    · rw [upd_ne noa, upd_ne noa, upd_ne nco, upd_ne noa, upd_same]
    · rw [upd_ne nca, upd_ne nca, upd_same]
end
end K35
namespace K35
open PySem L2
/-! ### the law's pool of numbers -/
def PoolAt (H : Hp) (p : Addr) : Prop := ∃ a b : Int, H p = some (.lst [.int a, .int b])
/-- all but the pool is kept -/
structure Away (p : Addr) (H H' : Hp) : Prop where
  pool : PoolAt H' p
  keep : ∀ b o, b ≠ p → H b = some o → H' b = some o
theorem Away.refl {p : Addr} {H : Hp} (h : PoolAt H p) : Away p H H := ⟨h, fun _ _ _ e => e⟩
theorem Away.trans {p : Addr} {A B C : Hp} (h : Away p A B) (k : Away p B C) : Away p A C := ⟨k.pool, fun b o n e => k.keep b o n (h.keep b o n e)⟩
theorem Away.free {p : Addr} {H H' : Hp} (h : Away p H H') {b : Addr} (hb : H' b = none) : H b = none := by
  cases e : H b with
  | none => rfl
  | some o =>
    have n : b ≠ p := fun z => by
      obtain ⟨x, y, q⟩ := h.pool
      rw [z, q] at hb
      cases hb
    rw [h.keep b o n e] at hb
    cases hb
theorem Away.same {p : Addr} {A B C : Hp} (h : Away p A B) (s : Same B C) : Away p A C := ⟨let ⟨x, y, q⟩ := h.pool; ⟨x, y, s _ _ q⟩, fun b o n e => s _ _ (h.keep b o n e)⟩
theorem PoolAt.same {p : Addr} {H H' : Hp} (h : PoolAt H p) (s : Same H H') : PoolAt H' p := let ⟨x, y, q⟩ := h; ⟨x, y, s _ _ q⟩
theorem away_same {p : Addr} {H H' : Hp} (h : PoolAt H p) (s : Same H H') : Away p H H' := ⟨h.same s, fun b o _ e => s _ _ e⟩
theorem Away.upd {p : Addr} {H H' : Hp} (h : Away p H H') {l : Addr} {o : HO} (hl : H l = none) : l ≠ p → Away p H (upd H' l o) := fun n =>
  ⟨let ⟨x, y, q⟩ := h.pool; ⟨x, y, (upd_ne (Ne.symm n)).trans q⟩, fun b u nb e => by rw [upd_ne (ne_of_none e hl)]; exact h.keep b u nb e⟩
section
variable {P : Program} {w : World} {K : PySem.W.Frag} {mg : Str → Option Value} {base : Heap}
/-! ### _law_take -/
def spTake : Sp := fun vs H Q _ => ∃ (p : Addr) (m : Nat), vs = [.ref p, .int (m : Nat)] ∧ PoolAt H p ∧ 0 < m ∧ m < 1073741824 ∧ ∀ (H' : Hp) (d : Nat), d < m → Away p H H' → Q (.int (d : Nat)) H'
theorem scTake : FnScope ["_law_pool_here", "_law_many", "_law_digit"] ["_law_pool_here", "_law_many"] (defScope (top 53)) := ⟨rfl, rfl, rfl, by decide +kernel, rfl, by decide +kernel, by decide +kernel⟩
theorem mod_nat (a : Int) {m : Nat} (h : 0 < m) : ∃ d : Nat, d < m ∧ a % (m : Nat) = (d : Nat) := by
  have h1 := Int.emod_nonneg a (show ((m : Nat) : Int) ≠ 0 by omega)
  have h2 := Int.emod_lt_of_pos a (show (0 : Int) < (m : Nat) by omega)
  exact ⟨(a % (m : Nat)).toNat, by omega, by omega⟩
theorem ok_take (T : Txt K mg) : FnOk P w K mg base CX0 1 T.dLawTake.f T.dLawTake.fd ["_law_pool_here", "_law_many"] spTake := by
  refine T.dLawTake.F.ok scTake (fun vs H Q E h => ?_) (fun cdv A outer s H vs Q E hr h => ?_)
  · obtain ⟨p, m, rfl, _⟩ := h
    rfl
  · obtain ⟨p, m, rfl, ⟨a, b, hp⟩, hm, hm2, k⟩ := h
    refine ⟨_, pss_cons (ps_if (pt_cmpR op_gt (pe_ix ix_list (pv 0) pe_int (fun _ _ => rfl)) pe_int (nomark _))
        (pss_cons (ps_set (i := 2) scTake.nd rfl (.inl rfl) (pe_op op_mod (pe_callTy call_int1 rfl T.zInt (by decide +kernel) (pa_cons (pe_ix ix_list (pv 0) pe_int (fun _ _ => rfl)) pa_nil)) (pv 1)))
        (pss_cons (ps_asg (pe_op op_fdiv (pe_ix ix_list (pv 0) pe_int (fun _ _ => rfl)) (pv 1)) (pg_sub (pv 0) pe_int set_list))
        (pss_one (ps_ret (pv 2))))) pss_nil)
      (pss_cons (ps_asg (pe_op op_mod (pe_callTy call_int1 rfl T.zInt (by decide +kernel) (pa_cons (pe_op op_add (pe_op op_mul (pe_ix ix_list (pv 0) pe_int (fun _ _ => rfl)) pe_int) pe_int) pa_nil)) pe_int) (pg_sub (pv 0) pe_int set_list))
      (pss_one (ps_ret (pe_op op_mod (pe_callTy call_int1 rfl T.zInt (by decide +kernel) (pa_cons (pe_op op_fdiv (pe_op op_mod (pe_callTy call_int1 rfl T.zInt (by decide +kernel) (pa_cons (pe_op op_mul (pe_ix ix_list (pv 0) pe_int (fun _ _ => rfl)) (pe_ix ix_list (pv 0) pe_int (fun _ _ => rfl))) pa_nil)) pe_int) pe_int) pa_nil)) (pv 1))))), ?_⟩
    have at0 : ∀ {x y : V}, atI [x, y] 0 = some x := atI_nat (j := 0) rfl
    have at1 : ∀ {x y : V}, atI [x, y] 1 = some y := atI_nat (j := 1) rfl
    refine ⟨_, rfl, p, _, _, _, rfl, rfl, .inl (.inl hp), at0, _, _, rfl, rfl, _, rfl, ?_⟩
    have aw : ∀ x y : Int, Away p H (upd H p (.lst [.int x, .int y])) := fun x y => ⟨⟨x, y, upd_same⟩, fun b o n e => (upd_ne n).trans e⟩
    refine ite2 (fun c1 => ?_) (fun c1 => ?_)
    · obtain ⟨d, hd, e⟩ := mod_nat a hm
      refine ⟨_, rfl, p, _, _, _, rfl, rfl, .inl (.inl hp), at0, .inl ⟨_, rfl, _, rfl, _, _, rfl, rfl, (by show (0 : Int) < (m : Nat); omega), ?_⟩⟩
      refine ⟨_, rfl, p, _, _, _, rfl, rfl, .inl (.inl hp), at0, _, rfl, _, _, rfl, rfl, ⟨by omega, by omega⟩, _, rfl, p, _, _, 0, rfl, rfl, hp, rfl, ?_⟩
      refine ⟨_, rfl, ?_⟩
      have := k _ d hd (aw (a / (m : Nat)) b)
      rw [← e] at this
      exact this
    · refine ⟨_, rfl, p, _, _, _, rfl, rfl, .inl (.inl hp), at1, _, _, rfl, rfl, .inr ⟨by decide, by decide⟩, _, _, rfl, rfl, .inl ⟨_, rfl, _, _, rfl, rfl, (by show (0 : Int) < 2147483647; decide), ?_⟩⟩
      have hb0 : 0 ≤ (b * 48271 + 11) % 2147483647 := Int.emod_nonneg _ (by decide)
      have hb1 : (b * 48271 + 11) % 2147483647 < 2147483647 := Int.emod_lt_of_pos _ (by decide)
      refine ⟨_, rfl, p, _, _, 1, rfl, rfl, hp, rfl, ?_⟩
      refine ⟨_, rfl, p, _, _, _, rfl, rfl, .inl (.inl upd_same), at1, _, rfl, p, _, _, _, rfl, rfl, .inl (.inl upd_same), at1, _, _, rfl, rfl, .inl ⟨by show -(2 ^ 64) < (b * 48271 + 11) % 2147483647; omega, by show (b * 48271 + 11) % 2147483647 < 2 ^ 64; omega⟩, .inl ⟨_, rfl, _, _, rfl, rfl, (by show (0 : Int) < 2147483629; decide), _, _, rfl, rfl, ⟨by decide, by decide⟩, .inl ⟨_, rfl, _, rfl, _, _, rfl, rfl, (by show (0 : Int) < (m : Nat); omega), ?_⟩⟩⟩
      obtain ⟨d, hd, e⟩ := mod_nat ((b * 48271 + 11) % 2147483647 * ((b * 48271 + 11) % 2147483647) % 2147483629 / 64) hm
      have := k _ d hd (aw a ((b * 48271 + 11) % 2147483647))
      rw [← e] at this
      exact this
/-! ### _law_all_signs -/
def spSigns : Sp := fun vs H Q _ => vs = [] ∧ Q (.str signsS) H
theorem scSigns : FnScope [] [] (defScope (top 54)) := ⟨rfl, rfl, rfl, by decide +kernel, rfl, by decide +kernel, by decide +kernel⟩
theorem ok_signs (T : Txt K mg) : FnOk P w K mg base CX0 1 T.dLawAllSigns.f T.dLawAllSigns.fd [] spSigns := by
  refine T.dLawAllSigns.F.ok scSigns (fun vs H Q E h => ?_) (fun cdv A outer s H vs Q E hr h => ?_)
  · obtain ⟨rfl, _⟩ := h
    rfl
  · obtain ⟨rfl, k⟩ := h
    exact ⟨_, pss_one (ps_ret pe_str), k⟩
end
end K35
namespace K35
open PySem L2
def TextOk (u : Line) : Prop := u ≠ [] ∧ u.length ≤ 2 ∧ ∀ c ∈ u, c ∈ signsAll
section
variable {P : Program} {w : World} {K : PySem.W.Frag} {mg : Str → Option Value} {base : Heap}
def spText : Sp := fun vs H Q _ => ∃ p : Addr, vs = [.ref p] ∧ PoolAt H p ∧ ∀ (H' : Hp) (u : Line), TextOk u → Away p H H' → Q (.str (strOf u)) H'
theorem scText : FnScope ["_law_pool_here", "_law_text_here", "_law_style", "_law_k"] ["_law_pool_here"] (defScope (top 55)) := ⟨rfl, rfl, rfl, by decide +kernel, rfl, by decide +kernel, by decide +kernel⟩
abbrev abS : Str := "a1-b"
theorem ab_cps : abS.cps.toList = [97, 49, 45, 98] := by decide +kernel
theorem ok_text (T : Txt K mg) : FnOk P w K mg base CX0 2 T.dLawText.f T.dLawText.fd ["_law_pool_here"] spText := by
  have GT : FnOk P w K mg base CX0 1 T.dLawTake.f T.dLawTake.fd ["_law_pool_here", "_law_many"] spTake := ok_take T
  have GS : FnOk P w K mg base CX0 1 T.dLawAllSigns.f T.dLawAllSigns.fd [] spSigns := ok_signs T
  refine T.dLawText.F.ok scText (fun vs H Q E h => ?_) (fun cdv A outer s H vs Q E hr h => ?_)
  · obtain ⟨p, rfl, _⟩ := h
    rfl
  · obtain ⟨p, rfl, hp, k⟩ := h
    refine ⟨_, pss_cons (ps_set (i := 1) scText.nd rfl (.inl rfl) pe_str)
      (pss_cons (ps_set (i := 2) scText.nd rfl (.inl rfl) (pe_call GT hr rfl T.dLawTake.m T.dLawTake.F.kp T.dLawTake.b .nil pass0 (pa_cons (pv 0) (pa_cons pe_int pa_nil))))
      (pss_cons (ps_for PassesOwn.never rfl (pi_range1 rfl T.zRange (pa_cons (pe_op op_add pe_int (pe_call GT hr rfl T.dLawTake.m T.dLawTake.F.kp T.dLawTake.b .nil pass0 (pa_cons (pv 0) (pa_cons pe_int pa_nil)))) pa_nil)) (pg_name (i := 3) scText.nd rfl (.inl rfl))
        (pss_one (ps_if (pt_cmpR op_eq (pv 2) pe_int (nomark _))
          (pss_one (ps_set (i := 1) scText.nd rfl (.inl rfl) (pe_op op_add_str (pv 1) (pe_ix ix_str (pe_call0 GS hr rfl T.dLawAllSigns.m T.dLawAllSigns.F.kp T.dLawAllSigns.b .nil pass0) (pe_call GT hr rfl T.dLawTake.m T.dLawTake.F.kp T.dLawTake.b .nil pass0 (pa_cons (pv 0) (pa_cons pe_int pa_nil))) (fun _ _ => rfl)))))
          (pss_one (ps_set (i := 1) scText.nd rfl (.inl rfl) (pe_op op_add_str (pv 1) (pe_ix ix_str pe_str (pe_call GT hr rfl T.dLawTake.m T.dLawTake.F.kp T.dLawTake.b .nil pass0 (pa_cons (pv 0) (pa_cons pe_int pa_nil))) (fun _ _ => rfl))))))))
      (pss_one (ps_ret (pv 1))))), ?_⟩
    refine ⟨_, rfl, p, 3, rfl, hp, by decide, by decide, fun H1 st hst a1 => ?_⟩
    refine ⟨_, rfl, p, 2, rfl, a1.pool, by decide, by decide, fun H2 n hn a2 => ?_⟩
    refine ⟨_, _, rfl, rfl, _, rfl, by omega, by omega, ?_⟩
    rw [show ((1 : Int) + (n : Nat)).toNat = 1 + n by omega]
    have a12 := a1.trans a2
    refine for_range (lo := 0) (n := 1 + n) (fun i σ H3 => ∃ (u : Line) (v : Option V), σ = [some (.ref p), some (.str (strOf u)), some (.int (st : Nat)), v] ∧ Away p H H3 ∧ u.length = i ∧ ∀ c ∈ u, c ∈ signsAll) ⟨[], _, rfl, a12, rfl, fun c hc => by simp at hc⟩ ?_ ?_
    · rintro i σ H3 hi ⟨u, v, rfl, a3, hul, huc⟩
      have add : ∀ c : Nat, c ∈ signsAll → ∀ x ∈ u ++ [c], x ∈ signsAll := fun c hc x hx => by
        rcases List.mem_append.mp hx with hx | hx
        · exact huc x hx
        · rw [List.mem_singleton.mp hx]; exact hc
      have sl : ∀ c : Nat, (strOf u).length + (one c).length ≤ sizeLine := fun c => by
        rw [strOf_len]
        show u.length + 1 ≤ _
        exact line_big (by omega)
      refine ⟨_, rfl, rfl, _, rfl, ?_⟩
      refine ite2 (fun c1 => ?_) (fun c1 => ?_)
      · refine ⟨_, rfl, rfl, _, rfl, p, 68, rfl, a3.pool, by decide, by decide, fun H4 d hd a4 => ?_⟩
        have hsl : signsAll.length = 68 := by decide
        obtain ⟨c, hget⟩ : ∃ c, signsAll[d]? = some c := ⟨_, List.getElem?_eq_getElem (h := by omega)⟩
        refine ⟨_, _, c, rfl, rfl, (by exact line_big (n := signsS.length) (by decide +kernel)), (by rw [signs_cps]; exact atI_nat hget), strOf u, one _, rfl, rfl, sl _, ?_⟩
        refine ⟨u ++ [c], some (.int (0 + (i : Nat))), ?_, a3.trans a4, by rw [List.length_append]; exact congrArg (· + 1) hul, add _ (List.mem_of_getElem? hget)⟩
        rw [← strOf_app]
        rfl
      · refine ⟨_, rfl, _, rfl, p, 4, rfl, a3.pool, by decide, by decide, fun H4 d hd a4 => ?_⟩
        obtain ⟨c, hget⟩ : ∃ c, ([97, 49, 45, 98] : List Nat)[d]? = some c := ⟨_, List.getElem?_eq_getElem (h := hd)⟩
        have hin : ∀ c ∈ ([97, 49, 45, 98] : List Nat), c ∈ signsAll := by decide
        refine ⟨_, _, c, rfl, rfl, (by exact line_big (n := abS.length) (by decide +kernel)), (by rw [show (Str.ofString "a1-b").cps.toList = [97, 49, 45, 98] from ab_cps]; exact atI_nat hget), strOf u, one _, rfl, rfl, sl _, ?_⟩
        refine ⟨u ++ [c], some (.int (0 + (i : Nat))), ?_, a3.trans a4, by rw [List.length_append]; exact congrArg (· + 1) hul, add _ (hin _ (List.mem_of_getElem? hget))⟩
        rw [← strOf_app]
        rfl
    · rintro σ H3 ⟨u, v, rfl, a3, hul, huc⟩
      refine ⟨_, rfl, k _ u ⟨fun e => ?_, by omega, huc⟩ a3⟩
      rw [e] at hul
      simp at hul
      omega
end
end K35
namespace K35
open PySem L2
/-! ### the law's forms -/
def PartL : Part → Prop
  | .fixed u => TextOk u
  | _ => True
structure LParts (f : Form) : Prop where
  ok : ∀ p ∈ f, PartL p
  any : ∀ i j : Nat, f[i]? = some .any → f[j]? = some .any → i = j
  gap : ∀ (i : Nat) (u v : List Nat), f[i]? = some (.fixed u) → f[i + 1]? = some (.fixed v) → False
theorem PartL.ok {p : Part} (h : PartL p) : PartOk p := by
  cases p with
  | fixed u => exact ⟨h.1, by have := h.2.1; omega, h.2.2⟩
  | any => trivial
  | digits => trivial
  | word => trivial
theorem LParts.good {f : Form} (h : LParts f) (ne : f ≠ []) (len : f.length ≤ 3) : Good f := ⟨⟨ne, by omega, fun p hp => (h.ok p hp).ok⟩, h.any, h.gap⟩
theorem LParts.nil : LParts [] := ⟨fun p h => by simp at h, fun i j h => by simp at h, fun i u v h => by simp at h⟩
theorem LParts.take {f : Form} (h : LParts f) (n : Nat) : LParts (f.take n) := by
  have g : ∀ (i : Nat) (p : Part), (f.take n)[i]? = some p → f[i]? = some p := fun i p e => by
    by_cases hi : i < n
    · rwa [List.getElem?_take_of_lt hi] at e
    · rw [List.getElem?_eq_none (by rw [List.length_take]; omega)] at e
      cases e
  exact ⟨fun p hp => h.ok p (List.mem_of_mem_take hp), fun i j h1 h2 => h.any i j (g _ _ h1) (g _ _ h2), fun i u v h1 h2 => h.gap i u v (g _ _ h1) (g _ _ h2)⟩
theorem get_snoc {f : Form} {p q : Part} {i : Nat} (h : (f ++ [p])[i]? = some q) : f[i]? = some q ∨ (i = f.length ∧ q = p) := by
  by_cases hi : i < f.length
  · rw [List.getElem?_append_left hi] at h
    exact .inl h
  · rw [List.getElem?_append_right (by omega)] at h
    cases e : i - f.length with
    | zero =>
      rw [e] at h
      exact .inr ⟨by omega, by simpa using h.symm⟩
    | succ m => rw [e] at h; simp at h
theorem LParts.snoc {f : Form} (h : LParts f) {p : Part} (hp : PartL p) (ha : p = .any → .any ∉ f) (hg : ∀ u v, p = .fixed v → f.getLast? = some (.fixed u) → False) : LParts (f ++ [p]) := by
  refine ⟨fun q hq => ?_, fun i j h1 h2 => ?_, fun i u v h1 h2 => ?_⟩
  · rcases List.mem_append.mp hq with hq | hq
    · exact h.ok q hq
    · rw [List.mem_singleton.mp hq]; exact hp
  · rcases get_snoc h1 with h1 | ⟨e1, q1⟩
    · rcases get_snoc h2 with h2 | ⟨e2, q2⟩
      · exact h.any i j h1 h2
      · exact absurd (List.mem_of_getElem? h1) (ha q2.symm)
    · rcases get_snoc h2 with h2 | ⟨e2, q2⟩
      · exact absurd (List.mem_of_getElem? h2) (ha q1.symm)
      · omega
  · rcases get_snoc h2 with h2 | ⟨e2, q2⟩
    · rcases get_snoc h1 with h1 | ⟨e1, q1⟩
      · exact h.gap i u v h1 h2
      · have := (List.getElem?_eq_some_iff.mp h2).1
        omega
    · rcases get_snoc h1 with h1 | ⟨e1, q1⟩
      · refine hg u v q2.symm ?_
        rw [List.getLast?_eq_getElem?, show f.length - 1 = i by omega]
        exact h1
      · omega
theorem len_part {p : Part} (h : PartL p) : p.cells.length ≤ 2 ∧ ((∀ u, p ≠ .fixed u) → p.cells.length ≤ 1) := by
  cases p with
  | fixed u => exact ⟨by show (u.map Cell.sign).length ≤ 2; rw [List.length_map]; exact h.2.1, fun z => absurd rfl (z u)⟩
  | any => exact ⟨by show (1 : Nat) ≤ 2; omega, fun _ => Nat.le_refl _⟩
  | digits => exact ⟨by show (1 : Nat) ≤ 2; omega, fun _ => Nat.le_refl _⟩
  | word => exact ⟨by show (1 : Nat) ≤ 2; omega, fun _ => Nat.le_refl _⟩
theorem pair_cells {p q : Part} (hp : PartL p) (hq : PartL q) (g : ∀ u v, p = .fixed u → q = .fixed v → False) : p.cells.length + q.cells.length ≤ 3 := by
  have h1 := len_part hp
  have h2 := len_part hq
  by_cases e : ∃ u, p = .fixed u
  · obtain ⟨u, e⟩ := e
    have := h2.2 fun v ev => g u v e ev
    omega
  · have := h1.2 fun u eu => e ⟨u, eu⟩
    omega
/-- three parts: five cells; two: three -/
theorem LParts.cells {f : Form} (h : LParts f) : (f.length ≤ 2 → (cellsOf f).length ≤ 3) ∧ (f.length ≤ 3 → (cellsOf f).length ≤ 5) := by
  match f, h with
  | [], _ => exact ⟨fun _ => Nat.zero_le _, fun _ => Nat.zero_le _⟩
  | [p], h =>
    have h1 := (len_part (h.ok p (by simp))).1
    have e : cellsOf [p] = p.cells ++ [] := rfl
    rw [e, List.append_nil]
    exact ⟨fun _ => by omega, fun _ => by omega⟩
  | [p, q], h =>
    have h1 := pair_cells (h.ok p (by simp)) (h.ok q (by simp)) fun u v e1 e2 => h.gap 0 u v (by simp [e1]) (by simp [e2])
    have e : cellsOf [p, q] = p.cells ++ (q.cells ++ []) := rfl
    rw [e, List.append_nil, List.length_append]
    exact ⟨fun _ => by omega, fun _ => by omega⟩
  | [p, q, r], h =>
    have h1 := pair_cells (h.ok p (by simp)) (h.ok q (by simp)) fun u v e1 e2 => h.gap 0 u v (by simp [e1]) (by simp [e2])
    have h2 := (len_part (h.ok r (by simp))).1
    have e : cellsOf [p, q, r] = p.cells ++ (q.cells ++ (r.cells ++ [])) := rfl
    rw [e, List.append_nil, List.length_append, List.length_append]
    exact ⟨fun z => by simp at z, fun _ => by omega⟩
  | p :: q :: r :: t :: f, _ => exact ⟨fun z => by simp at z, fun z => by simp at z⟩
/-! ### parts as data -/
theorem signs_small : ∀ c ∈ signsAll, c < 1114112 := by decide
theorem strOk_of {u : List Nat} (h : ∀ c ∈ u, c < 1114112) : PyData.strOk (strOf u) = true := by
  unfold PyData.strOk
  show (u.toArray).all _ = true
  rw [List.all_toArray, List.all_eq_true]
  exact fun c hc => decide_eq_true (h c hc)
theorem strOk_line {u : List Nat} (h : ∀ c ∈ u, c ∈ signsAll) : PyData.strOk (strOf u) = true := strOk_of fun c hc => signs_small c (h c hc)
theorem strOk_part {p : Part} (h : PartOk p) : PyData.strOk (partS p) = true := by
  cases p with
  | fixed u => exact strOk_line h.2.2
  | any => show PyData.strOk anyS = true; decide +kernel
  | digits => show PyData.strOk digS = true; decide +kernel
  | word => show PyData.strOk wordS = true; decide +kernel
def dParts (f : Form) : List PyData := f.map fun p => .str (partS p)
theorem dParts_ok : ∀ {f : Form}, (∀ p ∈ f, PartOk p) → PyData.canLayAll0 (dParts f) = true ∧ PyData.depthAll (dParts f) = 0
  | [], _ => ⟨rfl, rfl⟩
  | p :: f, h => by
    obtain ⟨h1, h2⟩ := dParts_ok (f := f) fun q hq => h q (List.mem_cons_of_mem _ hq)
    have h3 := strOk_part (h p List.mem_cons_self)
    constructor
    · show (PyData.canLay0 (.str (partS p)) && PyData.canLayAll0 (dParts f)) = true
      rw [h1, Bool.and_true]
      exact h3
    · show max (PyData.depth (.str (partS p))) (PyData.depthAll (dParts f)) = 0
      rw [h2]
      rfl
theorem dpAll_parts (K : PySem.W.Frag) (H : Hp) : ∀ f : Form, DpAll K H (partsV f) (dParts f)
  | [] => .nil
  | p :: f => .cons (.str _) (dpAll_parts K H f)
theorem shaped_parts {f : Form} (h : ∀ p ∈ f, PartOk p) : SeqAt.shaped (.list (dParts f)) = true := by
  obtain ⟨h1, h2⟩ := dParts_ok h
  unfold SeqAt.shaped
  show (PyData.canLayAll0 (dParts f) && decide (PyData.depthAll (dParts f) + 1 ≤ 64)) = true
  rw [h1, h2]
  rfl
theorem eqv_parts_nil (f : Form) : PyData.eqv (.list (dParts f)) (.list []) = f.isEmpty := by
  cases f with
  | nil => rfl
  | cons p f => rfl
section
variable {P : Program} {w : World} {K : PySem.W.Frag} {mg : Str → Option Value} {base : Heap}
/-! ### _law_parts -/
def spPartsL : Sp := fun vs H Q _ => ∃ p : Addr, vs = [.ref p] ∧ PoolAt H p ∧ ∀ (H' : Hp) (l : Addr) (f : Form), LParts f → f ≠ [] → f.length ≤ 3 → H l = none → l ≠ p → Away p H H' → H' l = some (.lst (partsV f)) → Q (.ref l) H'
theorem scPartsL : FnScope ["_law_pool_here", "_law_parts_here", "_law_k", "_law_kind", "_law_fixed"] ["_law_pool_here"] (defScope (top 56)) := ⟨rfl, rfl, rfl, by decide +kernel, rfl, by decide +kernel, by decide +kernel⟩
theorem ok_partsL (T : Txt K mg) : FnOk P w K mg base CX0 3 T.dLawParts.f T.dLawParts.fd ["_law_pool_here"] spPartsL := by
  have GT : FnOk P w K mg base CX0 1 T.dLawTake.f T.dLawTake.fd ["_law_pool_here", "_law_many"] spTake := ok_take T
  have GX : FnOk P w K mg base CX0 2 T.dLawText.f T.dLawText.fd ["_law_pool_here"] spText := ok_text T
  refine T.dLawParts.F.ok scPartsL (fun vs H Q E h => ?_) (fun cdv A outer s H vs Q E hr h => ?_)
  · obtain ⟨p, rfl, _⟩ := h
    rfl
  · obtain ⟨p, rfl, hp, k⟩ := h
    have hr1 := hr.mono (show 1 ≤ 2 by decide)
    have hu := hr.units
    refine ⟨_, pss_cons (ps_set (i := 1) scPartsL.nd rfl (.inl rfl) (pe_lst pa_nil))
      (pss_cons (ps_for PassesOwn.never rfl (pi_range1 rfl T.zRange (pa_cons (pe_op op_add pe_int (pe_call GT hr1 rfl T.dLawTake.m T.dLawTake.F.kp T.dLawTake.b .nil pass0 (pa_cons (pv 0) (pa_cons pe_int pa_nil)))) pa_nil)) (pg_name (i := 2) scPartsL.nd rfl (.inl rfl))
        (pss_cons (ps_set (i := 3) scPartsL.nd rfl (.inl rfl) (pe_call GT hr1 rfl T.dLawTake.m T.dLawTake.F.kp T.dLawTake.b .nil pass0 (pa_cons (pv 0) (pa_cons pe_int pa_nil))))
        (C8.pss_cut (ps_set (i := 4) scPartsL.nd rfl (.inl rfl) (pe_and (pe_cmpR (op_neD hu) (pv 1) (pe_lst pa_nil) (by rfl)) (pe_one (pe_cmpR op_notIn_seq (pe_ix ix_list (pv 1) (pe_un un_neg pe_int) (fun _ _ => rfl)) (pe_tup (pa_cons pe_str (pa_cons pe_str (pa_cons pe_str pa_nil)))) (by rfl)))))
        (pss_one (ps_if (PW.pt (pw_and (pt_cmpR op_eq (pv 3) pe_int (nomark _)) (pw_and1 (pt_cmpR op_notIn_seq pe_str (pv 1) (by rfl)))))
          (pss_one (ps_expr (pe_bm PySem.F.plainAttrs_list PySem.F.slot_list_append PySem.F.type_list_append mt_append (pv 1) (pa_cons pe_str pa_nil))))
          (pss_one (ps_if (pt_cmpR op_eq (pv 3) pe_int (nomark _))
            (pss_one (ps_expr (pe_bm PySem.F.plainAttrs_list PySem.F.slot_list_append PySem.F.type_list_append mt_append (pv 1) (pa_cons pe_str pa_nil))))
            (pss_one (ps_if (PW.pt (pw_or (pt_cmpR op_eq (pv 3) pe_int (nomark _)) (pw_or1 (pt_val (pv 4)))))
              (pss_one (ps_expr (pe_bm PySem.F.plainAttrs_list PySem.F.slot_list_append PySem.F.type_list_append mt_append (pv 1) (pa_cons pe_str pa_nil))))
              (pss_one (ps_expr (pe_bm PySem.F.plainAttrs_list PySem.F.slot_list_append PySem.F.type_list_append mt_append (pv 1) (pa_cons (pe_call GX hr rfl T.dLawText.m T.dLawText.F.kp T.dLawText.b .nil pass0 (pa_cons (pv 0) pa_nil)) pa_nil)))))))))))))
      (pss_one (ps_ret (pv 1)))), ?_⟩
    refine ⟨Nat.zero_le _, fun l hl => ?_⟩
    have nlp : l ≠ p := fun e => by obtain ⟨x, y, q⟩ := hp; rw [e, q] at hl; cases hl
    have a0 : Away p H (upd H l (.lst [])) := away_same hp (same_upd hl)
    refine ⟨_, rfl, p, 3, rfl, a0.pool, by decide, by decide, fun H1 n hn a1 => ?_⟩
    refine ⟨_, _, rfl, rfl, _, rfl, by omega, by omega, ?_⟩
    rw [show ((1 : Int) + (n : Nat)).toNat = 1 + n by omega]
    refine for_range (lo := 0) (n := 1 + n) (fun i σ H2 => ∃ (f : Form) (v2 v3 v4 : Option V), σ = [some (.ref p), some (.ref l), v2, v3, v4] ∧ Away p H H2 ∧ H2 l = some (.lst (partsV f)) ∧ f.length = i ∧ LParts f)
      ⟨[], _, _, _, rfl, a0.trans a1, a1.keep _ _ nlp upd_same, rfl, LParts.nil⟩ ?_ ?_
    · rintro i σ H2 hi ⟨f, v2, v3, v4, rfl, a2, hf, hfl, hL⟩
      refine ⟨_, rfl, p, 5, rfl, a2.pool, by decide, by decide, fun H3 kd hkd a3 => ?_⟩
      have hf3 := a3.keep _ _ nlp hf
      have a23 := a2.trans a3
      -- one part more
      have fin : ∀ (H5 : Hp) (q : Part) (v4 : V), Away p H H5 → H5 l = some (.lst (partsV f)) → PartL q → (q = .any → .any ∉ f) → (∀ u v, q = .fixed v → f.getLast? = some (.fixed u) → False) →
          ∃ (f' : Form) (v2' v3' v4' : Option V), [some (V.ref p), some (.ref l), some (.int (0 + (i : Nat))), some (.int (kd : Nat)), some v4] = [some (V.ref p), some (.ref l), v2', v3', v4'] ∧ Away p H (upd H5 l (.lst (partsV f ++ [.str (partS q)]))) ∧
            upd H5 l (.lst (partsV f ++ [.str (partS q)])) l = some (.lst (partsV f')) ∧ f'.length = i + 1 ∧ LParts f' := fun H5 q v4 a5 h5 hq h1 h2 =>
        ⟨f ++ [q], _, _, _, rfl, a5.upd hl nlp, by rw [upd_same]; unfold partsV; rw [List.map_append]; rfl, by rw [List.length_append, hfl]; rfl, hL.snoc hq h1 h2⟩
      have hlt : (partsV f).length < sizeLine := by rw [partsV_length]; exact line_lt (by omega)
      have hpo : ∀ p ∈ f, PartOk p := fun q hq => (hL.ok q hq).ok
      refine ⟨fun σ' H' => ∃ b : Bool, σ' = [some (V.ref p), some (.ref l), some (.int (0 + (i : Nat))), some (.int (kd : Nat)), some (.bl b)] ∧ Away p H H' ∧ H' l = some (.lst (partsV f)) ∧ (b = false → ∀ u, f.getLast? = some (.fixed u) → False), ?_, ?_⟩
      · refine ⟨_, rfl, Nat.zero_le _, fun e he => ?_⟩
        have s4 := same_upd (o := .lst []) he
        have nel : e ≠ l := fun z => by rw [z, hf3] at he; cases he
        have hf4 := s4 _ _ hf3
        refine ⟨.list (dParts f), .list [], .lst (.inl (.inl hf4)) (dpAll_parts _ _ f), .lst (.inl (.inl upd_same)) .nil, shaped_parts hpo, rfl, _, rfl, ?_⟩
        rw [eqv_parts_nil]
        have a4 := a23.same s4
        cases hfe : f with
        | nil =>
          rw [hfe] at hf4 hfl
          exact iteF ⟨false, rfl, a4, hf4, fun _ u z => by simp at z⟩
        | cons q0 f0 =>
          rw [← hfe]
          have hfne : f ≠ [] := by rw [hfe]; simp
          have hne : f.isEmpty = false := by rw [hfe]; rfl
          rw [hne]
          refine iteT ?_
          obtain ⟨q, hq⟩ : ∃ q, f.getLast? = some q := ⟨_, List.getLast?_eq_some_getLast hfne⟩
          have hq2 : f[f.length - 1]? = some q := by rw [← List.getLast?_eq_getElem?]; exact hq
          have hfl1 : 0 < f.length := List.length_pos_iff.mpr hfne
          have hqo := hpo q (List.mem_of_getElem? hq2)
          have hat : atI (partsV f) (-1) = some (.str (partS q)) := by
            unfold atI ixN
            rw [if_neg (by decide), if_pos (by rw [partsV_length]; omega)]
            show (partsV f)[(-1 + ((partsV f).length : Int)).toNat]? = _
            rw [partsV_length, show ((-1 : Int) + (f.length : Nat)).toNat = f.length - 1 by omega]
            unfold partsV
            rw [List.getElem?_map, hq2]
            rfl
          refine ⟨_, rfl, _, rfl, l, _, _, _, rfl, rfl, .inl (.inl hf4), hat, line_big (n := 3) (by decide), fun t ht => ?_⟩
          have s5 := same_upd (o := .tup [.str anyS, .str digS, .str wordS]) ht
          refine ⟨t, _, rfl, .inr (.inl (.inl upd_same)), rfl, strs_flat [anyS, digS, wordS], ?_⟩
          refine ⟨_, rfl, a4.same s5, s5 _ _ hf4, fun hb u hu => ?_⟩
          rw [hq] at hu
          cases hu
          have h6 : inV (.str (strOf u)) ([anyS, digS, wordS].map V.str) = true := by
            have h7 : (!inV (.str (strOf u)) ([anyS, digS, wordS].map V.str)) = false := hb
            cases h8 : inV (.str (strOf u)) ([anyS, digS, wordS].map V.str) with
            | true => rfl
            | false => rw [h8] at h7; cases h7
          rw [inV_strs] at h6
          have h9 := of_decide_eq_true h6
          obtain ⟨_, h2, _⟩ := hqo
          rcases List.mem_cons.mp h9 with e9 | h9
          · exact short_ne_any h2 e9
          rcases List.mem_cons.mp h9 with e9 | h9
          · exact short_ne_dig h2 e9
          rcases List.mem_cons.mp h9 with e9 | h9
          · exact short_ne_word h2 e9
          · simp at h9
      · rintro σ' H5 ⟨b, rfl, a5, hf5, hb⟩
        have app := fun (q : Part) (v4 : V) => fin H5 q v4 a5 hf5
        refine ⟨_, rfl, rfl, _, rfl, ?_⟩
        refine ite2 (fun c1 => ?_) (fun c1 => ?_)
        · refine ⟨_, rfl, l, _, rfl, .inl (.inl (.inl hf5)), rfl, ?_, _, rfl, ?_⟩
          · have := strs_flat (f.map partS)
            rw [List.map_map] at this
            exact this
          refine ite2 (fun cA => ?_) (fun cA => ?_)
          · refine ⟨_, rfl, .inl ⟨rfl, _, .inl (.inl hf5)⟩, _, _, _, rfl, rfl, hf5, hlt, app .any (.bl b) trivial (fun _ hm => ?_) (fun u v z => nomatch z)⟩
            have e1 : inV (.str anyS) (partsV f) = true := by
              have : partsV f = (f.map partS).map V.str := by unfold partsV; rw [List.map_map]; rfl
              rw [this, inV_strs]
              exact decide_eq_true (List.mem_map.mpr ⟨.any, hm, rfl⟩)
            have e2 : (!inV (.str anyS) (partsV f)) = true := cA
            rw [e1] at e2
            cases e2
          · refine ⟨_, rfl, rfl, _, rfl, ?_⟩
            refine ite2 (fun c2 => ?_) (fun c2 => ?_)
            · exact ⟨_, rfl, .inl ⟨rfl, _, .inl (.inl hf5)⟩, _, _, _, rfl, rfl, hf5, hlt, app .digits (.bl b) trivial (fun z => nomatch z) (fun u v z => nomatch z)⟩
            refine ⟨_, rfl, rfl, _, rfl, ?_⟩
            refine ite2 (fun c3 => iteT ?_) (fun c3 => ?_)
            · exact ⟨_, rfl, .inl ⟨rfl, _, .inl (.inl hf5)⟩, _, _, _, rfl, rfl, hf5, hlt, app .word (.bl b) trivial (fun z => nomatch z) (fun u v z => nomatch z)⟩
            refine ⟨_, rfl, _, rfl, ?_⟩
            refine ite2 (fun c4 => ?_) (fun c4 => ?_)
            · exact ⟨_, rfl, .inl ⟨rfl, _, .inl (.inl hf5)⟩, _, _, _, rfl, rfl, hf5, hlt, app .word (.bl b) trivial (fun z => nomatch z) (fun u v z => nomatch z)⟩
            have hbf : b = false := by cases b with
              | false => rfl
              | true => exact absurd rfl c4
            refine ⟨_, rfl, .inl ⟨rfl, _, .inl (.inl hf5)⟩, _, rfl, p, rfl, a5.pool, fun H6 u hu6 a6 => ?_⟩
            have hf6 := a6.keep _ _ nlp hf5
            exact ⟨_, _, _, rfl, rfl, hf6, hlt, fin H6 (.fixed u) (.bl b) (a5.trans a6) hf6 hu6 (fun z => nomatch z) (fun v _ _ z => hb hbf v z)⟩
        · refine ⟨_, rfl, rfl, _, rfl, ?_⟩
          refine ite2 (fun c2 => ?_) (fun c2 => ?_)
          · exact ⟨_, rfl, .inl ⟨rfl, _, .inl (.inl hf5)⟩, _, _, _, rfl, rfl, hf5, hlt, app .digits (.bl b) trivial (fun z => nomatch z) (fun u v z => nomatch z)⟩
          refine ⟨_, rfl, rfl, _, rfl, ?_⟩
          refine ite2 (fun c3 => iteT ?_) (fun c3 => ?_)
          · exact ⟨_, rfl, .inl ⟨rfl, _, .inl (.inl hf5)⟩, _, _, _, rfl, rfl, hf5, hlt, app .word (.bl b) trivial (fun z => nomatch z) (fun u v z => nomatch z)⟩
          refine ⟨_, rfl, _, rfl, ?_⟩
          refine ite2 (fun c4 => ?_) (fun c4 => ?_)
          · exact ⟨_, rfl, .inl ⟨rfl, _, .inl (.inl hf5)⟩, _, _, _, rfl, rfl, hf5, hlt, app .word (.bl b) trivial (fun z => nomatch z) (fun u v z => nomatch z)⟩
          have hbf : b = false := by cases b with
            | false => rfl
            | true => exact absurd rfl c4
          refine ⟨_, rfl, .inl ⟨rfl, _, .inl (.inl hf5)⟩, _, rfl, p, rfl, a5.pool, fun H6 u hu6 a6 => ?_⟩
          have hf6 := a6.keep _ _ nlp hf5
          exact ⟨_, _, _, rfl, rfl, hf6, hlt, fin H6 (.fixed u) (.bl b) (a5.trans a6) hf6 hu6 (fun z => nomatch z) (fun v _ _ z => hb hbf v z)⟩
    · rintro σ H2 ⟨f, v2, v3, v4, rfl, a2, hf, hfl, hL⟩
      refine ⟨_, rfl, k _ l f hL (fun e => ?_) (by omega) hl nlp a2 hf⟩
      rw [e] at hfl
      simp at hfl
      omega
end
end K35
namespace K35
open PySem L2
section
variable {P : Program} {w : World} {K : PySem.W.Frag} {mg : Str → Option Value} {base : Heap}
/-! ### _law_form -/
def spFormL (T : Txt K mg) : Sp := fun vs H Q _ => ∃ (l : Addr) (f : Form), vs = [.ref l] ∧ H l = some (.lst (partsV f)) ∧ LParts f ∧ f ≠ [] ∧ f.length ≤ 3 ∧ ∀ (H' : Hp) (a : Addr), Same H H' → H a = none → FormAt T H' a f → Q (.ref a) H'
theorem scFormL : FnScope ["_law_parts_here"] ["_law_parts_here"] (defScope (top 57)) := ⟨rfl, rfl, rfl, by decide +kernel, rfl, by decide +kernel, by decide +kernel⟩
theorem ok_formL (T : Txt K mg) : FnOk P w K mg base CX0 5 T.dLawForm.f T.dLawForm.fd ["_law_parts_here"] (spFormL T) := by
  have GF : FnR P w K mg base CX0 3 T.iForm.f (SpF T) := ok_iForm T
  have M : Mk K T.cForm.C T.iForm.f := ⟨T.cForm.makes, T.iForm.m.at_, T.iForm.m.fn, T.cForm.kp⟩
  refine T.dLawForm.F.ok scFormL (fun vs H Q E h => ?_) (fun cdv A outer s H vs Q E hr h => ?_)
  · obtain ⟨l, f, rfl, _⟩ := h
    rfl
  · obtain ⟨l, f, rfl, hl, hL, hne, h3, k⟩ := h
    have g := hL.good hne h3
    refine ⟨_, pss_cons (ps_if (pt_cmpR op_eq (pe_callB call_len_seq rfl T.zLen (by decide +kernel) (pa_cons (pv 0) pa_nil)) pe_int (nomark _))
        (pss_one (ps_ret (StX.pe_makeR M GF hr rfl T.cForm.m pass0 (pa_cons (pe_ix ix_list (pv 0) pe_int (fun _ _ => rfl)) pa_nil)))) pss_nil)
      (pss_cons (ps_if (pt_cmpR op_eq (pe_callB call_len_seq rfl T.zLen (by decide +kernel) (pa_cons (pv 0) pa_nil)) pe_int (nomark _))
        (pss_one (ps_ret (StX.pe_makeR M GF hr rfl T.cForm.m pass0 (pa_cons (pe_ix ix_list (pv 0) pe_int (fun _ _ => rfl)) (pa_cons (pe_ix ix_list (pv 0) pe_int (fun _ _ => rfl)) pa_nil))))) pss_nil)
      (pss_one (ps_ret (StX.pe_makeR M GF hr rfl T.cForm.m pass0 (pa_cons (pe_ix ix_list (pv 0) pe_int (fun _ _ => rfl)) (pa_cons (pe_ix ix_list (pv 0) pe_int (fun _ _ => rfl)) (pa_cons (pe_ix ix_list (pv 0) pe_int (fun _ _ => rfl)) pa_nil))))))), ?_⟩
    refine ⟨_, rfl, _, _, rfl, .inl (.inl (.inl hl)), rfl, _, rfl, ?_⟩
    rw [partsV_length]
    have dn : ∀ {m n : Nat}, ¬ m = n → decide (V.int (m : Nat) = V.int (n : Nat)) = false := fun h => decide_eq_false fun z => by
      injection z with z
      omega
    match f, hne, h3 with
    | [p], _, _ =>
      refine iteT2 rfl ?_
      exact ⟨_, rfl, l, _, 0, _, rfl, rfl, .inl (.inl hl), atI_nat (j := 0) rfl, form_made T g k rfl⟩
    | [p, q], _, _ =>
      refine iteF2 (dn (m := 2) (n := 1) (by decide)) ?_
      refine ⟨_, rfl, _, _, rfl, .inl (.inl (.inl hl)), rfl, _, rfl, ?_⟩
      refine iteT2 rfl ?_
      exact ⟨_, rfl, l, _, 0, _, rfl, rfl, .inl (.inl hl), atI_nat (j := 0) rfl, _, rfl, l, _, 1, _, rfl, rfl, .inl (.inl hl), atI_nat (j := 1) rfl, form_made T g k rfl⟩
    | [p, q, r], _, _ =>
      refine iteF2 (dn (m := 3) (n := 1) (by decide)) ?_
      refine ⟨_, rfl, _, _, rfl, .inl (.inl (.inl hl)), rfl, _, rfl, ?_⟩
      refine iteF2 (dn (m := 3) (n := 2) (by decide)) ?_
      exact ⟨_, rfl, l, _, 0, _, rfl, rfl, .inl (.inl hl), atI_nat (j := 0) rfl, _, rfl, l, _, 1, _, rfl, rfl, .inl (.inl hl), atI_nat (j := 1) rfl, _, rfl, l, _, 2, _, rfl, rfl, .inl (.inl hl), atI_nat (j := 2) rfl, form_made T g k rfl⟩
/-! ### _law_tree -/
inductive Kd where
  | or | and | one
def kdS : Kd → Str
  | .or => "|"
  | .and => "&"
  | .one => "="
structure TreeOk (k : Kd) (f g : Form) (n : Nat) : Prop where
  lf : LParts f
  lg : LParts g
  nf : f ≠ []
  ng : k ≠ .one → g ≠ []
  cf : f.length ≤ n
  cg : g.length ≤ n
abbrev Tree := Kd × Form × Form
def TreeAt (H : Hp) (a : Addr) (t : Tree) : Prop := ∃ b c, H a = some (.lst [.str (kdS t.1), .ref b, .ref c]) ∧ H b = some (.lst (partsV t.2.1)) ∧ H c = some (.lst (partsV t.2.2))
def TreeNew (H H' : Hp) (a : Addr) (t : Tree) : Prop := ∃ b c, H a = none ∧ H b = none ∧ H c = none ∧ H' a = some (.lst [.str (kdS t.1), .ref b, .ref c]) ∧ H' b = some (.lst (partsV t.2.1)) ∧ H' c = some (.lst (partsV t.2.2))
theorem TreeAt.mono {H H' : Hp} {a : Addr} {t : Tree} (h : TreeAt H a t) (e : Same H H') : TreeAt H' a t := let ⟨b, c, h1, h2, h3⟩ := h; ⟨b, c, e _ _ h1, e _ _ h2, e _ _ h3⟩
theorem parts_no {H : Hp} {p b : Addr} {f : Form} (hp : PoolAt H p) (h : H b = some (.lst (partsV f))) : b ≠ p := fun e => by
  obtain ⟨x, y, q⟩ := hp
  rw [e, q] at h
  injection h with h
  injection h with h
  cases f with
  | nil => cases h
  | cons z f => cases h
theorem TreeAt.away {H H' : Hp} {p a : Addr} {t : Tree} (h : TreeAt H a t) (hp : PoolAt H p) (e : Away p H H') : TreeAt H' a t := by
  obtain ⟨b, c, h1, h2, h3⟩ := h
  have n1 : a ≠ p := fun z => by
    obtain ⟨x, y, q⟩ := hp
    rw [z, q] at h1
    cases h1
  exact ⟨b, c, e.keep _ _ n1 h1, e.keep _ _ (parts_no hp h2) h2, e.keep _ _ (parts_no hp h3) h3⟩
theorem lp_any : LParts [.any] := LParts.nil.snoc (p := .any) trivial (fun _ h => by simp at h) (fun u v z => nomatch z)
theorem lp_fa {u : Line} (h : TextOk u) : LParts [.fixed u, .any] := (LParts.nil.snoc (p := .fixed u) h (fun z => nomatch z) (fun _ _ _ z => by simp at z)).snoc (p := .any) trivial (fun _ h => by simp at h) (fun u v z => nomatch z)
theorem lp_af {u : Line} (h : TextOk u) : LParts [.any, .fixed u] := lp_any.snoc (p := .fixed u) h (fun z => nomatch z) (fun _ _ _ z => by simp at z)
theorem pool_ne {H : Hp} {p b : Addr} (hp : PoolAt H p) (h : H b = none) : b ≠ p := fun e => by
  obtain ⟨x, y, q⟩ := hp
  rw [e, q] at h
  cases h
def spTree : Sp := fun vs H Q _ => ∃ p : Addr, vs = [.ref p] ∧ PoolAt H p ∧ ∀ (H' : Hp) (a : Addr) (t : Tree), TreeOk t.1 t.2.1 t.2.2 3 → Away p H H' → TreeNew H H' a t → Q (.ref a) H'
theorem scTree : FnScope ["_law_pool_here", "_law_kind"] ["_law_pool_here"] (defScope (top 58)) := ⟨rfl, rfl, rfl, by decide +kernel, rfl, by decide +kernel, by decide +kernel⟩
theorem ok_tree (T : Txt K mg) : FnOk P w K mg base CX0 4 T.dLawTree.f T.dLawTree.fd ["_law_pool_here"] spTree := by
  have GT : FnOk P w K mg base CX0 1 T.dLawTake.f T.dLawTake.fd ["_law_pool_here", "_law_many"] spTake := ok_take T
  have GP : FnOk P w K mg base CX0 3 T.dLawParts.f T.dLawParts.fd ["_law_pool_here"] spPartsL := ok_partsL T
  have GX : FnOk P w K mg base CX0 2 T.dLawText.f T.dLawText.fd ["_law_pool_here"] spText := ok_text T
  refine T.dLawTree.F.ok scTree (fun vs H Q E h => ?_) (fun cdv A outer s H vs Q E hr h => ?_)
  · obtain ⟨p, rfl, _⟩ := h
    rfl
  · obtain ⟨p, rfl, hp, k⟩ := h
    have hr1 := hr.mono (show 1 ≤ 3 by decide)
    have hr2 := hr.mono (show 2 ≤ 3 by decide)
    refine ⟨_, pss_cons (ps_set (i := 1) scTree.nd rfl (.inl rfl) (pe_call GT hr1 rfl T.dLawTake.m T.dLawTake.F.kp T.dLawTake.b .nil pass0 (pa_cons (pv 0) (pa_cons pe_int pa_nil))))
      (pss_cons (ps_if (pt_cmpR op_eq (pv 1) pe_int (nomark _)) (pss_one (ps_ret (pe_lst (pa_cons pe_str (pa_cons (pe_call GP hr rfl T.dLawParts.m T.dLawParts.F.kp T.dLawParts.b .nil pass0 (pa_cons (pv 0) pa_nil)) (pa_cons (pe_call GP hr rfl T.dLawParts.m T.dLawParts.F.kp T.dLawParts.b .nil pass0 (pa_cons (pv 0) pa_nil)) pa_nil)))))) pss_nil)
      (pss_cons (ps_if (pt_cmpR op_eq (pv 1) pe_int (nomark _)) (pss_one (ps_ret (pe_lst (pa_cons pe_str (pa_cons (pe_lst (pa_cons (pe_call GX hr2 rfl T.dLawText.m T.dLawText.F.kp T.dLawText.b .nil pass0 (pa_cons (pv 0) pa_nil)) (pa_cons pe_str pa_nil))) (pa_cons (pe_lst (pa_cons pe_str (pa_cons (pe_call GX hr2 rfl T.dLawText.m T.dLawText.F.kp T.dLawText.b .nil pass0 (pa_cons (pv 0) pa_nil)) pa_nil))) pa_nil)))))) pss_nil)
      (pss_cons (ps_if (pt_cmpR op_eq (pv 1) pe_int (nomark _)) (pss_one (ps_ret (pe_lst (pa_cons pe_str (pa_cons (pe_call GP hr rfl T.dLawParts.m T.dLawParts.F.kp T.dLawParts.b .nil pass0 (pa_cons (pv 0) pa_nil)) (pa_cons (pe_lst (pa_cons pe_str pa_nil)) pa_nil)))))) pss_nil)
      (pss_one (ps_ret (pe_lst (pa_cons pe_str (pa_cons (pe_call GP hr rfl T.dLawParts.m T.dLawParts.F.kp T.dLawParts.b .nil pass0 (pa_cons (pv 0) pa_nil)) (pa_cons (pe_lst pa_nil) pa_nil))))))))), ?_⟩
    refine ⟨_, rfl, p, 8, rfl, hp, by decide, by decide, fun H1 kd hkd a1 => ?_⟩
    refine ⟨_, rfl, rfl, _, rfl, ?_⟩
    refine ite2 (fun c1 => ?_) (fun c1 => ?_)
    · refine ⟨_, rfl, p, rfl, a1.pool, fun H2 b f hLf hnf hf3 hbn nbp a2 hb => ?_⟩
      refine ⟨_, rfl, p, rfl, a2.pool, fun H3 c g hLg hng hg3 hcn ncp a3 hc => ?_⟩
      refine ⟨line_big (n := 3) (by decide), fun t ht => ?_⟩
      have a123 := (a1.trans a2).trans a3
      have st := same_upd (o := .lst [.str "|", .ref b, .ref c]) ht
      exact k _ t (.or, f, g) ⟨hLf, hLg, hnf, fun _ => hng, hf3, hg3⟩ (a123.same st) ⟨b, c, a123.free ht, a1.free hbn, (a1.trans a2).free hcn, upd_same, st _ _ (a3.keep _ _ nbp hb), st _ _ hc⟩
    refine ⟨_, rfl, rfl, _, rfl, ?_⟩
    refine ite2 (fun c2 => ?_) (fun c2 => ?_)
    · refine ⟨_, rfl, p, rfl, a1.pool, fun H2 u hu a2 => ⟨line_big (n := 2) (by decide), fun b hb => ?_⟩⟩
      have nbp := pool_ne a2.pool hb
      have sb := same_upd (o := .lst [.str (strOf u), .str anyS]) hb
      have a2' := a2.same sb
      refine ⟨_, rfl, p, rfl, a2'.pool, fun H3 v hv a3 => ⟨line_big (n := 2) (by decide), fun c hc => ?_⟩⟩
      have sc := same_upd (o := .lst [.str anyS, .str (strOf v)]) hc
      refine ⟨line_big (n := 3) (by decide), fun t ht => ?_⟩
      have st := same_upd (o := .lst [.str "&", .ref b, .ref c]) ht
      have aa := (((a1.trans a2').trans a3).same sc).same st
      exact k _ t (.and, [.fixed u, .any], [.any, .fixed v]) ⟨lp_fa hu, lp_af hv, by simp, fun _ => by simp, by simp, by simp⟩ aa
        ⟨b, c, (((a1.trans a2').trans a3).same sc).free ht, (a1.trans a2).free hb, ((a1.trans a2').trans a3).free hc, upd_same, st _ _ (sc _ _ (a3.keep _ _ nbp upd_same)), st _ _ upd_same⟩
    refine ⟨_, rfl, rfl, _, rfl, ?_⟩
    refine ite2 (fun c3 => ?_) (fun c3 => ?_)
    · refine ⟨_, rfl, p, rfl, a1.pool, fun H2 b f hLf hnf hf3 hbn nbp a2 hb => ?_⟩
      refine ⟨line_big (n := 1) (by decide), fun c hc => ?_⟩
      have sc := same_upd (o := .lst [.str anyS]) hc
      refine ⟨line_big (n := 3) (by decide), fun t ht => ?_⟩
      have st := same_upd (o := .lst [.str "&", .ref b, .ref c]) ht
      have aa := (a1.trans a2).same sc
      exact k _ t (.and, f, [.any]) ⟨hLf, lp_any, hnf, fun _ => by simp, hf3, by simp⟩ (aa.same st) ⟨b, c, aa.free ht, a1.free hbn, (a1.trans a2).free hc, upd_same, st _ _ (sc _ _ hb), st _ _ upd_same⟩
    · refine ⟨_, rfl, p, rfl, a1.pool, fun H2 b f hLf hnf hf3 hbn nbp a2 hb => ?_⟩
      refine ⟨Nat.zero_le _, fun c hc => ?_⟩
      have sc := same_upd (o := .lst []) hc
      refine ⟨line_big (n := 3) (by decide), fun t ht => ?_⟩
      have st := same_upd (o := .lst [.str "=", .ref b, .ref c]) ht
      have aa := (a1.trans a2).same sc
      exact k _ t (.one, f, []) ⟨hLf, LParts.nil, hnf, fun z => absurd rfl z, hf3, by simp⟩ (aa.same st) ⟨b, c, aa.free ht, a1.free hbn, (a1.trans a2).free hc, upd_same, st _ _ (sc _ _ hb), st _ _ upd_same⟩
/-! ### _law_built -/
def patOf (t : Tree) : Pat := match t.1 with
  | .or => .either t.2.1 t.2.2
  | .and => .both t.2.1 t.2.2
  | .one => .one t.2.1
def spBuilt (T : Txt K mg) : Sp := fun vs H Q _ => ∃ (a : Addr) (t : Tree), vs = [.ref a] ∧ TreeAt H a t ∧ TreeOk t.1 t.2.1 t.2.2 3 ∧ ∀ (H' : Hp) (c : Addr), Same H H' → H c = none → PatAt T H' c (patOf t) → Q (.ref c) H'
theorem scBuilt : FnScope ["_law_tree_here"] ["_law_tree_here"] (defScope (top 59)) := ⟨rfl, rfl, rfl, by decide +kernel, rfl, by decide +kernel, by decide +kernel⟩
theorem ok_built (T : Txt K mg) : FnOk P w K mg base CX0 6 T.dLawBuilt.f T.dLawBuilt.fd ["_law_tree_here"] (spBuilt T) := by
  have GF : FnOk P w K mg base CX0 5 T.dLawForm.f T.dLawForm.fd ["_law_parts_here"] (spFormL T) := ok_formL T
  refine T.dLawBuilt.F.ok scBuilt (fun vs H Q E h => ?_) (fun cdv A outer s H vs Q E hr h => ?_)
  · obtain ⟨a, t, rfl, _⟩ := h
    rfl
  · obtain ⟨a, ⟨kd, f, g⟩, rfl, ⟨b, c, hA, hB, hC⟩, ho, k⟩ := h
    have hr4 := hr.mono (show 4 ≤ 5 by decide)
    refine ⟨_, pss_cons (ps_if (pt_cmpR op_eq (pe_ix ix_list (pv 0) pe_int (fun _ _ => rfl)) pe_str (nomark _)) (pss_one (ps_ret (pe_call GF hr rfl T.dLawForm.m T.dLawForm.F.kp T.dLawForm.b .nil pass0 (pa_cons (pe_ix ix_list (pv 0) pe_int (fun _ _ => rfl)) pa_nil)))) pss_nil)
      (pss_cons (ps_if (pt_cmpR op_eq (pe_ix ix_list (pv 0) pe_int (fun _ _ => rfl)) pe_str (nomark _)) (pss_one (ps_ret (pe_op (op_bitand T hr4) (pe_call GF hr rfl T.dLawForm.m T.dLawForm.F.kp T.dLawForm.b .nil pass0 (pa_cons (pe_ix ix_list (pv 0) pe_int (fun _ _ => rfl)) pa_nil)) (pe_call GF hr rfl T.dLawForm.m T.dLawForm.F.kp T.dLawForm.b .nil pass0 (pa_cons (pe_ix ix_list (pv 0) pe_int (fun _ _ => rfl)) pa_nil))))) pss_nil)
      (pss_one (ps_ret (pe_op (op_bitor T hr4) (pe_call GF hr rfl T.dLawForm.m T.dLawForm.F.kp T.dLawForm.b .nil pass0 (pa_cons (pe_ix ix_list (pv 0) pe_int (fun _ _ => rfl)) pa_nil)) (pe_call GF hr rfl T.dLawForm.m T.dLawForm.F.kp T.dLawForm.b .nil pass0 (pa_cons (pe_ix ix_list (pv 0) pe_int (fun _ _ => rfl)) pa_nil)))))), ?_⟩
    have d1 : ∀ {x y : Str}, ¬ x = y → decide (V.str x = V.str y) = false := fun h => decide_eq_false fun z => by
      injection z with z
      exact h z
    have n1 : ¬ kdS .and = "=" := by decide +kernel
    have n2 : ¬ kdS .or = "=" := by decide +kernel
    have n3 : ¬ kdS .or = "&" := by decide +kernel
    refine ⟨_, rfl, a, _, _, _, rfl, rfl, .inl (.inl hA), atI_nat (j := 0) rfl, rfl, _, rfl, ?_⟩
    cases kd with
    | one =>
      refine iteT2 (decide_eq_true rfl) ?_
      exact ⟨_, rfl, a, _, _, _, rfl, rfl, .inl (.inl hA), atI_nat (j := 1) rfl, b, f, rfl, hB, ho.lf, ho.nf, ho.cf, fun H' x s1 hx hf => k H' x s1 hx hf⟩
    | and =>
      refine iteF2 (d1 n1) ⟨_, rfl, a, _, _, _, rfl, rfl, .inl (.inl hA), atI_nat (j := 0) rfl, rfl, _, rfl, ?_⟩
      refine iteT2 (decide_eq_true rfl) ?_
      refine ⟨_, rfl, a, _, _, _, rfl, rfl, .inl (.inl hA), atI_nat (j := 1) rfl, b, f, rfl, hB, ho.lf, ho.nf, ho.cf, fun H1 x s1 hx hf => ?_⟩
      refine ⟨_, rfl, a, _, _, _, rfl, rfl, .inl (.inl (s1 _ _ hA)), atI_nat (j := 2) rfl, c, g, rfl, s1 _ _ hC, ho.lg, ho.ng (fun z => nomatch z), ho.cg, fun H2 y s2 hy hg => ?_⟩
      exact ⟨x, y, f, g, rfl, rfl, FormAt.mono s2 hf, hg, fun H3 z s3 hz hq => k H3 z ((s1.trans s2).trans s3) (Same.free s1 (Same.free s2 hz)) hq⟩
    | or =>
      refine iteF2 (d1 n2) ⟨_, rfl, a, _, _, _, rfl, rfl, .inl (.inl hA), atI_nat (j := 0) rfl, rfl, _, rfl, ?_⟩
      refine iteF2 (d1 n3) ?_
      refine ⟨_, rfl, a, _, _, _, rfl, rfl, .inl (.inl hA), atI_nat (j := 1) rfl, b, f, rfl, hB, ho.lf, ho.nf, ho.cf, fun H1 x s1 hx hf => ?_⟩
      refine ⟨_, rfl, a, _, _, _, rfl, rfl, .inl (.inl (s1 _ _ hA)), atI_nat (j := 2) rfl, c, g, rfl, s1 _ _ hC, ho.lg, ho.ng (fun z => nomatch z), ho.cg, fun H2 y s2 hy hg => ?_⟩
      exact ⟨x, y, f, g, rfl, rfl, FormAt.mono s2 hf, hg, fun H3 z s3 hz hq => k H3 z ((s1.trans s2).trans s3) (Same.free s1 (Same.free s2 hz)) hq⟩
end
end K35
namespace K35
open PySem L2
theorem ne_of_none' {H : Hp} {a b : Addr} {o : HO} (h : H b = some o) (n : H a = none) : a ≠ b := fun e => by
  rw [e, h] at n
  cases n
def TreesAt (H : Hp) (l : Addr) (ts : List Tree) : Prop := ∃ as, H l = some (.lst (refsV as)) ∧ AllAt (TreeAt H) as ts
theorem TreesAt.mono {H H' : Hp} {a : Addr} {ts : List Tree} (h : TreesAt H a ts) (e : Same H H') : TreesAt H' a ts := by
  obtain ⟨as, h1, h2⟩ := h
  exact ⟨as, e _ _ h1, h2.imp fun a x q => q.mono e⟩
theorem refs_no {H : Hp} {p l : Addr} {as : List Addr} (hp : PoolAt H p) (h : H l = some (.lst (refsV as))) : l ≠ p := fun e => by
  obtain ⟨x, y, q⟩ := hp
  rw [e, q] at h
  injection h with h
  injection h with h
  cases as with
  | nil => cases h
  | cons z f => cases h
theorem TreesAt.away {H H' : Hp} {p a : Addr} {ts : List Tree} (h : TreesAt H a ts) (hp : PoolAt H p) (e : Away p H H') : TreesAt H' a ts := by
  obtain ⟨as, h1, h2⟩ := h
  exact ⟨as, e.keep _ _ (refs_no hp h1) h1, h2.imp fun b x q => q.away hp e⟩
def TreeAtN (D : Addr) (H : Hp) (a : Addr) (t : Tree) : Prop := ∃ b c, a ≠ D ∧ b ≠ D ∧ c ≠ D ∧ H a = some (.lst [.str (kdS t.1), .ref b, .ref c]) ∧ H b = some (.lst (partsV t.2.1)) ∧ H c = some (.lst (partsV t.2.2))
theorem TreeAtN.at_ {D : Addr} {H : Hp} {a : Addr} {t : Tree} (h : TreeAtN D H a t) : TreeAt H a t := let ⟨b, c, _, _, _, h1, h2, h3⟩ := h; ⟨b, c, h1, h2, h3⟩
theorem TreeAtN.upd {D : Addr} {H : Hp} {a : Addr} {t : Tree} (h : TreeAtN D H a t) (o : HO) : TreeAtN D (upd H D o) a t := let ⟨b, c, n1, n2, n3, h1, h2, h3⟩ := h; ⟨b, c, n1, n2, n3, (upd_ne n1).trans h1, (upd_ne n2).trans h2, (upd_ne n3).trans h3⟩
theorem TreeAtN.away {D : Addr} {H H' : Hp} {p a : Addr} {t : Tree} (h : TreeAtN D H a t) (hp : PoolAt H p) (e : Away p H H') : TreeAtN D H' a t := by
  obtain ⟨b, c, n1, n2, n3, h1, h2, h3⟩ := h
  have m1 : a ≠ p := fun z => by
    obtain ⟨x, y, q⟩ := hp
    rw [z, q] at h1
    cases h1
  exact ⟨b, c, n1, n2, n3, e.keep _ _ m1 h1, e.keep _ _ (parts_no hp h2) h2, e.keep _ _ (parts_no hp h3) h3⟩
theorem TreeNew.n {D : Addr} {o : HO} {H H' : Hp} {a : Addr} {t : Tree} (h : TreeNew H H' a t) (hD : H D = some o) : TreeAtN D H' a t := by
  obtain ⟨b, c, n1, n2, n3, h1, h2, h3⟩ := h
  exact ⟨b, c, ne_of_none' hD n1, ne_of_none' hD n2, ne_of_none' hD n3, h1, h2, h3⟩
def TreeOk' (n : Nat) (t : Tree) : Prop := TreeOk t.1 t.2.1 t.2.2 n
section
variable {P : Program} {w : World} {K : PySem.W.Frag} {mg : Str → Option Value} {base : Heap}
/-! ### _law_rule -/
def spRuleL : Sp := fun vs H Q _ => ∃ p : Addr, vs = [.ref p] ∧ PoolAt H p ∧ ∀ (H' : Hp) (r b e : Addr) (bs es : List Tree) (m tg : V) (al q : Bool), Away p H H' → H r = none → H' r = some (.lst [.ref b, .ref e, m, .bl al, tg, .bl q]) → TreesAt H' b bs → TreesAt H' e es → (∀ t ∈ bs, TreeOk' 3 t) → (∀ t ∈ es, TreeOk' 3 t) → OkSet fMost m → OkSet fTags tg → Q (.ref r) H'
abbrev nRuleL : List Str := ["_law_pool_here", "_law_begins", "_law_ends", "_law_cap", "_law_limit", "_law_k"]
theorem scRuleL : FnScope nRuleL ["_law_pool_here"] (defScope (top 60)) := ⟨rfl, rfl, rfl, by decide +kernel, rfl, by decide +kernel, by decide +kernel⟩
theorem ok_ruleL (T : Txt K mg) : FnOk P w K mg base CX0 5 T.dLawRule.f T.dLawRule.fd ["_law_pool_here"] spRuleL := by
  have GT : FnOk P w K mg base CX0 1 T.dLawTake.f T.dLawTake.fd ["_law_pool_here", "_law_many"] spTake := ok_take T
  have GE : FnOk P w K mg base CX0 4 T.dLawTree.f T.dLawTree.fd ["_law_pool_here"] spTree := ok_tree T
  refine T.dLawRule.F.ok scRuleL (fun vs H Q E h => ?_) (fun cdv A outer s H vs Q E hr h => ?_)
  · obtain ⟨p, rfl, _⟩ := h
    rfl
  · obtain ⟨p, rfl, hp, k⟩ := h
    have hr1 := hr.mono (show 1 ≤ 4 by decide)
    refine ⟨_, pss_cons (ps_setLc (i := 1) (own := [("_law_k", 5)]) (g := gName 5) (tt := tYes) rfl scRuleL.nd rfl rfl rfl (pi_range1 rfl T.zRange (pa_cons (pe_call GT hr1 rfl T.dLawTake.m T.dLawTake.F.kp T.dLawTake.b .nil pass0 (pa_cons (pv 0) (pa_cons pe_int pa_nil))) pa_nil)) (blkOk_by (own := [("_law_k", 5)]) (N := nRuleL) (sc := defScope (top 60)) (by decide +kernel))
        (fun _ _ _ _ _ => pg_name (i := 5) scRuleL.nd rfl (Or.inl rfl)) (fun _ _ _ _ _ => pts_nil) (fun _ _ _ _ _ => pe_call GE hr rfl T.dLawTree.m T.dLawTree.F.kp T.dLawTree.b .nil pass0 (pa_cons (pv 0) pa_nil)))
      (pss_cons (ps_setLc (i := 2) (own := [("_law_k", 5)]) (g := gName 5) (tt := tYes) rfl scRuleL.nd rfl rfl rfl (pi_range1 rfl T.zRange (pa_cons (pe_call GT hr1 rfl T.dLawTake.m T.dLawTake.F.kp T.dLawTake.b .nil pass0 (pa_cons (pv 0) (pa_cons pe_int pa_nil))) pa_nil)) (blkOk_by (own := [("_law_k", 5)]) (N := nRuleL) (sc := defScope (top 60)) (by decide +kernel))
        (fun _ _ _ _ _ => pg_name (i := 5) scRuleL.nd rfl (Or.inl rfl)) (fun _ _ _ _ _ => pts_nil) (fun _ _ _ _ _ => pe_call GE hr rfl T.dLawTree.m T.dLawTree.F.kp T.dLawTree.b .nil pass0 (pa_cons (pv 0) pa_nil)))
      (pss_cons (ps_set (i := 3) scRuleL.nd rfl (.inl rfl) (pe_ix ix_list (pe_lst (pa_cons pe_non (pa_cons (pe_op op_add pe_int (pe_call GT hr1 rfl T.dLawTake.m T.dLawTake.F.kp T.dLawTake.b .nil pass0 (pa_cons (pv 0) (pa_cons pe_int pa_nil)))) (pa_cons (pe_op op_add pe_int (pe_call GT hr1 rfl T.dLawTake.m T.dLawTake.F.kp T.dLawTake.b .nil pass0 (pa_cons (pv 0) (pa_cons pe_int pa_nil)))) pa_nil)))) (pe_call GT hr1 rfl T.dLawTake.m T.dLawTake.F.kp T.dLawTake.b .nil pass0 (pa_cons (pv 0) (pa_cons pe_int pa_nil))) (fun _ _ => rfl)))
      (pss_cons (ps_set (i := 4) scRuleL.nd rfl (.inl rfl) (pe_ix ix_list (pe_lst (pa_cons pe_non (pa_cons (pe_call GT hr1 rfl T.dLawTake.m T.dLawTake.F.kp T.dLawTake.b .nil pass0 (pa_cons (pv 0) (pa_cons pe_int pa_nil))) (pa_cons (pe_call GT hr1 rfl T.dLawTake.m T.dLawTake.F.kp T.dLawTake.b .nil pass0 (pa_cons (pv 0) (pa_cons pe_int pa_nil))) pa_nil)))) (pe_call GT hr1 rfl T.dLawTake.m T.dLawTake.F.kp T.dLawTake.b .nil pass0 (pa_cons (pv 0) (pa_cons pe_int pa_nil))) (fun _ _ => rfl)))
      (pss_one (ps_ret (pe_lst (pa_cons (pv 1) (pa_cons (pv 2) (pa_cons (pv 3) (pa_cons (pe_cmpR op_gt (pe_call GT hr1 rfl T.dLawTake.m T.dLawTake.F.kp T.dLawTake.b .nil pass0 (pa_cons (pv 0) (pa_cons pe_int pa_nil))) pe_int (nomark _)) (pa_cons (pv 4) (pa_cons (pe_cmpR op_eq (pe_call GT hr1 rfl T.dLawTake.m T.dLawTake.F.kp T.dLawTake.b .nil pass0 (pa_cons (pv 0) (pa_cons pe_int pa_nil))) pe_int (nomark _)) pa_nil)))))))))))), ?_⟩
    refine ⟨_, rfl, p, 4, rfl, hp, by decide, by decide, fun H1 nb hnb a1 => ⟨_, rfl, by omega, by omega, ?_⟩⟩
    rw [show (((nb : Nat) : Int)).toNat = nb from Int.toNat_natCast _]
    refine fun bD hbD => lc_it (walk_range (lo := 0) (n := nb)) (fun i H2 => Away p H1 H2 ∧ ∃ (ts : List Addr) (trees : List Tree), H2 bD = some (.lst (refsV ts)) ∧ AllAt (TreeAtN bD H2) ts trees ∧ trees.length = i ∧ ∀ t ∈ trees, TreeOk' 3 t)
      ⟨away_same a1.pool (same_upd hbD), [], [], upd_same, trivial, rfl, fun t ht => by simp at ht⟩ (fun _ _ _ _ => trivial) ?_ ?_
    · rintro i x H2 H3 hi ⟨a2, ts, trees, hT, hts, htl, hok⟩ ⟨rfl, rfl⟩
      refine ⟨rfl, tyes (iteT ?_)⟩
      refine ⟨_, rfl, p, rfl, a2.pool, fun H4 t tr htr a4 hta => ?_⟩
      have nD := pool_ne a1.pool hbD
      have hT4 := a4.keep _ _ nD hT
      have htlen := hts.length
      refine ⟨_, hT4, by rw [refsV_length]; exact line_lt (by omega), (a2.trans a4).upd hbD nD, ts ++ [t], trees ++ [tr], by rw [upd_same, refsV_app]; rfl, ?_, by rw [List.length_append, htl]; rfl, ?_⟩
      · exact AllAt.snoc (hts.imp fun b x q => (q.away a2.pool a4).upd _) ((hta.n hT).upd _)
      · intro t' ht'
        rcases List.mem_append.mp ht' with ht' | ht'
        · exact hok t' ht'
        · rw [List.mem_singleton.mp ht']; exact htr
    rintro H5 ⟨a5, bts, btrees, hbT, hbts, _, hbok⟩
    have nbp := pool_ne a1.pool hbD
    have hbA : TreesAt H5 bD btrees := ⟨bts, hbT, hbts.imp fun _ _ q => q.at_⟩
    have a15 := a1.trans a5
    refine ⟨_, rfl, p, 3, rfl, a5.pool, by decide, by decide, fun H6 ne hne a6 => ⟨_, rfl, by omega, by omega, ?_⟩⟩
    rw [show (((ne : Nat) : Int)).toNat = ne from Int.toNat_natCast _]
    refine fun eD heD => lc_it (walk_range (lo := 0) (n := ne)) (fun i H2 => Away p H6 H2 ∧ ∃ (ts : List Addr) (trees : List Tree), H2 eD = some (.lst (refsV ts)) ∧ AllAt (TreeAtN eD H2) ts trees ∧ trees.length = i ∧ ∀ t ∈ trees, TreeOk' 3 t)
      ⟨away_same a6.pool (same_upd heD), [], [], upd_same, trivial, rfl, fun t ht => by simp at ht⟩ (fun _ _ _ _ => trivial) ?_ ?_
    · rintro i x H2 H3 hi ⟨a2, ts, trees, hT, hts, htl, hok⟩ ⟨rfl, rfl⟩
      refine ⟨rfl, tyes (iteT ?_)⟩
      refine ⟨_, rfl, p, rfl, a2.pool, fun H4 t tr htr a4 hta => ?_⟩
      have nD := pool_ne a6.pool heD
      have hT4 := a4.keep _ _ nD hT
      have htlen := hts.length
      refine ⟨_, hT4, by rw [refsV_length]; exact line_lt (by omega), (a2.trans a4).upd heD nD, ts ++ [t], trees ++ [tr], by rw [upd_same, refsV_app]; rfl, ?_, by rw [List.length_append, htl]; rfl, ?_⟩
      · exact AllAt.snoc (hts.imp fun b x q => (q.away a2.pool a4).upd _) ((hta.n hT).upd _)
      · intro t' ht'
        rcases List.mem_append.mp ht' with ht' | ht'
        · exact hok t' ht'
        · rw [List.mem_singleton.mp ht']; exact htr
    rintro H7 ⟨a7, ets, etrees, heT, hets, _, heok⟩
    have heA : TreesAt H7 eD etrees := ⟨ets, heT, hets.imp fun _ _ q => q.at_⟩
    have hbA7 := (hbA.away a5.pool a6).away a6.pool a7
    have a17 := (a15.trans a6).trans a7
    -- cap
    refine ⟨_, rfl, p, 4, rfl, a7.pool, by decide, by decide, fun H8 c1 hc1 a8 => ⟨_, _, rfl, rfl, ?_⟩⟩
    refine ⟨_, rfl, p, 20, rfl, a8.pool, by decide, by decide, fun H9 c2 hc2 a9 => ⟨_, _, rfl, rfl, ?_⟩⟩
    refine ⟨line_big (n := 3) (by decide), fun cl hcl => ?_⟩
    have ncp := pool_ne a9.pool hcl
    have a9' := a9.same (same_upd (o := .lst [.non, .int (1 + (c1 : Nat)), .int (1 + (c2 : Nat))]) hcl)
    refine ⟨_, rfl, p, 3, rfl, a9'.pool, by decide, by decide, fun H10 ci hci a10 => ?_⟩
    have hcl10 := a10.keep _ _ ncp upd_same
    obtain ⟨cv, hcv, hcok⟩ : ∃ cv, atI [V.non, .int (1 + (c1 : Nat)), .int (1 + (c2 : Nat))] (ci : Nat) = some cv ∧ OkSet fMost cv := by
      match ci, hci with
      | 0, _ => exact ⟨_, atI_nat (j := 0) rfl, .inl ⟨rfl, .inl rfl⟩⟩
      | 1, _ => exact ⟨_, atI_nat (j := 1) rfl, .inl ⟨rfl, .inr ⟨1 + c1, by rw [show ((1 + c1 : Nat) : Int) = 1 + (c1 : Nat) by omega], by omega, by omega⟩⟩⟩
      | 2, _ => exact ⟨_, atI_nat (j := 2) rfl, .inl ⟨rfl, .inr ⟨1 + c2, by rw [show ((1 + c2 : Nat) : Int) = 1 + (c2 : Nat) by omega], by omega, by omega⟩⟩⟩
    refine ⟨cl, _, _, cv, rfl, rfl, .inl (.inl hcl10), hcv, ?_⟩
    have a110 := ((a17.trans a8).trans a9').trans a10
    have hb10 := ((hbA7.away a7.pool a8).away a8.pool a9').away a9'.pool a10
    have he10 := ((heA.away a7.pool a8).away a8.pool a9').away a9'.pool a10
    -- limit
    refine ⟨_, rfl, p, 3, rfl, a10.pool, by decide, by decide, fun H11 l1 hl1 a11 => ?_⟩
    refine ⟨_, rfl, p, 10, rfl, a11.pool, by decide, by decide, fun H12 l2 hl2 a12 => ?_⟩
    refine ⟨line_big (n := 3) (by decide), fun ll hll => ?_⟩
    have nlp := pool_ne a12.pool hll
    have a12' := a12.same (same_upd (o := .lst [.non, .int (l1 : Nat), .int (l2 : Nat)]) hll)
    refine ⟨_, rfl, p, 3, rfl, a12'.pool, by decide, by decide, fun H13 li hli a13 => ?_⟩
    have hll13 := a13.keep _ _ nlp upd_same
    obtain ⟨lv, hlv, hlok⟩ : ∃ lv, atI [V.non, .int (l1 : Nat), .int (l2 : Nat)] (li : Nat) = some lv ∧ OkSet fTags lv := by
      match li, hli with
      | 0, _ => exact ⟨_, atI_nat (j := 0) rfl, .inr (.inl ⟨rfl, .inl rfl⟩)⟩
      | 1, _ => exact ⟨_, atI_nat (j := 1) rfl, .inr (.inl ⟨rfl, .inr ⟨l1, rfl, by omega⟩⟩)⟩
      | 2, _ => exact ⟨_, atI_nat (j := 2) rfl, .inr (.inl ⟨rfl, .inr ⟨l2, rfl, by omega⟩⟩)⟩
    refine ⟨ll, _, _, lv, rfl, rfl, .inl (.inl hll13), hlv, ?_⟩
    have a113 := ((a110.trans a11).trans a12').trans a13
    have hb13 := ((hb10.away a10.pool a11).away a11.pool a12').away a12'.pool a13
    have he13 := ((he10.away a10.pool a11).away a11.pool a12').away a12'.pool a13
    -- the row
    refine ⟨_, rfl, _, rfl, _, rfl, ?_⟩
    refine ⟨_, rfl, p, 3, rfl, a13.pool, by decide, by decide, fun H14 d1 hd1 a14 => ⟨_, _, rfl, rfl, ?_⟩⟩
    refine ⟨_, rfl, _, rfl, p, 2, rfl, a14.pool, by decide, by decide, fun H15 d2 hd2 a15' => ⟨rfl, ?_⟩⟩
    refine ⟨line_big (n := 6) (by decide), fun r hr' => ?_⟩
    have st := same_upd (o := .lst [.ref bD, .ref eD, cv, .bl (decide ((0 : Int) < (d1 : Nat))), lv, .bl (decide (V.int (d2 : Nat) = V.int 1))]) hr'
    have a115 := (a113.trans a14).trans a15'
    exact k _ r bD eD btrees etrees cv lv _ _ (a115.same st) (a115.free hr') upd_same (((hb13.away a13.pool a14).away a14.pool a15').mono st) (((he13.away a13.pool a14).away a14.pool a15').mono st) hbok heok hcok hlok
end
end K35
namespace K35
open PySem L2
section
variable {P : Program} {w : World} {K : PySem.W.Frag} {mg : Str → Option Value} {base : Heap}
theorem FormAt.over {T : Txt K mg} {H : Hp} {a D : Addr} {xs : List V} {o : HO} {f : Form} (h : FormAt T H a f) (hD : H D = some (.lst xs)) : FormAt T (upd H D o) a f := by
  obtain ⟨dx, t, h1, h2, h3⟩ := h
  have n1 : a ≠ D := fun e => by rw [e, hD] at h1; cases h1
  have n2 : t ≠ D := fun e => by rw [e, hD] at h2; cases h2
  exact ⟨dx, t, (upd_ne n1).trans h1, (upd_ne n2).trans h2, h3⟩
theorem PatAt.over {T : Txt K mg} {H : Hp} {a D : Addr} {xs : List V} {o : HO} {q : Pat} (h : PatAt T H a q) (hD : H D = some (.lst xs)) : PatAt T (upd H D o) a q := by
  cases q with
  | one f => exact FormAt.over (T := T) h hD
  | both f g =>
    obtain ⟨dx, b, c, h1, h2, h3⟩ := h
    have n1 : a ≠ D := fun e => by rw [e, hD] at h1; cases h1
    exact ⟨dx, b, c, (upd_ne n1).trans h1, h2.over hD, h3.over hD⟩
  | either f g =>
    obtain ⟨dx, b, c, h1, h2, h3⟩ := h
    have n1 : a ≠ D := fun e => by rw [e, hD] at h1; cases h1
    exact ⟨dx, b, c, (upd_ne n1).trans h1, h2.over hD, h3.over hD⟩
/-! ### _law_marks -/
def spMarks (T : Txt K mg) : Sp := fun vs H Q _ => ∃ (l : Addr) (ts : List Tree), vs = [.ref l] ∧ TreesAt H l ts ∧ (∀ t ∈ ts, TreeOk' 3 t) ∧ ts.length ≤ 100 ∧ ∀ (H' : Hp) (c : Addr), Same H H' → H c = none → PatsAt T H' c (ts.map patOf) → Q (.ref c) H'
theorem scMarks : FnScope ["_law_trees", "_law_tree_here"] ["_law_trees"] (defScope (top 61)) := ⟨rfl, rfl, rfl, by decide +kernel, rfl, by decide +kernel, by decide +kernel⟩
theorem ok_marks (T : Txt K mg) : FnOk P w K mg base CX0 7 T.dLawMarks.f T.dLawMarks.fd ["_law_trees"] (spMarks T) := by
  have GB : FnOk P w K mg base CX0 6 T.dLawBuilt.f T.dLawBuilt.fd ["_law_tree_here"] (spBuilt T) := ok_built T
  refine T.dLawMarks.F.ok scMarks (fun vs H Q E h => ?_) (fun cdv A outer s H vs Q E hr h => ?_)
  · obtain ⟨l, ts, rfl, _⟩ := h
    rfl
  · obtain ⟨l, ts, rfl, ⟨as, hL, hAs⟩, hok, hlen, k⟩ := h
    refine ⟨_, pss_one (ps_ret (pe_lc (own := [("_law_tree_here", 1)]) (g := gName 1) (tt := tYes) rfl scMarks.nd (pi_list (pv 0)) (blkOk_by (own := [("_law_tree_here", 1)]) (N := ["_law_trees", "_law_tree_here"]) (sc := defScope (top 61)) (by decide +kernel))
      (fun _ _ _ _ _ => pg_name (i := 1) scMarks.nd rfl (Or.inl rfl)) (fun _ _ _ _ _ => pts_nil) (fun _ _ _ _ _ => pe_call GB hr rfl T.dLawBuilt.m T.dLawBuilt.F.kp T.dLawBuilt.b .nil pass0 (pa_cons (pv 1) pa_nil)))), ?_⟩
    refine ⟨_, rfl, l, rfl, ⟨_, .inl (.inl hL)⟩, fun D hD => lc_it (walk_list (xs := refsV as)) (fun i H2 => Same H H2 ∧ ∃ ps, H2 D = some (.lst (refsV ps)) ∧ AllAt (PatAt T H2) ps ((ts.take i).map patOf))
      ⟨same_upd hD, [], upd_same, trivial⟩ (fun i H2 _ q => .inl (.inl (q.1 _ _ hL))) ?_ ?_⟩
    · rintro i x H0 H2 hi ⟨s2, ps, hD2, hps⟩ ⟨rfl, hx⟩
      obtain ⟨a, ha, rfl⟩ := refsV_some hx
      obtain ⟨t, ht, hta⟩ := hAs.get ha
      refine ⟨rfl, tyes (iteT ?_)⟩
      refine ⟨_, rfl, a, t, rfl, hta.mono s2, hok t (List.mem_of_getElem? ht), fun H4 c s4 hc hq => ?_⟩
      have hpl : ps.length ≤ 100 := by
        rw [hps.length, List.length_map, List.length_take]
        omega
      have hD4 := s4 _ _ hD2
      refine ⟨_, hD4, by rw [refsV_length]; exact line_lt (by omega), same_over (s2.trans s4) hD, ps ++ [c], by rw [upd_same, refsV_app]; rfl, ?_⟩
      rw [take_snoc ht, List.map_append]
      exact AllAt.snoc (hps.imp fun b z q => (q.mono s4).over hD4) (hq.over hD4)
    · rintro H2 ⟨s2, ps, hD2, hps⟩
      rw [refsV_length, show ts.take as.length = ts by rw [hAs.length, List.take_length]] at hps
      exact k _ D s2 hD ⟨ps, hD2, hps⟩
/-! ### _law_short -/
def cutT (t : Tree) : Tree := (t.1, t.2.1.take 2, t.2.2.take 2)
theorem TreeOk.cut {t : Tree} {n : Nat} (h : TreeOk' n t) : TreeOk' 2 (cutT t) := by
  obtain ⟨k, f, g⟩ := t
  have ne : ∀ {f : Form}, f ≠ [] → f.take 2 ≠ [] := fun {f} h => by
    cases f with
    | nil => exact absurd rfl h
    | cons a f => simp
  exact ⟨h.lf.take 2, h.lg.take 2, ne h.nf, fun z => ne (h.ng z), by show (f.take 2).length ≤ 2; rw [List.length_take]; omega, by show (g.take 2).length ≤ 2; rw [List.length_take]; omega⟩
def spShort : Sp := fun vs H Q _ => ∃ (l : Addr) (ts : List Tree), vs = [.ref l] ∧ TreesAt H l ts ∧ ts.length ≤ 100 ∧ ∀ (H' : Hp) (c : Addr), Same H H' → H c = none → TreesAt H' c (ts.map cutT) → Q (.ref c) H'
theorem scShort : FnScope ["_law_trees", "_law_tree_here"] ["_law_trees"] (defScope (top 65)) := ⟨rfl, rfl, rfl, by decide +kernel, rfl, by decide +kernel, by decide +kernel⟩
theorem cut2_parts (f : Form) : cutV (partsV f) none (some 2) = partsV (f.take 2) := by
  rw [show (some (2 : Int)) = some ((2 : Nat) : Int) from rfl, cut_to]
  unfold partsV
  rw [List.map_take]
theorem ok_short (T : Txt K mg) : FnOk P w K mg base CX0 1 T.dLawShort.f T.dLawShort.fd ["_law_trees"] spShort := by
  refine T.dLawShort.F.ok scShort (fun vs H Q E h => ?_) (fun cdv A outer s H vs Q E hr h => ?_)
  · obtain ⟨l, ts, rfl, _⟩ := h
    rfl
  · obtain ⟨l, ts, rfl, ⟨as, hL, hAs⟩, hlen, k⟩ := h
    refine ⟨_, pss_one (ps_ret (pe_lc (own := [("_law_tree_here", 1)]) (g := gName 1) (tt := tYes) rfl scShort.nd (pi_list (pv 0)) (blkOk_by (own := [("_law_tree_here", 1)]) (N := ["_law_trees", "_law_tree_here"]) (sc := defScope (top 65)) (by decide +kernel))
      (fun _ _ _ _ _ => pg_name (i := 1) scShort.nd rfl (Or.inl rfl)) (fun _ _ _ _ _ => pts_nil)
      (fun _ _ _ _ _ => pe_lst (pa_cons (pe_ix (r := rIxL K) ix_list (pv 1) pe_int (fun _ _ => rfl)) (pa_cons (pe_slice (r := rSlL K) sl_list (pe_ix (r := rIxL K) ix_list (pv 1) pe_int (fun _ _ => rfl)) po_none (po_some pe_int))
        (pa_cons (pe_slice (r := rSlL K) sl_list (pe_ix (r := rIxL K) ix_list (pv 1) pe_int (fun _ _ => rfl)) po_none (po_some pe_int)) pa_nil)))))), ?_⟩
    refine ⟨_, rfl, l, rfl, ⟨_, .inl (.inl hL)⟩, fun D hD => lc_it (walk_list (xs := refsV as)) (fun i H2 => Same H H2 ∧ ∃ ps, H2 D = some (.lst (refsV ps)) ∧ AllAt (TreeAtN D H2) ps ((ts.take i).map cutT))
      ⟨same_upd hD, [], upd_same, trivial⟩ (fun i H2 _ q => .inl (.inl (q.1 _ _ hL))) ?_ ?_⟩
    · rintro i x H0 H2 hi ⟨s2, ps, hD2, hps⟩ ⟨rfl, hx⟩
      obtain ⟨a, ha, rfl⟩ := refsV_some hx
      obtain ⟨t, ht, b, c, h1, h2, h3⟩ := hAs.get ha
      have hpl : ps.length ≤ 100 := by
        rw [hps.length, List.length_map, List.length_take]
        omega
      refine ⟨rfl, tyes (iteT ?_)⟩
      refine ⟨_, rfl, a, _, _, _, rfl, rfl, .inl (.inl (s2 _ _ h1)), atI_nat (j := 0) rfl, ?_⟩
      refine ⟨_, rfl, a, _, _, _, rfl, rfl, .inl (.inl (s2 _ _ h1)), atI_nat (j := 1) rfl, _, rfl, b, _, rfl, .inl (.inl (s2 _ _ h2)), fun b' hb' => ?_⟩
      rw [cut2_parts]
      have sb := same_upd (o := .lst (partsV (t.2.1.take 2))) hb'
      refine ⟨_, rfl, a, _, _, _, rfl, rfl, .inl (.inl (sb _ _ (s2 _ _ h1))), atI_nat (j := 2) rfl, _, rfl, c, _, rfl, .inl (.inl (sb _ _ (s2 _ _ h3))), fun c' hc' => ?_⟩
      rw [cut2_parts]
      have sc := same_upd (o := .lst (partsV (t.2.2.take 2))) hc'
      refine ⟨line_big (n := 3) (by decide), fun t' ht' => ?_⟩
      have st := same_upd (o := .lst [.str (kdS t.1), .ref b', .ref c']) ht'
      have sall := (sb.trans sc).trans st
      have hD4 := sall _ _ hD2
      refine ⟨_, hD4, by rw [refsV_length]; exact line_lt (by omega), same_over (s2.trans sall) hD, ps ++ [t'], by rw [upd_same, refsV_app]; rfl, ?_⟩
      rw [take_snoc ht, List.map_append]
      have nw : TreeAtN D (upd (upd (upd H2 b' (.lst (partsV (t.2.1.take 2)))) c' (.lst (partsV (t.2.2.take 2)))) t' (.lst [.str (kdS t.1), .ref b', .ref c'])) t' (cutT t) :=
        ⟨b', c', ne_of_none' (sc _ _ (sb _ _ hD2)) ht', ne_of_none' hD2 hb', ne_of_none' (sb _ _ hD2) hc', upd_same, st _ _ (sc _ _ upd_same), st _ _ upd_same⟩
      exact AllAt.snoc (hps.imp fun y z ⟨u, v, n1, n2, n3, q1, q2, q3⟩ => (show TreeAtN D _ y z from ⟨u, v, n1, n2, n3, sall _ _ q1, sall _ _ q2, sall _ _ q3⟩).upd _) (nw.upd _)
    · rintro H2 ⟨s2, ps, hD2, hps⟩
      rw [refsV_length, show ts.take as.length = ts by rw [hAs.length, List.take_length]] at hps
      exact k _ D s2 hD ⟨ps, hD2, hps.imp fun _ _ q => q.at_⟩
/-! ### _law_ruled -/
def spRuled (T : Txt K mg) : Sp := fun vs H Q _ => ∃ (r b e : Addr) (bs es : List Tree) (m tg : V) (al q : Bool), vs = [.ref r] ∧ H r = some (.lst [.ref b, .ref e, m, .bl al, tg, .bl q]) ∧ TreesAt H b bs ∧ TreesAt H e es ∧ (∀ t ∈ bs, TreeOk' 3 t) ∧ (∀ t ∈ es, TreeOk' 3 t) ∧ bs.length + es.length ≤ 6 ∧ OkSet fMost m ∧ OkSet fTags tg ∧
  ∀ (H' : Hp) (x : Addr), Same H H' → H x = none → RuleAt T H' x (bs.map patOf) (es.map patOf) → Q (.ref x) H'
theorem scRuled : FnScope ["_law_rule_here", "_law_begins"] ["_law_rule_here"] (defScope (top 62)) := ⟨rfl, rfl, rfl, by decide +kernel, rfl, by decide +kernel, by decide +kernel⟩
theorem ok_ruled (T : Txt K mg) : FnOk P w K mg base CX0 8 T.dLawRuled.f T.dLawRuled.fd ["_law_rule_here"] (spRuled T) := by
  have GM : FnOk P w K mg base CX0 7 T.dLawMarks.f T.dLawMarks.fd ["_law_trees"] (spMarks T) := ok_marks T
  have GR : FnOk P w K mg base CX0 3 T.iRule.f T.iRule.fd psRule (spIRule T) := ok_iRule T
  have M : Mk K T.cRule.C T.iRule.f := ⟨T.cRule.makes, T.iRule.m.at_, T.iRule.m.fn, T.cRule.kp⟩
  refine T.dLawRuled.F.ok scRuled (fun vs H Q E h => ?_) (fun cdv A outer s H vs Q E hr h => ?_)
  · obtain ⟨r, b, e, bs, es, m, tg, al, q, rfl, _⟩ := h
    rfl
  · obtain ⟨r, b, e, bs, es, m, tg, al, q, rfl, hR, hB, hE, hbo, heo, hlen, hm, htg, k⟩ := h
    have hr4 := hr.mono (show 4 ≤ 7 by decide)
    refine ⟨_, pss_cons (ps_set (i := 1) scRuled.nd rfl (.inl rfl) (pe_call GM hr rfl T.dLawMarks.m T.dLawMarks.F.kp T.dLawMarks.b .nil pass0 (pa_cons (pe_ix ix_list (pv 0) pe_int (fun _ _ => rfl)) pa_nil)))
      (pss_one (ps_ret (pe_makeN (n := 2) M GR hr4 rfl T.cRule.m (kb_rule T) pass0 (pa_cons (pv 1) (pa_cons (pe_call GM hr rfl T.dLawMarks.m T.dLawMarks.F.kp T.dLawMarks.b .nil pass0 (pa_cons (pe_ix ix_list (pv 0) pe_int (fun _ _ => rfl)) pa_nil)) pa_nil))
        (pk_cons (pe_ix ix_list (pv 0) pe_int (fun _ _ => rfl)) (pk_cons (pe_ix ix_list (pv 0) pe_int (fun _ _ => rfl)) (pk_cons (pe_ix ix_list (pv 0) pe_int (fun _ _ => rfl)) (pk_cons (pe_ix ix_list (pv 0) pe_int (fun _ _ => rfl)) pk_nil))))))), ?_⟩
    refine ⟨_, rfl, r, _, _, _, rfl, rfl, .inl (.inl hR), atI_nat (j := 0) rfl, b, bs, rfl, hB, hbo, by omega, fun H1 x s1 hx hP => ?_⟩
    refine ⟨_, rfl, _, rfl, r, _, _, _, rfl, rfl, .inl (.inl (s1 _ _ hR)), atI_nat (j := 1) rfl, e, es, rfl, hE.mono s1, heo, by omega, fun H2 y s2 hy hP2 => ?_⟩
    have s12 := s1.trans s2
    refine ⟨_, rfl, r, _, _, _, rfl, rfl, .inl (.inl (s12 _ _ hR)), atI_nat (j := 2) rfl, _, rfl, r, _, _, _, rfl, rfl, .inl (.inl (s12 _ _ hR)), atI_nat (j := 3) rfl, _, rfl, r, _, _, _, rfl, rfl, .inl (.inl (s12 _ _ hR)), atI_nat (j := 4) rfl, _, rfl, r, _, _, _, rfl, rfl, .inl (.inl (s12 _ _ hR)), atI_nat (j := 5) rfl, ?_⟩
    refine ⟨rfl, rfl, fun z dz hz hdz hne => ?_⟩
    obtain ⟨as, hxL, hxA⟩ := hP.mono s2
    obtain ⟨cs, hyL, hyA⟩ := hP2
    have s3 : Same H2 (upd (upd H2 dz (.own z)) z (.ins T.cRule.C dz [])) := same_over (same_upd hdz) hz
    refine ⟨z, x, y, dz, as, cs, m, .bl al, tg, .bl q, rfl, upd_same, s3 _ _ hxL, s3 _ _ hyL, ?_, ⟨hm, .inr (.inr ⟨.inl rfl, al, rfl⟩), htg, .inr (.inr ⟨.inr rfl, q, rfl⟩)⟩, fun H4 o c d hk hz4 ho hc => ⟨rfl, ?_⟩⟩
    · rw [hxA.length, hyA.length, List.length_map, List.length_map]
      exact hlen
    have s4 : Same H2 H4 := fun u v huv => hk u v (ne_of_none huv hz) (s3 _ _ huv)
    exact k H4 z (s12.trans s4) (Same.free s12 hz) ⟨dz, o, c, d, hz4, ⟨as, ho, hxA.imp fun _ _ q => q.mono s4⟩, ⟨cs, hc, hyA.imp fun _ _ q => q.mono s4⟩⟩
end
end K35
namespace K35
open PySem L2
/-! ### a lambda without captured names, as an object -/
def LamO (f c' : Addr) (qual : Str) (params : Arguments) (body : Expr) (scope : Scope) : HO := .ext fun h => ∃ pm ctv, h.get? f = some (PySem.W.kla_obj "<lambda>" qual params body scope [] pm c' ctv)
theorem lamO_ok {P : Program} {w : World} {H : Hp} {h : Heap} {f c' : Addr} {qual : Str} {params : Arguments} {body : Expr} {scope : Scope} {pm ctv : Value} (e : h.get? f = some (PySem.W.kla_obj "<lambda>" qual params body scope [] pm c' ctv)) : ObjOk P w H h f (LamO f c' qual params body scope) :=
  ⟨⟨pm, ctv, e⟩, ⟨_, e⟩, fun h1 h2 ⟨pm, ctv, e⟩ k => ⟨pm, ctv, k _ e⟩⟩
/-- the pair that the lambda gives -/
def keyO (p : Addr) (i : Int) (z : Str) : HO := .ext fun h => ∃ o t u n, h.get? p = some o ∧ o.cls = .type "tuple" ∧ o.data = .seq #[.int i t, .str z u] n
theorem keyO_ok {P : Program} {w : World} {H : Hp} {h : Heap} {p : Addr} {i : Int} {z : Str} {t u : Tok} {o : Obj} {n : Nat} (e : h.get? p = some o) (c : o.cls = .type "tuple") (d : o.data = .seq #[.int i t, .str z u] n) : ObjOk P w H h p (keyO p i z) :=
  ⟨⟨o, t, u, n, e, c, d⟩, ⟨_, e⟩, fun h1 h2 ⟨o, t, u, n, e, c, d⟩ k => ⟨o, t, u, n, k _ e, c, d⟩⟩
section
variable {X : Cx} {pins : List (Addr × Obj)} {σ : L2.St} {H : Hp} {s : Shared}
/-- (i, z), the pair not tracked as a tuple -/
theorem pe_tupKey {es : List Expr} {t : TA} {x1 : Nat} {pos : Pos} (h : PA X es t) : PE X (.Tuple es x1 pos) (fun σ H Q => t σ H fun xs H1 => ∃ i z, xs = [.int i, .str z] ∧ ∀ p, H1 p = none → X.s_0.heap.objs.size ≤ p → Q (.ref p) (upd H1 p (keyO p i z))) := by
  refine ⟨fun pins s σ H Q I hq => ?_⟩
  refine wpAny_Tuple_spliced (thn (h.run pos pins s σ H _ I hq) fun us s1 ⟨xs, H1, I1, r, i, z, e, q⟩ => ?_)
  subst e
  obtain ⟨u1, u2, rfl, ⟨t1, rfl⟩, ⟨t2, rfl⟩⟩ := vals_two r
  refine ⟨line_big (n := 2) (by decide), ?_⟩
  have hf : H1 s1.heap.objs.size = none := I1.hok.fresh (Nat.le_refl _)
  exact ⟨.ref s1.heap.objs.size, upd H1 s1.heap.objs.size (keyO s1.heap.objs.size i z), I1.laid (t' := s1.toks) (fun b u e => Heap.get?_push_of_some _ e) (Nat.le_refl _) (keyO_ok (Heap.get?_push_size _ rfl) rfl rfl), rfl, q _ hf I1.sz⟩
/-! ### the lambda is made -/
def tLamO (T : List (Addr × Str)) (qual : Str) (params : Arguments) (body : Expr) (scope : Scope) : TE := fun σ H Q => LamX.Tabs T H ∧ ∀ (H1 : Hp) (f c' : Addr), LamX.ExtN H H1 → LamX.Tabs T H1 → H1 f = some (LamO f c' qual params body scope) → H1 c' = some (LamX.CodeO c' qual) → Q (.ref f) H1
theorem pe_lamO {T : List (Addr × Str)} {c P : Addr} {params : Arguments} {body : Expr} {scope : Scope} {pos : Pos} (TB : LamX.TabB X.base X.mg c P) (hcode : X.env.code = .ref c) (hm : (P, X.env.qual ++ "<lambda>") ∈ T) (hu : ∀ p ∈ T, p.1 = P → p.2 = X.env.qual ++ "<lambda>")
    (hdef : defaultsOf params X.env = ([], [])) (hfree : ∀ y ∈ scope.names, ¬ y.2 = .free) (hclo : cloFrom X.env.cells scope.names [] = []) : PE X (.Lambda params body scope pos) (tLamO T (X.env.qual ++ "<lambda>") params body scope) := by
  refine ⟨fun pins s σ H Q I hq => ?_⟩
  obtain ⟨hT, h⟩ := hq
  obtain ⟨ps, hP, ht, ha⟩ := hT _ hm
  refine PySem.W.kla_eval hdef ?_
  have bP : s.heap.BuiltinsAt X.mg P := TB.bm.keeps I.bk
  have hP' : s.heap.get? P = some { cls := .none, data := .fields ps } := I.hok P _ hP
  have hcl : closureFor scope X.env = pure [] := by
    have := closure_ok (scope := scope) (env := X.env) fun y hy e => absurd e (hfree y hy)
    rw [hclo] at this
    exact this
  cases hc : codeAmong pos ps.toList with
  | none =>
    refine PySem.W.kla_makeFunction (mg := X.mg) (c := c) (P := P) (ps := ps) hcl I.ok.glob (I.mod.glob.keeps I.bk) hcode (TB.code.keeps I.bk) hP' ht hc TB.gP bP fun c' ctv h' tk hx hge hlt hrec htb => ?_
    obtain ⟨c2, oc, vs, t, e2, hoc, hd, hv⟩ := hrec
    cases e2
    have nC : H c' = none := I.hok.fresh hge
    have I1 := LamX.inv_table (t' := tk) (more := #[PySem.rawInt pos.line, PySem.rawInt pos.col, .ref c']) (h' := h') I hP (fun b o hb e => hx b o hb e) htb hge ⟨oc, vs, t, hoc, hd, hv⟩
    have hE : LamX.ExtN H (upd (upd H P (.tbl (ps ++ #[PySem.rawInt pos.line, PySem.rawInt pos.col, .ref c']))) c' (LamX.CodeO c' (X.env.qual ++ "<lambda>"))) := fun b o e n => by
      rw [upd_ne (ne_of_none e nC), upd_ne (fun z => n ps (Option.some.inj (e.symm.trans (by rw [z]; exact hP))))]
      exact e
    have eL : (ps ++ #[PySem.rawInt pos.line, PySem.rawInt pos.col, .ref c']).toList = ps.toList ++ [PySem.rawInt pos.line, PySem.rawInt pos.col, .ref c'] := by simp
    have hf : upd (upd H P (.tbl (ps ++ #[PySem.rawInt pos.line, PySem.rawInt pos.col, .ref c']))) c' (LamX.CodeO c' (X.env.qual ++ "<lambda>")) h'.objs.size = none := I1.hok.fresh (Nat.le_refl _)
    have hT1 : LamX.Tabs T (upd (upd H P (.tbl (ps ++ #[PySem.rawInt pos.line, PySem.rawInt pos.col, .ref c']))) c' (LamX.CodeO c' (X.env.qual ++ "<lambda>"))) := fun p hp => by
      by_cases hb : p.1 = P
      · rw [hu p hp hb, hb]
        refine ⟨_, by rw [upd_ne (ne_of_none hP nC), upd_same], by rw [eL]; exact PySem.TriplesOk_snoc _ _ _ _ ht, fun p' cv hcv => ?_⟩
        rw [eL] at hcv
        rcases LamX.among_app _ ht hcv with z | z
        · obtain ⟨c0, e1, e2⟩ := ha p' cv z
          exact ⟨c0, e1, hE _ _ e2 LamX.codeO_ne⟩
        · exact ⟨c', z, upd_same⟩
      · obtain ⟨ps', a1, a2, a3⟩ := hT p hp
        refine ⟨ps', by rw [upd_ne (ne_of_none a1 nC), upd_ne hb]; exact a1, a2, fun p' cv hcv => ?_⟩
        obtain ⟨c0, e1, e2⟩ := a3 p' cv hcv
        exact ⟨c0, e1, hE _ _ e2 LamX.codeO_ne⟩
    have sf := same_upd (o := LamO h'.objs.size c' (X.env.qual ++ "<lambda>") params body scope) hf
    exact ⟨.ref h'.objs.size, _, I1.laid (t' := tk) (fun b u e => Heap.get?_push_of_some _ e) (Nat.le_refl _) (lamO_ok (Heap.get?_push_size _ rfl)), rfl, h _ h'.objs.size c' (hE.trans (LamX.ExtN.of sf)) (hT1.ext sf) upd_same (sf _ _ upd_same)⟩
  | some cv =>
    obtain ⟨c', e, hco⟩ := ha pos cv hc
    subst e
    refine PySem.W.kla_makeFunctionHit (mg := X.mg) (c := c) (P := P) (ps := ps) hcl I.ok.glob (I.mod.glob.keeps I.bk) hcode (TB.code.keeps I.bk) hP' ht hc bP fun ctv h' tk hx hsz => ?_
    have I1 : Inv X pins σ H { s with heap := h', toks := tk } := I.kept hx
    have hf : H h'.objs.size = none := I1.hok.fresh (Nat.le_refl _)
    have sf := same_upd (o := LamO h'.objs.size c' (X.env.qual ++ "<lambda>") params body scope) hf
    exact ⟨.ref h'.objs.size, _, I1.laid (t' := tk) (fun b u e => Heap.get?_push_of_some _ e) (Nat.le_refl _) (lamO_ok (Heap.get?_push_size _ rfl)), rfl, h _ h'.objs.size c' (LamX.ExtN.of sf) (hT.ext sf) upd_same (sf _ _ hco)⟩
end
/-! ### the lambda is called -/
theorem lam_run {P : Program} {w : World} {K : PySem.W.Frag} {mg : Str → Option Value} {base : Heap} {k : Nat} {f c' : Addr} {qual : Str} {params : Arguments} {body : Expr} {scope : Scope} {pm ctv : Value} {N ps : List Str} (S : FnScope N ps scope)
    {A : Around} {outer : List Env} {s : Shared} {H : Hp} {us : List Value} {vs : List V} {Q : VK} {E : XK} (hf : s.heap.get? f = some (PySem.W.kla_obj "<lambda>" qual params body scope [] pm c' ctv)) (hcd : s.heap.CodeRec (.ref c') qual)
    (hr : Room (k + 1) A) (e0 : Env0 P w K mg base A outer s H) (hb : bindArgs (PySem.W.kla_fn "<lambda>" qual params body scope [] pm (.ref c') ctv) ⟨us, []⟩ = pure (ps.zip us)) (r : Vals vs us) (hl : vs.length = ps.length)
    (hbody : Room k (A.deeper (PyProof.Rows.envOfC qual scope s.heap.objs.size f (.ref c'))) → ∃ t, PE (cxOf CX0 P w K mg base N qual scope f (.ref c') A outer s H E) body t ∧ t (start N vs) H Q) :
    codeAny (model P w) A (.call (.ref f) ⟨us, []⟩) (CR CX0 outer P w H s Q E) s := by
  have lim : s.heap.NoLimit := e0.mod.nolimit.keeps fun b o e => (e0.bs b o e).1
  have hkind : ∀ y ∈ ps.zip us, scope.names.lookup y.1 = some .local ∨ (scope.names.lookup y.1 = some .cell ∧ ((cellsFrom (s.heap.objs.size + 1) scope.names []).lookup y.1).isSome = true) := fun ⟨n, v⟩ hy => by
    rcases S.par n (List.of_mem_zip hy).1 with q | q
    · exact .inl q
    · exact .inr ⟨q, PySem.W.cellsFrom_some _ _ _ (.inl q)⟩
  refine PySem.W.kla_callFunE hr.depth hf rfl S.co S.gen rfl hcd ?_
  rw [hb]
  refine wpAny_pure (wpAny_newFunctionEnv_cells S.kind hkind fun env he s1 x => ?_)
  subst he
  refine ⟨lim.keeps x.toInCall.keep, PySem.W.kla_codeExpr ?_⟩
  obtain ⟨t, ht, hq⟩ := hbody (hr.deeper _)
  have I : Inv (cxOf CX0 P w K mg base N qual scope f (.ref c') A outer s H E) [] (start N vs) H s1 := inv_start S hr.hd e0 hl r x
  refine wpAny_mono (ht.run [] s1 (start N vs) H _ I hq) (fun v s' hs => ?_) fun e s' hs => hs
  obtain ⟨x', H', J, rv, q⟩ := hs
  exact ⟨x', H', J.os, J.bare, J.base, J.hok, rv, q⟩
end K35
namespace K35
open PySem L2
section
variable {prog : Program} {w : World} {A : Around}
def StL (I l : Addr) (xs : List V) (i : Nat) (s : Shared) : Prop := s.heap.IsListIter I l i ∧ ∃ its : List Value, Vals xs its ∧ s.heap.IsList l its.toArray
def PL (xs : List V) (i : Nat) (v : Value) : Prop := ∃ x, xs[i]? = some x ∧ RelV x v
theorem walksL (hh : A.handled = none) {I l : Addr} (hne : l ≠ I) (xs : List V) : WalksS prog w A I [I, l] [I] (fun a b => b = a) xs.length (PL xs) (StL I l xs) where
  sub := fun b hb => by
    rw [List.mem_singleton.mp hb]
    exact List.mem_cons_self
  grefl := fun _ => rfl
  gtrans := fun a b c h1 h2 => h2.trans h1
  frame := fun i s h' tk ⟨h1, its, h2, h3⟩ _ k => by
    have W := (Walks.list (prog := prog) (w := w) (A := A) hh I l hne its.toArray).toS
    have := W.frame i s h' tk ⟨h1, h3⟩ (by assumption) k
    exact ⟨this.1, its, h2, this.2⟩
  item := fun i s Q E hi ⟨h1, its, h2, h3⟩ hQ => by
    have W := (Walks.list (prog := prog) (w := w) (A := A) hh I l hne its.toArray).toS
    have hl := h2.length
    refine W.item i s Q E (by rw [List.size_toArray, ← hl]; exact hi) ⟨h1, h3⟩ fun v s' hv st hm => ?_
    have hv2 : its[i]? = some v := by simpa using hv
    have hx : xs[i]? = some (xs[i]'hi) := by simp
    obtain ⟨v', e1, e2⟩ := h2.get hx
    rw [hv2] at e1
    cases e1
    exact hQ v s' ⟨_, hx, e2⟩ ⟨st.1, its, h2, st.2⟩ hm
  done := fun s Q E ⟨h1, its, h2, h3⟩ hQ => by
    have W := (Walks.list (prog := prog) (w := w) (A := A) hh I l hne its.toArray).toS
    have hl := h2.length
    refine W.done s Q E ?_ hQ
    rw [List.size_toArray, ← hl]
    exact ⟨h1, h3⟩
  self := fun i s Q E ⟨h1, its, h2, h3⟩ q => by
    have W := (Walks.list (prog := prog) (w := w) (A := A) hh I l hne its.toArray).toS
    exact W.self i s Q E ⟨h1, h3⟩ q
end
def linesV (ls : List Line) : List V := ls.map fun l => V.str (strOf l)
theorem linesV_get {ls : List Line} {i : Nat} {x : V} (h : (linesV ls)[i]? = some x) : ∃ l, ls[i]? = some l ∧ x = .str (strOf l) := by
  unfold linesV at h
  rw [List.getElem?_map] at h
  obtain ⟨l, hl, e⟩ := Option.map_eq_some_iff.mp h
  exact ⟨l, hl, e.symm⟩
theorem minOf_arg (l : Line) (ls : List Line) : ((l :: ls).getD (argBest (fun i j => lessB ((l :: ls).getD i []) ((l :: ls).getD j [])) ls.length) []) = minOf l ls := by
  have h := (PySem.W.argBest_fold lessB ([] : Line) l ls ls.length (Nat.le_refl _)).2
  rw [List.take_length] at h
  rw [h]
  unfold minOf
  congr 1
  funext b x
  by_cases q : less x b
  · rw [if_pos (lessB_iff.mpr q), if_pos q]
  · rw [if_neg (fun z => q (lessB_iff.mp z)), if_neg q]
section
variable {X : Cx}
/-- min(lines, key=lambda line: (len(line), line)) -/
theorem cr_minKey {k : Nat} {N ps : List Str} {qual : Str} {params : Arguments} {body : Expr} {scope : Scope} (hc : X.calm = true) (hr : Room (k + 3) X.A) (S : FnScope N ps scope)
    (hb : ∀ (pm cv ctv u : Value), bindArgs (PySem.W.kla_fn "<lambda>" qual params body scope [] pm cv ctv) ⟨[u], []⟩ = pure (ps.zip [u])) (hps : ps.length = 1)
    (hbody : ∀ (f c' : Addr) (A : Around) (s : Shared) (H : Hp) (E : XK) (z : Str) (Q : VK), Room k (A.deeper (PyProof.Rows.envOfC qual scope s.heap.objs.size f (.ref c'))) → z.length ≤ sizeLine → (∀ p, H p = none → s.heap.objs.size ≤ p → Q (.ref p) (upd H p (keyO p z.length z))) →
      ∃ t, PE (cxOf CX0 X.prog X.w X.K X.mg X.base N qual scope f (.ref c') A X.stack s H E) body t ∧ t (start N [.str z]) H Q) :
    CallRK X (.builtin "min") [Str.ofString "key"] (fun vs zs H Q => ∃ (a f c' : Addr) (l : Line) (ls : List Line), vs = [.ref a] ∧ zs = [.ref f] ∧ SqL X.K H a (linesV (l :: ls)) ∧ H f = some (LamO f c' qual params body scope) ∧ H c' = some (LamX.CodeO c' qual) ∧
      (∀ x ∈ l :: ls, x.length ≤ 16777216) ∧ Q (.str (strOf (minOf l ls))) H) := by
  intro pins s σ H vs zs us ws Q I r rz h
  obtain ⟨a, f, c', l, ls, rfl, rfl, hA, hF, hC, hlen, q⟩ := h
  obtain rfl := Vals.ref1 r
  obtain rfl := Vals.ref1 rz
  obtain ⟨its, rv, pl, hz⟩ := I.list hA
  have hh : X.A.handled = none := I.ok.hd hc
  have hlA : s.heap.IsList a its.toArray := pl.isList
  have hlt : a < s.heap.objs.size := by obtain ⟨_, e, _⟩ := hlA; exact Heap.lt_size e
  have hne : a ≠ s.heap.objs.size := Nat.ne_of_lt hlt
  show wpAny _ _ (call (.builtin "min") [.ref a] [(Str.ofString "key", .ref f)]) _ _ s
  refine call_min_walkK (wpAny_pyIter_list hlA ?_)
  generalize hs2 : ({ s with heap := s.heap.push { cls := .type "list_iterator", data := .fields #[.ref a, .int 0 0] } } : Shared) = s2
  have kp : ∀ b o, s.heap.get? b = some o → s2.heap.get? b = some o := fun b o e => by rw [← hs2]; exact Heap.get?_push_of_some _ e
  have I2 : Inv X pins σ H s2 := by
    rw [← hs2]
    exact I.kept (t' := s.toks) fun b o e => Heap.get?_push_of_some _ e
  have hit : s2.heap.IsListIter s.heap.objs.size a 0 := by
    rw [← hs2]
    exact ⟨_, Heap.get?_push_size _ rfl, rfl, rfl⟩
  have hsz : s2.heap.objs.size = s.heap.objs.size + 1 := by rw [← hs2]; exact Heap.size_push _ _
  have nI : H s.heap.objs.size = none := I.hok.fresh (Nat.le_refl _)
  have nS : H s2.heap.objs.size = none := I2.hok.fresh (Nat.le_refl _)
  have fI : FpOk X pins H s.heap.objs.size := I.fpOk (Nat.le_refl _) nI
  have fS : FpOk X pins H s2.heap.objs.size := I.fpOk (by omega) nS
  refine ⟨s.heap.objs.size, [s.heap.objs.size, a], [s.heap.objs.size], fun a b => b = a, (linesV (l :: ls)).length, PL (linesV (l :: ls)), StL s.heap.objs.size a (linesV (l :: ls)), fun s' => Inv X pins σ H s',
    fun i v s' => ∃ ka, v = .ref ka ∧ ka ≠ s2.heap.objs.size ∧ ka ≠ s.heap.objs.size ∧ H ka = none ∧ ka ∉ frs X.stack ∧ ∃ o t u n, s'.heap.get? ka = some o ∧ o.cls = .type "tuple" ∧ o.data = .seq #[.int (((l :: ls).getD i []).length : Nat) t, .str (strOf ((l :: ls).getD i [])) u] n,
    fun i j => lessB ((l :: ls).getD i []) ((l :: ls).getD j []), rfl, walksL (by exact hh) hne _, ⟨hit, its, rv, let ⟨o, e, r⟩ := hlA; ⟨o, kp _ _ e, r⟩⟩, fun b hb => ?_, ?_, ?_, I2, fun v s' hP J => ?_⟩
  · have b1 : s.heap.objs.size < s2.heap.objs.size := by omega
    have b2 : a < s2.heap.objs.size := Nat.lt_trans hlt b1
    rcases List.mem_cons.mp hb with rfl | hb
    · exact b1
    · rw [List.mem_singleton.mp hb]
      exact b2
  · unfold linesV
    rw [List.length_map]
    exact Nat.succ_pos _
  · have hcr : ∀ {s' : Shared}, Inv X pins σ H s' → (∃ pm ctv, s'.heap.get? f = some (PySem.W.kla_obj "<lambda>" qual params body scope [] pm c' ctv)) ∧ s'.heap.CodeRec (.ref c') qual := fun {s'} J => by
      obtain ⟨e1, _, _⟩ := (show ObjOk X.prog X.w H s'.heap f (LamO f c' qual params body scope) from J.hok f _ hF)
      obtain ⟨⟨oc, vs, t, h1, h2, h3⟩, _, _⟩ := (show ObjOk X.prog X.w H s'.heap c' (LamX.CodeO c' qual) from J.hok c' _ hC)
      exact ⟨e1, c', oc, vs, t, rfl, h1, h2, h3⟩
    refine ⟨fun s1 s3 J hm => ?_, fun i v s1 s3 ⟨ka, e, n1, n2, n3, n4, o, t, u, n, h1, h2, h3⟩ hm => ⟨ka, e, n1, n2, n3, n4, o, t, u, n, hm.heap ka o (fun z => ?_) h1, h2, h3⟩, fun i v s1 o Q' E' hi hP J st hS hQ => ?_, fun i j ki kj s1 Q' E' J hki hkj hQ => ?_⟩
    · rw [Moved.eq_with hm]
      refine J.turnedL (ch := [s2.heap.objs.size, s.heap.objs.size]) (fun b o hb e => hm.heap b o hb e) fun b hb => ?_
      rcases List.mem_cons.mp hb with rfl | hb
      · exact fS
      · rw [List.mem_singleton.mp hb]
        exact fI
    · rcases List.mem_cons.mp z with z | z
      · exact n1 z
      · exact n2 (List.mem_singleton.mp z)
    · -- one turn: the lambda runs
      obtain ⟨x, hx, rx⟩ := hP
      obtain ⟨y, hy, rfl⟩ := linesV_get hx
      obtain ⟨⟨pm, ctv, hf⟩, hcd⟩ := hcr J
      have hyl : y.length ≤ 16777216 := hlen y (List.mem_of_getElem? hy)
      have hgy : (l :: ls).getD i [] = y := by rw [List.getD_eq_getElem?_getD, hy]; rfl
      have e0 : Env0 X.prog X.w X.K X.mg X.base X.A.in1 X.stack s1 H := J.env0.in1
      have hr2 : Room (k + 1) X.A.in1 := (Room.in1 (k := k + 2) hr).mono (by omega)
      have rc := lam_run (P := X.prog) (w := X.w) (K := X.K) (mg := X.mg) (base := X.base) (outer := X.stack) (E := fun _ _ _ => False) (A := X.A.in1) S hf hcd hr2 e0 (hb pm (.ref c') ctv v) (us := [v]) (vs := [.str (strOf y)]) (.cons rx .nil) (by rw [hps]; rfl)
        (Q := fun z H' => ∃ p, z = .ref p ∧ H p = none ∧ s1.heap.objs.size ≤ p ∧ H' = upd H p (keyO p (strOf y).length (strOf y)))
        (fun hr' => hbody f c' X.A.in1 s1 H _ (strOf y) _ hr' (by rw [strOf_len]; exact line_big hyl) fun p hp hsp => ⟨p, rfl, hp, hsp, rfl⟩)
      refine wpAny_call (codeAny_mono rc fun r s4 hq => ?_)
      cases r with
      | error e => exact (show False from hq).elim
      | ok fl =>
        cases fl with
        | ret u =>
          obtain ⟨z, H', os, bare, un, hok, rz, p, rfl, hp, hsp, rfl⟩ := hq
          cases rz
          have hfr : ∀ b, s1.heap.objs.size ≤ b → b ∉ frs X.stack := fun b hb z => by
            rcases List.mem_cons.mp (J.stkSub _ z) with e | e
            · have h1 := J.lt
              rw [← e] at h1
              exact Nat.lt_irrefl _ (Nat.lt_of_lt_of_le h1 hb)
            · exact J.nofs hb e
          obtain ⟨⟨oI, hoI, hcI, hdI⟩, its1, rv1, hl1⟩ := st
          have hSlt : s2.heap.objs.size < s1.heap.objs.size := Heap.lt_size hS
          have hIlt : s.heap.objs.size < s1.heap.objs.size := Heap.lt_size hoI
          have keepU : ∀ b o, s1.heap.get? b = some o → H b = none → b ∉ frs X.stack → s4.heap.get? b = some o := fun b o e n x => un.keep b o e n x (fun z => nomatch (show b ∈ ([] : List Addr) from z))
          have hext : upd H p (keyO p (strOf y).length (strOf y)) p = some (keyO p (strOf y).length (strOf y)) := upd_same
          obtain ⟨⟨ok, tk1, tk2, nk, k1, k2, k3⟩, _, _⟩ := (show ObjOk X.prog X.w (upd H p (keyO p (strOf y).length (strOf y))) s4.heap p (keyO p (strOf y).length (strOf y)) from hok p _ hext)
          obtain ⟨v9, H9, J9, r9, e9, e9'⟩ := J.after (Q := fun z H' => z = .ref p ∧ H' = upd H p (keyO p (strOf y).length (strOf y))) (u := .ref p) ⟨.ref p, _, os, bare, un, hok, rfl, rfl, rfl⟩
          subst e9'
          have J5 : Inv X pins σ H s4 := by
            have := ItX.inv_drop J9 hext
            rwa [ItX.dropH_upd hp] at this
          have fsI : s.heap.objs.size ∉ frs X.stack := fun z => by
            rcases List.mem_cons.mp (J.stkSub _ z) with e | e
            · exact fI.2.1 e
            · exact fI.2.2.1 e
          have fsS : s2.heap.objs.size ∉ frs X.stack := fun z => by
            rcases List.mem_cons.mp (J.stkSub _ z) with e | e
            · exact fS.2.1 e
            · exact fS.2.2.1 e
          obtain ⟨its4, rv4, pl4, _⟩ := J5.list hA
          refine hQ (.ref p) s4 J5 ⟨⟨oI, keepU _ _ hoI nI fsI, hcI, hdI⟩, its4, rv4, pl4.isList⟩ (keepU _ _ hS nS fsS) ⟨p, rfl, fun e => ?_, fun e => ?_, hp, hfr p hsp, ok, tk1, tk2, nk, k1, k2, ?_⟩ fun j k' ⟨kb, e, n1, n2, n3, n4, o2, t2, u2, m2, b1, b2, b3⟩ => ⟨kb, e, n1, n2, n3, n4, o2, t2, u2, m2, keepU _ _ b1 n3 n4, b2, b3⟩
          · rw [e] at hsp
            exact Nat.lt_irrefl _ (Nat.lt_of_lt_of_le hSlt hsp)
          · rw [e] at hsp
            exact Nat.lt_irrefl _ (Nat.lt_of_lt_of_le hIlt hsp)
          · rw [hgy]
            rw [strOf_len] at k3
            exact k3
        | next => exact False.elim hq
        | brk => exact False.elim hq
        | cont => exact False.elim hq
    · obtain ⟨ka, rfl, _, _, _, _, o1, t1, u1, m1, a1, a2, a3⟩ := hki
      obtain ⟨kb, rfl, _, _, _, _, o2, t2, u2, m2, b1, b2, b3⟩ := hkj
      have hu8 : X.A.units + 8 < cLine := by have := hr.un; omega
      refine PySem.W.rcLt_alike (.tuple [.int (((l :: ls).getD i []).length : Nat), .str (strOf ((l :: ls).getD i []))]) (.tuple [.int (((l :: ls).getD j []).length : Nat), .str (strOf ((l :: ls).getD j []))]) _ s1 _ _ _ _ (.tuple a1 a2 a3 (.cons (.int _ _) (.cons (.str _ _) .nil))) (.tuple b1 b2 b3 (.cons (.int _ _) (.cons (.str _ _) .nil))) (by rfl) (fun z => nomatch z) ?_ X.prog X.w _ _ ?_
      · have : min (PyData.depth (.tuple [.int (((l :: ls).getD i []).length : Nat), .str (strOf ((l :: ls).getD i []))])) (PyData.depth (.tuple [.int (((l :: ls).getD j []).length : Nat), .str (strOf ((l :: ls).getD j []))])) ≤ 2 := by
          refine Nat.le_trans (Nat.min_le_left _ _) ?_
          simp [PyData.depth, PyData.depthAll]
        show X.A.units + 1 + _ < cLine
        omega
      · rw [dataLt_is, lessIS_eq]
        exact hQ
  · obtain ⟨x, hx, rx⟩ := hP
    obtain ⟨y, hy, rfl⟩ := linesV_get hx
    have e1 : (linesV (l :: ls)).length - 1 = ls.length := by
      unfold linesV
      rw [List.length_map]
      rfl
    rw [e1] at hy
    have e2 : y = minOf l ls := by
      rw [← minOf_arg, List.getD_eq_getElem?_getD, hy]
      rfl
    rw [e2] at rx
    exact ⟨.str _, H, J, rx, q⟩
end
end K35
namespace K35
open PySem L2
theorem eqv_faces (f g : Face) : PyData.eqv (.tuple [.bool f.1, .bool f.2]) (.tuple [.bool g.1, .bool g.2]) = decide (f = g) := by
  obtain ⟨a, b⟩ := f
  obtain ⟨c, d⟩ := g
  cases a <;> cases b <;> cases c <;> cases d <;> rfl
def dLines (ls : List Line) : List PyData := ls.map fun l => .str (strOf l)
theorem dLines_ok : ∀ {ls : List Line}, (∀ l ∈ ls, IsLine l) → PyData.canLayAll0 (dLines ls) = true ∧ PyData.depthAll (dLines ls) = 0
  | [], _ => ⟨rfl, rfl⟩
  | l :: ls, h => by
    obtain ⟨h1, h2⟩ := dLines_ok (ls := ls) fun q hq => h q (List.mem_cons_of_mem _ hq)
    have h3 := strOk_line (h l List.mem_cons_self).2
    constructor
    · show (PyData.canLay0 (.str (strOf l)) && PyData.canLayAll0 (dLines ls)) = true
      rw [h1, Bool.and_true]
      exact h3
    · show max (PyData.depth (.str (strOf l))) (PyData.depthAll (dLines ls)) = 0
      rw [h2]
      rfl
theorem dpAll_lines (K : PySem.W.Frag) (H : Hp) : ∀ ls : List Line, DpAll K H (linesV ls) (dLines ls)
  | [] => .nil
  | l :: ls => .cons (.str _) (dpAll_lines K H ls)
theorem shaped_lines {ls : List Line} (h : ∀ l ∈ ls, IsLine l) : SeqAt.shaped (.list (dLines ls)) = true := by
  obtain ⟨h1, h2⟩ := dLines_ok h
  unfold SeqAt.shaped
  show (PyData.canLayAll0 (dLines ls) && decide (PyData.depthAll (dLines ls) + 1 ≤ 64)) = true
  rw [h1, h2]
  rfl
theorem dp_face {K : PySem.W.Frag} {H : Hp} {a : Addr} {f : Face} (h : FaceTup H a f) : Dp K H (.ref a) (.tuple [.bool f.1, .bool f.2]) := .tup (.inl (.inl h)) (.cons (.bl _) (.cons (.bl _) .nil))
theorem linesAt_snoc {rows : List (Face × Line)} {i : Nat} {r : Face × Line} (h : rows[i]? = some r) (f : Face) : linesAt (rows.take (i + 1)) f = linesAt (rows.take i) f ++ (if r.1 = f then [r.2] else []) := by
  unfold linesAt
  rw [take_snoc h, List.filterMap_append]
  congr 1
  by_cases hf : r.1 = f
  · simp [hf]
  · simp [hf]
theorem linesAt_mem {rows : List (Face × Line)} {f : Face} {l : Line} (h : l ∈ linesAt rows f) : ∃ r ∈ rows, r.2 = l := by
  have := mem_linesAt.mp h
  exact ⟨_, this, rfl⟩
theorem linesAt_len (rows : List (Face × Line)) (f : Face) : (linesAt rows f).length ≤ rows.length := List.length_filterMap_le _ _
section
variable {P : Program} {w : World} {K : PySem.W.Frag} {mg : Str → Option Value} {base : Heap}
/-- the def _law_least, its code object known -/
structure LeastC (T : Txt K mg) (c : Addr) : Prop where
  ex : ∃ (oc : Value) (od : Option Addr) (kV doc pm : Value) (an : Option Addr) (ct : Value) (osl : Array (Option Value)),
    T.dLawLeast.fd = PySem.W.fnOf "_law_least" "_law_least" (defArgs (top 63)) (defBody (top 63)) (defScope (top 63)) .none kV doc pm an (.ref c) ct ∧ K.lookup T.dLawLeast.f = some ⟨oc, od, .func T.dLawLeast.fd, osl⟩ ∧ PySem.W.codeIn K (.ref c) "_law_least" = true
abbrev qLam : Str := (("_law_least" : Str) ++ ".<locals>.") ++ "<lambda>"
def tabT (t : Addr) : List (Addr × Str) := [(t, qLam)]
def leastV : Option Line → V
  | none => .non
  | some l => .str (strOf l)
def spLeast (t : Addr) : Sp := fun vs H Q _ => ∃ (a b : Addr) (zs : List (Addr × (Face × Line))) (f : Face), vs = [.ref a, .ref b] ∧ H a = some (.lst (refsV (zs.map (·.1)))) ∧ (∀ z ∈ zs, FaceAt H z ∧ z.2.2.length ≤ 4194304 ∧ IsLine z.2.2) ∧ FaceTup H b f ∧ zs.length ≤ 1000 ∧ LamX.Tabs (tabT t) H ∧
  ∀ H' : Hp, LamX.ExtN H H' → LamX.Tabs (tabT t) H' → Q (leastV (leastIn (zs.map (·.2)) f)) H'
abbrev nLeast : List Str := ["_law_rows", "_law_face", "_law_lines", "_law_side", "_law_line"]
theorem scLeast : FnScope nLeast ["_law_rows", "_law_face"] (defScope (top 63)) := ⟨rfl, rfl, rfl, by decide +kernel, rfl, by decide +kernel, by decide +kernel⟩
def lamE : Expr := match (defBody (top 63)).getD 2 (.Pass ⟨0, 0, 0, 0⟩) with
  | .Return (some (.Call _ _ (k :: _) _)) _ => k.value
  | _ => .Constant .none 0 ⟨0, 0, 0, 0⟩
def lamParams : Arguments := match lamE with
  | .Lambda a _ _ _ => a
  | _ => { posonlyargs := [], args := [], vararg := none, kwonlyargs := [], kw_defaults := [], kwarg := none, defaults := [] }
def lamBody : Expr := match lamE with
  | .Lambda _ b _ _ => b
  | e => e
def lamScope : Scope := { kind := .function, names := [("_law_line", .local), ("len", .globalImplicit)], isGenerator := false, isCoroutine := false }
theorem scLam : FnScope ["_law_line"] ["_law_line"] lamScope := ⟨rfl, rfl, rfl, by decide +kernel, rfl, by decide +kernel, by decide +kernel⟩
theorem ok_least (T : Txt K mg) {c t : Addr} (LC : LeastC T c) (TB : LamX.TabB base mg c t) : FnOk P w K mg base CX0 6 T.dLawLeast.f T.dLawLeast.fd ["_law_rows", "_law_face"] (spLeast t) := by
  obtain ⟨oc, od, kV, doc, pm, an, ct, osl, efd, lk, hcd⟩ := LC.ex
  rw [efd] at lk ⊢
  refine fn_of lk hcd scLeast (fun vs H Q E h => ?_) fun A outer s H vs Q E hr h => ?_
  · obtain ⟨a, b, zs, f, rfl, _⟩ := h
    rfl
  · obtain ⟨a, b, zs, f, rfl, hA, hZ, hB, hzl, hT, k⟩ := h
    suffices hs : ∃ t', PSs (cxOf CX0 P w K mg base nLeast "_law_least" (defScope (top 63)) T.dLawLeast.f (.ref c) A outer s H E).nox (defBody (top 63)) t' ∧ t' { nx := fun _ H' => Q .non H', rt := Q } (start nLeast [.ref a, .ref b]) H by
      obtain ⟨t', h1, h2⟩ := hs
      exact ⟨t', h1.nox, h2⟩
    have hu := hr.units
    refine ⟨_, pss_cons (ps_setLc (i := 2) (own := [("_law_side", 3), ("_law_line", 4)]) (g := gTup K 2 (gCons (gName 3) (gCons (gName 4) gNil))) rfl scLeast.nd rfl rfl rfl (pi_list (pv 0)) (blkOk_by (own := [("_law_side", 3), ("_law_line", 4)]) (N := nLeast) (sc := defScope (top 63)) (by decide +kernel))
        (fun _ _ _ _ _ => pg_tup rfl (pgs_cons (pg_name (i := 3) scLeast.nd rfl (Or.inl rfl)) (pgs_cons (pg_name (i := 4) scLeast.nd rfl (Or.inl rfl)) pgs_nil))) (fun _ _ _ _ _ => pts_one (pt_cmpR (r := rEqD K) (op_eqD hu) (pv 3) (pv 1) (by rfl))) (fun _ _ _ _ _ => pv 4))
      (pss_cons (ps_if (pt_cmpR (op_eqD hu) (pv 2) (pe_lst pa_nil) (by rfl)) (pss_one (ps_ret pe_non)) pss_nil)
      (pss_one (ps_ret (pe_callBK (cr_minKey (k := 2) (N := ["_law_line"]) (ps := ["_law_line"]) (qual := qLam) (params := lamParams) (body := lamBody) (scope := lamScope) rfl hr scLam (fun _ _ _ _ => rfl) rfl (fun f c' A s H E z Q hr' hz hq => ?body)) rfl T.zMin (by decide +kernel) (pa_cons (pv 2) pa_nil) (pk_cons (pe_lamO (T := tabT t) (c := c) (P := t) TB rfl (by exact List.mem_singleton.mpr rfl) (by intro p hp _; rw [List.mem_singleton.mp hp]; rfl) rfl (by decide +kernel) rfl) pk_nil))))), ?_⟩
    case body =>
      refine ⟨_, pe_tupKey (pa_cons (pe_callB call_len_str rfl T.zLen (by decide +kernel) (pa_cons (pv 0) pa_nil)) (pa_cons (pv 0) pa_nil)), ?_⟩
      exact ⟨_, rfl, z, rfl, hz, _, rfl, _, _, rfl, fun p hp hsp => hq p hp hsp⟩
    have hzr : ∀ (i : Nat) (z : Addr × (Face × Line)), zs[i]? = some z → (zs.map (·.2))[i]? = some z.2 := fun i z h => by rw [List.getElem?_map, h]; rfl
    refine ⟨_, rfl, a, rfl, ⟨_, .inl (.inl hA)⟩, fun D hD => lc_it (walk_list (xs := refsV (zs.map (·.1)))) (fun i H2 => Same H H2 ∧ H2 D = some (.lst (linesV (linesAt ((zs.map (·.2)).take i) f))))
      ⟨same_upd hD, upd_same⟩ (fun i H2 _ q => .inl (.inl (q.1 _ _ hA))) ?_ ?_⟩
    · rintro i x H0 H2 hi ⟨s2, hD2⟩ ⟨rfl, hx⟩
      obtain ⟨za, hza, rfl⟩ := refsV_some hx
      rw [List.getElem?_map] at hza
      obtain ⟨z, hz, rfl⟩ := Option.map_eq_some_iff.mp hza
      obtain ⟨⟨tf, ht1, ht2⟩, hzlen, hzline⟩ := hZ z (List.mem_of_getElem? hz)
      refine ⟨z.1, _, rfl, .inl (.inl (s2 _ _ ht1)), rfl, _, _, rfl, _, _, rfl, rfl, rfl, ?_⟩
      refine ⟨_, rfl, _, rfl, _, _, dp_face (s2 _ _ ht2), dp_face (s2 _ _ hB), rfl, rfl, _, rfl, ?_⟩
      rw [eqv_faces]
      have e := linesAt_snoc (hzr i z hz) f
      refine ite2 (fun c1 => ?_) (fun c1 => ?_)
      · rw [if_pos (of_decide_eq_true c1)] at e
        have hll := linesAt_len ((zs.map (·.2)).take i) f
        refine ⟨_, rfl, _, hD2, ?_, same_over s2 hD, ?_⟩
        · unfold linesV
          rw [List.length_map]
          rw [List.length_take, List.length_map] at hll
          exact line_lt (by omega)
        · rw [upd_same, e]
          unfold linesV
          rw [List.map_append]
          rfl
      · rw [if_neg (fun q => c1 (decide_eq_true q)), List.append_nil] at e
        exact ⟨s2, by rw [e]; exact hD2⟩
    · rintro H2 ⟨s2, hD2⟩
      rw [refsV_length, List.length_map, show (zs.map (·.2)).take zs.length = zs.map (·.2) by rw [← List.length_map (f := (·.2)), List.take_length]] at hD2
      have hlines : ∀ l ∈ linesAt (zs.map (·.2)) f, IsLine l ∧ l.length ≤ 4194304 := fun l hl => by
        obtain ⟨r, hr', rfl⟩ := linesAt_mem hl
        obtain ⟨z, hz, rfl⟩ := List.mem_map.mp hr'
        exact ⟨(hZ z hz).2.2, (hZ z hz).2.1⟩
      have key : leastIn (zs.map (·.2)) f = match linesAt (zs.map (·.2)) f with
        | [] => none
        | l :: ls => some (minOf l ls) := rfl
      generalize linesAt (zs.map (·.2)) f = ls at hD2 hlines key
      refine ⟨_, rfl, Nat.zero_le _, fun e he => ?_⟩
      have s3 := same_upd (o := .lst []) he
      refine ⟨.list (dLines ls), .list [], .lst (.inl (.inl (s3 _ _ hD2))) (dpAll_lines _ _ ls), .lst (.inl (.inl upd_same)) .nil, shaped_lines fun l hl => (hlines l hl).1, rfl, _, rfl, ?_⟩
      have s23 := s2.trans s3
      cases ls with
      | nil =>
        refine iteT2 rfl ?_
        have := k _ (LamX.ExtN.of s23) (hT.ext s23)
        rw [key] at this
        exact this
      | cons l ls =>
        refine iteF2 rfl ?_
        refine ⟨_, rfl, hT.ext s23, fun H4 fo co x4 t4 hfo hco => ?_⟩
        refine ⟨D, fo, co, l, ls, rfl, rfl, .inl (.inl (x4 _ _ (s3 _ _ hD2) (fun ps z => nomatch z))), hfo, hco, fun x hx => by have := (hlines x hx).2; omega, ?_⟩
        have := k _ ((LamX.ExtN.of s23).trans x4) t4
        rw [key] at this
        exact this
end
end K35
namespace K35
open PySem L2
/-! ### what stays while lambdas are made -/
theorem extN_over {H H1 : Hp} {p : Addr} {o : HO} (e : LamX.ExtN H H1) (h : H p = none) : LamX.ExtN H (upd H1 p o) := fun b u q n => by
  rw [upd_ne (ne_of_none q h)]
  exact e b u q n
theorem FaceTup.extN {H H' : Hp} {a : Addr} {f : Face} (h : FaceTup H a f) (e : LamX.ExtN H H') : FaceTup H' a f := e _ _ h fun ps z => nomatch z
theorem FaceAt.extN {H H' : Hp} {z : Addr × (Face × Line)} (h : FaceAt H z) (e : LamX.ExtN H H') : FaceAt H' z := let ⟨t, h1, h2⟩ := h; ⟨t, e _ _ h1 (fun ps z => nomatch z), h2.extN e⟩
theorem FaceAt.mono {H H' : Hp} {z : Addr × (Face × Line)} (h : FaceAt H z) (e : Same H H') : FaceAt H' z := h.extN (LamX.ExtN.of e)
theorem FaceAt.over {H : Hp} {D : Addr} {xs : List V} {o : HO} {z : Addr × (Face × Line)} (h : FaceAt H z) (hD : H D = some (.lst xs)) : FaceAt (upd H D o) z := by
  obtain ⟨t, h1, h2⟩ := h
  have n1 : z.1 ≠ D := fun e => by rw [e, hD] at h1; cases h1
  have n2 : t ≠ D := fun e => by
    have : H t = some (.tup (faceV z.2.1)) := h2
    rw [e, hD] at this
    cases this
  exact ⟨t, (upd_ne n1).trans h1, (upd_ne n2).trans h2⟩
theorem lst_extN {H H' : Hp} {a : Addr} {xs : List V} (h : H a = some (.lst xs)) (e : LamX.ExtN H H') : H' a = some (.lst xs) := e _ _ h fun ps z => nomatch z
section
variable {P : Program} {w : World} {K : PySem.W.Frag} {mg : Str → Option Value} {base : Heap}
theorem FormAt.extN {T : Txt K mg} {H H' : Hp} {a : Addr} {f : Form} (h : FormAt T H a f) (e : LamX.ExtN H H') : FormAt T H' a f := by
  obtain ⟨dx, t, h1, h2, h3⟩ := h
  exact ⟨dx, t, e _ _ h1 (fun ps z => nomatch z), e _ _ h2 (fun ps z => nomatch z), h3⟩
end
/-! ### rows of faces -/
structure FaceRows (H : Hp) (l : Addr) (zs : List (Addr × (Face × Line))) (p : Pat) (bs es : List Pat) : Prop where
  at_ : H l = some (.lst (refsV (zs.map (·.1))))
  each : ∀ z ∈ zs, FaceAt H z ∧ z.2.2.length ≤ 4194304
  ok : FacesOk p bs es (zs.map (·.2))
theorem FaceRows.extN {H H' : Hp} {l : Addr} {zs : List (Addr × (Face × Line))} {p : Pat} {bs es : List Pat} (h : FaceRows H l zs p bs es) (e : LamX.ExtN H H') : FaceRows H' l zs p bs es :=
  ⟨lst_extN h.at_ e, fun z hz => ⟨(h.each z hz).1.extN e, (h.each z hz).2⟩, h.ok⟩
theorem FacesOk.len {p : Pat} {bs es : List Pat} {rows : List (Face × Line)} (h : FacesOk p bs es rows) : rows.length ≤ 4 := by
  have hn : (rows.map (·.1)).Nodup := by
    have : (rows.map (·.1)).Pairwise (fun a b => code a < code b) := List.pairwise_map.mpr h.ord
    exact this.imp fun {a b} hlt e => by rw [e] at hlt; exact Nat.lt_irrefl _ hlt
  have := nodup_len _ faces4 hn fun f _ => mem_faces4 f
  rwa [List.length_map] at this
theorem FaceRows.len {H : Hp} {l : Addr} {zs : List (Addr × (Face × Line))} {p : Pat} {bs es : List Pat} (h : FaceRows H l zs p bs es) : zs.length ≤ 4 := by
  have := h.ok.len
  rwa [List.length_map] at this
theorem FaceRows.full {H : Hp} {l : Addr} {zs : List (Addr × (Face × Line))} {p : Pat} {bs es : List Pat} (h : FaceRows H l zs p bs es) : ∀ z ∈ zs, FaceAt H z ∧ z.2.2.length ≤ 4194304 ∧ IsLine z.2.2 :=
  fun z hz => ⟨(h.each z hz).1, (h.each z hz).2, (h.ok.real z.2 (List.mem_map.mpr ⟨z, hz, rfl⟩)).1⟩
/-! ### rows as data -/
def dRow (r : Face × Line) : PyData := .tuple [.tuple [.bool r.1.1, .bool r.1.2], .str (strOf r.2)]
def dRows (rows : List (Face × Line)) : List PyData := rows.map dRow
theorem dRows_ok : ∀ {rows : List (Face × Line)}, (∀ r ∈ rows, IsLine r.2) → PyData.canLayAll0 (dRows rows) = true ∧ PyData.depthAll (dRows rows) ≤ 2
  | [], _ => ⟨rfl, Nat.zero_le _⟩
  | r :: rows, h => by
    obtain ⟨h1, h2⟩ := dRows_ok (rows := rows) fun q hq => h q (List.mem_cons_of_mem _ hq)
    have h3 := strOk_line (h r List.mem_cons_self).2
    constructor
    · show (PyData.canLay0 (dRow r) && PyData.canLayAll0 (dRows rows)) = true
      rw [h1, Bool.and_true]
      show (true && (PyData.strOk (strOf r.2) && true)) = true
      rw [h3]
      rfl
    · show max (PyData.depth (dRow r)) (PyData.depthAll (dRows rows)) ≤ 2
      exact Nat.max_le.mpr ⟨by show (2 : Nat) ≤ 2; omega, h2⟩
theorem shaped_rows {rows : List (Face × Line)} (h : ∀ r ∈ rows, IsLine r.2) : SeqAt.shaped (.list (dRows rows)) = true := by
  obtain ⟨h1, h2⟩ := dRows_ok h
  unfold SeqAt.shaped
  show (PyData.canLayAll0 (dRows rows) && decide (PyData.depthAll (dRows rows) + 1 ≤ 64)) = true
  rw [h1, decide_eq_true (by omega)]
  rfl
theorem dp_row {K : PySem.W.Frag} {H : Hp} {z : Addr × (Face × Line)} (h : FaceAt H z) : Dp K H (.ref z.1) (dRow z.2) := by
  obtain ⟨t, h1, h2⟩ := h
  exact .tup (.inl (.inl h1)) (.cons (dp_face h2) (.cons (.str _) .nil))
theorem dpAll_rows {K : PySem.W.Frag} {H : Hp} : ∀ zs : List (Addr × (Face × Line)), (∀ z ∈ zs, FaceAt H z) → DpAll K H (refsV (zs.map (·.1))) (dRows (zs.map (·.2)))
  | [], _ => .nil
  | z :: zs, h => .cons (dp_row (h z List.mem_cons_self)) (dpAll_rows zs fun y hy => h y (List.mem_cons_of_mem _ hy))
theorem dueFrom_snoc (rows : List (Face × Line)) {fs : List Face} {i : Nat} {f : Face} (h : fs[i]? = some f) : dueFrom rows (fs.take (i + 1)) = dueFrom rows (fs.take i) ++ (match leastIn rows f with | none => [] | some l => [(f, l)]) := by
  unfold dueFrom
  rw [take_snoc h, List.filterMap_append]
  congr 1
  cases e : leastIn rows f with
  | none => simp [e]
  | some l => simp [e]
theorem cells_left (f g : Form) (xs : List Form) : cellCount (([f] ++ xs).map cellsOf) ≤ cellCount (([f, g] ++ xs).map cellsOf) := by
  simp [cellCount]
theorem cells_right (f g : Form) (xs : List Form) : cellCount (([g] ++ xs).map cellsOf) ≤ cellCount (([f, g] ++ xs).map cellsOf) := by
  simp [cellCount]
section
variable {P : Program} {w : World} {K : PySem.W.Frag} {mg : Str → Option Value} {base : Heap}
/-! ### _law_right -/
def spRight (T : Txt K mg) (t : Addr) : Sp := fun vs H Q _ => ∃ (a b r : Addr) (f g : Form) (bs es : List Pat), vs = [.ref a, .ref b, .ref r] ∧ FormAt T H a f ∧ FormAt T H b g ∧ RuleAt T H r bs es ∧ bs.length + es.length ≤ 400 ∧ cellCount (([f, g] ++ formsOf (bs ++ es)).map cellsOf) ≤ 22 ∧ LamX.Tabs (tabT t) H ∧
  ∀ H' : Hp, LamX.ExtN H H' → LamX.Tabs (tabT t) H' → Q (.bl true) H'
abbrev nRight : List Str := ["_law_one", "_law_other", "_law_rule_here", "_law_mine", "_law_theirs", "_law_either", "_law_both", "_law_due", "_law_face", "_law_line", "_law_rows", "_law_least_here"]
theorem scRight : FnScope nRight ["_law_one", "_law_other", "_law_rule_here"] (defScope (top 64)) := ⟨rfl, rfl, rfl, by decide +kernel, rfl, by decide +kernel, by decide +kernel⟩
theorem ok_right (T : Txt K mg) {c t : Addr} (LC : LeastC T c) (TB : LamX.TabB base mg c t) : FnOk P w K mg base CX0 7 T.dLawRight.f T.dLawRight.fd ["_law_one", "_law_other", "_law_rule_here"] (spRight T t) := by
  have GF : FnOk P w K mg base CX0 6 T.dFaces.f T.dFaces.fd ["pattern", "rule"] (spFaces T) := ok_faces T
  have GL : FnOk P w K mg base CX0 6 T.dLawLeast.f T.dLawLeast.fd ["_law_rows", "_law_face"] (spLeast t) := ok_least T LC TB
  refine T.dLawRight.F.ok scRight (fun vs H Q E h => ?_) (fun cdv A outer s H vs Q E hr h => ?_)
  · obtain ⟨a, b, r, f, g, bs, es, rfl, _⟩ := h
    rfl
  · obtain ⟨a, b, r, f, g, bs, es, rfl, ha, hb, hR, hml, hcc, hT, k⟩ := h
    have hu := hr.units
    have hr4 := hr.mono (show 4 ≤ 6 by decide)
    have hr3 := hr.mono (show 3 ≤ 6 by decide)
    refine ⟨_, pss_cons (ps_set (i := 3) scRight.nd rfl (.inl rfl) (pe_call GF hr rfl T.dFaces.m T.dFaces.F.kp T.dFaces.b .nil pass0 (pa_cons (pv 0) (pa_cons (pv 2) pa_nil))))
      (pss_cons (ps_set (i := 4) scRight.nd rfl (.inl rfl) (pe_call GF hr rfl T.dFaces.m T.dFaces.F.kp T.dFaces.b .nil pass0 (pa_cons (pv 1) (pa_cons (pv 2) pa_nil))))
      (pss_cons (ps_set (i := 5) scRight.nd rfl (.inl rfl) (pe_call GF hr rfl T.dFaces.m T.dFaces.F.kp T.dFaces.b .nil pass0 (pa_cons (pe_op (op_bitor T hr4) (pv 0) (pv 1)) (pa_cons (pv 2) pa_nil))))
      (pss_cons (ps_set (i := 6) scRight.nd rfl (.inl rfl) (pe_call GF hr rfl T.dFaces.m T.dFaces.F.kp T.dFaces.b .nil pass0 (pa_cons (pe_op (op_bitand T hr4) (pv 0) (pv 1)) (pa_cons (pv 2) pa_nil))))
      (pss_cons (ps_set (i := 7) scRight.nd rfl (.inl rfl) (pe_lst pa_nil))
      (pss_cons (ps_for PassesOwn.never rfl (pi_list (pe_lst (pa_cons (pe_tup (pa_cons pe_bl (pa_cons pe_bl pa_nil))) (pa_cons (pe_tup (pa_cons pe_bl (pa_cons pe_bl pa_nil))) (pa_cons (pe_tup (pa_cons pe_bl (pa_cons pe_bl pa_nil))) (pa_cons (pe_tup (pa_cons pe_bl (pa_cons pe_bl pa_nil))) pa_nil)))))) (pg_name (i := 8) scRight.nd rfl (.inl rfl))
        (pss_cons (ps_set (i := 9) scRight.nd rfl (.inl rfl) (pe_call GL hr rfl T.dLawLeast.m T.dLawLeast.F.kp T.dLawLeast.b .nil pass0 (pa_cons (pe_op op_cat (pv 3) (pv 4)) (pa_cons (pv 8) pa_nil))))
        (pss_one (ps_if (pt_cmpR op_notN (pv 9) pe_non (by rfl))
          (pss_one (ps_expr (pe_bm PySem.F.plainAttrs_list PySem.F.slot_list_append PySem.F.type_list_append mt_append (pv 7) (pa_cons (pe_tup (pa_cons (pv 8) (pa_cons (pv 9) pa_nil))) pa_nil)))) pss_nil))))
      (pss_cons (ps_if (pt_cmpR (op_neD hu) (pv 5) (pv 7) (by rfl)) (pss_one (ps_ret pe_bl)) pss_nil)
      (pss_cons (ps_for PassesOwn.never rfl (pi_list (pv 6)) (pg_tup rfl (pgs_cons (pg_name (i := 8) scRight.nd rfl (Or.inl rfl)) (pgs_cons (pg_name (i := 9) scRight.nd rfl (Or.inl rfl)) pgs_nil)))
        (pss_one (ps_for PassesOwn.never rfl (pi_list (pe_lst (pa_cons (pv 3) (pa_cons (pv 4) pa_nil)))) (pg_name (i := 10) scRight.nd rfl (.inl rfl))
          (pss_cons (ps_set (i := 11) scRight.nd rfl (.inl rfl) (pe_call GL hr rfl T.dLawLeast.m T.dLawLeast.F.kp T.dLawLeast.b .nil pass0 (pa_cons (pv 10) (pa_cons (pv 8) pa_nil))))
          (pss_one (ps_if (PW.pt (pw_or (pt_cmpR op_isN (pv 11) pe_non (by rfl)) (pw_or (pt_cmpR (op_ltIS hr) (pe_tup (pa_cons (pe_callB call_len_str rfl T.zLen (by decide +kernel) (pa_cons (pv 9) pa_nil)) (pa_cons (pv 9) pa_nil))) (pe_tup (pa_cons (pe_callB call_len_str rfl T.zLen (by decide +kernel) (pa_cons (pv 11) pa_nil)) (pa_cons (pv 11) pa_nil))) (nomark _))
            (pw_or (pt_cmpR (op_notInF T hr3) (pv 9) (pv 0) (by rfl)) (pw_or1 (pt_cmpR (op_notInF T hr3) (pv 9) (pv 1) (by rfl)))))))
            (pss_one (ps_ret pe_bl)) pss_nil))))))
      (pss_one (ps_ret pe_bl))))))))), ?_⟩
    have frows : ∀ {H' : Hp} {q : Addr} {p : Pat} {zs : List (Addr × (Face × Line))}, H' q = some (.lst (refsV (zs.map (·.1)))) → (∀ z ∈ zs, FaceAt H' z ∧ z.2.2.length ≤ 4194304) → FacesOk p bs es (zs.map (·.2)) → FaceRows H' q zs p bs es := fun h1 h2 h3 => ⟨h1, h2, h3⟩
    refine ⟨_, rfl, _, rfl, a, r, .one f, bs, es, rfl, ha, hR, hml, Nat.le_trans (cells_left f g _) hcc, fun H1 q1 z1 s1 hn1 hq1 hz1 ho1 => ?_⟩
    refine ⟨_, rfl, _, rfl, b, r, .one g, bs, es, rfl, hb.mono s1, hR.mono s1, hml, Nat.le_trans (cells_right f g _) hcc, fun H2 q2 z2 s2 hn2 hq2 hz2 ho2 => ?_⟩
    have s12 := s1.trans s2
    refine ⟨_, rfl, _, rfl, a, b, f, g, rfl, rfl, ha.mono s12, hb.mono s12, fun H3 e3 s3 hn3 he3 => ?_⟩
    have s13 := s12.trans s3
    refine ⟨_, rfl, e3, r, .either f g, bs, es, rfl, he3, hR.mono s13, hml, hcc, fun H4 q4 z4 s4 hn4 hq4 hz4 ho4 => ?_⟩
    have s14 := s13.trans s4
    refine ⟨_, rfl, _, rfl, a, b, f, g, rfl, rfl, ha.mono s14, hb.mono s14, fun H5 e5 s5 hn5 he5 => ?_⟩
    have s15 := s14.trans s5
    refine ⟨_, rfl, e5, r, .both f g, bs, es, rfl, he5, hR.mono s15, hml, hcc, fun H6 q6 z6 s6 hn6 hq6 hz6 ho6 => ?_⟩
    have s16 := s15.trans s6
    have s26 : Same H2 H6 := ((s3.trans s4).trans s5).trans s6
    have R1 : FaceRows H6 q1 z1 (.one f) bs es := (frows hq1 hz1 ho1).extN (LamX.ExtN.of (s2.trans s26))
    have R2 : FaceRows H6 q2 z2 (.one g) bs es := (frows hq2 hz2 ho2).extN (LamX.ExtN.of s26)
    have R4 : FaceRows H6 q4 z4 (.either f g) bs es := (frows hq4 hz4 ho4).extN (LamX.ExtN.of (s5.trans s6))
    have R6 : FaceRows H6 q6 z6 (.both f g) bs es := frows hq6 hz6 ho6
    have A6 := ha.mono s16
    have B6 := hb.mono s16
    have T6 := hT.ext s16
    have hl1 := R1.len
    have hl2 := R2.len
    have hdue : z4.map (·.2) = due (z1.map (·.2) ++ z2.map (·.2)) := either_due R1.ok R2.ok R4.ok
    -- due
    refine ⟨Nat.zero_le _, fun du hdu => ?_⟩
    refine ⟨line_big (n := 2) (by decide), fun t0 ht0 => ⟨line_big (n := 2) (by decide), fun t1 ht1 => ⟨line_big (n := 2) (by decide), fun t2 ht2 => ⟨line_big (n := 2) (by decide), fun t3 ht3 => ?_⟩⟩⟩⟩
    refine ⟨line_big (n := 4) (by decide), fun fl hfl => ?_⟩
    have u0 : Same H6 (upd H6 du (.lst [])) := same_upd hdu
    have v0 := same_upd (o := .tup [.bl false, .bl false]) ht0
    have v1 := same_upd (o := .tup [.bl false, .bl true]) ht1
    have v2 := same_upd (o := .tup [.bl true, .bl false]) ht2
    have v3 := same_upd (o := .tup [.bl true, .bl true]) ht3
    have v4 := same_upd (o := .lst [.ref t0, .ref t1, .ref t2, .ref t3]) hfl
    have v04 := (((v0.trans v1).trans v2).trans v3).trans v4
    have nfd : fl ≠ du := ne_of_none' ((((v0.trans v1).trans v2).trans v3) _ _ upd_same) hfl
    have F0 : ∀ (i : Nat) (ti : Addr) (fi : Face), ([t0, t1, t2, t3] : List Addr)[i]? = some ti → faces4[i]? = some fi → FaceTup (upd (upd (upd (upd (upd (upd H6 du (.lst [])) t0 (.tup [.bl false, .bl false])) t1 (.tup [.bl false, .bl true])) t2 (.tup [.bl true, .bl false])) t3 (.tup [.bl true, .bl true])) fl (.lst [.ref t0, .ref t1, .ref t2, .ref t3])) ti fi := by
      intro i ti fi h1 h2
      match i with
      | 0 =>
        obtain rfl : t0 = ti := by simpa using h1
        obtain rfl : (false, false) = fi := by simpa [faces4] using h2
        exact v4 _ _ (v3 _ _ (v2 _ _ (v1 _ _ upd_same)))
      | 1 =>
        obtain rfl : t1 = ti := by simpa using h1
        obtain rfl : (false, true) = fi := by simpa [faces4] using h2
        exact v4 _ _ (v3 _ _ (v2 _ _ upd_same))
      | 2 =>
        obtain rfl : t2 = ti := by simpa using h1
        obtain rfl : (true, false) = fi := by simpa [faces4] using h2
        exact v4 _ _ (v3 _ _ upd_same)
      | 3 =>
        obtain rfl : t3 = ti := by simpa using h1
        obtain rfl : (true, true) = fi := by simpa [faces4] using h2
        exact v4 _ _ upd_same
      | n + 4 => simp at h1
    have nto : ∀ {HH : Hp} {ti : Addr} {fi : Face} {xs : List V}, FaceTup HH ti fi → HH du = some (.lst xs) → ti ≠ du := fun {HH ti fi xs} h1 h2 e => by
      have : HH ti = some (.tup (faceV fi)) := h1
      rw [e, h2] at this
      cases this
    refine ⟨fl, rfl, ⟨_, .inl (.inl upd_same)⟩, for_it (walk_list (xs := refsV [t0, t1, t2, t3])) (fun i σ H7 => ∃ (v8 v9 v10 v11 : Option V) (ds : List (Addr × (Face × Line))), σ = [some (.ref a), some (.ref b), some (.ref r), some (.ref q1), some (.ref q2), some (.ref q4), some (.ref q6), some (.ref du), v8, v9, v10, v11] ∧ LamX.ExtN H6 H7 ∧ LamX.Tabs (tabT t) H7 ∧ H7 fl = some (.lst [.ref t0, .ref t1, .ref t2, .ref t3]) ∧
        (∀ (i : Nat) (ti : Addr) (fi : Face), ([t0, t1, t2, t3] : List Addr)[i]? = some ti → faces4[i]? = some fi → FaceTup H7 ti fi) ∧ H7 du = some (.lst (refsV (ds.map (·.1)))) ∧ (∀ z ∈ ds, FaceAt H7 z) ∧ ds.map (·.2) = dueFrom (z1.map (·.2) ++ z2.map (·.2)) (faces4.take i) ∧ ds.length ≤ i)
      ⟨_, _, _, _, [], rfl, LamX.ExtN.of (u0.trans v04), T6.ext (u0.trans v04), upd_same, F0, v04 _ _ upd_same, fun z hz => (by simp at hz), rfl, Nat.le_refl _⟩ (fun i σ H7 _ ⟨_, _, _, _, _, _, _, _, z, _⟩ => .inl (.inl z)) ?_ ?_⟩
    · rintro i x σ H0 H7 hi ⟨v8, v9, v10, v11, ds, rfl, x7, T7, hfl7, hF7, hdu7, hds7, hdd, hdl⟩ ⟨rfl, hx⟩
      obtain ⟨ti, hti, rfl⟩ := refsV_some hx
      have hi4 : i < 4 := hi
      obtain ⟨fi, hfi⟩ : ∃ fi, faces4[i]? = some fi := ⟨_, List.getElem?_eq_getElem (h := hi4)⟩
      have hft := hF7 i ti fi hti hfi
      have R1' := R1.extN x7
      have R2' := R2.extN x7
      refine ⟨_, rfl, _, rfl, q1, q2, _, _, rfl, rfl, R1'.at_, R2'.at_, ?_, fun cat hcat => ?_⟩
      · rw [refsV_length, refsV_length, List.length_map, List.length_map]
        exact line_big (by omega)
      have sc := same_upd (o := .lst (refsV (z1.map (·.1)) ++ refsV (z2.map (·.1)))) hcat
      have hcz : upd H7 cat (.lst (refsV (z1.map (·.1)) ++ refsV (z2.map (·.1)))) cat = some (.lst (refsV ((z1 ++ z2).map (·.1)))) := by
        rw [upd_same, List.map_append, refsV_app]
      refine ⟨_, rfl, cat, ti, z1 ++ z2, fi, rfl, hcz, fun z hz => ?_, hft.extN (LamX.ExtN.of sc), by rw [List.length_append]; omega, T7.ext sc, fun H8 x8 T8 => ?_⟩
      · rcases List.mem_append.mp hz with hz | hz
        · obtain ⟨h1, h2, h3⟩ := R1'.full z hz
          exact ⟨h1.mono sc, h2, h3⟩
        · obtain ⟨h1, h2, h3⟩ := R2'.full z hz
          exact ⟨h1.mono sc, h2, h3⟩
      have x78 : LamX.ExtN H7 H8 := (LamX.ExtN.of sc).trans x8
      have x68 := x7.trans x78
      have e9 := dueFrom_snoc (z1.map (·.2) ++ z2.map (·.2)) hfi
      rw [List.map_append]
      refine ⟨_, rfl, rfl, _, rfl, ?_⟩
      cases hle : leastIn (z1.map (·.2) ++ z2.map (·.2)) fi with
      | none =>
        rw [hle] at e9
        refine iteF2 rfl ?_
        exact ⟨_, _, _, _, ds, rfl, x68, T8, lst_extN hfl7 x78, fun j tj fj h1 h2 => (hF7 j tj fj h1 h2).extN x78, lst_extN hdu7 x78, fun z hz => (hds7 z hz).extN x78, by rw [e9, List.append_nil]; exact hdd, by omega⟩
      | some ln =>
        rw [hle] at e9
        refine iteT2 rfl ?_
        have hdu8 := lst_extN hdu7 x78
        refine ⟨_, rfl, .inl ⟨rfl, _, .inl (.inl hdu8)⟩, _, rfl, _, rfl, line_big (n := 2) (by decide), fun nt hnt => ?_⟩
        have sn := same_upd (o := .tup [.ref ti, .str (strOf ln)]) hnt
        have hdu9 := sn _ _ hdu8
        have hft9 : FaceTup (upd H8 nt (.tup [.ref ti, .str (strOf ln)])) ti fi := (hft.extN x78).extN (LamX.ExtN.of sn)
        have hnew : FaceAt (upd H8 nt (.tup [.ref ti, .str (strOf ln)])) (nt, (fi, ln)) := ⟨ti, upd_same, hft9⟩
        refine ⟨_, _, _, rfl, rfl, hdu9, by rw [refsV_length, List.length_map]; exact line_lt (by omega), _, _, _, _, ds ++ [(nt, (fi, ln))], rfl, extN_over (x68.trans (LamX.ExtN.of sn)) hdu, ?_, ?_, fun j tj fj h1 h2 => ?_, ?_, fun z hz => ?_, ?_, ?_⟩
        · intro p hp
          rw [List.mem_singleton.mp hp]
          obtain ⟨ps, a1, a2, a3⟩ := (T8.ext sn) (t, qLam) (List.mem_singleton.mpr rfl)
          have ntd : t ≠ du := fun e => by
            have a1' : upd H8 nt (.tup [.ref ti, .str (strOf ln)]) t = some (.tbl ps) := a1
            rw [e, hdu9] at a1'
            cases a1'
          refine ⟨ps, (upd_ne ntd).trans a1, a2, fun pos cv hcv => ?_⟩
          obtain ⟨c0, e1, e2⟩ := a3 pos cv hcv
          refine ⟨c0, e1, (upd_ne fun e => ?_).trans e2⟩
          rw [e, hdu9] at e2
          unfold LamX.CodeO at e2
          cases e2
        · rw [upd_ne nfd]
          exact sn _ _ (lst_extN hfl7 x78)
        · have h9 : FaceTup (upd H8 nt (.tup [.ref ti, .str (strOf ln)])) tj fj := ((hF7 j tj fj h1 h2).extN x78).extN (LamX.ExtN.of sn)
          exact (upd_ne (nto h9 hdu9)).trans h9
        · rw [upd_same, List.map_append, refsV_app]
          rfl
        · rcases List.mem_append.mp hz with hz | hz
          · exact (((hds7 z hz).extN x78).mono sn).over hdu9
          · rw [List.mem_singleton.mp hz]
            exact hnew.over hdu9
        · rw [e9, List.map_append, hdd]
          rfl
        · rw [List.length_append]
          show ds.length + 1 ≤ _
          omega
    · rintro σ H7 ⟨v8, v9, v10, v11, ds, rfl, x7, T7, hfl7, hF7, hdu7, hds7, hdd, hdl⟩
      have hdd2 : ds.map (·.2) = z4.map (·.2) := by
        rw [hdue, hdd]
        rfl
      have R4' := R4.extN x7
      have hrl : ∀ x ∈ z4.map (·.2), IsLine x.2 := fun x hx => (R4.ok.real x hx).1
      have hsh := shaped_rows hrl
      refine ⟨_, rfl, _, rfl, .list (dRows (z4.map (·.2))), .list (dRows (z4.map (·.2))), .lst (.inl (.inl R4'.at_)) (dpAll_rows z4 fun z hz => (R4'.each z hz).1), .lst (.inl (.inl hdu7)) (by rw [← hdd2]; exact dpAll_rows ds hds7), hsh, hsh, _, rfl, ?_⟩
      have hrefl : PyData.eqv (.list (dRows (z4.map (·.2)))) (.list (dRows (z4.map (·.2)))) = true := SeqAt.eqv_refl _ (SeqAt.canLay_of_shaped hsh)
      rw [hrefl]
      refine iteF ?_
      have R6' := R6.extN x7
      refine ⟨_, rfl, q6, rfl, ⟨_, .inl (.inl R6'.at_)⟩, for_it (walk_list (xs := refsV (z6.map (·.1)))) (fun i σ H8 => ∃ (v8 v9 v10 v11 : Option V), σ = [some (.ref a), some (.ref b), some (.ref r), some (.ref q1), some (.ref q2), some (.ref q4), some (.ref q6), some (.ref du), v8, v9, v10, v11] ∧ LamX.ExtN H6 H8 ∧ LamX.Tabs (tabT t) H8)
        ⟨_, _, _, _, rfl, x7, T7⟩ (fun i σ H8 _ ⟨_, _, _, _, _, z, _⟩ => .inl (.inl (R6.extN z).at_)) ?_ ?_⟩
      · rintro i x σ H0 H8 hi ⟨v8, v9, v10, v11, rfl, x8, T8⟩ ⟨rfl, hx⟩
        obtain ⟨za, hza, rfl⟩ := refsV_some hx
        rw [List.getElem?_map] at hza
        obtain ⟨z, hz, rfl⟩ := Option.map_eq_some_iff.mp hza
        have hzm := List.mem_of_getElem? hz
        have hzr : z.2 ∈ z6.map (·.2) := List.mem_map.mpr ⟨z, hzm, rfl⟩
        have R6'' := R6.extN x8
        obtain ⟨⟨tz, hz1, hz2⟩, hzlen⟩ := R6''.each z hzm
        obtain ⟨hline, hf1, hg1, ⟨l1, hl1', hn1'⟩, ⟨l2, hl2', hn2'⟩⟩ := both_fine R1.ok R2.ok R6.ok hzr
        refine ⟨z.1, _, rfl, .inl (.inl hz1), rfl, _, _, rfl, _, _, rfl, rfl, ?_⟩
        refine ⟨_, rfl, _, rfl, line_big (n := 2) (by decide), fun ml hml => ?_⟩
        have sm := same_upd (o := .lst [.ref q1, .ref q2]) hml
        have x8m := x8.trans (LamX.ExtN.of sm)
        have hml1 : upd H8 ml (.lst [.ref q1, .ref q2]) ml = some (.lst [.ref q1, .ref q2]) := upd_same
        have hz2m : FaceTup (upd H8 ml (.lst [.ref q1, .ref q2])) tz z.2.1 := hz2.extN (LamX.ExtN.of sm)
        have T8m := T8.ext sm
        generalize upd H8 ml (.lst [.ref q1, .ref q2]) = HM at hml1 hz2m x8m T8m
        refine ⟨ml, rfl, ⟨_, .inl (.inl hml1)⟩, for_it (walk_list (xs := [.ref q1, .ref q2])) (fun j σ H9 => ∃ (v10 v11 : Option V), σ = [some (.ref a), some (.ref b), some (.ref r), some (.ref q1), some (.ref q2), some (.ref q4), some (.ref q6), some (.ref du), some (.ref tz), some (.str (strOf z.2.2)), v10, v11] ∧ LamX.ExtN HM H9 ∧ LamX.Tabs (tabT t) H9)
          ⟨_, _, rfl, LamX.ExtN.refl _, T8m⟩ (fun j σ H9 _ ⟨_, _, _, z, _⟩ => .inl (.inl (lst_extN hml1 z))) ?_ ?_⟩
        · rintro j x σ H9' H9 hj ⟨v10, v11, rfl, x9, T9⟩ ⟨rfl, hx⟩
          have x69 := x8m.trans x9
          obtain ⟨q, zq, pq, lq, ex, RQ, hlq, hnq⟩ : ∃ (q : Addr) (zq : List (Addr × (Face × Line))) (pq : Pat) (lq : Line), x = .ref q ∧ FaceRows H6 q zq pq bs es ∧ leastIn (zq.map (·.2)) z.2.1 = some lq ∧ ¬ less z.2.2 lq := by
            match j, hj with
            | 0, _ =>
              obtain rfl : V.ref q1 = x := by simpa using hx
              exact ⟨q1, z1, _, l1, rfl, R1, hl1', hn1'⟩
            | 1, _ =>
              obtain rfl : V.ref q2 = x := by simpa using hx
              exact ⟨q2, z2, _, l2, rfl, R2, hl2', hn2'⟩
          subst ex
          have RQ' := RQ.extN x69
          have hlqlen : lq.length ≤ 4194304 := by
            obtain ⟨hm, _⟩ := leastIn_some hlq
            obtain ⟨y, hy, ey⟩ := List.mem_map.mp hm
            have := (RQ.each y hy).2
            rw [ey] at this
            exact this
          refine ⟨_, rfl, _, rfl, q, tz, zq, z.2.1, rfl, RQ'.at_, RQ'.full, hz2m.extN x9, by have := RQ.len; omega, T9, fun H10 x10 T10 => ?_⟩
          rw [hlq]
          have x610 := x69.trans x10
          refine ⟨_, rfl, rfl, _, rfl, iteF2 rfl ?_⟩
          refine ⟨_, rfl, _, rfl, (by rw [strOf_len]; exact line_big (by omega)), _, rfl, line_big (n := 2) (by decide), fun p1 hp1 => ?_⟩
          refine ⟨_, rfl, _, rfl, (by rw [strOf_len]; exact line_big (by omega)), _, rfl, line_big (n := 2) (by decide), fun p2 hp2 => ?_⟩
          have w1 := same_upd (o := .tup [.int ((strOf z.2.2).length : Nat), .str (strOf z.2.2)]) hp1
          have w2 := same_upd (o := .tup [.int ((strOf lq).length : Nat), .str (strOf lq)]) hp2
          have w12 := w1.trans w2
          refine ⟨p1, p2, _, _, _, _, rfl, rfl, w2 _ _ upd_same, upd_same, _, rfl, ?_⟩
          have hless : lessIS ((strOf z.2.2).length : Nat) ((strOf lq).length : Nat) (strOf z.2.2) (strOf lq) = false := by
            rw [strOf_len, strOf_len, lessIS_eq]
            cases e : lessB z.2.2 lq with
            | false => rfl
            | true => exact absurd (lessB_iff.mp e) hnq
          refine iteF2 hless ?_
          have A10 := (A6.extN x610).mono w12
          have B10 := (B6.extN x610).mono w12
          refine ⟨_, rfl, _, rfl, a, f, z.2.2, rfl, rfl, A10, hline, fun H11 s11 => ⟨_, rfl, iteF2 (by rw [hf1]; rfl) ?_⟩⟩
          refine ⟨_, rfl, _, rfl, b, g, z.2.2, rfl, rfl, B10.mono s11, hline, fun H12 s12' => ⟨_, rfl, iteF2 (by rw [hg1]; rfl) ?_⟩⟩
          have sall := (w12.trans s11).trans s12'
          exact ⟨_, _, rfl, (x9.trans x10).trans (LamX.ExtN.of sall), T10.ext sall⟩
        · rintro σ H9 ⟨v10, v11, rfl, x9, T9⟩
          exact ⟨_, _, _, _, rfl, x8m.trans x9, T9⟩
      · rintro σ H8 ⟨v8, v9, v10, v11, rfl, x8, T8⟩
        exact k _ ((LamX.ExtN.of s16).trans x8) T8
end
end K35
namespace K35
open PySem L2
def dInts (ns : List Int) : List PyData := ns.map .int
theorem dpAll_ints (K : PySem.W.Frag) (H : Hp) : ∀ ns : List Int, DpAll K H (ns.map V.int) (dInts ns)
  | [] => .nil
  | n :: ns => .cons (.int _) (dpAll_ints K H ns)
theorem canLay_ints : ∀ ns : List Int, PyData.canLayAll0 (dInts ns) = true
  | [] => rfl
  | n :: ns => by
    show (true && PyData.canLayAll0 (dInts ns)) = true
    rw [canLay_ints ns]
    rfl
theorem shaped_ints (ns : List Int) : SeqAt.shaped (.list (dInts ns)) = true := by
  unfold SeqAt.shaped
  show (PyData.canLayAll0 (dInts ns) && decide (PyData.depthAll (dInts ns) + 1 ≤ 64)) = true
  rw [canLay_ints, show PyData.depthAll (dInts ns) = 0 from PySem.W.depth_ints ns]
  rfl
theorem sq_extN {K : PySem.W.Frag} {H H' : Hp} {a : Addr} {xs : List V} (h : SqL K H a xs) (e : LamX.ExtN H H') : SqL K H' a xs := by
  rcases h with (h | ⟨o, h⟩) | h
  · exact .inl (.inl (e _ _ h (fun ps z => nomatch z)))
  · exact .inl (.inr ⟨o, e _ _ h (fun ps z => nomatch z)⟩)
  · exact .inr h
section
variable {P : Program} {w : World} {K : PySem.W.Frag} {mg : Str → Option Value} {base : Heap}
/-! ### _law_pool -/
def spPool (K : PySem.W.Frag) : Sp := fun vs H Q _ => ∃ (a : Addr) (k : Nat) (ns : List Int), vs = [.ref a, .int (k : Nat)] ∧ SqL K H a (ns.map V.int) ∧ k ≤ 1000 ∧ ns.length ≤ 1000 ∧ ∀ (H' : Hp) (p : Addr), Same H H' → H p = none → PoolAt H' p → Q (.ref p) H'
theorem scPool : FnScope ["_law_script", "_law_k", "_law_cell", "_law_seed"] ["_law_script", "_law_k"] (defScope (top 52)) := ⟨rfl, rfl, rfl, by decide +kernel, rfl, by decide +kernel, by decide +kernel⟩
theorem ok_pool (T : Txt K mg) : FnOk P w K mg base CX0 1 T.dLawPool.f T.dLawPool.fd ["_law_script", "_law_k"] (spPool K) := by
  refine T.dLawPool.F.ok scPool (fun vs H Q E h => ?_) (fun cdv A outer s H vs Q E hr h => ?_)
  · obtain ⟨a, k, ns, rfl, _⟩ := h
    rfl
  · obtain ⟨a, k, ns, rfl, hA, hk, hn, kk⟩ := h
    have hu := hr.units
    have hint : ∀ {xs : List V}, True := fun {_} => trivial
    refine ⟨_, pss_cons (ps_set (i := 2) scPool.nd rfl (.inl rfl) pe_int)
      (C8.pss_cut (ps_if (pt_cmpR (op_neD hu) (pv 0) (pe_lst pa_nil) (by rfl))
        (pss_one (ps_set (i := 2) scPool.nd rfl (.inl rfl) (pe_ix ix_list (pv 0) (pe_op op_mod (pe_callTy call_int1 rfl T.zInt (by decide +kernel) (pa_cons (pv 1) pa_nil)) (pe_callB call_len_seq rfl T.zLen (by decide +kernel) (pa_cons (pv 0) pa_nil))) (fun _ _ => rfl)))) pss_nil)
      (pss_cons (ps_set (i := 3) scPool.nd rfl (.inl rfl) (pe_op op_mod (pe_op op_mul (pe_callTy call_int1 rfl T.zInt (by decide +kernel) (pa_cons
          (pe_op op_add (pe_op op_add (pe_op op_mod (pe_callTy call_int1 rfl T.zInt (by decide +kernel) (pa_cons (pv 2) pa_nil)) pe_int) (pe_op op_mul pe_int (pv 1))) pe_int) pa_nil)) pe_int) pe_int))
      (pss_one (ps_ret (pe_lst (pa_cons (pe_op op_mul (pv 2) (pe_callTy call_int1 rfl T.zInt (by decide +kernel) (pa_cons (pe_cmpR op_ge (pv 2) (pe_op op_pow pe_int pe_int) (nomark _)) pa_nil))) (pa_cons (pv 3) pa_nil))))))), ?_⟩
    refine ⟨fun σ' H' => ∃ cell : Int, σ' = [some (.ref a), some (.int (k : Nat)), some (.int cell), none] ∧ Same H H', ?_, ?_⟩
    · refine ⟨_, rfl, Nat.zero_le _, fun e he => ?_⟩
      have s1 := same_upd (o := .lst []) he
      refine ⟨.list (dInts ns), .list [], .lst (s1.seq hA) (dpAll_ints _ _ ns), .lst (.inl (.inl upd_same)) .nil, shaped_ints ns, rfl, _, rfl, ?_⟩
      cases ns with
      | nil => exact iteF2 rfl ⟨0, rfl, s1⟩
      | cons n ns =>
        refine iteT2 rfl ?_
        have hlen : ((n :: ns).map V.int).length = ns.length + 1 := by rw [List.length_map]; rfl
        have hm := Int.emod_nonneg (k : Nat) (show ((((n :: ns).map V.int).length : Nat) : Int) ≠ 0 by rw [hlen]; omega)
        have hm2 := Int.emod_lt_of_pos (k : Nat) (show (0 : Int) < ((((n :: ns).map V.int).length : Nat) : Int) by rw [hlen]; omega)
        obtain ⟨j, hj⟩ : ∃ j : Nat, ((k : Nat) : Int) % ((((n :: ns).map V.int).length : Nat) : Int) = (j : Nat) := ⟨_, (Int.toNat_of_nonneg hm).symm⟩
        have hjl : j < (n :: ns).length := by
          rw [hj] at hm2
          rw [List.length_map] at hm2
          omega
        obtain ⟨x, hx⟩ : ∃ x, (n :: ns)[j]? = some x := ⟨_, List.getElem?_eq_getElem hjl⟩
        have hat : atI ((n :: ns).map V.int) (((k : Nat) : Int) % ((((n :: ns).map V.int).length : Nat) : Int)) = some (.int x) := by
          rw [hj]
          refine atI_nat ?_
          rw [List.getElem?_map, hx]
          rfl
        exact ⟨_, rfl, _, rfl, .inl ⟨_, rfl, _, rfl, _, _, rfl, .inl (s1.seq hA), _, _, rfl, rfl, (by show (0 : Int) < _; rw [hlen]; omega), a, _, _, _, rfl, rfl, s1.seq hA, hat, x, rfl, s1⟩⟩
    · rintro σ' H' ⟨cell, rfl, s1⟩
      have m0 := Int.emod_nonneg cell (show (2147483629 : Int) ≠ 0 by decide)
      refine ⟨_, rfl, .inl ⟨_, rfl, _, _, rfl, rfl, (by show (0 : Int) < 2147483629; decide), _, rfl, _, _, rfl, rfl, .inl ⟨by decide, by decide⟩, _, _, rfl, rfl, _, _, rfl, rfl, .inl ⟨_, rfl, _, _, rfl, rfl, .inr ⟨by decide, by decide⟩, _, _, rfl, rfl, (by show (0 : Int) < 2147483647; decide), ?_⟩⟩⟩
      refine ⟨_, rfl, _, rfl, _, _, rfl, rfl, ⟨by decide, by decide, by decide⟩, _, _, rfl, rfl, .inr ⟨_, rfl, _, _, rfl, rfl, .inr ?_, _, rfl, line_big (n := 2) (by decide), fun p hp => ?_⟩⟩
      · split <;> exact ⟨by decide, by decide⟩
      · have s2 := same_upd (o := .lst [.int (cell * (if decide ((10 : Int) ^ (18 : Int).toNat ≤ cell) = true then 1 else 0)), .int ((cell % 2147483629 + 104729 * (k : Nat) + 11) * 48271 % 2147483647)]) hp
        exact kk _ p (s1.trans s2) (Same.free s1 hp) ⟨_, _, upd_same⟩
end
end K35
namespace K35
open PySem L2
/-! ### tables and lists written -/
theorem tabs_over {H : Hp} {D : Addr} {xs : List V} {o : HO} {T : List (Addr × Str)} (h : LamX.Tabs T H) (hD : H D = some (.lst xs)) : LamX.Tabs T (upd H D o) := fun p hp => by
  obtain ⟨ps, a1, a2, a3⟩ := h p hp
  have ntd : p.1 ≠ D := fun e => by
    rw [e, hD] at a1
    cases a1
  refine ⟨ps, (upd_ne ntd).trans a1, a2, fun pos cv hcv => ?_⟩
  obtain ⟨c0, e1, e2⟩ := a3 pos cv hcv
  refine ⟨c0, e1, (upd_ne fun e => ?_).trans e2⟩
  rw [e, hD] at e2
  unfold LamX.CodeO at e2
  cases e2
theorem tabs_away {H H' : Hp} {p : Addr} {T : List (Addr × Str)} (h : LamX.Tabs T H) (hp : PoolAt H p) (e : Away p H H') : LamX.Tabs T H' := fun q hq => by
  obtain ⟨x, y, hP⟩ := hp
  obtain ⟨ps, a1, a2, a3⟩ := h q hq
  refine ⟨ps, e.keep _ _ (fun z => ?_) a1, a2, fun pos cv hcv => ?_⟩
  · rw [z, hP] at a1
    cases a1
  · obtain ⟨c0, e1, e2⟩ := a3 pos cv hcv
    refine ⟨c0, e1, e.keep _ _ (fun z => ?_) e2⟩
    rw [z, hP] at e2
    unfold LamX.CodeO at e2
    cases e2
section
variable {P : Program} {w : World} {K : PySem.W.Frag} {mg : Str → Option Value} {base : Heap}
theorem FormAt.away {T : Txt K mg} {H H' : Hp} {p a : Addr} {f : Form} (h : FormAt T H a f) (hp : PoolAt H p) (e : Away p H H') : FormAt T H' a f := by
  obtain ⟨x, y, hP⟩ := hp
  obtain ⟨dx, t, h1, h2, h3⟩ := h
  exact ⟨dx, t, e.keep _ _ (fun z => by rw [z, hP] at h1; cases h1) h1, e.keep _ _ (fun z => by rw [z, hP] at h2; cases h2) h2, h3⟩
/-- trees stay when a row with a truth value at its fourth place is written -/
theorem TreeAt.row {H : Hp} {D a : Addr} {b e : Addr} {m tg : V} {al q : Bool} {o : HO} {t : Tree} (h : TreeAt H a t) (hD : H D = some (.lst [.ref b, .ref e, m, .bl al, tg, .bl q])) : TreeAt (upd H D o) a t := by
  obtain ⟨u, v, h1, h2, h3⟩ := h
  have np : ∀ {x : Addr} {f : Form}, H x = some (.lst (partsV f)) → x ≠ D := fun {x f} hx z => by
    rw [z, hD] at hx
    injection hx with hx
    injection hx with hx
    cases f with
    | nil => cases hx
    | cons y f => cases hx
  have na : a ≠ D := fun z => by
    rw [z, hD] at h1
    cases h1
  exact ⟨u, v, (upd_ne na).trans h1, (upd_ne (np h2)).trans h2, (upd_ne (np h3)).trans h3⟩
theorem TreesAt.row {H : Hp} {D a : Addr} {b e : Addr} {m tg : V} {al q : Bool} {o : HO} {ts : List Tree} (h : TreesAt H a ts) (hD : H D = some (.lst [.ref b, .ref e, m, .bl al, tg, .bl q])) : TreesAt (upd H D o) a ts := by
  obtain ⟨as, h1, h2⟩ := h
  refine ⟨as, (upd_ne fun z => ?_).trans h1, h2.imp fun x y r => r.row hD⟩
  rw [z, hD] at h1
  injection h1 with h1
  injection h1 with h1
  have h3 := congrArg (fun l : List V => l[3]?) h1
  have h4 : (refsV as)[3]? = some (.bl al) := h3.symm
  obtain ⟨x, _, ex⟩ := refsV_some h4
  cases ex
theorem TreesAt.slice {H : Hp} {as : List Addr} {ts : List Tree} (h : AllAt (TreeAt H) as ts) {l : Addr} (hl : H l = none) : TreesAt (upd H l (.lst (refsV (as.take 1)))) l (ts.take 1) :=
  ⟨as.take 1, upd_same, (h.take 1).imp fun x y r => r.mono (same_upd hl)⟩
theorem cut1_refs (as : List Addr) : cutV (refsV as) none (some 1) = refsV (as.take 1) := by
  rw [show (some (1 : Int)) = some ((1 : Nat) : Int) from rfl, cut_to]
  unfold refsV
  rw [List.map_take]
/-! ### the count of cells -/
theorem cc_app (a b : List Form) : cellCount ((a ++ b).map cellsOf) = cellCount (a.map cellsOf) + cellCount (b.map cellsOf) := by
  unfold cellCount
  rw [List.map_append, List.map_append, List.sum_append]
theorem cc_pat {t : Tree} (h : TreeOk' 2 t) : cellCount ((patOf t).forms.map cellsOf) ≤ 6 := by
  obtain ⟨k, f, g⟩ := t
  have h1 := h.lf.cells.1 h.cf
  have h2 := h.lg.cells.1 h.cg
  have h1' : (cellsOf f).length ≤ 3 := h1
  have h2' : (cellsOf g).length ≤ 3 := h2
  cases k with
  | one => show cellCount [cellsOf f] ≤ 6; simp [cellCount]; omega
  | or => show cellCount [cellsOf f, cellsOf g] ≤ 6; simp [cellCount]; omega
  | and => show cellCount [cellsOf f, cellsOf g] ≤ 6; simp [cellCount]; omega
theorem cc_marks : ∀ {ts : List Tree}, (∀ t ∈ ts, TreeOk' 2 t) → cellCount ((formsOf (ts.map patOf)).map cellsOf) ≤ 6 * ts.length
  | [], _ => Nat.zero_le _
  | t :: ts, h => by
    have h1 := cc_pat (h t List.mem_cons_self)
    have h2 := cc_marks (ts := ts) fun x hx => h x (List.mem_cons_of_mem _ hx)
    have e : formsOf ((t :: ts).map patOf) = (patOf t).forms ++ formsOf (ts.map patOf) := by
      unfold formsOf
      rw [List.map_cons, List.flatMap_cons]
    rw [e, cc_app, List.length_cons]
    omega
theorem TreeOk.up {t : Tree} (h : TreeOk' 2 t) : TreeOk' 3 t := ⟨h.lf, h.lg, h.nf, h.ng, Nat.le_trans h.cf (by decide), Nat.le_trans h.cg (by decide)⟩
theorem cut_ok {ts : List Tree} (h : ∀ t ∈ ts, TreeOk' 3 t) : ∀ t ∈ (ts.take 1).map cutT, TreeOk' 2 t := fun t ht => by
  obtain ⟨u, hu, rfl⟩ := List.mem_map.mp ht
  exact TreeOk.cut (h u (List.mem_of_mem_take hu))
theorem cut_len (ts : List Tree) : ((ts.take 1).map cutT).length ≤ 1 := by
  rw [List.length_map, List.length_take]
  omega
theorem cc_all {f g : Form} (hf : LParts f) (hg : LParts g) (h1 : f.length ≤ 3) (h2 : g.length ≤ 3) {bs es : List Tree} (hb : ∀ t ∈ bs, TreeOk' 2 t) (he : ∀ t ∈ es, TreeOk' 2 t) (lb : bs.length ≤ 1) (le : es.length ≤ 1) :
    cellCount (([f, g] ++ formsOf (bs.map patOf ++ es.map patOf)).map cellsOf) ≤ 22 := by
  have e : formsOf (bs.map patOf ++ es.map patOf) = formsOf (bs.map patOf) ++ formsOf (es.map patOf) := by
    unfold formsOf
    rw [List.flatMap_append]
  rw [e, cc_app, cc_app]
  have c1 := cc_marks hb
  have c2 := cc_marks he
  have c3 := hf.cells.2 h1
  have c4 := hg.cells.2 h2
  have c5 : cellCount ([f, g].map cellsOf) = (cellsOf f).length + (cellsOf g).length := by simp [cellCount]
  omega
theorem same_away {H H1 H2 : Hp} {p : Addr} (s : Same H H1) (hp : H p = none) (e : Away p H1 H2) : Same H H2 := fun b o h => e.keep b o (ne_of_none h hp) (s b o h)
/-! ### law -/
def spLaw (K : PySem.W.Frag) (t : Addr) : Sp := fun vs H Q _ => ∃ (a : Addr) (ns : List Int), vs = [.ref a] ∧ SqL K H a (ns.map V.int) ∧ ns.length ≤ 63 ∧ LamX.Tabs (tabT t) H ∧ ∀ H' : Hp, Q (.bl true) H'
theorem scLaw : FnScope ["_law_script", "_law_k", "_law_pool_here", "_law_one", "_law_other", "_law_rule_here"] ["_law_script"] (defScope (top 66)) := ⟨rfl, rfl, rfl, by decide +kernel, rfl, by decide +kernel, by decide +kernel⟩
theorem ok_law (T : Txt K mg) {c t : Addr} (LC : LeastC T c) (TB : LamX.TabB base mg c t) {fa : Addr} {fd : FuncData} (F : Fun K "law" "law" (top 66) fa fd) : FnOk P w K mg base CX0 9 fa fd ["_law_script"] (spLaw K t) := by
  have GP : FnOk P w K mg base CX0 1 T.dLawPool.f T.dLawPool.fd ["_law_script", "_law_k"] (spPool K) := ok_pool T
  have GA : FnOk P w K mg base CX0 3 T.dLawParts.f T.dLawParts.fd ["_law_pool_here"] spPartsL := ok_partsL T
  have GF : FnOk P w K mg base CX0 5 T.dLawForm.f T.dLawForm.fd ["_law_parts_here"] (spFormL T) := ok_formL T
  have GR : FnOk P w K mg base CX0 5 T.dLawRule.f T.dLawRule.fd ["_law_pool_here"] spRuleL := ok_ruleL T
  have GS : FnOk P w K mg base CX0 1 T.dLawShort.f T.dLawShort.fd ["_law_trees"] spShort := ok_short T
  have GD : FnOk P w K mg base CX0 8 T.dLawRuled.f T.dLawRuled.fd ["_law_rule_here"] (spRuled T) := ok_ruled T
  have GT : FnOk P w K mg base CX0 7 T.dLawRight.f T.dLawRight.fd ["_law_one", "_law_other", "_law_rule_here"] (spRight T t) := ok_right T LC TB
  refine F.ok scLaw (fun vs H Q E h => ?_) (fun cdv A outer s H vs Q E hr h => ?_)
  · obtain ⟨a, ns, rfl, _⟩ := h
    rfl
  · obtain ⟨a, ns, rfl, hA, hn, hT, k⟩ := h
    have hr7 := hr.mono (show 7 ≤ 8 by decide)
    have hr5 := hr.mono (show 5 ≤ 8 by decide)
    have hr3 := hr.mono (show 3 ≤ 8 by decide)
    have hr1 := hr.mono (show 1 ≤ 8 by decide)
    refine ⟨_, pss_cons (ps_for PassesOwn.never rfl (pi_range1 rfl T.zRange (pa_cons (pe_callB (call_max2 rfl) rfl T.zMax (by decide +kernel) (pa_cons pe_int (pa_cons (pe_callB (call_min2 rfl) rfl T.zMin (by decide +kernel) (pa_cons pe_int (pa_cons (pe_callB call_len_seq rfl T.zLen (by decide +kernel) (pa_cons (pv 0) pa_nil)) pa_nil))) pa_nil))) pa_nil)) (pg_name (i := 1) scLaw.nd rfl (.inl rfl))
        (pss_cons (ps_set (i := 2) scLaw.nd rfl (.inl rfl) (pe_call GP hr1 rfl T.dLawPool.m T.dLawPool.F.kp T.dLawPool.b .nil pass0 (pa_cons (pv 0) (pa_cons (pv 1) pa_nil))))
        (pss_cons (ps_set (i := 3) scLaw.nd rfl (.inl rfl) (pe_call GF hr5 rfl T.dLawForm.m T.dLawForm.F.kp T.dLawForm.b .nil pass0 (pa_cons (pe_call GA hr3 rfl T.dLawParts.m T.dLawParts.F.kp T.dLawParts.b .nil pass0 (pa_cons (pv 2) pa_nil)) pa_nil)))
        (pss_cons (ps_set (i := 4) scLaw.nd rfl (.inl rfl) (pe_call GF hr5 rfl T.dLawForm.m T.dLawForm.F.kp T.dLawForm.b .nil pass0 (pa_cons (pe_call GA hr3 rfl T.dLawParts.m T.dLawParts.F.kp T.dLawParts.b .nil pass0 (pa_cons (pv 2) pa_nil)) pa_nil)))
        (pss_cons (ps_set (i := 5) scLaw.nd rfl (.inl rfl) (pe_call GR hr5 rfl T.dLawRule.m T.dLawRule.F.kp T.dLawRule.b .nil pass0 (pa_cons (pv 2) pa_nil)))
        (pss_cons (ps_asg (pe_call GS hr1 rfl T.dLawShort.m T.dLawShort.F.kp T.dLawShort.b .nil pass0 (pa_cons (pe_slice sl_list (pe_ix ix_list (pv 5) pe_int (fun _ _ => rfl)) po_none (po_some pe_int)) pa_nil)) (pg_sub (pv 5) pe_int set_list))
        (pss_cons (ps_asg (pe_call GS hr1 rfl T.dLawShort.m T.dLawShort.F.kp T.dLawShort.b .nil pass0 (pa_cons (pe_slice sl_list (pe_ix ix_list (pv 5) pe_int (fun _ _ => rfl)) po_none (po_some pe_int)) pa_nil)) (pg_sub (pv 5) pe_int set_list))
        (pss_one (ps_if (pt_not (pt_val (pe_call GT hr7 rfl T.dLawRight.m T.dLawRight.F.kp T.dLawRight.b .nil pass0 (pa_cons (pv 3) (pa_cons (pv 4) (pa_cons (pe_call GD hr rfl T.dLawRuled.m T.dLawRuled.F.kp T.dLawRuled.b .nil pass0 (pa_cons (pv 5) pa_nil)) pa_nil)))))) (pss_one (ps_ret pe_bl)) pss_nil)))))))))
      (pss_one (ps_ret pe_bl)), ?_⟩
    refine ⟨_, rfl, _, _, rfl, .inl hA, _, _, rfl, _, _, rfl, ?_⟩
    generalize hj : (if (if (((ns.map V.int).length : Nat) : Int) < 2 then (((ns.map V.int).length : Nat) : Int) else 2) > 1 then (if (((ns.map V.int).length : Nat) : Int) < 2 then (((ns.map V.int).length : Nat) : Int) else 2) else 1) = j
    have hj2 : 0 ≤ j ∧ j ≤ 2 := by
      rw [← hj]
      split
      · split <;> omega
      · omega
    refine ⟨j, rfl, by omega, by omega, ?_⟩
    refine for_range (lo := 0) (n := j.toNat) (fun i σ H2 => ∃ v1 v2 v3 v4 v5, σ = [some (.ref a), v1, v2, v3, v4, v5] ∧ SqL K H2 a (ns.map V.int) ∧ LamX.Tabs (tabT t) H2) ⟨_, _, _, _, _, rfl, hA, hT⟩ ?_ ?_
    · rintro i σ H2 hi ⟨v1, v2, v3, v4, v5, rfl, hA2, T2⟩
      rw [Int.zero_add]
      refine ⟨_, rfl, _, rfl, a, i, ns, rfl, hA2, by omega, by omega, fun H3 p s3 hp3 hP3 => ?_⟩
      have T3 := T2.ext s3
      -- the first form
      refine ⟨_, rfl, p, rfl, hP3, fun H4 l f hLf hnf hf3 hln nlp a4 hl4 => ?_⟩
      refine ⟨l, f, rfl, hl4, hLf, hnf, hf3, fun H5 one s5 hone hO5 => ?_⟩
      have P5 := a4.pool.same s5
      have T5 := (tabs_away T3 hP3 a4).ext s5
      -- the second form
      refine ⟨_, rfl, p, rfl, P5, fun H6 l2 g hLg hng hg3 hln2 nlp2 a6 hl6 => ?_⟩
      refine ⟨l2, g, rfl, hl6, hLg, hng, hg3, fun H7 two s7 htwo hO7 => ?_⟩
      have P7 := a6.pool.same s7
      have T7 := (tabs_away T5 P5 a6).ext s7
      have O7 : FormAt T H7 one f := (hO5.away P5 a6).mono s7
      -- the rule's row
      refine ⟨_, rfl, p, rfl, P7, fun H8 r b e bs es m tg al q a8 hrn hr8 hB8 hE8 hbo heo hm htg => ?_⟩
      have T8 := tabs_away T7 P7 a8
      have O8 := O7.away P7 a8
      have W8 := hO7.away P7 a8
      obtain ⟨bas, hbL, hbA⟩ := hB8
      -- its begins, cut
      refine ⟨_, rfl, r, _, _, _, rfl, rfl, .inl (.inl hr8), atI_nat (j := 0) rfl, _, rfl, b, _, rfl, .inl (.inl hbL), fun sl hsl => ?_⟩
      rw [cut1_refs]
      have ssl := same_upd (o := .lst (refsV (bas.take 1))) hsl
      refine ⟨sl, bs.take 1, rfl, TreesAt.slice hbA hsl, by rw [List.length_take]; omega, fun H10 cb s10 hcb hCB => ?_⟩
      have s810 := ssl.trans s10
      have hr10 := s810 _ _ hr8
      refine ⟨_, rfl, r, _, _, 0, rfl, rfl, hr10, rfl, ?_⟩
      have CB11 := hCB.row (o := .lst [.ref cb, .ref e, m, .bl al, tg, .bl q]) hr10
      have E11 := (hE8.mono s810).row (o := .lst [.ref cb, .ref e, m, .bl al, tg, .bl q]) hr10
      have T11 := tabs_over (o := .lst [.ref cb, .ref e, m, .bl al, tg, .bl q]) (T8.ext s810) hr10
      have O11 := FormAt.over (o := .lst [.ref cb, .ref e, m, .bl al, tg, .bl q]) (FormAt.mono s810 O8) hr10
      have W11 := FormAt.over (o := .lst [.ref cb, .ref e, m, .bl al, tg, .bl q]) (FormAt.mono s810 W8) hr10
      have hr11 : upd H10 r (.lst [.ref cb, .ref e, m, .bl al, tg, .bl q]) r = some (.lst [.ref cb, .ref e, m, .bl al, tg, .bl q]) := upd_same
      have S8 : Same H2 H8 := same_away ((same_away ((same_away s3 hp3 a4).trans s5) hp3 a6).trans s7) hp3 a8
      have S7 : Same H2 H7 := (same_away ((same_away s3 hp3 a4).trans s5) hp3 a6).trans s7
      have hr2 : H2 r = none := Same.free S7 hrn
      have S11 : Same H2 (upd H10 r (.lst [.ref cb, .ref e, m, .bl al, tg, .bl q])) := same_over (S8.trans s810) hr2
      obtain ⟨eas, heL, heA⟩ := E11
      refine ⟨_, rfl, r, _, _, _, rfl, rfl, .inl (.inl hr11), atI_nat (j := 1) rfl, _, rfl, e, _, rfl, .inl (.inl heL), fun sl2 hsl2 => ?_⟩
      rw [cut1_refs]
      have ssl2 := same_upd (o := .lst (refsV (eas.take 1))) hsl2
      refine ⟨sl2, es.take 1, rfl, TreesAt.slice heA hsl2, by rw [List.length_take]; omega, fun H13 ce s13 hce hCE => ?_⟩
      have s1113 := ssl2.trans s13
      have hr13 := s1113 _ _ hr11
      refine ⟨_, rfl, r, _, _, 1, rfl, rfl, hr13, rfl, ?_⟩
      have CB14 := (CB11.mono s1113).row (o := .lst [.ref cb, .ref ce, m, .bl al, tg, .bl q]) hr13
      have CE14 := hCE.row (o := .lst [.ref cb, .ref ce, m, .bl al, tg, .bl q]) hr13
      have T14 := tabs_over (o := .lst [.ref cb, .ref ce, m, .bl al, tg, .bl q]) (T11.ext s1113) hr13
      have O14 := FormAt.over (o := .lst [.ref cb, .ref ce, m, .bl al, tg, .bl q]) (FormAt.mono s1113 O11) hr13
      have W14 := FormAt.over (o := .lst [.ref cb, .ref ce, m, .bl al, tg, .bl q]) (FormAt.mono s1113 W11) hr13
      have hr14 : upd H13 r (.lst [.ref cb, .ref ce, m, .bl al, tg, .bl q]) r = some (.lst [.ref cb, .ref ce, m, .bl al, tg, .bl q]) := upd_same
      have S14 : Same H2 (upd H13 r (.lst [.ref cb, .ref ce, m, .bl al, tg, .bl q])) := same_over (S11.trans s1113) hr2
      have hb2 := cut_ok hbo
      have he2 := cut_ok heo
      have lb := cut_len bs
      have le := cut_len es
      have hL400 : (((bs.take 1).map cutT).map patOf).length + (((es.take 1).map cutT).map patOf).length ≤ 400 := by
        simp only [List.length_map, List.length_take]
        omega
      refine ⟨_, rfl, _, rfl, _, rfl, r, cb, ce, (bs.take 1).map cutT, (es.take 1).map cutT, m, tg, al, q, rfl, hr14, CB14, CE14, fun t' ht' => TreeOk.up (hb2 t' ht'), fun t' ht' => TreeOk.up (he2 t' ht'), by omega, hm, htg, fun H15 x s15 hx hRA => ?_⟩
      refine ⟨one, two, x, f, g, _, _, rfl, FormAt.mono s15 O14, FormAt.mono s15 W14, hRA, hL400, cc_all hLf hLg hf3 hg3 hb2 he2 lb le, T14.ext s15, fun H16 x16 T16 => ⟨_, rfl, iteF ⟨_, _, _, _, _, rfl, ?_, T16⟩⟩⟩
      exact sq_extN ((S14.trans s15).seq hA2) x16
    · rintro σ H2 ⟨v1, v2, v3, v4, v5, rfl, hA2, T2⟩
      exact k H2
end
end K35
namespace K35
open PySem L2
/-! ### what the top has written, from the facts of its objects -/
section
variable {K : PySem.W.Frag} {h : Heap} {mg : Str → Option Value}
theorem def_mk {g x : Str} {st : Stmt} {ps : List Str} {f : Addr} {oc : Value} {od an : Option Addr} {osl : Array (Option Value)} {kV doc pm cdv ct : Value} (X : K.In h) (G : h.Ns mainGlobals mg)
    (a : PySem.W.nsIn K mainGlobals g = some (some (.ref f))) (l : K.lookup f = some ⟨oc, od, .func (PySem.W.fnOf x x (defArgs st) (defBody st) (defScope st) .none kV doc pm an cdv ct), osl⟩) (c : PySem.W.codeIn K cdv x = true) (k : PySem.W.keepIn K (.ref f) = true)
    (b : ∀ (kV doc pm : Value) (an : Option Addr) (cdv ct : Value) (us : List Value), us.length = ps.length → bindArgs (PySem.W.fnOf x x (defArgs st) (defBody st) (defScope st) .none kV doc pm an cdv ct) ⟨us, []⟩ = pure (ps.zip us)) :
    Nonempty (Def K mg g x st ps) := ⟨⟨f, _, fun_mk l c k, PySem.W.mg_of X G a, (fun_mk l c k).binds b⟩⟩
theorem def_mkC {g x : Str} {st : Stmt} {ps : List Str} {f c : Addr} {oc : Value} {od an : Option Addr} {osl : Array (Option Value)} {kV doc pm ct : Value} (X : K.In h) (G : h.Ns mainGlobals mg)
    (a : PySem.W.nsIn K mainGlobals g = some (some (.ref f))) (l : K.lookup f = some ⟨oc, od, .func (PySem.W.fnOf x x (defArgs st) (defBody st) (defScope st) .none kV doc pm an (.ref c) ct), osl⟩) (cd : PySem.W.codeIn K (.ref c) x = true) (k : PySem.W.keepIn K (.ref f) = true)
    (b : ∀ (kV doc pm : Value) (an : Option Addr) (cdv ct : Value) (us : List Value), us.length = ps.length → bindArgs (PySem.W.fnOf x x (defArgs st) (defBody st) (defScope st) .none kV doc pm an cdv ct) ⟨us, []⟩ = pure (ps.zip us)) :
    ∃ D : Def K mg g x st ps, ∃ (oc : Value) (od : Option Addr) (kV doc pm : Value) (an : Option Addr) (ct : Value) (osl : Array (Option Value)),
      D.fd = PySem.W.fnOf x x (defArgs st) (defBody st) (defScope st) .none kV doc pm an (.ref c) ct ∧ K.lookup D.f = some ⟨oc, od, .func D.fd, osl⟩ ∧ PySem.W.codeIn K (.ref c) x = true :=
  ⟨⟨f, _, fun_mk l cd k, PySem.W.mg_of X G a, (fun_mk l cd k).binds b⟩, _, _, _, _, _, _, _, _, rfl, l, cd⟩
theorem met_mk {C f : Addr} {x qual : Str} {st : Stmt} {ps : List Str} {oc : Value} {od an : Option Addr} {osl : Array (Option Value)} {kV doc pm cdv ct : Value}
    (a : PySem.W.findIn K (.ref C) x = some (some (.ref f))) (i : PySem.W.isFn K (.ref f) = true) (l : K.lookup f = some ⟨oc, od, .func (PySem.W.fnOf x qual (defArgs st) (defBody st) (defScope st) .none kV doc pm an cdv ct), osl⟩) (c : PySem.W.codeIn K cdv qual = true) (k : PySem.W.keepIn K (.ref f) = true)
    (b : ∀ (kV doc pm : Value) (an : Option Addr) (cdv ct : Value) (us : List Value), us.length = ps.length → bindArgs (PySem.W.fnOf x qual (defArgs st) (defBody st) (defScope st) .none kV doc pm an cdv ct) ⟨us, []⟩ = pure (ps.zip us)) :
    Nonempty (Met K C x qual st ps) := ⟨⟨f, _, fun_mk l c k, ⟨a, i, k⟩, (fun_mk l c k).binds b⟩⟩
theorem met0_mk {C f : Addr} {x qual : Str} {st : Stmt} {oc : Value} {od an : Option Addr} {osl : Array (Option Value)} {kV doc pm cdv ct : Value}
    (a : PySem.W.findIn K (.ref C) x = some (some (.ref f))) (i : PySem.W.isFn K (.ref f) = true) (l : K.lookup f = some ⟨oc, od, .func (PySem.W.fnOf x qual (defArgs st) (defBody st) (defScope st) .none kV doc pm an cdv ct), osl⟩) (c : PySem.W.codeIn K cdv qual = true) (k : PySem.W.keepIn K (.ref f) = true) :
    Nonempty (Met0 K C x qual st) := ⟨⟨f, _, fun_mk l c k, ⟨a, i, k⟩⟩⟩
theorem cls_mk {C : Addr} {x : Str} (X : K.In h) (G : h.Ns mainGlobals mg) (a : PySem.W.nsIn K mainGlobals x = some (some (.ref C)))
    (pg : PySem.W.plainGet K C Str.empty = true) (hd : PySem.W.hasDictIn K C = true) (po : PySem.W.plainOver K C = true) (sa : PySem.W.findIn K (.ref C) "__setattr__" = some (some (.builtin "object.__setattr__"))) (mk : PySem.W.makesIn K C = true) (kp : PySem.W.keepIn K (.ref C) = true)
    (ha : PySem.W.findIn K (.ref C) "__class__" = some (some (.builtin "object.__class__"))) (hn : PySem.W.specialIn K (.builtin "object.__class__") "__get__" = some (some (.builtin "getset_descriptor.__get__"))) (ht : PySem.W.takesIn K (.builtin "object.__class__") = some true)
    (hm : PySem.W.mroIn K C (.type "object") = some true) : ∃ D : ClsT K mg x, D.C = C := ⟨⟨C, PySem.W.mg_of X G a, ⟨pg, hd, po, sa⟩, mk, kp, ha, hn, ht, hm⟩, rfl⟩
theorem sqt_mk {a : Addr} {od : Option Addr} {its : Array Value} {n : Nat} {osl : Array (Option Value)} {xs : List V} (l : K.lookup a = some ⟨.type "tuple", od, .seq its n, osl⟩) (hs : its.size ≤ sizeLine) (hv : Vals xs its.toList) (H : Hp) : SqT K H a xs :=
  .inr ⟨_, its, n, l, rfl, rfl, hs, hv⟩
theorem law_at {l : PySem.W.OpenLaw} {w : World} {fa c t : Addr} (hT : h.get? t = some { cls := .none, data := .fields #[] }) (nT : K.lookup t = none) (hC : PySem.W.CodeHd h c t) (T : Txt K mg) (LC : LeastC T c) (D : Def K mg "law" "law" (top 66) ["_law_script"]) (hmg : mg "law" = some (.ref fa)) :
    LamX.LawAtS l w K CX0 9 63 "_law_script" mg fa h := by
  have e : D.f = fa := by
    have z := D.m.symm.trans hmg
    injection z with z
    injection z
  subst e
  have one_ : ∀ p : Addr × Addr, p ∈ [(c, t)] → p = (c, t) := fun p hp => List.mem_singleton.mp hp
  obtain ⟨oc, od, kV, doc, pm, an, cdv, ct, osl, efd, lk, hcd⟩ := D.F.ex
  refine ⟨D.fd, [(c, t)], spLaw K t, fun p hp => ?_, fun p hp => ?_, fun p hp => ?_, fun s u => ?_, fun H a ns hl _ hcs hS => ?_, fun base KB GB TB => ?_⟩
  · rw [one_ p hp]; exact hT
  · rw [one_ p hp]; exact nT
  · rw [one_ p hp]; exact hC
  · rw [efd]
    exact .of_eq rfl
  · exact ⟨a, ns, rfl, hS, hl, fun p hp => by rw [List.mem_singleton.mp hp]; exact LamX.TabS.nil (hcs (c, t) (by simp)), fun _ => rfl⟩
  · exact ok_law T LC (TB (c, t) (by simp)) D.F
end
/-! ### how their arguments bind -/
theorem bind_is_line : ∀ (kV doc pm : Value) (an : Option Addr) (cdv ct : Value) (us : List Value), us.length = (["thing"] : List Str).length → bindArgs (PySem.W.fnOf "is_line" "is_line" (defArgs (top 5)) (defBody (top 5)) (defScope (top 5)) .none kV doc pm an cdv ct) ⟨us, []⟩ = pure ((["thing"] : List Str).zip us) := fun _ _ _ _ _ _ us hl => match us, hl with | [_], _ => rfl
theorem bind_cells_of : ∀ (kV doc pm : Value) (an : Option Addr) (cdv ct : Value) (us : List Value), us.length = (["parts"] : List Str).length → bindArgs (PySem.W.fnOf "cells_of" "cells_of" (defArgs (top 11)) (defBody (top 11)) (defScope (top 11)) .none kV doc pm an cdv ct) ⟨us, []⟩ = pure ((["parts"] : List Str).zip us) := fun _ _ _ _ _ _ us hl => match us, hl with | [_], _ => rfl
theorem bind_takes : ∀ (kV doc pm : Value) (an : Option Addr) (cdv ct : Value) (us : List Value), us.length = (["cell", "sign"] : List Str).length → bindArgs (PySem.W.fnOf "takes" "takes" (defArgs (top 12)) (defBody (top 12)) (defScope (top 12)) .none kV doc pm an cdv ct) ⟨us, []⟩ = pure ((["cell", "sign"] : List Str).zip us) := fun _ _ _ _ _ _ us hl => match us, hl with | [_, _], _ => rfl
theorem bind_closed : ∀ (kV doc pm : Value) (an : Option Addr) (cdv ct : Value) (us : List Value), us.length = (["cells", "positions"] : List Str).length → bindArgs (PySem.W.fnOf "closed" "closed" (defArgs (top 13)) (defBody (top 13)) (defScope (top 13)) .none kV doc pm an cdv ct) ⟨us, []⟩ = pure ((["cells", "positions"] : List Str).zip us) := fun _ _ _ _ _ _ us hl => match us, hl with | [_, _], _ => rfl
theorem bind_started : ∀ (kV doc pm : Value) (an : Option Addr) (cdv ct : Value) (us : List Value), us.length = (["cells"] : List Str).length → bindArgs (PySem.W.fnOf "started" "started" (defArgs (top 14)) (defBody (top 14)) (defScope (top 14)) .none kV doc pm an cdv ct) ⟨us, []⟩ = pure ((["cells"] : List Str).zip us) := fun _ _ _ _ _ _ us hl => match us, hl with | [_], _ => rfl
theorem bind_moved : ∀ (kV doc pm : Value) (an : Option Addr) (cdv ct : Value) (us : List Value), us.length = (["cells", "positions", "sign"] : List Str).length → bindArgs (PySem.W.fnOf "moved" "moved" (defArgs (top 15)) (defBody (top 15)) (defScope (top 15)) .none kV doc pm an cdv ct) ⟨us, []⟩ = pure ((["cells", "positions", "sign"] : List Str).zip us) := fun _ _ _ _ _ _ us hl => match us, hl with | [_, _, _], _ => rfl
theorem bind_is_done : ∀ (kV doc pm : Value) (an : Option Addr) (cdv ct : Value) (us : List Value), us.length = (["cells", "positions"] : List Str).length → bindArgs (PySem.W.fnOf "is_done" "is_done" (defArgs (top 16)) (defBody (top 16)) (defScope (top 16)) .none kV doc pm an cdv ct) ⟨us, []⟩ = pure ((["cells", "positions"] : List Str).zip us) := fun _ _ _ _ _ _ us hl => match us, hl with | [_, _], _ => rfl
theorem bind_begin : ∀ (kV doc pm : Value) (an : Option Addr) (cdv ct : Value) (us : List Value), us.length = (["forms"] : List Str).length → bindArgs (PySem.W.fnOf "begin" "begin" (defArgs (top 18)) (defBody (top 18)) (defScope (top 18)) .none kV doc pm an cdv ct) ⟨us, []⟩ = pure ((["forms"] : List Str).zip us) := fun _ _ _ _ _ _ us hl => match us, hl with | [_], _ => rfl
theorem bind_stepped : ∀ (kV doc pm : Value) (an : Option Addr) (cdv ct : Value) (us : List Value), us.length = (["rows", "state", "sign"] : List Str).length → bindArgs (PySem.W.fnOf "stepped" "stepped" (defArgs (top 19)) (defBody (top 19)) (defScope (top 19)) .none kV doc pm an cdv ct) ⟨us, []⟩ = pure ((["rows", "state", "sign"] : List Str).zip us) := fun _ _ _ _ _ _ us hl => match us, hl with | [_, _, _], _ => rfl
theorem bind_truths : ∀ (kV doc pm : Value) (an : Option Addr) (cdv ct : Value) (us : List Value), us.length = (["forms", "state"] : List Str).length → bindArgs (PySem.W.fnOf "truths" "truths" (defArgs (top 20)) (defBody (top 20)) (defScope (top 20)) .none kV doc pm an cdv ct) ⟨us, []⟩ = pure ((["forms", "state"] : List Str).zip us) := fun _ _ _ _ _ _ us hl => match us, hl with | [_, _], _ => rfl
theorem bind_kind_of : ∀ (kV doc pm : Value) (an : Option Addr) (cdv ct : Value) (us : List Value), us.length = (["sign"] : List Str).length → bindArgs (PySem.W.fnOf "kind_of" "kind_of" (defArgs (top 21)) (defBody (top 21)) (defScope (top 21)) .none kV doc pm an cdv ct) ⟨us, []⟩ = pure ((["sign"] : List Str).zip us) := fun _ _ _ _ _ _ us hl => match us, hl with | [_], _ => rfl
theorem bind_signs_for : ∀ (kV doc pm : Value) (an : Option Addr) (cdv ct : Value) (us : List Value), us.length = (["forms"] : List Str).length → bindArgs (PySem.W.fnOf "signs_for" "signs_for" (defArgs (top 22)) (defBody (top 22)) (defScope (top 22)) .none kV doc pm an cdv ct) ⟨us, []⟩ = pure ((["forms"] : List Str).zip us) := fun _ _ _ _ _ _ us hl => match us, hl with | [_], _ => rfl
theorem bind_scanned : ∀ (kV doc pm : Value) (an : Option Addr) (cdv ct : Value) (us : List Value), us.length = (["forms"] : List Str).length → bindArgs (PySem.W.fnOf "scanned" "scanned" (defArgs (top 24)) (defBody (top 24)) (defScope (top 24)) .none kV doc pm an cdv ct) ⟨us, []⟩ = pure ((["forms"] : List Str).zip us) := fun _ _ _ _ _ _ us hl => match us, hl with | [_], _ => rfl
theorem bind_look_of : ∀ (kV doc pm : Value) (an : Option Addr) (cdv ct : Value) (us : List Value), us.length = (["marks", "told"] : List Str).length → bindArgs (PySem.W.fnOf "look_of" "look_of" (defArgs (top 25)) (defBody (top 25)) (defScope (top 25)) .none kV doc pm an cdv ct) ⟨us, []⟩ = pure ((["marks", "told"] : List Str).zip us) := fun _ _ _ _ _ _ us hl => match us, hl with | [_, _], _ => rfl
theorem bind_looks : ∀ (kV doc pm : Value) (an : Option Addr) (cdv ct : Value) (us : List Value), us.length = (["pattern", "marks"] : List Str).length → bindArgs (PySem.W.fnOf "looks" "looks" (defArgs (top 26)) (defBody (top 26)) (defScope (top 26)) .none kV doc pm an cdv ct) ⟨us, []⟩ = pure ((["pattern", "marks"] : List Str).zip us) := fun _ _ _ _ _ _ us hl => match us, hl with | [_, _], _ => rfl
theorem bind_is_less : ∀ (kV doc pm : Value) (an : Option Addr) (cdv ct : Value) (us : List Value), us.length = (["line", "other"] : List Str).length → bindArgs (PySem.W.fnOf "is_less" "is_less" (defArgs (top 28)) (defBody (top 28)) (defScope (top 28)) .none kV doc pm an cdv ct) ⟨us, []⟩ = pure ((["line", "other"] : List Str).zip us) := fun _ _ _ _ _ _ us hl => match us, hl with | [_, _], _ => rfl
theorem bind_faces : ∀ (kV doc pm : Value) (an : Option Addr) (cdv ct : Value) (us : List Value), us.length = (["pattern", "rule"] : List Str).length → bindArgs (PySem.W.fnOf "faces" "faces" (defArgs (top 29)) (defBody (top 29)) (defScope (top 29)) .none kV doc pm an cdv ct) ⟨us, []⟩ = pure ((["pattern", "rule"] : List Str).zip us) := fun _ _ _ _ _ _ us hl => match us, hl with | [_, _], _ => rfl
theorem bind_is_allowed_patterns : ∀ (kV doc pm : Value) (an : Option Addr) (cdv ct : Value) (us : List Value), us.length = (["parts", "at"] : List Str).length → bindArgs (PySem.W.fnOf "is_allowed" "is_allowed" (defArgs (top 38)) (defBody (top 38)) (defScope (top 38)) .none kV doc pm an cdv ct) ⟨us, []⟩ = pure ((["parts", "at"] : List Str).zip us) := fun _ _ _ _ _ _ us hl => match us, hl with | [_, _], _ => rfl
theorem bind_is_allowed_rules : ∀ (kV doc pm : Value) (an : Option Addr) (cdv ct : Value) (us : List Value), us.length = (["field", "value"] : List Str).length → bindArgs (PySem.W.fnOf "is_allowed" "is_allowed" (defArgs (top 46)) (defBody (top 46)) (defScope (top 46)) .none kV doc pm an cdv ct) ⟨us, []⟩ = pure ((["field", "value"] : List Str).zip us) := fun _ _ _ _ _ _ us hl => match us, hl with | [_, _], _ => rfl
theorem bind_check_settings : ∀ (kV doc pm : Value) (an : Option Addr) (cdv ct : Value) (us : List Value), us.length = (["settings"] : List Str).length → bindArgs (PySem.W.fnOf "check_settings" "check_settings" (defArgs (top 48)) (defBody (top 48)) (defScope (top 48)) .none kV doc pm an cdv ct) ⟨us, []⟩ = pure ((["settings"] : List Str).zip us) := fun _ _ _ _ _ _ us hl => match us, hl with | [_], _ => rfl
theorem bind_law_pool : ∀ (kV doc pm : Value) (an : Option Addr) (cdv ct : Value) (us : List Value), us.length = (["_law_script", "_law_k"] : List Str).length → bindArgs (PySem.W.fnOf "_law_pool" "_law_pool" (defArgs (top 52)) (defBody (top 52)) (defScope (top 52)) .none kV doc pm an cdv ct) ⟨us, []⟩ = pure ((["_law_script", "_law_k"] : List Str).zip us) := fun _ _ _ _ _ _ us hl => match us, hl with | [_, _], _ => rfl
theorem bind_law_take : ∀ (kV doc pm : Value) (an : Option Addr) (cdv ct : Value) (us : List Value), us.length = (["_law_pool_here", "_law_many"] : List Str).length → bindArgs (PySem.W.fnOf "_law_take" "_law_take" (defArgs (top 53)) (defBody (top 53)) (defScope (top 53)) .none kV doc pm an cdv ct) ⟨us, []⟩ = pure ((["_law_pool_here", "_law_many"] : List Str).zip us) := fun _ _ _ _ _ _ us hl => match us, hl with | [_, _], _ => rfl
theorem bind_law_all_signs : ∀ (kV doc pm : Value) (an : Option Addr) (cdv ct : Value) (us : List Value), us.length = ([] : List Str).length → bindArgs (PySem.W.fnOf "_law_all_signs" "_law_all_signs" (defArgs (top 54)) (defBody (top 54)) (defScope (top 54)) .none kV doc pm an cdv ct) ⟨us, []⟩ = pure (([] : List Str).zip us) := fun _ _ _ _ _ _ us hl => match us, hl with | [], _ => rfl
theorem bind_law_text : ∀ (kV doc pm : Value) (an : Option Addr) (cdv ct : Value) (us : List Value), us.length = (["_law_pool_here"] : List Str).length → bindArgs (PySem.W.fnOf "_law_text" "_law_text" (defArgs (top 55)) (defBody (top 55)) (defScope (top 55)) .none kV doc pm an cdv ct) ⟨us, []⟩ = pure ((["_law_pool_here"] : List Str).zip us) := fun _ _ _ _ _ _ us hl => match us, hl with | [_], _ => rfl
theorem bind_law_parts : ∀ (kV doc pm : Value) (an : Option Addr) (cdv ct : Value) (us : List Value), us.length = (["_law_pool_here"] : List Str).length → bindArgs (PySem.W.fnOf "_law_parts" "_law_parts" (defArgs (top 56)) (defBody (top 56)) (defScope (top 56)) .none kV doc pm an cdv ct) ⟨us, []⟩ = pure ((["_law_pool_here"] : List Str).zip us) := fun _ _ _ _ _ _ us hl => match us, hl with | [_], _ => rfl
theorem bind_law_form : ∀ (kV doc pm : Value) (an : Option Addr) (cdv ct : Value) (us : List Value), us.length = (["_law_parts_here"] : List Str).length → bindArgs (PySem.W.fnOf "_law_form" "_law_form" (defArgs (top 57)) (defBody (top 57)) (defScope (top 57)) .none kV doc pm an cdv ct) ⟨us, []⟩ = pure ((["_law_parts_here"] : List Str).zip us) := fun _ _ _ _ _ _ us hl => match us, hl with | [_], _ => rfl
theorem bind_law_tree : ∀ (kV doc pm : Value) (an : Option Addr) (cdv ct : Value) (us : List Value), us.length = (["_law_pool_here"] : List Str).length → bindArgs (PySem.W.fnOf "_law_tree" "_law_tree" (defArgs (top 58)) (defBody (top 58)) (defScope (top 58)) .none kV doc pm an cdv ct) ⟨us, []⟩ = pure ((["_law_pool_here"] : List Str).zip us) := fun _ _ _ _ _ _ us hl => match us, hl with | [_], _ => rfl
theorem bind_law_built : ∀ (kV doc pm : Value) (an : Option Addr) (cdv ct : Value) (us : List Value), us.length = (["_law_tree_here"] : List Str).length → bindArgs (PySem.W.fnOf "_law_built" "_law_built" (defArgs (top 59)) (defBody (top 59)) (defScope (top 59)) .none kV doc pm an cdv ct) ⟨us, []⟩ = pure ((["_law_tree_here"] : List Str).zip us) := fun _ _ _ _ _ _ us hl => match us, hl with | [_], _ => rfl
theorem bind_law_rule : ∀ (kV doc pm : Value) (an : Option Addr) (cdv ct : Value) (us : List Value), us.length = (["_law_pool_here"] : List Str).length → bindArgs (PySem.W.fnOf "_law_rule" "_law_rule" (defArgs (top 60)) (defBody (top 60)) (defScope (top 60)) .none kV doc pm an cdv ct) ⟨us, []⟩ = pure ((["_law_pool_here"] : List Str).zip us) := fun _ _ _ _ _ _ us hl => match us, hl with | [_], _ => rfl
theorem bind_law_marks : ∀ (kV doc pm : Value) (an : Option Addr) (cdv ct : Value) (us : List Value), us.length = (["_law_trees"] : List Str).length → bindArgs (PySem.W.fnOf "_law_marks" "_law_marks" (defArgs (top 61)) (defBody (top 61)) (defScope (top 61)) .none kV doc pm an cdv ct) ⟨us, []⟩ = pure ((["_law_trees"] : List Str).zip us) := fun _ _ _ _ _ _ us hl => match us, hl with | [_], _ => rfl
theorem bind_law_ruled : ∀ (kV doc pm : Value) (an : Option Addr) (cdv ct : Value) (us : List Value), us.length = (["_law_rule_here"] : List Str).length → bindArgs (PySem.W.fnOf "_law_ruled" "_law_ruled" (defArgs (top 62)) (defBody (top 62)) (defScope (top 62)) .none kV doc pm an cdv ct) ⟨us, []⟩ = pure ((["_law_rule_here"] : List Str).zip us) := fun _ _ _ _ _ _ us hl => match us, hl with | [_], _ => rfl
theorem bind_law_least : ∀ (kV doc pm : Value) (an : Option Addr) (cdv ct : Value) (us : List Value), us.length = (["_law_rows", "_law_face"] : List Str).length → bindArgs (PySem.W.fnOf "_law_least" "_law_least" (defArgs (top 63)) (defBody (top 63)) (defScope (top 63)) .none kV doc pm an cdv ct) ⟨us, []⟩ = pure ((["_law_rows", "_law_face"] : List Str).zip us) := fun _ _ _ _ _ _ us hl => match us, hl with | [_, _], _ => rfl
theorem bind_law_right : ∀ (kV doc pm : Value) (an : Option Addr) (cdv ct : Value) (us : List Value), us.length = (["_law_one", "_law_other", "_law_rule_here"] : List Str).length → bindArgs (PySem.W.fnOf "_law_right" "_law_right" (defArgs (top 64)) (defBody (top 64)) (defScope (top 64)) .none kV doc pm an cdv ct) ⟨us, []⟩ = pure ((["_law_one", "_law_other", "_law_rule_here"] : List Str).zip us) := fun _ _ _ _ _ _ us hl => match us, hl with | [_, _, _], _ => rfl
theorem bind_law_short : ∀ (kV doc pm : Value) (an : Option Addr) (cdv ct : Value) (us : List Value), us.length = (["_law_trees"] : List Str).length → bindArgs (PySem.W.fnOf "_law_short" "_law_short" (defArgs (top 65)) (defBody (top 65)) (defScope (top 65)) .none kV doc pm an cdv ct) ⟨us, []⟩ = pure ((["_law_trees"] : List Str).zip us) := fun _ _ _ _ _ _ us hl => match us, hl with | [_], _ => rfl
theorem bind_law : ∀ (kV doc pm : Value) (an : Option Addr) (cdv ct : Value) (us : List Value), us.length = (["_law_script"] : List Str).length → bindArgs (PySem.W.fnOf "law" "law" (defArgs (top 66)) (defBody (top 66)) (defScope (top 66)) .none kV doc pm an cdv ct) ⟨us, []⟩ = pure ((["_law_script"] : List Str).zip us) := fun _ _ _ _ _ _ us hl => match us, hl with | [_], _ => rfl
theorem bind_iBoth : ∀ (kV doc pm : Value) (an : Option Addr) (cdv ct : Value) (us : List Value), us.length = (["self", "one", "other"] : List Str).length → bindArgs (PySem.W.fnOf "__init__" "Both.__init__" (defArgs (inClass (top 42) 0)) (defBody (inClass (top 42) 0)) (defScope (inClass (top 42) 0)) .none kV doc pm an cdv ct) ⟨us, []⟩ = pure ((["self", "one", "other"] : List Str).zip us) := fun _ _ _ _ _ _ us hl => match us, hl with | [_, _, _], _ => rfl
theorem bind_iEither : ∀ (kV doc pm : Value) (an : Option Addr) (cdv ct : Value) (us : List Value), us.length = (["self", "one", "other"] : List Str).length → bindArgs (PySem.W.fnOf "__init__" "Either.__init__" (defArgs (inClass (top 43) 0)) (defBody (inClass (top 43) 0)) (defScope (inClass (top 43) 0)) .none kV doc pm an cdv ct) ⟨us, []⟩ = pure ((["self", "one", "other"] : List Str).zip us) := fun _ _ _ _ _ _ us hl => match us, hl with | [_, _, _], _ => rfl
theorem bind_mParts : ∀ (kV doc pm : Value) (an : Option Addr) (cdv ct : Value) (us : List Value), us.length = (["self"] : List Str).length → bindArgs (PySem.W.fnOf "parts" "Form.parts" (defArgs (inClass (top 41) 5)) (defBody (inClass (top 41) 5)) (defScope (inClass (top 41) 5)) .none kV doc pm an cdv ct) ⟨us, []⟩ = pure ((["self"] : List Str).zip us) := fun _ _ _ _ _ _ us hl => match us, hl with | [_], _ => rfl
theorem bind_mForms : ∀ (kV doc pm : Value) (an : Option Addr) (cdv ct : Value) (us : List Value), us.length = (["self"] : List Str).length → bindArgs (PySem.W.fnOf "forms" "Form.forms" (defArgs (inClass (top 41) 6)) (defBody (inClass (top 41) 6)) (defScope (inClass (top 41) 6)) .none kV doc pm an cdv ct) ⟨us, []⟩ = pure ((["self"] : List Str).zip us) := fun _ _ _ _ _ _ us hl => match us, hl with | [_], _ => rfl
theorem bind_mHolds : ∀ (kV doc pm : Value) (an : Option Addr) (cdv ct : Value) (us : List Value), us.length = (["self", "truths"] : List Str).length → bindArgs (PySem.W.fnOf "holds" "Form.holds" (defArgs (inClass (top 41) 7)) (defBody (inClass (top 41) 7)) (defScope (inClass (top 41) 7)) .none kV doc pm an cdv ct) ⟨us, []⟩ = pure ((["self", "truths"] : List Str).zip us) := fun _ _ _ _ _ _ us hl => match us, hl with | [_, _], _ => rfl
theorem bind_bForms : ∀ (kV doc pm : Value) (an : Option Addr) (cdv ct : Value) (us : List Value), us.length = (["self"] : List Str).length → bindArgs (PySem.W.fnOf "forms" "Both.forms" (defArgs (inClass (top 42) 2)) (defBody (inClass (top 42) 2)) (defScope (inClass (top 42) 2)) .none kV doc pm an cdv ct) ⟨us, []⟩ = pure ((["self"] : List Str).zip us) := fun _ _ _ _ _ _ us hl => match us, hl with | [_], _ => rfl
theorem bind_bHolds : ∀ (kV doc pm : Value) (an : Option Addr) (cdv ct : Value) (us : List Value), us.length = (["self", "truths"] : List Str).length → bindArgs (PySem.W.fnOf "holds" "Both.holds" (defArgs (inClass (top 42) 3)) (defBody (inClass (top 42) 3)) (defScope (inClass (top 42) 3)) .none kV doc pm an cdv ct) ⟨us, []⟩ = pure ((["self", "truths"] : List Str).zip us) := fun _ _ _ _ _ _ us hl => match us, hl with | [_, _], _ => rfl
theorem bind_eForms : ∀ (kV doc pm : Value) (an : Option Addr) (cdv ct : Value) (us : List Value), us.length = (["self"] : List Str).length → bindArgs (PySem.W.fnOf "forms" "Either.forms" (defArgs (inClass (top 43) 2)) (defBody (inClass (top 43) 2)) (defScope (inClass (top 43) 2)) .none kV doc pm an cdv ct) ⟨us, []⟩ = pure ((["self"] : List Str).zip us) := fun _ _ _ _ _ _ us hl => match us, hl with | [_], _ => rfl
theorem bind_eHolds : ∀ (kV doc pm : Value) (an : Option Addr) (cdv ct : Value) (us : List Value), us.length = (["self", "truths"] : List Str).length → bindArgs (PySem.W.fnOf "holds" "Either.holds" (defArgs (inClass (top 43) 3)) (defBody (inClass (top 43) 3)) (defScope (inClass (top 43) 3)) .none kV doc pm an cdv ct) ⟨us, []⟩ = pure ((["self", "truths"] : List Str).zip us) := fun _ _ _ _ _ _ us hl => match us, hl with | [_, _], _ => rfl
theorem bind_mAnd : ∀ (kV doc pm : Value) (an : Option Addr) (cdv ct : Value) (us : List Value), us.length = (["self", "other"] : List Str).length → bindArgs (PySem.W.fnOf "__and__" "Pattern.__and__" (defArgs (inClass (top 40) 0)) (defBody (inClass (top 40) 0)) (defScope (inClass (top 40) 0)) .none kV doc pm an cdv ct) ⟨us, []⟩ = pure ((["self", "other"] : List Str).zip us) := fun _ _ _ _ _ _ us hl => match us, hl with | [_, _], _ => rfl
theorem bind_mOr : ∀ (kV doc pm : Value) (an : Option Addr) (cdv ct : Value) (us : List Value), us.length = (["self", "other"] : List Str).length → bindArgs (PySem.W.fnOf "__or__" "Pattern.__or__" (defArgs (inClass (top 40) 1)) (defBody (inClass (top 40) 1)) (defScope (inClass (top 40) 1)) .none kV doc pm an cdv ct) ⟨us, []⟩ = pure ((["self", "other"] : List Str).zip us) := fun _ _ _ _ _ _ us hl => match us, hl with | [_, _], _ => rfl
theorem bind_mContains : ∀ (kV doc pm : Value) (an : Option Addr) (cdv ct : Value) (us : List Value), us.length = (["self", "line"] : List Str).length → bindArgs (PySem.W.fnOf "__contains__" "Pattern.__contains__" (defArgs (inClass (top 40) 2)) (defBody (inClass (top 40) 2)) (defScope (inClass (top 40) 2)) .none kV doc pm an cdv ct) ⟨us, []⟩ = pure ((["self", "line"] : List Str).zip us) := fun _ _ _ _ _ _ us hl => match us, hl with | [_, _], _ => rfl
theorem bind_rBegins : ∀ (kV doc pm : Value) (an : Option Addr) (cdv ct : Value) (us : List Value), us.length = (["self"] : List Str).length → bindArgs (PySem.W.fnOf "begins" "Rule.begins" (defArgs (inClass (top 50) 10)) (defBody (inClass (top 50) 10)) (defScope (inClass (top 50) 10)) .none kV doc pm an cdv ct) ⟨us, []⟩ = pure ((["self"] : List Str).zip us) := fun _ _ _ _ _ _ us hl => match us, hl with | [_], _ => rfl
theorem bind_rEnds : ∀ (kV doc pm : Value) (an : Option Addr) (cdv ct : Value) (us : List Value), us.length = (["self"] : List Str).length → bindArgs (PySem.W.fnOf "ends" "Rule.ends" (defArgs (inClass (top 50) 11)) (defBody (inClass (top 50) 11)) (defScope (inClass (top 50) 11)) .none kV doc pm an cdv ct) ⟨us, []⟩ = pure ((["self"] : List Str).zip us) := fun _ _ _ _ _ _ us hl => match us, hl with | [_], _ => rfl
end K35
section
open PySem PySem.W PyProof.Rows
set_option maxHeartbeats 0
open_top head35 for PySem.Challenge.rw_gluedlines_k35_whole_faces_of_a_choice
end
open PySem PySem.W PyProof.Rows
set_option maxHeartbeats 0 in
theorem PySem.Challenge.cw_gluedlines_k35_whole_faces_of_a_choice_holds : PySem.Challenge.rw_gluedlines_k35_whole_faces_of_a_choice.Holds := by
  refine head35 ?_
  k_fill
  refine LamX.walk_ofTs (n := 63) (k := 9) (x := "_law_script") (CX := fun _ => L2.CX0) rfl (by decide) rfl ⟨rfl, by decide, by decide⟩ (fun w h Y => PySem.W.km_in_of Y) ?F (fun _ _ _ _ _ z => z)
  case F =>
    intro w mg fa h Y KX G hmg
    have tb := PySem.W.km_tabs_of Y
    replace hmg : mg "law" = some (.ref fa) := hmg
    clear Y
    obtain ⟨dIsLine⟩ : Nonempty (K35.Def (head35.heap_39 w.params) mg "is_line" "is_line" (K35.top 5) ["thing"]) := by
      refine' K35.def_mk KX G ?a ?l ?c ?k K35.bind_is_line
      (case a => k_is); (case l => k_is); (case c => k_is); (case k => k_is)
    obtain ⟨dCellsOf⟩ : Nonempty (K35.Def (head35.heap_39 w.params) mg "cells_of" "cells_of" (K35.top 11) ["parts"]) := by
      refine' K35.def_mk KX G ?a ?l ?c ?k K35.bind_cells_of
      (case a => k_is); (case l => k_is); (case c => k_is); (case k => k_is)
    obtain ⟨dTakes⟩ : Nonempty (K35.Def (head35.heap_39 w.params) mg "takes" "takes" (K35.top 12) ["cell", "sign"]) := by
      refine' K35.def_mk KX G ?a ?l ?c ?k K35.bind_takes
      (case a => k_is); (case l => k_is); (case c => k_is); (case k => k_is)
    obtain ⟨dClosed⟩ : Nonempty (K35.Def (head35.heap_39 w.params) mg "closed" "closed" (K35.top 13) ["cells", "positions"]) := by
      refine' K35.def_mk KX G ?a ?l ?c ?k K35.bind_closed
      (case a => k_is); (case l => k_is); (case c => k_is); (case k => k_is)
    obtain ⟨dStarted⟩ : Nonempty (K35.Def (head35.heap_39 w.params) mg "started" "started" (K35.top 14) ["cells"]) := by
      refine' K35.def_mk KX G ?a ?l ?c ?k K35.bind_started
      (case a => k_is); (case l => k_is); (case c => k_is); (case k => k_is)
    obtain ⟨dMoved⟩ : Nonempty (K35.Def (head35.heap_39 w.params) mg "moved" "moved" (K35.top 15) ["cells", "positions", "sign"]) := by
      refine' K35.def_mk KX G ?a ?l ?c ?k K35.bind_moved
      (case a => k_is); (case l => k_is); (case c => k_is); (case k => k_is)
    obtain ⟨dIsDone⟩ : Nonempty (K35.Def (head35.heap_39 w.params) mg "is_done" "is_done" (K35.top 16) ["cells", "positions"]) := by
      refine' K35.def_mk KX G ?a ?l ?c ?k K35.bind_is_done
      (case a => k_is); (case l => k_is); (case c => k_is); (case k => k_is)
    obtain ⟨dBegin⟩ : Nonempty (K35.Def (head35.heap_39 w.params) mg "begin" "begin" (K35.top 18) ["forms"]) := by
      refine' K35.def_mk KX G ?a ?l ?c ?k K35.bind_begin
      (case a => k_is); (case l => k_is); (case c => k_is); (case k => k_is)
    obtain ⟨dStepped⟩ : Nonempty (K35.Def (head35.heap_39 w.params) mg "stepped" "stepped" (K35.top 19) ["rows", "state", "sign"]) := by
      refine' K35.def_mk KX G ?a ?l ?c ?k K35.bind_stepped
      (case a => k_is); (case l => k_is); (case c => k_is); (case k => k_is)
    obtain ⟨dTruths⟩ : Nonempty (K35.Def (head35.heap_39 w.params) mg "truths" "truths" (K35.top 20) ["forms", "state"]) := by
      refine' K35.def_mk KX G ?a ?l ?c ?k K35.bind_truths
      (case a => k_is); (case l => k_is); (case c => k_is); (case k => k_is)
    obtain ⟨dKindOf⟩ : Nonempty (K35.Def (head35.heap_39 w.params) mg "kind_of" "kind_of" (K35.top 21) ["sign"]) := by
      refine' K35.def_mk KX G ?a ?l ?c ?k K35.bind_kind_of
      (case a => k_is); (case l => k_is); (case c => k_is); (case k => k_is)
    obtain ⟨dSignsFor⟩ : Nonempty (K35.Def (head35.heap_39 w.params) mg "signs_for" "signs_for" (K35.top 22) ["forms"]) := by
      refine' K35.def_mk KX G ?a ?l ?c ?k K35.bind_signs_for
      (case a => k_is); (case l => k_is); (case c => k_is); (case k => k_is)
    obtain ⟨dScanned⟩ : Nonempty (K35.Def (head35.heap_39 w.params) mg "scanned" "scanned" (K35.top 24) ["forms"]) := by
      refine' K35.def_mk KX G ?a ?l ?c ?k K35.bind_scanned
      (case a => k_is); (case l => k_is); (case c => k_is); (case k => k_is)
    obtain ⟨dLookOf⟩ : Nonempty (K35.Def (head35.heap_39 w.params) mg "look_of" "look_of" (K35.top 25) ["marks", "told"]) := by
      refine' K35.def_mk KX G ?a ?l ?c ?k K35.bind_look_of
      (case a => k_is); (case l => k_is); (case c => k_is); (case k => k_is)
    obtain ⟨dLooks⟩ : Nonempty (K35.Def (head35.heap_39 w.params) mg "looks" "looks" (K35.top 26) ["pattern", "marks"]) := by
      refine' K35.def_mk KX G ?a ?l ?c ?k K35.bind_looks
      (case a => k_is); (case l => k_is); (case c => k_is); (case k => k_is)
    obtain ⟨dIsLess⟩ : Nonempty (K35.Def (head35.heap_39 w.params) mg "is_less" "is_less" (K35.top 28) ["line", "other"]) := by
      refine' K35.def_mk KX G ?a ?l ?c ?k K35.bind_is_less
      (case a => k_is); (case l => k_is); (case c => k_is); (case k => k_is)
    obtain ⟨dFaces⟩ : Nonempty (K35.Def (head35.heap_39 w.params) mg "faces" "faces" (K35.top 29) ["pattern", "rule"]) := by
      refine' K35.def_mk KX G ?a ?l ?c ?k K35.bind_faces
      (case a => k_is); (case l => k_is); (case c => k_is); (case k => k_is)
    obtain ⟨dIsAllowedPatterns⟩ : Nonempty (K35.Def (head35.heap_39 w.params) mg "is_allowed_patterns" "is_allowed" (K35.top 38) ["parts", "at"]) := by
      refine' K35.def_mk KX G ?a ?l ?c ?k K35.bind_is_allowed_patterns
      (case a => k_is); (case l => k_is); (case c => k_is); (case k => k_is)
    obtain ⟨dIsAllowedRules⟩ : Nonempty (K35.Def (head35.heap_39 w.params) mg "is_allowed_rules" "is_allowed" (K35.top 46) ["field", "value"]) := by
      refine' K35.def_mk KX G ?a ?l ?c ?k K35.bind_is_allowed_rules
      (case a => k_is); (case l => k_is); (case c => k_is); (case k => k_is)
    obtain ⟨dCheckSettings⟩ : Nonempty (K35.Def (head35.heap_39 w.params) mg "check_settings" "check_settings" (K35.top 48) ["settings"]) := by
      refine' K35.def_mk KX G ?a ?l ?c ?k K35.bind_check_settings
      (case a => k_is); (case l => k_is); (case c => k_is); (case k => k_is)
    obtain ⟨dLawPool⟩ : Nonempty (K35.Def (head35.heap_39 w.params) mg "_law_pool" "_law_pool" (K35.top 52) ["_law_script", "_law_k"]) := by
      refine' K35.def_mk KX G ?a ?l ?c ?k K35.bind_law_pool
      (case a => k_is); (case l => k_is); (case c => k_is); (case k => k_is)
    obtain ⟨dLawTake⟩ : Nonempty (K35.Def (head35.heap_39 w.params) mg "_law_take" "_law_take" (K35.top 53) ["_law_pool_here", "_law_many"]) := by
      refine' K35.def_mk KX G ?a ?l ?c ?k K35.bind_law_take
      (case a => k_is); (case l => k_is); (case c => k_is); (case k => k_is)
    obtain ⟨dLawAllSigns⟩ : Nonempty (K35.Def (head35.heap_39 w.params) mg "_law_all_signs" "_law_all_signs" (K35.top 54) []) := by
      refine' K35.def_mk KX G ?a ?l ?c ?k K35.bind_law_all_signs
      (case a => k_is); (case l => k_is); (case c => k_is); (case k => k_is)
    obtain ⟨dLawText⟩ : Nonempty (K35.Def (head35.heap_39 w.params) mg "_law_text" "_law_text" (K35.top 55) ["_law_pool_here"]) := by
      refine' K35.def_mk KX G ?a ?l ?c ?k K35.bind_law_text
      (case a => k_is); (case l => k_is); (case c => k_is); (case k => k_is)
    obtain ⟨dLawParts⟩ : Nonempty (K35.Def (head35.heap_39 w.params) mg "_law_parts" "_law_parts" (K35.top 56) ["_law_pool_here"]) := by
      refine' K35.def_mk KX G ?a ?l ?c ?k K35.bind_law_parts
      (case a => k_is); (case l => k_is); (case c => k_is); (case k => k_is)
    obtain ⟨dLawForm⟩ : Nonempty (K35.Def (head35.heap_39 w.params) mg "_law_form" "_law_form" (K35.top 57) ["_law_parts_here"]) := by
      refine' K35.def_mk KX G ?a ?l ?c ?k K35.bind_law_form
      (case a => k_is); (case l => k_is); (case c => k_is); (case k => k_is)
    obtain ⟨dLawTree⟩ : Nonempty (K35.Def (head35.heap_39 w.params) mg "_law_tree" "_law_tree" (K35.top 58) ["_law_pool_here"]) := by
      refine' K35.def_mk KX G ?a ?l ?c ?k K35.bind_law_tree
      (case a => k_is); (case l => k_is); (case c => k_is); (case k => k_is)
    obtain ⟨dLawBuilt⟩ : Nonempty (K35.Def (head35.heap_39 w.params) mg "_law_built" "_law_built" (K35.top 59) ["_law_tree_here"]) := by
      refine' K35.def_mk KX G ?a ?l ?c ?k K35.bind_law_built
      (case a => k_is); (case l => k_is); (case c => k_is); (case k => k_is)
    obtain ⟨dLawRule⟩ : Nonempty (K35.Def (head35.heap_39 w.params) mg "_law_rule" "_law_rule" (K35.top 60) ["_law_pool_here"]) := by
      refine' K35.def_mk KX G ?a ?l ?c ?k K35.bind_law_rule
      (case a => k_is); (case l => k_is); (case c => k_is); (case k => k_is)
    obtain ⟨dLawMarks⟩ : Nonempty (K35.Def (head35.heap_39 w.params) mg "_law_marks" "_law_marks" (K35.top 61) ["_law_trees"]) := by
      refine' K35.def_mk KX G ?a ?l ?c ?k K35.bind_law_marks
      (case a => k_is); (case l => k_is); (case c => k_is); (case k => k_is)
    obtain ⟨dLawRuled⟩ : Nonempty (K35.Def (head35.heap_39 w.params) mg "_law_ruled" "_law_ruled" (K35.top 62) ["_law_rule_here"]) := by
      refine' K35.def_mk KX G ?a ?l ?c ?k K35.bind_law_ruled
      (case a => k_is); (case l => k_is); (case c => k_is); (case k => k_is)
    obtain ⟨dLawLeast, LC⟩ : ∃ D : K35.Def (head35.heap_39 w.params) mg "_law_least" "_law_least" (K35.top 63) ["_law_rows", "_law_face"], ∃ (oc : Value) (od : Option Addr) (kV doc pm : Value) (an : Option Addr) (ct : Value) (osl : Array (Option Value)), D.fd = PySem.W.fnOf "_law_least" "_law_least" (L2.defArgs (K35.top 63)) (L2.defBody (K35.top 63)) (L2.defScope (K35.top 63)) .none kV doc pm an (.ref 654) ct ∧ List.lookup D.f (head35.heap_39 w.params) = some ⟨oc, od, .func D.fd, osl⟩ ∧ PySem.W.codeIn (head35.heap_39 w.params) (.ref 654) "_law_least" = true := by
      refine' K35.def_mkC KX G ?a ?l ?c ?k K35.bind_law_least
      (case a => k_is); (case l => k_is); (case c => k_is); (case k => k_is)
    obtain ⟨dLawRight⟩ : Nonempty (K35.Def (head35.heap_39 w.params) mg "_law_right" "_law_right" (K35.top 64) ["_law_one", "_law_other", "_law_rule_here"]) := by
      refine' K35.def_mk KX G ?a ?l ?c ?k K35.bind_law_right
      (case a => k_is); (case l => k_is); (case c => k_is); (case k => k_is)
    obtain ⟨dLawShort⟩ : Nonempty (K35.Def (head35.heap_39 w.params) mg "_law_short" "_law_short" (K35.top 65) ["_law_trees"]) := by
      refine' K35.def_mk KX G ?a ?l ?c ?k K35.bind_law_short
      (case a => k_is); (case l => k_is); (case c => k_is); (case k => k_is)
    obtain ⟨dLaw⟩ : Nonempty (K35.Def (head35.heap_39 w.params) mg "law" "law" (K35.top 66) ["_law_script"]) := by
      refine' K35.def_mk KX G ?a ?l ?c ?k K35.bind_law
      (case a => k_is); (case l => k_is); (case c => k_is); (case k => k_is)
    obtain ⟨cForm, eForm⟩ : ∃ D : K35.ClsT (head35.heap_39 w.params) mg "Form", D.C = 299 := by
      refine' K35.cls_mk KX G ?a ?pg ?hd ?po ?sa ?mk ?kp ?ha ?hn ?ht ?hm
      (case a => k_is); (case pg => k_is); (case hd => k_is); (case po => k_is); (case sa => k_is); (case mk => k_is); (case kp => k_is); (case ha => k_is); (case hn => k_is); (case ht => k_is); (case hm => k_is)
    obtain ⟨cBoth, eBoth⟩ : ∃ D : K35.ClsT (head35.heap_39 w.params) mg "Both", D.C = 339 := by
      refine' K35.cls_mk KX G ?a ?pg ?hd ?po ?sa ?mk ?kp ?ha ?hn ?ht ?hm
      (case a => k_is); (case pg => k_is); (case hd => k_is); (case po => k_is); (case sa => k_is); (case mk => k_is); (case kp => k_is); (case ha => k_is); (case hn => k_is); (case ht => k_is); (case hm => k_is)
    obtain ⟨cEither, eEither⟩ : ∃ D : K35.ClsT (head35.heap_39 w.params) mg "Either", D.C = 379 := by
      refine' K35.cls_mk KX G ?a ?pg ?hd ?po ?sa ?mk ?kp ?ha ?hn ?ht ?hm
      (case a => k_is); (case pg => k_is); (case hd => k_is); (case po => k_is); (case sa => k_is); (case mk => k_is); (case kp => k_is); (case ha => k_is); (case hn => k_is); (case ht => k_is); (case hm => k_is)
    obtain ⟨cRule, eRule⟩ : ∃ D : K35.ClsT (head35.heap_39 w.params) mg "Rule", D.C = 573 := by
      refine' K35.cls_mk KX G ?a ?pg ?hd ?po ?sa ?mk ?kp ?ha ?hn ?ht ?hm
      (case a => k_is); (case pg => k_is); (case hd => k_is); (case po => k_is); (case sa => k_is); (case mk => k_is); (case kp => k_is); (case ha => k_is); (case hn => k_is); (case ht => k_is); (case hm => k_is)
    have nFormPieces : L2.NoAttr (head35.heap_39 w.params) cForm.C "pieces" := by
      rw [eForm]
      show PySem.W.findIn (head35.heap_39 w.params) (.ref 299) "pieces" = some none
      k_is
    have nBothLeft : L2.NoAttr (head35.heap_39 w.params) cBoth.C "left" := by
      rw [eBoth]
      show PySem.W.findIn (head35.heap_39 w.params) (.ref 339) "left" = some none
      k_is
    have nBothRight : L2.NoAttr (head35.heap_39 w.params) cBoth.C "right" := by
      rw [eBoth]
      show PySem.W.findIn (head35.heap_39 w.params) (.ref 339) "right" = some none
      k_is
    have nEitherLeft : L2.NoAttr (head35.heap_39 w.params) cEither.C "left" := by
      rw [eEither]
      show PySem.W.findIn (head35.heap_39 w.params) (.ref 379) "left" = some none
      k_is
    have nEitherRight : L2.NoAttr (head35.heap_39 w.params) cEither.C "right" := by
      rw [eEither]
      show PySem.W.findIn (head35.heap_39 w.params) (.ref 379) "right" = some none
      k_is
    have nRuleOpeners : L2.NoAttr (head35.heap_39 w.params) cRule.C "openers" := by
      rw [eRule]
      show PySem.W.findIn (head35.heap_39 w.params) (.ref 573) "openers" = some none
      k_is
    have nRuleClosers : L2.NoAttr (head35.heap_39 w.params) cRule.C "closers" := by
      rw [eRule]
      show PySem.W.findIn (head35.heap_39 w.params) (.ref 573) "closers" = some none
      k_is
    have nRuleSettings : L2.NoAttr (head35.heap_39 w.params) cRule.C "settings" := by
      rw [eRule]
      show PySem.W.findIn (head35.heap_39 w.params) (.ref 573) "settings" = some none
      k_is
    obtain ⟨iBoth⟩ : Nonempty (K35.Met (head35.heap_39 w.params) cBoth.C "__init__" "Both.__init__" (L2.inClass (K35.top 42) 0) ["self", "one", "other"]) := by
      rw [eBoth]
      refine' K35.met_mk ?a ?i ?l ?c ?k K35.bind_iBoth
      (case a => k_is); (case i => k_is); (case l => k_is); (case c => k_is); (case k => k_is)
    obtain ⟨iEither⟩ : Nonempty (K35.Met (head35.heap_39 w.params) cEither.C "__init__" "Either.__init__" (L2.inClass (K35.top 43) 0) ["self", "one", "other"]) := by
      rw [eEither]
      refine' K35.met_mk ?a ?i ?l ?c ?k K35.bind_iEither
      (case a => k_is); (case i => k_is); (case l => k_is); (case c => k_is); (case k => k_is)
    obtain ⟨mParts⟩ : Nonempty (K35.Met (head35.heap_39 w.params) cForm.C "parts" "Form.parts" (L2.inClass (K35.top 41) 5) ["self"]) := by
      rw [eForm]
      refine' K35.met_mk ?a ?i ?l ?c ?k K35.bind_mParts
      (case a => k_is); (case i => k_is); (case l => k_is); (case c => k_is); (case k => k_is)
    obtain ⟨mForms⟩ : Nonempty (K35.Met (head35.heap_39 w.params) cForm.C "forms" "Form.forms" (L2.inClass (K35.top 41) 6) ["self"]) := by
      rw [eForm]
      refine' K35.met_mk ?a ?i ?l ?c ?k K35.bind_mForms
      (case a => k_is); (case i => k_is); (case l => k_is); (case c => k_is); (case k => k_is)
    obtain ⟨mHolds⟩ : Nonempty (K35.Met (head35.heap_39 w.params) cForm.C "holds" "Form.holds" (L2.inClass (K35.top 41) 7) ["self", "truths"]) := by
      rw [eForm]
      refine' K35.met_mk ?a ?i ?l ?c ?k K35.bind_mHolds
      (case a => k_is); (case i => k_is); (case l => k_is); (case c => k_is); (case k => k_is)
    obtain ⟨bForms⟩ : Nonempty (K35.Met (head35.heap_39 w.params) cBoth.C "forms" "Both.forms" (L2.inClass (K35.top 42) 2) ["self"]) := by
      rw [eBoth]
      refine' K35.met_mk ?a ?i ?l ?c ?k K35.bind_bForms
      (case a => k_is); (case i => k_is); (case l => k_is); (case c => k_is); (case k => k_is)
    obtain ⟨bHolds⟩ : Nonempty (K35.Met (head35.heap_39 w.params) cBoth.C "holds" "Both.holds" (L2.inClass (K35.top 42) 3) ["self", "truths"]) := by
      rw [eBoth]
      refine' K35.met_mk ?a ?i ?l ?c ?k K35.bind_bHolds
      (case a => k_is); (case i => k_is); (case l => k_is); (case c => k_is); (case k => k_is)
    obtain ⟨eForms⟩ : Nonempty (K35.Met (head35.heap_39 w.params) cEither.C "forms" "Either.forms" (L2.inClass (K35.top 43) 2) ["self"]) := by
      rw [eEither]
      refine' K35.met_mk ?a ?i ?l ?c ?k K35.bind_eForms
      (case a => k_is); (case i => k_is); (case l => k_is); (case c => k_is); (case k => k_is)
    obtain ⟨eHolds⟩ : Nonempty (K35.Met (head35.heap_39 w.params) cEither.C "holds" "Either.holds" (L2.inClass (K35.top 43) 3) ["self", "truths"]) := by
      rw [eEither]
      refine' K35.met_mk ?a ?i ?l ?c ?k K35.bind_eHolds
      (case a => k_is); (case i => k_is); (case l => k_is); (case c => k_is); (case k => k_is)
    obtain ⟨mAnd⟩ : Nonempty (K35.Met (head35.heap_39 w.params) cForm.C "__and__" "Pattern.__and__" (L2.inClass (K35.top 40) 0) ["self", "other"]) := by
      rw [eForm]
      refine' K35.met_mk ?a ?i ?l ?c ?k K35.bind_mAnd
      (case a => k_is); (case i => k_is); (case l => k_is); (case c => k_is); (case k => k_is)
    obtain ⟨mOr⟩ : Nonempty (K35.Met (head35.heap_39 w.params) cForm.C "__or__" "Pattern.__or__" (L2.inClass (K35.top 40) 1) ["self", "other"]) := by
      rw [eForm]
      refine' K35.met_mk ?a ?i ?l ?c ?k K35.bind_mOr
      (case a => k_is); (case i => k_is); (case l => k_is); (case c => k_is); (case k => k_is)
    obtain ⟨mContains⟩ : Nonempty (K35.Met (head35.heap_39 w.params) cForm.C "__contains__" "Pattern.__contains__" (L2.inClass (K35.top 40) 2) ["self", "line"]) := by
      rw [eForm]
      refine' K35.met_mk ?a ?i ?l ?c ?k K35.bind_mContains
      (case a => k_is); (case i => k_is); (case l => k_is); (case c => k_is); (case k => k_is)
    obtain ⟨rBegins⟩ : Nonempty (K35.Met (head35.heap_39 w.params) cRule.C "begins" "Rule.begins" (L2.inClass (K35.top 50) 10) ["self"]) := by
      rw [eRule]
      refine' K35.met_mk ?a ?i ?l ?c ?k K35.bind_rBegins
      (case a => k_is); (case i => k_is); (case l => k_is); (case c => k_is); (case k => k_is)
    obtain ⟨rEnds⟩ : Nonempty (K35.Met (head35.heap_39 w.params) cRule.C "ends" "Rule.ends" (L2.inClass (K35.top 50) 11) ["self"]) := by
      rw [eRule]
      refine' K35.met_mk ?a ?i ?l ?c ?k K35.bind_rEnds
      (case a => k_is); (case i => k_is); (case l => k_is); (case c => k_is); (case k => k_is)
    obtain ⟨iForm⟩ : Nonempty (K35.Met0 (head35.heap_39 w.params) cForm.C "__init__" "Form.__init__" (L2.inClass (K35.top 41) 3)) := by
      rw [eForm]
      refine' K35.met0_mk ?a ?i ?l ?c ?k
      (case a => k_is); (case i => k_is); (case l => k_is); (case c => k_is); (case k => k_is)
    obtain ⟨iRule⟩ : Nonempty (K35.Met0 (head35.heap_39 w.params) cRule.C "__init__" "Rule.__init__" (L2.inClass (K35.top 50) 0)) := by
      rw [eRule]
      refine' K35.met0_mk ?a ?i ?l ?c ?k
      (case a => k_is); (case i => k_is); (case l => k_is); (case c => k_is); (case k => k_is)
    obtain ⟨p_free, kFREE, sFREE⟩ : ∃ a : Addr, mg "FREE_CELLS" = some (.ref a) ∧ ∀ H : L2.Hp, L2.SqT (head35.heap_39 w.params) H a ([K35.digS, K35.wordS, K35.anyS].map L2.V.str) := by
      refine' ⟨_, PySem.W.mg_of KX G (by k_is), K35.sqt_mk ?l ?s ?v⟩
      (case l => k_is)
      (case s => decide)
      (case v => exact .cons ⟨_, rfl⟩ (.cons ⟨_, rfl⟩ (.cons ⟨_, rfl⟩ .nil)))
    obtain ⟨p_fields, kFIELDS, sFIELDS⟩ : ∃ a : Addr, mg "FIELDS" = some (.ref a) ∧ ∀ H : L2.Hp, L2.SqT (head35.heap_39 w.params) H a ((["most", "alone", "tags", "quiet"] : List Str).map L2.V.str) := by
      refine' ⟨_, PySem.W.mg_of KX G (by k_is), K35.sqt_mk ?l ?s ?v⟩
      (case l => k_is)
      (case s => decide)
      (case v => exact .cons ⟨_, rfl⟩ (.cons ⟨_, rfl⟩ (.cons ⟨_, rfl⟩ (.cons ⟨_, rfl⟩ .nil))))
    have sfForm : PySem.W.selfFirst (head35.heap_39 w.params) cForm.C = true := by
      rw [eForm]
      k_is
    obtain ⟨pattern, kPattern, kitForm⟩ : ∃ a : Addr, mg "Pattern" = some (.ref a) ∧ PySem.W.kitOne (head35.heap_39 w.params) (.ref cForm.C) (.ref a) = some true := by
      rw [eForm]
      exact ⟨_, PySem.W.mg_of KX G (by k_is), by kernel_rfl⟩
    exact K35.law_at (c := 654) (t := 652) (tb 652 (List.mem_cons_self)) (by kernel_rfl) (PySem.W.codeHd_of_K KX (by kernel_rfl)) { dIsLine := dIsLine, dCellsOf := dCellsOf, dTakes := dTakes, dClosed := dClosed, dStarted := dStarted, dMoved := dMoved, dIsDone := dIsDone, dBegin := dBegin, dStepped := dStepped, dTruths := dTruths, dKindOf := dKindOf, dSignsFor := dSignsFor, dScanned := dScanned, dLookOf := dLookOf, dLooks := dLooks, dIsLess := dIsLess, dFaces := dFaces, dIsAllowedPatterns := dIsAllowedPatterns, dIsAllowedRules := dIsAllowedRules, dCheckSettings := dCheckSettings, dLawPool := dLawPool, dLawTake := dLawTake, dLawAllSigns := dLawAllSigns, dLawText := dLawText, dLawParts := dLawParts, dLawForm := dLawForm, dLawTree := dLawTree, dLawBuilt := dLawBuilt, dLawRule := dLawRule, dLawMarks := dLawMarks, dLawRuled := dLawRuled, dLawLeast := dLawLeast, dLawRight := dLawRight, dLawShort := dLawShort, cForm := cForm, cBoth := cBoth, cEither := cEither, cRule := cRule, nFormPieces := nFormPieces, nBothLeft := nBothLeft, nBothRight := nBothRight, nEitherLeft := nEitherLeft, nEitherRight := nEitherRight, nRuleOpeners := nRuleOpeners, nRuleClosers := nRuleClosers, nRuleSettings := nRuleSettings, iBoth := iBoth, iEither := iEither, mParts := mParts, mForms := mForms, mHolds := mHolds, bForms := bForms, bHolds := bHolds, eForms := eForms, eHolds := eHolds, mAnd := mAnd, mOr := mOr, mContains := mContains, rBegins := rBegins, rEnds := rEnds, iForm := iForm, iRule := iRule, zIsinstance := PySem.W.mg_none_of KX G (by k_is), zStr := PySem.W.mg_none_of KX G (by k_is), zList := PySem.W.mg_none_of KX G (by k_is), zRange := PySem.W.mg_none_of KX G (by k_is), zLen := PySem.W.mg_none_of KX G (by k_is), zTuple := PySem.W.mg_none_of KX G (by k_is), zEnumerate := PySem.W.mg_none_of KX G (by k_is), zSorted := PySem.W.mg_none_of KX G (by k_is), zAny := PySem.W.mg_none_of KX G (by k_is), zInt := PySem.W.mg_none_of KX G (by k_is), zBool := PySem.W.mg_none_of KX G (by k_is), zMax := PySem.W.mg_none_of KX G (by k_is), zMin := PySem.W.mg_none_of KX G (by k_is), kSIGNS := ⟨_, PySem.W.mg_of KX G (by k_is)⟩, kDIGITSIGNS := ⟨_, PySem.W.mg_of KX G (by k_is)⟩, kLETTERSIGNS := ⟨_, PySem.W.mg_of KX G (by k_is)⟩, kDIGITSCELL := ⟨_, PySem.W.mg_of KX G (by k_is)⟩, kWORDCELL := ⟨_, PySem.W.mg_of KX G (by k_is)⟩, kANYCELL := ⟨_, PySem.W.mg_of KX G (by k_is)⟩, kMOSTFORMS := ⟨_, PySem.W.mg_of KX G (by k_is)⟩, kMOSTPARTS := ⟨_, PySem.W.mg_of KX G (by k_is)⟩, kMOSTSIGNS := ⟨_, PySem.W.mg_of KX G (by k_is)⟩, free := p_free, kFREE := kFREE, sFREE := sFREE, fields := p_fields, kFIELDS := kFIELDS, sFIELDS := sFIELDS, neFB := (fun z => absurd ((eForm.symm.trans z).trans eBoth) (by decide)), neFE := (fun z => absurd ((eForm.symm.trans z).trans eEither) (by decide)), neBE := (fun z => absurd ((eBoth.symm.trans z).trans eEither) (by decide)), sfForm := sfForm, pattern := pattern, kPattern := kPattern, kitForm := kitForm } ⟨LC⟩ dLaw hmg
