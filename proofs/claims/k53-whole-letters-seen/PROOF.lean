import PyProof.Rows.All
import Wide.All
import OpenK.AllK
import Wide.FinOn
import HandS.ForMost
import HandS.Defaults
import HandS.Property
import HandS.IsInst
import HandS.Flow
import HandS.Star
import HandS.Walk
import HandS.OwnEq
import HandS.DictComp
import KE.GoesEnum
import KE.GoesMore
import HandS.Codes
import PySem.Challenge.RW_fullqueue_k53_whole_letters_that_are_see
set_option Elab.async false
set_option maxRecDepth 100000
section -- M
/-! Plain mathematics: rows, places, unseen puts, exchanges. No Python here. -/
namespace K53

inductive Mode where | old | new | str
  deriving DecidableEq

/-- one step on a row: none is a take, some a puts a -/
def stepRow {α : Type} (cap : Nat) (m : Mode) : Option (Nat × List α) → Option α → Option (Nat × List α)
  | none, _ => none
  | some (k, w), none => if k + w.length = 0 then none else if 0 < k then some (k - 1, w) else some (0, w.drop 1)
  | some (k, w), some a =>
    if k + w.length < cap then some (k, w ++ [a])
    else match m with
      | .old => if 0 < k then some (k - 1, w ++ [a]) else some (0, w.drop 1 ++ [a])
      | .new => some (k, w)
      | .str => none

abbrev Row := Option (Nat × List Nat)
def stp (c : Nat) : Option Nat := if c = 45 then none else some c
def rowOf (cap : Nat) (m : Mode) (s : List Nat) (n : Nat) : Row := (s.map stp).foldl (stepRow cap m) (some (n, []))
def rowsOf (cap : Nat) (m : Mode) (s : List Nat) : List Row := (List.range (cap + 1)).map (rowOf cap m s)

def mapRow {α β : Type} (f : α → β) : Option (Nat × List α) → Option (Nat × List β) := Option.map fun p => (p.1, p.2.map f)

theorem stepRow_map {α β : Type} (f : α → β) (cap : Nat) (m : Mode) (r : Option (Nat × List α)) (st : Option α) :
    stepRow cap m (mapRow f r) (st.map f) = mapRow f (stepRow cap m r st) := by
  cases r with
  | none => rfl
  | some p =>
    obtain ⟨k, w⟩ := p
    cases st with
    | none =>
      simp only [mapRow, stepRow, Option.map_some, Option.map_none, List.length_map]
      split
      · rfl
      · split
        · rfl
        · simp [List.map_drop]
    | some a =>
      simp only [mapRow, stepRow, Option.map_some, List.length_map]
      split
      · simp
      · cases m with
        | old =>
          dsimp only
          split
          · simp
          · simp [List.map_drop]
        | new => rfl
        | str => rfl
theorem foldl_map_row {α β : Type} (f : α → β) (cap : Nat) (m : Mode) (l : List (Option α)) : ∀ (r : Option (Nat × List α)),
    (l.map (Option.map f)).foldl (stepRow cap m) (mapRow f r) = mapRow f (l.foldl (stepRow cap m) r) := by
  induction l with
  | nil => intro r; rfl
  | cons a l ih => intro r; rw [List.map_cons, List.foldl_cons, List.foldl_cons, stepRow_map, ih]

/-- the steps by their places -/
def ist (s : List Nat) : List (Option Nat) := (List.range s.length).map fun i => if s.getD i 0 = 45 then none else some i
def irow (cap : Nat) (m : Mode) (s : List Nat) (n : Nat) : Option (Nat × List Nat) := (ist s).foldl (stepRow cap m) (some (n, []))
theorem ist_map (s : List Nat) : s.map stp = (ist s).map (Option.map fun i => s.getD i 0) := by
  apply List.ext_getElem
  · simp [ist]
  · intro i h1 h2
    have hi : i < s.length := by simpa using h1
    simp only [ist, List.getElem_map, List.getElem_range, stp]
    have e : s.getD i 0 = s[i] := by simp [List.getD, hi]
    rw [e]
    split <;> simp [hi]
theorem rowOf_irow (cap : Nat) (m : Mode) (s : List Nat) (n : Nat) : rowOf cap m s n = mapRow (fun i => s.getD i 0) (irow cap m s n) := by
  unfold rowOf irow
  rw [ist_map, ← foldl_map_row]
  rfl
/-- the takes stand at the same places -/
def Same2 (s t : List Nat) : Prop := s.length = t.length ∧ ∀ i, i < s.length → (s.getD i 0 = 45 ↔ t.getD i 0 = 45)
theorem Same2.ist {s t : List Nat} (h : Same2 s t) : ist s = ist t := by
  unfold K53.ist
  rw [← h.1]
  refine List.map_congr_left fun i hi => ?_
  have hi' : i < s.length := List.mem_range.mp hi
  have := h.2 i hi'
  by_cases c : s.getD i 0 = 45
  · rw [if_pos c, if_pos (this.mp c)]
  · rw [if_neg c, if_neg fun q => c (this.mpr q)]
theorem Same2.irow {s t : List Nat} (h : Same2 s t) (cap : Nat) (m : Mode) (n : Nat) : irow cap m s n = irow cap m t n := by
  unfold K53.irow
  rw [h.ist]
/-- what stands in a word has been put -/
theorem foldl_mem {α : Type} (cap : Nat) (m : Mode) (l : List (Option α)) : ∀ (r : Option (Nat × List α)) (k : Nat) (w : List α), l.foldl (stepRow cap m) r = some (k, w) →
    ∀ a ∈ w, some a ∈ l ∨ ∃ k0 w0, r = some (k0, w0) ∧ a ∈ w0 := by
  induction l with
  | nil => intro r k w h a ha; exact .inr ⟨k, w, h, ha⟩
  | cons x l ih =>
    intro r k w h a ha
    rw [List.foldl_cons] at h
    rcases ih _ _ _ h a ha with q | ⟨k0, w0, e, q⟩
    · exact .inl (List.mem_cons_of_mem _ q)
    · cases r with
      | none => exact nomatch e
      | some p =>
        obtain ⟨k1, w1⟩ := p
        cases x with
        | none =>
          simp only [stepRow] at e
          split at e
          · exact nomatch e
          · split at e
            · simp at e; exact .inr ⟨_, _, rfl, by rw [e.2]; exact q⟩
            · simp at e; exact .inr ⟨_, _, rfl, List.mem_of_mem_tail (by rw [e.2]; exact q)⟩
        | some b =>
          simp only [stepRow] at e
          split at e
          · simp at e
            rw [← e.2] at q
            rcases List.mem_append.mp q with z | z
            · exact .inr ⟨_, _, rfl, z⟩
            · rw [List.mem_singleton.mp z]; exact .inl List.mem_cons_self
          · cases m with
            | old =>
              dsimp only at e
              split at e
              · simp at e
                rw [← e.2] at q
                rcases List.mem_append.mp q with z | z
                · exact .inr ⟨_, _, rfl, z⟩
                · rw [List.mem_singleton.mp z]; exact .inl List.mem_cons_self
              · simp at e
                rw [← e.2] at q
                rcases List.mem_append.mp q with z | z
                · exact .inr ⟨_, _, rfl, List.mem_of_mem_tail z⟩
                · rw [List.mem_singleton.mp z]; exact .inl List.mem_cons_self
            | new => simp at e; exact .inr ⟨_, _, rfl, by rw [e.2]; exact q⟩
            | str => exact nomatch e
theorem irow_mem {cap : Nat} {m : Mode} {s : List Nat} {n k : Nat} {w : List Nat} (h : irow cap m s n = some (k, w)) {i : Nat} (hi : i ∈ w) : i < s.length ∧ s.getD i 0 ≠ 45 := by
  rcases foldl_mem cap m _ _ _ _ h i hi with q | ⟨k0, w0, e, q⟩
  · obtain ⟨j, hj, e⟩ := List.mem_map.mp q
    split at e
    · exact nomatch e
    · rename_i c
      have : j = i := by simpa using e
      subst this
      exact ⟨List.mem_range.mp hj, c⟩
  · simp at e
    rw [e.2] at q
    exact nomatch q

/-- the places left from a start length -/
def pl (cap : Nat) (m : Mode) (s : List Nat) (n : Nat) : List Nat := match irow cap m s n with
  | none => []
  | some (_, w) => w
def seenB (cap : Nat) (m : Mode) (s : List Nat) (i : Nat) : Bool := (List.range (cap + 1)).any fun n => (pl cap m s n).contains i
def unseen (cap : Nat) (m : Mode) (s : List Nat) : List Nat := (List.range s.length).filter fun i => decide (s.getD i 0 ≠ 45) && !seenB cap m s i
theorem seenB_iff {cap : Nat} {m : Mode} {s : List Nat} {i : Nat} : seenB cap m s i = true ↔ ∃ n, n ≤ cap ∧ i ∈ pl cap m s n := by
  unfold seenB
  rw [List.any_eq_true]
  constructor
  · rintro ⟨n, hn, h⟩
    exact ⟨n, by have := List.mem_range.mp hn; omega, by simpa using h⟩
  · rintro ⟨n, hn, h⟩
    exact ⟨n, List.mem_range.mpr (by omega), by simpa using h⟩
theorem mem_unseen {cap : Nat} {m : Mode} {s : List Nat} {i : Nat} : i ∈ unseen cap m s ↔ i < s.length ∧ s.getD i 0 ≠ 45 ∧ ¬ ∃ n, n ≤ cap ∧ i ∈ pl cap m s n := by
  unfold unseen
  rw [List.mem_filter, List.mem_range, Bool.and_eq_true, decide_eq_true_iff, Bool.not_eq_true', ← seenB_iff, Bool.not_eq_true]

/-- two texts whose takes stand at the same places have the same rows exactly if they agree at the seen places -/
theorem rows_eq_iff {cap : Nat} {m : Mode} {s t : List Nat} (h : Same2 s t) : rowsOf cap m s = rowsOf cap m t ↔ ∀ n, n ≤ cap → ∀ i ∈ pl cap m s n, s.getD i 0 = t.getD i 0 := by
  unfold rowsOf
  rw [List.map_inj_left]
  constructor
  · intro q n hn i hi
    have q := q n (List.mem_range.mpr (by omega))
    rw [rowOf_irow, rowOf_irow, ← h.irow] at q
    unfold pl at hi
    cases e : irow cap m s n with
    | none => rw [e] at hi; exact nomatch hi
    | some p =>
      rw [e] at hi q
      simp only [mapRow, Option.map_some, Option.some.injEq, Prod.mk.injEq, true_and] at q
      exact List.map_inj_left.mp q i hi
  · intro q n hn
    have q := q n (by have := List.mem_range.mp hn; omega)
    rw [rowOf_irow, rowOf_irow, ← h.irow]
    unfold pl at q
    cases e : irow cap m s n with
    | none => rfl
    | some p =>
      rw [e] at q
      simp only [mapRow, Option.map_some, Option.some.injEq, Prod.mk.injEq, true_and]
      exact List.map_inj_left.mpr q

/-- all unseen letters replaced -/
def repl (cap : Nat) (m : Mode) (s : List Nat) : List Nat := (List.range s.length).map fun i => if i ∈ unseen cap m s then 113 else s.getD i 0
theorem repl_getD {cap : Nat} {m : Mode} {s : List Nat} {i : Nat} (hi : i < s.length) : (repl cap m s).getD i 0 = if i ∈ unseen cap m s then 113 else s.getD i 0 := by
  unfold repl
  rw [List.getD, List.getElem?_map, List.getElem?_range hi] <;> rfl
theorem repl_same {cap : Nat} {m : Mode} {s : List Nat} : Same2 s (repl cap m s) := by
  refine ⟨by simp [repl], fun i hi => ?_⟩
  rw [repl_getD hi]
  split
  · rename_i h
    have := (mem_unseen.mp h).2.1
    constructor
    · intro q; exact absurd q this
    · intro q; exact nomatch q
  · exact Iff.rfl
theorem repl_rows (cap : Nat) (m : Mode) (s : List Nat) : rowsOf cap m (repl cap m s) = rowsOf cap m s := by
  refine ((rows_eq_iff repl_same).mpr fun n hn i hi => ?_).symm
  have hl : i < s.length := by
    unfold pl at hi
    cases e : irow cap m s n with
    | none => rw [e] at hi; exact nomatch hi
    | some p => rw [e] at hi; exact (irow_mem e hi).1
  rw [repl_getD hl, if_neg fun h => (mem_unseen.mp h).2.2 ⟨n, hn, hi⟩]

theorem set_getD {s : List Nat} {i j c : Nat} (hj : j < s.length) : (s.set i c).getD j 0 = if i = j then c else s.getD j 0 := by
  rw [List.getD, List.getElem?_set]
  split
  · rename_i e
    subst e
    rw [if_pos hj] <;> rfl
  · rfl
theorem set_same {s : List Nat} {i c : Nat} (hi : i < s.length) (hp : s.getD i 0 ≠ 45) (hc : c ≠ 45) : Same2 s (s.set i c) := by
  refine ⟨by simp, fun j hj => ?_⟩
  rw [set_getD hj]
  split
  · rename_i e
    subst e
    exact ⟨fun q => absurd q hp, fun q => absurd q hc⟩
  · exact Iff.rfl
/-- a replaced letter changes the rows exactly if it is seen -/
theorem set_rows {cap : Nat} {m : Mode} {s : List Nat} {i c : Nat} (hi : i < s.length) (hp : s.getD i 0 ≠ 45) (hc : c ≠ 45) (hd : s.getD i 0 ≠ c) :
    rowsOf cap m (s.set i c) = rowsOf cap m s ↔ i ∈ unseen cap m s := by
  rw [eq_comm, rows_eq_iff (set_same hi hp hc), mem_unseen]
  constructor
  · intro q
    refine ⟨hi, hp, ?_⟩
    rintro ⟨n, hn, hm⟩
    have z := q n hn i hm
    rw [set_getD hi, if_pos rfl] at z
    exact hd z
  · rintro ⟨_, _, q⟩ n hn j hj
    have hl : j < s.length := by
      unfold pl at hj
      cases e : irow cap m s n with
      | none => rw [e] at hj; exact nomatch hj
      | some p => rw [e] at hj; exact (irow_mem e hj).1
    rw [set_getD hl, if_neg]
    rintro rfl
    exact q ⟨n, hn, hj⟩

theorem unseen_sorted (cap : Nat) (m : Mode) (s : List Nat) : (unseen cap m s).Pairwise (· < ·) := (List.pairwise_lt_range).filter _

/-! ### mode oldest: the seen places are the last ones -/
def puts (s : List Nat) : List Nat := (List.range s.length).filter fun i => decide (s.getD i 0 ≠ 45)
theorem foldl_suffix {α : Type} (cap : Nat) (l : List (Option α)) : ∀ (r : Option (Nat × List α)) (k : Nat) (w pre : List α), (∀ k0 w0, r = some (k0, w0) → w0 <:+ pre) →
    l.foldl (stepRow cap .old) r = some (k, w) → w <:+ pre ++ l.filterMap id := by
  induction l with
  | nil => intro r k w pre h e; simpa using h k w e
  | cons x l ih =>
    intro r k w pre h e
    rw [List.foldl_cons] at e
    cases r with
    | none =>
      have : ∀ l : List (Option α), l.foldl (stepRow cap .old) none = none := by
        intro l
        induction l with
        | nil => rfl
        | cons a l ih => rw [List.foldl_cons]; exact ih
      rw [show stepRow cap .old (none : Option (Nat × List α)) x = none by rfl, this] at e
      exact nomatch e
    | some p =>
      obtain ⟨k1, w1⟩ := p
      have hw := h k1 w1 rfl
      cases x with
      | none =>
        have := ih _ k w pre (fun k0 w0 e0 => ?_) e
        · simpa using this
        · simp only [stepRow] at e0
          split at e0
          · exact nomatch e0
          · split at e0
            · simp at e0; rw [← e0.2]; exact hw
            · simp at e0; rw [← e0.2]; exact (List.tail_suffix w1).trans hw
      | some b =>
        have := ih _ k w (pre ++ [b]) (fun k0 w0 e0 => ?_) e
        · simpa using this
        · have app : ∀ u : List α, u <:+ pre → u ++ [b] <:+ pre ++ [b] := by
            rintro u ⟨t, rfl⟩
            exact ⟨t, by simp⟩
          simp only [stepRow] at e0
          split at e0
          · simp at e0; rw [← e0.2]; exact app _ hw
          · split at e0
            · simp at e0; rw [← e0.2]; exact app _ hw
            · simp at e0; rw [← e0.2]; exact app _ ((List.tail_suffix w1).trans hw)
theorem ist_puts (s : List Nat) : (ist s).filterMap id = puts s := by
  unfold ist puts
  rw [List.filterMap_map]
  generalize List.range s.length = l
  induction l with
  | nil => rfl
  | cons a l ih =>
    rw [List.filterMap_cons, List.filter_cons, ih]
    by_cases c : s.getD a 0 = 45
    · have c' : decide (s.getD a 0 ≠ 45) = false := by simpa using c
      rw [c']
      simp only [Function.comp, c, if_true, id]
      rfl
    · have c' : decide (s.getD a 0 ≠ 45) = true := by simpa using c
      rw [c']
      simp only [Function.comp, c, if_false, id]
      rfl
theorem pl_suffix {cap : Nat} {s : List Nat} {n : Nat} : pl cap .old s n <:+ puts s := by
  unfold pl
  cases e : irow cap .old s n with
  | none => exact List.nil_suffix
  | some p =>
    have := foldl_suffix cap (ist s) _ p.1 p.2 [] (fun k0 w0 e0 => by simp at e0; rw [e0.2]; exact List.nil_suffix) (show _ = some (p.1, p.2) from e)
    rw [List.nil_append, ist_puts] at this
    exact this
/-- the length of a row's word -/
def wlen : Row → Nat
  | none => 0
  | some (_, w) => w.length
def wmax : List Row → Nat
  | [] => 0
  | r :: l => max (wlen r) (wmax l)
theorem wlen_pl {cap : Nat} {m : Mode} {s : List Nat} {n : Nat} : wlen (rowOf cap m s n) = (pl cap m s n).length := by
  rw [rowOf_irow]
  unfold pl
  cases irow cap m s n with
  | none => rfl
  | some p => simp [mapRow, wlen]
theorem le_wmax : ∀ {l : List Row} {r : Row}, r ∈ l → wlen r ≤ wmax l
  | [], _, h => nomatch h
  | a :: l, r, h => by
    rcases List.mem_cons.mp h with e | h
    · subst e; exact Nat.le_max_left _ _
    · exact Nat.le_trans (le_wmax h) (Nat.le_max_right _ _)
theorem wmax_mem : ∀ {l : List Row}, wmax l = 0 ∨ ∃ r ∈ l, wlen r = wmax l
  | [] => .inl rfl
  | a :: l => by
    rcases Nat.le_total (wmax l) (wlen a) with h | h
    · exact .inr ⟨a, List.mem_cons_self, (Nat.max_eq_left h).symm⟩
    · have e : wmax (a :: l) = wmax l := Nat.max_eq_right h
      rw [e]
      rcases wmax_mem (l := l) with z | ⟨r, hr, z⟩
      · exact .inl z
      · exact .inr ⟨r, List.mem_cons_of_mem _ hr, z⟩
theorem puts_sorted (s : List Nat) : (puts s).Pairwise (· < ·) := (List.pairwise_lt_range).filter _
theorem wmax_le (cap : Nat) (s : List Nat) : wmax (rowsOf cap .old s) ≤ (puts s).length := by
  rcases wmax_mem (l := rowsOf cap .old s) with z | ⟨r, hr, z⟩
  · omega
  · obtain ⟨n, _, e⟩ := List.mem_map.mp hr
    rw [← z, ← e, wlen_pl]
    exact pl_suffix.length_le
theorem unseen_old (cap : Nat) (s : List Nat) : unseen cap .old s = (puts s).take ((puts s).length - wmax (rowsOf cap .old s)) := by
  -- the seen ones among the puts are the last wmax
  have hseen : ∀ i, i ∈ puts s → (seenB cap .old s i = true ↔ i ∈ (puts s).drop ((puts s).length - wmax (rowsOf cap .old s))) := by
    intro i _
    rw [seenB_iff]
    constructor
    · rintro ⟨n, hn, hi⟩
      obtain ⟨t, ht⟩ := (pl_suffix : pl cap .old s n <:+ puts s)
      have hle : (pl cap .old s n).length ≤ wmax (rowsOf cap .old s) := by
        rw [← wlen_pl]
        exact le_wmax (List.mem_map.mpr ⟨n, List.mem_range.mpr (by omega), rfl⟩)
      have hlen : t.length + (pl cap .old s n).length = (puts s).length := by rw [← ht, List.length_append]
      have e : (puts s).drop t.length = pl cap .old s n := by rw [← ht]; simp
      rw [← e] at hi
      have e2 : (puts s).drop t.length = ((puts s).drop ((puts s).length - wmax (rowsOf cap .old s))).drop (t.length - ((puts s).length - wmax (rowsOf cap .old s))) := by
        rw [List.drop_drop]
        congr 1
        omega
      rw [e2] at hi
      exact List.mem_of_mem_drop hi
    · intro hi
      rcases wmax_mem (l := rowsOf cap .old s) with z | ⟨r, hr, z⟩
      · rw [z, Nat.sub_zero, List.drop_length] at hi
        exact nomatch hi
      · obtain ⟨n, hn, e⟩ := List.mem_map.mp hr
        refine ⟨n, by have := List.mem_range.mp hn; omega, ?_⟩
        rw [← e, wlen_pl] at z
        obtain ⟨t, ht⟩ := (pl_suffix : pl cap .old s n <:+ puts s)
        have hlen : t.length + (pl cap .old s n).length = (puts s).length := by rw [← ht, List.length_append]
        have e3 : (puts s).drop ((puts s).length - wmax (rowsOf cap .old s)) = pl cap .old s n := by
          rw [← z, ← hlen, Nat.add_sub_cancel, ← ht]
          simp
        rw [← e3]
        exact hi
  have e1 : unseen cap .old s = (puts s).filter fun i => !seenB cap .old s i := by
    unfold unseen puts
    rw [List.filter_filter]
    refine List.filter_congr fun i _ => ?_
    rw [Bool.and_comm]
  rw [e1]
  have nd : (puts s).Pairwise (· < ·) := puts_sorted s
  generalize hp : puts s = p at *
  generalize (p.length - wmax (rowsOf cap .old s)) = k at *
  have split : p = p.take k ++ p.drop k := (List.take_append_drop k p).symm
  conv => lhs; rw [split]
  rw [List.filter_append]
  have h1 : (p.take k).filter (fun i => !seenB cap .old s i) = p.take k := by
    refine List.filter_eq_self.mpr fun i hi => ?_
    have hin : i ∈ p := List.mem_of_mem_take hi
    rw [Bool.not_eq_true', ← Bool.not_eq_true, hseen i hin]
    intro hd
    have := split ▸ nd
    rw [List.pairwise_append] at this
    exact absurd (this.2.2 i hi i hd) (Nat.lt_irrefl _)
  have h2 : (p.drop k).filter (fun i => !seenB cap .old s i) = [] := by
    refine List.filter_eq_nil_iff.mpr fun i hi => ?_
    rw [(hseen i (List.mem_of_mem_drop hi)).mpr hi]
    decide
  rw [h1, h2, List.append_nil]

/-! ### exchanges -/
def exch (s : List Nat) (i : Nat) : List Nat := s.take i ++ [s.getD (i + 1) 0] ++ [s.getD i 0] ++ s.drop (i + 2)
def xables (cap : Nat) (m : Mode) (s : List Nat) : List Nat := (List.range (s.length - 1)).filter fun i => decide (s.getD i 0 = s.getD (i + 1) 0) || decide (rowsOf cap m (exch s i) = rowsOf cap m s)
theorem exch_form {s : List Nat} {i : Nat} (hi : i + 1 < s.length) : ∃ a b c d, s = a ++ [b] ++ [c] ++ d ∧ a.length = i ∧ s.getD i 0 = b ∧ s.getD (i + 1) 0 = c ∧ exch s i = a ++ [c] ++ [b] ++ d := by
  have e : s = s.take i ++ [s[i]] ++ [s[i + 1]] ++ s.drop (i + 2) := by
    have h1 : s = s.take i ++ s.drop i := (List.take_append_drop i s).symm
    have h2 : s.drop i = s[i] :: s.drop (i + 1) := List.drop_eq_getElem_cons (by omega)
    have h3 : s.drop (i + 1) = s[i + 1] :: s.drop (i + 2) := List.drop_eq_getElem_cons hi
    conv => lhs; rw [h1, h2, h3]
    simp
  have g1 : s.getD i 0 = s[i] := by simp [List.getD, show i < s.length by omega]
  have g2 : s.getD (i + 1) 0 = s[i + 1] := by simp [List.getD, hi]
  refine ⟨s.take i, s[i], s[i + 1], s.drop (i + 2), e, by simp; omega, g1, g2, ?_⟩
  unfold exch
  rw [g1, g2]
theorem exch_len {s : List Nat} {i : Nat} (hi : i + 1 < s.length) : (exch s i).length = s.length := by
  obtain ⟨a, b, c, d, e, ha, _, _, e2⟩ := exch_form hi
  rw [e2, e]; simp
theorem exch_mem {s : List Nat} {i : Nat} (hi : i + 1 < s.length) {x : Nat} : x ∈ exch s i ↔ x ∈ s := by
  obtain ⟨a, b, c, d, e, ha, _, _, e2⟩ := exch_form hi
  rw [e2, e]
  simp only [List.mem_append, List.mem_singleton]
  constructor
  · rintro (((h | h) | h) | h) <;> simp [h]
  · rintro (((h | h) | h) | h) <;> simp [h]
theorem exch_exch {s : List Nat} {i : Nat} (hi : i + 1 < s.length) : exch (exch s i) i = s := by
  obtain ⟨a, b, c, d, e, ha, _, _, e2⟩ := exch_form hi
  have hi2 : i + 1 < (exch s i).length := by rw [exch_len hi]; exact hi
  obtain ⟨a', b', c', d', e', ha', _, _, e2'⟩ := exch_form hi2
  rw [e2']
  rw [e2] at e'
  have l : a.length = a'.length := ha.trans ha'.symm
  simp only [List.append_assoc, List.singleton_append] at e'
  have := List.append_inj e' l
  obtain ⟨h1, h2⟩ := this
  simp only [List.cons_append, List.nil_append, List.cons.injEq] at h2
  rw [e, ← h1, ← h2.1, ← h2.2.1, ← h2.2.2]
theorem exch_same {s : List Nat} {i : Nat} (hi : i + 1 < s.length) (h : s.getD i 0 = s.getD (i + 1) 0) : exch s i = s := by
  obtain ⟨a, b, c, d, e, ha, hb, hc, e2⟩ := exch_form hi
  rw [e2]
  rw [hb, hc] at h
  rw [h] at e ⊢
  exact e.symm
theorem mem_xables {cap : Nat} {m : Mode} {s : List Nat} {i : Nat} : i ∈ xables cap m s ↔ i + 1 < s.length ∧ rowsOf cap m (exch s i) = rowsOf cap m s := by
  unfold xables
  rw [List.mem_filter, List.mem_range, Bool.or_eq_true, decide_eq_true_iff, decide_eq_true_iff]
  constructor
  · rintro ⟨h, q⟩
    have hi : i + 1 < s.length := by omega
    refine ⟨hi, ?_⟩
    rcases q with q | q
    · rw [exch_same hi q]
    · exact q
  · rintro ⟨h, q⟩
    exact ⟨by omega, .inr q⟩
theorem xables_back {cap : Nat} {m : Mode} {s : List Nat} {i : Nat} (h : i ∈ xables cap m s) : i ∈ xables cap m (exch s i) := by
  obtain ⟨hi, q⟩ := mem_xables.mp h
  refine mem_xables.mpr ⟨by rw [exch_len hi]; exact hi, ?_⟩
  rw [exch_exch hi, q]
end K53
end -- M
section -- R
set_option linter.all false
set_option maxRecDepth 100000
set_option maxHeartbeats 4000000
/-! Rules of our own over the hand layer. -/
namespace K53
open PySem PySem.Spec PyProof.Rows L2

/-! ### a def that may be called by its name -/
structure Cal (P : Program) (w : World) (K : PySem.W.Frag) (mg : Str → Option Value) (base : Heap) (k : Nat) (x : Str) (sp : Sp) (dvs : List V) : Prop where
  ex : ∃ (f : Addr) (fd : FuncData) (ps : List Str) (ds : List Value),
    FnOk P w K mg base CX0 k f fd ps sp ∧ mg x = some (.ref f) ∧
    PySem.W.keepIn K (.ref f) = true ∧ Binds K fd ps ds ∧ Vals dvs ds
section
variable {X : Cx} {k j : Nat} {x : Str} {sp : Sp} {dvs : List V} {p pos : Pos} {e : Expr} {es : List Expr} {t : TA}
theorem pe_c (c : Cal X.prog X.w X.K X.mg X.base k x sp dvs) (hr : Room j X.A) (hk : k ≤ j)
    (hg : Gl X x) (ha : PA X (e :: es) t)
    (hdb : (x == ("__debug__" : Str)) = false := by decide)
    (he : starEach (e :: es) X.env = (false, eval e X.env) :: starEach es X.env := by rfl)
    (hpl : (backTo pos (starEach es X.env)).any (·.1) = false := by rfl) :
    PE X (.Call (.Name x p) (e :: es) [] pos) (tCall sp dvs E0 t) := by
  obtain ⟨f, fd, ps, ds, F, hm, kp, b, d⟩ := c.ex
  exact pe_call F (hr.mono hk) hg hm kp b d pass0 ha hdb he hpl
end

/-! ### a text times a number -/
theorem op_mulTxt {X : Cx} : OpR X (binaryOp .Mult) (fun x y H Q => ∃ z k, x = .str z ∧ y = .int k ∧
    z.length ≤ 1 ∧ 0 ≤ k ∧ k ≤ 1000 ∧ Q (.str (Txt.mul z k)) H) := by
  intro pins s σ H x y v u Q I rx ry h
  obtain ⟨z, k, rfl, rfl, hz, h0, h1, q⟩ := h
  obtain ⟨t, rfl⟩ := rx
  obtain ⟨t', rfl⟩ := ry
  have ok : MulOk z k := mulOk_of 1 1000 hz (by omega) (by omega) (by omega) (by omega)
  exact SB.mul ok fun t'' tk => ⟨.str _, H, I.tok tk, ⟨_, rfl⟩, q⟩
theorem reps_flat (c : Nat) : ∀ (k : Nat) (acc : Array Nat),
    (List.replicate k #[c]).foldl (· ++ ·) acc = acc ++ (List.replicate k c).toArray := by
  intro k
  induction k with
  | zero => intro acc; simp
  | succ k ih =>
    intro acc
    rw [List.replicate_succ, List.foldl_cons, ih, List.replicate_succ]
    apply Array.ext'
    simp
theorem mul_one_sign (c : Nat) (k : Int) (h : 0 ≤ k) :
    Txt.mul ⟨#[c]⟩ k = (⟨(List.replicate k.toNat c).toArray⟩ : Str) := by
  unfold Txt.mul
  split
  · have e : k.toNat = 0 := by omega
    rw [e]
    rfl
  · split
    · rename_i h1 h2
      have e : k = 1 := by
        rw [Bool.or_eq_true] at h2
        rcases h2 with z | z
        · exact eq_of_beq z
        · exact nomatch (show (false : Bool) = true from z)
      subst e
      rfl
    · rw [reps_flat]
      simp

/-! ### own ==, in, [] of an instance, by the def of its class -/
section
variable {X : Cx} {pins : List (Addr × Obj)} {σ : L2.St} {H : Hp} {s : Shared}
  {C g : Addr} {n : Nat} {sp : Sp} {fd : FuncData} {ps : List Str}
/-- the method at g runs somewhere below X's own code -/
theorem run_below {A : Around} {Q : VK} {us : List Value} {ws : List V}
    (F : FnOk X.prog X.w X.K X.mg X.base CX0 n g fd ps sp) (b : Binds X.K fd ps [])
    (hr : Room n A) (e0 : Env0 X.prog X.w X.K X.mg X.base A X.stack s H)
    (I : Inv X pins σ H s) (r : Vals ws us) (h : sp ws H Q E0) :
    wpAny (model X.prog X.w) A (call (.ref g) us) (EP X pins σ Q) X.xe s := by
  have hl : (us ++ []).length = ps.length := by
    rw [List.append_nil, ← r.length]
    exact F.len _ _ _ _ h
  have hb := b s us I.kIn hl
  rw [List.append_nil] at hb
  refine wpAny_call (codeAny_mono (F.run A X.stack s H ⟨us, []⟩ us ws Q E0 hr e0 hb r h) fun r s' hq => ?_)
  cases r with
  | error e => exact hq.elim
  | ok fl =>
    cases fl with
    | ret u => exact I.after hq
    | next => exact False.elim hq
    | brk => exact False.elim hq
    | cont => exact False.elim hq
/-- x == y, both instances of the class at C -/
def rOwnEq (C : Addr) (sp : Sp) : R2 := fun x y H Q => ∃ a dx fs b dy gs,
  x = .ref a ∧ y = .ref b ∧ H a = some (.ins C dx fs) ∧ H b = some (.ins C dy gs) ∧
  sp [x, y] H (fun z H' => ∃ k, z = .bl k ∧ Q z H') E0
theorem op_ownEq (hs : PySem.W.findIn X.K (.ref C) "__eq__" = some (some (.ref g)))
    (hf : PySem.W.isFn X.K (.ref g) = true) (hn : PySem.W.notFirst X.K C (.ref C) = true)
    (F : FnOk X.prog X.w X.K X.mg X.base CX0 n g fd ps sp) (b : Binds X.K fd ps []) (hr : Room n X.A) :
    OpR X (compareOp .Eq) (rOwnEq C sp) := by
  intro pins s σ H x y v u Q I rx ry h
  obtain ⟨a, dx, fs, c, dy, gs, rfl, rfl, ha, hc, q⟩ := h
  cases (show v = Value.ref a from rx)
  cases (show u = Value.ref c from ry)
  obtain ⟨mA, J, _⟩ := ins_get I.hok ha
  obtain ⟨mB, J', _⟩ := ins_get I.hok hc
  obtain ⟨od, J, _⟩ := J.look
  obtain ⟨od', J', _⟩ := J'.look
  obtain ⟨m, hF⟩ := I.fr
  show wpAny (model X.prog X.w) X.A (richCompare .Eq (.ref a) (.ref c)) _ _ _
  refine PySem.W.cmp_K (op := .Eq) (tb := .ref C) hr.units0 hF I.ok.mod.kin J J'.type hn hs hf ?_
  refine thn (run_below (us := [.ref a, .ref c]) (ws := [.ref a, .ref c]) F b hr I.env0 I (.cons rfl (.cons rfl .nil)) q) fun w s' z => ?_
  obtain ⟨z', H', I', rz, k, rfl, qz⟩ := z
  cases rz
  exact ⟨.bl k, H', I', rfl, qz⟩
/-- x in o, o an instance of the class at C -/
def rOwnIn (C : Addr) (sp : Sp) : R2 := fun x y H Q => ∃ a dx fs,
  y = .ref a ∧ H a = some (.ins C dx fs) ∧ sp [y, x] H (fun z H' => ∃ k, z = .bl k ∧ Q z H') E0
theorem op_ownIn (hs : PySem.W.findIn X.K (.ref C) "__contains__" = some (some (.ref g)))
    (hf : PySem.W.isFn X.K (.ref g) = true)
    (F : FnOk X.prog X.w X.K X.mg X.base CX0 n g fd ps sp) (b : Binds X.K fd ps []) (hr : Room n X.A) :
    OpR X (compareOp .In) (rOwnIn C sp) := by
  intro pins s σ H x y v u Q I rx ry h
  obtain ⟨a, dx, fs, rfl, ha, q⟩ := h
  cases (show u = Value.ref a from ry)
  obtain ⟨mA, J, _⟩ := ins_get I.hok ha
  obtain ⟨od, J, _⟩ := J.look
  obtain ⟨m, hF⟩ := I.fr
  refine PySem.W.in_K hF I.ok.mod.kin J hs hf ?_
  refine thn (run_below (us := [.ref a, v]) (ws := [.ref a, x]) F b hr I.env0 I (.cons rfl (.cons rx .nil)) q) fun w s' z => ?_
  obtain ⟨z', H', I', rz, k, rfl, qz⟩ := z
  cases rz
  exact wpAny_truthy_bool ⟨.bl k, H', I', rfl, qz⟩
/-- o[i], o an instance of the class at C -/
def rOwnIx (C : Addr) (sp : Sp) : R2 := fun x y H Q => ∃ a dx fs,
  x = .ref a ∧ H a = some (.ins C dx fs) ∧ sp [x, y] H Q E0
theorem ix_own (hs : PySem.W.findIn X.K (.ref C) "__getitem__" = some (some (.ref g)))
    (hi : PySem.W.fnIn X.K g = true) (hf : PySem.W.isFn X.K (.ref g) = true)
    (F : FnOk X.prog X.w X.K X.mg X.base CX0 n g fd ps sp) (b : Binds X.K fd ps []) (hr : Room (n + 1) X.A)
    {e i : Expr} {te ti : TE} {pos : Pos} (he : PE X e te) (hx : PE X i ti)
    (hsl : ∀ o j, subscripted i true o j = runValue (.builtin "lifetime.subscript" ⟨[o, j], []⟩) := by
      intros; with_unfolding_all rfl) :
    PE X (.Subscript e i pos) (tOp (rOwnIx C sp) te ti) := by
  refine ⟨fun pins s σ H Q I h => ?_⟩
  refine Subscript_ (binT he hx I h fun v u s2 x y H2 I2 rx ry q => ?_)
  obtain ⟨a, dx, fs, rfl, ha, q⟩ := q
  cases (show v = Value.ref a from rx)
  obtain ⟨mA, J, _⟩ := ins_get I2.hok ha
  obtain ⟨od, J, _⟩ := J.look
  obtain ⟨m, hF⟩ := I2.fr
  refine PySem.W.sub_K hF I2.ok.mod.kin J hs hi hf ?_ (hsl _ _)
  exact run_below (us := [.ref a, u]) (ws := [.ref a, y]) F b hr.in1 I2.env0.in1 I2 (.cons rfl (.cons ry .nil)) q
end
end K53
end -- R
section -- E
set_option linter.all false
set_option maxRecDepth 100000
set_option maxHeartbeats 4000000
/-! enumerate over a text and over a tuple. -/
namespace K53
open PySem PySem.Spec PyProof.Rows L2
/-- a new enumerate's record -/
abbrev enumObj (i : Addr) : Obj :=
  { cls := .type "enumerate", data := .fields #[.none, .bool false, .ref i, rawInt 0, .none, .none] }
/-- enumerate(v): its two new cells, whatever v begins -/
theorem meets_enumB {v : Value} {o : Obj} {Z : Heap → Prop} (B : Begins v o Z) :
    Meets (Builtin.«enumerate.__new__» ⟨[.type "enumerate", v], []⟩) (fun _ R s => Z s.heap ∧
      R (.ok (.ret (.ref (s.heap.push o).objs.size)))
        { s with heap := ((s.heap.push o).push (enumObj s.heap.objs.size)) }) := by
  refine .of_wp fun prog w A R s h => ?_
  obtain ⟨hp, g, d, tk, os⟩ := s
  obtain ⟨hz, h⟩ := h
  have hsub := sub_enumerate
  have hit : ∀ {A : Around} {Q : Value → Shared → Prop} {E : Value → Shared → Prop}, Q (.ref hp.objs.size) ⟨hp.push o, g, d, tk, os⟩ →
      wpAny (model prog w) A (pyIter v) Q E ⟨hp, g, d, tk, os⟩ :=
    fun {A Q E} q => B.iter prog w A E ⟨hp, g, d, tk, os⟩ Q hz q
  wp_walk
  refine wpAny_stack_any fun st => wpAny_pure ?_
  split
  · rename_i c _ _ _ _ _
    cases (c == Value.type "enumerate")
    all_goals
      wp_walk using hit
      exact ⟨_, rfl, h⟩
  · wp_walk using hit
    exact ⟨_, rfl, h⟩
theorem call_enumB {prog : Program} {w : World} {A : Around} {E : Value → Shared → Prop} {s : Shared}
    {v : Value} {o : Obj} {Z : Heap → Prop} {Q : Value → Shared → Prop} (B : Begins v o Z) (hz : Z s.heap)
    (h : ∀ h', IsEnum h' (s.heap.objs.size + 1) s.heap.objs.size 0 .none → h'.get? s.heap.objs.size = some o →
      (∀ b u, s.heap.get? b = some u → h'.get? b = some u) → Q (.ref (s.heap.objs.size + 1)) { s with heap := h' }) :
    wpAny (model prog w) A (call (.type "enumerate") [v]) Q E s := by
  refine callType_new F.called_enumerate (by decide) (F.typeCall_enumerate_1 _) (F.newCall_enumerate_1 _)
    (fun obj => F.args_object_init_2 obj _) F.entry_enumerate_new (meets_enumB B) ⟨hz, ?_⟩
  have z1 : (s.heap.push o).objs.size = s.heap.objs.size + 1 := Heap.size_push ..
  show _ ∧ _
  rw [z1]
  have he : IsEnum ((s.heap.push o).push (enumObj s.heap.objs.size))
      (s.heap.objs.size + 1) s.heap.objs.size 0 .none := by
    have q := Heap.get?_push_size (s.heap.push o) (o := enumObj s.heap.objs.size) rfl
    rw [z1] at q
    exact q
  exact ⟨⟨_, he, rfl⟩, h _ he (Heap.get?_push_of_some _ (Heap.get?_push_size _ B.free))
    fun b u x => Heap.get?_push_of_some _ (Heap.get?_push_of_some _ x)⟩

/-- one draw: D at the state at hand -/
theorem enum_draw {X : Cx} {i : Nat} {pins : List (Addr × Obj)} {s : Shared} {σ : L2.St} {H : Hp} {E : Value → Shared → Prop}
    {e it : Addr} {fp : List Addr} {n : Nat} {Pt : Nat → Value → Prop} {Sx : Nat → Heap → Prop} {old : Value}
    {elts : List Expr} {kk : Nat} {tpos : Pos} {tn : Nat → Heap → Prop} {pv : V → Prop}
    (I : Inv X pins σ H s) (hf : ∀ b ∈ [e, it], FpOk X pins H b)
    (D : Draws X.prog X.w X.A.in1 it fp n Pt Sx) (he : IsEnum s.heap e it ((i : Nat) : Int) old) (hst : Sx i s.heap)
    (hlt : i < n) (hne : e ≠ it) (hef : e ∉ fp) (hp : ∀ u, Pt i u → ∃ x, RelV x u ∧ pv x)
    (htn : ∀ h h' : Heap, Sx (i + 1) h → (∃ v, IsEnum h' e it (((i + 1 : Nat)) : Int) v) → (∀ b o, b ≠ e → h.get? b = some o → h'.get? b = some o) → tn (i + 1) h') :
    wpAny (model X.prog X.w) X.A (pyNext (.ref e)) (fun r s1 => ∃ u, r = some u ∧
      wpAny (model X.prog X.w) X.A (letOwnedTupleGo (.Tuple elts kk tpos) (.ref e) u) (fun _ s2 => ∃ x H', Inv X pins σ H' s2 ∧ RelV x u ∧
        (∃ T y, x = .ref T ∧ H T = none ∧ H' = upd H T (.tup [.int (i : Nat), y]) ∧ pv y) ∧
        tn (i + 1) s2.heap ∧ ∀ b ∈ [e, it], H' b = none) E s1) E s := by
  have hel : e < s.heap.objs.size := Heap.lt_size he
  have hil : it < s.heap.objs.size := by
    obtain ⟨_, q⟩ := D.live _ _ hst
    exact Heap.lt_size q
  refine wpAny_pyNext_enum_itemC D he hst hlt hne hef fun u h' tk hPu ho hst' hT hsz hk => ?_
  obtain ⟨y, ry, py⟩ := hp u hPu
  refine ⟨_, rfl, wpAny_letOwnedTupleGo_enum (s := { s with heap := h', toks := tk + 1 }) ho fun h2 he2 sb => ?_⟩
  have nT : s.heap.objs.size ≠ e := Nat.ne_of_gt hel
  have hT2 : h2.get? s.heap.objs.size = some { cls := .type "tuple", data := .seq #[.int i tk, u] } := (sb.2 _ nT).trans hT
  have fresh := I.hok.fresh (Nat.le_refl s.heap.objs.size)
  have new : ObjOk X.prog X.w (upd H s.heap.objs.size (.tup [.int (i : Nat), y])) h2 s.heap.objs.size (.tup [.int (i : Nat), y]) :=
    ⟨by show 2 ≤ sizeLine; decide, [.int i tk, u], .cons ⟨_, rfl⟩ (.cons ry .nil), ⟨_, hT2, rfl, _, rfl⟩⟩
  have I1 : Inv X pins σ (upd H s.heap.objs.size (.tup [.int (i : Nat), y])) { s with heap := h2, toks := tk + 1 } := by
    refine I.turnedNew (ch := [e, it]) (fun b ob hb q => ?_) hf (Nat.le_refl _) new
    have b1 : b ≠ e := fun z => hb (by simp [z])
    have b2 : b ≠ it := fun z => hb (by simp [z])
    exact (sb.2 b b1).trans (hk b ob b1 b2 q)
  refine ⟨.ref s.heap.objs.size, _, I1, rfl, ⟨_, y, rfl, fresh, rfl, py⟩, ?_, fun b hb => ?_⟩
  · refine htn h' h2 hst' ⟨u, ?_⟩ fun b o hb q => (sb.2 b hb).trans q
    have e1 : ((i + 1 : Nat) : Int) = (i : Int) + 1 := by omega
    rw [e1]
    exact he2
  · have hb' : b < s.heap.objs.size := by
      rcases List.mem_cons.mp hb with z | z
      · rw [z]; exact hel
      · rw [List.mem_singleton.mp z]; exact hil
    rw [upd_ne (Nat.ne_of_lt hb')]
    exact (hf b hb).1

/-! ### a text -/
def Ies (x : Str) : It := ⟨fun i _ => i < x.cps.size,
  fun i H v H' => ∃ T y, v = .ref T ∧ H T = none ∧ H' = upd H T (.tup [.int (i : Nat), y]) ∧ ∃ c, x.cps[i]? = some c ∧ y = .str ⟨#[c]⟩,
  fun i _ => i = x.cps.size⟩
theorem turn_enumS {P : Program} {w : World} {K : PySem.W.Frag} {elts : List Expr} {kk : Nat} {tpos : Pos} (x : Str) (t : Tok) (e it : Addr) :
    Turn P w K (.Tuple elts kk tpos) (Ies x) [e, it] e (fun i h => (∃ v, IsEnum h e it ((i : Nat) : Int) v) ∧ h.IsStrIter it (strIterType x) x t i ∧ e ≠ it) where
  mem := by simp
  obj := fun i h st b hb => by
    obtain ⟨⟨v, he⟩, ⟨o, ho, hc, hd⟩, _⟩ := st
    rcases List.mem_cons.mp hb with z | z
    · rw [z]; exact ⟨_, he, fun v q => nomatch q⟩
    · rw [List.mem_singleton.mp z]; exact ⟨o, ho, fun v q => by rw [hd] at q; cases q⟩
  keep := fun i h h' st k => by
    obtain ⟨⟨v, he⟩, ⟨o, ho, r⟩, hne⟩ := st
    exact ⟨⟨v, k e (by simp) _ he⟩, ⟨o, k it (by simp) o ho, r⟩, hne⟩
  item := by
    intro X hP hw hK hc i pins s σ H E I hf st hg
    subst hP hw hK
    obtain ⟨⟨v, he⟩, hit, hne⟩ := st
    refine enum_draw (elts := elts) (kk := kk) (tpos := tpos) (tn := fun i h => (∃ v, IsEnum h e it ((i : Nat) : Int) v) ∧ h.IsStrIter it (strIterType x) x t i ∧ e ≠ it) (fp := [it]) (n := x.cps.size) (pv := fun y => ∃ c, x.cps[i]? = some c ∧ y = .str ⟨#[c]⟩) (Sx := fun i h => h.IsStrIter it (strIterType x) x t i)
      I hf (Draws.text (A := X.A.in1) (show X.A.in1.handled = none from I.ok.hd hc) it x t) he hit hg hne (by simpa using hne) (fun u hu => ?_) fun h h' h1 h2 hk => ?_
    · obtain ⟨c, u', hc', rfl⟩ := hu
      exact ⟨.str ⟨#[c]⟩, ⟨_, rfl⟩, c, hc', rfl⟩
    · obtain ⟨o, ho, r⟩ := h1
      exact ⟨h2, ⟨o, hk it o hne.symm ho, r⟩, hne⟩
  done := by
    intro X hP hw hK hc i pins s σ H E I hf st hg
    subst hP hw hK
    obtain ⟨⟨v, he⟩, hit, hne⟩ := st
    obtain ⟨f0, f1, f2, f3, f4, f5⟩ := hf it (by simp)
    have hi : i = x.cps.size := hg
    subst hi
    exact wpAny_pyNext_enum_endD (Draws.text (A := X.A.in1) (show X.A.in1.handled = none from I.ok.hd hc) it x t) he hit fun h' eb => ⟨rfl, I.turned (t' := s.toks) (fun b o hb q => eb b o hb q) f0 f1 f3 f4 f5⟩
  self := fun A i s Q E st h => by
    obtain ⟨⟨v, he⟩, _⟩ := st
    exact wpAny_pyIter_enum he h
def iEnumS (ta : TA) : TI := fun σ H R => ta σ H fun vs H1 => ∃ x, vs = [.str x] ∧ R (Ies x) H1
theorem pi_enumS {X : Cx} {e : Expr} {ta : TA} {p pos tpos : Pos} {elts : List Expr} {kk : Nat}
    (hg : Gl X "enumerate") (hm : X.mg "enumerate" = none) (ha : PA X [e] ta)
    (hs : starEach [e] X.env = [(false, eval e X.env)] := by rfl) :
    PI X (.Tuple elts kk tpos) (.Call (.Name "enumerate" p) [e] [] pos) (iEnumS ta) := by
  refine ⟨fun pins s σ H R I h => ?_⟩
  refine Call_ (ld_blt I hg hm boot_enumerate (PyProof.Rows.callWith_type1 (thn (ha.run pos pins s σ H _ I h) fun us s1 ⟨vs, H1, I1, r1, q1⟩ => ?_) hs rfl))
  obtain ⟨x, rfl, q⟩ := q1
  obtain ⟨u, rfl, ru⟩ := r1.one
  obtain ⟨t, rfl⟩ := ru
  refine call_enumB (begins_text x t) trivial fun h' he hit hk => wpAny_pyIter_enum he ?_
  have I2 : Inv X pins σ H1 { s1 with heap := h' } := I1.kept (t' := s1.toks) hk
  refine ⟨s1.heap.objs.size + 1, [s1.heap.objs.size + 1, s1.heap.objs.size], _, _, H1, rfl, I2,
    turn_enumS x t (s1.heap.objs.size + 1) s1.heap.objs.size, ⟨⟨.none, he⟩, ⟨_, hit, rfl, rfl⟩, Nat.succ_ne_self _⟩, fun b hb => ?_, q⟩
  have hle : s1.heap.objs.size ≤ b := by
    rcases List.mem_cons.mp hb with z | z
    · rw [z]; exact Nat.le_add_right _ _
    · rw [List.mem_singleton.mp z]; exact Nat.le_refl _
  exact I1.fpOk hle (I1.hok.fresh hle)
theorem walk_enumS {x : Str} : Walk (Ies x) x.cps.size (fun _ => True)
    (YPair (fun i => some (.int (i : Nat))) (fun i => x.cps[i]?.map fun c => V.str ⟨#[c]⟩)) := by
  refine ⟨fun _ _ hi _ => hi, fun _ _ => rfl, fun i H v H' _ _ y => ?_⟩
  obtain ⟨T, y, h1, h2, h3, c, hc, rfl⟩ := y
  exact ⟨T, .int (i : Nat), _, h1, h2, h3, rfl, by show Option.map _ x.cps[i]? = _; rw [hc]; rfl⟩

/-! ### a tuple -/
def Iet (K : PySem.W.Frag) (a : Addr) : It := ⟨fun i H => ∃ (xs : List V) (x : V), SqT K H a xs ∧ xs[i]? = some x,
  fun i H v H' => ∃ T y, v = .ref T ∧ H T = none ∧ H' = upd H T (.tup [.int (i : Nat), y]) ∧ ∀ xs, SqT K H a xs → xs[i]? = some y,
  fun i H => ∃ xs : List V, SqT K H a xs ∧ i = xs.length⟩
theorem turn_enumT {P : Program} {w : World} {K : PySem.W.Frag} {elts : List Expr} {kk : Nat} {tpos : Pos} (a e it : Addr) :
    Turn P w K (.Tuple elts kk tpos) (Iet K a) [e, it] e (fun i h => (∃ v, IsEnum h e it ((i : Nat) : Int) v) ∧ h.IsTupleIter it a i ∧ e ≠ it) where
  mem := by simp
  obj := fun i h st b hb => by
    obtain ⟨⟨v, he⟩, ⟨o, ho, hc, hd⟩, _⟩ := st
    rcases List.mem_cons.mp hb with z | z
    · rw [z]; exact ⟨_, he, fun v q => nomatch q⟩
    · rw [List.mem_singleton.mp z]; exact ⟨o, ho, fun v q => by rw [hd] at q; cases q⟩
  keep := fun i h h' st k => by
    obtain ⟨⟨v, he⟩, ht, hne⟩ := st
    exact ⟨⟨v, k e (by simp) _ he⟩, ht.at fun o q => k it (by simp) o q, hne⟩
  item := by
    intro X hP hw hK hc i pins s σ H E I hf st hg
    subst hP hw hK
    obtain ⟨⟨v, he⟩, hit, hne⟩ := st
    obtain ⟨xs, x, hq, hx⟩ := hg
    obtain ⟨its, rv, p, hz⟩ := I.tuple hq
    have p' : s.heap.IsTuple a its.toArray := p
    have hea : e ≠ a := by
      rintro rfl
      obtain ⟨o, ho, hcl, _⟩ := p'
      have he' : s.heap.get? e = some _ := he
      rw [he'] at ho
      cases ho
      exact absurd (show Value.type "enumerate" = Value.type "tuple" from hcl) (by decide)
    have hia : a ≠ it := by
      rintro rfl
      obtain ⟨o, ho, hcl, _⟩ := p'
      obtain ⟨o2, ho2, hcl2, _⟩ := hit
      rw [ho2] at ho
      cases ho
      rw [hcl2] at hcl
      exact absurd hcl (by decide)
    have hlen := rv.length
    have hlt : i < its.toArray.size := by
      have := (List.getElem?_eq_some_iff.mp hx).1
      simp
      omega
    refine thn (enum_draw (X := X) (elts := elts) (kk := kk) (tpos := tpos) (i := i) (tn := fun i h => (∃ v, IsEnum h e it ((i : Nat) : Int) v) ∧ h.IsTupleIter it a i ∧ e ≠ it) (fp := [it, a]) (n := its.toArray.size) (pv := fun y => xs[i]? = some y) (Sx := fun i h => h.IsTupleIter it a i ∧ h.IsTuple a its.toArray)
      I hf (Draws.tuple (A := X.A.in1) (show X.A.in1.handled = none from I.ok.hd hc) it a hia its.toArray) he ⟨hit, p'⟩ hlt hne (by simp [hne, hea]) (fun u hu => ?_) fun h h' h1 h2 hk => ?_) fun r s1 q1 => ?_
    · have hu' : its[i]? = some u := by simpa using hu
      have hil : i < xs.length := (List.getElem?_eq_some_iff.mp hx).1
      obtain ⟨w, hw, rw'⟩ := rv.get (List.getElem?_eq_getElem hil)
      rw [hu'] at hw
      rw [Option.some.inj hw]
      exact ⟨_, rw', List.getElem?_eq_getElem hil⟩
    · exact ⟨h2, h1.1.at fun o q => hk it o hne.symm q, hne⟩
    · obtain ⟨u, hu, q2⟩ := q1
      refine ⟨u, hu, thn q2 fun _ s2 q3 => ?_⟩
      obtain ⟨y, H', I', ry, ⟨T, z, e1, e2, e3, e4⟩, r⟩ := q3
      exact ⟨y, H', I', ry, ⟨T, z, e1, e2, e3, fun ys hy => by rw [I.tuple_inj hy hq]; exact e4⟩, r⟩
  done := by
    intro X hP hw hK hc i pins s σ H E I hf st hg
    subst hP hw hK
    obtain ⟨⟨v, he⟩, hit, hne⟩ := st
    obtain ⟨f0, f1, f2, f3, f4, f5⟩ := hf it (by simp)
    obtain ⟨xs, hq, hi⟩ := hg
    obtain ⟨its, rv, p, hz⟩ := I.tuple hq
    have p' : s.heap.IsTuple a its.toArray := p
    have hia : a ≠ it := by
      rintro rfl
      obtain ⟨o, ho, hcl, _⟩ := p'
      obtain ⟨o2, ho2, hcl2, _⟩ := hit
      rw [ho2] at ho
      cases ho
      rw [hcl2] at hcl
      exact absurd hcl (by decide)
    have hi2 : i = its.toArray.size := by
      have := rv.length
      simp
      omega
    subst hi2
    exact wpAny_pyNext_enum_endD (Draws.tuple (A := X.A.in1) (show X.A.in1.handled = none from I.ok.hd hc) it a hia its.toArray) he ⟨hit, p'⟩
      fun h' eb => ⟨rfl, I.turned (t' := s.toks) (fun b o hb q => eb b o hb q) f0 f1 f3 f4 f5⟩
  self := fun A i s Q E st h => by
    obtain ⟨⟨v, he⟩, _⟩ := st
    exact wpAny_pyIter_enum he h
def iEnumT (K : PySem.W.Frag) (ta : TA) : TI := fun σ H R => ta σ H fun vs H1 => ∃ a xs, vs = [.ref a] ∧ SqT K H1 a xs ∧ R (Iet K a) H1
theorem pi_enumT {X : Cx} {e : Expr} {ta : TA} {p pos tpos : Pos} {elts : List Expr} {kk : Nat}
    (hg : Gl X "enumerate") (hm : X.mg "enumerate" = none) (ha : PA X [e] ta)
    (hs : starEach [e] X.env = [(false, eval e X.env)] := by rfl) :
    PI X (.Tuple elts kk tpos) (.Call (.Name "enumerate" p) [e] [] pos) (iEnumT X.K ta) := by
  refine ⟨fun pins s σ H R I h => ?_⟩
  refine Call_ (ld_blt I hg hm boot_enumerate (PyProof.Rows.callWith_type1 (thn (ha.run pos pins s σ H _ I h) fun us s1 ⟨vs, H1, I1, r1, q1⟩ => ?_) hs rfl))
  obtain ⟨a, xs, rfl, hq, q⟩ := q1
  obtain ⟨u, rfl, ru⟩ := r1.one
  cases (show u = Value.ref a from ru)
  obtain ⟨its, rv, p', hz⟩ := I1.tuple hq
  refine call_enumB (begins_tuple a its.toArray) (show s1.heap.IsTuple a its.toArray from p') fun h' he hit hk => wpAny_pyIter_enum he ?_
  have I2 : Inv X pins σ H1 { s1 with heap := h' } := I1.kept (t' := s1.toks) hk
  refine ⟨s1.heap.objs.size + 1, [s1.heap.objs.size + 1, s1.heap.objs.size], _, _, H1, rfl, I2,
    turn_enumT a (s1.heap.objs.size + 1) s1.heap.objs.size, ⟨⟨.none, he⟩, ⟨_, hit, rfl, rfl⟩, Nat.succ_ne_self _⟩, fun b hb => ?_, q⟩
  have hle : s1.heap.objs.size ≤ b := by
    rcases List.mem_cons.mp hb with z | z
    · rw [z]; exact Nat.le_add_right _ _
    · rw [List.mem_singleton.mp z]; exact Nat.le_refl _
  exact I1.fpOk hle (I1.hok.fresh hle)
theorem walk_enumT {K : PySem.W.Frag} {a : Addr} {xs : List V} : Walk (Iet K a) xs.length (fun H => SqT K H a xs)
    (YPair (fun i => some (.int (i : Nat))) (fun i => xs[i]?)) := by
  refine ⟨fun i _ hi q => ⟨xs, xs[i], q, by simp [hi]⟩, fun _ q => ⟨xs, q, rfl⟩, fun i H v H' _ q y => ?_⟩
  obtain ⟨T, y, h1, h2, h3, h4⟩ := y
  exact ⟨T, .int (i : Nat), y, h1, h2, h3, rfl, h4 xs q⟩
end K53
end -- E
section -- D
set_option linter.all false
set_option maxRecDepth 100000
set_option maxHeartbeats 4000000
/-! {k: v for .. in .. for .. in ..}: a dict comprehension with two clauses and no tests. -/
namespace K53
open PySem PySem.Spec PyProof.Rows L2

abbrev dc2 (kx vx t0 i0 t1 i1 : Expr) (sc : Scope) (pos : Pos) : Expr :=
  .DictComp kx vx [⟨t0, i0, [], 0⟩, ⟨t1, i1, [], 0⟩] sc pos
section
variable {prog : Program} {w : World} {A : Around} {R : Result → Shared → Prop} {s : Shared}
  {kx vx t0 i0 t1 i1 : Expr} {sc : Scope} {pos : Pos} {it : Value} {D : Addr} {env : Env}
theorem dc2_turn0 : compTurn (dc2 kx vx t0 i0 t1 i1 sc pos) 0 it (.ref D) env = (do
    standAt i0.pos
    match ← pyNext it with
    | none => pure (.done .next)
    | some v =>
      letOwnedTupleGo t0 it v
      assign t0 env v
      let mut ok := true
      for c in ([] : List Expr) do
        if ok then ok ← isTrue c env (eval c env)
      if ok then
        let src ← eval i1 env
        standAt i1.pos
        let src ← foldedSetIterable i1 env src
        let _ ← runOwn (.compStart (dc2 kx vx t0 i0 t1 i1 sc pos) 1 (← holding [src] (pyIter src)) (.ref D) env) env
      again (.compLoop (dc2 kx vx t0 i0 t1 i1 sc pos) 0 it (.ref D) env)) := by rfl
theorem dc2_turn1 : compTurn (dc2 kx vx t0 i0 t1 i1 sc pos) 1 it (.ref D) env = (standAt i1.pos >>= fun _ =>
    pyNext it >>= fun r => match r with
    | none => pure (.done .next)
    | some v => letOwnedTupleGo t1 it v >>= fun _ => assign t1 env v >>= fun _ =>
      (eval kx env >>= fun k => holding [k] (eval vx env) >>= fun z =>
        standAt { kx.pos with endLine := vx.pos.endLine, endCol := vx.pos.endCol } >>= fun _ =>
          holding [k, z] (dictSet D k z)) >>= fun _ =>
        again (.compLoop (dc2 kx vx t0 i0 t1 i1 sc pos) 1 it (.ref D) env)) := by rfl
/-- nothing raises in here -/
abbrev NoE : Value → Shared → Prop := fun _ _ => False
theorem nb {M : Model} {f : Value → Shared → Prop} {A : Around} {α : Type} {m : Sem α} {Q : α → Shared → Prop} {s : Shared}
    (h : wpAny M A m Q NoE s) : wpAny M A m Q (notedBy M A env f) s := wpAny_mono h (fun _ _ q => q) fun _ _ q => q.elim
theorem dc2_loop0 (hs : ∀ x, foldedSetIterable i1 env x = pure x) (Z : Nat → Shared → Prop)
    (turn : ∀ n s, Z n s → wpAny (model prog w) A (pyNext it) (fun r s1 => match r with
      | none => R (.ok .next) s1
      | some v => wpAny (model prog w) A (letOwnedTupleGo t0 it v) (fun _ s2 => wpAny (model prog w) A (assign t0 env v) (fun _ s3 =>
          wpAny (model prog w) A (eval i1 env) (fun x s4 => wpAny (model prog w) A (pyIter x) (fun y s5 =>
            codeAny (model prog w) A (.compStart (dc2 kx vx t0 i0 t1 i1 sc pos) 1 y (.ref D) env)
              (fun r s' => match r with | .ok _ => ∃ m, m < n ∧ Z m s' | .error _ => False) s5) NoE s4) NoE s3) NoE s2) NoE s1) NoE s)
    (n : Nat) (h : Z n s) : codeAny (model prog w) A (.compLoop (dc2 kx vx t0 i0 t1 i1 sc pos) 0 it (.ref D) env) R s := by
  refine codeAny_loop rfl Z (fun n s z => ?_) n h
  show wpAny _ A ((compTurn (dc2 kx vx t0 i0 t1 i1 sc pos) 0 it (.ref D) env).onRaise (fun x => do noteFrame x env; theTreesLotGoes x)) _ _ s
  refine wpAny_noted ?_
  rw [dc2_turn0]
  refine nb ?_
  refine wpAny_bind (wpAny_standAt (wpAny_bind (thn (turn n s z) fun r s1 q1 => ?_)))
  cases r with
  | none => exact wpAny_pure q1
  | some v =>
    refine wpAny_bind (thn q1 fun _ s2 q2 => wpAny_bind (thn q2 fun _ s3 q3 => ?_))
    refine wpAny_bind (wpAny_of_eq (a := true) rfl ?_)
    refine wpAny_bind (thn q3 fun x s4 q4 => ?_)
    refine wpAny_bind (wpAny_standAt (wpAny_bind (wpAny_of_eq (hs x) (wpAny_bind (wpAny_holding (thn q4 fun y s5 q5 => ?_))))))
    refine wpAny_bind (wpAny_runOwn ?_)
    rw [Around.mark_none]
    refine codeAny_mono q5 fun r s' q6 => ?_
    cases r with
    | ok f =>
      first
        | exact wpAny_pure ⟨rfl, q6⟩
        | exact wpAny_pure (wpAny_pure ⟨rfl, q6⟩)
        | exact wpAny_bind (wpAny_pure (wpAny_pure ⟨rfl, q6⟩))
    | error e => exact q6.elim
theorem dc2_loop1 (Z : Nat → Shared → Prop)
    (turn : ∀ n s, Z n s → wpAny (model prog w) A (pyNext it) (fun r s1 => match r with
      | none => R (.ok .next) s1
      | some v => wpAny (model prog w) A (letOwnedTupleGo t1 it v) (fun _ s2 => wpAny (model prog w) A (assign t1 env v) (fun _ s3 =>
          wpAny (model prog w) A (eval kx env) (fun k s4 => wpAny (model prog w) A (eval vx env) (fun z s5 =>
            wpAny (model prog w) A (dictSet D k z) (fun _ s6 => ∃ m, m < n ∧ Z m s6) NoE s5) NoE s4) NoE s3) NoE s2) NoE s1) NoE s)
    (n : Nat) (h : Z n s) : codeAny (model prog w) A (.compLoop (dc2 kx vx t0 i0 t1 i1 sc pos) 1 it (.ref D) env) R s := by
  refine codeAny_loop rfl Z (fun n s z => ?_) n h
  show wpAny _ A ((compTurn (dc2 kx vx t0 i0 t1 i1 sc pos) 1 it (.ref D) env).onRaise (fun x => do noteFrame x env; theTreesLotGoes x)) _ _ s
  refine wpAny_noted ?_
  rw [dc2_turn1]
  refine nb ?_
  refine wpAny_bind (wpAny_standAt (wpAny_bind (thn (turn n s z) fun r s1 q1 => ?_)))
  cases r with
  | none => exact wpAny_pure q1
  | some v =>
    refine wpAny_bind (thn q1 fun _ s2 q2 => wpAny_bind (thn q2 fun _ s3 q3 => ?_))
    refine wpAny_bind (wpAny_bind (thn q3 fun k s4 q4 => ?_))
    refine wpAny_bind (wpAny_holding (thn q4 fun z' s5 q5 => ?_))
    exact wpAny_bind (wpAny_standAt (wpAny_holding (thn q5 fun _ s6 q6 => wpAny_pure ⟨rfl, q6⟩)))
theorem dc2_start1 (h0 : codeAny (model prog w) A (.compLoop (dc2 kx vx t0 i0 t1 i1 sc pos) 1 it (.ref D) env) R s)
    (h : wpAny (model prog w) A (pyIter it) (fun y s' => codeAny (model prog w) A (.compLoop (dc2 kx vx t0 i0 t1 i1 sc pos) 1 y (.ref D) env) R s') NoE s) :
    codeAny (model prog w) A (.compStart (dc2 kx vx t0 i0 t1 i1 sc pos) 1 it (.ref D) env) R s := by
  refine codeAny_of_tree ?_
  show wpAny _ _ ((compStart (dc2 kx vx t0 i0 t1 i1 sc pos) 1 it (.ref D) env).onRaise (fun x => do noteFrame x env; standAt theWindowsPlace)) _ _ s
  refine wpAny_notedAt ?_
  unfold compStart
  show wpAny _ _ (ask >>= _) _ _ s
  refine wpAny_bind (wpAny_askSetting (wpAny_ite ?_))
  split
  · first
      | exact wpAny_bind (wpAny_pure (wpAny_pure (And.intro rfl h0)))
      | exact wpAny_pure (And.intro rfl h0)
  · refine wpAny_bind (wpAny_rule ?_)
    show wpAny _ _ (standAt i1.pos >>= _) _ _ s
    exact wpAny_bind (wpAny_standAt (wpAny_bind (wpAny_mono h (fun y s' q => wpAny_pure (And.intro rfl q)) fun _ _ x => x.elim)))
end
section
variable {X : Cx}
/-- its reading. vs: the block's names, vs1: those of the second target -/
def tDc2 (wi : TI) (g : TG) (wi1 : TI) (g1 : TG) (tk tv : TE) (vs vs1 : List Nat) : TE := fun σ H Q => wi σ H fun J H1 => ∀ D, H1 D = none →
  ∃ W : Nat → Nat → Hp → Prop, (∃ m, W 0 m (upd H1 D (.dK []))) ∧ ∀ i m H, W i m H →
    (J.stop i H ∧ Q (.ref D) H) ∨ (J.go i H ∧ ∃ Nx : Hp → Prop, (∀ H', Nx H' → ∃ m', m' < m ∧ W (i + 1) m' H') ∧
      ∀ x H', J.yld i H x H' → g x (wipe σ vs) H' fun σ2 H2 => wipe σ2 vs = wipe σ vs ∧
        wi1 σ2 H2 fun J1 H3 => ∃ W1 : Nat → Nat → Hp → Prop, (∃ m, W1 0 m H3) ∧ ∀ j k H, W1 j k H →
          (J1.stop j H ∧ Nx H) ∨ (J1.go j H ∧ ∃ Nx1 : Hp → Prop, (∀ H', Nx1 H' → ∃ k', k' < k ∧ W1 (j + 1) k' H') ∧
            ∀ x H', J1.yld j H x H' → g1 x (wipe σ2 vs1) H' fun σ3 H4 => wipe σ3 vs1 = wipe σ2 vs1 ∧
              tk σ3 H4 fun y H5 => tv σ3 H5 fun z H6 => ∃ kvs key, y = kV key ∧ H6 D = some (.dK kvs) ∧ kvs.length < sizeLine ∧
                Nx1 (upd H6 D (.dK (putK kvs key z)))))
theorem pe_dc2 {kx vx tg iter tg1 iter1 : Expr} {sc : Scope} {own : List (Str × Nat)} {vs1 : List Nat} {pos : Pos} {wi wi1 : TI} {g g1 : TG} {tk tv : TE}
    (hc : X.calm = true) (hN : X.N.Nodup) (hi : PI X tg iter wi) (ok : BlkOk X.N X.env.scope sc own) (hv : ∀ i ∈ vs1, i ∈ own.map (·.2))
    (hg : ∀ s H C cl fp, PG (X.blk s H sc (compEnvC sc cl C X.env) fp) tg g)
    (hi1 : ∀ s H C cl fp, PI (X.blk s H sc (compEnvC sc cl C X.env) fp) tg1 iter1 wi1)
    (hg1 : ∀ s H C cl fp, PG (X.blk s H sc (compEnvC sc cl C X.env) fp) tg1 g1)
    (hk : ∀ s H C cl fp, PE (X.blk s H sc (compEnvC sc cl C X.env) fp) kx tk)
    (hx : ∀ s H C cl fp, PE (X.blk s H sc (compEnvC sc cl C X.env) fp) vx tv)
    (hs : ∀ x, foldedSetIterable iter X.env x = pure x := by intro _; rfl)
    (hs1 : ∀ env x, foldedSetIterable iter1 env x = pure x := by intro _ _; rfl) :
    PE X (dc2 kx vx tg iter tg1 iter1 sc pos) (tDc2 wi g wi1 g1 tk tv (own.map (·.2)) vs1) := by
  refine ⟨fun pins s σ H Q I h => ?_⟩
  rw [arm_eval_DictComp]
  have hfree : ∀ y ∈ sc.names, y.2 = .free → ∃ c, X.env.cells.lookup y.1 = some c := fun y hy e =>
    (ok.free y hy e).elim (fun k => I.ok.has _ (.inl k)) fun k => I.ok.has _ (.inr k)
  refine wpAny_comprehension_free rfl hs (closure_ok hfree) ok.kind (fun y hy e => by rw [ok.uniq y hy, e])
    (thn (hi.run pins s σ H _ I h) fun xv s1 hx1 => thn hx1 fun itv s2 h2 => ?_)
  obtain ⟨it, fp, tn, J, H2, rfl, I2, T, st2, f2, q⟩ := h2
  refine wpAny_newObj_type (newEnv_comp ?_)
  generalize hD : s2.heap.objs.size = D
  have hDn : H2 D = none := I2.hok.fresh (Nat.le_of_eq hD)
  obtain ⟨W, ⟨m0, w0⟩, turn⟩ := q D hDn
  generalize hs3 : ({ s2 with heap := s2.heap.push { cls := .type "dict", data := .dict #[] } } : Shared) = s3
  have h3 : s3.heap = s2.heap.push { cls := .type "dict", data := .dict #[] } := by rw [← hs3]
  have I3 : Inv X pins σ (upd H2 D (.dK [])) s3 := by
    rw [← hs3]
    refine I2.laid (t' := s2.toks) (fun b o e => Heap.get?_push_of_some _ e) (Nat.le_of_eq hD) ?_
    rw [← hD]
    exact dk_empty s2.heap I2.big
  have f3 : ∀ b ∈ fp, FpOk X pins (upd H2 D (.dK [])) b ∧ b < s3.heap.objs.size := fun b hb => by
    obtain ⟨o, e, _⟩ := T.obj _ _ st2 b hb
    have hlt := Heap.lt_size e
    refine ⟨⟨?_, (f2 b hb).2⟩, by rw [h3, Heap.size_push]; exact Nat.lt_succ_of_lt hlt⟩
    rw [upd_ne (by rw [← hD]; exact Nat.ne_of_lt hlt)]
    exact (f2 b hb).1
  have st3 : tn 0 s3.heap := T.keep _ _ _ st2 fun b _ o e => by rw [h3]; exact Heap.get?_push_of_some _ e
  have I4 := block_start I3 ok hN f3
  have pg := hg s3 (upd H2 D (.dK [])) s3.heap.objs.size (cellsFrom (s3.heap.objs.size + 1) sc.names (cloFrom X.env.cells sc.names [])) fp
  have pi1 := hi1 s3 (upd H2 D (.dK [])) s3.heap.objs.size (cellsFrom (s3.heap.objs.size + 1) sc.names (cloFrom X.env.cells sc.names [])) fp
  have pg1 := hg1 s3 (upd H2 D (.dK [])) s3.heap.objs.size (cellsFrom (s3.heap.objs.size + 1) sc.names (cloFrom X.env.cells sc.names [])) fp
  have pk := hk s3 (upd H2 D (.dK [])) s3.heap.objs.size (cellsFrom (s3.heap.objs.size + 1) sc.names (cloFrom X.env.cells sc.names [])) fp
  have pv' := hx s3 (upd H2 D (.dK [])) s3.heap.objs.size (cellsFrom (s3.heap.objs.size + 1) sc.names (cloFrom X.env.cells sc.names [])) fp
  have nfp : ∀ b ∈ fp, (upd H2 D (.dK [])) b = none := fun b hb => (f3 b hb).1.1
  show codeAny _ _ (.compStart (dc2 kx vx tg iter tg1 iter1 sc pos) 0 (.ref it) (.ref D)
    (compEnvC sc (cellsFrom (s3.heap.objs.size + 1) sc.names (cloFrom X.env.cells sc.names [])) s3.heap.objs.size X.env))
    (compPost (model X.prog X.w) X.A X.xe _ (EP X pins σ Q) (.ref D) s3.heap.objs.size)
    { s3 with heap := pushCells (s3.heap.push { cls := .type "dict", data := .dict #[] }) sc.names }
  generalize hce : compEnvC sc (cellsFrom (s3.heap.objs.size + 1) sc.names (cloFrom X.env.cells sc.names [])) s3.heap.objs.size X.env = ce at I4 pg pi1 pg1 pk pv' ⊢
  have cL : ce.locals = s3.heap.objs.size := by subst hce; rfl
  generalize hH3 : upd H2 D (.dK []) = H3 at I3 I4 pg pi1 pg1 pk pv' w0 nfp f3
  generalize hs4 : ({ s3 with heap := pushCells (s3.heap.push { cls := .type "dict", data := .dict #[] }) sc.names } : Shared) = s4 at I4 ⊢
  have st4 : tn 0 s4.heap := T.keep _ _ _ st3 fun b _ o e => by
    rw [← hs4]
    exact pushCells_keeps _ _ _ _ (Heap.get?_push_of_some _ e)
  have stat : ∀ {σ' : L2.St} {H' : Hp} {s' : Shared}, Inv (X.blk s3 H3 sc ce fp) [] σ' H' s' → (∀ b ∈ fp, H' b = none) → ∀ b ∈ fp, FpOk (X.blk s3 H3 sc ce fp) [] H' b :=
    fun {σ' H' s'} I' hn b hb => ⟨hn b hb, (I'.ok.exf b hb).1, I'.ok.exfs b hb, .inl hb, fun x c e => (I'.ok.exf b hb).2 x c e,
      fun p hp => absurd (show p ∈ ([] : List (Addr × Obj)) ++ [] from hp) (by simp)⟩
  have loop : codeAny (model X.prog X.w) X.A (.compLoop (dc2 kx vx tg iter tg1 iter1 sc pos) 0 (.ref it) (.ref D) ce)
      (compPost (model X.prog X.w) X.A X.xe none (EP X pins σ Q) (.ref D) s3.heap.objs.size) s4 := by
    refine dc2_loop0 (hs1 ce) (fun n s' => ∃ i H', Inv (X.blk s3 H3 sc ce fp) [] (wipe σ (own.map (·.2))) H' s' ∧
      tn i s'.heap ∧ (∀ b ∈ fp, H' b = none) ∧ W i n H') ?_ m0 ⟨0, H3, I4, st4, nfp, w0⟩
    rintro n s5 ⟨i, H5, I5, st5, n5, w5⟩
    rcases turn i n H5 w5 with ⟨stop, qq⟩ | ⟨go, Nx, hNx, step⟩
    · have td := T.done (X.blk s3 H3 sc ce fp) rfl rfl rfl hc i [] s5 _ H5 NoE I5 (stat I5 n5) st5 stop
      refine thn td fun r s6 ⟨hr, I6⟩ => ?_
      subst hr
      have I7 : Inv X pins σ H5 s6 := I3.call' (ch := fp) I6.os I6.base I6.hok I6.bare fun b hb =>
        ⟨(f3 b hb).1.2.2.2.1, (f3 b hb).1.2.1, (f3 b hb).1.2.2.2.2.1, (f3 b hb).1.2.2.2.2.2⟩
      have nC : H5 s3.heap.objs.size = none := by
        have z : H5 ce.locals = none := I6.free
        rw [cL] at z
        exact z
      obtain ⟨m, hn, _⟩ := I6.loc
      have hn : s6.heap.Ns ce.locals m := hn
      rw [cL] at hn
      obtain ⟨f0, f1, f2', f3', f4, f5⟩ := I3.fpOk (H' := H5) (Nat.le_refl _) nC
      exact ⟨m, hn, fun h'' sb => ⟨.ref D, H5, I7.turned (t' := s6.toks) (fun b o hb e => (sb.2 b hb).trans e) f0 f1 f3' f4 f5, rfl, qq⟩⟩
    · have ti := T.item (X.blk s3 H3 sc ce fp) rfl rfl rfl hc i [] s5 _ H5 NoE I5 (stat I5 n5) st5 go
      refine thn ti fun r s6 ⟨u, hr, h6⟩ => ?_
      subst hr
      refine thn h6 fun _ s7 ⟨x, H7, I7, r7, y7, st7, n7⟩ => ?_
      have I7' := I7.pinned (stat I7 n7) (T.obj _ _ st7)
      refine thn (pg.run _ s7 _ H7 x u _ I7' r7 (step x H7 y7)) fun _ s8 ⟨σ8, H8, I8, hw8, q8⟩ => ?_
      -- back to the outer loop, from slots that know what the block knew
      have fin : ∀ {σ9 : L2.St} {s' : Shared} {H' : Hp}, Inv (X.blk s3 H3 sc ce fp) ([] ++ pinsAt fp s7.heap) σ9 H' s' →
          (wipe σ (own.map (·.2))).length = σ9.length → (∀ (j : Nat) v, (wipe σ (own.map (·.2)))[j]? = some (some v) → σ9[j]? = some (some v)) → Nx H' →
          ∃ m, m < n ∧ ∃ i H', Inv (X.blk s3 H3 sc ce fp) [] (wipe σ (own.map (·.2))) H' s' ∧ tn i s'.heap ∧ (∀ b ∈ fp, H' b = none) ∧ W i m H' :=
        fun {σ9 s' H'} I' hl hk nx => by
          obtain ⟨m', hm, w'⟩ := hNx H' nx
          have pin' : ∀ b ∈ fp, ∀ o, s7.heap.get? b = some o → s'.heap.get? b = some o ∧ H' b = none := fun b hb o e => by
            have z := I'.pin (b, o) (List.mem_append_right _ (List.mem_append_right _ (mem_pinsAt hb e)))
            exact ⟨z.1, z.2.1⟩
          refine ⟨m', hm, i + 1, H', (I'.unpinned (pins := [])).weak hl hk, T.keep _ _ _ st7 fun b hb o e => (pin' b hb o e).1, fun b hb => ?_, w'⟩
          obtain ⟨o, e, _⟩ := T.obj _ _ st7 b hb
          exact (pin' b hb o e).2
      have hl8 : (wipe σ (own.map (·.2))).length = σ8.length := by rw [← hw8, wipe_length]
      have hk9 : ∀ (j : Nat) v, (wipe σ (own.map (·.2)))[j]? = some (some v) → (wipe σ8 vs1)[j]? = some (some v) := fun j v e => by
        rw [← hw8] at e
        obtain ⟨e1, e2⟩ := wipe_some e
        rw [wipe_out fun z => e2 (hv j z)]
        exact e1
      refine thn (pi1.run _ s8 σ8 H8 _ I8 q8) fun xv s10 hx => thn hx fun itv s11 h11 => ?_
      obtain ⟨it1, fp1, tn1, J1, H11, rfl, I11, T1, st11, f11, W1, ⟨m1, w1⟩, turn1⟩ := h11
      have stat1 : ∀ {H' : Hp}, (∀ b ∈ fp1, H' b = none) → ∀ b ∈ fp1, FpOk (X.blk s3 H3 sc ce fp) ([] ++ pinsAt fp s7.heap) H' b :=
        fun hn b hb => ⟨hn b hb, (f11 b hb).2⟩
      have loop1 : codeAny (model X.prog X.w) X.A (.compLoop (dc2 kx vx tg iter tg1 iter1 sc pos) 1 (.ref it1) (.ref D) ce) (fun r s' => match r with
          | .ok _ => ∃ m, m < n ∧ ∃ i H', Inv (X.blk s3 H3 sc ce fp) [] (wipe σ (own.map (·.2))) H' s' ∧ tn i s'.heap ∧ (∀ b ∈ fp, H' b = none) ∧ W i m H'
          | .error _ => False) s11 := by
        refine dc2_loop1 (fun k s' => ∃ j H', Inv (X.blk s3 H3 sc ce fp) ([] ++ pinsAt fp s7.heap) (wipe σ8 vs1) H' s' ∧
          tn1 j s'.heap ∧ (∀ b ∈ fp1, H' b = none) ∧ W1 j k H') ?_ m1
          ⟨0, H11, I11.weak (wipe_length _ _) (fun j v e => (wipe_some e).1), st11, fun b hb => (f11 b hb).1, w1⟩
        rintro k s12 ⟨j, H12, I12, st12, n12, w12⟩
        rcases turn1 j k H12 w12 with ⟨stop1, nx1⟩ | ⟨go1, Nx1, hNx1, step1⟩
        · refine thn (T1.done (X.blk s3 H3 sc ce fp) rfl rfl rfl hc j _ s12 (wipe σ8 vs1) H12 NoE I12 (stat1 n12) st12 stop1) fun r s13 ⟨hr, I13⟩ => ?_
          subst hr
          exact fin I13 (hl8.trans (wipe_length σ8 vs1).symm) hk9 nx1
        · refine thn (T1.item (X.blk s3 H3 sc ce fp) rfl rfl rfl hc j _ s12 (wipe σ8 vs1) H12 NoE I12 (stat1 n12) st12 go1) fun r s13 ⟨u1, hr, h13⟩ => ?_
          subst hr
          refine thn h13 fun _ s14 ⟨x1, H14, I14, r14, y14, st14, n14⟩ => ?_
          have I14' := I14.pinned (stat1 n14) (T1.obj _ _ st14)
          refine thn (pg1.run _ s14 (wipe σ8 vs1) H14 x1 u1 _ I14' r14 (step1 x1 H14 y14)) fun _ s15 ⟨σ15, H15, I15, hw15, q15⟩ => ?_
          have fin1 : ∀ {s' : Shared} {H' : Hp}, Inv (X.blk s3 H3 sc ce fp) (([] ++ pinsAt fp s7.heap) ++ pinsAt fp1 s14.heap) σ15 H' s' → Nx1 H' →
              ∃ m, m < k ∧ ∃ j H', Inv (X.blk s3 H3 sc ce fp) ([] ++ pinsAt fp s7.heap) (wipe σ8 vs1) H' s' ∧ tn1 j s'.heap ∧ (∀ b ∈ fp1, H' b = none) ∧ W1 j m H' :=
            fun {s' H'} I' nx => by
              obtain ⟨m', hm, w'⟩ := hNx1 H' nx
              have pin' : ∀ b ∈ fp1, ∀ o, s14.heap.get? b = some o → s'.heap.get? b = some o ∧ H' b = none := fun b hb o e => by
                have z := I'.pin (b, o) (List.mem_append_right _ (List.mem_append_right _ (mem_pinsAt hb e)))
                exact ⟨z.1, z.2.1⟩
              refine ⟨m', hm, j + 1, H', I'.unpinned.weak (by rw [← hw15, wipe_length]) (fun j v e => by rw [← hw15] at e; exact (wipe_some e).1),
                T1.keep _ _ _ st14 fun b hb o e => (pin' b hb o e).1, fun b hb => ?_, w'⟩
              obtain ⟨o, e, _⟩ := T1.obj _ _ st14 b hb
              exact (pin' b hb o e).2
          refine thn (pk.run _ s15 σ15 H15 _ I15 q15) fun z s16 ⟨yk, H16, I16, r16, q16⟩ => ?_
          refine thn (pv'.run _ s16 σ15 H16 _ I16 q16) fun z2 s17 ⟨yv, H17, I17, r17, kvs, key, ek, hD17, hz17, nx⟩ => ?_
          subst ek
          exact d_dictSet (X := X.blk s3 H3 sc ce fp) I17 hD17 hz17 r16 r17 fun s18 I18 => fin1 I18 nx
      exact dc2_start1 loop1 (T1.self X.A 0 _ _ _ st11 loop1)
  exact codeAny_compStart_dict loop (T.self X.A 0 _ _ _ st4 loop)
end
end K53
end -- D
section -- T
set_option linter.all false
set_option maxRecDepth 100000
set_option maxHeartbeats 4000000
/-! The text by places, what the top has written, data. -/
namespace K53
open PySem PySem.Spec PyProof.Rows L2
def top (i : Nat) : Stmt := PySem.Challenge.pw_fullqueue_k53_whole_letters_that_are_see.main.body.getD i (.Pass ⟨0, 0, 0, 0⟩)

/-! ### texts by their codes -/
abbrev tx (l : List Nat) : Str := ⟨l.toArray⟩
theorem tx_len (l : List Nat) : (tx l).length = l.length := by simp [Str.length]
theorem tx_cat (a b : List Nat) : tx a ++ tx b = tx (a ++ b) := by
  show (⟨a.toArray ++ b.toArray⟩ : Str) = ⟨(a ++ b).toArray⟩
  rw [List.append_toArray]
theorem tx_inj {a b : List Nat} (h : tx a = tx b) : a = b := congrArg (fun x : Str => x.cps.toList) h
theorem tx_dec (a b : List Nat) : decide (V.str (tx a) = V.str (tx b)) = decide (a = b) := by
  by_cases h : a = b
  · rw [h]; simp
  · rw [decide_eq_false h, decide_eq_false fun q => h (tx_inj (V.str.inj q))]
def lets : List Nat := [97, 98, 99, 100, 101, 102, 103, 104, 105, 106, 107, 108, 109, 110, 111, 112, 113, 114, 115, 116, 117, 118, 119, 120, 121, 122]
def stps : List Nat := lets ++ [45]
theorem lets_tx : (("abcdefghijklmnopqrstuvwxyz" : String) : Str) = tx lets := by decide +kernel
theorem stps_tx : (("abcdefghijklmnopqrstuvwxyz-" : String) : Str) = tx stps := by decide +kernel
theorem take_tx : (("-" : String) : Str) = tx [45] := by decide +kernel
theorem q_tx : (("q" : String) : Str) = tx [113] := by decide +kernel
theorem nil_tx : (("" : String) : Str) = tx [] := by decide +kernel
theorem mem_stps {c : Nat} : c ∈ stps ↔ c ∈ lets ∨ c = 45 := by
  unfold stps
  rw [List.mem_append, List.mem_singleton]
theorem nlets : 45 ∉ lets := by decide
theorem steps_ne {c : Nat} (h : c ∈ stps) (hc : c ≠ 45) : c ∈ lets := (mem_stps.mp h).resolve_right hc
def modeS : Mode → Str
  | .old => ("oldest" : String)
  | .new => ("newest" : String)
  | .str => ("strict" : String)
theorem modeS_inj {a b : Mode} (h : modeS a = modeS b) : a = b := by
  have h1 : ¬ (("oldest" : String) : Str) = ("newest" : String) := by decide +kernel
  have h2 : ¬ (("oldest" : String) : Str) = ("strict" : String) := by decide +kernel
  have h3 : ¬ (("newest" : String) : Str) = ("strict" : String) := by decide +kernel
  cases a <;> cases b <;> first | rfl | exact absurd h h1 | exact absurd h h2 | exact absurd h h3 | exact absurd h.symm h1 | exact absurd h.symm h2 | exact absurd h.symm h3
theorem modeS_dec (a b : Mode) : decide (V.str (modeS a) = V.str (modeS b)) = decide (a = b) := by
  by_cases h : a = b
  · rw [h]; simp
  · rw [decide_eq_false h, decide_eq_false fun q => h (modeS_inj (V.str.inj q))]

/-! ### what the top has written -/
structure Glob (K : PySem.W.Frag) (mg : Str → Option Value) : Prop where
  len : mg "len" = none
  isi : mg "isinstance" = none
  all : mg "all" = none
  tup : mg "tuple" = none
  rng : mg "range" = none
  enu : mg "enumerate" = none
  int : mg "int" = none
  str : mg "str" = none
  bool : mg "bool" = none
  list : mg "list" = none
  abs : mg "abs" = none
  max : mg "max" = none
  min : mg "min" = none
  sorted : mg "sorted" = none
  LETTERS : ∃ t, mg "LETTERS" = some (.str (("abcdefghijklmnopqrstuvwxyz" : String) : Str) t)
  STEPS : ∃ t, mg "STEPS" = some (.str (("abcdefghijklmnopqrstuvwxyz-" : String) : Str) t)
  TAKE : ∃ t, mg "TAKE" = some (.str (("-" : String) : Str) t)
  MOST : ∃ t, mg "MOST" = some (.int 100 t)
  MOST_STEPS : ∃ t, mg "MOST_STEPS" = some (.int 200 t)
  OLD : ∃ t, mg "OLD" = some (.int (-1) t)
  MODES : ∃ a, mg "MODES" = some (.ref a) ∧ ∀ H, SqT K H a [.str (modeS .old), .str (modeS .new), .str (modeS .str)]
/-- a def of the module, under its name, without defaults -/
structure TDef (K : PySem.W.Frag) (mg : Str → Option Value) (x : Str) (st : Stmt) : Prop where
  ex : ∃ f fd, mg x = some (.ref f) ∧ Fun K x x st f fd
theorem pe_gc {X : Cx} {x : Str} {v : V} {u : Value} {pos : Pos} (hg : Gl X x) (hm : X.mg x = some u) (r : RelV v u)
    (hd : (x == ("__debug__" : Str)) = false := by decide) : PE X (.Name x pos) (tC v) := pe_glob hg hm r hd
theorem pe_gStr {X : Cx} {x z : Str} {pos : Pos} (hg : Gl X x) (hm : ∃ t, X.mg x = some (.str z t))
    (hd : (x == ("__debug__" : Str)) = false := by decide) : PE X (.Name x pos) (tC (.str z)) := by
  obtain ⟨t, hm⟩ := hm
  exact pe_glob hg hm ⟨t, rfl⟩ hd
theorem pe_gInt {X : Cx} {x : Str} {z : Int} {pos : Pos} (hg : Gl X x) (hm : ∃ t, X.mg x = some (.int z t))
    (hd : (x == ("__debug__" : Str)) = false := by decide) : PE X (.Name x pos) (tC (.int z)) := by
  obtain ⟨t, hm⟩ := hm
  exact pe_glob hg hm ⟨t, rfl⟩ hd
section
variable {P : Program} {w : World} {K : PySem.W.Frag} {mg : Str → Option Value} {base : Heap}
theorem cal_of {x : Str} {st : Stmt} {N ps : List Str} {k : Nat} {sp : Sp} (T : TDef K mg x st) (S : FnScope N ps (defScope st))
    (hb : ∀ (kV doc pm : Value) (an : Option Addr) (cdv ct : Value) (us : List Value), us.length = ps.length →
      bindArgs (PySem.W.fnOf x x (defArgs st) (defBody st) (defScope st) .none kV doc pm an cdv ct) ⟨us, []⟩ = pure (ps.zip us))
    (len : ∀ vs H Q E, sp vs H Q E → vs.length = ps.length)
    (hbody : ∀ (f : Addr) (cdv : Value) (A : Around) (outer : List Env) (s : Shared) (H : Hp) (vs : List V) (Q : VK) (E : XK),
      Room k (A.deeper (envOfC x (defScope st) s.heap.objs.size f cdv)) → sp vs H Q E →
      ∃ t, PSs (cxOf CX0 P w K mg base N x (defScope st) f cdv A outer s H E).nox (defBody st) t ∧
        t { nx := fun _ H' => Q .non H', rt := Q } (start N vs) H) : Cal P w K mg base (k + 1) x sp [] := by
  obtain ⟨f, fd, hm, F⟩ := T.ex
  exact ⟨f, fd, ps, [], F.ok S len fun cdv A outer s H vs Q E hr h => hbody f cdv A outer s H vs Q E hr h, hm, F.kp, F.binds hb, .nil⟩
end

/-! ### heaps -/
theorem same_upd {H H1 : Hp} {p : Addr} {o : HO} (s : Same H H1) (h : H1 p = none) : Same H (upd H1 p o) := fun b u e => by
  have e1 := s b u e
  rw [upd_ne (ne_of_none e1 h)]
  exact e1
theorem same_upd0 {H : Hp} {p : Addr} {o : HO} (h : H p = none) : Same H (upd H p o) := same_upd (Same.refl H) h

/-! ### rows in the heap -/
/-- v is the row r -/
def RowAt (H : Hp) (v : V) : Row → Prop
  | none => v = .non
  | some (k, w) => ∃ a, v = .ref a ∧ H a = some (.tup [.int (k : Nat), .str (tx w)])
def RowsAt (H : Hp) (t : Addr) (rs : List Row) : Prop := ∃ vs, H t = some (.tup vs) ∧ Paired (RowAt H) vs rs
theorem RowAt.same {H H' : Hp} {v : V} {r : Row} (s : Same H H') (h : RowAt H v r) : RowAt H' v r := by
  cases r with
  | none => exact h
  | some p =>
    obtain ⟨a, e, q⟩ := h
    exact ⟨a, e, s _ _ q⟩
theorem paired_mono {α β : Type} {F G : α → β → Prop} (h : ∀ a b, F a b → G a b) : ∀ {l : List α} {m : List β}, Paired F l m → Paired G l m
  | _, _, .nil => .nil
  | _, _, .cons r t => .cons (h _ _ r) (paired_mono h t)
theorem paired_get {α β : Type} {F : α → β → Prop} : ∀ {l : List α} {m : List β}, Paired F l m → ∀ {i : Nat} {a : α}, l[i]? = some a → ∃ b, m[i]? = some b ∧ F a b
  | _, _, .nil, _, _, h => by simp at h
  | _, _, .cons r t, 0, _, h => by simp at h; subst h; exact ⟨_, rfl, r⟩
  | _, _, .cons _ t, i + 1, _, h => by
    obtain ⟨b, e, q⟩ := paired_get t (i := i) (by simpa using h)
    exact ⟨b, by simpa using e, q⟩
theorem paired_get' {α β : Type} {F : α → β → Prop} : ∀ {l : List α} {m : List β}, Paired F l m → ∀ {i : Nat} {b : β}, m[i]? = some b → ∃ a, l[i]? = some a ∧ F a b
  | _, _, .nil, _, _, h => by simp at h
  | _, _, .cons r t, 0, _, h => by simp at h; subst h; exact ⟨_, rfl, r⟩
  | _, _, .cons _ t, i + 1, _, h => by
    obtain ⟨b, e, q⟩ := paired_get' t (i := i) (by simpa using h)
    exact ⟨b, by simpa using e, q⟩
theorem paired_snoc {α β : Type} {F : α → β → Prop} {a : α} {b : β} (h : F a b) : ∀ {l : List α} {m : List β}, Paired F l m → Paired F (l ++ [a]) (m ++ [b])
  | _, _, .nil => .cons h .nil
  | _, _, .cons r t => .cons r (paired_snoc h t)
theorem paired_len {α β : Type} {F : α → β → Prop} {l : List α} {m : List β} (h : Paired F l m) : l.length = m.length := Paired.length h
theorem RowsAt.same {H H' : Hp} {t : Addr} {rs : List Row} (s : Same H H') (h : RowsAt H t rs) : RowsAt H' t rs := by
  obtain ⟨vs, e, p⟩ := h
  exact ⟨vs, s _ _ e, paired_mono (fun _ _ q => q.same s) p⟩
/-- an effect stands at p -/
def EffAt (C : Addr) (H : Hp) (p : Addr) (rs : List Row) : Prop := ∃ dx t, H p = some (.ins C dx [(("all_rows" : Str), .ref t)]) ∧ RowsAt H t rs
theorem EffAt.same {C : Addr} {H H' : Hp} {p : Addr} {rs : List Row} (s : Same H H') (h : EffAt C H p rs) : EffAt C H' p rs := by
  obtain ⟨dx, t, e, q⟩ := h
  exact ⟨dx, t, s _ _ e, q.same s⟩
/-- a row that fits -/
def RowOk (cap n : Nat) : Row → Prop
  | none => True
  | some (k, w) => k ≤ n ∧ k + w.length ≤ cap ∧ ∀ c ∈ w, c ∈ lets
end K53
end -- T
section -- A
set_option linter.all false
set_option maxRecDepth 100000
set_option maxHeartbeats 4000000
/-! The small defs of letters and programs. -/
namespace K53
open PySem PySem.Spec PyProof.Rows L2
abbrev sIsInteger : Stmt := top 16
abbrev sCheckInteger : Stmt := top 17
abbrev sIsTextOf : Stmt := top 18
abbrev sIsCapacity : Stmt := top 19
abbrev sCheckCapacity : Stmt := top 20
abbrev sIsMode : Stmt := top 21
abbrev sCheckMode : Stmt := top 22
abbrev sIsQueue : Stmt := top 23
abbrev sIsSequence : Stmt := top 31
abbrev sCheckSequence : Stmt := top 32

/-- a def with defaults -/
structure DDef (K : PySem.W.Frag) (mg : Str → Option Value) (x : Str) (st : Stmt) (dvs : List V) : Prop where
  ex : ∃ f fd, mg x = some (.ref f) ∧ FunD K x x (defArgs st) (defBody st) (defScope st) dvs [] f fd
theorem kit_ii {K : PySem.W.Frag} : PySem.W.kitOne K (.type "int") (.type "int") = some true := kit_ty (by decide +kernel)
theorem kit_ib {K : PySem.W.Frag} : PySem.W.kitOne K (.type "int") (.type "bool") = some false := kit_ty (by decide +kernel)
theorem kit_ss {K : PySem.W.Frag} : PySem.W.kitOne K (.type "str") (.type "str") = some true := kit_ty (by decide +kernel)
theorem kit_tt {K : PySem.W.Frag} : PySem.W.kitOne K (.type "tuple") (.type "tuple") = some true := kit_ty (by decide +kernel)

section
variable {P : Program} {w : World} {K : PySem.W.Frag} {mg : Str → Option Value} {base : Heap}

/-! is_integer(value, least=0), of ints -/
def spIsInteger : Sp := fun vs H Q _ => ∃ i l : Int, vs = [.int i, .int l] ∧ Q (.bl (decide (l ≤ i))) H
theorem scIsInteger : FnScope ["value", "least"] ["value", "least"] (defScope sIsInteger) := ⟨rfl, rfl, rfl, by decide +kernel, rfl, by decide +kernel, by decide +kernel⟩
theorem fn_isInteger (G : Glob K mg) {f : Addr} {fd : FuncData} (F : FunD K "is_integer" "is_integer" (defArgs sIsInteger) (defBody sIsInteger) (defScope sIsInteger) [.int 0] [] f fd) :
    FnOk P w K mg base CX0 1 f fd ["value", "least"] spIsInteger := by
  refine F.ok scIsInteger (fun vs H Q E h => ?_) (fun cdv A outer s H vs Q E hr h => ?_)
  · obtain ⟨i, l, rfl, _⟩ := h
    rfl
  · obtain ⟨i, l, rfl, q⟩ := h
    refine ⟨_, pss_one (ps_ret (pe_and
      (pe_callB call_isi (by rfl) G.isi boot_isinstance (pa_cons (pv 0) (pa_cons (pe_bltn (v := .ty "int") (by rfl) G.int PyProof.Rows.boot_int rfl) pa_nil)))
      (pe_and (pe_not (pe_callB call_isi (by rfl) G.isi boot_isinstance (pa_cons (pv 0) (pa_cons (pe_bltn (v := .ty "bool") (by rfl) G.bool PyProof.Rows.boot_bool rfl) pa_nil))))
        (pe_one (pe_cmpR op_ge (pv 0) (pv 1) (nomark _)))))), ?_⟩
    refine ⟨_, rfl, _, _, _, _, _, rfl, .ty _, .base (.int _), kit_ii, _, rfl, iteT ?_⟩
    refine ⟨_, rfl, _, _, _, _, _, rfl, .ty _, .base (.int _), kit_ib, _, rfl, _, rfl, iteT ?_⟩
    exact ⟨_, rfl, _, rfl, _, _, rfl, rfl, q⟩
theorem cal_isInteger2 (G : Glob K mg) (D : DDef K mg "is_integer" sIsInteger [.int 0]) : Cal P w K mg base 1 "is_integer" spIsInteger [] := by
  obtain ⟨f, fd, hm, F⟩ := D.ex
  obtain ⟨ds, r, b⟩ := F.binds1 (ps := ["value", "least"]) 2 1 (by simp) (by rfl)
    fun T kV doc pm an cdv ct us its hu hi => match us, hu, its, hi with | [_, _], _, [_], _ => ⟨_, rfl, rfl⟩
  exact ⟨f, fd, _, ds, fn_isInteger G F, hm, F.kp, b, r⟩
theorem cal_isInteger1 (G : Glob K mg) (D : DDef K mg "is_integer" sIsInteger [.int 0]) : Cal P w K mg base 1 "is_integer" spIsInteger [.int 0] := by
  obtain ⟨f, fd, hm, F⟩ := D.ex
  obtain ⟨ds, r, b⟩ := F.binds1 (ps := ["value", "least"]) 1 0 (by simp) (by rfl)
    fun T kV doc pm an cdv ct us its hu hi => match us, hu, its, hi with | [_], _, [_], _ => ⟨_, rfl, rfl⟩
  exact ⟨f, fd, _, ds, fn_isInteger G F, hm, F.kp, b, r⟩

/-! is_capacity(value), check_capacity(value) -/
def spIsCapacity : Sp := fun vs H Q _ => ∃ c : Int, vs = [.int c] ∧ 1 ≤ c ∧ c ≤ 100 ∧ Q (.bl true) H
theorem scIsCapacity : FnScope ["value"] ["value"] (defScope sIsCapacity) := ⟨rfl, rfl, rfl, by decide +kernel, rfl, by decide +kernel, by decide +kernel⟩
theorem cal_isCapacity (G : Glob K mg) (T : TDef K mg "is_capacity" sIsCapacity) (c1 : Cal P w K mg base 1 "is_integer" spIsInteger []) :
    Cal P w K mg base 2 "is_capacity" spIsCapacity [] := by
  refine cal_of T scIsCapacity (fun _ _ _ _ _ _ us hl => match us, hl with | [_], _ => rfl) (fun vs H Q E h => ?_) (fun f cdv A outer s H vs Q E hr h => ?_)
  · obtain ⟨c, rfl, _⟩ := h
    rfl
  · obtain ⟨c, rfl, h1, h2, q⟩ := h
    refine ⟨_, pss_one (ps_ret (pe_and (pe_c c1 hr (by decide) rfl (pa_cons (pv 0) (pa_cons pe_int pa_nil))) (pe_one (pe_cmpR op_le (pv 0) (pe_gInt rfl G.MOST) (nomark _))))), ?_⟩
    refine ⟨_, rfl, _, _, rfl, _, rfl, ?_⟩
    rw [decide_eq_true h1]
    refine iteT ⟨_, rfl, _, _, rfl, rfl, ?_⟩
    show Q (.bl (decide (c ≤ 100))) H
    rw [decide_eq_true h2]
    exact q
def spCheckCapacity : Sp := fun vs H Q _ => ∃ c : Int, vs = [.int c] ∧ 1 ≤ c ∧ c ≤ 100 ∧ Q .non H
theorem scCheckCapacity : FnScope ["value"] ["value"] (defScope sCheckCapacity) := ⟨rfl, rfl, rfl, by decide +kernel, rfl, by decide +kernel, by decide +kernel⟩
theorem cal_checkCapacity (T : TDef K mg "check_capacity" sCheckCapacity) (c1 : Cal P w K mg base 2 "is_capacity" spIsCapacity []) :
    Cal P w K mg base 3 "check_capacity" spCheckCapacity [] := by
  refine cal_of T scCheckCapacity (fun _ _ _ _ _ _ us hl => match us, hl with | [_], _ => rfl) (fun vs H Q E h => ?_) (fun f cdv A outer s H vs Q E hr h => ?_)
  · obtain ⟨c, rfl, _⟩ := h
    rfl
  · obtain ⟨c, rfl, h1, h2, q⟩ := h
    refine ⟨_, pss_one (ps_if (pt_not (pt_val (pe_c c1 hr (by decide) rfl (pa_cons (pv 0) pa_nil)))) (pss_one ps_never) pss_nil), ?_⟩
    exact ⟨_, rfl, _, rfl, h1, h2, _, rfl, iteF q⟩

/-! is_mode(value), check_mode(value) -/
def spIsMode : Sp := fun vs H Q _ => ∃ m : Mode, vs = [.str (modeS m)] ∧ Q (.bl true) H
theorem scIsMode : FnScope ["value"] ["value"] (defScope sIsMode) := ⟨rfl, rfl, rfl, by decide +kernel, rfl, by decide +kernel, by decide +kernel⟩
theorem in_modes (m : Mode) : inV (.str (modeS m)) [.str (modeS .old), .str (modeS .new), .str (modeS .str)] = true := by
  cases m <;> decide +kernel
theorem cal_isMode (G : Glob K mg) (T : TDef K mg "is_mode" sIsMode) : Cal P w K mg base 1 "is_mode" spIsMode [] := by
  refine cal_of T scIsMode (fun _ _ _ _ _ _ us hl => match us, hl with | [_], _ => rfl) (fun vs H Q E h => ?_) (fun f cdv A outer s H vs Q E hr h => ?_)
  · obtain ⟨c, rfl, _⟩ := h
    rfl
  · obtain ⟨m, rfl, q⟩ := h
    obtain ⟨a, hM, hS⟩ := G.MODES
    refine ⟨_, pss_one (ps_ret (pe_and
      (pe_callB call_isi (by rfl) G.isi boot_isinstance (pa_cons (pv 0) (pa_cons (pe_bltn (v := .ty "str") (by rfl) G.str PyProof.Rows.boot_str rfl) pa_nil)))
      (pe_one (pe_cmpR op_in_seq (pv 0) (pe_gc (v := .ref a) rfl hM rfl) rfl)))), ?_⟩
    refine ⟨_, rfl, _, _, _, _, _, rfl, .ty _, .base (.str _), kit_ss, _, rfl, iteT ?_⟩
    refine ⟨_, rfl, a, _, rfl, .inr (hS _), rfl, rfl, ?_⟩
    rw [if_neg Bool.false_ne_true, in_modes]
    exact q
def spCheckMode : Sp := fun vs H Q _ => ∃ m : Mode, vs = [.str (modeS m)] ∧ Q .non H
theorem scCheckMode : FnScope ["value"] ["value"] (defScope sCheckMode) := ⟨rfl, rfl, rfl, by decide +kernel, rfl, by decide +kernel, by decide +kernel⟩
theorem cal_checkMode (T : TDef K mg "check_mode" sCheckMode) (c1 : Cal P w K mg base 1 "is_mode" spIsMode []) : Cal P w K mg base 2 "check_mode" spCheckMode [] := by
  refine cal_of T scCheckMode (fun _ _ _ _ _ _ us hl => match us, hl with | [_], _ => rfl) (fun vs H Q E h => ?_) (fun f cdv A outer s H vs Q E hr h => ?_)
  · obtain ⟨c, rfl, _⟩ := h
    rfl
  · obtain ⟨m, rfl, q⟩ := h
    refine ⟨_, pss_one (ps_if (pt_not (pt_val (pe_c c1 hr (by decide) rfl (pa_cons (pv 0) pa_nil)))) (pss_one ps_never) pss_nil), ?_⟩
    exact ⟨_, rfl, m, rfl, _, rfl, iteF q⟩

/-! is_text_of(value, letters) -/
def spIsTextOf : Sp := fun vs H Q _ => ∃ s z : List Nat, vs = [.str (tx s), .str (tx z)] ∧ s.length ≤ 1000 ∧ (∀ c ∈ s, c ∈ z) ∧ ∀ H', Same H H' → Q (.bl true) H'
theorem scIsTextOf : FnScope ["value", "letters", "letter"] ["value", "letters"] (defScope sIsTextOf) := ⟨rfl, rfl, rfl, by decide +kernel, rfl, by decide +kernel, by decide +kernel⟩
theorem boot_all : bootBuiltins "all" = some (.builtin "all") := by decide +kernel
theorem cal_isTextOf (G : Glob K mg) (T : TDef K mg "is_text_of" sIsTextOf) : Cal P w K mg base 1 "is_text_of" spIsTextOf [] := by
  refine cal_of T scIsTextOf (fun _ _ _ _ _ _ us hl => match us, hl with | [_, _], _ => rfl) (fun vs H Q E h => ?_) (fun f cdv A outer s H vs Q E hr h => ?_)
  · obtain ⟨s, z, rfl, _⟩ := h
    rfl
  · obtain ⟨s, z, rfl, hl, hin, q⟩ := h
    refine ⟨_, pss_one (ps_ret (pe_and
      (pe_callB call_isi (by rfl) G.isi boot_isinstance (pa_cons (pv 0) (pa_cons (pe_bltn (v := .ty "str") (by rfl) G.str PyProof.Rows.boot_str rfl) pa_nil)))
      (pe_one (pe_callB (cr_all rfl) (by rfl) G.all boot_all (pa_cons
        (pe_lc (own := [("letter", 2)]) (g := gName 2) (tt := tYes) rfl scIsTextOf.nd (pi_str (pv 0))
          (blkOk_by (N := ["value", "letters", "letter"]) (sc := defScope sIsTextOf) (by decide +kernel))
          (fun _ _ _ _ _ => pg_name (i := 2) scIsTextOf.nd rfl (Or.inl rfl)) (fun _ _ _ _ _ => pts_nil)
          (fun _ _ _ _ _ => pe_cmpR op_in_sign (pv 2) (pv 1) rfl)) pa_nil))))), ?_⟩
    refine ⟨_, rfl, _, _, _, _, _, rfl, .ty _, .base (.str _), kit_ss, _, rfl, iteT ?_⟩
    refine ⟨_, rfl, _, rfl, fun D hD => lc_it walk_str (fun i H' => Same H H' ∧ H' D = some (.lst (List.replicate i (V.bl true)))) ⟨same_upd0 hD, upd_same⟩ (fun _ _ _ _ => trivial) ?_ ?_⟩
    · rintro i x H1 H2 hi ⟨s1, h1⟩ ⟨rfl, c, hc, rfl⟩
      have hi' : i < s.length := by simpa using hi
      have hc' : s[i]? = some c := by simpa using hc
      have hmem : c ∈ z := hin c (List.mem_of_getElem? hc')
      refine ⟨rfl, _, rfl, _, rfl, c, tx z, rfl, rfl, ?_⟩
      have e : decide (c ∈ (tx z).cps.toList) = true := decide_eq_true (by simpa using hmem)
      rw [e]
      refine ⟨_, h1, by rw [List.length_replicate]; exact small1000 (by omega), fun b o q => ?_, ?_⟩
      · have q1 := s1 b o q
        rw [upd_ne (ne_of_none q hD)]
        exact q1
      · rw [upd_same, List.replicate_succ']
    · rintro H1 ⟨s1, h1⟩
      refine ⟨D, List.replicate s.length true, rfl, SqL.of ?_, ?_⟩
      · rw [List.map_replicate]
        simpa using h1
      · have e : (List.replicate s.length true).all id = true := by
          rw [List.all_eq_true]
          intro x hx
          rw [List.eq_of_mem_replicate hx]
          rfl
        rw [e]
        exact q _ s1
end
end K53
end -- A
section -- B
set_option linter.all false
set_option maxRecDepth 100000
set_option maxHeartbeats 4000000
/-! is_queue, is_sequence, check_sequence, check_integer, span_of, parse, items_of. -/
namespace K53
open PySem PySem.Spec PyProof.Rows L2
abbrev sSpanOf : Stmt := top 33
abbrev sParse : Stmt := top 35
abbrev sItemsOf : Stmt := top 36
section
variable {P : Program} {w : World} {K : PySem.W.Frag} {mg : Str → Option Value} {base : Heap}

/-! is_queue(value, capacity), both given -/
def spIsQueue : Sp := fun vs H Q _ => ∃ (s : List Nat) (c : Int), vs = [.str (tx s), .int c] ∧ 1 ≤ c ∧ c ≤ 100 ∧ (s.length : Int) ≤ c ∧ (∀ x ∈ s, x ∈ lets) ∧ ∀ H', Same H H' → Q (.bl true) H'
theorem scIsQueue : FnScope ["value", "capacity"] ["value", "capacity"] (defScope sIsQueue) := ⟨rfl, rfl, rfl, by decide +kernel, rfl, by decide +kernel, by decide +kernel⟩
theorem cal_isQueue (G : Glob K mg) (D : DDef K mg "is_queue" sIsQueue [.int 100]) (c1 : Cal P w K mg base 3 "check_capacity" spCheckCapacity [])
    (c2 : Cal P w K mg base 1 "is_text_of" spIsTextOf []) : Cal P w K mg base 4 "is_queue" spIsQueue [] := by
  obtain ⟨f, fd, hm, F⟩ := D.ex
  obtain ⟨ds, r, b⟩ := F.binds1 (ps := ["value", "capacity"]) 2 1 (by simp) (by rfl)
    fun T kV doc pm an cdv ct us its hu hi => match us, hu, its, hi with | [_, _], _, [_], _ => ⟨_, rfl, rfl⟩
  refine ⟨f, fd, _, ds, ?_, hm, F.kp, b, r⟩
  refine F.ok scIsQueue (fun vs H Q E h => ?_) (fun cdv A outer s H vs Q E hr h => ?_)
  · obtain ⟨s, c, rfl, _⟩ := h
    rfl
  · obtain ⟨s, c, rfl, h1, h2, h3, h4, q⟩ := h
    refine ⟨_, pss_cons (ps_expr (pe_c c1 hr (by decide) rfl (pa_cons (pv 1) pa_nil))) (pss_one (ps_ret (pe_and
      (pe_c c2 hr (by decide) rfl (pa_cons (pv 0) (pa_cons (pe_gStr rfl G.LETTERS) pa_nil)))
      (pe_one (pe_cmpR op_le (pe_callB call_len_str (by rfl) G.len PySem.boot_len (pa_cons (pv 0) pa_nil)) (pv 1) (nomark _)))))), ?_⟩
    refine ⟨_, rfl, c, rfl, h1, h2, ?_⟩
    refine ⟨_, rfl, s, lets, by rw [lets_tx]; rfl, by omega, h4, fun H' s1 => ⟨_, rfl, iteT ?_⟩⟩
    refine ⟨_, rfl, tx s, rfl, by rw [tx_len]; exact Nat.le_trans (show s.length ≤ 100 by omega) (by decide), _, rfl, _, _, rfl, rfl, ?_⟩
    show Q (.bl (decide (((tx s).length : Int) ≤ c))) H'
    rw [tx_len, decide_eq_true h3]
    exact q _ s1

/-! is_sequence(value), check_sequence(value) -/
def spIsSequence : Sp := fun vs H Q _ => ∃ s : List Nat, vs = [.str (tx s)] ∧ s.length ≤ 200 ∧ (∀ x ∈ s, x ∈ stps) ∧ ∀ H', Same H H' → Q (.bl true) H'
theorem scIsSequence : FnScope ["value"] ["value"] (defScope sIsSequence) := ⟨rfl, rfl, rfl, by decide +kernel, rfl, by decide +kernel, by decide +kernel⟩
theorem cal_isSequence (G : Glob K mg) (T : TDef K mg "is_sequence" sIsSequence) (c2 : Cal P w K mg base 1 "is_text_of" spIsTextOf []) :
    Cal P w K mg base 2 "is_sequence" spIsSequence [] := by
  refine cal_of T scIsSequence (fun _ _ _ _ _ _ us hl => match us, hl with | [_], _ => rfl) (fun vs H Q E h => ?_) (fun f cdv A outer s H vs Q E hr h => ?_)
  · obtain ⟨s, rfl, _⟩ := h
    rfl
  · obtain ⟨s, rfl, h1, h2, q⟩ := h
    refine ⟨_, pss_one (ps_ret (pe_c c2 hr (by decide) rfl (pa_cons (pv 0) (pa_cons (pe_gStr rfl G.STEPS) pa_nil)))), ?_⟩
    exact ⟨_, rfl, s, stps, by rw [stps_tx]; rfl, by omega, h2, fun H' s1 => q H' s1⟩
def spCheckSequence : Sp := fun vs H Q _ => ∃ s : List Nat, vs = [.str (tx s)] ∧ s.length ≤ 200 ∧ (∀ x ∈ s, x ∈ stps) ∧ ∀ H', Same H H' → Q .non H'
theorem scCheckSequence : FnScope ["value"] ["value"] (defScope sCheckSequence) := ⟨rfl, rfl, rfl, by decide +kernel, rfl, by decide +kernel, by decide +kernel⟩
theorem cal_checkSequence (T : TDef K mg "check_sequence" sCheckSequence) (c1 : Cal P w K mg base 2 "is_sequence" spIsSequence []) :
    Cal P w K mg base 3 "check_sequence" spCheckSequence [] := by
  refine cal_of T scCheckSequence (fun _ _ _ _ _ _ us hl => match us, hl with | [_], _ => rfl) (fun vs H Q E h => ?_) (fun f cdv A outer s H vs Q E hr h => ?_)
  · obtain ⟨s, rfl, _⟩ := h
    rfl
  · obtain ⟨s, rfl, h1, h2, q⟩ := h
    refine ⟨_, pss_one (ps_if (pt_not (pt_val (pe_c c1 hr (by decide) rfl (pa_cons (pv 0) pa_nil)))) (pss_one ps_never) pss_nil), ?_⟩
    exact ⟨_, rfl, s, rfl, h1, h2, fun H' s1 => ⟨_, rfl, iteF (q H' s1)⟩⟩

/-! check_integer(value, least, greatest), all given -/
def spCheckInteger : Sp := fun vs H Q _ => ∃ i lo hi : Int, vs = [.int i, .int lo, .int hi] ∧ lo ≤ i ∧ i ≤ hi ∧ Q .non H
theorem scCheckInteger : FnScope ["value", "least", "greatest"] ["value", "least", "greatest"] (defScope sCheckInteger) := ⟨rfl, rfl, rfl, by decide +kernel, rfl, by decide +kernel, by decide +kernel⟩
theorem cal_checkInteger (D : DDef K mg "check_integer" sCheckInteger [.int 0, .non]) (c1 : Cal P w K mg base 1 "is_integer" spIsInteger []) :
    Cal P w K mg base 2 "check_integer" spCheckInteger [] := by
  obtain ⟨f, fd, hm, F⟩ := D.ex
  obtain ⟨ds, r, b⟩ := F.binds1 (ps := ["value", "least", "greatest"]) 3 2 (by simp) (by rfl)
    fun T kV doc pm an cdv ct us its hu hi => match us, hu, its, hi with | [_, _, _], _, [_, _], _ => ⟨_, rfl, rfl⟩
  refine ⟨f, fd, _, ds, ?_, hm, F.kp, b, r⟩
  refine F.ok scCheckInteger (fun vs H Q E h => ?_) (fun cdv A outer s H vs Q E hr h => ?_)
  · obtain ⟨i, lo, hi, rfl, _⟩ := h
    rfl
  · obtain ⟨i, lo, hi, rfl, h1, h2, q⟩ := h
    refine ⟨_, pss_one (ps_if (PW.pt (pw_or (pt_not (pt_val (pe_c c1 hr (by decide) rfl (pa_cons (pv 0) (pa_cons (pv 1) pa_nil)))))
      (pw_or1 (PW.pt (pw_and (pt_cmp (pc_notN (pv 2))) (pw_and1 (pt_cmpR op_gt (pv 0) (pv 2) (nomark _)))))))) (pss_one ps_never) pss_nil), ?_⟩
    refine ⟨_, rfl, _, rfl, i, lo, rfl, _, rfl, ?_⟩
    rw [decide_eq_true h1]
    refine iteF ⟨_, rfl, _, rfl, ?_⟩
    refine iteT ⟨_, rfl, _, rfl, _, _, rfl, rfl, _, rfl, ?_⟩
    rw [decide_eq_false (by omega)]
    exact iteF q

/-! span_of(text, 0, STEPS) -/
def spSpanOf : Sp := fun vs H Q _ => ∃ s : List Nat, vs = [.str (tx s), .int 0, .str (tx stps)] ∧ s.length ≤ 200 ∧ (∀ x ∈ s, x ∈ stps) ∧ Q (.int (s.length : Nat)) H
theorem scSpanOf : FnScope ["text", "start", "characters", "end"] ["text", "start", "characters"] (defScope sSpanOf) := ⟨rfl, rfl, rfl, by decide +kernel, rfl, by decide +kernel, by decide +kernel⟩
theorem atI_nat' {α : Type} {xs : List α} {i : Nat} {x : α} (h : xs[i]? = some x) : atI xs (i : Nat) = some x := by
  have hl := (List.getElem?_eq_some_iff.mp h).1
  unfold atI ixN
  rw [if_pos (by omega), if_pos (by omega)]
  simpa using h
theorem cal_spanOf (G : Glob K mg) (T : TDef K mg "span_of" sSpanOf) : Cal P w K mg base 1 "span_of" spSpanOf [] := by
  refine cal_of T scSpanOf (fun _ _ _ _ _ _ us hl => match us, hl with | [_, _, _], _ => rfl) (fun vs H Q E h => ?_) (fun f cdv A outer s H vs Q E hr h => ?_)
  · obtain ⟨s, rfl, _⟩ := h
    rfl
  · obtain ⟨s, rfl, h1, h2, q⟩ := h
    have hsz : (tx s).length ≤ sizeLine := by rw [tx_len]; exact Nat.le_trans h1 (by decide)
    refine ⟨_, pss_cons (ps_set (i := 3) scSpanOf.nd rfl (Or.inl rfl) (pv 1)) (pss_cons (ps_while PassesOwn.never
      (PW.pt (pw_and (pt_cmpR op_lt (pv 3) (pe_callB call_len_str (by rfl) G.len PySem.boot_len (pa_cons (pv 0) pa_nil)) (nomark _))
        (pw_and1 (pt_cmpR op_in_sign (pe_ix ix_str (pv 0) (pv 3) (fun _ _ => rfl)) (pv 2) rfl))))
      (pss_one (ps_aug (i := 3) scSpanOf.nd rfl (Or.inl rfl) pe_int ip_add))) (pss_one (ps_ret (pv 3)))), ?_⟩
    refine ⟨_, rfl, fun m σ H' => ∃ i : Nat, i ≤ s.length ∧ m = s.length - i ∧ H' = H ∧ σ = [some (.str (tx s)), some (.int 0), some (.str (tx stps)), some (.int (i : Nat))],
      ⟨_, 0, Nat.zero_le _, rfl, rfl, rfl⟩, ?_⟩
    rintro m σ H' ⟨i, hi, rfl, rfl, rfl⟩
    refine ⟨_, rfl, _, rfl, tx s, rfl, hsz, _, _, rfl, rfl, _, rfl, ?_⟩
    by_cases hlt : i < s.length
    · have e1 : decide (((i : Nat) : Int) < ((tx s).length : Nat)) = true := decide_eq_true (by rw [tx_len]; omega)
      rw [e1]
      refine iteT ⟨_, rfl, _, rfl, tx s, _, s[i], rfl, rfl, hsz, atI_nat' (by simp [hlt]), _, rfl, s[i], tx stps, rfl, rfl, _, rfl, ?_⟩
      have e2 : decide (s[i] ∈ (tx stps).cps.toList) = true := decide_eq_true (by simpa using h2 _ (List.getElem_mem hlt))
      rw [e2]
      refine iteT ⟨fun σ' H2 => ∃ j : Nat, j ≤ s.length ∧ j = i + 1 ∧ H2 = H' ∧ σ' = [some (.str (tx s)), some (.int 0), some (.str (tx stps)), some (.int (j : Nat))],
        fun σ' H2 ⟨j, h1, h2, h3, h4⟩ => ⟨s.length - j, by omega, j, h1, rfl, h3, h4⟩, ?_⟩
      exact ⟨_, rfl, _, _, rfl, rfl, i + 1, hlt, rfl, rfl, rfl⟩
    · have e1 : decide (((i : Nat) : Int) < ((tx s).length : Nat)) = false := decide_eq_false (by rw [tx_len]; omega)
      rw [e1]
      refine iteF (iteF ?_)
      have e : i = s.length := by omega
      subst e
      exact ⟨_, rfl, q⟩

/-! parse(text) of a sequence, items_of(program) -/
def itemsOf (s : List Nat) : List V := if s = [] then [] else [.str (tx s)]
def spParse : Sp := fun vs H Q _ => ∃ s : List Nat, vs = [.str (tx s)] ∧ s.length ≤ 200 ∧ (∀ x ∈ s, x ∈ stps) ∧
  ∀ H' p, Same H H' → H' p = some (.lst (itemsOf s)) → Q (.ref p) H'
theorem scParse : FnScope ["text", "open_lists", "at", "end", "items"] ["text"] (defScope sParse) := ⟨rfl, rfl, rfl, by decide +kernel, rfl, by decide +kernel, by decide +kernel⟩
theorem cutS_all (s : List Nat) : cutS (tx s) (some (0 : Nat)) (some (s.length : Nat)) = tx s := by
  unfold cutS
  have e1 : HT.sIx (tx s).length 0 (some ((0 : Nat) : Int)) = 0 := by simp [HT.sIx]
  have e2 : HT.sIx (tx s).length (tx s).length (some ((s.length : Nat) : Int)) = s.length := by
    rw [tx_len]
    simp [HT.sIx]
    omega
  rw [e1, e2]
  simp
theorem cal_parse (G : Glob K mg) (T : TDef K mg "parse" sParse) (c1 : Cal P w K mg base 1 "span_of" spSpanOf []) : Cal P w K mg base 2 "parse" spParse [] := by
  refine cal_of T scParse (fun _ _ _ _ _ _ us hl => match us, hl with | [_], _ => rfl) (fun vs H Q E h => ?_) (fun f cdv A outer s H vs Q E hr h => ?_)
  · obtain ⟨s, rfl, _⟩ := h
    rfl
  · obtain ⟨s, rfl, h1, h2, q⟩ := h
    have hsz : (tx s).length ≤ sizeLine := by rw [tx_len]; exact Nat.le_trans h1 (by decide)
    refine ⟨_, pss_cons (ps_set (i := 1) scParse.nd rfl (Or.inl rfl) (pe_lst (pa_cons (pe_lst pa_nil) pa_nil)))
      (pss_cons (ps_set (i := 2) scParse.nd rfl (Or.inl rfl) pe_int)
      (pss_cons (ps_while PassesOwn.never (pt_cmpR op_lt (pv 2) (pe_callB call_len_str (by rfl) G.len PySem.boot_len (pa_cons (pv 0) pa_nil)) (nomark _))
        (pss_one (ps_ifW (ptw_cmp op_gt (pew_named (i := 3) scParse.nd rfl (Or.inl rfl) (pew_of (pe_c c1 hr (by decide) rfl (pa_cons (pv 0) (pa_cons (pv 2) (pa_cons (pe_gStr rfl G.STEPS) pa_nil)))))) (pv 2) (nomark _))
          (pss_cons (ps_expr (pe_bm PySem.F.plainAttrs_list PySem.F.slot_list_append PySem.F.type_list_append mt_append (pe_ix ix_list (pv 1) (pe_un un_neg pe_int) (fun _ _ => rfl))
              (pa_cons (pe_slice sl_str (pv 0) (po_some (pv 2)) (po_some (pv 3))) pa_nil)))
            (pss_one (ps_set (i := 2) scParse.nd rfl (Or.inl rfl) (pv 3))))
          (pss_one ps_never))))
      (pss_one (ps_ret (pe_ifExp (pt_cmpR op_eq (pe_callB call_len_seq (by rfl) G.len PySem.boot_len (pa_cons (pv 1) pa_nil)) pe_int (nomark _))
        (pe_ix ix_list (pv 1) pe_int (fun _ _ => rfl)) pe_non))))), ?_⟩
    refine ⟨Nat.zero_le _, fun l0 n0 => ⟨by show 1 ≤ sizeLine; decide, fun l1 n1 => ?_⟩⟩
    have ne : l0 ≠ l1 := fun e => by
      rw [← e, upd_same] at n1
      cases n1
    have n1' : H l1 = none := by
      rw [upd_ne ne.symm] at n1
      exact n1
    refine ⟨fun m σ H' => ∃ (i : Nat) (e : Option V), (i = 0 ∨ i = s.length) ∧ m = s.length - i ∧ Same H H' ∧ H' l1 = some (.lst [.ref l0]) ∧
        H' l0 = some (.lst (if i = 0 then [] else [.str (tx s)])) ∧ σ = [some (.str (tx s)), some (.ref l1), some (.int (i : Nat)), e, none],
      ⟨_, 0, none, .inl rfl, rfl, same_upd (same_upd0 n0) n1, upd_same, by rw [upd_ne ne, upd_same]; rfl, rfl⟩, ?_⟩
    rintro m σ H' ⟨i, e, hi, rfl, s1, g1, g0, rfl⟩
    refine ⟨_, rfl, _, rfl, tx s, rfl, hsz, _, _, rfl, rfl, _, rfl, ?_⟩
    by_cases hlt : i < s.length
    · have e1 : decide (((i : Nat) : Int) < ((tx s).length : Nat)) = true := decide_eq_true (by rw [tx_len]; omega)
      rw [e1]
      have hi0 : i = 0 := by omega
      subst hi0
      refine iteT ⟨fun σ' H2 => σ' = [some (.str (tx s)), some (.ref l1), some (.int (s.length : Nat)), some (.int (s.length : Nat)), none] ∧ Same H H2 ∧ H2 l1 = some (.lst [.ref l0]) ∧ H2 l0 = some (.lst [.str (tx s)]),
        fun σ' H2 ⟨z1, z2, z3, z4⟩ => ⟨0, by omega, s.length, _, .inr rfl, by omega, z2, z3, by rw [if_neg (by omega)]; exact z4, z1⟩, ?_⟩
      refine ⟨_, rfl, _, rfl, s, by rw [stps_tx]; rfl, h1, h2, ?_⟩
      refine ⟨_, rfl, _, _, rfl, rfl, _, rfl, ?_⟩
      have e2 : decide (((0 : Nat) : Int) < (s.length : Nat)) = true := decide_eq_true (by omega)
      rw [e2]
      refine iteT ?_
      refine ⟨_, rfl, 1, rfl, l1, [.ref l0], -1, .ref l0, rfl, rfl, SqL.of g1, rfl, .inl ⟨rfl, _, SqL.of g0⟩, ?_⟩
      refine ⟨_, rfl, _, rfl, _, rfl, _, rfl, _, rfl, tx s, rfl, hsz, ?_⟩
      rw [cutS_all]
      refine ⟨l0, _, _, rfl, rfl, g0, (by show 0 < sizeLine; decide), ?_⟩
      refine ⟨_, rfl, rfl, fun b o z => ?_, by rw [upd_ne ne.symm]; exact g1, by rw [upd_same]; rfl⟩
      rw [upd_ne (ne_of_none z n0)]
      exact s1 b o z
    · have e1 : decide (((i : Nat) : Int) < ((tx s).length : Nat)) = false := decide_eq_false (by rw [tx_len]; omega)
      rw [e1]
      refine iteF ?_
      refine ⟨_, rfl, l1, _, rfl, .inl (SqL.of g1), rfl, _, rfl, iteT ?_⟩
      refine ⟨_, rfl, l1, [.ref l0], 0, .ref l0, rfl, rfl, SqL.of g1, rfl, ?_⟩
      refine q H' l0 s1 ?_
      rw [g0]
      unfold itemsOf
      by_cases hs : s = []
      · subst hs
        have : i = 0 := by simp at hi; exact hi
        rw [if_pos this, if_pos rfl]
      · have hs' : s.length ≠ 0 := fun z => hs (List.length_eq_zero_iff.mp z)
        rw [if_neg (by omega), if_neg hs]
def spItemsOf : Sp := spParse
theorem scItemsOf : FnScope ["program", "items"] ["program"] (defScope sItemsOf) := ⟨rfl, rfl, rfl, by decide +kernel, rfl, by decide +kernel, by decide +kernel⟩
theorem cal_itemsOf (G : Glob K mg) (T : TDef K mg "items_of" sItemsOf) (c1 : Cal P w K mg base 2 "parse" spParse []) : Cal P w K mg base 3 "items_of" spItemsOf [] := by
  refine cal_of T scItemsOf (fun _ _ _ _ _ _ us hl => match us, hl with | [_], _ => rfl) (fun vs H Q E h => ?_) (fun f cdv A outer s H vs Q E hr h => ?_)
  · obtain ⟨s, rfl, _⟩ := h
    rfl
  · obtain ⟨s, rfl, h1, h2, q⟩ := h
    refine ⟨_, pss_cons (ps_set (i := 1) scItemsOf.nd rfl (Or.inl rfl) (pe_ifExp
        (pt_val (pe_callB call_isi (by rfl) G.isi boot_isinstance (pa_cons (pv 0) (pa_cons (pe_bltn (v := .ty "str") (by rfl) G.str PyProof.Rows.boot_str rfl) pa_nil))))
        (pe_c c1 hr (by decide) rfl (pa_cons (pv 0) pa_nil)) pe_non))
      (pss_cons (ps_if (pt_cmp (pc_isN (pv 1))) (pss_one ps_never) pss_nil) (pss_one (ps_ret (pv 1)))), ?_⟩
    refine ⟨_, rfl, _, _, _, _, _, rfl, .ty _, .base (.str _), kit_ss, _, rfl, iteT ?_⟩
    refine ⟨_, rfl, s, rfl, h1, h2, fun H' p s1 g => ?_⟩
    refine ⟨_, rfl, _, rfl, iteF ⟨_, rfl, q H' p s1 g⟩⟩
end
end K53
end -- B
section -- C
set_option linter.all false
set_option maxRecDepth 100000
set_option maxHeartbeats 4000000
/-! identity_rows, row_after, rows_of, is_row. -/
namespace K53
open PySem PySem.Spec PyProof.Rows L2
abbrev sIsRow : Stmt := top 38
abbrev sIdentityRows : Stmt := top 41
abbrev sRowAfter : Stmt := top 46
abbrev sRowsOf : Stmt := top 47
theorem same_updD {H0 H : Hp} {D : Addr} {o : HO} (s : Same H0 H) (n : H0 D = none) : Same H0 (upd H D o) := fun b u e => by
  rw [upd_ne (ne_of_none e n)]
  exact s b u e
theorem row_updD {H : Hp} {D : Addr} {o : HO} {xs : List V} {v : V} {r : Row} (h : RowAt H v r) (hD : H D = some (.lst xs)) : RowAt (upd H D o) v r := by
  cases r with
  | none => exact h
  | some p =>
    obtain ⟨a, e, q⟩ := h
    exact ⟨a, e, by rw [upd_ne (ne_of q hD (by intro z; cases z))]; exact q⟩
theorem cutS_1 (s : List Nat) : cutS (tx s) (some 1) none = tx (s.drop 1) := by
  unfold cutS
  cases s with
  | nil => rfl
  | cons c s =>
    have e1 : HT.sIx (tx (c :: s)).length 0 (some (1 : Int)) = 1 := by
      rw [tx_len]
      simp [HT.sIx]
    have e2 : HT.sIx (tx (c :: s)).length (tx (c :: s)).length none = s.length + 1 := by
      rw [tx_len]
      simp [HT.sIx]
    rw [e1, e2]
    simp
section
variable {P : Program} {w : World} {K : PySem.W.Frag} {mg : Str → Option Value} {base : Heap}

/-! identity_rows(capacity) -/
def idRows (cap : Nat) : List Row := (List.range (cap + 1)).map fun n => some (n, [])
def spIdentityRows : Sp := fun vs H Q _ => ∃ cap : Nat, vs = [.int (cap : Nat)] ∧ cap ≤ 100 ∧ ∀ H' p, Same H H' → RowsAt H' p (idRows cap) → Q (.ref p) H'
theorem scIdentityRows : FnScope ["capacity", "length"] ["capacity"] (defScope sIdentityRows) := ⟨rfl, rfl, rfl, by decide +kernel, rfl, by decide +kernel, by decide +kernel⟩
theorem cal_identityRows (G : Glob K mg) (T : TDef K mg "identity_rows" sIdentityRows) : Cal P w K mg base 1 "identity_rows" spIdentityRows [] := by
  refine cal_of T scIdentityRows (fun _ _ _ _ _ _ us hl => match us, hl with | [_], _ => rfl) (fun vs H Q E h => ?_) (fun f cdv A outer s H vs Q E hr h => ?_)
  · obtain ⟨cap, rfl, _⟩ := h
    rfl
  · obtain ⟨cap, rfl, h1, q⟩ := h
    refine ⟨_, pss_one (ps_ret (pe_callTy call_tuple_of (by rfl) G.tup PyProof.Rows.boot_tuple (pa_cons
      (pe_lc (own := [("length", 1)]) (g := gName 1) (tt := tYes) rfl scIdentityRows.nd (pi_range1 rfl G.rng (pa_cons (pe_op op_add (pv 0) pe_int) pa_nil))
        (blkOk_by (N := ["capacity", "length"]) (sc := defScope sIdentityRows) (by decide +kernel))
        (fun _ _ _ _ _ => pg_name (i := 1) scIdentityRows.nd rfl (Or.inl rfl)) (fun _ _ _ _ _ => pts_nil)
        (fun _ _ _ _ _ => pe_tup (pa_cons (pv 1) (pa_cons pe_str pa_nil)))) pa_nil))), ?_⟩
    refine ⟨_, rfl, _, _, rfl, rfl, _, rfl, by omega, by omega, fun D hD => ?_⟩
    have e1 : (((cap : Nat) : Int) + 1).toNat = cap + 1 := by omega
    rw [e1]
    refine lc_it walk_range (fun i H' => Same H H' ∧ ∃ vs, H' D = some (.lst vs) ∧ Paired (RowAt H') vs ((List.range i).map fun n => some (n, [])))
      ⟨same_upd0 hD, [], upd_same, .nil⟩ (fun _ _ _ _ => trivial) ?_ ?_
    · rintro i x H1 H2 hi ⟨s1, vs, g, pr⟩ ⟨rfl, rfl⟩
      have hlen : vs.length = i := by rw [paired_len pr]; simp
      refine ⟨rfl, _, rfl, by show 2 ≤ sizeLine; decide, fun T nT => ?_⟩
      have nTD : D ≠ T := ne_of_none g nT
      refine ⟨vs, by rw [upd_ne nTD]; exact g, by rw [hlen]; exact small1000 (by omega), same_updD (same_upd s1 nT) hD, _, upd_same, ?_⟩
      rw [List.range_succ, List.map_append]
      have sT : Same H2 (upd H2 T (.tup [.int (0 + (i : Nat)), .str (("" : String) : Str)])) := same_upd0 nT
      refine paired_snoc ?_ (paired_mono (fun a b r => row_updD (r.same sT) (by rw [upd_ne nTD]; exact g)) pr)
      refine ⟨T, rfl, ?_⟩
      rw [upd_ne nTD.symm, upd_same, nil_tx]
      show some (HO.tup [V.int (0 + ((i : Nat) : Int)), V.str (tx [])]) = _
      rw [Int.zero_add]
    · rintro H1 ⟨s1, vs, g, pr⟩
      refine ⟨D, vs, rfl, .inl ⟨SqL.of g, fun l nl => q _ l (same_upd s1 nl) ⟨vs, upd_same, ?_⟩⟩⟩
      exact paired_mono (fun a b r => r.same (same_upd0 nl)) pr

/-! row_after(row, step, capacity, mode) -/
def Small : Row → Prop
  | none => True
  | some (k, w) => k ≤ 1000 ∧ w.length ≤ 1000
def spRowAfter : Sp := fun vs H Q _ => ∃ (v : V) (r : Row) (c cap : Nat) (m : Mode), vs = [v, .str (tx [c]), .int (cap : Nat), .str (modeS m)] ∧ RowAt H v r ∧ Small r ∧
  ∀ H' v', Same H H' → RowAt H' v' (stepRow cap m r (stp c)) → Q v' H'
theorem scRowAfter : FnScope ["row", "step", "capacity", "mode", "kept", "word", "length"] ["row", "step", "capacity", "mode"] (defScope sRowAfter) := ⟨rfl, rfl, rfl, by decide +kernel, rfl, by decide +kernel, by decide +kernel⟩
theorem cal_rowAfter (G : Glob K mg) (T : TDef K mg "row_after" sRowAfter) : Cal P w K mg base 1 "row_after" spRowAfter [] := by
  refine cal_of T scRowAfter (fun _ _ _ _ _ _ us hl => match us, hl with | [_, _, _, _], _ => rfl) (fun vs H Q E h => ?_) (fun f cdv A outer s H vs Q E hr h => ?_)
  · obtain ⟨v, r, c, cap, m, rfl, _⟩ := h
    rfl
  · obtain ⟨v, r, c, cap, m, rfl, hv, hs, q⟩ := h
    refine ⟨_, pss_cons (ps_if (pt_cmp (pc_isN (pv 0))) (pss_one (ps_ret pe_non)) pss_nil)
      (pss_cons (ps_asg (pv 0) (pg_tup rfl (pgs_cons (pg_name (i := 4) scRowAfter.nd rfl (Or.inl rfl)) (pgs_cons (pg_name (i := 5) scRowAfter.nd rfl (Or.inl rfl)) pgs_nil))))
      (pss_cons (ps_set (i := 6) scRowAfter.nd rfl (Or.inl rfl) (pe_op op_add (pv 4) (pe_callB call_len_str (by rfl) G.len PySem.boot_len (pa_cons (pv 5) pa_nil))))
      (pss_cons (ps_if (pt_cmpR op_eq (pv 1) (pe_gStr rfl G.TAKE) (nomark _))
        (pss_cons (ps_if (pt_cmpR op_eq (pv 6) pe_int (nomark _)) (pss_one (ps_ret pe_non)) pss_nil)
          (pss_one (ps_ret (pe_ifExp (pt_cmpR op_gt (pv 4) pe_int (nomark _)) (pe_tup (pa_cons (pe_op op_sub (pv 4) pe_int) (pa_cons (pv 5) pa_nil)))
            (pe_tup (pa_cons pe_int (pa_cons (pe_slice sl_str (pv 5) (po_some pe_int) po_none) pa_nil))))))) pss_nil)
      (pss_cons (ps_if (pt_cmpR op_lt (pv 6) (pv 2) (nomark _)) (pss_one (ps_ret (pe_tup (pa_cons (pv 4) (pa_cons (pe_op op_add_str (pv 5) (pv 1)) pa_nil))))) pss_nil)
      (pss_cons (ps_if (pt_cmpR op_eq (pv 3) pe_str (nomark _))
        (pss_one (ps_ret (pe_ifExp (pt_cmpR op_gt (pv 4) pe_int (nomark _)) (pe_tup (pa_cons (pe_op op_sub (pv 4) pe_int) (pa_cons (pe_op op_add_str (pv 5) (pv 1)) pa_nil)))
            (pe_tup (pa_cons pe_int (pa_cons (pe_op op_add_str (pe_slice sl_str (pv 5) (po_some pe_int) po_none) (pv 1)) pa_nil)))))) pss_nil)
      (pss_one (ps_ret (pe_ifExp (pt_cmpR op_eq (pv 3) pe_str (nomark _)) (pv 0) pe_non)))))))), ?_⟩
    cases r with
    | none =>
      obtain rfl : v = .non := hv
      exact ⟨_, rfl, _, rfl, iteT (q H .non (Same.refl H) rfl)⟩
    | some p =>
      obtain ⟨k, wd⟩ := p
      obtain ⟨a, rfl, ha⟩ := hv
      obtain ⟨hk, hw⟩ := hs
      have wsz : (tx wd).length ≤ sizeLine := by rw [tx_len]; exact Nat.le_trans hw (by decide)
      have csz : (tx wd).length + (tx [c]).length ≤ sizeLine := by rw [tx_len, tx_len]; exact Nat.le_trans (show wd.length + 1 ≤ 1001 by omega) (by decide)
      have dsz : (tx (wd.drop 1)).length + (tx [c]).length ≤ sizeLine := by rw [tx_len, tx_len]; exact Nat.le_trans (show (wd.drop 1).length + 1 ≤ 1001 by simp; omega) (by decide)
      refine ⟨_, rfl, _, rfl, iteF ⟨_, rfl, a, _, rfl, SqT.of ha, rfl, _, _, rfl, _, _, rfl, rfl, ?_⟩⟩
      refine ⟨_, rfl, _, rfl, _, rfl, wsz, _, _, rfl, rfl, ?_⟩
      refine ⟨_, rfl, rfl, _, rfl, ?_⟩
      have e1 : decide (V.str (tx [c]) = V.str (("-" : String) : Str)) = decide (c = 45) := by
        rw [take_tx, tx_dec]
        simp
      rw [e1]
      have two : (2 : Nat) ≤ sizeLine := by decide
      by_cases hc : c = 45
      · rw [decide_eq_true hc]
        have est : stp c = none := if_pos hc
        rw [est] at q
        refine iteT ?_
        refine ⟨_, rfl, rfl, _, rfl, ?_⟩
        have e2 : decide (V.int (((k : Nat) : Int) + ((tx wd).length : Nat)) = V.int 0) = decide (k + wd.length = 0) := by
          rw [tx_len]
          by_cases z : k + wd.length = 0
          · rw [decide_eq_true z, decide_eq_true]; congr 1; omega
          · rw [decide_eq_false z, decide_eq_false]; intro y; exact z (by have := V.int.inj y; omega)
        rw [e2]
        by_cases hz : k + wd.length = 0
        · rw [decide_eq_true hz]
          refine iteT (q H .non (Same.refl H) ?_)
          show RowAt H .non (if k + wd.length = 0 then none else _)
          rw [if_pos hz]
          rfl
        · rw [decide_eq_false hz]
          refine iteF ?_
          refine ⟨_, rfl, _, _, rfl, rfl, _, rfl, ?_⟩
          by_cases hk0 : 0 < k
          · rw [decide_eq_true (show (0 : Int) < (k : Nat) by omega)]
            refine iteT ⟨_, rfl, _, _, rfl, rfl, _, rfl, two, fun T nT => q _ _ (same_upd0 nT) ?_⟩
            show RowAt _ _ (if k + wd.length = 0 then none else if 0 < k then some (k - 1, wd) else _)
            rw [if_neg hz, if_pos hk0]
            have e3 : ((k : Nat) : Int) - 1 = ((k - 1 : Nat) : Int) := by omega
            refine ⟨T, rfl, ?_⟩
            rw [upd_same]
            show some (HO.tup [V.int (((k : Nat) : Int) - 1), _]) = _
            rw [e3]
          · rw [decide_eq_false (show ¬ (0 : Int) < (k : Nat) by omega)]
            refine iteF ⟨_, rfl, _, rfl, tx wd, rfl, wsz, two, fun T nT => q _ _ (same_upd0 nT) ?_⟩
            show RowAt _ _ (if k + wd.length = 0 then none else if 0 < k then _ else some (0, wd.drop 1))
            rw [if_neg hz, if_neg hk0]
            exact ⟨T, rfl, by rw [upd_same, cutS_1]; rfl⟩
      · rw [decide_eq_false hc]
        have est : stp c = some c := if_neg hc
        rw [est] at q
        refine iteF ?_
        refine ⟨_, rfl, _, rfl, _, _, rfl, rfl, _, rfl, ?_⟩
        have e2 : decide ((((k : Nat) : Int) + ((tx wd).length : Nat)) < (cap : Nat)) = decide (k + wd.length < cap) := by
          rw [tx_len]
          by_cases z : k + wd.length < cap
          · rw [decide_eq_true z, decide_eq_true (by omega)]
          · rw [decide_eq_false z, decide_eq_false (by omega)]
        rw [e2]
        by_cases hz : k + wd.length < cap
        · rw [decide_eq_true hz]
          refine iteT ⟨_, rfl, _, rfl, _, rfl, _, _, rfl, rfl, csz, two, fun T nT => q _ _ (same_upd0 nT) ?_⟩
          show RowAt _ _ (if k + wd.length < cap then some (k, wd ++ [c]) else _)
          rw [if_pos hz]
          refine ⟨T, rfl, ?_⟩
          rw [upd_same, tx_cat]
        · rw [decide_eq_false hz]
          refine iteF ?_
          refine ⟨_, rfl, rfl, _, rfl, ?_⟩
          have e3 : decide (V.str (modeS m) = V.str (("oldest" : String) : Str)) = decide (m = .old) := modeS_dec m .old
          rw [e3]
          cases m with
          | old =>
            refine iteT ⟨_, rfl, _, _, rfl, rfl, _, rfl, ?_⟩
            by_cases hk0 : 0 < k
            · rw [decide_eq_true (show (0 : Int) < (k : Nat) by omega)]
              refine iteT ⟨_, rfl, _, _, rfl, rfl, _, rfl, _, rfl, _, _, rfl, rfl, csz, two, fun T nT => q _ _ (same_upd0 nT) ?_⟩
              show RowAt _ _ (if k + wd.length < cap then _ else if 0 < k then some (k - 1, wd ++ [c]) else _)
              rw [if_neg hz, if_pos hk0]
              have e4 : ((k : Nat) : Int) - 1 = ((k - 1 : Nat) : Int) := by omega
              refine ⟨T, rfl, ?_⟩
              rw [upd_same]
              show some (HO.tup [V.int (((k : Nat) : Int) - 1), V.str (tx wd ++ tx [c])]) = _
              rw [e4, tx_cat]
            · rw [decide_eq_false (show ¬ (0 : Int) < (k : Nat) by omega)]
              refine iteF ⟨_, rfl, _, rfl, tx wd, rfl, wsz, _, rfl, _, _, rfl, rfl, ?_, two, fun T nT => q _ _ (same_upd0 nT) ?_⟩
              · rw [cutS_1]
                exact dsz
              · show RowAt _ _ (if k + wd.length < cap then _ else if 0 < k then _ else some (0, wd.drop 1 ++ [c]))
                rw [if_neg hz, if_neg hk0]
                refine ⟨T, rfl, ?_⟩
                rw [upd_same, cutS_1, tx_cat]
                rfl
          | new =>
            refine iteF ⟨_, rfl, rfl, _, rfl, ?_⟩
            have e4 : decide (V.str (modeS .new) = V.str (("newest" : String) : Str)) = true := decide_eq_true rfl
            rw [e4]
            refine iteT ⟨_, rfl, q H _ (Same.refl H) ?_⟩
            show RowAt _ _ (if k + wd.length < cap then _ else some (k, wd))
            rw [if_neg hz]
            exact ⟨a, rfl, ha⟩
          | str =>
            refine iteF ⟨_, rfl, rfl, _, rfl, ?_⟩
            have e4 : decide (V.str (modeS .str) = V.str (("newest" : String) : Str)) = false := modeS_dec .str .new
            rw [e4]
            refine iteF (q H _ (Same.refl H) ?_)
            show RowAt _ _ (if k + wd.length < cap then _ else none)
            rw [if_neg hz]
            rfl
end
end K53
end -- C
section -- G
set_option linter.all false
set_option maxRecDepth 100000
set_option maxHeartbeats 4000000
/-! rows_of, is_row. -/
namespace K53
open PySem PySem.Spec PyProof.Rows L2

/-! the rows of a sequence fit -/
theorem rowOk_step {cap n : Nat} {m : Mode} (h1 : 1 ≤ cap) {r : Row} (h : RowOk cap n r) {st : Option Nat} (hs : ∀ a, st = some a → a ∈ lets) :
    RowOk cap n (stepRow cap m r st) := by
  cases r with
  | none => exact trivial
  | some p =>
    obtain ⟨k, w⟩ := p
    obtain ⟨a1, a2, a3⟩ := h
    have dr : ∀ c ∈ w.drop 1, c ∈ lets := fun c hc => a3 c (List.mem_of_mem_drop hc)
    cases st with
    | none =>
      simp only [stepRow]
      split
      · exact trivial
      · split
        · exact ⟨by omega, by omega, a3⟩
        · exact ⟨by omega, by simp; omega, dr⟩
    | some b =>
      have hb := hs b rfl
      have app : ∀ v : List Nat, (∀ c ∈ v, c ∈ lets) → ∀ c ∈ v ++ [b], c ∈ lets := fun v hv c hc => by
        rcases List.mem_append.mp hc with z | z
        · exact hv c z
        · rw [List.mem_singleton.mp z]; exact hb
      simp only [stepRow]
      split
      · exact ⟨a1, by simp; omega, app _ a3⟩
      · cases m with
        | old =>
          dsimp only
          split
          · exact ⟨by omega, by simp; omega, app _ a3⟩
          · exact ⟨by omega, by simp; omega, app _ dr⟩
        | new => exact ⟨a1, a2, a3⟩
        | str => exact trivial
theorem rowOk_of {cap n : Nat} {m : Mode} (h1 : 1 ≤ cap) (hn : n ≤ cap) : ∀ (l : List Nat) (r : Row), (∀ c ∈ l, c ∈ stps) → RowOk cap n r → RowOk cap n ((l.map stp).foldl (stepRow cap m) r)
  | [], r, _, h => h
  | c :: l, r, hl, h => by
    rw [List.map_cons, List.foldl_cons]
    refine rowOk_of h1 hn l _ (fun x hx => hl x (List.mem_cons_of_mem _ hx)) (rowOk_step h1 h fun a e => ?_)
    unfold stp at e
    split at e
    · exact nomatch e
    · rename_i hc
      obtain rfl : c = a := by simpa using e
      exact steps_ne (hl c List.mem_cons_self) hc
theorem rowOf_ok {cap n : Nat} {m : Mode} (h1 : 1 ≤ cap) (hn : n ≤ cap) {s : List Nat} (hs : ∀ c ∈ s, c ∈ stps) : RowOk cap n (rowOf cap m s n) :=
  rowOk_of h1 hn s _ hs ⟨Nat.le_refl _, by simpa using hn, fun _ h => nomatch h⟩
theorem rowOk_small {cap n : Nat} {r : Row} (hc : cap ≤ 100) (h : RowOk cap n r) : Small r := by
  cases r with
  | none => exact trivial
  | some p =>
    obtain ⟨a1, a2, a3⟩ := h
    exact ⟨by omega, by omega⟩
theorem rowsOf_len (cap : Nat) (m : Mode) (s : List Nat) : (rowsOf cap m s).length = cap + 1 := by simp [rowsOf]
theorem rowsOf_get {cap : Nat} {m : Mode} {s : List Nat} {n : Nat} (hn : n ≤ cap) : (rowsOf cap m s)[n]? = some (rowOf cap m s n) := by
  unfold rowsOf
  rw [List.getElem?_map, List.getElem?_range (by omega)]
  rfl
theorem rowsOf_at {cap : Nat} {m : Mode} {s : List Nat} {n : Nat} {r : Row} (h : (rowsOf cap m s)[n]? = some r) : n ≤ cap ∧ r = rowOf cap m s n := by
  have hl := (List.getElem?_eq_some_iff.mp h).1
  rw [rowsOf_len] at hl
  have hn : n ≤ cap := by omega
  rw [rowsOf_get hn] at h
  exact ⟨hn, (Option.some.inj h).symm⟩
theorem rowsOf_nil (cap : Nat) (m : Mode) : rowsOf cap m [] = idRows cap := rfl
theorem rowsOf_snoc (cap : Nat) (m : Mode) (s : List Nat) (c : Nat) : rowsOf cap m (s ++ [c]) = (rowsOf cap m s).map fun r => stepRow cap m r (stp c) := by
  unfold rowsOf
  rw [List.map_map]
  refine List.map_congr_left fun n _ => ?_
  unfold rowOf
  rw [List.map_append, List.foldl_append]
  rfl

section
variable {P : Program} {w : World} {K : PySem.W.Frag} {mg : Str → Option Value} {base : Heap}

/-! rows_of(items, capacity, mode), items of a sequence -/
def spRowsOf : Sp := fun vs H Q _ => ∃ (a : Addr) (s : List Nat) (cap : Nat) (m : Mode), vs = [.ref a, .int (cap : Nat), .str (modeS m)] ∧ H a = some (.lst (itemsOf s)) ∧
  s.length ≤ 200 ∧ (∀ c ∈ s, c ∈ stps) ∧ 1 ≤ cap ∧ cap ≤ 100 ∧ ∀ H' p, Same H H' → RowsAt H' p (rowsOf cap m s) → Q (.ref p) H'
abbrev nRowsOf : List Str := ["items", "capacity", "mode", "rows", "item", "step", "row"]
theorem scRowsOf : FnScope nRowsOf ["items", "capacity", "mode"] (defScope sRowsOf) := ⟨rfl, rfl, rfl, by decide +kernel, rfl, by decide +kernel, by decide +kernel⟩
theorem cal_rowsOf (G : Glob K mg) (T : TDef K mg "rows_of" sRowsOf) (c1 : Cal P w K mg base 1 "identity_rows" spIdentityRows []) (c2 : Cal P w K mg base 1 "row_after" spRowAfter []) :
    Cal P w K mg base 2 "rows_of" spRowsOf [] := by
  refine cal_of T scRowsOf (fun _ _ _ _ _ _ us hl => match us, hl with | [_, _, _], _ => rfl) (fun vs H Q E h => ?_) (fun f cdv A outer s0 H vs Q E hr h => ?_)
  · obtain ⟨a, s, cap, m, rfl, _⟩ := h
    rfl
  · obtain ⟨a, s, cap, m, rfl, ha, hl, hs, h1, h2, q⟩ := h
    refine ⟨_, pss_cons (ps_set (i := 3) scRowsOf.nd rfl (Or.inl rfl) (pe_c c1 hr (by decide) rfl (pa_cons (pv 1) pa_nil)))
      (pss_cons (ps_for PassesOwn.never rfl (pi_list (pv 0)) (pg_name (i := 4) scRowsOf.nd rfl (Or.inl rfl))
        (pss_one (ps_if (pt_val (pe_callB call_isi (by rfl) G.isi boot_isinstance (pa_cons (pv 4) (pa_cons (pe_bltn (v := .ty "str") (by rfl) G.str PyProof.Rows.boot_str rfl) pa_nil))))
          (pss_one (ps_for PassesOwn.never rfl (pi_str (pv 4)) (pg_name (i := 5) scRowsOf.nd rfl (Or.inr rfl))
            (pss_one (ps_set (i := 3) scRowsOf.nd rfl (Or.inl rfl) (pe_callTy call_tuple_of (by rfl) G.tup PyProof.Rows.boot_tuple (pa_cons
              (pe_lc (own := [("row", 6)]) (g := gName 6) (tt := tYes) rfl scRowsOf.nd (pi_tup (pv 3))
                (blkOk_by (N := nRowsOf) (sc := defScope sRowsOf) (by decide +kernel))
                (fun _ _ _ _ _ => pg_name (i := 6) scRowsOf.nd rfl (Or.inl rfl)) (fun _ _ _ _ _ => pts_nil)
                (fun _ _ _ _ _ => pe_c c2 hr (by decide) rfl (pa_cons (pv 6) (pa_cons (pv 5) (pa_cons (pv 1) (pa_cons (pv 2) pa_nil)))))) pa_nil))))))
          (pss_one ps_never))))
      (pss_one (ps_ret (pv 3)))), ?_⟩
    refine ⟨_, rfl, cap, rfl, h2, fun H1 p s1 r1 => ?_⟩
    refine ⟨_, rfl, a, rfl, ⟨_, SqL.of (s1 _ _ ha)⟩, for_list (K := K) (a := a) (xs := itemsOf s)
      (fun i σ H' => ∃ (p : Addr) (x y : Option V), σ = [some (.ref a), some (.int (cap : Nat)), some (.str (modeS m)), some (.ref p), x, y, none] ∧ Same H H' ∧ RowsAt H' p (rowsOf cap m (if i = 0 then [] else s)))
      ⟨p, none, none, rfl, s1, r1⟩ (fun i σ H' _ ⟨_, _, _, _, s2, _⟩ => SqL.of (s2 _ _ ha)) ?_ ?_⟩
    · rintro i x σ H2 hi ⟨p, x0, y0, rfl, s2, r2⟩
      obtain ⟨rfl, rfl⟩ : i = 0 ∧ x = .str (tx s) := by
        unfold itemsOf at hi
        split at hi
        · simp at hi
        · have hl := (List.getElem?_eq_some_iff.mp hi).1
          have e : i = 0 := by simpa using hl
          subst e
          exact ⟨rfl, (by simpa using hi : V.str (tx s) = x).symm⟩
      refine ⟨_, rfl, _, _, _, _, _, rfl, .ty _, .base (.str _), kit_ss, _, rfl, iteT ?_⟩
      refine ⟨_, rfl, _, rfl, for_it walk_str (fun j σ H' => ∃ (p : Addr) (y : Option V), σ = [some (.ref a), some (.int (cap : Nat)), some (.str (modeS m)), some (.ref p), some (.str (tx s)), y, none] ∧ Same H H' ∧ RowsAt H' p (rowsOf cap m (s.take j)))
        ⟨p, y0, rfl, s2, r2⟩ (fun _ _ _ _ _ => trivial) ?_ ?_⟩
      · rintro j x σ H3 H4 hj ⟨p, y, rfl, s3, r3⟩ ⟨rfl, c, hc, rfl⟩
        have hj' : j < s.length := by simpa using hj
        have hc' : s[j]? = some c := by simpa using hc
        obtain ⟨vs, gp, pr⟩ := r3
        have lvs : vs.length = cap + 1 := by rw [paired_len pr, rowsOf_len]
        refine ⟨_, rfl, p, rfl, ⟨vs, SqT.of gp⟩, fun D hD => ?_⟩
        have npD : p ≠ D := ne_of_none gp hD
        refine lc_it (walk_tup (K := K) (a := p) (xs := vs)) (fun k H' => Same H4 H' ∧ ∃ ys, H' D = some (.lst ys) ∧ Paired (RowAt H') ys (((rowsOf cap m (s.take j)).take k).map fun r => stepRow cap m r (stp c)))
          ⟨same_upd0 hD, [], upd_same, .nil⟩ (fun k H' _ ⟨s4, _⟩ => SqT.of (s4 _ _ gp)) ?_ ?_
        · rintro k x H5 H6 hk ⟨s5, ys, g5, pr5⟩ ⟨rfl, hx⟩
          obtain ⟨r, hr', rx⟩ := paired_get pr hx
          obtain ⟨hkc, rfl⟩ := rowsOf_at hr'
          have hsm : Small (rowOf cap m (s.take j) k) := rowOk_small h2 (rowOf_ok h1 hkc fun c hc => hs c (List.mem_of_mem_take hc))
          refine ⟨rfl, _, rfl, _, rfl, _, rfl, _, rfl, x, _, c, cap, m, rfl, rx.same s5, hsm, fun H7 v' s7 r7 => ?_⟩
          have lys : ys.length = k := by
            rw [paired_len pr5, List.length_map, List.length_take, rowsOf_len]
            omega
          refine ⟨ys, s7 _ _ g5, by rw [lys]; exact small1000 (by omega), same_updD (s5.trans s7) hD, _, upd_same, ?_⟩
          rw [List.take_succ, hr', List.map_append]
          exact paired_snoc (row_updD r7 (s7 _ _ g5)) (paired_mono (fun a b z => row_updD (z.same s7) (s7 _ _ g5)) pr5)
        · rintro H5 ⟨s5, ys, g5, pr5⟩
          refine ⟨D, ys, rfl, .inl ⟨SqL.of g5, fun l nl => ?_⟩⟩
          refine ⟨l, some (.str (tx [c])), rfl, same_upd (s3.trans s5) nl, ys, upd_same, ?_⟩
          have e : s.take (j + 1) = s.take j ++ [c] := by rw [List.take_succ, hc']; rfl
          rw [e, rowsOf_snoc]
          have e2 : (rowsOf cap m (s.take j)).take vs.length = rowsOf cap m (s.take j) := by
            rw [lvs, ← rowsOf_len cap m (s.take j), List.take_length]
          rw [e2] at pr5
          exact paired_mono (fun a b z => z.same (same_upd0 nl)) pr5
      · rintro σ H3 ⟨p, y, rfl, s3, r3⟩
        refine ⟨p, some (.str (tx s)), y, rfl, s3, ?_⟩
        have e : (tx s).cps.size = s.length := by simp
        rw [e, List.take_length] at r3
        exact r3
    · rintro σ H2 ⟨p, x, y, rfl, s2, r2⟩
      refine ⟨_, rfl, q H2 p s2 ?_⟩
      unfold itemsOf at r2
      by_cases hs0 : s = []
      · rw [if_pos hs0, if_pos (by rfl)] at r2
        rw [hs0]
        exact r2
      · rw [if_neg hs0, if_neg (by show ¬ (0 + 1 : Nat) = 0; decide)] at r2
        exact r2

/-! is_row(value, length, capacity) -/
def spIsRow : Sp := fun vs H Q _ => ∃ (v : V) (r : Row) (n cap : Nat), vs = [v, .int (n : Nat), .int (cap : Nat)] ∧ RowAt H v r ∧ RowOk cap n r ∧ 1 ≤ cap ∧ cap ≤ 100 ∧
  ∀ H', Same H H' → Q (.bl true) H'
theorem scIsRow : FnScope ["value", "length", "capacity"] ["value", "length", "capacity"] (defScope sIsRow) := ⟨rfl, rfl, rfl, by decide +kernel, rfl, by decide +kernel, by decide +kernel⟩
theorem cal_isRow (G : Glob K mg) (T : TDef K mg "is_row" sIsRow) (c1 : Cal P w K mg base 1 "is_integer" spIsInteger [.int 0]) (c2 : Cal P w K mg base 4 "is_queue" spIsQueue []) :
    Cal P w K mg base 5 "is_row" spIsRow [] := by
  refine cal_of T scIsRow (fun _ _ _ _ _ _ us hl => match us, hl with | [_, _, _], _ => rfl) (fun vs H Q E h => ?_) (fun f cdv A outer s0 H vs Q E hr h => ?_)
  · obtain ⟨v, r, n, cap, rfl, _⟩ := h
    rfl
  · obtain ⟨v, r, n, cap, rfl, hv, hok, h1, h2, q⟩ := h
    refine ⟨_, pss_cons (ps_if (pt_cmp (pc_isN (pv 0))) (pss_one (ps_ret pe_bl)) pss_nil)
      (pss_cons (ps_if (PW.pt (pw_or (pt_not (pt_val (pe_callB call_isi (by rfl) G.isi boot_isinstance (pa_cons (pv 0) (pa_cons (pe_bltn (v := .ty "tuple") (by rfl) G.tup PyProof.Rows.boot_tuple rfl) pa_nil)))))
          (pw_or (pt_cmpR op_ne (pe_callB call_len_seq (by rfl) G.len PySem.boot_len (pa_cons (pv 0) pa_nil)) pe_int (nomark _))
          (pw_or (pt_not (pt_val (pe_c c1 hr (by decide) rfl (pa_cons (pe_ix ix_tup (pv 0) pe_int (fun _ _ => rfl)) pa_nil))))
          (pw_or1 (pt_cmpR op_gt (pe_ix ix_tup (pv 0) pe_int (fun _ _ => rfl)) (pv 1) (nomark _)))))))
        (pss_one (ps_ret pe_bl)) pss_nil)
      (pss_one (ps_ret (pe_and (pe_c c2 hr (by decide) rfl (pa_cons (pe_ix ix_tup (pv 0) pe_int (fun _ _ => rfl)) (pa_cons (pv 2) pa_nil)))
        (pe_one (pe_cmpR op_le (pe_op op_add (pe_ix ix_tup (pv 0) pe_int (fun _ _ => rfl))
          (pe_callB call_len_str (by rfl) G.len PySem.boot_len (pa_cons (pe_ix ix_tup (pv 0) pe_int (fun _ _ => rfl)) pa_nil))) (pv 2) (nomark _))))))), ?_⟩
    cases r with
    | none =>
      obtain rfl : v = .non := hv
      exact ⟨_, rfl, _, rfl, iteT (q H (Same.refl H))⟩
    | some p =>
      obtain ⟨k, wd⟩ := p
      obtain ⟨a, rfl, ha⟩ := hv
      obtain ⟨a1, a2, a3⟩ := hok
      refine ⟨_, rfl, _, rfl, iteF ?_⟩
      refine ⟨_, rfl, _, _, _, _, _, rfl, .ty _, .base (.tup ha), kit_tt, _, rfl, iteF ?_⟩
      refine ⟨_, rfl, a, _, rfl, .inr (SqT.of ha), rfl, _, rfl, iteF ?_⟩
      refine ⟨_, rfl, a, _, 0, .int (k : Nat), rfl, rfl, SqT.of ha, rfl, (k : Nat), 0, rfl, _, rfl, ?_⟩
      rw [decide_eq_true (show (0 : Int) ≤ (k : Nat) by omega)]
      refine iteF ?_
      refine ⟨_, rfl, a, _, 0, .int (k : Nat), rfl, rfl, SqT.of ha, rfl, _, rfl, _, _, rfl, rfl, _, rfl, ?_⟩
      rw [decide_eq_false (show ¬ ((n : Nat) : Int) < (k : Nat) by omega)]
      refine iteF ?_
      refine ⟨_, rfl, a, _, 1, .str (tx wd), rfl, rfl, SqT.of ha, rfl, _, rfl, wd, (cap : Nat), rfl, by omega, by omega, by omega, a3, fun H1 s1 => ⟨_, rfl, iteT ?_⟩⟩
      have ha1 := s1 _ _ ha
      refine ⟨_, rfl, a, _, 0, .int (k : Nat), rfl, rfl, SqT.of ha1, rfl, ?_⟩
      refine ⟨_, rfl, a, _, 1, .str (tx wd), rfl, rfl, SqT.of ha1, rfl, tx wd, rfl, by rw [tx_len]; exact Nat.le_trans (show wd.length ≤ 100 by omega) (by decide), _, _, rfl, rfl, _, rfl, _, _, rfl, rfl, ?_⟩
      show Q (.bl (decide (((k : Nat) : Int) + ((tx wd).length : Nat) ≤ (cap : Nat)))) H1
      rw [tx_len, decide_eq_true (show ((k : Nat) : Int) + (wd.length : Nat) ≤ (cap : Nat) by omega)]
      exact q H1 s1
end
end K53
end -- G
section -- H
set_option linter.all false
set_option maxRecDepth 100000
set_option maxHeartbeats 4000000
/-! Effect: made, compared, asked; effect_of. -/
namespace K53
open PySem PySem.Spec PyProof.Rows L2
abbrev sEInit : Stmt := inClass (top 43) 0
abbrev sECap : Stmt := inClass (top 43) 3
abbrev sEGet : Stmt := inClass (top 43) 9
abbrev sEIn : Stmt := inClass (top 43) 11
abbrev sEEq : Stmt := inClass (top 43) 15
abbrev sEffectOf : Stmt := top 48

/-- what the top has written of the class -/
structure ECls (K : PySem.W.Frag) (mg : Str → Option Value) (C : Addr) : Prop where
  cl : Cls K C
  nA : NoAttr K C "all_rows"
  mgC : mg "Effect" = some (.ref C)
  ha : PySem.W.findIn K (.ref C) "__class__" = some (some (.builtin "object.__class__"))
  hn : PySem.W.specialIn K (.builtin "object.__class__") "__get__" = some (some (.builtin "getset_descriptor.__get__"))
  htk : PySem.W.takesIn K (.builtin "object.__class__") = some true
  hm : PySem.W.mroIn K C (.type "object") = some true
  made : ∃ f fd, Mk K C f ∧ Fun K "__init__" "Effect.__init__" sEInit f fd
  eq : ∃ f fd, PySem.W.findIn K (.ref C) "__eq__" = some (some (.ref f)) ∧ PySem.W.isFn K (.ref f) = true ∧ Fun K "__eq__" "Effect.__eq__" sEEq f fd
  inn : ∃ f fd, PySem.W.findIn K (.ref C) "__contains__" = some (some (.ref f)) ∧ PySem.W.isFn K (.ref f) = true ∧ Fun K "__contains__" "Effect.__contains__" sEIn f fd
  get : ∃ f fd, PySem.W.findIn K (.ref C) "__getitem__" = some (some (.ref f)) ∧ PySem.W.isFn K (.ref f) = true ∧ PySem.W.fnIn K f = true ∧ Fun K "__getitem__" "Effect.__getitem__" sEGet f fd
  cap : ∃ p g fd, PropOf K C "capacity" p g ∧ Fun K "capacity" "Effect.capacity" sECap g fd

/-! ### rows as data -/
def rowD : Row → PyData
  | none => .none
  | some (k, w) => .tuple [.int (k : Nat), .str (tx w)]
def rowsD (rs : List Row) : PyData := .tuple (rs.map rowD)
def FineR : Row → Prop
  | none => True
  | some (_, w) => ∀ c ∈ w, c ∈ lets
def Fine (rs : List Row) : Prop := ∀ r ∈ rs, FineR r
theorem dp_row {K : PySem.W.Frag} {H : Hp} {v : V} {r : Row} (h : RowAt H v r) : Dp K H v (rowD r) := by
  cases r with
  | none =>
    obtain rfl : v = .non := h
    exact .non
  | some p =>
    obtain ⟨a, rfl, ha⟩ := h
    exact .tup (SqT.of ha) (.cons (.int _) (.cons (.str _) .nil))
theorem dp_all {K : PySem.W.Frag} {H : Hp} : ∀ {vs : List V} {rs : List Row}, Paired (RowAt H) vs rs → DpAll K H vs (rs.map rowD)
  | _, _, .nil => .nil
  | _, _, .cons r t => .cons (dp_row r) (dp_all t)
theorem lets_small {c : Nat} (h : c ∈ lets) : c < 1114112 := by
  have : ∀ c ∈ lets, c < 1114112 := by decide
  exact this c h
theorem lay_row {r : Row} (h : FineR r) : PyData.canLay0 (rowD r) = true := by
  cases r with
  | none => rfl
  | some p =>
    obtain ⟨k, w⟩ := p
    have e : PyData.strOk (tx w) = true := by
      unfold PyData.strOk
      rw [← Array.all_toList, List.all_eq_true]
      intro c hc
      exact decide_eq_true (lets_small (h c hc))
    show PyData.canLayAll0 [.int _, .str _] = true
    simp only [PyData.canLayAll0, PyData.canLay0, e, Bool.and_self]
theorem dep_row (r : Row) : PyData.depth (rowD r) ≤ 1 := by
  cases r with
  | none => simp [rowD, PyData.depth]
  | some p => simp [rowD, PyData.depth, PyData.depthAll]
theorem lay_all : ∀ {rs : List Row}, Fine rs → PyData.canLayAll0 (rs.map rowD) = true
  | [], _ => rfl
  | r :: rs, h => by
    show (PyData.canLay0 (rowD r) && PyData.canLayAll0 (rs.map rowD)) = true
    rw [lay_row (h r List.mem_cons_self), lay_all fun x hx => h x (List.mem_cons_of_mem _ hx)]
    rfl
theorem dep_all : ∀ rs : List Row, PyData.depthAll (rs.map rowD) ≤ 1
  | [] => by simp [PyData.depthAll]
  | r :: rs => by
    have h1 := dep_row r
    have h2 := dep_all rs
    simp only [List.map_cons, PyData.depthAll]
    omega
theorem shaped_rows {rs : List Row} (h : Fine rs) : SeqAt.shaped (rowsD rs) = true := by
  unfold SeqAt.shaped
  have h1 : PyData.canLay0 (rowsD rs) = true := lay_all h
  have h2 : PyData.depth (rowsD rs) ≤ 64 := by
    have := dep_all rs
    show PyData.depthAll (rs.map rowD) + 1 ≤ 64
    omega
  rw [h1, decide_eq_true h2]
  rfl
theorem eqv_row (a b : Row) : PyData.eqv (rowD a) (rowD b) = decide (a = b) := by
  cases a with
  | none =>
    cases b with
    | none => simp [rowD, PyData.eqv]
    | some q => simp [rowD, PyData.eqv]
  | some p =>
    cases b with
    | none => simp [rowD, PyData.eqv]
    | some q =>
      obtain ⟨k, w⟩ := p
      obtain ⟨k', w'⟩ := q
      simp only [rowD, PyData.eqv, PyData.eqvAll, Bool.and_true]
      by_cases h1 : k = k'
      · subst h1
        by_cases h2 : w = w'
        · subst h2
          simp
        · have e : (tx w == tx w') = false := by
            rw [beq_eq_false_iff_ne]
            exact fun z => h2 (tx_inj z)
          rw [e, decide_eq_false (by simp [h2])]
          simp
      · have e : (((k : Nat) : Int) == (k' : Nat)) = false := by
          rw [beq_eq_false_iff_ne]
          omega
        rw [e, decide_eq_false (by simp [h1])]
        simp
theorem eqv_all : ∀ a b : List Row, PyData.eqvAll (a.map rowD) (b.map rowD) = decide (a = b)
  | [], [] => by simp [PyData.eqvAll]
  | [], _ :: _ => by simp [PyData.eqvAll]
  | _ :: _, [] => by simp [PyData.eqvAll]
  | x :: a, y :: b => by
    simp only [List.map_cons, PyData.eqvAll]
    rw [eqv_row, eqv_all a b]
    by_cases h1 : x = y <;> by_cases h2 : a = b <;> simp [h1, h2]
theorem eqv_rows (a b : List Row) : PyData.eqv (rowsD a) (rowsD b) = decide (a = b) := by
  show PyData.eqv (.tuple _) (.tuple _) = _
  simp only [PyData.eqv]
  exact eqv_all a b
theorem fine_rowsOf {cap : Nat} {m : Mode} {s : List Nat} (h1 : 1 ≤ cap) (hs : ∀ c ∈ s, c ∈ stps) : Fine (rowsOf cap m s) := fun r hr => by
  obtain ⟨n, hn, rfl⟩ := List.mem_map.mp hr
  have hn' : n ≤ cap := by have := List.mem_range.mp hn; omega
  have ok := rowOf_ok (m := m) h1 hn' hs
  cases e : rowOf cap m s n with
  | none => exact trivial
  | some p =>
    rw [e] at ok
    exact ok.2.2

section
variable {P : Program} {w : World} {K : PySem.W.Frag} {mg : Str → Option Value} {base : Heap} {C : Addr}

/-! Effect.capacity -/
def spECap (C : Addr) : Sp := fun vs H Q _ => ∃ p rs, vs = [.ref p] ∧ EffAt C H p rs ∧ Q (.int ((rs.length : Nat) - 1)) H
theorem scECap : FnScope ["self"] ["self"] (defScope sECap) := ⟨rfl, rfl, rfl, by decide +kernel, rfl, by decide +kernel, by decide +kernel⟩
theorem fn_eCap (G : Glob K mg) (T : ECls K mg C) {f : Addr} {fd : FuncData} (F : Fun K "capacity" "Effect.capacity" sECap f fd) :
    FnOk P w K mg base CX0 1 f fd ["self"] (spECap C) := by
  refine F.ok scECap (fun vs H Q E h => ?_) (fun cdv A outer s H vs Q E hr h => ?_)
  · obtain ⟨p, rs, rfl, _⟩ := h
    rfl
  · obtain ⟨p, rs, rfl, ⟨dx, t, hp, us, ht, pr⟩, q⟩ := h
    refine ⟨_, pss_one (ps_ret (pe_op op_sub (pe_callB call_len_seq (by rfl) G.len PySem.boot_len (pa_cons (pe_fld (pv 0) rfl) pa_nil)) pe_int)), ?_⟩
    refine ⟨_, rfl, p, C, dx, _, _, rfl, hp, T.cl, T.nA, rfl, t, us, rfl, .inr (SqT.of ht), _, _, rfl, rfl, ?_⟩
    show Q (.int ((us.length : Nat) - 1)) H
    rw [paired_len pr]
    exact q

/-! Effect.__eq__ -/
def spEEq (C : Addr) : Sp := fun vs H Q _ => ∃ p q rs us, vs = [.ref p, .ref q] ∧ EffAt C H p rs ∧ EffAt C H q us ∧ Fine rs ∧ Fine us ∧ Q (.bl (decide (rs = us))) H
theorem scEEq : FnScope ["self", "other"] ["self", "other"] (defScope sEEq) := ⟨rfl, rfl, rfl, by decide +kernel, rfl, by decide +kernel, by decide +kernel⟩
theorem fn_eEq (G : Glob K mg) (T : ECls K mg C) {f : Addr} {fd : FuncData} (F : Fun K "__eq__" "Effect.__eq__" sEEq f fd) :
    FnOk P w K mg base CX0 1 f fd ["self", "other"] (spEEq C) := by
  refine F.ok scEEq (fun vs H Q E h => ?_) (fun cdv A outer s H vs Q E hr h => ?_)
  · obtain ⟨p, q, rs, us, rfl, _⟩ := h
    rfl
  · obtain ⟨p, q, rs, us, rfl, ⟨dx, t, hp, xs, ht, pr⟩, ⟨dy, u, hq, ys, hu, pu⟩, f1, f2, qq⟩ := h
    refine ⟨_, pss_one (ps_ret (pe_and (pe_callB call_isi (by rfl) G.isi boot_isinstance (pa_cons (pv 1) (pa_cons (pe_gc (v := .ref C) rfl T.mgC rfl) pa_nil)))
      (pe_one (pe_cmpR (op_eqD hr.units) (pe_fld (pv 0) rfl) (pe_fld (pv 1) rfl) (nomark _))))), ?_⟩
    have hk : PySem.W.kitOne K (.ref C) (.ref C) = some true := by
      unfold PySem.W.kitOne
      rw [if_pos (by simp)]
    refine ⟨_, rfl, _, _, _, _, _, rfl, .own C, .base (.ins hq T.cl T.ha T.hn T.htk T.hm), hk, _, rfl, iteT ?_⟩
    refine ⟨_, rfl, p, C, dx, _, _, rfl, hp, T.cl, T.nA, rfl, _, rfl, q, C, dy, _, _, rfl, hq, T.cl, T.nA, rfl, ?_⟩
    refine ⟨rowsD rs, rowsD us, .tup (SqT.of ht) (dp_all pr), .tup (SqT.of hu) (dp_all pu), shaped_rows f1, shaped_rows f2, ?_⟩
    rw [eqv_rows]
    exact qq

/-! Effect.__getitem__ -/
def spEGet (C : Addr) : Sp := fun vs H Q _ => ∃ p rs r, ∃ n : Nat, vs = [.ref p, .int (n : Nat)] ∧ EffAt C H p rs ∧ rs[n]? = some r ∧ ∀ v, RowAt H v r → Q v H
theorem scEGet : FnScope ["self", "at"] ["self", "at"] (defScope sEGet) := ⟨rfl, rfl, rfl, by decide +kernel, rfl, by decide +kernel, by decide +kernel⟩
theorem fn_eGet (G : Glob K mg) (T : ECls K mg C) (c1 : Cal P w K mg base 2 "check_integer" spCheckInteger []) {f : Addr} {fd : FuncData} (F : Fun K "__getitem__" "Effect.__getitem__" sEGet f fd) :
    FnOk P w K mg base CX0 3 f fd ["self", "at"] (spEGet C) := by
  obtain ⟨pr0, g0, fd0, hp0, F0⟩ := T.cap
  have b0 := F0.binds (ps := ["self"]) fun _ _ _ _ _ _ us hl => match us, hl with | [_], _ => rfl
  refine F.ok scEGet (fun vs H Q E h => ?_) (fun cdv A outer s H vs Q E hr h => ?_)
  · obtain ⟨p, rs, r, n, rfl, _⟩ := h
    rfl
  · obtain ⟨p, rs, r, n, rfl, he, hn, q⟩ := h
    refine ⟨_, pss_cons (ps_expr (pe_c c1 hr (by decide) rfl (pa_cons (pv 1) (pa_cons pe_int (pa_cons (pe_prop (pv 0) T.cl hp0 (fn_eCap G T F0) hr b0 .nil pass0 rfl) pa_nil)))))
      (pss_one (ps_ret (pe_ix ix_tup (pe_fld (pv 0) rfl) (pv 1) (fun _ _ => rfl)))), ?_⟩
    obtain ⟨dx, t, hp, us, ht, pr⟩ := id he
    have hl := (List.getElem?_eq_some_iff.mp hn).1
    obtain ⟨v, hv, rv⟩ := paired_get' pr hn
    refine ⟨_, rfl, _, rfl, p, dx, _, rfl, hp, p, rs, rfl, he, (n : Nat), 0, _, rfl, by omega, by omega, ?_⟩
    exact ⟨_, rfl, p, C, dx, _, _, rfl, hp, T.cl, T.nA, rfl, _, rfl, t, us, _, v, rfl, rfl, SqT.of ht, atI_nat' hv, q v rv⟩

/-! Effect.__contains__ -/
def spEIn (C : Addr) : Sp := fun vs H Q _ => ∃ p rs r, ∃ n : Nat, vs = [.ref p, .int (n : Nat)] ∧ EffAt C H p rs ∧ rs[n]? = some r ∧ Q (.bl r.isSome) H
theorem scEIn : FnScope ["self", "value"] ["self", "value"] (defScope sEIn) := ⟨rfl, rfl, rfl, by decide +kernel, rfl, by decide +kernel, by decide +kernel⟩
theorem fn_eIn (G : Glob K mg) (T : ECls K mg C) (c1 : Cal P w K mg base 1 "is_integer" spIsInteger [.int 0]) {f : Addr} {fd : FuncData} (F : Fun K "__contains__" "Effect.__contains__" sEIn f fd) :
    FnOk P w K mg base CX0 3 f fd ["self", "value"] (spEIn C) := by
  obtain ⟨pr0, g0, fd0, hp0, F0⟩ := T.cap
  have b0 := F0.binds (ps := ["self"]) fun _ _ _ _ _ _ us hl => match us, hl with | [_], _ => rfl
  refine F.ok scEIn (fun vs H Q E h => ?_) (fun cdv A outer s H vs Q E hr h => ?_)
  · obtain ⟨p, rs, r, n, rfl, _⟩ := h
    rfl
  · obtain ⟨p, rs, r, n, rfl, he, hn, q⟩ := h
    refine ⟨_, pss_one (ps_ret (pe_and (pe_c c1 hr (by decide) rfl (pa_cons (pv 1) pa_nil))
      (pe_and (pe_cmpR op_le (pv 1) (pe_prop (pv 0) T.cl hp0 (fn_eCap G T F0) hr b0 .nil pass0 rfl) (nomark _))
        (pe_one (pe_cmp (pc_notN (pe_ix ix_tup (pe_fld (pv 0) rfl) (pv 1) (fun _ _ => rfl)))))))), ?_⟩
    obtain ⟨dx, t, hp, us, ht, pr⟩ := id he
    have hl := (List.getElem?_eq_some_iff.mp hn).1
    obtain ⟨v, hv, rv⟩ := paired_get' pr hn
    refine ⟨_, rfl, _, _, rfl, _, rfl, ?_⟩
    rw [decide_eq_true (show (0 : Int) ≤ (n : Nat) by omega)]
    refine iteT ⟨_, rfl, _, rfl, p, dx, _, rfl, hp, p, rs, rfl, he, _, _, rfl, rfl, _, rfl, ?_⟩
    rw [decide_eq_true (show ((n : Nat) : Int) ≤ (rs.length : Nat) - 1 by omega)]
    refine iteT ⟨_, rfl, p, C, dx, _, _, rfl, hp, T.cl, T.nA, rfl, _, rfl, t, us, _, v, rfl, rfl, SqT.of ht, atI_nat' hv, ?_⟩
    show Q (.bl (!decide (v = .non))) H
    cases r with
    | none =>
      obtain rfl : v = .non := rv
      exact q
    | some z =>
      obtain ⟨a, rfl, _⟩ := rv
      exact q
end
end K53
end -- H
section -- I
set_option linter.all false
set_option maxRecDepth 100000
set_option maxHeartbeats 4000000
/-! Effect.__init__, effect_of. -/
namespace K53
open PySem PySem.Spec PyProof.Rows L2
section
variable {P : Program} {w : World} {K : PySem.W.Frag} {mg : Str → Option Value} {base : Heap} {C : Addr}

/-! Effect(capacity, rows) -/
def spEInit (C : Addr) : Sp := fun vs H Q _ => ∃ (p dx t : Addr) (cap : Nat) (rs : List Row), vs = [.ref p, .int (cap : Nat), .ref t] ∧ H p = some (.ins C dx []) ∧
  RowsAt H t rs ∧ rs.length = cap + 1 ∧ (∀ (n : Nat) r, rs[n]? = some r → RowOk cap n r) ∧ 1 ≤ cap ∧ cap ≤ 100 ∧
  ∀ H', (∀ b o, H b = some o → b ≠ p → H' b = some o) → H' p = some (.ins C dx [(("all_rows" : Str), .ref t)]) → Q .non H'
abbrev nEInit : List Str := ["self", "capacity", "rows", "length", "row"]
theorem scEInit : FnScope nEInit ["self", "capacity", "rows"] (defScope sEInit) := ⟨rfl, rfl, rfl, by decide +kernel, rfl, by decide +kernel, by decide +kernel⟩
theorem kit_tl {K : PySem.W.Frag} : PySem.W.kitOne K (.type "tuple") (.type "list") = some false := kit_ty (by decide +kernel)
theorem fn_eInit (G : Glob K mg) (T : ECls K mg C) (c1 : Cal P w K mg base 3 "check_capacity" spCheckCapacity []) (c2 : Cal P w K mg base 5 "is_row" spIsRow [])
    {f : Addr} {fd : FuncData} (F : Fun K "__init__" "Effect.__init__" sEInit f fd) : FnOk P w K mg base CX0 6 f fd ["self", "capacity", "rows"] (spEInit C) := by
  refine F.ok scEInit (fun vs H Q E h => ?_) (fun cdv A outer s H vs Q E hr h => ?_)
  · obtain ⟨p, dx, t, cap, rs, rfl, _⟩ := h
    rfl
  · obtain ⟨p, dx, t, cap, rs, rfl, hp, ⟨us, ht, pr⟩, hlen, hok, h1, h2, q⟩ := h
    have lus : us.length = cap + 1 := by rw [paired_len pr, hlen]
    refine ⟨_, pss_cons (ps_expr (pe_c c1 hr (by decide) rfl (pa_cons (pv 1) pa_nil)))
      (pss_cons (ps_if (PW.pt (pw_or (pt_not (pt_val (pe_callB call_isiT (by rfl) G.isi boot_isinstance (pa_cons (pv 2) (pa_cons
            (pe_tup (pa_cons (pe_bltn (v := .ty "list") (by rfl) G.list PyProof.Rows.boot_list rfl) (pa_cons (pe_bltn (v := .ty "tuple") (by rfl) G.tup PyProof.Rows.boot_tuple rfl) pa_nil))) pa_nil)))))
          (pw_or1 (pt_cmpR op_ne (pe_callB call_len_seq (by rfl) G.len PySem.boot_len (pa_cons (pv 2) pa_nil)) (pe_op op_add (pv 1) pe_int) (nomark _)))))
        (pss_one ps_never) pss_nil)
      (pss_cons (ps_for PassesOwn.never rfl (pi_enumT (by rfl) G.enu (pa_cons (pv 2) pa_nil))
          (pg_tup rfl (pgs_cons (pg_name (i := 3) scEInit.nd rfl (Or.inl rfl)) (pgs_cons (pg_name (i := 4) scEInit.nd rfl (Or.inl rfl)) pgs_nil)))
        (pss_one (ps_if (pt_not (pt_val (pe_c c2 hr (by decide) rfl (pa_cons (pv 4) (pa_cons (pv 3) (pa_cons (pv 1) pa_nil)))))) (pss_one ps_never) pss_nil)))
      (pss_one (ps_fld (pv 0) (pe_callTy call_tuple_of (by rfl) G.tup PyProof.Rows.boot_tuple (pa_cons (pv 2) pa_nil)) rfl)))), ?_⟩
    refine ⟨_, rfl, (cap : Nat), rfl, by omega, by omega, ?_⟩
    refine ⟨_, rfl, by show 2 ≤ sizeLine; decide, fun T0 n0 => ?_⟩
    have g0 := same_upd0 (o := .tup [.ty "list", .ty "tuple"]) n0
    refine ⟨_, T0, _, _, [.type "list", .type "tuple"], true, rfl, upd_same, .cons (.ty _) (.cons (.ty _) .nil), .base (.tup (g0 _ _ ht)), ?_, _, rfl, ?_⟩
    · exact kitAny_cons kit_tl (fun _ => kitAny_cons kit_tt (fun z => nomatch z) fun _ => rfl) fun z => nomatch z
    · refine iteF ⟨_, rfl, t, us, rfl, .inr (SqT.of (g0 _ _ ht)), _, rfl, _, _, rfl, rfl, rfl, _, rfl, ?_⟩
      have e1 : decide (V.int (us.length : Nat) = V.int (((cap : Nat) : Int) + 1)) = true := decide_eq_true (by rw [lus]; rfl)
      rw [e1]
      refine iteF ?_
      refine ⟨_, rfl, t, us, rfl, SqT.of (g0 _ _ ht), for_it (walk_enumT (K := K) (a := t) (xs := us))
        (fun i σ H' => ∃ x y : Option V, σ = [some (.ref p), some (.int (cap : Nat)), some (.ref t), x, y] ∧ Same H H')
        ⟨none, none, rfl, g0⟩ (fun i σ H' _ ⟨_, _, _, s1⟩ => SqT.of (s1 _ _ ht)) ?_ ?_⟩
      · rintro i x σ H1 H2 hi ⟨x0, y0, rfl, s1⟩ ⟨T1, a, b, rfl, n1, rfl, ea, eb⟩
        obtain rfl : V.int (i : Nat) = a := Option.some.inj ea
        have eb' : us[i]? = some b := eb
        obtain ⟨r, hr', rb⟩ := paired_get pr eb'
        have s2 : Same H (upd H1 T1 (.tup [.int (i : Nat), b])) := same_upd s1 n1
        refine ⟨T1, _, rfl, SqT.of upd_same, rfl, _, _, rfl, _, _, rfl, rfl, ?_⟩
        refine ⟨_, rfl, _, rfl, _, rfl, b, r, i, cap, rfl, rb.same s2, hok i r hr', h1, h2, fun H3 s3 => ⟨_, rfl, iteF ?_⟩⟩
        exact ⟨_, _, rfl, s2.trans s3⟩
      · rintro σ H1 ⟨x0, y0, rfl, s1⟩
        refine ⟨_, rfl, t, us, rfl, .inr ⟨SqT.of (s1 _ _ ht), ?_⟩⟩
        refine ⟨_, rfl, p, C, dx, [], rfl, s1 _ _ hp, T.cl, T.nA, (by show 0 < 1000; decide), ?_⟩
        refine q _ (fun b o e hb => ?_) upd_same
        rw [upd_ne hb]
        exact s1 b o e

/-! effect_of(program, capacity, mode) of a sequence -/
def spEffectOf (C : Addr) : Sp := fun vs H Q _ => ∃ (s : List Nat) (cap : Nat) (m : Mode), vs = [.str (tx s), .int (cap : Nat), .str (modeS m)] ∧
  s.length ≤ 200 ∧ (∀ c ∈ s, c ∈ stps) ∧ 1 ≤ cap ∧ cap ≤ 100 ∧ ∀ H' p, Same H H' → EffAt C H' p (rowsOf cap m s) → Q (.ref p) H'
theorem scEffectOf : FnScope ["program", "capacity", "mode", "items"] ["program", "capacity", "mode"] (defScope sEffectOf) := ⟨rfl, rfl, rfl, by decide +kernel, rfl, by decide +kernel, by decide +kernel⟩
theorem cal_effectOf (G : Glob K mg) (T : ECls K mg C) (D : TDef K mg "effect_of" sEffectOf) (c1 : Cal P w K mg base 3 "items_of" spItemsOf [])
    (c2 : Cal P w K mg base 3 "check_capacity" spCheckCapacity []) (c3 : Cal P w K mg base 2 "check_mode" spCheckMode []) (c4 : Cal P w K mg base 2 "rows_of" spRowsOf [])
    (c5 : Cal P w K mg base 5 "is_row" spIsRow []) : Cal P w K mg base 8 "effect_of" (spEffectOf C) [] := by
  obtain ⟨fI, fdI, M, FI⟩ := T.made
  have bI := FI.binds (ps := ["self", "capacity", "rows"]) fun _ _ _ _ _ _ us hl => match us, hl with | [_, _, _], _ => rfl
  refine cal_of D scEffectOf (fun _ _ _ _ _ _ us hl => match us, hl with | [_, _, _], _ => rfl) (fun vs H Q E h => ?_) (fun f cdv A outer s0 H vs Q E hr h => ?_)
  · obtain ⟨s, cap, m, rfl, _⟩ := h
    rfl
  · obtain ⟨s, cap, m, rfl, hl, hs, h1, h2, q⟩ := h
    refine ⟨_, pss_cons (ps_set (i := 3) scEffectOf.nd rfl (Or.inl rfl) (pe_c c1 hr (by decide) rfl (pa_cons (pv 0) pa_nil)))
      (pss_cons (ps_expr (pe_c c2 hr (by decide) rfl (pa_cons (pv 1) pa_nil)))
      (pss_cons (ps_expr (pe_c c3 hr (by decide) rfl (pa_cons (pv 2) pa_nil)))
      (pss_one (ps_ret (pe_make M (fn_eInit G T c2 c5 FI) hr rfl T.mgC bI .nil pass0 (pa_cons (pv 1) (pa_cons
        (pe_c c4 hr (by decide) rfl (pa_cons (pv 3) (pa_cons (pv 1) (pa_cons (pv 2) pa_nil)))) pa_nil))))))), ?_⟩
    refine ⟨_, rfl, s, rfl, hl, hs, fun H1 a s1 ga => ?_⟩
    refine ⟨_, rfl, (cap : Nat), rfl, by omega, by omega, _, rfl, m, rfl, ?_⟩
    refine ⟨_, rfl, _, rfl, _, rfl, _, rfl, a, s, cap, m, rfl, ga, hl, hs, h1, h2, fun H2 t s2 rt => ?_⟩
    intro x dx nx ndx ne
    have s3 : Same H2 (upd (upd H2 dx (.own x)) x (.ins C dx [])) := same_upd (same_upd0 ndx) (by rw [upd_ne ne.symm]; exact nx)
    refine ⟨x, dx, t, cap, _, rfl, upd_same, rt.same s3, rowsOf_len _ _ _, fun n r hn => ?_, h1, h2, fun H3 k3 g3 => ⟨rfl, ?_⟩⟩
    · obtain ⟨hn', rfl⟩ := rowsOf_at hn
      exact rowOf_ok h1 hn' hs
    · have s4 : Same H2 H3 := fun b o e => k3 b o (s3 b o e) (ne_of_none e nx)
      exact q H3 x ((s1.trans s2).trans s4) ⟨dx, t, g3, rt.same s4⟩
end
end K53
end -- I
section -- J
set_option linter.all false
set_option maxRecDepth 100000
set_option maxHeartbeats 4000000
/-! check_arguments, places_after, places_left. -/
namespace K53
open PySem PySem.Spec PyProof.Rows L2
abbrev sCheckArguments : Stmt := top 52
abbrev sPlacesAfter : Stmt := top 53
abbrev sPlacesLeft : Stmt := top 54

/-! ### places -/
def plV (k : Nat) (w : List Nat) : List Int := List.replicate k (-1) ++ w.map fun i => ((i : Nat) : Int)
theorem plV_len (k : Nat) (w : List Nat) : (plV k w).length = k + w.length := by simp [plV]
theorem plV_drop (k : Nat) (w : List Nat) : (plV k w).drop 1 = if 0 < k then plV (k - 1) w else plV 0 (w.drop 1) := by
  cases k with
  | zero => simp [plV]
  | succ k =>
    rw [if_pos (Nat.succ_pos k)]
    show (List.replicate (k + 1) (-1 : Int) ++ _).drop 1 = _
    rw [List.replicate_succ]
    rfl
theorem plV_snoc (k : Nat) (w : List Nat) (i : Nat) : plV k w ++ [((i : Nat) : Int)] = plV k (w ++ [i]) := by simp [plV]
theorem plV_nil {k : Nat} {w : List Nat} : plV k w = [] ↔ k + w.length = 0 := by
  rw [← List.length_eq_zero_iff, plV_len]
theorem plV_keep (k : Nat) (w : List Nat) : (plV k w).filter (fun i => !decide (i = -1)) = w.map fun i => ((i : Nat) : Int) := by
  unfold plV
  rw [List.filter_append]
  have h1 : (List.replicate k (-1 : Int)).filter (fun i => !decide (i = -1)) = [] := by
    rw [List.filter_eq_nil_iff]
    intro a ha
    rw [List.eq_of_mem_replicate ha]
    decide
  have h2 : (w.map fun i => ((i : Nat) : Int)).filter (fun i => !decide (i = -1)) = w.map fun i => ((i : Nat) : Int) := by
    rw [List.filter_eq_self]
    intro a ha
    obtain ⟨i, _, rfl⟩ := List.mem_map.mp ha
    have : ¬ ((i : Nat) : Int) = -1 := by omega
    simp [this]
  rw [h1, h2, List.nil_append]
def PlAt (H : Hp) (v : V) : Option (Nat × List Nat) → Prop
  | none => v = .non
  | some (k, w) => ∃ a, v = .ref a ∧ H a = some (.lst ((plV k w).map V.int))
theorem cutV_1 (xs : List V) : cutV xs (some 1) none = xs.drop 1 := by
  unfold cutV
  cases xs with
  | nil => rfl
  | cons x xs =>
    have e1 : HT.sIx (x :: xs).length 0 (some (1 : Int)) = 1 := by simp [HT.sIx]
    have e2 : HT.sIx (x :: xs).length (x :: xs).length none = xs.length + 1 := by simp [HT.sIx]
    rw [e1, e2]
    simp
theorem lay_ints : ∀ ns : List Int, PyData.canLayAll0 (ns.map PyData.int) = true
  | [] => rfl
  | n :: ns => by
    show (PyData.canLay0 (.int n) && PyData.canLayAll0 (ns.map PyData.int)) = true
    rw [lay_ints ns]
    rfl
theorem dep_ints : ∀ ns : List Int, PyData.depthAll (ns.map PyData.int) = 0
  | [] => by simp [PyData.depthAll]
  | n :: ns => by simp [PyData.depthAll, PyData.depth, dep_ints ns]
theorem shaped_ints (ns : List Int) : SeqAt.shaped (.list (ns.map PyData.int)) = true := by
  unfold SeqAt.shaped
  have h1 : PyData.canLay0 (.list (ns.map PyData.int)) = true := lay_ints ns
  have h2 : PyData.depth (.list (ns.map PyData.int)) ≤ 64 := by
    show PyData.depthAll (ns.map PyData.int) + 1 ≤ 64
    rw [dep_ints]
    omega
  rw [h1, decide_eq_true h2]
  rfl
theorem dp_ints {K : PySem.W.Frag} {H : Hp} : ∀ ns : List Int, DpAll K H (ns.map V.int) (ns.map PyData.int)
  | [] => .nil
  | n :: ns => .cons (.int n) (dp_ints ns)
theorem eqv_ints : ∀ a b : List Int, PyData.eqvAll (a.map PyData.int) (b.map PyData.int) = decide (a = b)
  | [], [] => by simp [PyData.eqvAll]
  | [], _ :: _ => by simp [PyData.eqvAll]
  | _ :: _, [] => by simp [PyData.eqvAll]
  | x :: a, y :: b => by
    simp only [List.map_cons, PyData.eqvAll, PyData.eqv]
    rw [eqv_ints a b]
    by_cases h1 : x = y <;> by_cases h2 : a = b <;> simp [h1, h2]
theorem eqv_intL (a b : List Int) : PyData.eqv (.list (a.map PyData.int)) (.list (b.map PyData.int)) = decide (a = b) := by
  simp only [PyData.eqv]
  exact eqv_ints a b

section
variable {P : Program} {w : World} {K : PySem.W.Frag} {mg : Str → Option Value} {base : Heap}

/-! check_arguments(sequence, capacity, mode) -/
def spCheckArguments : Sp := fun vs H Q _ => ∃ (s : List Nat) (cap : Nat) (m : Mode), vs = [.str (tx s), .int (cap : Nat), .str (modeS m)] ∧
  s.length ≤ 200 ∧ (∀ c ∈ s, c ∈ stps) ∧ 1 ≤ cap ∧ cap ≤ 100 ∧ ∀ H', Same H H' → Q .non H'
theorem scCheckArguments : FnScope ["sequence", "capacity", "mode"] ["sequence", "capacity", "mode"] (defScope sCheckArguments) := ⟨rfl, rfl, rfl, by decide +kernel, rfl, by decide +kernel, by decide +kernel⟩
theorem cal_checkArguments (G : Glob K mg) (T : TDef K mg "check_arguments" sCheckArguments) (c1 : Cal P w K mg base 3 "check_sequence" spCheckSequence [])
    (c2 : Cal P w K mg base 3 "check_capacity" spCheckCapacity []) (c3 : Cal P w K mg base 2 "check_mode" spCheckMode []) : Cal P w K mg base 4 "check_arguments" spCheckArguments [] := by
  refine cal_of T scCheckArguments (fun _ _ _ _ _ _ us hl => match us, hl with | [_, _, _], _ => rfl) (fun vs H Q E h => ?_) (fun f cdv A outer s0 H vs Q E hr h => ?_)
  · obtain ⟨s, cap, m, rfl, _⟩ := h
    rfl
  · obtain ⟨s, cap, m, rfl, hl, hs, h1, h2, q⟩ := h
    refine ⟨_, pss_cons (ps_expr (pe_c c1 hr (by decide) rfl (pa_cons (pv 0) pa_nil)))
      (pss_cons (ps_expr (pe_c c2 hr (by decide) rfl (pa_cons (pv 1) pa_nil)))
      (pss_cons (ps_expr (pe_c c3 hr (by decide) rfl (pa_cons (pv 2) pa_nil)))
      (pss_one (ps_if (pt_cmpR op_gt (pe_callB call_len_str (by rfl) G.len PySem.boot_len (pa_cons (pv 0) pa_nil)) (pe_gInt rfl G.MOST_STEPS) (nomark _)) (pss_one ps_never) pss_nil)))), ?_⟩
    refine ⟨_, rfl, s, rfl, hl, hs, fun H1 s1 => ?_⟩
    refine ⟨_, rfl, (cap : Nat), rfl, by omega, by omega, _, rfl, m, rfl, ?_⟩
    refine ⟨_, rfl, tx s, rfl, by rw [tx_len]; exact Nat.le_trans hl (by decide), _, _, rfl, rfl, _, rfl, ?_⟩
    have e : decide ((200 : Int) < ((tx s).length : Nat)) = false := decide_eq_false (by rw [tx_len]; omega)
    rw [e]
    exact iteF (q H1 s1)

/-! places_after(places, index, step, capacity, mode) -/
def spPlacesAfter : Sp := fun vs H Q _ => ∃ (a : Addr) (k : Nat) (wd : List Nat) (i c cap : Nat) (m : Mode), vs = [.ref a, .int (i : Nat), .str (tx [c]), .int (cap : Nat), .str (modeS m)] ∧
  H a = some (.lst ((plV k wd).map V.int)) ∧ k ≤ 1000 ∧ wd.length ≤ 1000 ∧
  ∀ H' v, Same H H' → PlAt H' v (stepRow cap m (some (k, wd)) (if c = 45 then none else some i)) → Q v H'
theorem scPlacesAfter : FnScope ["places", "index", "step", "capacity", "mode"] ["places", "index", "step", "capacity", "mode"] (defScope sPlacesAfter) := ⟨rfl, rfl, rfl, by decide +kernel, rfl, by decide +kernel, by decide +kernel⟩
theorem cal_placesAfter (G : Glob K mg) (T : TDef K mg "places_after" sPlacesAfter) : Cal P w K mg base 1 "places_after" spPlacesAfter [] := by
  refine cal_of T scPlacesAfter (fun _ _ _ _ _ _ us hl => match us, hl with | [_, _, _, _, _], _ => rfl) (fun vs H Q E h => ?_) (fun f cdv A outer s0 H vs Q E hr h => ?_)
  · obtain ⟨a, k, wd, i, c, cap, m, rfl, _⟩ := h
    rfl
  · obtain ⟨a, k, wd, i, c, cap, m, rfl, ha, hk, hw, q⟩ := h
    refine ⟨_, pss_cons (ps_if (pt_cmpR op_eq (pv 2) (pe_gStr rfl G.TAKE) (nomark _))
        (pss_one (ps_ret (pe_ifExp (pt_cmpR (op_neD hr.units) (pv 0) (pe_lst pa_nil) (nomark _)) (pe_slice sl_list (pv 0) (po_some pe_int) po_none) pe_non))) pss_nil)
      (pss_cons (ps_if (pt_cmpR op_lt (pe_callB call_len_seq (by rfl) G.len PySem.boot_len (pa_cons (pv 0) pa_nil)) (pv 3) (nomark _))
        (pss_one (ps_ret (pe_lst (StX.pa_star (pv 0) (pa_cons (pv 1) pa_nil))))) pss_nil)
      (pss_cons (ps_if (pt_cmpR op_eq (pv 4) pe_str (nomark _))
        (pss_one (ps_ret (pe_lst (StX.pa_star (pe_slice sl_list (pv 0) (po_some pe_int) po_none) (pa_cons (pv 1) pa_nil))))) pss_nil)
      (pss_one (ps_ret (pe_ifExp (pt_cmpR op_eq (pv 4) pe_str (nomark _)) (pv 0) pe_non))))), ?_⟩
    have drop_eq : cutV ((plV k wd).map V.int) (some 1) none = ((if 0 < k then plV (k - 1) wd else plV 0 (wd.drop 1)).map V.int) := by
      rw [cutV_1, ← plV_drop, List.map_drop]
    refine ⟨_, rfl, rfl, _, rfl, ?_⟩
    have e1 : decide (V.str (tx [c]) = V.str (("-" : String) : Str)) = decide (c = 45) := by
      rw [take_tx, tx_dec]
      simp
    rw [e1]
    by_cases hc : c = 45
    · rw [decide_eq_true hc]
      rw [if_pos hc] at q
      refine iteT ⟨_, rfl, Nat.zero_le _, fun p np => ?_⟩
      have ha' : (upd H p (.lst [])) a = some (.lst ((plV k wd).map V.int)) := by rw [upd_ne (ne_of_none ha np)]; exact ha
      refine ⟨.list ((plV k wd).map PyData.int), .list (([] : List Int).map PyData.int), .lst (SqL.of ha') (dp_ints _), .lst (SqL.of upd_same) .nil, shaped_ints _, shaped_ints _, _, rfl, ?_⟩
      rw [eqv_intL]
      by_cases hz : k + wd.length = 0
      · rw [decide_eq_true (plV_nil.mpr hz)]
        refine iteF (q _ _ (same_upd0 np) ?_)
        show PlAt _ _ (if k + wd.length = 0 then none else _)
        rw [if_pos hz]
        rfl
      · rw [decide_eq_false fun z => hz (plV_nil.mp z)]
        refine iteT ⟨_, rfl, _, rfl, a, _, rfl, SqL.of ha', fun p2 n2 => q _ _ (same_upd (same_upd0 np) n2) ?_⟩
        show PlAt _ _ (if k + wd.length = 0 then none else if 0 < k then some (k - 1, wd) else some (0, wd.drop 1))
        rw [if_neg hz, drop_eq]
        by_cases hk0 : 0 < k
        · rw [if_pos hk0, if_pos hk0]
          exact ⟨p2, rfl, upd_same⟩
        · rw [if_neg hk0, if_neg hk0]
          exact ⟨p2, rfl, upd_same⟩
    · rw [decide_eq_false hc]
      rw [if_neg hc] at q
      refine iteF ⟨_, rfl, a, _, rfl, .inl (SqL.of ha), _, rfl, _, _, rfl, rfl, _, rfl, ?_⟩
      have e2 : decide ((((plV k wd).map V.int).length : Int) < (cap : Nat)) = decide (k + wd.length < cap) := by
        rw [List.length_map, plV_len]
        by_cases z : k + wd.length < cap
        · rw [decide_eq_true z, decide_eq_true (by omega)]
        · rw [decide_eq_false z, decide_eq_false (by omega)]
      rw [e2]
      by_cases hz : k + wd.length < cap
      · rw [decide_eq_true hz]
        refine iteT ⟨_, rfl, a, _, rfl, .inr (SqL.of ha), _, rfl, ?_, fun p np => q _ _ (same_upd0 np) ?_⟩
        · rw [List.length_append, List.length_map, plV_len]
          exact Nat.le_trans (show k + wd.length + 1 ≤ 2001 by omega) (by decide)
        · show PlAt _ _ (if k + wd.length < cap then some (k, wd ++ [i]) else _)
          rw [if_pos hz]
          refine ⟨p, rfl, ?_⟩
          rw [upd_same, ← plV_snoc, List.map_append]
          rfl
      · rw [decide_eq_false hz]
        refine iteF ⟨_, rfl, rfl, _, rfl, ?_⟩
        have e3 : decide (V.str (modeS m) = V.str (("oldest" : String) : Str)) = decide (m = .old) := modeS_dec m .old
        rw [e3]
        cases m with
        | old =>
          refine iteT ⟨_, rfl, _, rfl, a, _, rfl, SqL.of ha, fun p np => ?_⟩
          refine ⟨p, _, rfl, .inr (SqL.of upd_same), _, rfl, ?_, fun p2 n2 => q _ _ (same_upd (same_upd0 np) n2) ?_⟩
          · rw [cutV_1, List.length_append, List.length_drop, List.length_map, plV_len]
            exact Nat.le_trans (show k + wd.length - 1 + 1 ≤ 2001 by omega) (by decide)
          · show PlAt _ _ (if k + wd.length < cap then _ else if 0 < k then some (k - 1, wd ++ [i]) else some (0, wd.drop 1 ++ [i]))
            rw [if_neg hz, drop_eq]
            by_cases hk0 : 0 < k
            · rw [if_pos hk0, if_pos hk0]
              refine ⟨p2, rfl, ?_⟩
              rw [upd_same, ← plV_snoc, List.map_append]
              rfl
            · rw [if_neg hk0, if_neg hk0]
              refine ⟨p2, rfl, ?_⟩
              rw [upd_same, ← plV_snoc, List.map_append]
              rfl
        | new =>
          refine iteF ⟨_, rfl, rfl, _, rfl, ?_⟩
          have e4 : decide (V.str (modeS .new) = V.str (("newest" : String) : Str)) = true := decide_eq_true rfl
          rw [e4]
          refine iteT ⟨_, rfl, q H _ (Same.refl H) ?_⟩
          show PlAt _ _ (if k + wd.length < cap then _ else some (k, wd))
          rw [if_neg hz]
          exact ⟨a, rfl, ha⟩
        | str =>
          refine iteF ⟨_, rfl, rfl, _, rfl, ?_⟩
          have e4 : decide (V.str (modeS .str) = V.str (("newest" : String) : Str)) = false := modeS_dec .str .new
          rw [e4]
          refine iteF (q H _ (Same.refl H) ?_)
          show PlAt _ _ (if k + wd.length < cap then _ else none)
          rw [if_neg hz]
          rfl
end
end K53
end -- J
section -- K
set_option linter.all false
set_option maxRecDepth 100000
set_option maxHeartbeats 4000000
/-! places_left, exchanged. -/
namespace K53
open PySem PySem.Spec PyProof.Rows L2
abbrev sExchanged : Stmt := top 56

/-! the rows by places, a step more -/
def istep (s : List Nat) (i : Nat) : Option Nat := if s.getD i 0 = 45 then none else some i
def irowT (cap : Nat) (m : Mode) (s : List Nat) (n i : Nat) : Option (Nat × List Nat) := (((List.range i).map (istep s))).foldl (stepRow cap m) (some (n, []))
theorem irowT_succ (cap : Nat) (m : Mode) (s : List Nat) (n i : Nat) : irowT cap m s n (i + 1) = stepRow cap m (irowT cap m s n i) (istep s i) := by
  unfold irowT
  rw [List.range_succ, List.map_append, List.foldl_append]
  rfl
theorem irowT_all (cap : Nat) (m : Mode) (s : List Nat) (n : Nat) : irowT cap m s n s.length = irow cap m s n := rfl
theorem irowT_none {cap : Nat} {m : Mode} {s : List Nat} {n : Nat} : ∀ {j i : Nat}, i ≤ j → irowT cap m s n i = none → irowT cap m s n j = none
  | 0, i, h, e => by
    have : i = 0 := by omega
    subst this
    exact e
  | j + 1, i, h, e => by
    rcases Nat.lt_or_ge i (j + 1) with z | z
    · rw [irowT_succ, irowT_none (j := j) (i := i) (by omega) e]
      rfl
    · have : i = j + 1 := by omega
      subst this
      exact e
theorem irowT_small {cap : Nat} {m : Mode} {s : List Nat} {n : Nat} : ∀ {i k : Nat} {w : List Nat}, irowT cap m s n i = some (k, w) → k ≤ n ∧ w.length ≤ i
  | 0, k, w, e => by
    have e' : some (n, ([] : List Nat)) = some (k, w) := e
    simp at e'
    obtain ⟨rfl, rfl⟩ := e'
    exact ⟨Nat.le_refl _, Nat.le_refl _⟩
  | i + 1, k, w, e => by
    rw [irowT_succ] at e
    cases h : irowT cap m s n i with
    | none => rw [h] at e; exact nomatch e
    | some p =>
      obtain ⟨k0, w0⟩ := p
      obtain ⟨h1, h2⟩ := irowT_small h
      rw [h] at e
      cases hst : istep s i with
      | none =>
        rw [hst] at e
        simp only [stepRow] at e
        split at e
        · exact nomatch e
        · split at e
          · simp at e; obtain ⟨rfl, rfl⟩ := e; exact ⟨by omega, by omega⟩
          · simp at e; obtain ⟨rfl, rfl⟩ := e; exact ⟨by omega, by simp; omega⟩
      | some b =>
        rw [hst] at e
        simp only [stepRow] at e
        split at e
        · simp at e; obtain ⟨rfl, rfl⟩ := e; exact ⟨by omega, by simp; omega⟩
        · cases m with
          | old =>
            dsimp only at e
            split at e
            · simp at e; obtain ⟨rfl, rfl⟩ := e; exact ⟨by omega, by simp; omega⟩
            · simp at e; obtain ⟨rfl, rfl⟩ := e; exact ⟨by omega, by simp; omega⟩
          | new => simp at e; obtain ⟨rfl, rfl⟩ := e; exact ⟨by omega, by omega⟩
          | str => exact nomatch e
theorem pl_len {cap : Nat} {m : Mode} {s : List Nat} {n : Nat} : (pl cap m s n).length ≤ s.length := by
  unfold pl
  cases e : irow cap m s n with
  | none => exact Nat.zero_le _
  | some p => exact (irowT_small (i := s.length) (by rw [irowT_all]; exact e)).2

section
variable {P : Program} {w : World} {K : PySem.W.Frag} {mg : Str → Option Value} {base : Heap}

/-! places_left(sequence, length, capacity, mode) -/
def spPlacesLeft : Sp := fun vs H Q _ => ∃ (s : List Nat) (n cap : Nat) (m : Mode), vs = [.str (tx s), .int (n : Nat), .int (cap : Nat), .str (modeS m)] ∧ s.length ≤ 200 ∧ n ≤ 100 ∧
  ∀ H' p, Same H H' → H' p = some (.lst ((pl cap m s n).map fun i => V.int (i : Nat))) → Q (.ref p) H'
abbrev nPlacesLeft : List Str := ["sequence", "length", "capacity", "mode", "places", "index", "step"]
theorem scPlacesLeft : FnScope nPlacesLeft ["sequence", "length", "capacity", "mode"] (defScope sPlacesLeft) := ⟨rfl, rfl, rfl, by decide +kernel, rfl, by decide +kernel, by decide +kernel⟩
theorem cal_placesLeft (G : Glob K mg) (T : TDef K mg "places_left" sPlacesLeft) (c1 : Cal P w K mg base 1 "places_after" spPlacesAfter []) : Cal P w K mg base 2 "places_left" spPlacesLeft [] := by
  refine cal_of T scPlacesLeft (fun _ _ _ _ _ _ us hl => match us, hl with | [_, _, _, _], _ => rfl) (fun vs H Q E h => ?_) (fun f cdv A outer s0 H vs Q E hr h => ?_)
  · obtain ⟨s, n, cap, m, rfl, _⟩ := h
    rfl
  · obtain ⟨s, n, cap, m, rfl, hl, hn, q⟩ := h
    refine ⟨_, pss_cons (ps_set (i := 4) scPlacesLeft.nd rfl (Or.inl rfl) (pe_op op_rep (pe_lst (pa_cons (pe_gInt rfl G.OLD) pa_nil)) (pv 1)))
      (pss_cons (ps_for PassesOwn.never rfl (pi_enumS (by rfl) G.enu (pa_cons (pv 0) pa_nil))
          (pg_tup rfl (pgs_cons (pg_name (i := 5) scPlacesLeft.nd rfl (Or.inl rfl)) (pgs_cons (pg_name (i := 6) scPlacesLeft.nd rfl (Or.inl rfl)) pgs_nil)))
        (pss_cons (ps_set (i := 4) scPlacesLeft.nd rfl (Or.inl rfl) (pe_c c1 hr (by decide) rfl (pa_cons (pv 4) (pa_cons (pv 5) (pa_cons (pv 6) (pa_cons (pv 2) (pa_cons (pv 3) pa_nil)))))))
          (pss_one (ps_if (pt_cmp (pc_isN (pv 4))) (pss_one (ps_ret (pe_lst pa_nil))) pss_nil))))
      (pss_one (ps_ret (pe_lc (own := [("index", 5)]) (g := gName 5) rfl scPlacesLeft.nd (pi_list (pv 4))
        (blkOk_by (N := nPlacesLeft) (sc := defScope sPlacesLeft) (by decide +kernel))
        (fun _ _ _ _ _ => pg_name (i := 5) scPlacesLeft.nd rfl (Or.inl rfl))
        (fun _ _ _ _ _ => pts_one (pt_cmpR op_ne (pv 5) (pe_gInt rfl G.OLD) (nomark _)))
        (fun _ _ _ _ _ => pv 5))))), ?_⟩
    refine ⟨by show 1 ≤ sizeLine; decide, fun l0 n0 => ⟨_, rfl, l0, _, _, rfl, rfl, upd_same, by omega, by omega, ?_, fun p0 np => ?_⟩⟩
    · show 1 * ((n : Nat) : Int).toNat ≤ sizeLine
      exact Nat.le_trans (show 1 * ((n : Nat) : Int).toNat ≤ 100 by omega) (by decide)
    have e0 : (List.replicate ((n : Nat) : Int).toNat [V.int (-1)]).flatten = (plV n []).map V.int := by
      have : ((n : Nat) : Int).toNat = n := by omega
      rw [this]
      unfold plV
      rw [List.map_nil, List.append_nil, List.map_replicate]
      clear this q hn
      induction n with
      | zero => rfl
      | succ n ih => rw [List.replicate_succ, List.flatten_cons, ih, List.replicate_succ]; rfl
    refine ⟨_, rfl, tx s, rfl, for_it walk_enumS (fun i σ H' => ∃ (p : Addr) (x y : Option V) (k : Nat) (wd : List Nat),
        σ = [some (.str (tx s)), some (.int (n : Nat)), some (.int (cap : Nat)), some (.str (modeS m)), some (.ref p), x, y] ∧ Same H H' ∧ irowT cap m s n i = some (k, wd) ∧ H' p = some (.lst ((plV k wd).map V.int)))
      ⟨p0, none, none, n, [], rfl, same_upd (same_upd0 n0) np, rfl, by rw [upd_same, e0]⟩ (fun _ _ _ _ _ => trivial) ?_ ?_⟩
    · rintro i x σ H1 H2 hi ⟨p, x0, y0, k, wd, rfl, s1, hrow, hp⟩ ⟨T1, a, b, rfl, n1, rfl, ea, eb⟩
      have hi' : i < s.length := by simpa using hi
      obtain rfl : V.int (i : Nat) = a := Option.some.inj ea
      obtain rfl : V.str (tx [s[i]]) = b := by
        have eb' : Option.map (fun c => V.str ⟨#[c]⟩) ((tx s).cps[i]?) = some b := eb
        have e3 : (tx s).cps[i]? = some s[i] := by simp [hi']
        rw [e3] at eb'
        exact Option.some.inj eb'
      have s2 : Same H (upd H1 T1 (.tup [.int (i : Nat), .str (tx [s[i]])])) := same_upd s1 n1
      have hp2 : (upd H1 T1 (.tup [.int (i : Nat), .str (tx [s[i]])])) p = some (.lst ((plV k wd).map V.int)) := by
        rw [upd_ne (ne_of_none hp n1)]
        exact hp
      obtain ⟨b1, b2⟩ := irowT_small hrow
      refine ⟨T1, _, rfl, SqT.of upd_same, rfl, _, _, rfl, _, _, rfl, rfl, ?_⟩
      refine ⟨_, rfl, _, rfl, _, rfl, _, rfl, _, rfl, p, k, wd, i, s[i], cap, m, rfl, hp2, by omega, by omega, fun H3 v s3 hv => ?_⟩
      have eg : s.getD i 0 = s[i] := by simp [List.getD, hi']
      have est : (if s[i] = 45 then none else some i) = istep s i := by
        unfold istep
        rw [eg]
      rw [est, ← hrow, ← irowT_succ] at hv
      cases e : irowT cap m s n (i + 1) with
      | none =>
        rw [e] at hv
        obtain rfl : v = .non := hv
        refine ⟨_, rfl, _, rfl, iteT ⟨Nat.zero_le _, fun p2 n2 => q _ _ (same_upd (s2.trans s3) n2) ?_⟩⟩
        rw [upd_same]
        have z : irow cap m s n = none := by
          rw [← irowT_all]
          exact irowT_none (by omega) e
        unfold pl
        rw [z]
        rfl
      | some pr =>
        obtain ⟨k', wd'⟩ := pr
        rw [e] at hv
        obtain ⟨p', rfl, hp'⟩ := hv
        refine ⟨_, rfl, _, rfl, iteF ?_⟩
        exact ⟨p', _, _, k', wd', rfl, s2.trans s3, rfl, hp'⟩
    · rintro σ H1 ⟨p, x0, y0, k, wd, rfl, s1, hrow, hp⟩
      have ez : (tx s).cps.size = s.length := by simp
      rw [ez, irowT_all] at hrow
      obtain ⟨b1, b2⟩ := irowT_small (i := s.length) (by rw [irowT_all]; exact hrow)
      refine ⟨_, rfl, p, rfl, ⟨_, SqL.of hp⟩, fun D hD => lc_it (walk_list (K := K) (a := p) (xs := (plV k wd).map V.int))
        (fun j H' => Same H1 H' ∧ H' D = some (.lst ((((plV k wd).take j).filter fun i => !decide (i = -1)).map V.int)))
        ⟨same_upd0 hD, upd_same⟩ (fun j H' _ ⟨s2, _⟩ => SqL.of (s2 _ _ hp)) ?_ ?_⟩
      · rintro j x H2 H3 hj ⟨s2, g2⟩ ⟨rfl, hx⟩
        obtain ⟨z, hz, rfl⟩ : ∃ z, (plV k wd)[j]? = some z ∧ x = V.int z := by
          rw [List.getElem?_map] at hx
          cases e : (plV k wd)[j]? with
          | none => rw [e] at hx; exact nomatch hx
          | some z => rw [e] at hx; exact ⟨z, rfl, (Option.some.inj hx).symm⟩
        refine ⟨rfl, _, rfl, rfl, _, rfl, ?_⟩
        have e1 : decide (V.int z = V.int (-1)) = decide (z = -1) := by
          by_cases h : z = -1
          · rw [h]; simp
          · rw [decide_eq_false h, decide_eq_false fun y => h (V.int.inj y)]
        rw [e1]
        have et : (plV k wd).take (j + 1) = (plV k wd).take j ++ [z] := by rw [List.take_succ, hz]; rfl
        by_cases hz1 : z = -1
        · rw [decide_eq_true hz1]
          refine iteF ⟨s2, ?_⟩
          rw [et, List.filter_append, List.filter_cons, hz1]
          simpa using g2
        · rw [decide_eq_false hz1]
          refine iteT ⟨_, rfl, _, g2, ?_, same_updD s2 hD, ?_⟩
          · rw [List.length_map]
            have h1 := List.length_filter_le (fun i => !decide (i = -1)) ((plV k wd).take j)
            have h2 : ((plV k wd).take j).length ≤ k + wd.length := by rw [← plV_len]; exact List.length_take_le' _ _
            exact small1000 (by omega)
          · rw [upd_same, et, List.filter_append, List.map_append, List.filter_cons]
            simp [hz1]
      · rintro H2 ⟨s2, g2⟩
        refine q _ _ (s1.trans s2) ?_
        rw [g2, List.length_map, List.take_length, plV_keep]
        unfold pl
        rw [hrow, List.map_map]
        rfl

/-! exchanged(sequence, index) -/
def spExchanged : Sp := fun vs H Q _ => ∃ (s : List Nat) (i : Nat), vs = [.str (tx s), .int (i : Nat)] ∧ s.length ≤ 200 ∧ i + 1 < s.length ∧ Q (.str (tx (exch s i))) H
theorem cutS_pre (s : List Nat) {i : Nat} (h : i ≤ s.length) : cutS (tx s) none (some (i : Nat)) = tx (s.take i) := by
  unfold cutS
  have e1 : HT.sIx (tx s).length 0 none = 0 := by simp [HT.sIx]
  have e2 : HT.sIx (tx s).length (tx s).length (some ((i : Nat) : Int)) = i := by
    rw [tx_len]
    simp [HT.sIx]
    split <;> omega
  rw [e1, e2]
  simp
theorem cutS_suf (s : List Nat) {i : Nat} (h : i ≤ s.length) : cutS (tx s) (some (i : Nat)) none = tx (s.drop i) := by
  unfold cutS
  have e1 : HT.sIx (tx s).length 0 (some ((i : Nat) : Int)) = i := by
    rw [tx_len]
    simp [HT.sIx]
    split <;> omega
  have e2 : HT.sIx (tx s).length (tx s).length none = s.length := by
    rw [tx_len]
    simp [HT.sIx]
  rw [e1, e2]
  show tx ((s.drop i).take (s.length - i)) = _
  rw [List.take_of_length_le (by simp)]
theorem scExchanged : FnScope ["sequence", "index"] ["sequence", "index"] (defScope sExchanged) := ⟨rfl, rfl, rfl, by decide +kernel, rfl, by decide +kernel, by decide +kernel⟩
theorem cal_exchanged (T : TDef K mg "exchanged" sExchanged) : Cal P w K mg base 1 "exchanged" spExchanged [] := by
  refine cal_of T scExchanged (fun _ _ _ _ _ _ us hl => match us, hl with | [_, _], _ => rfl) (fun vs H Q E h => ?_) (fun f cdv A outer s0 H vs Q E hr h => ?_)
  · obtain ⟨s, i, rfl, _⟩ := h
    rfl
  · obtain ⟨s, i, rfl, hl, hi, q⟩ := h
    have hsz : (tx s).length ≤ sizeLine := by rw [tx_len]; exact Nat.le_trans hl (by decide)
    have big : ∀ a b : List Nat, a.length + b.length ≤ 400 → (tx a).length + (tx b).length ≤ sizeLine := fun a b h => by rw [tx_len, tx_len]; exact Nat.le_trans h (by decide)
    refine ⟨_, pss_one (ps_ret (pe_op op_add_str (pe_op op_add_str (pe_op op_add_str
      (pe_slice sl_str (pv 0) po_none (po_some (pv 1))) (pe_ix ix_str (pv 0) (pe_op op_add (pv 1) pe_int) (fun _ _ => rfl)))
      (pe_ix ix_str (pv 0) (pv 1) (fun _ _ => rfl))) (pe_slice sl_str (pv 0) (po_some (pe_op op_add (pv 1) pe_int)) po_none))), ?_⟩
    have c1 : s[i + 1]? = some (s.getD (i + 1) 0) := by simp [List.getD, hi]
    have c0 : s[i]? = some (s.getD i 0) := by simp [List.getD, show i < s.length by omega]
    refine ⟨_, rfl, _, rfl, _, rfl, tx s, rfl, hsz, ?_⟩
    rw [cutS_pre s (by omega)]
    refine ⟨_, rfl, _, rfl, _, _, rfl, rfl, tx s, _, s.getD (i + 1) 0, rfl, rfl, hsz, ?_, ?_⟩
    · exact atI_nat' (i := i + 1) (by simpa using c1)
    refine ⟨_, tx [s.getD (i + 1) 0], rfl, rfl, big _ _ (by simp <;> omega), ?_⟩
    rw [tx_cat]
    refine ⟨_, rfl, _, rfl, tx s, _, s.getD i 0, rfl, rfl, hsz, ?_, ?_⟩
    · exact atI_nat' (i := i) (by simpa using c0)
    refine ⟨_, tx [s.getD i 0], rfl, rfl, big _ _ (by simp <;> omega), ?_⟩
    rw [tx_cat]
    refine ⟨_, rfl, _, rfl, _, _, rfl, rfl, _, rfl, tx s, rfl, hsz, ?_⟩
    have e2 : cutS (tx s) (some (((i : Nat) : Int) + 2)) none = tx (s.drop (i + 2)) := cutS_suf s (i := i + 2) (by omega)
    show ∃ _, _
    refine ⟨_, tx (s.drop (i + 2)), rfl, by rw [← e2], big _ _ (by simp <;> omega), ?_⟩
    rw [tx_cat]
    exact q
end
end K53
end -- K
section -- L
set_option linter.all false
set_option maxRecDepth 100000
set_option maxHeartbeats 4000000
/-! unseen_puts, exchangeable. -/
namespace K53
open PySem PySem.Spec PyProof.Rows L2
abbrev sUnseenPuts : Stmt := top 55
abbrev sExchangeable : Stmt := top 57
abbrev iVs (l : List Nat) : List V := l.map fun i => V.int (i : Nat)
theorem key_nat {a b : Nat} : (Sum.inl ((a : Nat) : Int) : Key) = Sum.inl ((b : Nat) : Int) ↔ a = b := by
  constructor
  · intro h
    have := Sum.inl.inj h
    omega
  · rintro rfl
    rfl
section
variable {P : Program} {w : World} {K : PySem.W.Frag} {mg : Str → Option Value} {base : Heap} {C : Addr}

/-! unseen_puts(sequence, capacity, mode) -/
def spUnseenPuts : Sp := fun vs H Q _ => ∃ (s : List Nat) (cap : Nat) (m : Mode), vs = [.str (tx s), .int (cap : Nat), .str (modeS m)] ∧
  s.length ≤ 200 ∧ (∀ c ∈ s, c ∈ stps) ∧ 1 ≤ cap ∧ cap ≤ 100 ∧ ∀ H' p, Same H H' → H p = none → H' p = some (.lst (iVs (unseen cap m s))) → Q (.ref p) H'
abbrev nUnseen : List Str := ["sequence", "capacity", "mode", "seen", "index", "length", "step"]
theorem scUnseenPuts : FnScope nUnseen ["sequence", "capacity", "mode"] (defScope sUnseenPuts) := ⟨rfl, rfl, rfl, by decide +kernel, rfl, by decide +kernel, by decide +kernel⟩
theorem cal_unseenPuts (G : Glob K mg) (T : TDef K mg "unseen_puts" sUnseenPuts) (c0 : Cal P w K mg base 4 "check_arguments" spCheckArguments [])
    (c1 : Cal P w K mg base 2 "places_left" spPlacesLeft []) : Cal P w K mg base 5 "unseen_puts" spUnseenPuts [] := by
  refine cal_of T scUnseenPuts (fun _ _ _ _ _ _ us hl => match us, hl with | [_, _, _], _ => rfl) (fun vs H Q E h => ?_) (fun f cdv A outer s0 H vs Q E hr h => ?_)
  · obtain ⟨s, cap, m, rfl, _⟩ := h
    rfl
  · obtain ⟨s, cap, m, rfl, hl, hs, h1, h2, q⟩ := h
    have hu := hu_of hr
    refine ⟨_, pss_cons (ps_expr (pe_c c0 hr (by decide) rfl (pa_cons (pv 0) (pa_cons (pv 1) (pa_cons (pv 2) pa_nil)))))
      (pss_cons (ps_set (i := 3) scUnseenPuts.nd rfl (Or.inr rfl) (pe_dc2 (own := [("length", 5), ("index", 4)]) (vs1 := [4]) (g := gName 5) (g1 := gName 4)
          (wi1 := iList K (tCall spPlacesLeft [] E0 (tCons (tVar 0) (tCons (tVar 5) (tCons (tVar 1) (tCons (tVar 2) tNil)))))) rfl scUnseenPuts.nd
          (pi_range1 rfl G.rng (pa_cons (pe_op op_add (pv 1) pe_int) pa_nil)) (blkOk_by (N := nUnseen) (sc := defScope sUnseenPuts) (by decide +kernel)) (by decide)
          (fun _ _ _ _ _ => pg_name (i := 5) scUnseenPuts.nd rfl (Or.inl rfl))
          (fun _ _ _ _ _ => pi_list (pe_c c1 hr (by decide) rfl (pa_cons (pv 0) (pa_cons (pv 5) (pa_cons (pv 1) (pa_cons (pv 2) pa_nil))))))
          (fun _ _ _ _ _ => pg_name (i := 4) scUnseenPuts.nd rfl (Or.inl rfl))
          (fun _ _ _ _ _ => pv 4) (fun _ _ _ _ _ => pe_bl)))
      (pss_one (ps_ret (pe_lc (own := [("index", 4), ("step", 6)]) (g := gTup K 2 (gCons (gName 4) (gCons (gName 6) gNil))) rfl scUnseenPuts.nd (pi_enumS (by rfl) G.enu (pa_cons (pv 0) pa_nil))
        (blkOk_by (N := nUnseen) (sc := defScope sUnseenPuts) (by decide +kernel))
        (fun _ _ _ _ _ => pg_tup rfl (pgs_cons (pg_name (i := 4) scUnseenPuts.nd rfl (Or.inl rfl)) (pgs_cons (pg_name (i := 6) scUnseenPuts.nd rfl (Or.inl rfl)) pgs_nil)))
        (fun _ _ _ _ _ => pts_one (PW.pt (pw_and (pt_cmpR op_ne (pv 6) (pe_gStr rfl G.TAKE) (nomark _)) (pw_and1 (pt_cmp (pc_dnotin hu (pv 4) (pv 3)))))))
        (fun _ _ _ _ _ => pv 4))))), ?_⟩
    refine ⟨_, rfl, _, rfl, _, rfl, s, cap, m, rfl, hl, hs, h1, h2, fun H1 s1 => ?_⟩
    refine ⟨_, rfl, _, _, rfl, rfl, _, rfl, by omega, by omega, fun D hD => ?_⟩
    have e1 : (((cap : Nat) : Int) + 1).toNat = cap + 1 := by omega
    rw [e1]
    -- the outer loop's word
    refine ⟨fun i k H' => k = (cap + 1) - i ∧ i ≤ cap + 1 ∧ Same H H' ∧ ∃ kvs : List (Key × V), H' D = some (.dK kvs) ∧ kvs.length ≤ i * 200 ∧
        ∀ x : Nat, (valV kvs (Sum.inl ((x : Nat) : Int))).isSome = true ↔ ∃ n, n < i ∧ x ∈ pl cap m s n,
      ⟨_, rfl, Nat.zero_le _, same_upd s1 hD, [], upd_same, Nat.zero_le _, fun x => ⟨fun z => by simp [valV_nil] at z, fun ⟨n, hn, _⟩ => absurd hn (Nat.not_lt_zero _)⟩⟩, ?_⟩
    have hHD : H D = none := by
      cases z : H D with
      | none => rfl
      | some o => rw [s1 D o z] at hD; exact nomatch hD
    rintro i k H2 ⟨rfl, hi, s2, kvs, gD, hlen, hmem⟩
    by_cases hlt : i < cap + 1
    · refine .inr ⟨hlt, _, fun H' z => ⟨(cap + 1) - (i + 1), by omega, z⟩, ?_⟩
      rintro x H3 ⟨rfl, rfl⟩
      refine ⟨rfl, _, rfl, _, rfl, _, rfl, _, rfl, s, i, cap, m, ?_, hl, by omega, fun H4 p s4 gp => ?_⟩
      · show [V.str (tx s), V.int (0 + (i : Nat)), V.int (cap : Nat), V.str (modeS m)] ++ [] = _
        rw [Int.zero_add]
        rfl
      refine ⟨p, rfl, ⟨_, SqL.of gp⟩, ?_⟩
      have gD4 := s4 _ _ gD
      have npD : p ≠ D := ne_of gp gD4 (by intro z; cases z)
      refine ⟨fun j k1 H' => k1 = (pl cap m s i).length - j ∧ j ≤ (pl cap m s i).length ∧ Same H H' ∧ H' p = some (.lst (iVs (pl cap m s i))) ∧
          ∃ kvs : List (Key × V), H' D = some (.dK kvs) ∧ kvs.length ≤ i * 200 + j ∧
            ∀ x : Nat, (valV kvs (Sum.inl ((x : Nat) : Int))).isSome = true ↔ (∃ n, n < i ∧ x ∈ pl cap m s n) ∨ x ∈ (pl cap m s i).take j,
        ⟨_, rfl, Nat.zero_le _, s2.trans s4, gp, kvs, gD4, hlen, fun x => by rw [hmem x]; simp⟩, ?_⟩
      rintro j k1 H5 ⟨rfl, hj, s5, gp5, kvs5, gD5, hlen5, hmem5⟩
      have hpl := pl_len (cap := cap) (m := m) (s := s) (n := i)
      by_cases hjl : j < (pl cap m s i).length
      · have ex : (iVs (pl cap m s i))[j]? = some (V.int ((pl cap m s i)[j] : Nat)) := by simp [hjl]
        refine .inr ⟨⟨_, _, SqL.of gp5, ex⟩, _, fun H' z => ⟨(pl cap m s i).length - (j + 1), by omega, z⟩, ?_⟩
        rintro x H6 ⟨rfl, hx⟩
        obtain rfl : V.int ((pl cap m s i)[j] : Nat) = x := by
          have := hx _ (SqL.of gp5)
          rw [ex] at this
          exact Option.some.inj this
        refine ⟨rfl, _, rfl, kvs5, Sum.inl ((pl cap m s i)[j] : Nat), rfl, gD5, ?_, ?_⟩
        · have : i * 200 ≤ 100 * 200 := Nat.mul_le_mul_right _ (by omega)
          exact Nat.lt_of_le_of_lt (show kvs5.length ≤ 20200 by omega) (by decide)
        · refine ⟨rfl, hjl, same_updD s5 hHD, by rw [upd_ne npD]; exact gp5, _, upd_same, ?_, fun x => ?_⟩
          · have := length_putK kvs5 (Sum.inl ((pl cap m s i)[j] : Nat) : Key) (V.bl true)
            omega
          · have et : (pl cap m s i).take (j + 1) = (pl cap m s i).take j ++ [(pl cap m s i)[j]] := by rw [List.take_succ, List.getElem?_eq_getElem hjl]; rfl
            rw [et, List.mem_append, List.mem_singleton, valV_put]
            by_cases hxe : x = (pl cap m s i)[j]
            · rw [if_pos (key_nat.mpr hxe)]
              simp [hxe]
            · rw [if_neg fun z => hxe (key_nat.mp z), hmem5 x]
              simp only [hxe, or_false]
      · have ej : j = (pl cap m s i).length := by omega
        refine .inl ⟨⟨_, SqL.of gp5, by simp; omega⟩, rfl, hlt, s5, kvs5, gD5, by rw [Nat.succ_mul]; omega, fun x => ?_⟩
        rw [hmem5 x, ej, List.take_length]
        constructor
        · rintro (⟨n, hn, hx⟩ | hx)
          · exact ⟨n, by omega, hx⟩
          · exact ⟨i, by omega, hx⟩
        · rintro ⟨n, hn, hx⟩
          by_cases e : n = i
          · subst e; exact .inr hx
          · exact .inl ⟨n, by omega, hx⟩
    · have ei : i = cap + 1 := by omega
      subst ei
      refine .inl ⟨Nat.le_refl _, ?_⟩
      -- seen is made
      have hseen : ∀ x : Nat, (valV kvs (Sum.inl ((x : Nat) : Int))).isSome = seenB cap m s x := fun x => by
        rw [Bool.eq_iff_iff, hmem x, seenB_iff]
        constructor
        · rintro ⟨n, hn, hx⟩; exact ⟨n, by omega, hx⟩
        · rintro ⟨n, hn, hx⟩; exact ⟨n, by omega, hx⟩
      refine ⟨_, rfl, tx s, rfl, fun D2 hD2 => lc_it walk_enumS
        (fun j H' => Same H2 H' ∧ H' D2 = some (.lst (iVs ((List.range j).filter fun i => decide (s.getD i 0 ≠ 45) && !seenB cap m s i))))
        ⟨same_upd0 hD2, upd_same⟩ (fun _ _ _ _ => trivial) ?_ ?_⟩
      · rintro j x H3 H4 hj ⟨s3, g3⟩ ⟨T1, a, b, rfl, n1, rfl, ea, eb⟩
        have hj' : j < s.length := by simpa using hj
        obtain rfl : V.int (j : Nat) = a := Option.some.inj ea
        obtain rfl : V.str (tx [s[j]]) = b := by
          have eb' : Option.map (fun c => V.str ⟨#[c]⟩) ((tx s).cps[j]?) = some b := eb
          have e3 : (tx s).cps[j]? = some s[j] := by simp [hj']
          rw [e3] at eb'
          exact Option.some.inj eb'
        have eg : s.getD j 0 = s[j] := by simp [List.getD, hj']
        have nTD : D2 ≠ T1 := ne_of_none g3 n1
        have s4 : Same H2 (upd H3 T1 (.tup [.int (j : Nat), .str (tx [s[j]])])) := same_upd s3 n1
        have g4 : (upd H3 T1 (.tup [.int (j : Nat), .str (tx [s[j]])])) D2 = some (.lst (iVs ((List.range j).filter fun i => decide (s.getD i 0 ≠ 45) && !seenB cap m s i))) := by
          rw [upd_ne nTD]; exact g3
        refine ⟨T1, _, rfl, SqT.of upd_same, rfl, _, _, rfl, _, _, rfl, rfl, rfl, ?_⟩
        refine ⟨_, rfl, rfl, _, rfl, ?_⟩
        have e1 : (!decide (V.str (tx [s[j]]) = V.str (("-" : String) : Str))) = decide (s[j] ≠ 45) := by
          rw [take_tx, tx_dec]
          by_cases z : s[j] = 45 <;> simp [z]
        rw [e1]
        by_cases hc : s[j] = 45
        · rw [decide_eq_false (by simpa using hc)]
          refine iteF (iteF ⟨s4, ?_⟩)
          rw [g4, List.range_succ, List.filter_append, List.filter_cons, eg, decide_eq_false (by simpa using hc)]
          simp
        · rw [decide_eq_true hc]
          refine iteT ⟨_, rfl, _, rfl, D, _, rfl, DGet.k (k := Sum.inl ((j : Nat) : Int)) (s4 _ _ gD), _, rfl, ?_⟩
          rw [hseen j]
          by_cases hz : seenB cap m s j = true
          · rw [hz]
            refine iteF ⟨s4, ?_⟩
            rw [g4, List.range_succ, List.filter_append, List.filter_cons, hz]
            simp
          · rw [Bool.not_eq_true] at hz
            rw [hz]
            refine iteT ⟨_, rfl, _, g4, ?_, same_updD s4 hD2, ?_⟩
            · rw [List.length_map]
              have := List.length_filter_le (fun i => decide (s.getD i 0 ≠ 45) && !seenB cap m s i) (List.range j)
              rw [List.length_range] at this
              exact small1000 (by omega)
            · rw [upd_same, List.range_succ, List.filter_append, List.filter_cons, hz, eg, decide_eq_true hc]
              simp
      · rintro H3 ⟨s3, g3⟩
        have ez : (tx s).cps.size = s.length := by simp
        rw [ez] at g3
        exact q H3 D2 (s2.trans s3) (Same.free s2 hD2) g3

/-! exchangeable(sequence, capacity, mode) -/
def spExchangeable : Sp := fun vs H Q _ => ∃ (s : List Nat) (cap : Nat) (m : Mode), vs = [.str (tx s), .int (cap : Nat), .str (modeS m)] ∧
  s.length ≤ 200 ∧ (∀ c ∈ s, c ∈ stps) ∧ 1 ≤ cap ∧ cap ≤ 100 ∧ ∀ H' p, Same H H' → H p = none → H' p = some (.lst (iVs (xables cap m s))) → Q (.ref p) H'
abbrev nExchangeable : List Str := ["sequence", "capacity", "mode", "effect", "found", "index", "is_same"]
theorem scExchangeable : FnScope nExchangeable ["sequence", "capacity", "mode"] (defScope sExchangeable) := ⟨rfl, rfl, rfl, by decide +kernel, rfl, by decide +kernel, by decide +kernel⟩
theorem cal_exchangeable (G : Glob K mg) (TC : ECls K mg C) (T : TDef K mg "exchangeable" sExchangeable) (c0 : Cal P w K mg base 4 "check_arguments" spCheckArguments [])
    (c1 : Cal P w K mg base 8 "effect_of" (spEffectOf C) []) (c2 : Cal P w K mg base 1 "exchanged" spExchanged []) : Cal P w K mg base 9 "exchangeable" spExchangeable [] := by
  obtain ⟨fq, fdq, hq1, hq2, Fq⟩ := TC.eq
  have bq := Fq.binds (ps := ["self", "other"]) fun _ _ _ _ _ _ us hl => match us, hl with | [_, _], _ => rfl
  have hnf : PySem.W.notFirst K C (.ref C) = true := by simp [PySem.W.notFirst]
  refine cal_of T scExchangeable (fun _ _ _ _ _ _ us hl => match us, hl with | [_, _, _], _ => rfl) (fun vs H Q E h => ?_) (fun f cdv A outer s0 H vs Q E hr h => ?_)
  · obtain ⟨s, cap, m, rfl, _⟩ := h
    rfl
  · obtain ⟨s, cap, m, rfl, hl, hs, h1, h2, q⟩ := h
    have hsz : (tx s).length ≤ sizeLine := by rw [tx_len]; exact Nat.le_trans hl (by decide)
    refine ⟨_, pss_cons (ps_expr (pe_c c0 hr (by decide) rfl (pa_cons (pv 0) (pa_cons (pv 1) (pa_cons (pv 2) pa_nil)))))
      (pss_cons (ps_set (i := 3) scExchangeable.nd rfl (Or.inl rfl) (pe_c c1 hr (by decide) rfl (pa_cons (pv 0) (pa_cons (pv 1) (pa_cons (pv 2) pa_nil)))))
      (pss_cons (ps_set (i := 4) scExchangeable.nd rfl (Or.inl rfl) (pe_lst pa_nil))
      (pss_cons (ps_for PassesOwn.never rfl (pi_range1 rfl G.rng (pa_cons (pe_op op_sub (pe_callB call_len_str (by rfl) G.len PySem.boot_len (pa_cons (pv 0) pa_nil)) pe_int) pa_nil)) (pg_name (i := 5) scExchangeable.nd rfl (Or.inl rfl))
        (pss_cons (ps_set (i := 6) scExchangeable.nd rfl (Or.inl rfl) (pe_cmpR op_eq (pe_ix ix_str (pv 0) (pv 5) (fun _ _ => rfl)) (pe_ix ix_str (pv 0) (pe_op op_add (pv 5) pe_int) (fun _ _ => rfl)) (nomark _)))
          (pss_one (ps_if (PW.pt (pw_or (pt_val (pv 6)) (pw_or1 (pt_cmpR (op_ownEq hq1 hq2 hnf (fn_eEq G TC Fq) bq (hr.mono (by decide)))
              (pe_c c1 hr (by decide) rfl (pa_cons (pe_c c2 hr (by decide) rfl (pa_cons (pv 0) (pa_cons (pv 5) pa_nil))) (pa_cons (pv 1) (pa_cons (pv 2) pa_nil)))) (pv 3) (nomark _)))))
            (pss_one (ps_expr (pe_bm PySem.F.plainAttrs_list PySem.F.slot_list_append PySem.F.type_list_append mt_append (pv 4) (pa_cons (pv 5) pa_nil)))) pss_nil))))
      (pss_one (ps_ret (pv 4)))))), ?_⟩
    refine ⟨_, rfl, _, rfl, _, rfl, s, cap, m, rfl, hl, hs, h1, h2, fun H1 s1 => ?_⟩
    refine ⟨_, rfl, _, rfl, _, rfl, s, cap, m, rfl, hl, hs, h1, h2, fun H2 pe s2 he => ?_⟩
    refine ⟨Nat.zero_le _, fun L hL => ?_⟩
    refine ⟨_, rfl, tx s, rfl, hsz, _, _, rfl, rfl, _, rfl, ?_, ?_, ?_⟩
    · rw [tx_len]; omega
    · rw [tx_len]; omega
    have hHL : H L = none := by
      cases z : H L with
      | none => rfl
      | some o => rw [s2 L o (s1 L o z)] at hL; exact nomatch hL
    have en : (((tx s).length : Nat) - 1 : Int).toNat = s.length - 1 := by rw [tx_len]; omega
    have en' : ((fun i j : Int => V.int (i - j)) ((tx s).length : Nat) 1) = V.int (((tx s).length : Nat) - 1) := rfl
    rw [en]
    refine for_range (fun i σ H' => ∃ x y : Option V, σ = [some (.str (tx s)), some (.int (cap : Nat)), some (.str (modeS m)), some (.ref pe), some (.ref L), x, y] ∧
        Same H2 H' ∧ H' L = some (.lst (iVs ((List.range i).filter fun i => decide (s.getD i 0 = s.getD (i + 1) 0) || decide (rowsOf cap m (exch s i) = rowsOf cap m s)))))
      ⟨none, none, rfl, same_upd0 hL, upd_same⟩ ?_ ?_
    · rintro i σ H3 hi ⟨x0, y0, rfl, s3, g3⟩
      have hi1 : i + 1 < s.length := by omega
      have c1' : s[i + 1]? = some (s.getD (i + 1) 0) := by simp [List.getD, hi1]
      have c0' : s[i]? = some (s.getD i 0) := by simp [List.getD, show i < s.length by omega]
      rw [Int.zero_add]
      refine ⟨_, rfl, _, rfl, tx s, _, s.getD i 0, rfl, rfl, hsz, atI_nat' (i := i) (by simpa using c0'), ?_⟩
      refine ⟨_, rfl, _, rfl, _, _, rfl, rfl, tx s, _, s.getD (i + 1) 0, rfl, rfl, hsz, atI_nat' (i := i + 1) (by simpa using c1'), rfl, ?_⟩
      have e1 : decide (V.str (tx [s.getD i 0]) = V.str (tx [s.getD (i + 1) 0])) = decide (s.getD i 0 = s.getD (i + 1) 0) := by
        rw [tx_dec]
        simp
      have app : ∀ H4, Same H3 H4 → ((decide (s.getD i 0 = s.getD (i + 1) 0) || decide (rowsOf cap m (exch s i) = rowsOf cap m s)) = true) →
          ∃ z, ([some (V.str (tx s)), some (.int (cap : Nat)), some (.str (modeS m)), some (.ref pe), some (.ref L), some (.int (i : Nat)), z] : L2.St) = [some (.str (tx s)), some (.int (cap : Nat)), some (.str (modeS m)), some (.ref pe), some (.ref L), some (.int (i : Nat)), z] ∧
            Same H2 (upd H4 L (.lst (iVs ((List.range i).filter fun i => decide (s.getD i 0 = s.getD (i + 1) 0) || decide (rowsOf cap m (exch s i) = rowsOf cap m s)) ++ [.int (i : Nat)]))) ∧
            (upd H4 L (.lst (iVs ((List.range i).filter fun i => decide (s.getD i 0 = s.getD (i + 1) 0) || decide (rowsOf cap m (exch s i) = rowsOf cap m s)) ++ [.int (i : Nat)]))) L =
              some (.lst (iVs ((List.range (i + 1)).filter fun i => decide (s.getD i 0 = s.getD (i + 1) 0) || decide (rowsOf cap m (exch s i) = rowsOf cap m s)))) := fun H4 s4 hb => by
        refine ⟨none, rfl, same_updD (s3.trans s4) hL, ?_⟩
        rw [upd_same, List.range_succ, List.filter_append, List.filter_cons, hb]
        simp
      have size : (iVs ((List.range i).filter fun i => decide (s.getD i 0 = s.getD (i + 1) 0) || decide (rowsOf cap m (exch s i) = rowsOf cap m s))).length < sizeLine := by
        rw [List.length_map]
        have := List.length_filter_le (fun i => decide (s.getD i 0 = s.getD (i + 1) 0) || decide (rowsOf cap m (exch s i) = rowsOf cap m s)) (List.range i)
        rw [List.length_range] at this
        exact small1000 (by omega)
      refine ⟨_, rfl, _, rfl, ?_⟩
      rw [e1]
      by_cases hsame : s.getD i 0 = s.getD (i + 1) 0
      · rw [decide_eq_true hsame]
        refine iteT (iteT ?_)
        refine ⟨_, rfl, .inl ⟨rfl, _, SqL.of g3⟩, _, rfl, L, _, _, rfl, rfl, g3, size, ?_⟩
        obtain ⟨z, _, a1, a2⟩ := app H3 (Same.refl _) (by rw [decide_eq_true hsame]; rfl)
        exact ⟨_, _, rfl, a1, a2⟩
      · rw [decide_eq_false hsame]
        refine iteF ?_
        have hl' := exch_len hi1
        have hs' : ∀ c ∈ exch s i, c ∈ stps := fun c hc => hs c ((exch_mem hi1).mp hc)
        refine ⟨_, rfl, _, rfl, s, i, rfl, hl, hi1, ?_⟩
        refine ⟨_, rfl, _, rfl, exch s i, cap, m, rfl, by omega, hs', h1, h2, fun H4 p4 s4 he4 => ?_⟩
        have he' := (he.same s3).same s4
        obtain ⟨dx, t, gp4, _⟩ := id he4
        obtain ⟨dy, u, gpe, _⟩ := id he'
        refine ⟨_, rfl, p4, dx, _, pe, dy, _, rfl, rfl, gp4, gpe, p4, pe, _, _, rfl, he4, he', fine_rowsOf h1 hs', fine_rowsOf h1 hs, _, rfl, _, rfl, ?_⟩
        by_cases heq : rowsOf cap m (exch s i) = rowsOf cap m s
        · rw [decide_eq_true heq]
          refine iteT ?_
          refine ⟨_, rfl, .inl ⟨rfl, _, SqL.of (s4 _ _ g3)⟩, _, rfl, L, _, _, rfl, rfl, s4 _ _ g3, size, ?_⟩
          obtain ⟨z, _, a1, a2⟩ := app H4 s4 (by rw [decide_eq_true heq, Bool.or_true])
          exact ⟨_, _, rfl, a1, a2⟩
        · rw [decide_eq_false heq]
          refine iteF ⟨_, _, rfl, s3.trans s4, ?_⟩
          rw [s4 _ _ g3, List.range_succ, List.filter_append, List.filter_cons, decide_eq_false hsame, decide_eq_false heq]
          simp
    · rintro σ H3 ⟨x0, y0, rfl, s3, g3⟩
      exact ⟨_, rfl, q H3 L ((s1.trans s2).trans s3) hHL g3⟩
end
end K53
end -- L
section -- N
set_option linter.all false
set_option maxRecDepth 100000
set_option maxHeartbeats 4000000
/-! The law's own helpers: _law_pool, _law_take, _law_steps, _law_swapped. -/
namespace K53
open PySem PySem.Spec PyProof.Rows L2
abbrev sPool : Stmt := top 59
abbrev sTake : Stmt := top 60
abbrev sSteps : Stmt := top 61
abbrev sSwapped : Stmt := top 64
/-- the pool: two numbers, the second below the modulus -/
def PoolAt (H : Hp) (l : Addr) : Prop := ∃ a b : Int, H l = some (.lst [.int a, .int b]) ∧ 0 ≤ b ∧ b < 2147483647
/-- all but the list at l is kept -/
def Keeps (l : Addr) (H H' : Hp) : Prop := ∀ b o, b ≠ l → H b = some o → H' b = some o
theorem Keeps.refl {l : Addr} {H : Hp} : Keeps l H H := fun _ _ _ h => h
theorem Keeps.trans {l : Addr} {H H1 H2 : Hp} (a : Keeps l H H1) (b : Keeps l H1 H2) : Keeps l H H2 := fun c o n h => b c o n (a c o n h)
theorem Keeps.of {l : Addr} {H H' : Hp} (s : Same H H') : Keeps l H H' := fun b o _ h => s b o h
theorem PoolAt.same {H H' : Hp} {l : Addr} (s : Same H H') (h : PoolAt H l) : PoolAt H' l := by
  obtain ⟨a, b, e, r⟩ := h
  exact ⟨a, b, s _ _ e, r⟩
section
variable {P : Program} {w : World} {K : PySem.W.Frag} {mg : Str → Option Value} {base : Heap} {C : Addr}

/-! _law_take(pool, bound) -/
def spTake : Sp := fun vs H Q _ => ∃ (l : Addr) (n : Int), vs = [.ref l, .int n] ∧ PoolAt H l ∧ 1 ≤ n ∧ n ≤ 1000 ∧
  ∀ (r : Int) (H' : Hp), 0 ≤ r → r < n → PoolAt H' l → Keeps l H H' → Q (.int r) H'
theorem scTake : FnScope ["_law_pool_here", "_law_bound", "_law_digit"] ["_law_pool_here", "_law_bound"] (defScope sTake) := ⟨rfl, rfl, rfl, by decide +kernel, rfl, by decide +kernel, by decide +kernel⟩
theorem cal_take (T : TDef K mg "_law_take" sTake) : Cal P w K mg base 1 "_law_take" spTake [] := by
  refine cal_of T scTake (fun _ _ _ _ _ _ us hl => match us, hl with | [_, _], _ => rfl) (fun vs H Q E h => ?_) (fun f cdv A outer s0 H vs Q E hr h => ?_)
  · obtain ⟨l, n, rfl, _⟩ := h
    rfl
  · obtain ⟨l, n, rfl, ⟨a, b, hl, hb0, hb1⟩, hn, hn2, q⟩ := h
    refine ⟨_, pss_cons (ps_if (pt_cmpR op_gt (pe_ix ix_list (pv 0) pe_int (fun _ _ => rfl)) pe_int (nomark _))
        (pss_cons (ps_set (i := 2) scTake.nd rfl (Or.inl rfl) (pe_op op_mod (pe_ix ix_list (pv 0) pe_int (fun _ _ => rfl)) (pv 1)))
        (pss_cons (ps_asg (pe_op op_fdiv (pe_ix ix_list (pv 0) pe_int (fun _ _ => rfl)) (pv 1)) (pg_sub (pv 0) pe_int set_list))
        (pss_one (ps_ret (pv 2))))) pss_nil)
      (pss_cons (ps_asg (pe_op op_mod (pe_op op_add (pe_op op_mul (pe_ix ix_list (pv 0) pe_int (fun _ _ => rfl)) pe_int) pe_int) pe_int) (pg_sub (pv 0) pe_int set_list))
      (pss_one (ps_ret (pe_op op_mod (pe_op op_fdiv (pe_op op_mod (pe_op op_mul (pe_ix ix_list (pv 0) pe_int (fun _ _ => rfl)) (pe_ix ix_list (pv 0) pe_int (fun _ _ => rfl))) pe_int) pe_int) (pv 1))))), ?_⟩
    refine ⟨_, rfl, l, _, 0, .int a, rfl, rfl, SqL.of hl, rfl, _, _, rfl, rfl, _, rfl, ?_⟩
    refine ite2 (fun _ => ?_) (fun _ => ?_)
    · refine ⟨_, rfl, l, _, 0, .int a, rfl, rfl, SqL.of hl, rfl, _, rfl, _, _, rfl, rfl, (by show (0 : Int) < n; omega), ?_⟩
      refine ⟨_, rfl, l, _, 0, .int a, rfl, rfl, SqL.of hl, rfl, _, rfl, _, _, rfl, rfl, ⟨by omega, by omega⟩, ?_⟩
      refine ⟨_, rfl, l, _, 0, 0, rfl, rfl, hl, rfl, ?_⟩
      refine ⟨_, rfl, q (a % n) _ (Int.emod_nonneg _ (by omega)) (Int.emod_lt_of_pos _ (by omega)) ⟨a / n, b, upd_same, hb0, hb1⟩ fun c o hc h => ?_⟩
      rw [upd_ne hc]
      exact h
    · refine ⟨_, rfl, l, _, 1, .int b, rfl, rfl, SqL.of hl, rfl, _, _, rfl, rfl, .inl ⟨by omega, by omega⟩, _, _, rfl, rfl, _, _, rfl, rfl, (by show (0 : Int) < 2147483647; decide), ?_⟩
      have hb2 : 0 ≤ (b * 48271 + 11) % 2147483647 := Int.emod_nonneg _ (by decide)
      have hb3 : (b * 48271 + 11) % 2147483647 < 2147483647 := Int.emod_lt_of_pos _ (by decide)
      refine ⟨_, rfl, l, _, 1, 1, rfl, rfl, hl, rfl, ?_⟩
      generalize hB : (b * 48271 + 11) % 2147483647 = B at hb2 hb3
      have hl2 : (upd H l (.lst ([V.int a, V.int b].set 1 (V.int ((b * 48271 + 11) % 2147483647))))) l = some (.lst [.int a, .int B]) := by rw [upd_same, ← hB]; rfl
      refine ⟨_, rfl, l, _, 1, .int B, rfl, rfl, SqL.of hl2, rfl, _, rfl, l, _, 1, .int B, rfl, rfl, SqL.of hl2, rfl, ?_⟩
      refine ⟨_, _, rfl, rfl, .inl ⟨by omega, by omega⟩, _, _, rfl, rfl, (by show (0 : Int) < 2147483629; decide), _, _, rfl, rfl, ⟨by decide, by decide⟩, _, rfl, _, _, rfl, rfl, (by show (0 : Int) < n; omega), ?_⟩
      refine q _ _ (Int.emod_nonneg _ (by omega)) (Int.emod_lt_of_pos _ (by omega)) ⟨a, B, hl2, hb2, hb3⟩ fun c o hc h => ?_
      rw [upd_ne hc]
      exact h

/-! _law_pool(script, k) -/
def spPool (K : PySem.W.Frag) : Sp := fun vs H Q _ => ∃ (a : Addr) (ns : List Int) (k : Int), vs = [.ref a, .int k] ∧ SqL K H a (ns.map V.int) ∧ ns.length ≤ 63 ∧ 0 ≤ k ∧ k ≤ 1 ∧
  ∀ H' p, Same H H' → H p = none → PoolAt H' p → Q (.ref p) H'
theorem scPool : FnScope ["_law_script", "_law_k", "_law_cell", "_law_seed"] ["_law_script", "_law_k"] (defScope sPool) := ⟨rfl, rfl, rfl, by decide +kernel, rfl, by decide +kernel, by decide +kernel⟩
theorem boot_abs : bootBuiltins "abs" = some (.builtin "abs") := by decide +kernel
theorem cal_pool (G : Glob K mg) (T : TDef K mg "_law_pool" sPool) : Cal P w K mg base 1 "_law_pool" (spPool K) [] := by
  refine cal_of T scPool (fun _ _ _ _ _ _ us hl => match us, hl with | [_, _], _ => rfl) (fun vs H Q E h => ?_) (fun f cdv A outer s0 H vs Q E hr h => ?_)
  · obtain ⟨a, ns, k, rfl, _⟩ := h
    rfl
  · obtain ⟨a, ns, k, rfl, hS, hlen, hk0, hk1, q⟩ := h
    refine ⟨_, pss_cons (ps_set (i := 2) scPool.nd rfl (Or.inl rfl) pe_int)
      (C8.pss_cut (ps_if (pt_cmpR (op_neD hr.units) (pv 0) (pe_lst pa_nil) (nomark _))
        (pss_one (ps_set (i := 2) scPool.nd rfl (Or.inl rfl) (pe_ix ix_list (pv 0) (pe_op op_mod (pv 1) (pe_callB call_len_seq (by rfl) G.len PySem.boot_len (pa_cons (pv 0) pa_nil))) (fun _ _ => rfl)))) pss_nil)
      (pss_cons (ps_set (i := 3) scPool.nd rfl (Or.inl rfl) (pe_op op_mod (pe_op op_mul (pe_op op_add (pe_op op_add (pe_op op_mod (pv 2) pe_int) (pe_op op_mul pe_int (pv 1))) pe_int) pe_int) pe_int))
      (pss_one (ps_ret (pe_lst (pa_cons (pe_op op_mul (pe_callB call_abs (by rfl) G.abs boot_abs (pa_cons (pv 2) pa_nil))
          (pe_callTy call_int1 (by rfl) G.int PyProof.Rows.boot_int (pa_cons (pe_cmpR op_ge (pe_callB call_abs (by rfl) G.abs boot_abs (pa_cons (pv 2) pa_nil)) (pe_op op_pow pe_int pe_int) (nomark _)) pa_nil)))
        (pa_cons (pv 3) pa_nil))))))), ?_⟩
    refine ⟨fun σ H' => ∃ c : Int, σ = [some (.ref a), some (.int k), some (.int c), none] ∧ Same H H', ?_, ?_⟩
    · refine ⟨_, rfl, Nat.zero_le _, fun p np => ?_⟩
      have s1 : Same H (upd H p (.lst [])) := same_upd0 np
      refine ⟨.list (ns.map PyData.int), .list (([] : List Int).map PyData.int), .lst (s1.seq hS) (dp_ints _), .lst (SqL.of upd_same) .nil, shaped_ints _, shaped_ints _, _, rfl, ?_⟩
      rw [eqv_intL]
      by_cases hz : ns = []
      · rw [decide_eq_true hz]
        exact iteF ⟨_, rfl, s1⟩
      · rw [decide_eq_false hz]
        have hpos : 0 < ns.length := List.length_pos_iff.mpr hz
        refine iteT ?_
        have hm0 : 0 ≤ k % (ns.length : Int) := Int.emod_nonneg _ (by omega)
        have hm1 : k % (ns.length : Int) < ns.length := Int.emod_lt_of_pos _ (by omega)
        obtain ⟨j, hj⟩ : ∃ j : Nat, k % (ns.length : Int) = j := ⟨(k % (ns.length : Int)).toNat, by omega⟩
        have hjl : j < ns.length := by omega
        refine ⟨_, rfl, _, rfl, _, rfl, a, _, rfl, .inl (s1.seq hS), _, _, rfl, rfl, ?_, a, _, _, .int ns[j], rfl, rfl, s1.seq hS, ?_, ?_⟩
        · show (0 : Int) < ((ns.map V.int).length : Nat)
          rw [List.length_map]
          omega
        · show atI (ns.map V.int) (k % ((ns.map V.int).length : Nat)) = _
          rw [List.length_map, hj]
          exact atI_nat' (by simp [hjl])
        · exact ⟨_, rfl, s1⟩
    · rintro σ H1 ⟨c, rfl, s1⟩
      have sd0 : ∀ z : Int, 0 ≤ z * 48271 % 2147483647 := fun z => Int.emod_nonneg _ (by decide)
      have sd1 : ∀ z : Int, z * 48271 % 2147483647 < 2147483647 := fun z => Int.emod_lt_of_pos _ (by decide)
      have c0 : 0 ≤ c % 2147483629 := Int.emod_nonneg _ (by decide)
      have c1 : c % 2147483629 < 2147483629 := Int.emod_lt_of_pos _ (by decide)
      refine ⟨_, rfl, _, _, rfl, rfl, (by show (0 : Int) < 2147483629; decide), _, rfl, _, _, rfl, rfl, .inl ⟨by decide, by decide⟩, _, _, rfl, rfl, _, _, rfl, rfl, ?_⟩
      refine ⟨_, _, rfl, rfl, .inl ⟨?_, ?_⟩, _, _, rfl, rfl, (by show (0 : Int) < 2147483647; decide), ?_⟩
      · show -(2 ^ 64) < c % 2147483629 + 50021 * k + 13
        omega
      · show c % 2147483629 + 50021 * k + 13 < 2 ^ 64
        omega
      refine ⟨_, rfl, c, rfl, _, rfl, c, rfl, _, _, rfl, rfl, ⟨by decide, by decide, by decide⟩, _, _, rfl, rfl, ?_⟩
      refine .inr ⟨_, rfl, _, _, rfl, rfl, .inr ?_, _, rfl, by show 2 ≤ sizeLine; decide, fun p np => ?_⟩
      · have bb : ∀ d : Bool, -(2 ^ 64) < (if d = true then (1 : Int) else 0) ∧ (if d = true then (1 : Int) else 0) < 2 ^ 64 := by
          intro d
          cases d <;> decide
        exact bb _
      · refine q _ p (same_upd s1 np) (Same.free s1 np) ⟨_, _, upd_same, sd0 _, sd1 _⟩

/-! _law_steps(pool, most, letters) -/
def spSteps : Sp := fun vs H Q _ => ∃ (l : Addr) (most : Nat) (z : List Nat), vs = [.ref l, .int (most : Nat), .str (tx z)] ∧ PoolAt H l ∧ most ≤ 100 ∧ z.length ≤ 100 ∧
  ∀ (s : List Nat) (H' : Hp), s.length ≤ most → (∀ c ∈ s, c ∈ z ∨ c = 45) → PoolAt H' l → Keeps l H H' → Q (.str (tx s)) H'
theorem scSteps : FnScope ["_law_pool_here", "_law_most", "_law_letters", "_law_found", "_law_turn"] ["_law_pool_here", "_law_most", "_law_letters"] (defScope sSteps) := ⟨rfl, rfl, rfl, by decide +kernel, rfl, by decide +kernel, by decide +kernel⟩
theorem dd_tx : (("--" : String) : Str) = tx [45, 45] := by decide +kernel
theorem cal_steps (G : Glob K mg) (T : TDef K mg "_law_steps" sSteps) (c1 : Cal P w K mg base 1 "_law_take" spTake []) : Cal P w K mg base 2 "_law_steps" spSteps [] := by
  refine cal_of T scSteps (fun _ _ _ _ _ _ us hl => match us, hl with | [_, _, _], _ => rfl) (fun vs H Q E h => ?_) (fun f cdv A outer s0 H vs Q E hr h => ?_)
  · obtain ⟨l, most, z, rfl, _⟩ := h
    rfl
  · obtain ⟨l, most, z, rfl, hp, hm, hz, q⟩ := h
    have lz : (tx z).length ≤ sizeLine := by rw [tx_len]; exact Nat.le_trans hz (by decide)
    refine ⟨_, pss_cons (ps_set (i := 3) scSteps.nd rfl (Or.inl rfl) pe_str)
      (pss_cons (ps_for PassesOwn.never rfl (pi_range1 rfl G.rng (pa_cons (pe_c c1 hr (by decide) rfl (pa_cons (pv 0) (pa_cons (pe_op op_add (pv 1) pe_int) pa_nil))) pa_nil)) (pg_name (i := 4) scSteps.nd rfl (Or.inl rfl))
        (pss_one (ps_set (i := 3) scSteps.nd rfl (Or.inl rfl) (pe_op op_add_str (pv 3)
          (pe_ix ix_str (pe_op op_add_str (pv 2) pe_str) (pe_c c1 hr (by decide) rfl (pa_cons (pv 0) (pa_cons (pe_op op_add (pe_callB call_len_str (by rfl) G.len PySem.boot_len (pa_cons (pv 2) pa_nil)) pe_int) pa_nil))) (fun _ _ => rfl))))))
      (pss_one (ps_ret (pv 3)))), ?_⟩
    refine ⟨_, rfl, _, rfl, _, _, rfl, rfl, l, _, rfl, hp, by omega, by omega, fun r H1 r0 r1 p1 k1 => ?_⟩
    refine ⟨r, rfl, by omega, by omega, for_range (fun i σ H' => ∃ (s : List Nat) (x : Option V), σ = [some (.ref l), some (.int (most : Nat)), some (.str (tx z)), some (.str (tx s)), x] ∧ s.length = i ∧
        (∀ c ∈ s, c ∈ z ∨ c = 45) ∧ PoolAt H' l ∧ Keeps l H H')
      ⟨[], none, by rw [← nil_tx]; rfl, rfl, (fun _ h => (nomatch h)), p1, k1⟩ ?_ ?_⟩
    · rintro i σ H2 hi ⟨s, x, rfl, ls, hs, p2, k2⟩
      have hi' : i ≤ 100 := by omega
      refine ⟨_, rfl, _, rfl, tx z, _, rfl, rfl, ?_, ?_⟩
      · rw [dd_tx, tx_len, tx_len]
        exact Nat.le_trans (show z.length + 2 ≤ 102 by omega) (by decide)
      refine ⟨_, rfl, _, rfl, tx z, rfl, lz, _, _, rfl, rfl, l, _, rfl, p2, ?_, ?_, fun r' H3 a0 a1 p3 k3 => ?_⟩
      · show (1 : Int) ≤ ((tx z).length : Nat) + 2
        omega
      · show (((tx z).length : Nat) : Int) + 2 ≤ 1000
        rw [tx_len]
        omega
      obtain ⟨j, rfl⟩ : ∃ j : Nat, r' = j := ⟨r'.toNat, by omega⟩
      have hj : j < (z ++ [45, 45]).length := by
        have a1' : ((j : Nat) : Int) < ((tx z).length : Nat) + 2 := a1
        rw [tx_len] at a1'
        simp
        omega
      refine ⟨_, _, (z ++ [45, 45])[j], rfl, rfl, ?_, ?_, ?_⟩
      · rw [dd_tx, tx_cat, tx_len]
        exact Nat.le_trans (show (z ++ [45, 45]).length ≤ 102 by simp; omega) (by decide)
      · rw [dd_tx, tx_cat]
        exact atI_nat' (by simp [hj])
      refine ⟨tx s, tx [(z ++ [45, 45])[j]], rfl, rfl, ?_, ?_⟩
      · rw [tx_len, tx_len]
        exact Nat.le_trans (show s.length + 1 ≤ 102 by omega) (by decide)
      rw [tx_cat]
      refine ⟨s ++ [(z ++ [45, 45])[j]], _, rfl, by simp [ls], fun c hc => ?_, p3, k2.trans k3⟩
      rcases List.mem_append.mp hc with h | h
      · exact hs c h
      · rw [List.mem_singleton.mp h]
        rcases List.mem_append.mp (List.getElem_mem hj) with h2 | h2
        · exact .inl h2
        · right
          simp at h2
          exact h2
    · rintro σ H2 ⟨s, x, rfl, ls, hs, p2, k2⟩
      exact ⟨_, rfl, q s H2 (by omega) hs p2 k2⟩

/-! _law_swapped(steps, at) -/
theorem scSwapped : FnScope ["_law_steps_here", "_law_at", "_law_near"] ["_law_steps_here", "_law_at"] (defScope sSwapped) := ⟨rfl, rfl, rfl, by decide +kernel, rfl, by decide +kernel, by decide +kernel⟩
theorem cal_swapped (T : TDef K mg "_law_swapped" sSwapped) : Cal P w K mg base 1 "_law_swapped" spExchanged [] := by
  refine cal_of T scSwapped (fun _ _ _ _ _ _ us hl => match us, hl with | [_, _], _ => rfl) (fun vs H Q E h => ?_) (fun f cdv A outer s0 H vs Q E hr h => ?_)
  · obtain ⟨s, i, rfl, _⟩ := h
    rfl
  · obtain ⟨s, i, rfl, hl, hi, q⟩ := h
    have hsz : (tx s).length ≤ sizeLine := by rw [tx_len]; exact Nat.le_trans hl (by decide)
    have big : ∀ a b : List Nat, a.length + b.length ≤ 400 → (tx a).length + (tx b).length ≤ sizeLine := fun a b h => by rw [tx_len, tx_len]; exact Nat.le_trans h (by decide)
    refine ⟨_, pss_cons (ps_set (i := 2) scSwapped.nd rfl (Or.inl rfl) (pe_op op_add_str (pe_slice sl_str (pv 0) po_none (po_some (pv 1))) (pe_ix ix_str (pv 0) (pe_op op_add (pv 1) pe_int) (fun _ _ => rfl))))
      (pss_one (ps_ret (pe_op op_add_str (pe_op op_add_str (pv 2) (pe_ix ix_str (pv 0) (pv 1) (fun _ _ => rfl))) (pe_slice sl_str (pv 0) (po_some (pe_op op_add (pv 1) pe_int)) po_none)))), ?_⟩
    have c1 : s[i + 1]? = some (s.getD (i + 1) 0) := by simp [List.getD, hi]
    have c0 : s[i]? = some (s.getD i 0) := by simp [List.getD, show i < s.length by omega]
    refine ⟨_, rfl, _, rfl, _, rfl, tx s, rfl, hsz, ?_⟩
    rw [cutS_pre s (by omega)]
    refine ⟨_, rfl, _, rfl, _, _, rfl, rfl, tx s, _, s.getD (i + 1) 0, rfl, rfl, hsz, ?_, ?_⟩
    · exact atI_nat' (i := i + 1) (by simpa using c1)
    refine ⟨_, tx [s.getD (i + 1) 0], rfl, rfl, big _ _ (by simp <;> omega), ?_⟩
    rw [tx_cat]
    refine ⟨_, rfl, _, rfl, _, rfl, tx s, _, s.getD i 0, rfl, rfl, hsz, ?_, ?_⟩
    · exact atI_nat' (i := i) (by simpa using c0)
    refine ⟨_, tx [s.getD i 0], rfl, rfl, big _ _ (by simp <;> omega), ?_⟩
    rw [tx_cat]
    refine ⟨_, rfl, _, rfl, _, _, rfl, rfl, _, rfl, tx s, rfl, hsz, ?_⟩
    have e2 : cutS (tx s) (some (((i : Nat) : Int) + 2)) none = tx (s.drop (i + 2)) := cutS_suf s (i := i + 2) (by omega)
    refine ⟨_, tx (s.drop (i + 2)), rfl, by rw [← e2], big _ _ (by simp <;> omega), ?_⟩
    rw [tx_cat]
    exact q
end
end K53
end -- N
section -- O
set_option linter.all false
set_option maxRecDepth 100000
set_option maxHeartbeats 4000000
/-! _law_unseen_right. -/
namespace K53
open PySem PySem.Spec PyProof.Rows L2
abbrev sUnseenRight : Stmt := top 65

/-! ### short words for effects -/
theorem op_effEq {X : Cx} {C : Addr} (G : Glob X.K X.mg) (TC : ECls X.K X.mg C) (hr : Room 1 X.A) : OpR X (compareOp .Eq) (rOwnEq C (spEEq C)) := by
  obtain ⟨fq, fdq, hq1, hq2, Fq⟩ := TC.eq
  have bq := Fq.binds (ps := ["self", "other"]) fun _ _ _ _ _ _ us hl => match us, hl with | [_, _], _ => rfl
  exact op_ownEq hq1 hq2 (by simp [PySem.W.notFirst]) (fn_eEq G TC Fq) bq hr
theorem read_eq {C : Addr} {H : Hp} {p q : Addr} {rs us : List Row} {Q : VK} (h1 : EffAt C H p rs) (h2 : EffAt C H q us) (f1 : Fine rs) (f2 : Fine us)
    (k : ∃ k, V.bl (decide (rs = us)) = .bl k ∧ Q (.bl k) H) : rOwnEq C (spEEq C) (.ref p) (.ref q) H Q := by
  obtain ⟨dx, t, g1, r1⟩ := id h1
  obtain ⟨dy, u, g2, r2⟩ := id h2
  obtain ⟨b, e, k⟩ := k
  cases e
  exact ⟨p, dx, _, q, dy, _, rfl, rfl, g1, g2, p, q, rs, us, rfl, h1, h2, f1, f2, _, rfl, k⟩
theorem op_effIn {X : Cx} {C : Addr} (G : Glob X.K X.mg) (TC : ECls X.K X.mg C) (c1 : Cal X.prog X.w X.K X.mg X.base 1 "is_integer" spIsInteger [.int 0]) (hr : Room 3 X.A) :
    OpR X (compareOp .In) (rOwnIn C (spEIn C)) := by
  obtain ⟨fq, fdq, hq1, hq2, Fq⟩ := TC.inn
  have bq := Fq.binds (ps := ["self", "value"]) fun _ _ _ _ _ _ us hl => match us, hl with | [_, _], _ => rfl
  exact op_ownIn hq1 hq2 (fn_eIn G TC c1 Fq) bq hr
theorem ix_eff {X : Cx} {C : Addr} (G : Glob X.K X.mg) (TC : ECls X.K X.mg C) (c1 : Cal X.prog X.w X.K X.mg X.base 2 "check_integer" spCheckInteger []) (hr : Room 4 X.A)
    {e i : Expr} {te ti : TE} {pos : Pos} (he : PE X e te) (hx : PE X i ti)
    (hsl : ∀ o j, subscripted i true o j = runValue (.builtin "lifetime.subscript" ⟨[o, j], []⟩) := by intros; with_unfolding_all rfl) :
    PE X (.Subscript e i pos) (tOp (rOwnIx C (spEGet C)) te ti) := by
  obtain ⟨fq, fdq, hq1, hq2, hq3, Fq⟩ := TC.get
  have bq := Fq.binds (ps := ["self", "at"]) fun _ _ _ _ _ _ us hl => match us, hl with | [_, _], _ => rfl
  exact ix_own hq1 hq3 hq2 (fn_eGet G TC c1 Fq) bq hr he hx hsl

/-! ### in a list of places -/
theorem inV_nat (i : Nat) : ∀ l : List Nat, inV (.int (i : Nat)) (iVs l) = decide (i ∈ l)
  | [] => rfl
  | x :: l => by
    show (eqV (.int (x : Nat)) (.int (i : Nat)) || inV (.int (i : Nat)) (iVs l)) = _
    rw [inV_nat i l]
    show ((((x : Nat) : Int) == (i : Nat)) || _) = _
    by_cases h : i = x
    · subst h; simp
    · have h1 : (((x : Nat) : Int) == (i : Nat)) = false := by
        rw [beq_eq_false_iff_ne]
        omega
      rw [h1]
      simp [h]
theorem flat_iVs (l : List Nat) : (iVs l).all flatV = true := by
  rw [List.all_eq_true]
  intro x hx
  obtain ⟨i, _, rfl⟩ := List.mem_map.mp hx
  rfl
theorem iVs_ints (l : List Nat) : iVs l = (l.map fun i => ((i : Nat) : Int)).map V.int := by rw [List.map_map]; rfl
theorem iVs_take (l : List Nat) (n : Nat) : (iVs l).take n = iVs (l.take n) := by
  show (l.map _).take n = (l.take n).map _
  rw [List.map_take]
theorem natInt_inj {a b : List Nat} : (a.map fun i => ((i : Nat) : Int)) = (b.map fun i => ((i : Nat) : Int)) ↔ a = b :=
  List.map_inj_right fun x y (h : ((x : Nat) : Int) = (y : Nat)) => by omega

/-! ### a text put together from its signs -/
theorem join_one : ∀ l : List Nat, Txt.join (tx []) (l.map fun c => tx [c]) = tx l := by
  intro l
  rw [TL.join_eq]
  induction l with
  | nil => rfl
  | cons c l ih =>
    cases l with
    | nil => rfl
    | cons d l =>
      show tx [c] ++ tx [] ++ Str.join (tx []) ((d :: l).map fun c => tx [c]) = _
      rw [ih, tx_cat, tx_cat]
      rfl
theorem sum_one : ∀ l : List Nat, ((l.map fun c => tx [c]).map (·.length)).sum = l.length
  | [] => rfl
  | c :: l => by
    rw [List.map_cons, List.map_cons, List.sum_cons, sum_one l, tx_len]
    simp
    omega

/-! ### the longest word -/
def wordsOf (rs : List Row) : List (List Nat) := rs.filterMap fun r => r.map (·.2)
theorem wmax_words {rs : List Row} {m : Int} (h1 : m ∈ (0 : Int) :: (wordsOf rs).map fun w => ((w.length : Nat) : Int)) (h2 : ∀ y ∈ (0 : Int) :: (wordsOf rs).map (fun w => ((w.length : Nat) : Int)), y ≤ m) : m = (wmax rs : Nat) := by
  have lo : ((wmax rs : Nat) : Int) ≤ m := by
    rcases wmax_mem (l := rs) with z | ⟨r, hr, z⟩
    · rw [z]
      exact h2 0 List.mem_cons_self
    · rw [← z]
      cases r with
      | none => exact h2 0 List.mem_cons_self
      | some p => exact h2 _ (List.mem_cons_of_mem _ (List.mem_map.mpr ⟨p.2, List.mem_filterMap.mpr ⟨_, hr, rfl⟩, rfl⟩))
  have hi : m ≤ (wmax rs : Nat) := by
    rcases List.mem_cons.mp h1 with z | z
    · rw [z]; omega
    · obtain ⟨w, hw, rfl⟩ := List.mem_map.mp z
      obtain ⟨r, hr, e⟩ := List.mem_filterMap.mp hw
      cases r with
      | none => exact nomatch e
      | some p =>
        have := le_wmax hr
        obtain rfl : p.2 = w := by simpa using e
        have : p.2.length ≤ wmax rs := this
        omega
  omega
theorem set_form {s : List Nat} {i : Nat} (hi : i < s.length) : s.take i ++ [113] ++ s.drop (i + 1) = s.set i 113 := by
  rw [List.set_eq_take_append_cons_drop, if_pos hi]
  simp
theorem repl_len (cap : Nat) (m : Mode) (s : List Nat) : (repl cap m s).length = s.length := by simp [repl]
theorem repl_steps {cap : Nat} {m : Mode} {s : List Nat} (hs : ∀ c ∈ s, c ∈ stps) : ∀ c ∈ repl cap m s, c ∈ stps := fun c hc => by
  obtain ⟨i, hi, rfl⟩ := List.mem_map.mp hc
  split
  · decide
  · have hi' := List.mem_range.mp hi
    have : s.getD i 0 = s[i] := by simp [List.getD, hi']
    rw [this]
    exact hs _ (List.getElem_mem hi')
theorem set_steps {s : List Nat} {i : Nat} (hs : ∀ c ∈ s, c ∈ stps) : ∀ c ∈ s.set i 113, c ∈ stps := fun c hc => by
  rcases List.mem_or_eq_of_mem_set hc with h | h
  · exact hs c h
  · rw [h]; decide
end K53
end -- O
section -- P
set_option linter.all false
set_option maxRecDepth 100000
set_option maxHeartbeats 8000000
/-! _law_unseen_right: the walk. -/
namespace K53
open PySem PySem.Spec PyProof.Rows L2
theorem boot_max' : bootBuiltins "max" = some (.builtin "max") := by decide +kernel
theorem boot_sorted' : bootBuiltins "sorted" = some (.builtin "sorted") := by decide +kernel
theorem cutV_pre {xs : List V} {n : Nat} (h : n ≤ xs.length) : cutV xs none (some (n : Nat)) = xs.take n := by
  unfold cutV
  have e1 : HT.sIx xs.length 0 none = 0 := by simp [HT.sIx]
  have e2 : HT.sIx xs.length xs.length (some ((n : Nat) : Int)) = n := by
    simp [HT.sIx]
    split <;> omega
  rw [e1, e2]
  simp
theorem repl_at {cap : Nat} {m : Mode} {s : List Nat} {j : Nat} (hj : j < s.length) : (repl cap m s)[j]? = some (if j ∈ unseen cap m s then 113 else s[j]) := by
  unfold repl
  rw [List.getElem?_map, List.getElem?_range hj]
  have : s.getD j 0 = s[j] := by simp [List.getD, hj]
  show some (if j ∈ unseen cap m s then 113 else s.getD j 0) = _
  rw [this]
theorem words_snoc {rs : List Row} {j : Nat} {r : Row} (h : rs[j]? = some r) : wordsOf (rs.take (j + 1)) = wordsOf (rs.take j) ++ (r.map (·.2)).toList := by
  unfold wordsOf
  rw [List.take_succ, h, List.filterMap_append]
  cases r <;> rfl
theorem words_small {cap : Nat} {m : Mode} {s : List Nat} (h1 : 1 ≤ cap) (hs : ∀ c ∈ s, c ∈ stps) {wd : List Nat} (h : wd ∈ wordsOf (rowsOf cap m s)) : wd.length ≤ cap := by
  obtain ⟨r, hr, e⟩ := List.mem_filterMap.mp h
  obtain ⟨n, hn, rfl⟩ := List.mem_map.mp hr
  have hn' : n ≤ cap := by have := List.mem_range.mp hn; omega
  have ok := rowOf_ok (m := m) h1 hn' hs
  cases e2 : rowOf cap m s n with
  | none => rw [e2] at e; exact nomatch e
  | some p =>
    rw [e2] at e ok
    obtain rfl : p.2 = wd := by simpa using e
    obtain ⟨a, b, c⟩ := ok
    omega
theorem words_len {rs : List Row} : (wordsOf rs).length ≤ rs.length := List.length_filterMap_le _ _
section
variable {P : Program} {w : World} {K : PySem.W.Frag} {mg : Str → Option Value} {base : Heap} {C : Addr}
def spUnseenRight : Sp := fun vs H Q _ => ∃ (s : List Nat) (cap : Nat) (m : Mode), vs = [.str (tx s), .int (cap : Nat), .str (modeS m)] ∧
  s.length ≤ 60 ∧ (∀ c ∈ s, c ∈ stps) ∧ (∀ c ∈ s, c ≠ 113) ∧ 1 ≤ cap ∧ cap ≤ 100 ∧ ∀ H', Same H H' → Q (.bl true) H'
abbrev nUR : List Str := ["_law_steps_here", "_law_capacity", "_law_mode", "_law_due", "_law_unseen", "_law_other", "_law_puts", "_law_at", "_law_bent", "_law_words", "_law_long", "_law_step", "_law_length", "_law_word"]
theorem scUR : FnScope nUR ["_law_steps_here", "_law_capacity", "_law_mode"] (defScope sUnseenRight) := ⟨rfl, rfl, rfl, by decide +kernel, rfl, by decide +kernel, by decide +kernel⟩
theorem cal_unseenRight (G : Glob K mg) (TC : ECls K mg C) (T : TDef K mg "_law_unseen_right" sUnseenRight) (c1 : Cal P w K mg base 8 "effect_of" (spEffectOf C) [])
    (c2 : Cal P w K mg base 5 "unseen_puts" spUnseenPuts []) (c3 : Cal P w K mg base 1 "is_integer" spIsInteger [.int 0]) (c4 : Cal P w K mg base 2 "check_integer" spCheckInteger []) :
    Cal P w K mg base 10 "_law_unseen_right" spUnseenRight [] := by
  refine cal_of T scUR (fun _ _ _ _ _ _ us hl => match us, hl with | [_, _, _], _ => rfl) (fun vs H Q E h => ?_) (fun f cdv A outer s0 H vs Q E hr h => ?_)
  · obtain ⟨s, cap, m, rfl, _⟩ := h
    rfl
  · obtain ⟨s, cap, m, rfl, hl, hs, hq, h1, h2, q⟩ := h
    have hr1 := hr.mono (show 1 ≤ 9 by decide)
    refine ⟨_, pss_cons (ps_set (i := 3) scUR.nd rfl (Or.inr rfl) (pe_c c1 hr (by decide) rfl (pa_cons (pv 0) (pa_cons (pv 1) (pa_cons (pv 2) pa_nil)))))
      (pss_cons (ps_set (i := 4) scUR.nd rfl (Or.inr rfl) (pe_c c2 hr (by decide) rfl (pa_cons (pv 0) (pa_cons (pv 1) (pa_cons (pv 2) pa_nil)))))
      (pss_cons (ps_set (i := 5) scUR.nd rfl (Or.inl rfl) (pe_join pe_str
        (pe_lc (own := [("_law_at", 7), ("_law_step", 11)]) (g := gTup K 2 (gCons (gName 7) (gCons (gName 11) gNil))) (tt := tYes) rfl scUR.nd (pi_enumS (by rfl) G.enu (pa_cons (pv 0) pa_nil))
          (blkOk_by (N := nUR) (sc := defScope sUnseenRight) (by decide +kernel))
          (fun _ _ _ _ _ => pg_tup rfl (pgs_cons (pg_name (i := 7) scUR.nd rfl (Or.inl rfl)) (pgs_cons (pg_name (i := 11) scUR.nd rfl (Or.inl rfl)) pgs_nil)))
          (fun _ _ _ _ _ => pts_nil)
          (fun _ _ _ _ _ => pe_ifExp (pt_cmpR (r := rIn K false) op_in_seq (pv 7) (pv 4) rfl) pe_str (pv 11)))))
      (pss_cons (ps_if (pt_not (pt_cmpR (op_effEq G TC hr1) (pe_c c1 hr (by decide) rfl (pa_cons (pv 5) (pa_cons (pv 1) (pa_cons (pv 2) pa_nil)))) (pv 3) (nomark _))) (pss_one (ps_ret pe_bl)) pss_nil)
      (pss_cons (ps_setLc (i := 6) (own := [("_law_at", 7), ("_law_step", 11)]) (g := gTup K 2 (gCons (gName 7) (gCons (gName 11) gNil))) rfl scUR.nd rfl rfl (sw_true rfl rfl rfl (by decide +kernel))
          (pi_enumS (by rfl) G.enu (pa_cons (pv 0) pa_nil))
          (blkOk_by (N := nUR) (sc := defScope sUnseenRight) (by decide +kernel))
          (fun _ _ _ _ _ => pg_tup rfl (pgs_cons (pg_name (i := 7) scUR.nd rfl (Or.inl rfl)) (pgs_cons (pg_name (i := 11) scUR.nd rfl (Or.inl rfl)) pgs_nil)))
          (fun _ _ _ _ _ => pts_one (pt_cmpR op_ne (pv 11) pe_str (nomark _)))
          (fun _ _ _ _ _ => pv 7))
      (pss_cons (ps_for PassesOwn.never rfl (pi_list (pv 6)) (pg_name (i := 7) scUR.nd rfl (Or.inl rfl))
        (pss_cons (ps_set (i := 8) scUR.nd rfl (Or.inl rfl) (pe_op op_add_str (pe_op op_add_str (pe_slice sl_str (pv 0) po_none (po_some (pv 7))) pe_str) (pe_slice sl_str (pv 0) (po_some (pe_op op_add (pv 7) pe_int)) po_none)))
          (pss_one (ps_if (PW.pt (pw_and (pt_cmpR op_notIn_seq (pv 7) (pv 4) rfl) (pw_and1 (pt_cmpR (op_effEq G TC hr1) (pe_c c1 hr (by decide) rfl (pa_cons (pv 8) (pa_cons (pv 1) (pa_cons (pv 2) pa_nil)))) (pv 3) (nomark _)))))
            (pss_one (ps_ret pe_bl)) pss_nil))))
      (pss_cons (ps_if (pt_cmpR op_eq (pv 2) pe_str (nomark _))
        (pss_cons (ps_setLc (i := 9) (own := [("_law_length", 12)]) (g := gName 12) rfl scUR.nd rfl rfl (sw_true rfl rfl rfl (by decide +kernel))
            (pi_range1 rfl G.rng (pa_cons (pe_op op_add (pv 1) pe_int) pa_nil))
            (blkOk_by (N := nUR) (sc := defScope sUnseenRight) (by decide +kernel))
            (fun _ _ _ _ _ => pg_name (i := 12) scUR.nd rfl (Or.inl rfl))
            (fun _ _ _ _ _ => pts_one (pt_cmpR (op_effIn G TC c3 (hr.mono (by decide))) (pv 12) (pv 3) rfl))
            (fun _ _ _ _ _ => pe_ix (r := rIxT K) ix_tup (ix_eff G TC c4 (hr.mono (by decide)) (pv 3) (pv 12)) pe_int (fun _ _ => rfl)))
        (pss_cons (ps_set (i := 10) scUR.nd rfl (Or.inl rfl) (pe_callB (cr_max rfl) (by rfl) G.max boot_max' (pa_cons (pe_op op_cat (pe_lst (pa_cons pe_int pa_nil))
            (pe_lc (own := [("_law_word", 13)]) (g := gName 13) (tt := tYes) rfl scUR.nd (pi_list (pv 9))
              (blkOk_by (N := nUR) (sc := defScope sUnseenRight) (by decide +kernel))
              (fun _ _ _ _ _ => pg_name (i := 13) scUR.nd rfl (Or.inl rfl)) (fun _ _ _ _ _ => pts_nil)
              (fun _ _ _ _ _ => pe_callB call_len_str (by rfl) G.len PySem.boot_len (pa_cons (pv 13) pa_nil)))) pa_nil)))
        (pss_one (ps_ret (pe_cmpR (op_eqD hr.units) (pv 4) (pe_slice sl_list (pv 6) po_none (po_some (pe_op op_sub (pe_callB call_len_seq (by rfl) G.len PySem.boot_len (pa_cons (pv 6) pa_nil)) (pv 10)))) (nomark _)))))) pss_nil)
      (pss_one (ps_ret (pe_cmpR (op_eqD hr.units) (pv 4) (pe_callB cr_sorted (by rfl) G.sorted boot_sorted' (pa_cons (pv 4) pa_nil)) (nomark _)))))))))), ?_⟩
    have hsz : (tx s).length ≤ sizeLine := by rw [tx_len]; exact Nat.le_trans hl (by decide)
    have big : ∀ a b : List Nat, a.length + b.length ≤ 400 → (tx a).length + (tx b).length ≤ sizeLine := fun a b h => by rw [tx_len, tx_len]; exact Nat.le_trans h (by decide)
    have fs := fine_rowsOf (m := m) h1 hs
    refine ⟨_, rfl, _, rfl, _, rfl, s, cap, m, rfl, by omega, hs, h1, h2, fun H1 pd s1 hd => ?_⟩
    refine ⟨_, rfl, _, rfl, _, rfl, s, cap, m, rfl, by omega, hs, h1, h2, fun H2 pu s2 _ gu => ?_⟩
    have hd2 := hd.same s2
    -- the other text
    refine ⟨⟨_, rfl⟩, _, rfl, tx s, rfl, fun D hD => lc_it walk_enumS (fun j H' => Same H2 H' ∧ H' D = some (.lst (((repl cap m s).take j).map fun c => V.str (tx [c]))))
      ⟨same_upd0 hD, upd_same⟩ (fun _ _ _ _ => trivial) ?_ ?_⟩
    · rintro j x H3 H4 hj ⟨s3, g3⟩ ⟨T1, a, b, rfl, n1, rfl, ea, eb⟩
      have hj' : j < s.length := by simpa using hj
      obtain rfl : V.int (j : Nat) = a := Option.some.inj ea
      obtain rfl : V.str (tx [s[j]]) = b := by
        have eb' : Option.map (fun c => V.str ⟨#[c]⟩) ((tx s).cps[j]?) = some b := eb
        have e3 : (tx s).cps[j]? = some s[j] := by simp [hj']
        rw [e3] at eb'
        exact Option.some.inj eb'
      have s4 : Same H2 (upd H3 T1 (.tup [.int (j : Nat), .str (tx [s[j]])])) := same_upd s3 n1
      have g4 : (upd H3 T1 (.tup [.int (j : Nat), .str (tx [s[j]])])) D = some (.lst (((repl cap m s).take j).map fun c => V.str (tx [c]))) := by
        rw [upd_ne (ne_of_none g3 n1)]; exact g3
      have hsize : (((repl cap m s).take j).map fun c => V.str (tx [c])).length < sizeLine := by
        rw [List.length_map, List.length_take, repl_len]
        exact small1000 (by omega)
      refine ⟨T1, _, rfl, SqT.of upd_same, rfl, _, _, rfl, _, _, rfl, rfl, rfl, ?_⟩
      refine ⟨_, rfl, _, rfl, pu, _, rfl, .inl (SqL.of (s4 _ _ gu)), rfl, flat_iVs _, _, rfl, ?_⟩
      rw [if_neg Bool.false_ne_true, inV_nat]
      have et : (repl cap m s).take (j + 1) = (repl cap m s).take j ++ [if j ∈ unseen cap m s then 113 else s[j]] := by rw [List.take_succ, repl_at hj']; rfl
      by_cases hu : j ∈ unseen cap m s
      · rw [decide_eq_true hu]
        refine iteT ⟨_, g4, hsize, same_updD s4 hD, ?_⟩
        rw [upd_same, et, if_pos hu, List.map_append, q_tx]
        rfl
      · rw [decide_eq_false hu]
        refine iteF ⟨_, rfl, _, g4, hsize, same_updD s4 hD, ?_⟩
        rw [upd_same, et, if_neg hu, List.map_append]
        rfl
    rintro H3 ⟨s3, g3⟩
    have ez : (tx s).cps.size = (repl cap m s).length := by rw [repl_len]; simp
    rw [ez, List.take_length] at g3
    refine ⟨_, D, (repl cap m s).map fun c => tx [c], rfl, rfl, .inl (SqL.of (by rw [g3, List.map_map]; rfl)), ?_, ?_⟩
    · rw [sum_one, List.length_map, repl_len]
      show s.length + s.length * (("" : String) : Str).length ≤ _
      rw [nil_tx, tx_len]
      simp
      omega
    rw [nil_tx, join_one]
    have hd3 := hd2.same s3
    -- if not effect_of(other) == due
    refine ⟨_, rfl, _, rfl, _, rfl, repl cap m s, cap, m, rfl, by rw [repl_len]; omega, repl_steps hs, h1, h2, fun H4 p4 s4 he4 => ?_⟩
    have hd4 := hd3.same s4
    refine ⟨_, rfl, read_eq he4 hd4 (fine_rowsOf h1 (repl_steps hs)) fs ⟨_, rfl, _, rfl, ?_⟩⟩
    rw [decide_eq_true (repl_rows cap m s)]
    refine iteF ?_
    have gu4 := s4 _ _ (s3 _ _ gu)
    -- puts
    refine ⟨_, rfl, tx s, rfl, fun D2 hD2 => lc_it walk_enumS (fun j H' => Same H4 H' ∧ H' D2 = some (.lst (iVs ((List.range j).filter fun i => decide (s.getD i 0 ≠ 45)))))
      ⟨same_upd0 hD2, upd_same⟩ (fun _ _ _ _ => trivial) ?_ ?_⟩
    · rintro j x H5 H6 hj ⟨s5, g5⟩ ⟨T1, a, b, rfl, n1, rfl, ea, eb⟩
      have hj' : j < s.length := by simpa using hj
      obtain rfl : V.int (j : Nat) = a := Option.some.inj ea
      obtain rfl : V.str (tx [s[j]]) = b := by
        have eb' : Option.map (fun c => V.str ⟨#[c]⟩) ((tx s).cps[j]?) = some b := eb
        have e3 : (tx s).cps[j]? = some s[j] := by simp [hj']
        rw [e3] at eb'
        exact Option.some.inj eb'
      have eg : s.getD j 0 = s[j] := by simp [List.getD, hj']
      have s6 : Same H4 (upd H5 T1 (.tup [.int (j : Nat), .str (tx [s[j]])])) := same_upd s5 n1
      have g6 : (upd H5 T1 (.tup [.int (j : Nat), .str (tx [s[j]])])) D2 = some (.lst (iVs ((List.range j).filter fun i => decide (s.getD i 0 ≠ 45)))) := by
        rw [upd_ne (ne_of_none g5 n1)]; exact g5
      refine ⟨T1, _, rfl, SqT.of upd_same, rfl, _, _, rfl, _, _, rfl, rfl, rfl, ?_⟩
      refine ⟨_, rfl, rfl, _, rfl, ?_⟩
      have e1 : (!decide (V.str (tx [s[j]]) = V.str (("-" : String) : Str))) = decide (s[j] ≠ 45) := by
        rw [take_tx, tx_dec]
        by_cases z : s[j] = 45 <;> simp [z]
      rw [e1]
      by_cases hc : s[j] = 45
      · rw [decide_eq_false (by simpa using hc)]
        refine iteF ⟨s6, ?_⟩
        rw [g6, List.range_succ, List.filter_append, List.filter_cons, eg, decide_eq_false (by simpa using hc)]
        simp
      · rw [decide_eq_true hc]
        refine iteT ⟨_, rfl, _, g6, ?_, same_updD s6 hD2, ?_⟩
        · rw [List.length_map]
          have := List.length_filter_le (fun i => decide (s.getD i 0 ≠ 45)) (List.range j)
          rw [List.length_range] at this
          exact small1000 (by omega)
        · rw [upd_same, List.range_succ, List.filter_append, List.filter_cons, eg, decide_eq_true hc]
          simp
    rintro H5 ⟨s5, g5⟩
    have ez2 : (tx s).cps.size = s.length := by simp
    rw [ez2] at g5
    have g5 : H5 D2 = some (.lst (iVs (puts s))) := g5
    -- for at in puts
    refine ⟨_, rfl, D2, rfl, ⟨_, SqL.of g5⟩, for_list (K := K) (a := D2) (xs := iVs (puts s))
      (fun i σ H' => ∃ x y : Option V, σ = [some (.str (tx s)), some (.int (cap : Nat)), some (.str (modeS m)), some (.ref pd), some (.ref pu), some (.str (tx (repl cap m s))), some (.ref D2), x, y, none, none, none, none, none] ∧ Same H5 H')
      ⟨none, none, rfl, Same.refl _⟩ (fun i σ H' _ ⟨_, _, _, s6⟩ => SqL.of (s6 _ _ g5)) ?_ ?_⟩
    · rintro i x σ H6 hi ⟨x0, y0, rfl, s6⟩
      obtain ⟨j, hj, rfl⟩ : ∃ j, j ∈ puts s ∧ x = V.int (j : Nat) := by
        have := List.mem_of_getElem? hi
        obtain ⟨j, hj, e⟩ := List.mem_map.mp this
        exact ⟨j, hj, e.symm⟩
      obtain ⟨hjl, hjp⟩ := List.mem_filter.mp hj
      have hjl : j < s.length := List.mem_range.mp hjl
      have hjp : s.getD j 0 ≠ 45 := of_decide_eq_true hjp
      refine ⟨_, rfl, _, rfl, _, rfl, tx s, rfl, hsz, ?_⟩
      rw [cutS_pre s (by omega)]
      refine ⟨_, tx [113], rfl, by rw [q_tx], big _ _ (by simp <;> omega), ?_⟩
      rw [tx_cat]
      refine ⟨_, rfl, _, rfl, _, _, rfl, rfl, _, rfl, tx s, rfl, hsz, ?_⟩
      have e2 : cutS (tx s) (some (((j : Nat) : Int) + 1)) none = tx (s.drop (j + 1)) := cutS_suf s (i := j + 1) (by omega)
      refine ⟨_, tx (s.drop (j + 1)), rfl, by rw [← e2], big _ _ (by simp <;> omega), ?_⟩
      rw [tx_cat, set_form hjl]
      refine ⟨_, rfl, _, rfl, pu, _, rfl, .inl (SqL.of (s6 _ _ (s5 _ _ gu4))), rfl, flat_iVs _, _, rfl, ?_⟩
      rw [if_pos rfl, inV_nat]
      by_cases hu : j ∈ unseen cap m s
      · rw [decide_eq_true hu]
        exact iteF (iteF ⟨_, _, rfl, s6⟩)
      · rw [decide_eq_false hu]
        refine iteT ?_
        have hd6 := (hd4.same s5).same s6
        refine ⟨_, rfl, _, rfl, _, rfl, s.set j 113, cap, m, rfl, by simp <;> omega, set_steps hs, h1, h2, fun H7 p7 s7 he7 => ?_⟩
        refine ⟨_, rfl, read_eq he7 (hd6.same s7) (fine_rowsOf h1 (set_steps hs)) fs ⟨_, rfl, _, rfl, ?_⟩⟩
        have hne : ¬ rowsOf cap m (s.set j 113) = rowsOf cap m s := fun z => by
          have hq' : s.getD j 0 ≠ 113 := by
            have : s.getD j 0 = s[j] := by simp [List.getD, hjl]
            rw [this]
            exact hq _ (List.getElem_mem hjl)
          exact hu ((set_rows hjl hjp (by decide) hq').mp z)
        rw [decide_eq_false hne]
        exact iteF ⟨_, _, rfl, s6.trans s7⟩
    rintro σ H6 ⟨x0, y0, rfl, s6⟩
    have hd6 := (hd4.same s5).same s6
    have gu6 := s6 _ _ (s5 _ _ gu4)
    have g6 := s6 _ _ g5
    have sH6 : Same H H6 := ((((s1.trans s2).trans s3).trans s4).trans s5).trans s6
    have lun : (unseen cap m s).length ≤ s.length := by
      have := List.length_filter_le (fun i => decide (s.getD i 0 ≠ 45) && !seenB cap m s i) (List.range s.length)
      rw [List.length_range] at this
      exact this
    refine ⟨_, rfl, rfl, _, rfl, ?_⟩
    have e3 : decide (V.str (modeS m) = V.str (("oldest" : String) : Str)) = decide (m = .old) := modeS_dec m .old
    rw [e3]
    by_cases hmode : m = .old
    · rw [decide_eq_true hmode]
      refine iteT ?_
      -- words
      refine ⟨_, rfl, _, _, rfl, rfl, _, rfl, by omega, by omega, fun D3 hD3 => ?_⟩
      have e1 : (((cap : Nat) : Int) + 1).toNat = cap + 1 := by omega
      rw [e1]
      refine lc_it walk_range (fun j H' => Same H6 H' ∧ H' D3 = some (.lst ((wordsOf ((rowsOf cap m s).take j)).map fun wd => V.str (tx wd)))) ⟨same_upd0 hD3, upd_same⟩ (fun _ _ _ _ => trivial) ?_ ?_
      · rintro j x H7 H8 hj ⟨s7, g7⟩ ⟨rfl, rfl⟩
        have hj' : j ≤ cap := by omega
        have hrow := rowsOf_get (m := m) (s := s) hj'
        have hd7 := hd6.same s7
        obtain ⟨dx, t, gpd, _⟩ := id hd7
        refine ⟨rfl, _, rfl, _, rfl, pd, dx, _, rfl, gpd, pd, _, _, j, ?_, hd7, hrow, _, rfl, _, rfl, ?_⟩
        · show [V.ref pd, V.int (0 + (j : Nat))] = _
          rw [Int.zero_add]
        have hw := words_snoc hrow
        cases hr' : rowOf cap m s j with
        | none =>
          rw [hr'] at hw
          refine iteF ⟨s7, ?_⟩
          rw [g7, hw]
          simp
        | some pr =>
          obtain ⟨k, wd⟩ := pr
          rw [hr'] at hw hrow
          refine iteT ⟨_, rfl, _, rfl, pd, dx, _, rfl, gpd, pd, _, _, j, ?_, hd7, hrow, fun v rv => ?_⟩
          · show [V.ref pd, V.int (0 + (j : Nat))] = _
            rw [Int.zero_add]
          obtain ⟨a, rfl, ha⟩ := rv
          refine ⟨a, _, 1, .str (tx wd), rfl, rfl, SqT.of ha, rfl, _, g7, ?_, same_updD s7 hD3, ?_⟩
          · rw [List.length_map]
            have q1 := words_len (rs := (rowsOf cap m s).take j)
            have q2 : ((rowsOf cap m s).take j).length ≤ cap + 1 := by rw [← rowsOf_len cap m s]; exact List.length_take_le' _ _
            exact small1000 (by omega)
          · rw [upd_same, hw, List.map_append]
            rfl
      rintro H7 ⟨s7, g7⟩
      rw [← rowsOf_len cap m s, List.take_length] at g7
      -- long
      refine ⟨by show 1 ≤ sizeLine; decide, fun l0 n0 => ?_⟩
      have g8 : (upd H7 l0 (.lst [V.int 0])) D3 = some (.lst ((wordsOf (rowsOf cap m s)).map fun wd => V.str (tx wd))) := by
        rw [upd_ne (ne_of_none g7 n0)]; exact g7
      have s8 : Same H7 (upd H7 l0 (.lst [V.int 0])) := same_upd0 n0
      refine ⟨_, rfl, D3, rfl, ⟨_, SqL.of g8⟩, fun D4 hD4 => lc_it (walk_list (K := K) (a := D3) (xs := (wordsOf (rowsOf cap m s)).map fun wd => V.str (tx wd)))
        (fun j H' => Same (upd H7 l0 (.lst [V.int 0])) H' ∧ H' D4 = some (.lst (((wordsOf (rowsOf cap m s)).take j).map fun wd => V.int (wd.length : Nat))))
        ⟨same_upd0 hD4, upd_same⟩ (fun j H' _ ⟨s9, _⟩ => SqL.of (s9 _ _ g8)) ?_ ?_⟩
      · rintro j x H9 H10 hj ⟨s9, g9⟩ ⟨rfl, hx⟩
        rw [List.length_map] at hj
        obtain rfl : V.str (tx (wordsOf (rowsOf cap m s))[j]) = x := by
          rw [List.getElem?_map, List.getElem?_eq_getElem hj] at hx
          exact Option.some.inj hx
        have wl := words_small h1 hs (List.getElem_mem hj)
        refine ⟨rfl, _, rfl, tx _, rfl, by rw [tx_len]; exact Nat.le_trans wl (Nat.le_trans h2 (by decide)), _, g9, ?_, same_updD s9 hD4, ?_⟩
        · rw [List.length_map, List.length_take]
          have q1 := words_len (rs := rowsOf cap m s)
          rw [rowsOf_len] at q1
          exact small1000 (by omega)
        · rw [upd_same, List.take_succ, List.getElem?_eq_getElem hj, List.map_append, tx_len]
          rfl
      rintro H9 ⟨s9, g9⟩
      rw [List.length_map, List.take_length] at g9
      have g0 : H9 l0 = some (.lst [V.int 0]) := s9 _ _ upd_same
      refine ⟨l0, D4, _, _, rfl, rfl, g0, g9, ?_, fun p5 n5 => ?_⟩
      · rw [List.length_map]
        have q1 := words_len (rs := rowsOf cap m s)
        rw [rowsOf_len] at q1
        exact Nat.le_of_lt (small1000 (by show 1 + (wordsOf (rowsOf cap m s)).length ≤ 1000; omega))
      refine ⟨p5, (0 : Int) :: (wordsOf (rowsOf cap m s)).map (fun wd => ((wd.length : Nat) : Int)), rfl, SqL.of ?_, by simp, fun mx hm1 hm2 => ?_⟩
      · rw [upd_same, List.map_cons, List.map_map]
        rfl
      have emx := wmax_words hm1 hm2
      subst emx
      have s10 : Same H6 (upd H9 p5 (.lst ([V.int 0] ++ (wordsOf (rowsOf cap m s)).map fun wd => V.int (wd.length : Nat)))) := same_upd ((s7.trans s8).trans s9) n5
      have g10 := s10 _ _ g6
      have wle : wmax (rowsOf cap m s) ≤ (puts s).length := by rw [hmode]; exact wmax_le cap s
      refine ⟨_, rfl, _, rfl, _, rfl, D2, _, rfl, .inl (SqL.of g10), _, rfl, _, _, rfl, rfl, _, rfl, D2, _, rfl, SqL.of g10, fun p6 n6 => ?_⟩
      have ec : cutV (iVs (puts s)) none (some (((iVs (puts s)).length : Nat) - (wmax (rowsOf cap m s) : Nat))) = iVs (unseen cap m s) := by
        have e4 : (((iVs (puts s)).length : Nat) : Int) - (wmax (rowsOf cap m s) : Nat) = (((puts s).length - wmax (rowsOf cap m s) : Nat) : Int) := by
          rw [List.length_map]
          omega
        rw [e4, cutV_pre (by rw [List.length_map]; omega), iVs_take]
        rw [hmode, ← unseen_old]
      have g11 : (upd (upd H9 p5 (.lst ([V.int 0] ++ (wordsOf (rowsOf cap m s)).map fun wd => V.int (wd.length : Nat)))) p6 (.lst (cutV (iVs (puts s)) none (some (((iVs (puts s)).length : Nat) - (wmax (rowsOf cap m s) : Nat)))))) pu = some (.lst (iVs (unseen cap m s))) := by
        have z := s10 _ _ gu6
        rw [upd_ne (ne_of_none z n6)]
        exact z
      refine ⟨.list ((unseen cap m s).map (fun i => ((i : Nat) : Int)) |>.map PyData.int), .list ((unseen cap m s).map (fun i => ((i : Nat) : Int)) |>.map PyData.int), .lst (SqL.of g11) ?_, .lst (SqL.of upd_same) ?_, shaped_ints _, shaped_ints _, ?_⟩
      · rw [iVs_ints (unseen cap m s)]; exact dp_ints _
      · show DpAll _ _ (cutV (iVs (puts s)) none (some (((iVs (puts s)).length : Nat) - (wmax (rowsOf cap m s) : Nat)))) _
        rw [ec, iVs_ints (unseen cap m s)]; exact dp_ints _
      rw [eqv_intL, decide_eq_true rfl]
      exact q _ (same_upd (sH6.trans s10) n6)
    · rw [decide_eq_false hmode]
      refine iteF ?_
      refine ⟨_, rfl, _, rfl, pu, (unseen cap m s).map (fun i => ((i : Nat) : Int)), rfl, SqL.of (by rw [gu6, ← iVs_ints]), by rw [List.length_map]; omega, fun ns' p perm srt np => ?_⟩
      have hsort : ((unseen cap m s).map (fun i => ((i : Nat) : Int))).Pairwise (· ≤ ·) := by
        rw [List.pairwise_map]
        exact (unseen_sorted cap m s).imp fun h => by omega
      have en : ns' = (unseen cap m s).map (fun i => ((i : Nat) : Int)) := PySem.W.ksm_same perm srt hsort
      subst en
      have z := same_upd0 (o := .lst (((unseen cap m s).map (fun i => ((i : Nat) : Int))).map V.int)) np _ _ gu6
      refine ⟨.list ((unseen cap m s).map (fun i => ((i : Nat) : Int)) |>.map PyData.int), .list ((unseen cap m s).map (fun i => ((i : Nat) : Int)) |>.map PyData.int), .lst (SqL.of z) ?_, .lst (SqL.of upd_same) (dp_ints _), shaped_ints _, shaped_ints _, ?_⟩
      · rw [iVs_ints (unseen cap m s)]; exact dp_ints _
      rw [eqv_intL, decide_eq_true rfl]
      exact q _ (same_upd sH6 np)
end
end K53
end -- P
section -- Q
set_option linter.all false
set_option maxRecDepth 100000
set_option maxHeartbeats 8000000
/-! _law_long_right: the walk. -/
namespace K53
open PySem PySem.Spec PyProof.Rows L2
abbrev sLong : Stmt := top 66
theorem boot_min' : bootBuiltins "min" = some (.builtin "min") := by decide +kernel
theorem ayz_tx : (("ayz" : String) : Str) = tx [97, 121, 122] := by decide +kernel
theorem abyz_tx : (("abyz" : String) : Str) = tx [97, 98, 121, 122] := by decide +kernel
theorem b_tx : (("b" : String) : Str) = tx [98] := by decide +kernel
theorem z_tx : (("z" : String) : Str) = tx [122] := by decide +kernel
theorem y_tx : (("y" : String) : Str) = tx [121] := by decide +kernel
theorem mul_tx (c k : Nat) : Txt.mul (tx [c]) ((k : Nat) : Int) = tx (List.replicate k c) := mul_one_sign c k (by omega)
/-- what is not the pool stays -/
theorem Keeps.at {l : Addr} {H H' : Hp} {b : Addr} {o : HO} (k : Keeps l H H') (h : PoolAt H l) (e : H b = some o) (n : ∀ xs, o ≠ .lst xs) : H' b = some o := by
  refine k b o (fun z => ?_) e
  subst z
  obtain ⟨x, y, e2, _⟩ := h
  rw [e] at e2
  exact n _ (Option.some.inj e2)
theorem RowAt.keeps {l : Addr} {H H' : Hp} (k : Keeps l H H') (hp : PoolAt H l) {v : V} {r : Row} (h : RowAt H v r) : RowAt H' v r := by
  cases r with
  | none => exact h
  | some p =>
    obtain ⟨a, e, q⟩ := h
    exact ⟨a, e, k.at hp q (fun _ z => nomatch z)⟩
theorem EffAt.keeps {l C : Addr} {H H' : Hp} {p : Addr} {rs : List Row} (k : Keeps l H H') (hp : PoolAt H l) (h : EffAt C H p rs) : EffAt C H' p rs := by
  obtain ⟨dx, t, e, vs, e2, q⟩ := h
  exact ⟨dx, t, k.at hp e (fun _ z => nomatch z), vs, k.at hp e2 (fun _ z => nomatch z), paired_mono (fun _ _ r => r.keeps k hp) q⟩
theorem ne_bls {p q : Prop} [Decidable p] [Decidable q] (h : p ↔ q) : (!decide (V.bl (decide p) = V.bl (decide q))) = false := by
  have : decide p = decide q := decide_eq_decide.mpr h
  rw [this]
  simp
theorem swaps_steps {s : List Nat} {i : Nat} (hi : i + 1 < s.length) (hs : ∀ c ∈ s, c ∈ stps) : ∀ c ∈ exch s i, c ∈ stps := fun c hc => hs c ((exch_mem hi).mp hc)
section
variable {P : Program} {w : World} {K : PySem.W.Frag} {mg : Str → Option Value} {base : Heap} {C : Addr}
def spLong : Sp := fun vs H Q _ => ∃ (l : Addr) (m : Mode), vs = [.ref l, .str (modeS m)] ∧ PoolAt H l ∧ ∀ H', PoolAt H' l → Keeps l H H' → Q (.bl true) H'
abbrev nLong : List Str := ["_law_pool_here", "_law_mode", "_law_capacity", "_law_steps_here", "_law_due", "_law_unseen", "_law_pairs", "_law_turn", "_law_at", "_law_bent", "_law_other"]
theorem scLong : FnScope nLong ["_law_pool_here", "_law_mode"] (defScope sLong) := ⟨rfl, rfl, rfl, by decide +kernel, rfl, by decide +kernel, by decide +kernel⟩
theorem cal_long (G : Glob K mg) (TC : ECls K mg C) (T : TDef K mg "_law_long_right" sLong) (c0 : Cal P w K mg base 1 "_law_take" spTake []) (c1 : Cal P w K mg base 8 "effect_of" (spEffectOf C) [])
    (c2 : Cal P w K mg base 5 "unseen_puts" spUnseenPuts []) (c3 : Cal P w K mg base 9 "exchangeable" spExchangeable []) (c4 : Cal P w K mg base 2 "_law_steps" spSteps []) (c5 : Cal P w K mg base 1 "_law_swapped" spExchanged []) :
    Cal P w K mg base 10 "_law_long_right" spLong [] := by
  refine cal_of T scLong (fun _ _ _ _ _ _ us hl => match us, hl with | [_, _], _ => rfl) (fun vs H Q E h => ?_) (fun f cdv A outer s0 H vs Q E hr h => ?_)
  · obtain ⟨l, m, rfl, _⟩ := h
    rfl
  · obtain ⟨l, m, rfl, hp, q⟩ := h
    have hr1 := hr.mono (show 1 ≤ 9 by decide)
    refine ⟨_, pss_cons (ps_set (i := 2) scLong.nd rfl (Or.inl rfl) (pe_op op_add pe_int (pe_c c0 hr (by decide) rfl (pa_cons (pv 0) (pa_cons pe_int pa_nil)))))
      (pss_cons (ps_set (i := 3) scLong.nd rfl (Or.inl rfl) (pe_op op_add_str (pe_op op_mulTxt pe_str (pe_c c0 hr (by decide) rfl (pa_cons (pv 0) (pa_cons (pe_op op_add (pv 2) pe_int) pa_nil)))) (pe_c c4 hr (by decide) rfl (pa_cons (pv 0) (pa_cons pe_int (pa_cons pe_str pa_nil))))))
      (pss_cons (ps_set (i := 3) scLong.nd rfl (Or.inl rfl) (pe_op op_add_str (pv 3) (pe_op op_mulTxt pe_str (pe_c c0 hr (by decide) rfl (pa_cons (pv 0) (pa_cons pe_int pa_nil))))))
      (pss_cons (ps_set (i := 3) scLong.nd rfl (Or.inl rfl) (pe_op op_add_str (pe_op op_add_str (pe_op op_add_str (pv 3) (pe_c c4 hr (by decide) rfl (pa_cons (pv 0) (pa_cons pe_int (pa_cons pe_str pa_nil)))))
          (pe_op op_mulTxt pe_str (pe_c c0 hr (by decide) rfl (pa_cons (pv 0) (pa_cons pe_int pa_nil))))) pe_str))
      (pss_cons (ps_set (i := 4) scLong.nd rfl (Or.inl rfl) (pe_c c1 hr (by decide) rfl (pa_cons (pv 3) (pa_cons (pv 2) (pa_cons (pv 1) pa_nil)))))
      (pss_cons (ps_set (i := 5) scLong.nd rfl (Or.inl rfl) (pe_c c2 hr (by decide) rfl (pa_cons (pv 3) (pa_cons (pv 2) (pa_cons (pv 1) pa_nil)))))
      (pss_cons (ps_set (i := 6) scLong.nd rfl (Or.inl rfl) (pe_c c3 hr (by decide) rfl (pa_cons (pv 3) (pa_cons (pv 2) (pa_cons (pv 1) pa_nil)))))
      (pss_cons (ps_for PassesOwn.never rfl (pi_range1 rfl G.rng (pa_cons pe_int pa_nil)) (pg_name (i := 7) scLong.nd rfl (Or.inl rfl))
        (pss_cons (ps_set (i := 8) scLong.nd rfl (Or.inl rfl) (pe_op op_sub (pe_op op_sub (pe_callB call_len_str (by rfl) G.len PySem.boot_len (pa_cons (pv 3) pa_nil)) pe_int)
            (pe_c c0 hr (by decide) rfl (pa_cons (pv 0) (pa_cons (pe_callB (call_min2 rfl) (by rfl) G.min boot_min' (pa_cons (pe_callB call_len_str (by rfl) G.len PySem.boot_len (pa_cons (pv 3) pa_nil)) (pa_cons pe_int pa_nil))) pa_nil)))))
        (pss_cons (ps_set (i := 9) scLong.nd rfl (Or.inl rfl) (pe_op op_add_str (pe_op op_add_str (pe_slice sl_str (pv 3) po_none (po_some (pv 8))) pe_str) (pe_slice sl_str (pv 3) (po_some (pe_op op_add (pv 8) pe_int)) po_none)))
        (C8.pss_cut (ps_if (PW.pt (pw_and (pt_cmpR op_ne (pe_ix ix_str (pv 3) (pv 8) (fun _ _ => rfl)) pe_str (nomark _))
            (pw_and1 (pt_cmpR op_ne (pe_cmpR (op_effEq G TC hr1) (pe_c c1 hr (by decide) rfl (pa_cons (pv 9) (pa_cons (pv 2) (pa_cons (pv 1) pa_nil)))) (pv 4) (nomark _))
              (pe_cmpR op_in_seq (pv 8) (pv 5) rfl) (nomark _))))) (pss_one (ps_ret pe_bl)) pss_nil)
        (pss_cons (ps_set (i := 10) scLong.nd rfl (Or.inl rfl) (pe_ifExp (pt_cmpR op_gt (pv 8) pe_int (nomark _)) (pe_c c5 hr (by decide) rfl (pa_cons (pv 3) (pa_cons (pe_op op_sub (pv 8) pe_int) pa_nil))) (pv 3)))
          (pss_one (ps_if (PW.pt (pw_and (pt_cmpR op_gt (pv 8) pe_int (nomark _))
            (pw_and1 (pt_cmpR op_ne (pe_cmpR (op_effEq G TC hr1) (pe_c c1 hr (by decide) rfl (pa_cons (pv 10) (pa_cons (pv 2) (pa_cons (pv 1) pa_nil)))) (pv 4) (nomark _))
              (pe_cmpR op_in_seq (pe_op op_sub (pv 8) pe_int) (pv 6) rfl) (nomark _))))) (pss_one (ps_ret pe_bl)) pss_nil)))))))
      (pss_one (ps_ret pe_bl))))))))), ?_⟩
    have big : ∀ a b : List Nat, a.length + b.length ≤ 400 → (tx a).length + (tx b).length ≤ sizeLine := fun a b h => by rw [tx_len, tx_len]; exact Nat.le_trans h (by decide)
    -- capacity
    refine ⟨_, rfl, l, 28, rfl, hp, by decide, by decide, fun r1 H1 a1 b1 p1 k1 => ⟨13, r1, rfl, rfl, ?_⟩⟩
    obtain ⟨cap, hcap⟩ : ∃ cap : Nat, (13 : Int) + r1 = (cap : Nat) := ⟨(13 + r1).toNat, by omega⟩
    show gName 2 (V.int (13 + r1)) _ _ _
    rw [hcap]
    have h1 : 1 ≤ cap := by omega
    have h2 : cap ≤ 40 := by omega
    -- the text
    refine ⟨_, rfl, _, rfl, (cap : Nat), 1, rfl, rfl, l, ((cap : Nat) : Int) + 1, rfl, p1, by omega, by omega, fun r2 H2 a2 b2 p2 k2 => ?_⟩
    obtain ⟨n2, rfl⟩ : ∃ n : Nat, r2 = n := ⟨r2.toNat, by omega⟩
    refine ⟨("-" : String), (n2 : Nat), rfl, rfl, by rw [take_tx, tx_len]; exact Nat.le_refl 1, by omega, by omega, ?_⟩
    rw [take_tx, mul_tx]
    refine ⟨_, rfl, l, 5, [97, 121, 122], by rw [← ayz_tx]; rfl, p2, by decide, by decide, fun s1 H3 ls1 ms1 p3 k3 => ?_⟩
    refine ⟨tx (List.replicate n2 45), tx s1, rfl, rfl, big _ _ (by simp; omega), ?_⟩
    rw [tx_cat]
    refine ⟨_, rfl, _, rfl, l, 12, rfl, p3, by decide, by decide, fun r4 H4 a4 b4 p4 k4 => ?_⟩
    obtain ⟨n4, rfl⟩ : ∃ n : Nat, r4 = n := ⟨r4.toNat, by omega⟩
    refine ⟨("z" : String), (n4 : Nat), rfl, rfl, by rw [z_tx, tx_len]; exact Nat.le_refl 1, by omega, by omega, ?_⟩
    rw [z_tx, mul_tx]
    refine ⟨_, _, rfl, rfl, big _ _ (by simp; omega), ?_⟩
    rw [tx_cat]
    refine ⟨_, rfl, _, rfl, l, 4, [98], by rw [← b_tx]; rfl, p4, by decide, by decide, fun s5 H5 ls5 ms5 p5 k5 => ?_⟩
    refine ⟨_, _, rfl, rfl, big _ _ (by simp; omega), ?_⟩
    rw [tx_cat]
    refine ⟨_, rfl, l, 4, rfl, p5, by decide, by decide, fun r6 H6 a6 b6 p6 k6 => ?_⟩
    obtain ⟨n6, rfl⟩ : ∃ n : Nat, r6 = n := ⟨r6.toNat, by omega⟩
    refine ⟨("-" : String), (n6 : Nat), rfl, rfl, by rw [take_tx, tx_len]; exact Nat.le_refl 1, by omega, by omega, ?_⟩
    rw [take_tx, mul_tx]
    refine ⟨_, _, rfl, rfl, big _ _ (by simp; omega), ?_⟩
    rw [tx_cat]
    refine ⟨_, ("y" : String), rfl, rfl, by rw [y_tx]; exact big _ _ (by simp; omega), ?_⟩
    rw [y_tx, tx_cat]
    obtain ⟨s, es⟩ : ∃ s, s = List.replicate n2 45 ++ s1 ++ List.replicate n4 122 ++ s5 ++ List.replicate n6 45 ++ [121] := ⟨_, rfl⟩
    have hl : s.length ≤ 64 := by rw [es]; simp; omega
    have hpos : 0 < s.length := by rw [es]; simp; omega
    have hch : ∀ c ∈ s, c ∈ stps ∧ c ≠ 113 := fun c hc => by
      rw [es] at hc
      have ok : c = 45 ∨ c = 97 ∨ c = 98 ∨ c = 121 ∨ c = 122 := by
        simp only [List.mem_append, List.mem_replicate, List.mem_singleton] at hc
        rcases hc with ((((hc | hc) | hc) | hc) | hc) | hc
        · exact .inl hc.2
        · rcases ms1 c hc with h | h
          · simp at h; omega
          · exact .inl h
        · omega
        · rcases ms5 c hc with h | h
          · simp at h; omega
          · exact .inl h
        · exact .inl hc.2
        · omega
      rcases ok with rfl | rfl | rfl | rfl | rfl <;> decide
    have hs : ∀ c ∈ s, c ∈ stps := fun c hc => (hch c hc).1
    have hq : ∀ c ∈ s, c ≠ 113 := fun c hc => (hch c hc).2
    have hsz : (tx s).length ≤ sizeLine := by rw [tx_len]; exact Nat.le_trans hl (by decide)
    have fs := fine_rowsOf (m := m) h1 hs
    have kk : Keeps l H H6 := ((((k1.trans k2).trans k3).trans k4).trans k5).trans k6
    rw [← es]
    -- due, unseen, pairs
    refine ⟨_, rfl, _, rfl, _, rfl, s, cap, m, rfl, by omega, hs, h1, by omega, fun H7 pd s7 hd => ?_⟩
    refine ⟨_, rfl, _, rfl, _, rfl, s, cap, m, rfl, by omega, hs, h1, by omega, fun H8 pu s8 fu gu => ?_⟩
    refine ⟨_, rfl, _, rfl, _, rfl, s, cap, m, rfl, by omega, hs, h1, by omega, fun H9 pp s9 fp gp => ?_⟩
    have p9 : PoolAt H9 l := ((p6.same s7).same s8).same s9
    have nu : pu ≠ l := by
      rintro rfl
      obtain ⟨x, y, e2, _⟩ := p6.same s7
      rw [e2] at fu; exact nomatch fu
    have np : pp ≠ l := by
      rintro rfl
      obtain ⟨x, y, e2, _⟩ := (p6.same s7).same s8
      rw [e2] at fp; exact nomatch fp
    have hd9 := (hd.same s8).same s9
    have gu9 := s9 _ _ gu
    have k9 : Keeps l H H9 := kk.trans (Keeps.of ((s7.trans s8).trans s9))
    -- the six turns
    refine ⟨6, rfl, by decide, by decide, for_range (fun i σ H' => ∃ x y z u : Option V, σ = [some (.ref l), some (.str (modeS m)), some (.int (cap : Nat)), some (.str (tx s)), some (.ref pd), some (.ref pu), some (.ref pp), x, y, z, u] ∧
        PoolAt H' l ∧ Keeps l H9 H') ⟨none, none, none, none, rfl, p9, Keeps.refl⟩ ?_ ?_⟩
    · rintro i σ G0 hi ⟨x0, y0, z0, u0, rfl, q0, m0⟩
      refine ⟨_, rfl, tx s, rfl, hsz, ((tx s).length : Nat), 1, rfl, rfl, _, rfl, _, rfl, tx s, rfl, hsz, ((tx s).length : Nat), 25, rfl, ?_⟩
      refine ⟨l, (if (25 : Int) < ((tx s).length : Nat) then 25 else ((tx s).length : Nat)), rfl, q0, ?_, ?_, fun r G1 a b q1 m1 => ?_⟩
      · rw [tx_len]
        split <;> omega
      · rw [tx_len]
        split <;> omega
      have hr0 : r < (s.length : Nat) := by
        rw [tx_len] at b
        split at b <;> omega
      obtain ⟨at', hat⟩ : ∃ n : Nat, ((s.length : Nat) : Int) - 1 - r = (n : Nat) := ⟨(((s.length : Nat) : Int) - 1 - r).toNat, by omega⟩
      have hal : at' < s.length := by omega
      refine ⟨((tx s).length : Nat) - 1, r, rfl, rfl, ?_⟩
      show gName 8 (V.int ((((tx s).length : Nat) : Int) - 1 - r)) _ _ _
      rw [tx_len, hat]
      -- the bent text
      refine ⟨_, rfl, _, rfl, _, rfl, tx s, rfl, hsz, ?_⟩
      rw [cutS_pre s (by omega)]
      refine ⟨_, tx [113], rfl, by rw [q_tx], big _ _ (by simp <;> omega), ?_⟩
      rw [tx_cat]
      refine ⟨_, rfl, _, rfl, _, _, rfl, rfl, _, rfl, tx s, rfl, hsz, ?_⟩
      have e2 : cutS (tx s) (some (((at' : Nat) : Int) + 1)) none = tx (s.drop (at' + 1)) := cutS_suf s (i := at' + 1) (by omega)
      refine ⟨_, tx (s.drop (at' + 1)), rfl, by rw [← e2], big _ _ (by simp <;> omega), ?_⟩
      rw [tx_cat, set_form hal]
      have m9 : Keeps l H9 G1 := m0.trans m1
      have hdG := hd9.keeps m9 p9
      have guG : G1 pu = some (.lst (iVs (unseen cap m s))) := m9 _ _ nu gu9
      have gpG : G1 pp = some (.lst (iVs (xables cap m s))) := m9 _ _ np gp
      have c0' : s[at']? = some (s.getD at' 0) := by simp [List.getD, hal]
      have hq0 : s.getD at' 0 ≠ 113 := by
        have : s.getD at' 0 = s[at'] := by simp [List.getD, hal]
        rw [this]
        exact hq _ (List.getElem_mem hal)
      refine ⟨fun σ H' => (∃ x : Option V, σ = [some (.ref l), some (.str (modeS m)), some (.int (cap : Nat)), some (.str (tx s)), some (.ref pd), some (.ref pu), some (.ref pp), x, some (.int (at' : Nat)), some (.str (tx (s.set at' 113))), u0]) ∧ Same G1 H', ?_, ?_⟩
      · refine ⟨_, rfl, _, rfl, tx s, _, s.getD at' 0, rfl, rfl, hsz, atI_nat' (i := at') (by simpa using c0'), rfl, _, rfl, ?_⟩
        have e3 : (!decide (V.str (⟨#[s.getD at' 0]⟩ : Str) = V.str (tx [45]))) = decide (s.getD at' 0 ≠ 45) := by
          have e4 : (⟨#[s.getD at' 0]⟩ : Str) = tx [s.getD at' 0] := rfl
          rw [e4, tx_dec]
          by_cases z : s.getD at' 0 = 45 <;> simp [z]
        rw [e3]
        by_cases hc : s.getD at' 0 = 45
        · rw [decide_eq_false (by simpa using hc)]
          exact iteF (iteF ⟨⟨_, rfl⟩, Same.refl _⟩)
        · rw [decide_eq_true hc]
          refine iteT ?_
          refine ⟨_, rfl, _, rfl, _, rfl, s.set at' 113, cap, m, rfl, by simp <;> omega, set_steps hs, h1, by omega, fun G2 p2' t2 he2 => ?_⟩
          refine ⟨_, rfl, read_eq he2 (hdG.same t2) (fine_rowsOf h1 (set_steps hs)) fs ⟨_, rfl, ?_⟩⟩
          refine ⟨_, rfl, _, rfl, pu, _, rfl, .inl (SqL.of (t2 _ _ guG)), rfl, flat_iVs _, rfl, _, rfl, ?_⟩
          rw [if_neg Bool.false_ne_true, inV_nat, ne_bls (set_rows hal hc (by decide) hq0)]
          exact iteF ⟨⟨_, rfl⟩, t2⟩
      · rintro σ G2 ⟨⟨x1, rfl⟩, t2⟩
        have q2 := q1.same t2
        have n2 : Keeps l H9 G2 := m9.trans (Keeps.of t2)
        refine ⟨_, rfl, (at' : Nat), 0, rfl, rfl, decide ((0 : Int) < (at' : Nat)), rfl, ?_⟩
        by_cases h0 : (0 : Int) < (at' : Nat)
        · rw [decide_eq_true h0]
          obtain ⟨j, hj⟩ : ∃ j, at' = j + 1 := ⟨at' - 1, by omega⟩
          have hj1 : j + 1 < s.length := by omega
          have ej : ((at' : Nat) : Int) - 1 = (j : Nat) := by omega
          have hdG2 := hdG.same t2
          refine iteT ?_
          refine ⟨_, rfl, _, rfl, (at' : Nat), 1, rfl, rfl, s, j, by rw [← ej]; rfl, by omega, hj1, ?_⟩
          refine ⟨_, rfl, (at' : Nat), 0, rfl, rfl, decide ((0 : Int) < (at' : Nat)), rfl, ?_⟩
          rw [decide_eq_true h0]
          refine iteT ?_
          refine ⟨_, rfl, _, rfl, _, rfl, exch s j, cap, m, rfl, by rw [exch_len hj1]; omega, swaps_steps hj1 hs, h1, by omega, fun G3 p3' t3 he3 => ?_⟩
          refine ⟨_, rfl, read_eq he3 (hdG2.same t3) (fine_rowsOf h1 (swaps_steps hj1 hs)) fs ⟨_, rfl, ?_⟩⟩
          refine ⟨_, rfl, (at' : Nat), 1, rfl, rfl, ?_⟩
          have gp3 := (Same.trans t2 t3) _ _ gpG
          refine ⟨_, rfl, pp, iVs (xables cap m s), rfl, .inl (SqL.of gp3), rfl, flat_iVs _, rfl, _, rfl, ?_⟩
          have ev : inV ((fun i j : Int => V.int (i - j)) ((at' : Nat) : Int) 1) (iVs (xables cap m s)) = decide (j ∈ xables cap m s) := by
            show inV (V.int (((at' : Nat) : Int) - 1)) _ = _
            rw [ej, inV_nat]
          rw [if_neg Bool.false_ne_true, ev, ne_bls (by rw [mem_xables]; exact ⟨fun z => ⟨hj1, z⟩, fun z => z.2⟩)]
          exact iteF ⟨_, _, _, _, rfl, q2.same t3, n2.trans (Keeps.of t3)⟩
        · rw [decide_eq_false h0]
          refine iteF ⟨_, rfl, ?_⟩
          refine ⟨_, rfl, (at' : Nat), 0, rfl, rfl, decide ((0 : Int) < (at' : Nat)), rfl, ?_⟩
          rw [decide_eq_false h0]
          exact iteF (iteF ⟨_, _, _, _, rfl, q2, n2⟩)
    · rintro σ G0 ⟨x0, y0, z0, u0, rfl, q0, m0⟩
      exact q _ q0 (k9.trans m0)
end
end K53
end -- Q
section -- S
set_option linter.all false
set_option maxRecDepth 100000
set_option maxHeartbeats 8000000
/-! law: the walk. -/
namespace K53
open PySem PySem.Spec PyProof.Rows L2
abbrev sLaw : Stmt := top 67
abbrev modes3 : List Mode := [.old, .new, .str]
theorem Keeps.back {l : Addr} {H H1 H2 : Hp} (s : Same H H1) (h : H l = none) (k : Keeps l H1 H2) : Same H H2 := fun b o e =>
  k b o (ne_of_none e h) (s b o e)
theorem cutV_mem {xs : List V} {lo hi : Option Int} {x : V} (h : x ∈ cutV xs lo hi) : x ∈ xs := List.mem_of_mem_drop (List.mem_of_mem_take h)
section
variable {P : Program} {w : World} {K : PySem.W.Frag} {mg : Str → Option Value} {base : Heap} {C : Addr}
def spLaw (K : PySem.W.Frag) : Sp := fun vs H Q _ => ∃ (a : Addr) (ns : List Int), vs = [.ref a] ∧ SqL K H a (ns.map V.int) ∧ ns.length ≤ 63 ∧ ∀ H', Q (.bl true) H'
abbrev nLaw : List Str := ["_law_script", "_law_k", "_law_pool_here", "_law_mode", "_law_capacity", "_law_steps_here", "_law_due", "_law_pairs", "_law_at", "_law_other"]
theorem scLaw : FnScope nLaw ["_law_script"] (defScope sLaw) := ⟨rfl, rfl, rfl, by decide +kernel, rfl, by decide +kernel, by decide +kernel⟩
theorem fn_law {f : Addr} {fd : FuncData} (G : Glob K mg) (TC : ECls K mg C) (F : Fun K "law" "law" sLaw f fd) (c0 : Cal P w K mg base 1 "_law_take" spTake []) (c1 : Cal P w K mg base 8 "effect_of" (spEffectOf C) [])
    (c2 : Cal P w K mg base 10 "_law_unseen_right" spUnseenRight []) (c3 : Cal P w K mg base 9 "exchangeable" spExchangeable []) (c4 : Cal P w K mg base 2 "_law_steps" spSteps []) (c5 : Cal P w K mg base 1 "_law_swapped" spExchanged [])
    (c6 : Cal P w K mg base 1 "_law_pool" (spPool K) []) (c7 : Cal P w K mg base 10 "_law_long_right" spLong []) : FnOk P w K mg base CX0 11 f fd ["_law_script"] (spLaw K) := by
  refine F.ok scLaw (fun vs H Q E h => ?_) (fun cdv A outer s0 H vs Q E hr h => ?_)
  · obtain ⟨a, ns, rfl, _⟩ := h
    rfl
  · obtain ⟨a, ns, rfl, hS, hlen, q⟩ := h
    have hr1 := hr.mono (show 1 ≤ 10 by decide)
    refine ⟨_, pss_cons (ps_for PassesOwn.never rfl (pi_range1 rfl G.rng (pa_cons (pe_callB (call_max2 rfl) (by rfl) G.max boot_max' (pa_cons pe_int (pa_cons
          (pe_callB (call_min2 rfl) (by rfl) G.min boot_min' (pa_cons pe_int (pa_cons (pe_callB call_len_seq (by rfl) G.len PySem.boot_len (pa_cons (pv 0) pa_nil)) pa_nil))) pa_nil))) pa_nil)) (pg_name (i := 1) scLaw.nd rfl (Or.inl rfl))
        (pss_cons (ps_set (i := 2) scLaw.nd rfl (Or.inl rfl) (pe_c c6 hr (by decide) rfl (pa_cons (pv 0) (pa_cons (pv 1) pa_nil))))
        (pss_cons (ps_if (pt_not (pt_val (pe_c c7 hr (by decide) rfl (pa_cons (pv 2) (pa_cons (pe_ix ix_list (pe_lst (pa_cons pe_str (pa_cons pe_str (pa_cons pe_str pa_nil)))) (pe_c c0 hr (by decide) rfl (pa_cons (pv 2) (pa_cons pe_int pa_nil))) (fun _ _ => rfl)) pa_nil)))))
          (pss_one (ps_ret pe_bl)) pss_nil)
        (pss_one (ps_for PassesOwn.never rfl (pi_list (pe_lst (pa_cons pe_str (pa_cons pe_str (pa_cons pe_str pa_nil))))) (pg_name (i := 3) scLaw.nd rfl (Or.inl rfl))
          (pss_cons (ps_set (i := 4) scLaw.nd rfl (Or.inl rfl) (pe_op op_add pe_int (pe_c c0 hr (by decide) rfl (pa_cons (pv 2) (pa_cons (pe_ix ix_list (pe_lst (pa_cons pe_int (pa_cons pe_int (pa_cons pe_int pa_nil)))) (pe_c c0 hr (by decide) rfl (pa_cons (pv 2) (pa_cons pe_int pa_nil))) (fun _ _ => rfl)) pa_nil)))))
          (pss_cons (ps_set (i := 5) scLaw.nd rfl (Or.inl rfl) (pe_c c4 hr (by decide) rfl (pa_cons (pv 2) (pa_cons pe_int (pa_cons pe_str pa_nil)))))
          (pss_cons (ps_if (pt_not (pt_val (pe_c c2 hr (by decide) rfl (pa_cons (pv 5) (pa_cons (pv 4) (pa_cons (pv 3) pa_nil)))))) (pss_one (ps_ret pe_bl)) pss_nil)
          (pss_cons (ps_set (i := 6) scLaw.nd rfl (Or.inl rfl) (pe_c c1 hr (by decide) rfl (pa_cons (pv 5) (pa_cons (pv 4) (pa_cons (pv 3) pa_nil)))))
          (pss_cons (ps_set (i := 7) scLaw.nd rfl (Or.inl rfl) (pe_c c3 hr (by decide) rfl (pa_cons (pv 5) (pa_cons (pv 4) (pa_cons (pv 3) pa_nil)))))
          (pss_cons (ps_for PassesOwn.never rfl (pi_range1 rfl G.rng (pa_cons (pe_op op_sub (pe_callB call_len_str (by rfl) G.len PySem.boot_len (pa_cons (pv 5) pa_nil)) pe_int) pa_nil)) (pg_name (i := 8) scLaw.nd rfl (Or.inl rfl))
            (pss_cons (ps_set (i := 9) scLaw.nd rfl (Or.inl rfl) (pe_c c5 hr (by decide) rfl (pa_cons (pv 5) (pa_cons (pv 8) pa_nil))))
              (pss_one (ps_if (pt_cmpR op_ne (pe_cmpR (op_effEq G TC hr1) (pe_c c1 hr (by decide) rfl (pa_cons (pv 9) (pa_cons (pv 4) (pa_cons (pv 3) pa_nil)))) (pv 6) (nomark _)) (pe_cmpR op_in_seq (pv 8) (pv 7) rfl) (nomark _))
                (pss_one (ps_ret pe_bl)) pss_nil))))
            (pss_one (ps_for PassesOwn.never rfl (pi_list (pe_slice sl_list (pv 7) po_none (po_some pe_int))) (pg_name (i := 8) scLaw.nd rfl (Or.inl rfl))
              (pss_one (ps_if (pt_cmpR op_notIn_seq (pv 8) (pe_c c3 hr (by decide) rfl (pa_cons (pe_c c5 hr (by decide) rfl (pa_cons (pv 5) (pa_cons (pv 8) pa_nil))) (pa_cons (pv 4) (pa_cons (pv 3) pa_nil)))) rfl)
                (pss_one (ps_ret pe_bl)) pss_nil)))))))))))))))
      (pss_one (ps_ret pe_bl)), ?_⟩
    have big : ∀ a b : List Nat, a.length + b.length ≤ 400 → (tx a).length + (tx b).length ≤ sizeLine := fun a b h => by rw [tx_len, tx_len]; exact Nat.le_trans h (by decide)
    obtain ⟨L, hL⟩ : ∃ L : Int, (((ns.map V.int).length : Nat) : Int) = L := ⟨_, rfl⟩
    have hL0 : 0 ≤ L := by rw [← hL]; omega
    obtain ⟨M, hM⟩ : ∃ M : Int, (if L < 2 then L else 2) = M := ⟨_, rfl⟩
    obtain ⟨N, hN⟩ : ∃ N : Int, (if M > 1 then M else 1) = N := ⟨_, rfl⟩
    have hM2 : 0 ≤ M ∧ M ≤ 2 := by rw [← hM]; split <;> omega
    have hN2 : 1 ≤ N ∧ N ≤ 2 := by rw [← hN]; split <;> omega
    refine ⟨_, rfl, a, _, rfl, .inl hS, 2, L, congrArg (fun z => [V.int 2, V.int z]) hL, 1, M, congrArg (fun z => [V.int 1, V.int z]) hM, N, congrArg (fun z => [V.int z]) hN, by omega, by omega, ?_⟩
    refine for_range (fun i σ H' => ∃ x1 x2 x3 x4 x5 x6 x7 x8 x9 : Option V, σ = [some (.ref a), x1, x2, x3, x4, x5, x6, x7, x8, x9] ∧ Same H H')
      ⟨none, none, none, none, none, none, none, none, none, rfl, Same.refl _⟩ ?_ ?_
    · rintro i σ H0 hi ⟨x1, x2, x3, x4, x5, x6, x7, x8, x9, rfl, t0⟩
      -- the pool
      refine ⟨_, rfl, _, rfl, a, ns, 0 + (i : Nat), rfl, t0.seq hS, hlen, by omega, by omega, fun H1 l t1 nl p1 => ?_⟩
      have fl : H l = none := Same.free t0 nl
      have t01 : Same H H1 := t0.trans t1
      -- the long one
      refine ⟨_, rfl, by show 3 ≤ sizeLine; decide, fun p2 n2 => ?_⟩
      have ne2 : p2 ≠ l := by
        rintro rfl
        obtain ⟨x, y, e2, _⟩ := p1
        rw [e2] at n2; exact nomatch n2
      have p2' := p1.same (same_upd0 (o := .lst (modes3.map fun m => V.str (modeS m))) n2)
      refine ⟨_, rfl, l, 3, rfl, p2', by decide, by decide, fun r H3 a3 b3 p3 k3 => ?_⟩
      obtain ⟨j, rfl⟩ : ∃ n : Nat, r = n := ⟨r.toNat, by omega⟩
      have hj : j < modes3.length := by show j < 3; omega
      refine ⟨p2, modes3.map fun m => V.str (modeS m), (j : Nat), .str (modeS modes3[j]), rfl, rfl, SqL.of (k3 _ _ ne2 upd_same), atI_nat' (by rw [List.getElem?_map, List.getElem?_eq_getElem hj]; rfl), ?_⟩
      refine ⟨l, modes3[j], rfl, p3, fun H4 p4 k4 => ?_⟩
      refine ⟨true, rfl, iteF ?_⟩
      -- the three modes
      refine ⟨by show 3 ≤ sizeLine; decide, fun p5 n5 => ?_⟩
      have ne5 : p5 ≠ l := by
        rintro rfl
        obtain ⟨x, y, e2, _⟩ := p4
        rw [e2] at n5; exact nomatch n5
      obtain ⟨Hm, eHm⟩ : ∃ Hm : Hp, upd H4 p5 (.lst (modes3.map fun m => V.str (modeS m))) = Hm := ⟨_, rfl⟩
      have s5 : Same H4 Hm := by rw [← eHm]; exact same_upd0 n5
      have g5 : Hm p5 = some (.lst (modes3.map fun m => V.str (modeS m))) := by rw [← eHm]; exact upd_same
      have pm := p4.same s5
      have km : Keeps l H1 Hm := ((Keeps.of (same_upd0 n2)).trans (k3.trans k4)).trans (Keeps.of s5)
      refine ⟨p5, rfl, ⟨_, SqL.of upd_same⟩, for_list (K := K) (a := p5) (xs := modes3.map fun m => V.str (modeS m))
        (fun i' σ H' => ∃ y3 y4 y5 y6 y7 y8 y9 : Option V, σ = [some (.ref a), some (.int (0 + (i : Nat))), some (.ref l), y3, y4, y5, y6, y7, y8, y9] ∧ PoolAt H' l ∧ Keeps l Hm H')
        ⟨_, _, _, _, _, _, _, rfl, by rw [← eHm] at pm; exact pm, by rw [← eHm]; exact Keeps.refl⟩ (fun _ σ H' _ ⟨_, _, _, _, _, _, _, _, _, kx⟩ => SqL.of (kx _ _ ne5 g5)) ?_ ?_⟩
      · rintro i' x σ H5 hx ⟨y3, y4, y5, y6, y7, y8, y9, rfl, q5, k5⟩
        obtain ⟨m, rfl⟩ : ∃ m : Mode, x = V.str (modeS m) := by
          obtain ⟨m, _, e⟩ := List.mem_map.mp (List.mem_of_getElem? hx)
          exact ⟨m, e.symm⟩
        -- capacity
        refine ⟨_, rfl, by show 3 ≤ sizeLine; decide, fun p6 n6 => ?_⟩
        have ne6 : p6 ≠ l := by
          rintro rfl
          obtain ⟨x, y, e2, _⟩ := q5
          rw [e2] at n6; exact nomatch n6
        have q6 := q5.same (same_upd0 (o := .lst (([3, 6, 12] : List Int).map V.int)) n6)
        refine ⟨_, rfl, l, 3, rfl, q6, by decide, by decide, fun r7 H7 a7 b7 q7 k7 => ?_⟩
        obtain ⟨j7, rfl⟩ : ∃ n : Nat, r7 = n := ⟨r7.toNat, by omega⟩
        have hj7 : j7 < ([3, 6, 12] : List Int).length := by show j7 < 3; omega
        have hb : 3 ≤ ([3, 6, 12] : List Int)[j7] ∧ ([3, 6, 12] : List Int)[j7] ≤ 12 := by
          have all : ∀ z ∈ ([3, 6, 12] : List Int), 3 ≤ z ∧ z ≤ 12 := by decide
          exact all _ (List.getElem_mem hj7)
        refine ⟨p6, ([3, 6, 12] : List Int).map V.int, (j7 : Nat), .int ([3, 6, 12] : List Int)[j7], rfl, rfl, SqL.of (k7 _ _ ne6 upd_same), atI_nat' (by rw [List.getElem?_map, List.getElem?_eq_getElem hj7]; rfl), ?_⟩
        refine ⟨l, ([3, 6, 12] : List Int)[j7], rfl, q7, by omega, by omega, fun r8 H8 a8 b8 q8 k8 => ⟨1, r8, rfl, rfl, ?_⟩⟩
        obtain ⟨cap, hcap⟩ : ∃ cap : Nat, (1 : Int) + r8 = (cap : Nat) := ⟨(1 + r8).toNat, by omega⟩
        show gName 4 (V.int (1 + r8)) _ _ _
        rw [hcap]
        have h1 : 1 ≤ cap := by omega
        have h2 : cap ≤ 12 := by omega
        -- the text
        refine ⟨_, rfl, l, 16, [97, 98, 121, 122], by rw [← abyz_tx]; rfl, q8, by decide, by decide, fun s H9 ls ms q9 k9 => ?_⟩
        have hch : ∀ c ∈ s, c ∈ stps ∧ c ≠ 113 := fun c hc => by
          have ok : c = 45 ∨ c = 97 ∨ c = 98 ∨ c = 121 ∨ c = 122 := by
            rcases ms c hc with h | h
            · simp at h; omega
            · exact .inl h
          rcases ok with rfl | rfl | rfl | rfl | rfl <;> decide
        have hs : ∀ c ∈ s, c ∈ stps := fun c hc => (hch c hc).1
        have hq : ∀ c ∈ s, c ≠ 113 := fun c hc => (hch c hc).2
        have hsz : (tx s).length ≤ sizeLine := by rw [tx_len]; exact Nat.le_trans ls (by decide)
        have fs := fine_rowsOf (m := m) h1 hs
        have kk : Keeps l Hm H9 := k5.trans ((Keeps.of (same_upd0 n6)).trans ((k7.trans k8).trans k9))
        -- unseen
        refine ⟨_, rfl, _, rfl, _, rfl, s, cap, m, rfl, by omega, hs, hq, h1, by omega, fun HA tA => ⟨true, rfl, iteF ?_⟩⟩
        -- due, pairs
        refine ⟨_, rfl, _, rfl, _, rfl, s, cap, m, rfl, by omega, hs, h1, by omega, fun HB pd tB hd => ?_⟩
        refine ⟨_, rfl, _, rfl, _, rfl, s, cap, m, rfl, by omega, hs, h1, by omega, fun HC pp tC' fp gp => ?_⟩
        have hdC := hd.same tC'
        have qC : PoolAt HC l := ((q9.same tA).same tB).same tC'
        have kC : Keeps l Hm HC := kk.trans (Keeps.of ((tA.trans tB).trans tC'))
        refine ⟨_, rfl, tx s, rfl, hsz, ((tx s).length : Nat), 1, rfl, rfl, ((tx s).length : Nat) - 1, rfl, by rw [tx_len]; omega, by rw [tx_len]; omega, ?_⟩
        have en : ((((tx s).length : Nat) : Int) - 1).toNat = s.length - 1 := by rw [tx_len]; omega
        rw [en]
        refine for_range (fun i2 σ H' => ∃ y8 y9 : Option V, σ = [some (.ref a), some (.int (0 + (i : Nat))), some (.ref l), some (.str (modeS m)), some (.int (cap : Nat)), some (.str (tx s)), some (.ref pd), some (.ref pp), y8, y9] ∧ Same HC H')
          ⟨_, _, rfl, Same.refl _⟩ ?_ ?_
        · rintro j σ HD hj ⟨y8, y9, rfl, tD⟩
          have hj1 : j + 1 < s.length := by omega
          have ez : (0 : Int) + (j : Nat) = (j : Nat) := by omega
          rw [ez]
          refine ⟨_, rfl, _, rfl, s, j, rfl, by omega, hj1, ?_⟩
          refine ⟨_, rfl, _, rfl, _, rfl, exch s j, cap, m, rfl, by rw [exch_len hj1]; omega, swaps_steps hj1 hs, h1, by omega, fun HE pe tE hE => ?_⟩
          refine ⟨_, rfl, read_eq hE ((hdC.same tD).same tE) (fine_rowsOf h1 (swaps_steps hj1 hs)) fs ⟨_, rfl, ?_⟩⟩
          refine ⟨_, rfl, _, rfl, pp, iVs (xables cap m s), rfl, .inl (SqL.of ((Same.trans tD tE) _ _ gp)), rfl, flat_iVs _, rfl, _, rfl, ?_⟩
          rw [if_neg Bool.false_ne_true, inV_nat, ne_bls (by rw [mem_xables]; exact ⟨fun z => ⟨hj1, z⟩, fun z => z.2⟩)]
          exact iteF ⟨_, _, rfl, tD.trans tE⟩
        · rintro σ HD ⟨y8, y9, rfl, tD⟩
          refine ⟨_, rfl, _, rfl, pp, _, rfl, SqL.of (tD _ _ gp), fun p13 n13 => ?_⟩
          refine ⟨p13, rfl, ⟨_, SqL.of upd_same⟩, for_list (K := K) (a := p13) (xs := cutV (iVs (xables cap m s)) none (some 2))
            (fun i2 σ H' => ∃ y8 y9 : Option V, σ = [some (.ref a), some (.int (0 + (i : Nat))), some (.ref l), some (.str (modeS m)), some (.int (cap : Nat)), some (.str (tx s)), some (.ref pd), some (.ref pp), y8, y9] ∧ Same (upd HD p13 (.lst (cutV (iVs (xables cap m s)) none (some 2)))) H')
            ⟨_, _, rfl, Same.refl _⟩ (fun _ σ H' _ ⟨_, _, _, kx⟩ => SqL.of (kx _ _ upd_same)) ?_ ?_⟩
          · rintro i2 x σ HE hx ⟨y8, y9, rfl, tE⟩
            obtain ⟨j, hj, rfl⟩ : ∃ j, j ∈ xables cap m s ∧ x = V.int (j : Nat) := by
              obtain ⟨j, hj, e⟩ := List.mem_map.mp (cutV_mem (List.mem_of_getElem? hx))
              exact ⟨j, hj, e.symm⟩
            have hj1 : j + 1 < s.length := (mem_xables.mp hj).1
            refine ⟨_, rfl, _, rfl, _, rfl, s, j, rfl, by omega, hj1, ?_⟩
            refine ⟨_, rfl, _, rfl, exch s j, cap, m, rfl, by rw [exch_len hj1]; omega, swaps_steps hj1 hs, h1, by omega, fun HF pf tF fF gF => ?_⟩
            refine ⟨pf, _, rfl, .inl (SqL.of gF), rfl, flat_iVs _, _, rfl, ?_⟩
            rw [if_pos rfl, inV_nat, decide_eq_true (xables_back hj)]
            exact iteF ⟨_, _, rfl, tE.trans tF⟩
          · rintro σ HE ⟨y8, y9, rfl, tE⟩
            exact ⟨_, _, _, _, _, _, _, rfl, qC.same (tD.trans ((same_upd0 n13).trans tE)), kC.trans (Keeps.of (tD.trans ((same_upd0 n13).trans tE)))⟩
      · rintro σ H5 ⟨y3, y4, y5, y6, y7, y8, y9, rfl, q5, k5⟩
        exact ⟨_, _, _, _, _, _, _, _, _, rfl, Keeps.back t01 fl (km.trans k5)⟩
    · rintro σ H0 ⟨x1, x2, x3, x4, x5, x6, x7, x8, x9, rfl, t0⟩
      exact q _
end
end K53
end -- S
section -- U
set_option linter.all false
set_option maxRecDepth 100000
set_option maxHeartbeats 8000000
/-! What the top has written, gathered; the law from it. -/
namespace K53
open PySem PySem.Spec PyProof.Rows L2
section
variable {w : World} {K : PySem.W.Frag} {h : Heap} {mg : Str → Option Value}
theorem tdef_mk {x : Str} {st : Stmt} {f : Addr} {oc kV doc pm cdv ct : Value} {od an : Option Addr} {osl : Array (Option Value)} (X : K.In h) (G : h.Ns mainGlobals mg)
    (a : PySem.W.nsIn K mainGlobals x = some (some (.ref f))) (l : K.lookup f = some ⟨oc, od, .func (PySem.W.fnOf x x (defArgs st) (defBody st) (defScope st) .none kV doc pm an cdv ct), osl⟩)
    (c : PySem.W.codeIn K cdv x = true) (k : PySem.W.keepIn K (.ref f) = true) : TDef K mg x st :=
  ⟨f, _, PySem.W.mg_of X G a, fun_mk l c k⟩
theorem ddef_mk {x : Str} {st : Stmt} {dvs : List V} {its : Array Value} {f T : Addr} {oc kV doc pm cdv ct oc2 : Value} {od an od2 : Option Addr} {osl osl2 : Array (Option Value)} {n : Nat} (X : K.In h) (G : h.Ns mainGlobals mg)
    (nd : dvs ≠ []) (a : PySem.W.nsIn K mainGlobals x = some (some (.ref f)))
    (l : K.lookup f = some ⟨oc, od, .func (PySem.W.fnOf x x (defArgs st) (defBody st) (defScope st) (.ref T) kV doc pm an cdv ct), osl⟩) (t : K.lookup T = some ⟨oc2, od2, .seq its n, osl2⟩)
    (c : PySem.W.codeIn K cdv x = true) (k : PySem.W.keepIn K (.ref f) = true) (r : Vals dvs its.toList) : DDef K mg x st dvs :=
  ⟨f, _, PySem.W.mg_of X G a, ⟨⟨oc, od, _, kV, doc, pm, an, cdv, ct, osl, rfl, l, c, .inr ⟨nd, T, _, its.toList, n, rfl, t, rfl, r⟩, .inl rfl⟩, k⟩⟩
/-- a method of the class at C -/
theorem meth_mk {C : Addr} {m qual : Str} {st : Stmt} {f : Addr} {oc kV doc pm cdv ct : Value} {od an : Option Addr} {osl : Array (Option Value)}
    (a : PySem.W.findIn K (.ref C) m = some (some (.ref f))) (i : PySem.W.isFn K (.ref f) = true)
    (l : K.lookup f = some ⟨oc, od, .func (PySem.W.fnOf m qual (defArgs st) (defBody st) (defScope st) .none kV doc pm an cdv ct), osl⟩)
    (c : PySem.W.codeIn K cdv qual = true) (k : PySem.W.keepIn K (.ref f) = true) :
    ∃ f fd, PySem.W.findIn K (.ref C) m = some (some (.ref f)) ∧ PySem.W.isFn K (.ref f) = true ∧ Fun K m qual st f fd := ⟨f, _, a, i, fun_mk l c k⟩
theorem meth_mk2 {C : Addr} {m qual : Str} {st : Stmt} {f : Addr} {oc kV doc pm cdv ct : Value} {od an : Option Addr} {osl : Array (Option Value)}
    (a : PySem.W.findIn K (.ref C) m = some (some (.ref f))) (i : PySem.W.isFn K (.ref f) = true) (j : PySem.W.fnIn K f = true)
    (l : K.lookup f = some ⟨oc, od, .func (PySem.W.fnOf m qual (defArgs st) (defBody st) (defScope st) .none kV doc pm an cdv ct), osl⟩)
    (c : PySem.W.codeIn K cdv qual = true) (k : PySem.W.keepIn K (.ref f) = true) :
    ∃ f fd, PySem.W.findIn K (.ref C) m = some (some (.ref f)) ∧ PySem.W.isFn K (.ref f) = true ∧ PySem.W.fnIn K f = true ∧ Fun K m qual st f fd := ⟨f, _, a, i, j, fun_mk l c k⟩
theorem init_mk {C : Addr} {f : Addr} {oc kV doc pm cdv ct : Value} {od an : Option Addr} {osl : Array (Option Value)} (mk : PySem.W.makesIn K C = true) (kc : PySem.W.keepIn K (.ref C) = true)
    (a : PySem.W.findIn K (.ref C) "__init__" = some (some (.ref f))) (i : PySem.W.isFn K (.ref f) = true)
    (l : K.lookup f = some ⟨oc, od, .func (PySem.W.fnOf "__init__" "Effect.__init__" (defArgs sEInit) (defBody sEInit) (defScope sEInit) .none kV doc pm an cdv ct), osl⟩)
    (c : PySem.W.codeIn K cdv "Effect.__init__" = true) (k : PySem.W.keepIn K (.ref f) = true) :
    ∃ f fd, Mk K C f ∧ Fun K "__init__" "Effect.__init__" sEInit f fd := ⟨f, _, ⟨mk, a, i, kc⟩, fun_mk l c k⟩
theorem prop_mk {C p : Addr} {f : Addr} {oc kV doc pm cdv ct : Value} {od an : Option Addr} {osl : Array (Option Value)} {rest : List Value}
    (a : PySem.W.findIn K (.ref C) "capacity" = some (some (.ref p))) (g : PySem.W.specialIn K (.ref p) "__get__" = some (some (.builtin "property.__get__")))
    (tk : PySem.W.takesIn K (.ref p) = some true) (r : PySem.W.recIn K p "property" = some (.ref f :: rest))
    (l : K.lookup f = some ⟨oc, od, .func (PySem.W.fnOf "capacity" "Effect.capacity" (defArgs sECap) (defBody sECap) (defScope sECap) .none kV doc pm an cdv ct), osl⟩)
    (c : PySem.W.codeIn K cdv "Effect.capacity" = true) (k : PySem.W.keepIn K (.ref f) = true) :
    ∃ p g fd, PropOf K C "capacity" p g ∧ Fun K "capacity" "Effect.capacity" sECap g fd := ⟨p, f, _, ⟨a, g, tk, rest, r⟩, fun_mk l c k⟩
theorem nattr_mk {C : Addr} {x : Str} (a : PySem.W.findIn K (.ref C) x = some none) : NoAttr K C x := a
theorem none_mk {x : Str} (X : K.In h) (G : h.Ns mainGlobals mg) (a : PySem.W.nsIn K mainGlobals x = some none) : mg x = none := PySem.W.mg_none_of X G a
theorem str_mk {x z : Str} {t : Tok} (X : K.In h) (G : h.Ns mainGlobals mg) (a : PySem.W.nsIn K mainGlobals x = some (some (.str z t))) : ∃ t, mg x = some (.str z t) := ⟨t, PySem.W.mg_of X G a⟩
theorem int_mk {x : Str} {z : Int} {t : Tok} (X : K.In h) (G : h.Ns mainGlobals mg) (a : PySem.W.nsIn K mainGlobals x = some (some (.int z t))) : ∃ t, mg x = some (.int z t) := ⟨t, PySem.W.mg_of X G a⟩
theorem modes_mk {x : Str} {a : Addr} {od : Option Addr} {osl : Array (Option Value)} {n : Nat} {t1 t2 t3 : Tok} (X : K.In h) (G : h.Ns mainGlobals mg) (e : PySem.W.nsIn K mainGlobals x = some (some (.ref a)))
    (l : K.lookup a = some ⟨.type "tuple", od, .seq #[.str "oldest" t1, .str "newest" t2, .str "strict" t3] n, osl⟩) :
    ∃ a, mg x = some (.ref a) ∧ ∀ H, SqT K H a [.str (modeS .old), .str (modeS .new), .str (modeS .str)] :=
  ⟨a, PySem.W.mg_of X G e, fun H => .inr ⟨_, _, n, l, rfl, rfl, by show 3 ≤ sizeLine; decide, .cons ⟨t1, rfl⟩ (.cons ⟨t2, rfl⟩ (.cons ⟨t3, rfl⟩ .nil))⟩⟩
end
/-- the defs of the top that the law calls -/
structure Defs (K : PySem.W.Frag) (mg : Str → Option Value) : Prop where
  isInteger : DDef K mg "is_integer" sIsInteger [.int 0]
  checkInteger : DDef K mg "check_integer" sCheckInteger [.int 0, .non]
  isQueue : DDef K mg "is_queue" sIsQueue [.int 100]
  isTextOf : TDef K mg "is_text_of" sIsTextOf
  isCapacity : TDef K mg "is_capacity" sIsCapacity
  checkCapacity : TDef K mg "check_capacity" sCheckCapacity
  isMode : TDef K mg "is_mode" sIsMode
  checkMode : TDef K mg "check_mode" sCheckMode
  isSequence : TDef K mg "is_sequence" sIsSequence
  checkSequence : TDef K mg "check_sequence" sCheckSequence
  spanOf : TDef K mg "span_of" sSpanOf
  parse : TDef K mg "parse" sParse
  itemsOf : TDef K mg "items_of" sItemsOf
  isRow : TDef K mg "is_row" sIsRow
  identityRows : TDef K mg "identity_rows" sIdentityRows
  rowAfter : TDef K mg "row_after" sRowAfter
  rowsOf : TDef K mg "rows_of" sRowsOf
  effectOf : TDef K mg "effect_of" sEffectOf
  checkArguments : TDef K mg "check_arguments" sCheckArguments
  placesAfter : TDef K mg "places_after" sPlacesAfter
  placesLeft : TDef K mg "places_left" sPlacesLeft
  exchanged : TDef K mg "exchanged" sExchanged
  unseenPuts : TDef K mg "unseen_puts" sUnseenPuts
  exchangeable : TDef K mg "exchangeable" sExchangeable
  pool : TDef K mg "_law_pool" sPool
  take : TDef K mg "_law_take" sTake
  steps : TDef K mg "_law_steps" sSteps
  swapped : TDef K mg "_law_swapped" sSwapped
  unseenRight : TDef K mg "_law_unseen_right" sUnseenRight
  longRight : TDef K mg "_law_long_right" sLong
  law : TDef K mg "law" sLaw
theorem law_of {P : Program} {w : World} {K : PySem.W.Frag} {mg : Str → Option Value} {base : Heap} {C f : Addr} {fd : FuncData} (G : Glob K mg) (TC : ECls K mg C) (D : Defs K mg) (F : Fun K "law" "law" sLaw f fd) :
    FnOk P w K mg base CX0 11 f fd ["_law_script"] (spLaw K) := by
  have i2 := cal_isInteger2 (P := P) (w := w) (base := base) G D.isInteger
  have i1 := cal_isInteger1 (P := P) (w := w) (base := base) G D.isInteger
  have ci := cal_checkInteger D.checkInteger i2
  have tx := cal_isTextOf (P := P) (w := w) (base := base) G D.isTextOf
  have ic := cal_isCapacity G D.isCapacity i2
  have cc := cal_checkCapacity D.checkCapacity ic
  have im := cal_isMode (P := P) (w := w) (base := base) G D.isMode
  have cm := cal_checkMode D.checkMode im
  have iq := cal_isQueue G D.isQueue cc tx
  have iS := cal_isSequence G D.isSequence tx
  have cs := cal_checkSequence D.checkSequence iS
  have so := cal_spanOf (P := P) (w := w) (base := base) G D.spanOf
  have pa := cal_parse G D.parse so
  have io := cal_itemsOf G D.itemsOf pa
  have ir := cal_isRow G D.isRow i1 iq
  have id := cal_identityRows (P := P) (w := w) (base := base) G D.identityRows
  have ra := cal_rowAfter (P := P) (w := w) (base := base) G D.rowAfter
  have ro := cal_rowsOf G D.rowsOf id ra
  have eo := cal_effectOf G TC D.effectOf io cc cm ro ir
  have ca := cal_checkArguments G D.checkArguments cs cc cm
  have pf := cal_placesAfter (P := P) (w := w) (base := base) G D.placesAfter
  have pl := cal_placesLeft G D.placesLeft pf
  have ex := cal_exchanged (P := P) (w := w) (base := base) D.exchanged
  have up := cal_unseenPuts G D.unseenPuts ca pl
  have xa := cal_exchangeable G TC D.exchangeable ca eo ex
  have lp := cal_pool (P := P) (w := w) (base := base) G D.pool
  have lt := cal_take (P := P) (w := w) (base := base) D.take
  have ls := cal_steps G D.steps lt
  have lw := cal_swapped (P := P) (w := w) (base := base) D.swapped
  have ur := cal_unseenRight G TC D.unseenRight eo up i1 ci
  have lr := cal_long G TC D.longRight lt eo up xa ls lw
  exact fn_law G TC F lt eo ur xa ls lw lp lr
theorem law_mk {P : Program} {w : World} {K : PySem.W.Frag} {mg : Str → Option Value} {fa C : Addr} (hfa : mg "law" = some (.ref fa)) (G : Glob K mg) (TC : ECls K mg C) (D : Defs K mg) :
    ∃ fd : FuncData, (∀ (s : Shared) (v : Value), BindsTo s fd ⟨[v], []⟩ [("_law_script", v)]) ∧ ∀ base : Heap, K.In base → base.Ns mainGlobals mg → FnOk P w K mg base CX0 11 fa fd ["_law_script"] (spLaw K) := by
  obtain ⟨f, fd, hm, F⟩ := D.law.ex
  have e := hfa.symm.trans hm
  cases e
  obtain ⟨oc, od, kV, doc, pm, an, cdv, ct, osl, e, lk, hcd⟩ := F.ex
  exact ⟨fd, fun s v => by rw [e]; exact .of_eq rfl, fun base _ _ => law_of G TC D F⟩
theorem walk {l : PySem.W.OpenLaw} {q : Program} {loose : List Str} {XP : (Str → Option Value) → Heap → Prop} {YP : World → Heap → Prop} {d : DefRec} {K : Params → PySem.W.Frag} (hn : l.most = some 63) (hdf : d.params.defaults = [])
    (hY : ∀ (w : World) (h : Heap), YP w h → (K w.params).In h)
    (F : ∀ (w : World) (mg : Str → Option Value) (fa : Addr) (h : Heap), (K w.params).In h → h.Ns mainGlobals mg → mg d.name = some (.ref fa) →
      ∃ fd : FuncData, (∀ (s : Shared) (u : Value), BindsTo s fd ⟨[u], []⟩ [("_law_script", u)]) ∧ ∀ base : Heap, (K w.params).In base → base.Ns mainGlobals mg → FnOk l.prog w (K w.params) mg base CX0 11 fa fd ["_law_script"] (spLaw (K w.params))) :
    PySem.W.WalkO q loose XP YP l.row.toRowW d [] (fun f vs => PySem.call f vs) :=
  L2.walk_of (n := 63) (k := 11) (x := "_law_script") (CX := fun _ => CX0) (sp := fun w => spLaw (K w.params)) hn (by decide) hdf ⟨rfl, by decide, by decide⟩ hY F (fun _ _ a ns hl _ hS => ⟨a, ns, rfl, hS, hl, fun _ => rfl⟩) fun _ _ _ _ _ z => z
end K53
end -- U
section -- the head
open PySem PySem.W PyProof.Rows
set_option maxRecDepth 100000 in
set_option maxHeartbeats 0 in
open_top k53head for PySem.Challenge.rw_fullqueue_k53_whole_letters_that_are_see
end -- the head
set_option maxHeartbeats 0 in
theorem PySem.Challenge.cw_fullqueue_k53_whole_letters_that_are_see_holds : PySem.Challenge.rw_fullqueue_k53_whole_letters_that_are_see.Holds := by
  refine k53head ?_
  k_fill
  refine K53.walk (l := PySem.Challenge.rw_fullqueue_k53_whole_letters_that_are_see) rfl rfl (fun w h Y => PySem.W.kIn_of Y) ?F
  case F =>
    intro w mg fa h KX G hmg
    refine' K53.law_mk hmg
      ⟨(K53.none_mk KX G ?b0), (K53.none_mk KX G ?b1), (K53.none_mk KX G ?b2), (K53.none_mk KX G ?b3), (K53.none_mk KX G ?b4), (K53.none_mk KX G ?b5), (K53.none_mk KX G ?b6), (K53.none_mk KX G ?b7), (K53.none_mk KX G ?b8), (K53.none_mk KX G ?b9), (K53.none_mk KX G ?b10), (K53.none_mk KX G ?b11), (K53.none_mk KX G ?b12), (K53.none_mk KX G ?b13), (K53.str_mk KX G ?s0), (K53.str_mk KX G ?s1), (K53.str_mk KX G ?s2), (K53.int_mk KX G ?n0), (K53.int_mk KX G ?n1), (K53.int_mk KX G ?n2), (K53.modes_mk KX G ?m1 ?m2)⟩
      ⟨⟨?pg, ?hd, ?po, ?sa⟩, (K53.nattr_mk ?nA), (PySem.W.mg_of KX G ?aC), ?cA, ?cN, ?cT, ?cM, (K53.init_mk ?mk ?kc ?ia ?ii ?il ?ic ?ik), (K53.meth_mk ?ea ?ei ?el ?ec ?ek), (K53.meth_mk ?oa ?oi ?ol ?oc ?ok), (K53.meth_mk2 ?ga ?gi ?gj ?gl ?gc ?gk), (K53.prop_mk ?pa ?pb ?pt ?pr ?pl ?pc ?pk)⟩
      ⟨(K53.ddef_mk KX G (by simp) ?da0 ?dl0 ?dt0 ?dc0 ?dk0 ?dr0),
      (K53.ddef_mk KX G (by simp) ?da1 ?dl1 ?dt1 ?dc1 ?dk1 ?dr1),
      (K53.ddef_mk KX G (by simp) ?da2 ?dl2 ?dt2 ?dc2 ?dk2 ?dr2),
      (K53.tdef_mk KX G ?a0 ?l0 ?c0 ?k0),
      (K53.tdef_mk KX G ?a1 ?l1 ?c1 ?k1),
      (K53.tdef_mk KX G ?a2 ?l2 ?c2 ?k2),
      (K53.tdef_mk KX G ?a3 ?l3 ?c3 ?k3),
      (K53.tdef_mk KX G ?a4 ?l4 ?c4 ?k4),
      (K53.tdef_mk KX G ?a5 ?l5 ?c5 ?k5),
      (K53.tdef_mk KX G ?a6 ?l6 ?c6 ?k6),
      (K53.tdef_mk KX G ?a7 ?l7 ?c7 ?k7),
      (K53.tdef_mk KX G ?a8 ?l8 ?c8 ?k8),
      (K53.tdef_mk KX G ?a9 ?l9 ?c9 ?k9),
      (K53.tdef_mk KX G ?a10 ?l10 ?c10 ?k10),
      (K53.tdef_mk KX G ?a11 ?l11 ?c11 ?k11),
      (K53.tdef_mk KX G ?a12 ?l12 ?c12 ?k12),
      (K53.tdef_mk KX G ?a13 ?l13 ?c13 ?k13),
      (K53.tdef_mk KX G ?a14 ?l14 ?c14 ?k14),
      (K53.tdef_mk KX G ?a15 ?l15 ?c15 ?k15),
      (K53.tdef_mk KX G ?a16 ?l16 ?c16 ?k16),
      (K53.tdef_mk KX G ?a17 ?l17 ?c17 ?k17),
      (K53.tdef_mk KX G ?a18 ?l18 ?c18 ?k18),
      (K53.tdef_mk KX G ?a19 ?l19 ?c19 ?k19),
      (K53.tdef_mk KX G ?a20 ?l20 ?c20 ?k20),
      (K53.tdef_mk KX G ?a21 ?l21 ?c21 ?k21),
      (K53.tdef_mk KX G ?a22 ?l22 ?c22 ?k22),
      (K53.tdef_mk KX G ?a23 ?l23 ?c23 ?k23),
      (K53.tdef_mk KX G ?a24 ?l24 ?c24 ?k24),
      (K53.tdef_mk KX G ?a25 ?l25 ?c25 ?k25),
      (K53.tdef_mk KX G ?a26 ?l26 ?c26 ?k26),
      (K53.tdef_mk KX G ?a27 ?l27 ?c27 ?k27)⟩
    (case aC => k_is)
    (case b0 => k_is)
    (case b1 => k_is)
    (case b2 => k_is)
    (case b3 => k_is)
    (case b4 => k_is)
    (case b5 => k_is)
    (case b6 => k_is)
    (case b7 => k_is)
    (case b8 => k_is)
    (case b9 => k_is)
    (case b10 => k_is)
    (case b11 => k_is)
    (case b12 => k_is)
    (case b13 => k_is)
    (case s0 => k_is)
    (case s1 => k_is)
    (case s2 => k_is)
    (case n0 => k_is)
    (case n1 => k_is)
    (case n2 => k_is)
    (case m1 => k_is)
    (case m2 => k_is)
    (case pg => k_is)
    (case hd => k_is)
    (case po => k_is)
    (case sa => k_is)
    (case nA => k_is)
    (case cA => k_is)
    (case cN => k_is)
    (case cT => k_is)
    (case cM => k_is)
    (case mk => k_is)
    (case kc => k_is)
    (case ia => k_is)
    (case ii => k_is)
    (case il => k_is)
    (case ic => k_is)
    (case ik => k_is)
    (case ea => k_is)
    (case ei => k_is)
    (case el => k_is)
    (case ec => k_is)
    (case ek => k_is)
    (case oa => k_is)
    (case oi => k_is)
    (case ol => k_is)
    (case oc => k_is)
    (case ok => k_is)
    (case ga => k_is)
    (case gi => k_is)
    (case gj => k_is)
    (case gl => k_is)
    (case gc => k_is)
    (case gk => k_is)
    (case pa => k_is)
    (case pb => k_is)
    (case pt => k_is)
    (case pr => k_is)
    (case pl => k_is)
    (case pc => k_is)
    (case pk => k_is)
    (case da0 => k_is)
    (case dl0 => k_is)
    (case dt0 => k_is)
    (case dc0 => k_is)
    (case dk0 => k_is)
    (case dr0 => exact (.cons ⟨_, rfl⟩ .nil))
    (case da1 => k_is)
    (case dl1 => k_is)
    (case dt1 => k_is)
    (case dc1 => k_is)
    (case dk1 => k_is)
    (case dr1 => exact (.cons ⟨_, rfl⟩ (.cons rfl .nil)))
    (case da2 => k_is)
    (case dl2 => k_is)
    (case dt2 => k_is)
    (case dc2 => k_is)
    (case dk2 => k_is)
    (case dr2 => exact (.cons ⟨_, rfl⟩ .nil))
    (case a0 => k_is)
    (case l0 => k_is)
    (case c0 => k_is)
    (case k0 => k_is)
    (case a1 => k_is)
    (case l1 => k_is)
    (case c1 => k_is)
    (case k1 => k_is)
    (case a2 => k_is)
    (case l2 => k_is)
    (case c2 => k_is)
    (case k2 => k_is)
    (case a3 => k_is)
    (case l3 => k_is)
    (case c3 => k_is)
    (case k3 => k_is)
    (case a4 => k_is)
    (case l4 => k_is)
    (case c4 => k_is)
    (case k4 => k_is)
    (case a5 => k_is)
    (case l5 => k_is)
    (case c5 => k_is)
    (case k5 => k_is)
    (case a6 => k_is)
    (case l6 => k_is)
    (case c6 => k_is)
    (case k6 => k_is)
    (case a7 => k_is)
    (case l7 => k_is)
    (case c7 => k_is)
    (case k7 => k_is)
    (case a8 => k_is)
    (case l8 => k_is)
    (case c8 => k_is)
    (case k8 => k_is)
    (case a9 => k_is)
    (case l9 => k_is)
    (case c9 => k_is)
    (case k9 => k_is)
    (case a10 => k_is)
    (case l10 => k_is)
    (case c10 => k_is)
    (case k10 => k_is)
    (case a11 => k_is)
    (case l11 => k_is)
    (case c11 => k_is)
    (case k11 => k_is)
    (case a12 => k_is)
    (case l12 => k_is)
    (case c12 => k_is)
    (case k12 => k_is)
    (case a13 => k_is)
    (case l13 => k_is)
    (case c13 => k_is)
    (case k13 => k_is)
    (case a14 => k_is)
    (case l14 => k_is)
    (case c14 => k_is)
    (case k14 => k_is)
    (case a15 => k_is)
    (case l15 => k_is)
    (case c15 => k_is)
    (case k15 => k_is)
    (case a16 => k_is)
    (case l16 => k_is)
    (case c16 => k_is)
    (case k16 => k_is)
    (case a17 => k_is)
    (case l17 => k_is)
    (case c17 => k_is)
    (case k17 => k_is)
    (case a18 => k_is)
    (case l18 => k_is)
    (case c18 => k_is)
    (case k18 => k_is)
    (case a19 => k_is)
    (case l19 => k_is)
    (case c19 => k_is)
    (case k19 => k_is)
    (case a20 => k_is)
    (case l20 => k_is)
    (case c20 => k_is)
    (case k20 => k_is)
    (case a21 => k_is)
    (case l21 => k_is)
    (case c21 => k_is)
    (case k21 => k_is)
    (case a22 => k_is)
    (case l22 => k_is)
    (case c22 => k_is)
    (case k22 => k_is)
    (case a23 => k_is)
    (case l23 => k_is)
    (case c23 => k_is)
    (case k23 => k_is)
    (case a24 => k_is)
    (case l24 => k_is)
    (case c24 => k_is)
    (case k24 => k_is)
    (case a25 => k_is)
    (case l25 => k_is)
    (case c25 => k_is)
    (case k25 => k_is)
    (case a26 => k_is)
    (case l26 => k_is)
    (case c26 => k_is)
    (case k26 => k_is)
    (case a27 => k_is)
    (case l27 => k_is)
    (case c27 => k_is)
    (case k27 => k_is)
