import PyProof.Rows.All
import PySem.Challenge.RW_saveagain_k97_whole_texts_of_chains
import PyProof.P3Statements
import Wide.All
import OpenK.AllK
import Wide.FinOn
import KE.KExcSuper
import HandS.Base
import HandS.Call
import HandS.Exc
import HandS.ExcInit
import KE.KExcIs
import HandS.ExcIs
import HandS.ExcField
import HandS.IsInst
import HandS.ForMost
import HandS.ExcOwn
import HandS.TryOnly
import HandS.Star
import HandS.Walk
import HandS.Defaults
import HandS.WordsExc
import HandS.Flow
import HandS.TupAny
import HandS.Lambda
import HandS.FStrTup
import HandS.EndTab
import HandS.HeadWalk
import KE.KStateDown
import HandS.Ends
import HandS.More
import HandS.Words
import HandS.Head0
import HandS.Head1
import HandS.Head2
import HandS.HeadEnd
import HandS.HeadHook1
import HandS.HeadHook2
import HandS.HeadHook3
import HandS.HeadHook4
set_option linter.all false
namespace Mine
open PySem

/-! ### names -/
def letters : List Nat := (Str.ofString "abcdefghijklmnopqrstuvwxyz").cps.toList
def nameOk (s : Str) : Bool := decide (1 ≤ s.length ∧ s.length ≤ 8) && s.cps.toList.all fun c => decide (c ∈ letters)
abbrev sThis : Str := "this"
abbrev sThen : Str := "then"
abbrev sOr : Str := "or"
abbrev sAgain : Str := "again"
abbrev sOpen : Str := "("
abbrev sShut : Str := ")"
def heads : List Str := [sThen, sOr, sAgain]
def most (w : Str) : Nat := if w = sAgain then 1 else 6

/-! ### chains -/
inductive Ch where
  | this (s : Str)
  | node (w : Str) (ps : List Ch)
mutual
def Ch.data : Ch → PyData
  | .this s => .tuple [.str sThis, .str s]
  | .node w ps => .tuple (.str w :: dataL ps)
def dataL : List Ch → List PyData
  | [] => []
  | c :: r => c.data :: dataL r
end
mutual
def Ch.words : Ch → List Str
  | .this s => [s]
  | .node w ps => sOpen :: w :: (wordsL ps ++ [sShut])
def wordsL : List Ch → List Str
  | [] => []
  | c :: r => c.words ++ wordsL r
end
mutual
def Ch.size : Ch → Nat
  | .this _ => 1
  | .node _ ps => 1 + sizeL ps
def sizeL : List Ch → Nat
  | [] => 0
  | c :: r => c.size + sizeL r
end
mutual
def Ch.depth : Ch → Nat
  | .this _ => 1
  | .node _ ps => 1 + depthL ps
def depthL : List Ch → Nat
  | [] => 0
  | c :: r => max c.depth (depthL r)
end
mutual
def Ch.ok : Ch → Prop
  | .this s => nameOk s = true
  | .node w ps => w ∈ heads ∧ 1 ≤ ps.length ∧ ps.length ≤ most w ∧ okL ps
def okL : List Ch → Prop
  | [] => True
  | c :: r => c.ok ∧ okL r
end

/-! ### the reader's states; the open chain that is last stands first -/
structure Ns where
  nested : List (List PyData)
  whole : Option PyData
  many : Nat
def Ns.init : Ns := ⟨[], none, 0⟩
def Ns.isDue (st : Ns) : Bool := match st.nested with
  | [] :: _ => true
  | _ => false
def headMost : List PyData → Nat
  | .str w :: _ => most w
  | _ => 0
def Ns.canBegin (st : Ns) : Bool := !(st.whole.isSome || decide (40 ≤ st.many) || decide (8 ≤ st.nested.length)) && (match st.nested with
  | [] => true
  | t :: _ => decide ((t.length : Int) - 1 < (headMost t : Int)))
def Ns.add (st : Ns) (d : PyData) : Ns := match st.nested with
  | [] => { st with whole := some d }
  | t :: r => { st with nested := (t ++ [d]) :: r }
def Ns.take (st : Ns) (w : Str) : Option Ns :=
  if st.isDue = true then (if w ∈ heads then some { st with nested := [.str w] :: st.nested.tail } else none)
  else if w = sShut then (match st.nested with
    | [] => none
    | t :: r => if t.length < 2 then none else some ({ st with nested := r }.add (.tuple t)))
  else if (w ≠ sOpen ∧ nameOk w = false) ∨ st.canBegin = false then none
  else if w = sOpen then some { st with nested := [] :: st.nested, many := st.many + 1 }
  else some ({ st with many := st.many + 1 }.add (.tuple [.str sThis, .str w]))
/-- the index of the word that stops it, or the state behind all -/
def run : Nat → Ns → List Str → Nat ⊕ Ns
  | _, st, [] => .inr st
  | i, st, w :: ws => match st.take w with
    | none => .inl i
    | some st' => run (i + 1) st' ws
/-- read_chain: an index, or a chain -/
def readW (ws : List Str) : Nat ⊕ PyData := match run 0 .init ws with
  | .inl i => .inl i
  | .inr st => match st.whole with
    | none => .inl ws.length
    | some d => .inr d

theorem run_append : ∀ (us vs : List Str) (i : Nat) (st : Ns), run i st (us ++ vs) = match run i st us with
    | .inl j => .inl j
    | .inr st' => run (i + us.length) st' vs
  | [], vs, i, st => by simp [run]
  | w :: us, vs, i, st => by
    cases h : st.take w with
    | none => simp only [List.cons_append, run, h]
    | some st' =>
      have q := run_append us vs (i + 1) st'
      rw [show i + 1 + us.length = i + (w :: us).length by simp only [List.length_cons]; omega] at q
      simp only [List.cons_append, run, h]
      exact q

theorem heads_ok : ∀ w ∈ heads, w ≠ sOpen ∧ w ≠ sShut := by decide
theorem nameOk_ne {s : Str} (h : nameOk s = true) : s ≠ sOpen ∧ s ≠ sShut ∧ s ≠ "" := by
  refine ⟨?_, ?_, ?_⟩ <;> (intro e; subst e; revert h; decide)
theorem most_pos (w : Str) : 1 ≤ most w := by unfold most; split <;> omega

/-- a state where a chain may begin, s chains in it, d deep -/
structure Rm (st : Ns) (s d : Nat) : Prop where
  wh : st.whole = none
  mn : st.many + s ≤ 40
  dp : st.nested.length + d ≤ 8
  due : st.isDue = false
  tp : ∀ t r, st.nested = t :: r → t.length < 1 + headMost t
theorem Rm.can {st : Ns} {s d : Nat} (h : Rm st s d) (hs : 1 ≤ s) (hd : 1 ≤ d) : st.canBegin = true := by
  have h1 := h.mn
  have h2 := h.dp
  unfold Ns.canBegin
  rw [h.wh]
  have e1 : decide (40 ≤ st.many) = false := decide_eq_false (by omega)
  have e2 : decide (8 ≤ st.nested.length) = false := decide_eq_false (by omega)
  rw [e1, e2]
  cases e : st.nested with
  | nil => rfl
  | cons t r =>
    have := h.tp t r e
    simp only [Option.isSome_none, Bool.or_self, Bool.not_false, Bool.true_and, decide_eq_true_eq]
    omega
theorem add_many (st : Ns) (d : PyData) : (st.add d).many = st.many := by
  unfold Ns.add
  split <;> rfl
theorem mem_heads {w : Str} (h : w ∈ heads) : w = sThen ∨ w = sOr ∨ w = sAgain := by
  simpa [heads] using h
mutual
theorem run_chain : ∀ (c : Ch) (st : Ns) (i : Nat), c.ok → Rm st c.size c.depth → run i st c.words = .inr ({ st with many := st.many + c.size }.add c.data)
  | .this s, st, i, hc, h => by
    have hn : nameOk s = true := by simpa [Ch.ok] using hc
    obtain ⟨n1, n2, _⟩ := nameOk_ne hn
    have hcan := h.can (by simp [Ch.size]) (by simp [Ch.depth])
    have e : st.take s = some ({ st with many := st.many + 1 }.add (.tuple [.str sThis, .str s])) := by
      unfold Ns.take
      rw [h.due, if_neg (by decide), if_neg n2, if_neg (by rw [hn, hcan]; simp), if_neg n1]
    simp only [Ch.words, run, e, Ch.data, Ch.size]
  | .node w ps, st, i, hc, h => by
    obtain ⟨hw, hp1, hp2, hps⟩ := (by simpa [Ch.ok] using hc : w ∈ heads ∧ 1 ≤ ps.length ∧ ps.length ≤ most w ∧ okL ps)
    have hcan := h.can (by simp [Ch.size]) (by simp [Ch.depth])
    have e1 : st.take sOpen = some { st with nested := [] :: st.nested, many := st.many + 1 } := by
      unfold Ns.take
      rw [h.due, if_neg (by decide), if_neg (by decide), if_neg (by rw [hcan]; simp), if_pos rfl]
    have e2 : ({ st with nested := [] :: st.nested, many := st.many + 1 } : Ns).take w = some ⟨[.str w] :: st.nested, st.whole, st.many + 1⟩ := by
      unfold Ns.take
      rw [if_pos (by rfl), if_pos hw]
      rfl
    have e3 := run_parts w ps [] ⟨[.str w] :: st.nested, st.whole, st.many + 1⟩ st.nested (i + 2) hps rfl rfl (by simpa using hp2) h.wh
      (by have := h.mn; simp only [Ch.size] at this; show st.many + 1 + sizeL ps ≤ 40; omega) (by have := h.dp; simp only [Ch.depth] at this; simp only [List.length_cons]; omega)
    have e4 : (⟨(.str w :: ([] ++ dataL ps)) :: st.nested, st.whole, st.many + 1 + sizeL ps⟩ : Ns).take sShut = some (({ st with many := st.many + 1 + sizeL ps } : Ns).add (.tuple (.str w :: dataL ps))) := by
      have hl : (dataL ps).length = ps.length := dataL_length ps
      unfold Ns.take
      rw [if_neg (by simp [Ns.isDue]), if_pos rfl]
      show (if (.str w :: ([] ++ dataL ps)).length < 2 then none else _) = _
      rw [if_neg (by simp only [List.nil_append, List.length_cons]; omega)]
      rfl
    show run i st (sOpen :: w :: (wordsL ps ++ [sShut])) = _
    simp only [run, e1, e2]
    rw [run_append, e3]
    simp only [run, e4, Ch.size, Ch.data]
    rw [show st.many + 1 + sizeL ps = st.many + (1 + sizeL ps) by omega]
theorem run_parts (w : Str) : ∀ (ps : List Ch) (got : List PyData) (st : Ns) (below : List (List PyData)) (i : Nat), okL ps → st.nested = (.str w :: got) :: below → st.isDue = false → got.length + ps.length ≤ most w → st.whole = none →
    st.many + sizeL ps ≤ 40 → st.nested.length + depthL ps ≤ 8 → run i st (wordsL ps) = .inr ⟨(.str w :: (got ++ dataL ps)) :: below, st.whole, st.many + sizeL ps⟩
  | [], got, st, below, i, _, hn, _, _, hw, _, _ => by
    obtain ⟨n, wh, m⟩ := st
    simp only at hn hw
    subst hn hw
    simp [wordsL, run, dataL, sizeL]
  | c :: r, got, st, below, i, hok, hn, hd, hl, hw, hm, hdp => by
    obtain ⟨h1, h2⟩ := (by simpa [okL] using hok : c.ok ∧ okL r)
    obtain ⟨n, wh, m⟩ := st
    simp only at hn hw
    subst hn hw
    simp only [sizeL, depthL, List.length_cons] at hm hdp hl
    have R : Rm ⟨(.str w :: got) :: below, none, m⟩ c.size c.depth := ⟨rfl, by show m + c.size ≤ 40; omega, by simp only [List.length_cons]; omega, hd, fun t q e => by
      cases e
      simp only [List.length_cons, headMost]
      omega⟩
    have e1 := run_chain c ⟨(.str w :: got) :: below, none, m⟩ i h1 R
    have e2 := run_parts w r (got ++ [c.data]) ⟨(.str w :: (got ++ [c.data])) :: below, none, m + c.size⟩ below (i + c.words.length) h2 rfl rfl (by rw [List.length_append]; simp only [List.length_cons, List.length_nil]; omega) rfl
      (by show m + c.size + sizeL r ≤ 40; omega) (by simp only [List.length_cons]; omega)
    simp only [wordsL]
    rw [run_append, e1]
    simp only [Ns.add, List.cons_append]
    rw [e2]
    simp only [dataL, sizeL, List.append_assoc, List.singleton_append]
    rw [show m + c.size + sizeL r = m + (c.size + sizeL r) by omega]
theorem dataL_length : ∀ ps : List Ch, (dataL ps).length = ps.length
  | [] => by simp [dataL]
  | c :: r => by simp [dataL, dataL_length r]
end
theorem read_ok (c : Ch) (hc : c.ok) (hs : c.size ≤ 40) (hd : c.depth ≤ 8) : readW c.words = .inr c.data := by
  have R : Rm Ns.init c.size c.depth := ⟨rfl, by show 0 + c.size ≤ 40; omega, by show 0 + c.depth ≤ 8; omega, rfl, fun t r e => by cases e⟩
  unfold readW
  rw [run_chain c .init 0 hc R]
  rfl

/-! ### words that are spoilt -/
/-- a state that the reader comes to -/
structure J (st : Ns) : Prop where
  tl : ∀ t ∈ st.nested.tail, t ≠ []
  wh : st.whole.isSome = true → st.nested = []
theorem J.init : J .init := ⟨fun t h => (by cases h), fun h => (by cases h)⟩
theorem due_of {st : Ns} (h : st.isDue = true) : ∃ r, st.nested = [] :: r := by
  unfold Ns.isDue at h
  split at h
  · rename_i r e
    exact ⟨r, e⟩
  · cases h
theorem add_J {n : List (List PyData)} {d : PyData} {m : Nat} (h1 : ∀ t ∈ n.tail, t ≠ []) : J ((⟨n, none, m⟩ : Ns).add d) ∧ ((⟨n, none, m⟩ : Ns).add d).isDue = false := by
  cases n with
  | nil => exact ⟨⟨fun t h => (by cases h), fun _ => rfl⟩, rfl⟩
  | cons t r =>
    refine ⟨⟨h1, fun h => (by cases h)⟩, ?_⟩
    show Ns.isDue ⟨(t ++ [d]) :: r, none, m⟩ = false
    cases t <;> rfl
theorem take_J {st st' : Ns} {w : Str} (j : J st) (h : st.take w = some st') : J st' ∧ st'.isDue = decide (w = sOpen) := by
  obtain ⟨n, wh, m⟩ := st
  have whN : n ≠ [] → wh = none := fun e => by
    cases wh with
    | none => rfl
    | some d => exact absurd (j.wh rfl) e
  unfold Ns.take at h
  by_cases hd : (⟨n, wh, m⟩ : Ns).isDue = true
  · obtain ⟨r, e⟩ := due_of hd
    simp only at e
    subst e
    obtain rfl := whN (by simp)
    rw [if_pos hd] at h
    by_cases hw : w ∈ heads
    · rw [if_pos hw] at h
      cases h
      refine ⟨⟨j.tl, fun z => by cases z⟩, ?_⟩
      rw [decide_eq_false (heads_ok w hw).1]
      rfl
    · rw [if_neg hw] at h
      cases h
  · rw [if_neg hd] at h
    by_cases h1 : w = sShut
    · rw [if_pos h1] at h
      subst h1
      cases n with
      | nil => cases h
      | cons t r =>
        obtain rfl := whN (by simp)
        simp only at h
        split at h
        · cases h
        · cases h
          obtain ⟨q1, q2⟩ := add_J (n := r) (d := .tuple t) (m := m) fun x hx => j.tl x (by
            show x ∈ r
            exact List.mem_of_mem_tail hx)
          exact ⟨q1, q2⟩
    · rw [if_neg h1] at h
      split at h
      · cases h
      · rename_i hc
        have hcan : (⟨n, wh, m⟩ : Ns).canBegin = true := by
          cases q : (⟨n, wh, m⟩ : Ns).canBegin with
          | true => rfl
          | false => exact absurd (Or.inr q) hc
        have hwh : wh = none := by
          cases wh with
          | none => rfl
          | some d => simp [Ns.canBegin] at hcan
        subst hwh
        split at h
        · rename_i e
          cases h
          refine ⟨⟨fun t ht => ?_, fun z => by cases z⟩, by rw [decide_eq_true e]; rfl⟩
          have ht : t ∈ n := ht
          cases n with
          | nil => cases ht
          | cons t0 r =>
            rcases List.mem_cons.mp ht with e2 | e2
            · intro z
              rw [← e2, z] at hd
              exact hd rfl
            · exact j.tl t e2
        · rename_i e
          cases h
          obtain ⟨q1, q2⟩ := add_J (n := n) (d := .tuple [.str sThis, .str w]) (m := m + 1) j.tl
          exact ⟨q1, by rw [q2, decide_eq_false e]⟩
theorem run_J : ∀ (ws : List Str) (i : Nat) (st st' : Ns), J st → run i st ws = .inr st' → J st' ∧ (∀ us w, ws = us ++ [w] → st'.isDue = decide (w = sOpen))
  | [], i, st, st', j, h => by
    cases h
    exact ⟨j, fun us w e => by simp at e⟩
  | w :: ws, i, st, st', j, h => by
    unfold run at h
    cases e : st.take w with
    | none => rw [e] at h; cases h
    | some s1 =>
      rw [e] at h
      obtain ⟨j1, d1⟩ := take_J j e
      obtain ⟨j2, d2⟩ := run_J ws (i + 1) s1 st' j1 h
      refine ⟨j2, fun us x q => ?_⟩
      cases us with
      | nil =>
        obtain ⟨q1, q2⟩ := List.cons.inj q
        subst q1 q2
        cases h
        exact d1
      | cons u us =>
        obtain ⟨q1, q2⟩ := List.cons.inj q
        exact d2 us x q2
theorem run_split {us vs : List Str} {st : Ns} (h : run 0 .init (us ++ vs) = .inr st) : ∃ s1, run 0 .init us = .inr s1 ∧ run us.length s1 vs = .inr st := by
  rw [run_append] at h
  cases e : run 0 .init us with
  | inl j => rw [e] at h; cases h
  | inr s1 =>
    rw [e] at h
    exact ⟨s1, rfl, by simpa using h⟩
theorem read_stop {us vs : List Str} {w : Str} {st : Ns} (h : run 0 .init us = .inr st) (hw : st.take w = none) : readW (us ++ w :: vs) = .inl us.length := by
  unfold readW
  rw [run_append, h]
  simp only [run, hw]
  simp
/-- a word that can stand nowhere -/
def bad (w : Str) : Bool := decide (w ∉ heads) && decide (w ≠ sShut) && decide (w ≠ sOpen) && !nameOk w
theorem bad_take {w : Str} (h : bad w = true) (st : Ns) : st.take w = none := by
  simp only [bad, Bool.and_eq_true, decide_eq_true_eq, Bool.not_eq_true'] at h
  obtain ⟨⟨⟨h1, h2⟩, h3⟩, h4⟩ := h
  unfold Ns.take
  by_cases hd : st.isDue = true
  · rw [if_pos hd, if_neg h1]
  · rw [if_neg hd, if_neg h2, if_pos (.inl ⟨h3, h4⟩)]
theorem due_take {st : Ns} {w : Str} (hd : st.isDue = true) (h : w ∉ heads) : st.take w = none := by
  unfold Ns.take
  rw [if_pos hd, if_neg h]
theorem due_shut {st st' : Ns} {w : Str} (hd : st.isDue = true) (h : st.take w = some st') : st'.take sShut = none := by
  unfold Ns.take at h
  rw [if_pos hd] at h
  split at h
  · cases h
    unfold Ns.take
    rw [if_neg (by simp [Ns.isDue]), if_pos rfl]
    simp
  · cases h
theorem whole_take {st : Ns} (j : J st) (h : st.whole.isSome = true) (w : Str) : st.take w = none := by
  obtain ⟨n, wh, m⟩ := st
  have e : n = [] := j.wh h
  subst e
  unfold Ns.take
  rw [if_neg (by simp [Ns.isDue])]
  split
  · rfl
  · rw [if_pos (.inr (by
      have h : wh.isSome = true := h
      unfold Ns.canBegin
      show (!(wh.isSome || _ || _) && _) = false
      rw [h]
      rfl))]
/-- words of a whole chain -/
structure Whole (ws : List Str) : Prop where
  ok : ∃ st, run 0 .init ws = .inr st ∧ st.whole.isSome = true
  ne : ws ≠ []
theorem Whole.pre {ws us vs : List Str} (h : Whole ws) (e : ws = us ++ vs) : ∃ s1, run 0 .init us = .inr s1 ∧ J s1 := by
  obtain ⟨st, h1, _⟩ := h.ok
  rw [e] at h1
  obtain ⟨s1, h2, _⟩ := run_split h1
  exact ⟨s1, h2, (run_J us 0 _ _ J.init h2).1⟩
/-- the last word left out -/
theorem sp_last {ws : List Str} (h : Whole ws) : readW ws.dropLast = .inl (ws.length - 1) := by
  obtain ⟨st, h1, h2⟩ := h.ok
  have e := List.dropLast_concat_getLast h.ne
  rw [← e] at h1
  obtain ⟨s1, h3, h4⟩ := run_split h1
  have j := (run_J _ 0 _ _ J.init h3).1
  have hn : s1.whole = none := by
    cases q : s1.whole with
    | none => rfl
    | some d =>
      simp only [run, whole_take j (by rw [q]; rfl) (ws.getLast h.ne)] at h4
      cases h4
  unfold readW
  rw [h3]
  simp only [hn, List.length_dropLast]
/-- a word more behind -/
theorem sp_more {ws : List Str} (h : Whole ws) (w : Str) : readW (ws ++ [w]) = .inl ws.length := by
  obtain ⟨st, h1, h2⟩ := h.ok
  exact read_stop h1 (whole_take (run_J _ 0 _ _ J.init h1).1 h2 w)
/-- a word that can stand nowhere, whatever stands behind it -/
theorem sp_bad {ws us vs xs : List Str} {w : Str} (h : Whole ws) (e : ws = us ++ vs) (hb : bad w = true) : readW (us ++ w :: xs) = .inl us.length := by
  obtain ⟨s1, h1, _⟩ := h.pre e
  exact read_stop h1 (bad_take hb s1)
/-- behind a ( no word of chains -/
theorem sp_open {ws us vs xs : List Str} {w : Str} (h : Whole ws) (e : ws = (us ++ [sOpen]) ++ vs) (hb : w ∉ heads) : readW ((us ++ [sOpen]) ++ w :: xs) = .inl (us.length + 1) := by
  obtain ⟨s1, h1, _⟩ := h.pre e
  have hd := (run_J _ 0 _ _ J.init h1).2 us sOpen rfl
  have q := read_stop (vs := xs) h1 (due_take (by rw [hd]; rfl) hb)
  rw [q, List.length_append]
  rfl
/-- behind a ( and a word of chains a ) -/
theorem sp_head {ws us vs xs : List Str} {w : Str} (h : Whole ws) (e : ws = ((us ++ [sOpen]) ++ [w]) ++ vs) : readW (((us ++ [sOpen]) ++ [w]) ++ sShut :: xs) = .inl (us.length + 2) := by
  obtain ⟨s1, h1, _⟩ := h.pre e
  obtain ⟨s0, h0, h01⟩ := run_split h1
  have hd := (run_J _ 0 _ _ J.init h0).2 us sOpen rfl
  cases q : s0.take w with
  | none =>
    simp only [run, q] at h01
    cases h01
  | some s2 =>
    simp only [run, q] at h01
    cases h01
    have z := read_stop (vs := xs) h1 (due_shut (by rw [hd]; rfl) q)
    rw [z]
    simp
theorem whole_of (c : Ch) (hc : c.ok) (hs : c.size ≤ 40) (hd : c.depth ≤ 8) : Whole c.words := by
  have R : Rm Ns.init c.size c.depth := ⟨rfl, by show 0 + c.size ≤ 40; omega, by show 0 + c.depth ≤ 8; omega, rfl, fun t r e => by cases e⟩
  refine ⟨⟨_, run_chain c .init 0 hc R, rfl⟩, ?_⟩
  cases c with
  | this s => simp [Ch.words]
  | node w ps => simp [Ch.words]
/-! ### no blank within a word -/
def noSp (w : Str) : Bool := !decide (32 ∈ w.cps.toList)
theorem nameOk_noSp {s : Str} (h : nameOk s = true) : noSp s = true := by
  simp only [nameOk, Bool.and_eq_true, List.all_eq_true, decide_eq_true_eq] at h
  simp only [noSp, Bool.not_eq_true', decide_eq_false_iff_not]
  intro z
  exact absurd (h.2 32 z) (by decide)
theorem heads_noSp : ∀ w ∈ heads, noSp w = true := by decide
mutual
theorem words_noSp : ∀ (c : Ch), c.ok → ∀ w ∈ c.words, noSp w = true
  | .this s, h, w, hw => by
    have hn : nameOk s = true := by simpa [Ch.ok] using h
    simp only [Ch.words, List.mem_singleton] at hw
    rw [hw]
    exact nameOk_noSp hn
  | .node x ps, h, w, hw => by
    obtain ⟨h1, _, _, h4⟩ := (by simpa [Ch.ok] using h : x ∈ heads ∧ 1 ≤ ps.length ∧ ps.length ≤ most x ∧ okL ps)
    simp only [Ch.words, List.mem_cons, List.mem_append, List.not_mem_nil, or_false] at hw
    rcases hw with e | e | e | e
    · rw [e]; decide
    · rw [e]; exact heads_noSp x h1
    · exact wordsL_noSp ps h4 w e
    · rw [e]; decide
theorem wordsL_noSp : ∀ (ps : List Ch), okL ps → ∀ w ∈ wordsL ps, noSp w = true
  | [], _, w, hw => by simp [wordsL] at hw
  | c :: r, h, w, hw => by
    obtain ⟨h1, h2⟩ := (by simpa [okL] using h : c.ok ∧ okL r)
    simp only [wordsL, List.mem_append] at hw
    rcases hw with e | e
    · exact words_noSp c h1 w e
    · exact wordsL_noSp r h2 w e
end
end Mine

set_option Elab.async false
set_option linter.all false
set_option maxRecDepth 100000
set_option maxHeartbeats 2000000
namespace Mine
open PySem PySem.W PySem.Calls PyProof.Rows PySem.Spec

/-- self.f = f, for each f -/
inductive Stores : List Str → List Stmt → Prop where
  | nil : Stores [] []
  | cons {f : Str} {fs : List Str} {sts : List Stmt} (p1 p2 p3 p4 : Pos) : Stores fs sts → Stores (f :: fs) (.Assign [.Attribute (.Name "self" p1) f p2] (.Name f p3) p4 :: sts)

/-- what an exception's own dict holds behind the stores -/
def stored : List Str → List Value → (Str → Option Value) → Str → Option Value
  | f :: fs, u :: us, m => stored fs us fun y => if y = f then some u else m y
  | _, _, m => m

section
variable {prog : Program} {w : World} {M : Model} {A : Around} {E : Value → Shared → Prop} {h : Heap} {g : Array GenState} {d : Drawn} {t : Nat} {os : OsState}
/-- the wrapper of ValueError.__init__ at u, bound to e, is called -/
theorem call_wrap {u e t0 C : Addr} {rest : List Value} {nm q : Str} {N : Addr} {bs bm : List Value} {hd : Bool} {sn : List Str} {sub : List Value} {ab : Bool} {col : Option Bool} {dd : Option Addr} {k0 k1 k2 k3 k5 : Option Value} {Q : Value → Shared → Prop}
    (hC : h.get? C = some (excClassObj nm q C N bs bm hd sn sub ab col dd k0 k1 k2 k3 k5 "ValueError.__new__")) (he : h.get? e = some (HandSPX.excO C t0)) (hu : h.get? u = some (kxs_mw "ValueError.__init__" e)) (hz : rest.length ≤ sizeLine)
    (hq : ∀ h' t1, (∀ b o, b ≠ e → h.get? b = some o → h'.get? b = some o) → h'.get? e = some (HandSPX.excO C t1) → Q .none ⟨h', g, d, t, os⟩) :
    wpAny (model prog w) A (call (.ref u) rest) Q E ⟨h, g, d, t, os⟩ := by
  refine wpAny_call (codeAny_of_tree ?_)
  show wpAny _ A.in1 (callAny (.ref u) ⟨rest, []⟩) _ _ _
  simp only [callAny]
  refine wpAny_bind (wpAny_load hu ?_)
  have c1 : (Value.type "method-wrapper" == Value.type "method" || Value.type "method-wrapper" == Value.type "builtin_function_or_method" || Value.type "method-wrapper" == Value.type "method-wrapper") = true := by decide
  simp only [kxs_mw, c1, if_true]
  refine KFB.if_so (by decide) ?_
  refine wpAny_bind (check_bound_init F.excBase_ValueError.toExcCallFacts hC he rfl ?_)
  refine wpAny_bind (wpAny_pure (wpAny_pure ?_))
  refine ⟨plainId_quiet F.excBase_ValueError.init.plain _, codeAny_builtin F.excBase_ValueError.initEntry ?_⟩
  exact exc_init_tree (cls := .ref C) (t0 := t0) (dv := none) (c2 := .none) (c3 := .none) (b4 := .bool false) he hz fun h' k e1 _ => hq h' _ k e1
end

/-- the text of super().__init__(m) -/
abbrev supCall (m : Str) (j : Nat) (p0 p1 p2 p3 p4 : Pos) : Expr := .Call (.Attribute (.Call (.Name "super" p0) [] [] p1) "__init__" p2) [.Constant (.str m) j p3] [] p4
/-- the text of an __init__ that says super().__init__(m) and stores its fields fs -/
structure ExS (P : Arguments) (B : List Stmt) (S : Scope) (fs : List Str) : Prop where
  body : ∃ (m : Str) (j : Nat) (p0 p1 p2 p3 p4 p5 : Pos) (sts : List Stmt), B = .Expr (supCall m j p0 p1 p2 p3 p4) p5 :: sts ∧ Stores fs sts ∧ m.length ≤ 1000 ∧
    (∀ env : Env, env.scope = S → interactive env = false ∧ swapsWith (supCall m j p0 p1 p2 p3 p4) none p5.line env = pure false) ∧
    ∀ env : Env, ∃ pl : Sem Bool, eval (supCall m j p0 p1 p2 p3 p4) env = (do
      let ov ← attributeBase (.Call (.Name "super" p0) [] [] p1) "__init__" env (eval (.Call (.Name "super" p0) [] [] p1) env)
      standAt p2.atName
      let (f, first) ← holding [ov] (getMethod ov "__init__" pl)
      callWith p4 f first (backTo p4 (starEach [.Constant (.str m) j p3] env)) [])
  par : ∃ ar : Arg, (P.posonlyargs ++ P.args).head? = some ar ∧ ar.arg = "self"
  bind : ∀ (s : Shared) (qual : Str) (cl : List (Str × Addr)) (kV doc pm : Value) (an : Option Addr) (cdv ct u : Value) (us : List Value), us.length = fs.length → BindsTo s (fnX "__init__" qual P B S cl .none kV doc pm an cdv ct) ⟨u :: us, []⟩ (("self", u) :: fs.zip us)
  lself : S.names.lookup ("self" : Str) = some .local
  lf : ∀ f ∈ fs, f ≠ "self" ∧ S.names.lookup f = some .local ∧ (f == ("__debug__" : Str)) = false
  lsup : S.names.lookup ("super" : Str) = some .globalImplicit
  lcls : S.names.lookup ("__class__" : Str) = some .free
  ncell : ∀ x ∈ S.names, x.2 ≠ .cell
  co : S.isCoroutine = false
  gen : S.isGenerator = false
  kd : S.kind = .function
  nd : fs.Nodup

/-- what the top holds of such a class at C, its __init__ at fI -/
structure ExT (prog : Program) (K : Frag) (mg : Str → Option Value) (C fI : Addr) (P : Arguments) (B : List Stmt) (S : Scope) (fs : List Str) : Prop where
  cls : ∃ nm q N bs bm sn sub ab col dd k0 k1 k2 k3 k5, K.lookup C = some (excClassObj nm q C N bs bm true sn sub ab col dd k0 k1 k2 k3 k5 "ValueError.__new__") ∧ HandSPX.refsVE bm = true
  sa : findIn K (.ref C) "__setattr__" = some (some (.builtin "object.__setattr__"))
  iC : findIn K (.ref C) "__init__" = some (some (.ref fI))
  tI : typeIn K (.ref fI) = some (.type "function")
  noF : ∀ f ∈ fs, findIn K (.ref C) f = some none
  sup : ks_superIn K C C "__init__" = some (some (.builtin "ValueError.__init__"))
  subV : subIn K (.ref C) (.type "ValueError") = some true
  st : nsIn K cStatics "thirdparty.any" = some none
  noS : mg "super" = none
  fn : ∃ (oc : Value) (od : Option Addr) (osl : Array (Option Value)) (kV doc pm : Value) (an : Option Addr) (ct : Value) (cc cda : Addr) (qual : Str) (vs : Array Value) (file : Str) (tf : Tok) (ccl cl : Value) (cdd cld : Option Addr) (ccs csl : Array (Option Value)),
    K.lookup fI = some ⟨oc, od, .func (fnX "__init__" qual P B S [("__class__", cc)] .none kV doc pm an (.ref cda) ct), osl⟩ ∧ codeIn K (.ref cda) qual = true ∧
    K.lookup cda = some ⟨ccl, cdd, .fields vs, ccs⟩ ∧ vs[2]? = some (.str file tf) ∧ ((prog.main.file : Str) == file) = true ∧ K.lookup cc = some ⟨cl, cld, .cell (some (.ref C)), csl⟩
  txt : ExS P B S fs
  top : (prog.main.scope.names.lookup ("super" : Str)).isSome = false

/-- what is left of a fresh exception at x behind its __init__ -/
structure ExEnd (h h' : Heap) (x C dx : Addr) (m : Str → Option Value) : Prop where
  keep : ∀ b o, b ≠ x → h.get? b = some o → h'.get? b = some o
  obj : ∃ t1 : Addr, h'.get? x = some { cls := .ref C, dict := some dx, data := .fields #[.ref t1, .none, .none, .none, .bool false, .none] }
  dbig : h.objs.size ≤ dx
  dne : dx ≠ x
  ns : h'.Ns1 dx m

section
variable {prog : Program} {w : World} {A : Around} {E : Value → Shared → Prop} {R : Result → Shared → Prop} {K : Frag} {mg mb : Str → Option Value} {C fI : Addr} {P : Arguments} {B : List Stmt} {S : Scope} {fs : List Str}

theorem ldS {M : Model} {s : Shared} {env : Env} {m : Str → Option Value} {x : Str} {pos : Pos} {v : Value} {Q : Value → Shared → Prop} (hk : env.scope.kind = .function) (hl : env.kindOf x = some .local) (hn : s.heap.Ns env.locals m) (hv : m x = some v) (hd : (x == ("__debug__" : Str)) = false) (h : Q v s) :
    wpAny M A (eval (.Name x pos) env) Q E s := wpAny_Name (wpAny_loadName_local hk hl hn hv h) hd

theorem lookup_app {α β : Type} [BEq α] (x : α) : ∀ (l r : List (α × β)), (l ++ r).lookup x = (l.lookup x).or (r.lookup x)
  | [], r => by simp
  | p :: l, r => by
    obtain ⟨a, b⟩ := p
    rw [List.cons_append, List.lookup_cons, List.lookup_cons]
    cases x == a with
    | true => simp
    | false => simp [lookup_app x l r]
theorem lookup_no {α β : Type} [BEq α] [LawfulBEq α] {x : α} : ∀ {l : List (α × β)}, x ∉ l.map (·.1) → l.lookup x = none
  | [], _ => rfl
  | p :: l, h => by
    obtain ⟨a, b⟩ := p
    simp only [List.map_cons, List.mem_cons, not_or] at h
    rw [List.lookup_cons, beq_false_of_ne h.1]
    exact lookup_no h.2
theorem lookup_rev {α β : Type} [BEq α] [LawfulBEq α] : ∀ {l : List (α × β)}, (l.map (·.1)).Nodup → ∀ p ∈ l, l.reverse.lookup p.1 = some p.2
  | [], _, _, h => by cases h
  | q :: l, hn, p, h => by
    rw [List.map_cons, List.nodup_cons] at hn
    rw [List.reverse_cons, lookup_app]
    rcases List.mem_cons.mp h with e | h
    · subst e
      rw [lookup_no (by rw [List.map_reverse]; simpa using hn.1)]
      obtain ⟨a, b⟩ := p
      simp [List.lookup]
    · rw [lookup_rev hn.2 p h]
      rfl
/-- the stores behind the first one -/
theorem stores_old {cd : ClassData} (hcd : clsIn K C = some cd) (hm : HandSPX.refsVE cd.mro = true) (hh : cd.hasDict = true) (sa : findIn K (.ref C) "__setattr__" = some (some (.builtin "object.__setattr__")))
    {env : Env} (hk : env.scope.kind = .function) (hself : env.kindOf "self" = some .local) {x dx : Addr} {fv : Array Value} {mL : Str → Option Value} {Q : Flow → Shared → Prop} (hms : mL "self" = some (.ref x)) (hdx : dx ≠ x) (hLd : env.locals ≠ dx) (hKd : ∀ a o, K.lookup a = some o → a ≠ dx)
    {fs : List Str} {sts : List Stmt} (hst : Stores fs sts) : ∀ (us : List Value) (m0 : Str → Option Value) (nl : List Str) (s : Shared), us.length = fs.length → (∀ f ∈ fs, env.kindOf f = some .local ∧ (f == ("__debug__" : Str)) = false) → (∀ p ∈ fs.zip us, mL p.1 = some p.2) → (∀ f ∈ fs, findIn K (.ref C) f = some none) →
      K.In s.heap → s.heap.get? x = some { cls := .ref C, dict := some dx, data := .fields fv } → s.heap.Ns env.locals mL → s.heap.Ns1 dx m0 → Within m0 nl → nl.length + fs.length ≤ 900 →
      (∀ h' tk', (∀ b o, b ≠ dx → s.heap.get? b = some o → h'.get? b = some o) → h'.Ns1 dx (stored fs us m0) → Q .next { s with heap := h', toks := tk' }) →
      wpAny (model prog w) A (execs sts env) Q E s := by
  induction hst with
  | nil =>
    intro us m0 nl s hl _ _ _ _ _ _ hn _ _ hq
    refine wpAny_execs_nil ?_
    obtain ⟨hp, g, d, t, os⟩ := s
    cases us with
    | nil => exact hq hp t (fun _ _ _ e => e) hn
    | cons _ _ => cases hl
  | @cons f fs sts p1 p2 p3 p4 hst ih =>
    intro us m0 nl s hl hloc hv hno X hx hL hn hw hz hq
    cases us with
    | nil => cases hl
    | cons u us =>
      refine wpAny_execs_cons (plainObj_wpAny_Assign_Attribute ?_)
      refine ldS hk (hloc f (List.mem_cons_self ..)).1 hL (hv (f, u) (List.mem_cons_self ..)) (hloc f (List.mem_cons_self ..)).2 (ldS hk hself hL hms (by decide) ?_)
      obtain ⟨oD, esD, epD, hoD, hdD, _⟩ := hn.count hw
      refine set_plain X (ox := { cls := .ref C, dict := some dx, data := .fields fv }) (od := some oD) ⟨hx, rfl, rfl, hoD⟩ sa ?_
      simp only [List.length_cons] at hz
      refine OEX.osa_old X hx hn hw (by omega) hcd hm hh (hno f (List.mem_cons_self ..)) fun h' tk' k hn' => ?_
      show wpAny _ _ (execs _ _) _ _ _
      refine ih us (fun y => if y = f then some u else m0 y) (f :: nl) ⟨h', s.gens, s.drawn, tk', s.os⟩ (Nat.succ.inj hl) (fun g hg => hloc g (List.mem_cons_of_mem _ hg)) (fun p hp => hv p (List.mem_cons_of_mem _ hp))
        (fun g hg => hno g (List.mem_cons_of_mem _ hg)) (fun a o e => k a o (hKd a o e) (X a o e)) (k x _ (Ne.symm hdx) hx) ?_ hn' (Within.cons f u hw) (by simp only [List.length_cons]; omega) fun h2 tk2 k2 n2 => ?_
      · obtain ⟨o, es, ep, e1, e2⟩ := hL
        exact ⟨o, es, ep, k _ _ hLd e1, e2⟩
      · exact hq h2 tk2 (fun b o hb e => k2 b o hb (k b o hb e)) n2
/-- all stores, upon an exception that has no dict yet -/
theorem stores_all {cd : ClassData} (hcd : clsIn K C = some cd) (hm : HandSPX.refsVE cd.mro = true) (hh : cd.hasDict = true) (sa : findIn K (.ref C) "__setattr__" = some (some (.builtin "object.__setattr__")))
    {env : Env} (hk : env.scope.kind = .function) (hself : env.kindOf "self" = some .local) {x : Addr} {fv : Array Value} {mL : Str → Option Value} {Q : Flow → Shared → Prop} (hms : mL "self" = some (.ref x)) (hLx : env.locals ≠ x) (hKx : ∀ a o, K.lookup a = some o → a ≠ x)
    {f : Str} {fs : List Str} {sts : List Stmt} (hst : Stores (f :: fs) sts) (us : List Value) (s : Shared) (hl : us.length = (f :: fs).length) (hloc : ∀ g ∈ f :: fs, env.kindOf g = some .local ∧ (g == ("__debug__" : Str)) = false) (hv : ∀ p ∈ (f :: fs).zip us, mL p.1 = some p.2)
    (hno : ∀ g ∈ f :: fs, findIn K (.ref C) g = some none) (X : K.In s.heap) (hx : s.heap.get? x = some { cls := .ref C, data := .fields fv }) (hL : s.heap.Ns env.locals mL) (hz : fs.length ≤ 800)
    (hq : ∀ h' tk' dx, (∀ b o, b ≠ x → s.heap.get? b = some o → h'.get? b = some o) → s.heap.objs.size ≤ dx → dx ≠ x → h'.get? x = some { cls := .ref C, dict := some dx, data := .fields fv } → h'.Ns1 dx (stored (f :: fs) us fun _ => none) → Q .next { s with heap := h', toks := tk' }) :
    wpAny (model prog w) A (execs sts env) Q E s := by
  cases hst with
  | cons p1 p2 p3 p4 hst =>
    cases us with
    | nil => cases hl
    | cons u us =>
      refine wpAny_execs_cons (plainObj_wpAny_Assign_Attribute ?_)
      refine ldS hk (hloc f (List.mem_cons_self ..)).1 hL (hv (f, u) (List.mem_cons_self ..)) (hloc f (List.mem_cons_self ..)).2 (ldS hk hself hL hms (by decide) ?_)
      refine set_plain X (ox := { cls := .ref C, data := .fields fv }) (od := none) ⟨hx, rfl, rfl, trivial⟩ sa ?_
      refine HandSPX.exc_osa X hx hcd hm hh (hno f (List.mem_cons_self ..)) fun h' tk' dx k hbig hne hx' hn' => ?_
      show wpAny _ _ (execs _ _) _ _ _
      have old : ∀ {b : Addr} {o : Obj}, s.heap.get? b = some o → b ≠ dx := fun {b o} e => Nat.ne_of_lt (Nat.lt_of_lt_of_le (Heap.lt_size e) hbig)
      have hL' : h'.Ns env.locals mL := by
        obtain ⟨o, es, ep, e1, e2⟩ := hL
        exact ⟨o, es, ep, k _ _ hLx e1, e2⟩
      refine stores_old hcd hm hh sa hk hself hms hne (by obtain ⟨o, es, ep, e1, e2⟩ := hL; exact old e1) (fun a o e => old (X a o e)) hst us (fun y => if y = f then some u else none) [f] ⟨h', s.gens, s.drawn, tk', s.os⟩ (Nat.succ.inj hl)
        (fun g hg => hloc g (List.mem_cons_of_mem _ hg)) (fun p hp => hv p (List.mem_cons_of_mem _ hp)) (fun g hg => hno g (List.mem_cons_of_mem _ hg)) (fun a o e => k a o (hKx a o e) (X a o e)) hx' hL' hn' ?_ (by simp only [List.length_cons, List.length_nil]; omega) fun h2 tk2 k2 n2 => ?_
      · intro y hy
        by_cases e : y = f
        · rw [e]; exact List.mem_cons_self ..
        · exact absurd (if_neg e) hy
      · exact hq h2 tk2 dx (fun b o hb e => k2 b o (old e) (k b o hb e)) hbig hne (k2 x _ (Ne.symm hne) hx') n2

/-- __init__ upon a fresh exception -/
theorem init_walk {f : Str} (T : ExT prog K mg C fI P B S (f :: fs)) {s : Shared} {x t0 : Addr} {us : List Value} (X : K.In s.heap) (hlim : s.heap.NoLimit) (hG : s.heap.Ns mainGlobals mg) (hB : s.heap.Ns builtinsNs mb) (hBB : ∀ y : Str, y ≠ "__name__" → mb y = bootBuiltins y)
    (hx : s.heap.get? x = some (HandSPX.excO C t0)) (hKx : ∀ a o, K.lookup a = some o → a ≠ x) (hl : us.length = (f :: fs).length) (hz : fs.length ≤ 800) (hroom : A.depth < recursionLimit)
    (hq : ∀ h' tk dx, ExEnd s.heap h' x C dx (stored (f :: fs) us fun _ => none) → R (.ok (.ret .none)) { s with heap := h', toks := tk }) :
    codeAny (model prog w) A (.call (.ref fI) ⟨.ref x :: us, []⟩) R s := by
  obtain ⟨oc, od, osl, kV, doc, pm, an, ct, cc, cda, qual, vs, file, tf, ccl, cl, cdd, cld, ccs, csl, ho, hcd, hcode, hvs, hfile, hcell⟩ := T.fn
  obtain ⟨nm, q, N, bs, bm, sn, sub, ab, col, dd, k0, k1, k2, k3, k5, hC, hbm⟩ := T.cls
  obtain ⟨m, j, p0, p1, p2, p3, p4, p5, sts, hBd, hst, hml, hsw, hev⟩ := T.txt.body
  obtain ⟨ar, har, hars⟩ := T.txt.par
  have hcl : clsIn K C = some { name := nm, bases := bs, mro := .ref C :: bm, ns := N, qualname := q, hasDict := true, slotNames := sn, subclasses := sub, abstract := ab, collection := col, hasDel := false } := by unfold clsIn; rw [hC] <;> rfl
  have hbind := fun s => T.txt.bind s qual [("__class__", cc)] kV doc pm an (.ref cda) ct (.ref x) us hl
  refine ks_codeAny_call_defAt (fd := fnX "__init__" qual P B S [("__class__", cc)] .none kV doc pm an (.ref cda) ct) (body := B) (binds := (("self" : Str), .ref x) :: (f :: fs).zip us) hroom (X _ _ ho) rfl hlim (codeRec_of X hcd) rfl (hbind s) T.txt.ncell (fun y hy => ?_) (fun h₀ hns hk => ?_) T.txt.co T.txt.gen T.txt.kd
  · rcases List.mem_cons.mp hy with e | hy
    · rw [e]; exact T.txt.lself
    · exact (T.txt.lf _ (List.of_mem_zip (a := y.1) (b := y.2) hy).1).2.1
  have X₀ : K.In h₀ := X.keeps hk
  have szL : s.heap.objs.size < h₀.objs.size := hns.lt
  have ndk : ((("self" : Str), Value.ref x) :: (f :: fs).zip us).map (·.1) = ("self" : Str) :: (f :: fs) := by
    rw [List.map_cons, List.map_fst_zip (Nat.le_of_eq hl.symm)]
  have nodup : (((("self" : Str), Value.ref x) :: (f :: fs).zip us).map (·.1)).Nodup := by
    rw [ndk]
    exact List.nodup_cons.mpr ⟨fun z => (T.txt.lf _ z).1 rfl, T.txt.nd⟩
  have mall : ∀ p ∈ (("self" : Str), Value.ref x) :: (f :: fs).zip us, ((("self" : Str), Value.ref x) :: (f :: fs).zip us).reverse.lookup p.1 = some p.2 := lookup_rev nodup
  have mself := mall _ (List.mem_cons_self ..)
  have mf : ∀ p ∈ (f :: fs).zip us, ((("self" : Str), Value.ref x) :: (f :: fs).zip us).reverse.lookup p.1 = some p.2 := fun p hp => mall p (List.mem_cons_of_mem _ hp)
  generalize hm : (fun y => ((("self" : Str), Value.ref x) :: (f :: fs).zip us).reverse.lookup y) = mL at hns
  have mself' : mL "self" = some (.ref x) := by rw [← hm]; exact mself
  have mf' : ∀ p ∈ (f :: fs).zip us, mL p.1 = some p.2 := fun p hp => by rw [← hm]; exact mf p hp
  obtain ⟨pl, hev1⟩ := hev (callEnv (fnX "__init__" qual P B S [("__class__", cc)] .none kV doc pm an (.ref cda) ct) s.heap.objs.size fI)
  obtain ⟨hi, hs⟩ := hsw (callEnv (fnX "__init__" qual P B S [("__class__", cc)] .none kV doc pm an (.ref cda) ct) s.heap.objs.size fI) rfl
  rw [hBd]
  have neL : ∀ {b : Addr} {o : Obj}, s.heap.get? b = some o → b ≠ s.heap.objs.size := fun {b o} e => Nat.ne_of_lt (Heap.lt_size e)
  have hx₀ := hk _ _ hx
  refine ks_wpAt_execs_cons (ks_wpAt_Expr_any (ks_wpAt_MethodCall ?_ hev1) hi hs)
  refine ks_wpAt_super_base (env := callEnv (fnX "__init__" qual P B S [("__class__", cc)] .none kV doc pm an (.ref cda) ct) s.heap.objs.size fI) T.txt.lsup T.txt.lcls (by decide) rfl (X₀ _ _ ho) rfl har rfl (X₀ _ _ hcode) rfl hvs hfile T.top ?_
  have lcl : (callEnv (fnX "__init__" qual P B S [("__class__", cc)] .none kV doc pm an (.ref cda) ct) s.heap.objs.size fI).cells.lookup ("__class__" : Str) = some cc := by
    show List.lookup ("__class__" : Str) [(("__class__" : Str), cc)] = some cc
    simp [List.lookup]
  refine ks_loadName_global T.txt.kd T.txt.lsup (loadGlobal_builtin (env := callEnv (fnX "__init__" qual P B S [("__class__", cc)] .none kV doc pm an (.ref cda) ct) s.heap.objs.size fI) (hG.keeps hk) T.noS (hB.keeps hk) ((hBB _ (by decide +kernel)).trans (by first | boot_by_name | rfl | kernel_rfl)) ⟨rfl, ?_⟩)
  refine wpAny_loadName_free T.txt.kd T.txt.lcls lcl ⟨_, X₀ _ _ hcell, rfl⟩ ?_
  rw [hars]
  refine wpAny_loadName_local T.txt.kd T.txt.lself hns mself' ?_
  refine ks_wpAny_isType_cls (X₀ _ _ hC) rfl ⟨rfl, ?_⟩
  have mroC : mroIn K C (.ref C) = some true := by
    unfold mroIn
    rw [hcl, Option.bind_some]
    simp
  refine ks_wpAny_call_super (X₀ _ _ hC) rfl hx₀ rfl (fun c e => by cases e) (looks_mroIn X₀ mroC) fun h1 hso k1 => ?_
  have X₁ : K.In h1 := X₀.keeps k1
  have hx₁ := k1 _ _ hx₀
  have I₁ : PySem.W.InstAt h1 x (HandSPX.excO C t0) C none := ⟨hx₁, rfl, rfl, trivial⟩
  have hI : Looks (model prog w) h1 (isInstance (.ref x) (.type "ValueError")) true := I₁.type.andThen (looks_subIn X₁ T.subV)
  have hxC : x ≠ C := fun z => by
    rw [z, X₁ _ _ hC] at hx₁
    cases hx₁
  have hsup := T.sup
  unfold ks_superIn at hsup
  rw [hcl] at hsup
  refine kxs_getMethod kxs_ValueError hso (looks_opaque X₁ T.st) (l₀ := .ref C :: bm) ?_ rfl X₁ hsup hI hxC (by decide) ?_
  · exact fun A Q E s k q => wpAny_bind ((looks_clsIn X₁ hcl) A _ E s k (wpAny_pure q))
  have hu : (h1.push (kxs_mw "ValueError.__init__" x)).get? h1.objs.size = some (kxs_mw "ValueError.__init__" x) := Heap.get?_push_at rfl rfl
  have k2 : ∀ b o, h1.get? b = some o → (h1.push (kxs_mw "ValueError.__init__" x)).get? b = some o := fun b o e => Heap.get?_push_of_some _ e
  have he : ∀ env : Env, starEach [.Constant (.str m) j p3] env = (false, eval (.Constant (.str m) j p3) env) :: starEach [] env := fun _ => rfl
  rw [he]
  refine kxs_callWith (i := "ValueError.__init__") (x := x) (by rfl) (evalArgs_plain ?_)
  refine spliced_cons (Constant_str (k := j) (pos := p3) (spliced_nil ⟨hu, ?_⟩))
  refine call_wrap (k2 _ _ (X₁ _ _ hC)) (k2 _ _ hx₁) hu (by show 1 ≤ sizeLine; decide) fun h3 t1 k3 hx₃ => ?_
  have kk : ∀ b o, b ≠ x → h₀.get? b = some o → h3.get? b = some o := fun b o hb e => k3 b o hb (k2 b o (k1 b o e))
  have hLx : s.heap.objs.size ≠ x := (neL hx).symm
  refine wpAt_of_wpAny ?_
  refine stores_all hcl (show HandSPX.refsVE (.ref C :: bm) = true from hbm) rfl T.sa (env := callEnv (fnX "__init__" qual P B S [("__class__", cc)] .none kV doc pm an (.ref cda) ct) s.heap.objs.size fI) T.txt.kd T.txt.lself mself' hLx hKx hst us _ hl (fun g hg => (T.txt.lf g hg).2) mf' T.noF (fun a o e => kk a o (hKx a o e) (X₀ a o e)) hx₃ ?_ hz fun h4 tk4 dx k4 hbig hne hx4 hn4 => ?_
  · obtain ⟨o, es, ep, e1, e2⟩ := hns
    exact ⟨o, es, ep, kk _ _ hLx e1, e2⟩
  · refine hq h4 tk4 dx ⟨fun b o hb e => k4 b o hb (kk b o hb (hk b o e)), ⟨t1, hx4⟩, ?_, hne, hn4⟩
    obtain ⟨o, es, ep, e1, e2⟩ := hns
    exact Nat.le_trans (Nat.le_of_lt (Heap.lt_size (kk _ _ hLx e1))) hbig

/-- a made exception -/
structure ExNew (h h' : Heap) (e C d : Addr) (m : Str → Option Value) : Prop where
  keep : ∀ b o, h.get? b = some o → h'.get? b = some o
  new : h.objs.size ≤ e
  obj : ∃ t1 : Addr, h'.get? e = some { cls := .ref C, dict := some d, data := .fields #[.ref t1, .none, .none, .none, .bool false, .none] }
  dbig : h.objs.size ≤ d
  dne : d ≠ e
  ns : h'.Ns1 d m
theorem ex_made {f : Str} (T : ExT prog K mg C fI P B S (f :: fs)) {s : Shared} {us : List Value} (X : K.In s.heap) (hlim : s.heap.NoLimit) (hG : s.heap.Ns mainGlobals mg) (hB : s.heap.Ns builtinsNs mb) (hBB : ∀ y : Str, y ≠ "__name__" → mb y = bootBuiltins y)
    (hl : us.length = (f :: fs).length) (hz : fs.length ≤ 800) (hroom : A.depth + 1 < recursionLimit)
    (hq : ∀ h' tk e d, ExNew s.heap h' e C d (stored (f :: fs) us fun _ => none) → R (.ok (.ret (.ref e))) { s with heap := h', toks := tk }) :
    codeAny (model prog w) A (.call (.ref C) ⟨us, []⟩) R s := by
  obtain ⟨nm, q, N, bs, bm, sn, sub, ab, col, dd, k0, k1, k2, k3, k5, hC, hbm⟩ := T.cls
  obtain ⟨hp, g, dr, tk, os⟩ := s
  have k : ∀ b o, hp.get? b = some o → ((hp.push (kdv_tup us)).push (HandSPX.excO C hp.objs.size)).get? b = some o := fun b o e => Heap.get?_push_of_some _ (Heap.get?_push_of_some _ e)
  have hget : ((hp.push (kdv_tup us)).push (HandSPX.excO C hp.objs.size)).get? (hp.objs.size + 1) = some (HandSPX.excO C hp.objs.size) := by heap_get
  have old : ∀ {b : Addr} {o : Obj}, hp.get? b = some o → b ≠ hp.objs.size + 1 := fun {b o} e => Nat.ne_of_lt (Nat.lt_succ_of_lt (Heap.lt_size e))
  have hlen : us.length ≤ sizeLine := by
    rw [hl, sizeLine_eq, List.length_cons]
    omega
  refine HandSPX.call_own F.excBase_ValueError (fun Y => HandSPX.refsVE_contains Y bm hbm) (X _ _ hC) (looks_findIn X T.iC) (fun self => PySem.W.bind_fn X self T.tI) hlen ?_
  refine init_walk (s := ⟨(hp.push (kdv_tup us)).push (HandSPX.excO C hp.objs.size), g, dr, tk, os⟩) T (X.keeps k) (hlim.keeps k) (hG.keeps k) (hB.keeps k) hBB hget (fun a o e => old (X a o e)) hl hz ?_ fun h' tk' dx Z => ?_
  · show A.depth + 1 < recursionLimit
    exact hroom
  · have z : hp.objs.size + 1 + 1 ≤ dx := by
      have z1 := Z.dbig
      rw [Heap.size_push, Heap.size_push] at z1
      exact z1
    exact ⟨rfl, hq h' tk' (hp.objs.size + 1) dx ⟨fun b o e => Z.keep b o (old e) (k b o e), Nat.le_succ _, Z.obj, Nat.le_trans (Nat.le_trans (Nat.le_succ _) (Nat.le_succ _)) z, Z.dne, Z.ns⟩⟩
theorem stored_at : ∀ (fs : List Str) (us : List Value) (m : Str → Option Value) (y : Str), fs.Nodup → us.length = fs.length → stored fs us m y = ((fs.zip us).lookup y).or (m y)
  | [], [], m, y, _, _ => by simp [stored]
  | f :: fs, u :: us, m, y, hn, hl => by
    rw [List.nodup_cons] at hn
    unfold stored
    rw [stored_at fs us _ y hn.2 (Nat.succ.inj hl), List.zip_cons_cons, List.lookup_cons]
    by_cases e : y = f
    · subst e
      rw [lookup_no (by rw [List.map_fst_zip (Nat.le_of_eq (Nat.succ.inj hl).symm)]; exact hn.1)]
      simp
    · rw [if_neg e, beq_false_of_ne e]
theorem relO_zip : ∀ {fs : List Str} {vs : List L2.V} {us : List Value} (y : Str), L2.Vals vs us → L2.RelO ((fs.zip vs).lookup y) ((fs.zip us).lookup y)
  | [], _, _, y, _ => by simp [L2.RelO]
  | f :: fs, _, _, y, .nil => by simp [L2.RelO]
  | f :: fs, _, _, y, .cons r t => by
    rw [List.zip_cons_cons, List.zip_cons_cons, List.lookup_cons, List.lookup_cons]
    cases y == f with
    | true => exact r
    | false => exact relO_zip y t
end
end Mine

namespace Mine
open PySem PySem.Spec PyProof.Rows L2
section
variable {X : Cx} {C fI : Addr} {P : Arguments} {B : List Stmt} {S : Scope} {fs : List Str}
/-- C(e, ..): what is raised carries the fields -/
def tMkEx (C : Addr) (fs : List Str) (ta : TA) : L2.St → Hp → XK → Prop := fun σ H Q => ta σ H fun vs H1 => vs.length = fs.length ∧ ∀ d, H1 d = none → Q (.ref C) (some d) (upd H1 d (.xd (fs.zip vs)))
theorem pmk_ex {x f : Str} {a : Expr} {es : List Expr} {ta : TA} {p pos : Pos} {k : Nat} (T : ExT X.prog X.K X.mg C fI P B S (f :: fs)) (hz : fs.length ≤ 800) (hr : Room k X.A) (hm : X.mg x = some (.ref C)) (kC : PySem.W.keepIn X.K (.ref C) = true)
    (exC : PySem.W.subIn X.K (.ref C) (.type "BaseException") = some true) (tyC : PySem.W.typeIn X.K (.ref C) = some (.type "type")) (ha : PA X (a :: es) ta) (hg : Gl X x := by rfl)
    (he : starEach (a :: es) X.env = (false, eval a X.env) :: starEach es X.env := by rfl) (hpl : (backTo pos (starEach es X.env)).any (·.1) = false := by rfl) (hdb : (x == ("__debug__" : Str)) = false := by decide) :
    PMk X (.Call (.Name x p) (a :: es) [] pos) (tMkEx C (f :: fs) ta) := by
  intro pins s σ H Q I h
  refine wpAny_Call_Name_kw (ld_glob I hg hm ?_ hdb)
  refine PySem.W.callWith_K (h₀ := X.base) I.ok.mod.kin kC (thn (ha.run pos pins s σ H _ I h) fun us s1 hh => ?_) he hpl
  obtain ⟨vs, H1, I1, r1, hl, q1⟩ := hh
  refine ⟨I1.kIn, ?_⟩
  obtain ⟨mb, hb1, hb2⟩ := I1.mod.blt
  have hlim := I1.nolimit
  refine wpAny_call (ex_made T I1.kIn hlim (I1.mod.glob.keeps I1.bk) (hb1.keeps I1.bk) hb2 (r1.length.symm.trans hl) hz (by have := hr.dp; omega) fun h' tk' e d M => ?_)
  obtain ⟨hp, g, dr, tk, os⟩ := s1
  show MkP X pins σ Q (.ref e) ⟨h', g, dr, tk', os⟩
  obtain ⟨t1, hoe⟩ := M.obj
  obtain ⟨G', g1, g2⟩ := restrict h' fun b => decide (b ≠ e)
  have gk : ∀ b, b ≠ e → G'.get? b = h'.get? b := fun b hb => g1 b (decide_eq_true hb)
  have ge : G'.get? e = none := g2 e (by simp)
  have old : ∀ b o, hp.get? b = some o → G'.get? b = some o := fun b o q => (gk b (Nat.ne_of_lt (Nat.lt_of_lt_of_le (Heap.lt_size q) M.new))).trans (M.keep b o q)
  have hul : us.length = (f :: fs).length := r1.length.symm.trans hl
  have ob : ObjOk X.prog X.w (upd H1 d (.xd ((f :: fs).zip vs))) G' d (.xd ((f :: fs).zip vs)) := ⟨_, M.ns.at (fun o q => (gk d M.dne).trans q), fun y => by
    show RelO _ (stored (f :: fs) us (fun _ => none) y)
    rw [stored_at _ _ _ y T.txt.nd hul, Option.or_none]
    exact relO_zip y r1⟩
  have J : Inv X pins σ (upd H1 d (.xd ((f :: fs).zip vs))) ⟨G', g, dr, tk', os⟩ := I1.laid (t' := tk') old M.dbig ob
  refine ⟨e, _, _, ⟨G', g, dr, tk', os⟩, _, .ref C, some d, rfl, J, fun b o q => ?_, ge, hoe, ⟨rfl, rfl⟩, rfl, rfl, ?_, rfl, I1.bare, raises_own exC tyC, q1 d (I1.hok.fresh M.dbig)⟩
  · by_cases hb : b = e
    · have q' : G'.get? b = some o := q
      rw [hb, ge] at q'
      cases q'
    · exact (gk b hb).symm.trans q
  · rw [upd_ne (Ne.symm M.dne)]
    exact I1.hok.fresh M.new
end
end Mine

set_option Elab.async false
set_option linter.all false
set_option maxRecDepth 100000
set_option maxHeartbeats 2000000
namespace Mine
open PySem PySem.Spec PyProof.Rows L2

/-! ### a caught error that is kept as a value -/
/-- at a: an exception of the class cls, its own dict d -/
def ExV (cls : Value) (d : Option Addr) (a : Addr) : HO := .ext fun h => ∃ (oe : Obj) (vs : Array Value), h.get? a = some oe ∧ Zc cls d oe ∧ oe.data = .fields vs
theorem exV_ok {P : Program} {w : World} {H : Hp} {h : Heap} {a : Addr} {cls : Value} {d : Option Addr} {oe : Obj} {vs : Array Value} (e : h.get? a = some oe) (z : Zc cls d oe) (dd : oe.data = .fields vs) : ObjOk P w H h a (ExV cls d a) :=
  ⟨⟨oe, vs, e, z, dd⟩, ⟨oe, e⟩, fun _ _ ⟨o, v, q, r⟩ k => ⟨o, v, k o q, r⟩⟩
theorem exV_at {P : Program} {w : World} {H : Hp} {h : Heap} {a : Addr} {cls : Value} {d : Option Addr} (hok : HOk P w H h) (e : H a = some (ExV cls d a)) : ∃ (oe : Obj) (vs : Array Value), h.get? a = some oe ∧ Zc cls d oe ∧ oe.data = .fields vs := by
  have x : ObjOk P w H h a (.ext fun h => ∃ (oe : Obj) (vs : Array Value), h.get? a = some oe ∧ Zc cls d oe ∧ oe.data = .fields vs) := hok a _ e
  exact x.1
theorem exV_ne {cls : Value} {d : Option Addr} {a : Addr} : (∀ x, ExV cls d a ≠ .own x) ∧ (∀ xs, ExV cls d a ≠ .tup xs) ∧ (∀ o u, ExV cls d a ≠ .frz o u) ∧ ∀ ps, ExV cls d a ≠ .tbl ps := by
  refine ⟨fun x z => ?_, fun x z => ?_, fun o u z => ?_, fun x z => ?_⟩ <;> (unfold ExV at z; cases z)
section
variable {X : Cx} {pins : List (Addr × Obj)} {σ : L2.St} {H : Hp} {s : Shared}
/-- an object that came behind the entry and was not told is told from now on -/
theorem track {a : Addr} {o : HO} (I : Inv X pins σ H s) (hex : X.ex = []) (n0 : X.s_0.heap.get? a = none) (na : H a = none) (nL : a ≠ X.env.locals) (nC : ∀ x c, X.env.cells.lookup x = some c → c ≠ a) (nP : ∀ p ∈ X.pn ++ pins, p.1 ≠ a)
    (ok : ObjOk X.prog X.w (upd H a o) s.heap a o) : Inv X pins σ (upd H a o) s := by
  have ne : ∀ {b : Addr} {u : HO}, H b = some u → b ≠ a := fun {b u} e => fun z => by
    rw [z, na] at e
    cases e
  have nb : ∀ {b : Addr} {u : Obj}, X.s_0.heap.get? b = some u → b ≠ a := fun {b u} e => fun z => by
    rw [z, n0] at e
    cases e
  refine ⟨I.ok, I.os, I.bare, ⟨I.base.keep, I.base.slot, fun b u e n hx => ?_, I.base.there, fun b xs e => ?_, fun b u v e => ?_, fun b ps e => ?_⟩, I.loc, I.cell, ?_, fun x c e => ?_, fun p hp => ?_, fun b u e => ?_, I.len⟩
  · rw [upd_ne (nb e)]
    exact I.base.free b u e n hx
  · have q := I.base.tups b xs e
    rw [upd_ne (ne q)]
    exact q
  · have q := I.base.frzs b u v e
    rw [upd_ne (ne q)]
    exact q
  · obtain ⟨m, q⟩ := I.base.tbls b ps e
    exact ⟨m, by rw [upd_ne (ne q)]; exact q⟩
  · rw [upd_ne (Ne.symm nL)]
    exact I.free
  · rw [upd_ne (nC x c e)]
    exact I.freeC x c e
  · obtain ⟨q1, q2, q3⟩ := I.pin p hp
    exact ⟨q1, by rw [upd_ne (nP p hp)]; exact q2, q3⟩
  · by_cases hb : b = a
    · rw [hb, upd_same] at e
      cases e
      rw [hb]
      exact ok
    · rw [upd_ne hb] at e
      refine (I.hok b u e).stay (fun c v _ q => q) (fun c q => ?_) fun c xs q => ?_
      · rw [upd_ne (ne q)]
        exact q
      · rw [upd_ne (ne q)]
        exact q
end

/-- what a clause 'except x as n' wishes whose suite keeps the error: behind it the error at a is told -/
def wVal (K : PySem.W.Frag) (c : Value) (n : Nat) (i : Nat) (ts : Addr → TS) (Wout : WX) (D : Ends) : WX := fun cls d σ H =>
  ∃ b, PySem.W.exmOne K cls c = some b ∧ (b = true → σ.length = n → ∀ a, H a = none → ts a { nx := fun σ' H' => H' a = none → D.nx (σ'.set i none) (upd H' a (ExV cls d a)), rt := fun _ _ => False } (σ.set i (some (.ref a))) H) ∧
    (b = false → Wout cls d σ H)

section
variable {X : Cx} {x n : Str} {c : Value} {i : Nat} {body suite : List Stmt} {b₀ : Stmt} {np pos pos' : Pos} {tb : WX → TS} {ts : Addr → TS} {Wout : WX}
theorem ps_try_val (hs : X.stack = X.env :: X.outer) (hf : X.env.frame = some X.env.locals) (hex : X.ex = []) (hN : X.N.Nodup) (hi : X.N[i]? = some n) (hln : X.env.kindOf n = some .local) (hc : Names X x c) (tk : Takes X Wout)
    (hb : ∀ (W : WX) (pn : List (Addr × Obj)) (xe : Value → Shared → Prop), Takes (X.tr pn xe) W → PassesOwn (model X.prog X.w) X.A X.env xe → PSs (X.tr pn xe) body (tb W))
    (hsu : ∀ (a : Addr) (q : Addr × Obj) (pn : List (Addr × Obj)), PSs (X.suite a (q :: pn)) (b₀ :: suite) (ts a)) :
    PS X (.Try body [.ExceptHandler (some (.Name x np)) (some n) (b₀ :: suite) pos'] [] [] pos) (fun D σ H => tb (wVal X.K c X.N.length i ts Wout D) D σ H) := by
  refine ⟨fun pins s σ H D I h => ?_⟩
  have ok := I.ok
  have hfr : X.A.frames = some (X.env :: X.outer) := by rw [ok.frames, hs]
  have hloc : Loc X.env.scope n := .inl hln
  refine wpAny_Try_except ?_
  refine wpAny_mono ((hb (wVal X.K c X.N.length i ts Wout D) (X.pn ++ pins) (fun e s₁ => wpAny (model X.prog X.w) X.A (noteFrame e X.env) (fun _ s₂ => wpAny (model X.prog X.w) X.A (setFlight e none) (fun _ s₃ =>
    wpAny (model X.prog X.w) X.A (handleBy e X.env [.ExceptHandler (some (.Name x np)) (some n) (b₀ :: suite) pos']) (SP X pins D) X.xe s₃) X.xe s₂) X.xe s₁) (fun u s' xx => ?_) PassesOwn.looking).run [] s σ H D (I.toTry _) h) (fun f s1 hsp => ?_) (fun e s1 he => he)
  · obtain ⟨a, B, sI, pins', σ', H', cls, d, rfl, J', nb, up, sky, na, os, ag, b, hb1, hyes, hno⟩ := xx
    have J : Inv X pins σ' H' sI := J'.ofTry ok
    have sky' : Sky B (X.env :: X.outer) a (Zc cls d) X.env.locals s'.heap := by rw [← hs]; exact sky
    show wpAny (model X.prog X.w) X.A (noteFrame (.ref a) X.env) _ _ _
    refine Sky.land Zc.steady hfr hf sky' fun h3 fl3 up3 => ?_
    have J3 : Inv X pins σ' H' { s' with heap := h3 } := J.landed nb fl3.1 (up.trans up3) os ag
    obtain ⟨oe3, vs3, he3, hz3, hd3⟩ := fl3.there
    have notFr : ∀ {h : Heap} {o : Obj} {vs : Array Value}, h.FunFrames B (X.env :: X.outer) → h.get? a = some o → o.data = .fields vs → a ∉ frs (X.env :: X.outer) := fun {h o vs} ff e dd hm => by
      obtain ⟨_, o', e', hnf⟩ := ff.mem hm
      rw [e] at e'
      cases e'
      exact hnf _ dd
    have nfr := notFr fl3.2.2.1 he3 hd3
    have nL : a ≠ X.env.locals := fun z => nfr (List.mem_filterMap.mpr ⟨X.env, List.mem_cons_self, by rw [hf, z]⟩)
    have nF : a ∉ X.fs := fun hm => by
      obtain ⟨e, he, q⟩ := List.mem_filterMap.mp hm
      exact nfr (List.mem_filterMap.mpr ⟨e, List.mem_cons_of_mem _ he, q⟩)
    -- it is not among what stood ahead of it
    have nI : sI.heap.get? a = none := by
      cases q : sI.heap.get? a with
      | none => rfl
      | some o =>
        have z := nb a o q (by rw [hs]; exact nfr)
        rw [fl3.2.1] at z
        cases z
    have n0 : X.s_0.heap.get? a = none := by
      cases q : X.s_0.heap.get? a with
      | none => rfl
      | some o =>
        obtain ⟨o', z⟩ := J.base.there a o q (by rw [hex]; simp)
        rw [nI] at z
        cases z
    have nC : ∀ y cc, X.env.cells.lookup y = some cc → cc ≠ a := fun y cc e z => by
      obtain ⟨v, o, q, _⟩ := J.cell y cc e
      rw [z, nI] at q
      cases q
    have nP : ∀ p ∈ X.pn ++ pins, p.1 ≠ a := fun p hp z => by
      have q := (J.pin p hp).1
      rw [z, nI] at q
      cases q
    have S3 := J3.suite he3 hd3 na nL nF
    refine wpAny_handleBy_cons (codeAny_handlers_test ?_) (by intro q; cases q)
    have LT : PySem.W.Looks (model X.prog X.w) h3 (typeOf (.ref a)) cls := fun A Q E s k q => wpAny_typeOf_ref (k _ _ he3) (by rw [hz3.1]; exact q)
    have LM := PySem.W.exm_one (M := model X.prog X.w) (J3.kIn) LT hb1
    have test : ∀ {Q : Value → Shared → Prop} {E : Value → Shared → Prop}, Q c { s' with heap := h3 } → wpAny (model X.prog X.w) (X.A.mark (some (.ref a))) (eval (.Name x np) X.env) Q E { s' with heap := h3 } := fun {Q E} q => by
      obtain ⟨hg, hdbg, hm | ⟨hm, hv, hnn⟩⟩ := hc
      · exact ld_glob (X := X.suite a ((a, oe3) :: (X.pn ++ pins))) S3 hg hm q hdbg
      · exact ld_blt (X := X.suite a ((a, oe3) :: (X.pn ++ pins))) S3 hg hm hv q hnn hdbg
    refine test (LM.here ?_)
    cases b with
    | true =>
      refine codeAny_handlers_suite_as ?_
      refine HandSPX.lands_againZ fl3 fun h4 fl4 up4 => ?_
      have J4 : Inv X pins σ' H' { s' with heap := h4 } := J.landed nb fl4.1 ((up.trans up3).trans up4) os ag
      obtain ⟨oe4, vs4, he4, hz4, hd4⟩ := fl4.there
      have S4 := J4.suite he4 hd4 na nL nF
      refine store_ok (X := X.suite a ((a, oe4) :: (X.pn ++ pins))) (v := .ref a) S4 hN hi hloc rfl (fun s5 S5 => ?_) (.inr hln)
      refine wpAny_mono ((hsu a (a, oe4) (X.pn ++ pins)).run [] s5 _ H' _ S5 (hyes rfl J.len a na)) (fun f s6 hsp => ?_) (fun _ _ z => False.elim z)
      cases f with
      | next =>
        obtain ⟨σ6, H6, S6, q6⟩ := hsp
        refine gone_ok (X := X.suite a ((a, oe4) :: (X.pn ++ pins))) S6 hN hi hln fun s7 S7 => ?_
        obtain ⟨p1, p2, _⟩ := S7.pin (a, oe4) (List.mem_append_left _ List.mem_cons_self)
        exact ⟨_, _, track (S7.unsuite ok) hex n0 p2 nL nC nP (exV_ok p1 hz4 hd4), q6 p2⟩
      | brk =>
        obtain ⟨σ6, H6, S6, q6⟩ := hsp
        exact False.elim q6
      | cont =>
        obtain ⟨σ6, H6, S6, q6⟩ := hsp
        exact False.elim q6
      | ret u =>
        obtain ⟨v6, σ6, H6, S6, r6, q6⟩ := hsp
        exact False.elim q6
    | false =>
      show wpAny _ X.A (handleBy (.ref a) X.env []) _ _ _
      refine wpAny_handleBy_nil ?_
      obtain ⟨k1, k2, k3, oe, vs, T, oT, ts', he, hz, hd, h1, hr⟩ := id fl3
      unfold PySem.passOn
      refine wpAny_bind (wpAny_field he hd h1 ?_)
      rw [if_neg (show ¬ ((Value.ref T == Value.none) = true) from by simp)]
      have fin : wpAny (model X.prog X.w) X.A (setFlight (.ref a) X.env.frame) (fun _ s4 => wpAny (model X.prog X.w) X.A (throw (.ref a) : Sem Flow) (SP X pins D) X.xe s4) X.xe { s' with heap := h3 } := by
        rw [hf]
        refine HandSPX.setFlight_upZ fl3 fun h4 hh4 up4 => wpAny_throw (tk _ _ ?_)
        exact ⟨a, B, sI, pins, σ', H', cls, d, rfl, J, nb, (up.trans up3).trans up4, .inr (.inr (by rw [hs]; exact hh4)), na, os, ag, hno rfl⟩
      first
        | exact wpAny_bind (wpAny_pure (wpAny_bind fin))
        | exact wpAny_bind fin
  · cases f with
    | next =>
      obtain ⟨σ', H', J', q⟩ := hsp
      exact wpAny_execs_nil ⟨σ', H', J'.ofTry ok, q⟩
    | brk =>
      obtain ⟨σ', H', J', q⟩ := hsp
      exact ⟨σ', H', J'.ofTry ok, q⟩
    | cont =>
      obtain ⟨σ', H', J', q⟩ := hsp
      exact ⟨σ', H', J'.ofTry ok, q⟩
    | ret u =>
      obtain ⟨v, σ', H', J', r, q⟩ := hsp
      exact ⟨v, σ', H', J'.ofTry ok, r, q⟩
end

/-! ### isinstance of it, its fields -/
/-- what a class of errors must say -/
structure ExC (K : PySem.W.Frag) (C : Addr) : Prop where
  cl : (PySem.W.clsIn K C).isSome = true
  ga : PySem.W.findIn K (.ref C) "__getattribute__" = some (some (.builtin "BaseException.__getattribute__"))
  gg : PySem.W.findIn K (.ref C) "__getattr__" = some none
  sub : PySem.W.subIn K (.ref C) (.type "BaseException") = some true
  hd : PySem.W.hasDictIn K C = true
  ca : PySem.W.findIn K (.ref C) "__class__" = some (some (.builtin "object.__class__"))
  sp : PySem.W.specialIn K (.builtin "object.__class__") "__get__" = some (some (.builtin "getset_descriptor.__get__"))
  tk : PySem.W.takesIn K (.builtin "object.__class__") = some true
  mo : PySem.W.mroIn K C (.type "object") = some true
/-- isinstance(x, c), x such an error, c a class -/
def rIsV (K : PySem.W.Frag) : List V → Hp → VK → Prop := fun xs H Q => ∃ (a C : Addr) (d : Option Addr) (c : V) (cv : Value) (b : Bool), xs = [.ref a, c] ∧ H a = some (ExV (.ref C) d a) ∧ (∀ dd, d = some dd → ∃ fs, H dd = some (.xd fs)) ∧ ExC K C ∧ ClsV c cv ∧ PySem.W.kitOne K (.ref C) cv = some b ∧ Q (.bl b) H
theorem call_isV {X : Cx} : CallR X (.builtin "isinstance") (rIsV X.K) := by
  intro pins s σ H xs us Q I r h
  obtain ⟨a, C, d, c, cv, b, rfl, hA, hD, T, hcv, e, q⟩ := h
  obtain ⟨u1, u2, rfl, r1, r2⟩ := vals2 r
  cases (show u1 = Value.ref a from r1)
  have ec := hcv.eq r2
  subst ec
  obtain ⟨oe, vs, ho, hz, hd⟩ := exV_at I.hok hA
  obtain ⟨od, J⟩ : ∃ od, PySem.W.InstAt s.heap a oe C od := by
    obtain ⟨h1, h2⟩ := hz
    have hn : PySem.W.notCls oe = true := by
      unfold PySem.W.notCls
      rw [hd] <;> rfl
    cases d with
    | none => exact ⟨none, ho, h1, hn, by rw [h2]; trivial⟩
    | some dd =>
      obtain ⟨fs, hx⟩ := hD dd rfl
      obtain ⟨mA, hns, _⟩ := (show ObjOk X.prog X.w H s.heap dd (.xd fs) from I.hok dd _ hx)
      obtain ⟨od, ho', _⟩ := lookIn_ns hns
      exact ⟨some od, ho, h1, hn, by rw [h2]; exact ho'⟩
  exact PySem.W.kia_one (PySem.W.kitx_exc T.cl T.ga T.gg T.sub T.ca T.sp T.tk T.mo) I.kIn J e (fun z => nomatch z) fun tk => ⟨.bl b, H, I.tok tk, rfl, q⟩
/-- x.n -/
def tXv (K : PySem.W.Frag) (n : Str) (te : TE) : TE := fun σ H Q => te σ H fun x H1 => ∃ (a C dd : Addr) (fs : List (Str × V)) (v : V), x = .ref a ∧ H1 a = some (ExV (.ref C) (some dd) a) ∧ ExC K C ∧ PySem.W.findIn K (.ref C) n = some none ∧ H1 dd = some (.xd fs) ∧ fs.lookup n = some v ∧ Q v H1
theorem pe_xv {X : Cx} {e : Expr} {te : TE} {pos : Pos} {n : Str} (he : PE X e te) (hb : attributeBase e n X.env (eval e X.env) = eval e X.env := by rfl) : PE X (.Attribute e n pos) (tXv X.K n te) := by
  refine ⟨fun pins s σ H Q I h => ?_⟩
  refine attr_of hb (thn (he.run pins s σ H _ I h) fun u s1 hh => ?_)
  obtain ⟨x, H1, I1, rx, a, C, dd, fs, v, ex, hA, T, hno, ea, l, q⟩ := hh
  subst ex
  obtain rfl : u = Value.ref a := rx
  obtain ⟨oe, vs, ha, hz, hd⟩ := exV_at I1.hok hA
  obtain ⟨mA, hns, hr⟩ := (show ObjOk X.prog X.w H1 s1.heap dd (.xd fs) from I1.hok dd _ ea)
  obtain ⟨od, ho, hl⟩ := lookIn_ns hns
  obtain ⟨u, hu, ru⟩ := RelO.some_of (v := v) (o := mA n) (by rw [← l]; exact hr n)
  have J : PySem.W.InstAt s1.heap a oe C (some od) := ⟨ha, hz.1, by unfold PySem.W.notCls; rw [hd] <;> rfl, by rw [hz.2]; exact ho⟩
  exact HandSPX.exc_get I1.kIn J T.ga T.gg T.sub (PySem.W.findObj_own T.hd hno rfl (by rw [hl, hu])) (handed_of ru) ⟨v, H1, I1.tok _, ru, q⟩
end Mine

set_option Elab.async false
set_option linter.all false
set_option maxRecDepth 100000
set_option maxHeartbeats 2000000
namespace Mine
open PySem PySem.Spec PyProof.Rows L2

/-! ### what stays -/
/-- all that H tells, but at S, is told by H' -/
def Keep (S : List Addr) (H H' : Hp) : Prop := ∀ b o, H b = some o → b ∉ S → H' b = some o
theorem Keep.of {S : List Addr} {H H' : Hp} (s : Same H H') : Keep S H H' := fun b o e _ => s b o e
theorem Keep.same {H H' : Hp} (k : Keep [] H H') : Same H H' := fun b o e => k b o e (by simp)
theorem Keep.trans {S : List Addr} {H H1 H2 : Hp} (a : Keep S H H1) (b : Keep S H1 H2) : Keep S H H2 := fun c o e n => b c o (a c o e n) n
theorem Keep.refl {S : List Addr} (H : Hp) : Keep S H H := fun _ _ e _ => e
theorem same_upd {H : Hp} {p : Addr} {o : HO} (h : H p = none) : Same H (upd H p o) := fun b u e => by
  rw [upd_ne (ne_of_none e h)]
  exact e
theorem snew {H H' : Hp} {p : Addr} {o : HO} (s : Same H H') (h : H' p = none) : Same H (upd H' p o) := s.trans (same_upd h)
/-- a new object may change -/
theorem smut {H H' : Hp} {p : Addr} {o : HO} (s : Same H H') (h : H p = none) : Same H (upd H' p o) := fun b u e => by
  rw [upd_ne (ne_of_none e h)]
  exact s b u e
theorem stup {K : PySem.W.Frag} {H H' : Hp} {a : Addr} {xs : List V} (e : Same H H') (h : SqT K H a xs) : SqT K H' a xs := by
  rcases h with (h | ⟨o, h⟩) | h
  · exact .inl (.inl (e _ _ h))
  · exact .inl (.inr ⟨o, e _ _ h⟩)
  · exact .inr h

/-! ### a def by its name -/
structure Df (P : Program) (w : World) (K : PySem.W.Frag) (mg : Str → Option Value) (base : Heap) (CX : CXT) (k : Nat) (x : Str) (ps : List Str) (ds : List Value) (sp : Sp) : Prop where
  ex : ∃ f fd, mg x = some (.ref f) ∧ PySem.W.keepIn K (.ref f) = true ∧ Binds K fd ps ds ∧ FnOk P w K mg base CX k f fd ps sp
theorem Df.mono {P : Program} {w : World} {K : PySem.W.Frag} {mg : Str → Option Value} {base : Heap} {CX : CXT} {j k : Nat} {x : Str} {ps : List Str} {ds : List Value} {sp : Sp} (D : Df P w K mg base CX j x ps ds sp) (h : j ≤ k) : Df P w K mg base CX k x ps ds sp := by
  obtain ⟨f, fd, a, b, c, d⟩ := D.ex
  exact ⟨f, fd, a, b, c, d.mono h⟩
theorem Df.imp {P : Program} {w : World} {K : PySem.W.Frag} {mg : Str → Option Value} {base : Heap} {CX : CXT} {k : Nat} {x : Str} {ps : List Str} {ds : List Value} {sp sp' : Sp} (D : Df P w K mg base CX k x ps ds sp) (h : ∀ vs H Q E, sp' vs H Q E → sp vs H Q E) : Df P w K mg base CX k x ps ds sp' := by
  obtain ⟨f, fd, a, b, c, d⟩ := D.ex
  exact ⟨f, fd, a, b, c, d.imp h⟩
section
variable {X : Cx} {CX : CXT} {k : Nat} {x : Str} {ps : List Str} {sp : Sp} {E : XK} {e : Expr} {es : List Expr} {t : TA} {p pos : Pos} {ds : List Value} {dvs : List V}
theorem pcall (D : Df X.prog X.w X.K X.mg X.base CX k x ps ds sp) (hr : Room k X.A) (hd : Vals dvs ds) (hx : Passes CX X E) (ha : PA X (e :: es) t) (hg : Gl X x := by rfl) (he : starEach (e :: es) X.env = (false, eval e X.env) :: starEach es X.env := by rfl) (hpl : (backTo pos (starEach es X.env)).any (·.1) = false := by rfl) (hdb : (x == ("__debug__" : Str)) = false := by decide) :
    PE X (.Call (.Name x p) (e :: es) [] pos) (tCall sp dvs E t) := by
  obtain ⟨f, fd, hm, hk, hb, F⟩ := D.ex
  exact pe_call F hr hg hm hk hb hd hx ha hdb he hpl
end

/-! ### constants of the module -/
section
variable {X : Cx} {x : Str} {pos : Pos}
theorem pgi {i : Int} (h : ∃ t, X.mg x = some (.int i t)) (hg : Gl X x := by rfl) (hd : (x == ("__debug__" : Str)) = false := by decide) : PE X (.Name x pos) (tC (.int i)) := by
  obtain ⟨t, e⟩ := h
  exact pe_glob hg e ⟨t, rfl⟩ hd
theorem pgs {z : Str} (h : ∃ t, X.mg x = some (.str z t)) (hg : Gl X x := by rfl) (hd : (x == ("__debug__" : Str)) = false := by decide) : PE X (.Name x pos) (tC (.str z)) := by
  obtain ⟨t, e⟩ := h
  exact pe_glob hg e ⟨t, rfl⟩ hd
theorem pgr {a : Addr} (h : X.mg x = some (.ref a)) (hg : Gl X x := by rfl) (hd : (x == ("__debug__" : Str)) = false := by decide) : PE X (.Name x pos) (tC (.ref a)) := pe_glob hg h rfl hd
end

/-! ### data of any make: the empty dict, too -/
mutual
inductive Rp (K : PySem.W.Frag) (H : Hp) : V → PyData → Prop
  | non : Rp K H .non .none
  | bl (b : Bool) : Rp K H (.bl b) (.bool b)
  | int (i : Int) : Rp K H (.int i) (.int i)
  | str (x : Str) : x.length ≤ 1000 → Rp K H (.str x) (.str x)
  | lst {a : Addr} {xs : List V} {ds : List PyData} : SqL K H a xs → RpL K H xs ds → ds.length ≤ 10000 → Rp K H (.ref a) (.list ds)
  | tup {a : Addr} {xs : List V} {ds : List PyData} : SqT K H a xs → RpL K H xs ds → ds.length ≤ 10000 → Rp K H (.ref a) (.tuple ds)
  | dic {a : Addr} : H a = some (.dK []) → Rp K H (.ref a) (.dict [])
inductive RpL (K : PySem.W.Frag) (H : Hp) : List V → List PyData → Prop
  | nil : RpL K H [] []
  | cons {v : V} {vs : List V} {d : PyData} {ds : List PyData} : Rp K H v d → RpL K H vs ds → RpL K H (v :: vs) (d :: ds)
end
section
variable {K : PySem.W.Frag} {H H' : Hp}
mutual
theorem Rp.same (s : Same H H') : ∀ (d : PyData) (v : V), Rp K H v d → Rp K H' v d
  | .none, _, h => by cases h; exact .non
  | .bool b, _, h => by cases h; exact .bl b
  | .int i, _, h => by cases h; exact .int i
  | .str x, _, h => by cases h with | str _ hx => exact .str x hx
  | .list ds, _, h => by cases h with | lst a b c => exact .lst (s.seq a) (RpL.same s ds _ b) c
  | .tuple ds, _, h => by cases h with | tup a b c => exact .tup (stup s a) (RpL.same s ds _ b) c
  | .dict _, _, h => by cases h with | dic a => exact .dic (s _ _ a)
theorem RpL.same (s : Same H H') : ∀ (ds : List PyData) (vs : List V), RpL K H vs ds → RpL K H' vs ds
  | [], _, h => by cases h; exact .nil
  | d :: ds, _, h => by cases h with | cons a b => exact .cons (Rp.same s d _ a) (RpL.same s ds _ b)
end
theorem RpL.length : ∀ {vs : List V} {ds : List PyData}, RpL K H vs ds → vs.length = ds.length
  | _, _, .nil => rfl
  | _, _, .cons _ t => congrArg Nat.succ (RpL.length t)
theorem RpL.get : ∀ {vs : List V} {ds : List PyData} {i : Nat} {v : V}, RpL K H vs ds → vs[i]? = some v → ∃ d, ds[i]? = some d ∧ Rp K H v d
  | _, _, _, _, .nil, e => by simp at e
  | _, _, 0, _, .cons r _, e => by simp at e; subst e; exact ⟨_, rfl, r⟩
  | _, _, i + 1, v, .cons _ t, e => by
    obtain ⟨d, h1, h2⟩ := RpL.get (i := i) (v := v) t (by simpa using e)
    exact ⟨d, by simpa using h1, h2⟩
theorem RpL.get' : ∀ {vs : List V} {ds : List PyData} {i : Nat} {d : PyData}, RpL K H vs ds → ds[i]? = some d → ∃ v, vs[i]? = some v ∧ Rp K H v d
  | _, _, _, _, .nil, e => by simp at e
  | _, _, 0, _, .cons r _, e => by simp at e; subst e; exact ⟨_, rfl, r⟩
  | _, _, i + 1, v, .cons _ t, e => by
    obtain ⟨d, h1, h2⟩ := RpL.get' (i := i) (d := v) t (by simpa using e)
    exact ⟨d, by simpa using h1, h2⟩
theorem RpL.app : ∀ {vs ws : List V} {ds es : List PyData}, RpL K H vs ds → RpL K H ws es → RpL K H (vs ++ ws) (ds ++ es)
  | _, _, _, _, .nil, h => h
  | _, _, _, _, .cons a b, h => .cons a (RpL.app b h)
theorem RpL.drop : ∀ {vs : List V} {ds : List PyData} (n : Nat), RpL K H vs ds → RpL K H (vs.drop n) (ds.drop n)
  | _, _, 0, h => h
  | _, _, _ + 1, .nil => .nil
  | _, _, n + 1, .cons _ t => RpL.drop n t
/-- the name of the type of data -/
def tyName : PyData → String
  | .none => "NoneType"
  | .bool _ => "bool"
  | .int _ => "int"
  | .str _ => "str"
  | .list _ => "list"
  | .tuple _ => "tuple"
  | .dict _ => "dict"
theorem Rp.ty {v : V} {d : PyData} (h : Rp K H v d) : TyX K H v (.type (tyName d)) := by
  cases h with
  | non => exact .base .non
  | bl b => exact .base (.bl b)
  | int i => exact .base (.int i)
  | str x _ => exact .base (.str x)
  | lst a _ _ =>
    rcases a with (a | ⟨o, a⟩) | ⟨o, its, n, hk, hc, _⟩
    · exact .base (.lst a)
    · exact .base (.frz a)
    · exact .kList hk hc
  | tup a _ _ =>
    rcases a with (a | ⟨o, a⟩) | ⟨o, its, n, hk, hc, _⟩
    · exact .base (.tup a)
    · exact .fTuple a
    · exact .kTuple hk hc
  | dic a => exact .base (.dK a)
end
theorem kit_str (d : PyData) {K : PySem.W.Frag} : PySem.W.kitOne K (.type (tyName d)) (.type "str") = some (match d with | .str _ => true | _ => false) := by
  cases d with
  | none => exact kit_ty (show kitB "NoneType" "str" = some false by decide +kernel)
  | bool _ => exact kit_ty (show kitB "bool" "str" = some false by decide +kernel)
  | int _ => exact kit_ty (show kitB "int" "str" = some false by decide +kernel)
  | str _ => exact kit_ty (show kitB "str" "str" = some true by decide +kernel)
  | list _ => exact kit_ty (show kitB "list" "str" = some false by decide +kernel)
  | tuple _ => exact kit_ty (show kitB "tuple" "str" = some false by decide +kernel)
  | dict _ => exact kit_ty (show kitB "dict" "str" = some false by decide +kernel)
theorem kit_two {K : PySem.W.Frag} {t : String} (h1 : kitB t "list" = some false) (h2 : kitB t "tuple" = some false) : PySem.W.kitAny K (.type t) [.type "list", .type "tuple"] = some false :=
  kitAny_cons (b := false) (kit_ty h1) (fun _ => kitAny_cons (b := false) (kit_ty h2) (fun _ => rfl) (fun z => by cases z)) (fun z => by cases z)
def isSeqD : PyData → Bool
  | .list _ => true
  | .tuple _ => true
  | _ => false
theorem kit_seq (d : PyData) {K : PySem.W.Frag} : PySem.W.kitAny K (.type (tyName d)) [.type "list", .type "tuple"] = some (isSeqD d) := by
  cases d with
  | none => exact kit_two (show kitB "NoneType" "list" = some false by decide +kernel) (show kitB "NoneType" "tuple" = some false by decide +kernel)
  | bool _ => exact kit_two (show kitB "bool" "list" = some false by decide +kernel) (show kitB "bool" "tuple" = some false by decide +kernel)
  | int _ => exact kit_two (show kitB "int" "list" = some false by decide +kernel) (show kitB "int" "tuple" = some false by decide +kernel)
  | str _ => exact kit_two (show kitB "str" "list" = some false by decide +kernel) (show kitB "str" "tuple" = some false by decide +kernel)
  | dict _ => exact kit_two (show kitB "dict" "list" = some false by decide +kernel) (show kitB "dict" "tuple" = some false by decide +kernel)
  | list _ => exact kitAny_cons (b := true) (kit_ty (show kitB "list" "list" = some true by decide +kernel)) (fun z => by cases z) (fun _ => rfl)
  | tuple _ => exact kitAny_cons (b := false) (kit_ty (show kitB "tuple" "list" = some false by decide +kernel)) (fun _ => kitAny_cons (b := true) (kit_ty (show kitB "tuple" "tuple" = some true by decide +kernel)) (fun z => by cases z) (fun _ => rfl)) (fun z => by cases z)

/-! ### tests whose answer is known -/
theorem ite_of {c : Bool} {A B : Prop} (b : Bool) (hc : c = b) (h : if b = true then A else B) : if c = true then A else B := by
  rw [hc]
  exact h

/-! ### a comprehension that makes an item of each -/
theorem wipe1 {σ : L2.St} {k : Nat} {x : V} : wipe (List.set (wipe σ [k]) k (some x)) [k] = wipe σ [k] := by
  simp [wipe, List.set_set]
section
variable {K : PySem.W.Frag} {a D : Addr} {xs : List V} {te : TE} {k : Nat} {σ : L2.St} {H1 : Hp} {Q : Hp → Prop}
/-- what a comprehension's reading wants behind its walk J is come to -/
def LcEnd (J : It) (g : TG) (tt : TT) (te : TE) (vs : List Nat) (σ : L2.St) (H1 : Hp) (D : Addr) (Q : Hp → Prop) : Prop :=
  ∃ W : Nat → Nat → Hp → Prop, (∃ m, W 0 m (upd H1 D (.lst []))) ∧ ∀ i m H, W i m H →
    (J.stop i H ∧ Q H) ∨ (J.go i H ∧ ∃ Nx : Hp → Prop, (∀ H', Nx H' → ∃ m', m' < m ∧ W (i + 1) m' H') ∧ ∀ x H', J.yld i H x H' → g x (wipe σ vs) H' fun σ2 H2 => wipe σ2 vs = wipe σ vs ∧ tt σ2 H2 fun b H3 =>
      if b = true then te σ2 H3 fun y H4 => ∃ acc, H4 D = some (.lst acc) ∧ acc.length < sizeLine ∧ Nx (upd H4 D (.lst (acc ++ [y]))) else Nx H3)
theorem lcMap {J : It} {n : Nat} {G : Hp → Prop} {Y : Nat → Hp → V → Hp → Prop} (w : Walk J n G Y) (hn : n ≤ 100000) (hG : ∀ H, Same H1 H → G H) (F : Nat → V → Hp → Prop) (nD : H1 D = none)
    (hF : ∀ i y H H', (∀ b o, b ≠ D → H b = some o → H' b = some o) → F i y H → F i y H')
    (he : ∀ i x H H', i < n → Same H1 H → (∃ ys, H D = some (.lst ys)) → Y i H x H' → ∀ R : VK, (∀ y H2, Same H H2 → F i y H2 → R y H2) → te (List.set (wipe σ [k]) k (some x)) H' R)
    (hd : ∀ ys H, ys.length = n → (∀ i y, ys[i]? = some y → F i y H) → H D = some (.lst ys) → Same H1 H → Q H) : LcEnd J (gName k) tYes te [k] σ H1 D Q := by
  refine lc_it w (Pv := fun i H => Same H1 H ∧ ∃ ys, H D = some (.lst ys) ∧ ys.length = i ∧ i ≤ n ∧ ∀ j y, ys[j]? = some y → F j y H) ⟨snew (Same.refl H1) nD, [], upd_same, rfl, Nat.zero_le _, fun j y q => absurd q (by simp)⟩ (fun i H _ p => hG H p.1) ?_ ?_
  · rintro i x H H' hi ⟨s, ys, hD, hl, hin, hf⟩ hY
    refine ⟨wipe1, ?_⟩
    unfold tYes
    dsimp only
    rw [if_pos rfl]
    refine he i x H H' hi s ⟨ys, hD⟩ hY _ fun z H2 s2 f2 => ⟨ys, s2 _ _ hD, by rw [hl, sizeLine_eq]; omega, smut (Same.trans s s2) nD, ys ++ [z], upd_same, by rw [List.length_append, hl]; rfl, hi, fun j y e => ?_⟩
    have up : ∀ b o, b ≠ D → H2 b = some o → upd H2 D (.lst (ys ++ [z])) b = some o := fun b o hb e => by
      rw [upd_ne hb]
      exact e
    by_cases hj : j < ys.length
    · rw [List.getElem?_append_left hj] at e
      exact hF j y H _ (fun b o hb e => up b o hb (s2 b o e)) (hf j y e)
    · rw [List.getElem?_append_right (by omega)] at e
      obtain ⟨hj2, e2⟩ := List.getElem?_eq_some_iff.mp e
      simp only [List.length_cons, List.length_nil] at hj2
      have ej : j = i := by omega
      subst ej
      have ez : z = y := by
        have q : j - ys.length = 0 := by omega
        rw [q] at e
        exact Option.some.inj e
      subst ez
      exact hF j z H2 _ up f2
  · rintro H ⟨s, ys, hD, hl, hin, hf⟩
    exact hd ys H hl hf hD s
end
end Mine

set_option Elab.async false
set_option linter.all false
set_option maxRecDepth 100000
set_option maxHeartbeats 2000000
namespace Mine
open PySem PySem.Spec PyProof.Rows L2
/-! ### a list or a tuple -/
def SqX (K : PySem.W.Frag) (H : Hp) (a : Addr) (xs : List V) : Prop := SqL K H a xs ∨ SqT K H a xs
/-- it stands still -/
def Sty (K : PySem.W.Frag) (H1 H : Hp) (a : Addr) (xs : List V) : Prop := (SqL K H1 a xs → SqL K H a xs) ∧ (SqT K H1 a xs → SqT K H a xs)
theorem Sty.of {K : PySem.W.Frag} {H1 H : Hp} {a : Addr} {xs : List V} (s : Same H1 H) : Sty K H1 H a xs := ⟨fun h => s.seq h, fun h => stup s h⟩
def iLT (K : PySem.W.Frag) (tl : TE) : TI := fun σ H R => tl σ H fun x H1 => ∃ a xs, x = .ref a ∧ SqX K H1 a xs ∧ ∀ J, Walk J xs.length (fun H => Sty K H1 H a xs) (YAt xs) → R J H1
theorem pi_lt {X : Cx} {tg l : Expr} {tl : TE} (hl : PE X l tl) : PI X tg l (iLT X.K tl) := by
  refine ⟨fun pins s σ H R I h => ?_⟩
  refine thn (hl.run pins s σ H _ I h) fun v s1 ⟨x, H1, I1, r1, q1⟩ => ?_
  obtain ⟨a, xs, e, hq, q⟩ := q1
  subst e
  cases r1
  rcases hq with hq | hq
  · obtain ⟨its, rv, p, hz⟩ := I1.list hq
    refine wpAny_pyIter_list p.isList ?_
    refine ⟨s1.heap.objs.size, [s1.heap.objs.size], _, _, H1, rfl, I1.kept (t' := s1.toks) fun b o e => Heap.get?_push_of_some _ e, turn_list a _, ⟨_, Heap.get?_push_size _ rfl, rfl, rfl⟩, fun b hb => ?_, q _ (walk_list.mono (fun H h => h.1 hq) fun _ _ _ _ _ _ y => y)⟩
    have e : b = s1.heap.objs.size := by simpa using hb
    subst e
    exact I1.fpOk (Nat.le_refl _) (I1.hok.fresh (Nat.le_refl _))
  · obtain ⟨its, rv, p, hz⟩ := I1.tuple hq
    refine wpAny_pyIter_tuple (show s1.heap.IsTuple a its.toArray from p) ?_
    refine ⟨s1.heap.objs.size, [s1.heap.objs.size], _, _, H1, rfl, I1.kept (t' := s1.toks) fun b o e => Heap.get?_push_of_some _ e, turn_tuple a _, ⟨_, Heap.get?_push_size _ rfl, rfl, rfl⟩, fun b hb => ?_, q _ (walk_tup.mono (fun H h => h.2 hq) fun _ _ _ _ _ _ y => y)⟩
    have e : b = s1.heap.objs.size := by simpa using hb
    subst e
    exact I1.fpOk (Nat.le_refl _) (I1.hok.fresh (Nat.le_refl _))
/-- x[i] of it -/
def rIxX (K : PySem.W.Frag) : R2 := fun x y H Q => ∃ p xs i v, x = .ref p ∧ y = .int i ∧ SqX K H p xs ∧ atI xs i = some v ∧ Q v H
theorem IxR.imp {X : Cx} {r r' : R2} (h : IxR X r) (k : ∀ x y H Q, r' x y H Q → r x y H Q) : IxR X r' := by
  intro value slice pins s σ H x y v u Q I rx ry hq hs
  exact h value slice pins s σ H x y v u Q I rx ry (k _ _ _ _ hq) hs
theorem ix_x {X : Cx} : IxR X (rIxX X.K) := IxR.imp (ix_list.or ix_tup) fun x y H Q h => by
  obtain ⟨p, xs, i, v, e1, e2, hs | hs, hi, q⟩ := h
  · exact .inl ⟨p, xs, i, v, e1, e2, hs, hi, q⟩
  · exact .inr ⟨p, xs, i, v, e1, e2, hs, hi, q⟩
/-- x[lo:hi] of it, not the whole of it: a new list or tuple -/
def rSlX (K : PySem.W.Frag) : V → Option Int → Option Int → Hp → VK → Prop := fun x lo hi H Q => ∃ a xs, x = .ref a ∧ SqX K H a xs ∧ ¬ (HT.sIx xs.length 0 lo = 0 ∧ HT.sIx xs.length xs.length hi = xs.length) ∧
  ∀ p o, H p = none → (o = .lst (cutV xs lo hi) ∨ o = .tup (cutV xs lo hi)) → Q (.ref p) (upd H p o)
theorem SlR.imp {X : Cx} {r r' : V → Option Int → Option Int → Hp → VK → Prop} (h : SlR X r) (k : ∀ x lo hi H Q, r' x lo hi H Q → r x lo hi H Q) : SlR X r' := by
  intro pins s σ H x v vl vu lo hi sl Q I rx hs pl pu q
  exact h pins s σ H x v vl vu lo hi sl Q I rx hs pl pu (k _ _ _ _ _ q)
theorem sl_x {X : Cx} : SlR X (rSlX X.K) := SlR.imp (sl_list.or sl_tup) fun x lo hi H Q h => by
  obtain ⟨a, xs, e, hs | hs, hn, q⟩ := h
  · exact .inl ⟨a, xs, e, hs, fun p hp => q p _ hp (.inl rfl)⟩
  · exact .inr ⟨a, xs, e, hs, hn, fun p hp => q p _ hp (.inr rfl)⟩
theorem SqX.new {K : PySem.W.Frag} {H : Hp} {p : Addr} {o : HO} {xs : List V} (h : o = .lst xs ∨ o = .tup xs) : SqX K (upd H p o) p xs := by
  rcases h with rfl | rfl
  · exact .inl (SqL.of upd_same)
  · exact .inr (SqT.of upd_same)
theorem SqX.same {K : PySem.W.Frag} {H H' : Hp} {a : Addr} {xs : List V} (s : Same H H') (h : SqX K H a xs) : SqX K H' a xs := h.elim (fun h => .inl (s.seq h)) fun h => .inr (stup s h)
theorem SqX.len {K : PySem.W.Frag} {H : Hp} {a : Addr} {xs : List V} (h : SqX K H a xs) : LenV K (.ref a) H xs.length := h.elim (fun h => .inl ⟨xs, h, rfl⟩) fun h => .inr ⟨xs, h, rfl⟩

/-! ### data that are lists or tuples -/
def items : PyData → List PyData
  | .list ds => ds
  | .tuple ds => ds
  | _ => []
theorem Rp.seq {K : PySem.W.Frag} {H : Hp} {v : V} {d : PyData} (h : Rp K H v d) (hs : isSeqD d = true) : ∃ a xs, v = .ref a ∧ SqX K H a xs ∧ RpL K H xs (items d) ∧ (items d).length ≤ 10000 ∧ xs.length = (items d).length := by
  cases h with
  | lst a b c => exact ⟨_, _, rfl, .inl a, b, c, b.length⟩
  | tup a b c => exact ⟨_, _, rfl, .inr a, b, c, b.length⟩
  | _ => cases hs
theorem Rp.of_seq {K : PySem.W.Frag} {H : Hp} {a : Addr} {xs : List V} {d : PyData} (h : Rp K H (.ref a) d) (hx : SqX K H a xs) (hs : isSeqD d = true) : True := trivial
mutual
/-- how deep data are -/
def dp : PyData → Nat
  | .list ds => 1 + dpL ds
  | .tuple ds => 1 + dpL ds
  | _ => 0
def dpL : List PyData → Nat
  | [] => 0
  | d :: r => max (dp d) (dpL r)
end
theorem dpL_get : ∀ {ds : List PyData} {i : Nat} {d : PyData}, ds[i]? = some d → dp d ≤ dpL ds
  | [], i, d, h => by simp at h
  | e :: r, 0, d, h => by
    simp at h
    subst h
    exact Nat.le_max_left _ _
  | e :: r, i + 1, d, h => by
    have := dpL_get (ds := r) (i := i) (d := d) (by simpa using h)
    exact Nat.le_trans this (Nat.le_max_right _ _)
theorem dp_items {d : PyData} (h : isSeqD d = true) : dp d = 1 + dpL (items d) := by
  cases d with
  | list ds => exact dp.eq_1 ds
  | tuple ds => exact dp.eq_2 ds
  | _ => cases h
/-- an expression that is never reached -/
theorem pe_nv {X : Cx} {e : Expr} : PE X e (fun _ _ _ => False) := ⟨fun _ _ _ _ _ _ h => h.elim⟩
/-- [] of a list or a tuple, a written place -/
theorem atI_at {α : Type} {xs : List α} {v : α} (j : Nat) (h : xs[j]? = some v) : atI xs (j : Int) = some v := atI_nat h
theorem dec_str {x y : Str} : decide (V.str x = V.str y) = decide (x = y) := by
  by_cases h : x = y
  · rw [h, decide_eq_true rfl, decide_eq_true rfl]
  · rw [decide_eq_false h, decide_eq_false (fun z => h (by cases z; rfl))]
/-! ### a list and [] -/
def rNil (K : PySem.W.Frag) (neg : Bool) : R2 := fun x y H Q => ∃ a b xs, x = .ref a ∧ y = .ref b ∧ SqL K H a xs ∧ SqL K H b [] ∧ Q (.bl (if neg then !xs.isEmpty else xs.isEmpty)) H
section
variable {X : Cx}
theorem isEmpty_size {xs : List V} {its : List Value} (r : Vals xs its) : (its.toArray.size != (([] : List Value).toArray).size) = !xs.isEmpty := by
  have e := r.length
  cases xs with
  | nil => cases r; rfl
  | cons x xs =>
    cases its with
    | nil => cases r
    | cons u us => rfl
theorem op_eq_nil (hu : X.A.units < cLine) : OpR X (compareOp .Eq) (rNil X.K false) := by
  intro pins s σ H x y v u Q I rx ry h
  obtain ⟨a, b, xs, rfl, rfl, ha, hb, q⟩ := h
  cases rx
  cases ry
  obtain ⟨its, r, pl, _⟩ := I.list ha
  obtain ⟨its2, r2, pl2, _⟩ := I.list hb
  cases r2
  have e := isEmpty_size r
  cases hx : xs.isEmpty with
  | false =>
    rw [hx] at e q
    exact SeqAt.RcAt.lists_lengths pl.isList pl2.isList e hu _ _ _ _ ⟨.bl false, H, I, rfl, q⟩
  | true =>
    rw [hx] at q
    obtain rfl : xs = [] := List.isEmpty_iff.mp hx
    cases r
    exact SeqAt.RcAt.lists (e := fun _ => true) pl.isList pl2.isList rfl hu (fun j h1 _ => by simp at h1) _ _ _ _ ⟨.bl true, H, I, rfl, q⟩
theorem op_ne_nil (hu : X.A.units < cLine) : OpR X (compareOp .NotEq) (rNil X.K true) := by
  intro pins s σ H x y v u Q I rx ry h
  obtain ⟨a, b, xs, rfl, rfl, ha, hb, q⟩ := h
  cases rx
  cases ry
  obtain ⟨its, r, pl, _⟩ := I.list ha
  obtain ⟨its2, r2, pl2, _⟩ := I.list hb
  cases r2
  have e := isEmpty_size r
  cases hx : xs.isEmpty with
  | false =>
    rw [hx] at e q
    exact SeqAt.RcNeAt.lists_lengths pl.isList pl2.isList e hu _ _ _ _ ⟨.bl true, H, I, rfl, q⟩
  | true =>
    rw [hx] at q
    obtain rfl : xs = [] := List.isEmpty_iff.mp hx
    cases r
    exact SeqAt.RcNeAt.lists (e := fun _ => true) pl.isList pl2.isList rfl hu (fun j h1 _ => by simp at h1) _ _ _ _ ⟨.bl false, H, I, rfl, q⟩
end
theorem Room.u {k : Nat} {A : Around} (h : Room k A) : A.units < cLine := by
  have := h.un
  omega
/-! ### tuples through a list's change -/
theorem stup_upd {K : PySem.W.Frag} {H : Hp} {t l : Addr} {xs : List V} {o u : HO} (h : SqT K H t xs) (hl : H l = some u) (hu : ∀ ys, u ≠ .tup ys) (hu2 : ∀ o ys, u ≠ .frz o ys) : SqT K (upd H l o) t xs := by
  rcases h with (h | ⟨ob, h⟩) | h
  · refine .inl (.inl ?_)
    rw [upd_ne (fun z => by rw [z, hl] at h; cases h; exact hu _ rfl)]
    exact h
  · refine .inl (.inr ⟨ob, ?_⟩)
    rw [upd_ne (fun z => by rw [z, hl] at h; cases h; exact hu2 _ _ rfl)]
    exact h
  · exact .inr h
/-! ### within a comprehension: K by its name -/
theorem ix_xb {X : Cx} {K : PySem.W.Frag} (h : X.K = K := by rfl) : IxR X (rIxX K) := by
  subst h
  exact ix_x
theorem pa_starb {X : Cx} {K : PySem.W.Frag} {e : Expr} {es : List Expr} {te : TE} {t : TA} {p : Pos} (he : PE X e te) (hr : PA X es t) (hs : starEach (.Starred e p :: es) X.env = (true, eval e X.env) :: starEach es X.env := by rfl) (h : X.K = K := by rfl) : PA X (.Starred e p :: es) (StX.tStar K te t) := by
  subst h
  exact StX.pa_star he hr hs
theorem sz (n : Nat) (h : n ≤ 1000 := by decide) : n ≤ sizeLine := by
  rw [sizeLine_eq]
  omega
/-! ### slices -/
theorem cut_from {xs : List V} {k : Nat} (h : k ≤ xs.length) : cutV xs (some (k : Int)) none = xs.drop k := by
  unfold cutV
  rw [HT.sIx_none, HT.sIx_nat, Nat.min_eq_left h]
  exact List.take_of_length_le (by rw [List.length_drop]; omega)
theorem cut_fromA {xs : List V} {k : Nat} : cutV xs (some (k : Int)) none = xs.drop k := by
  unfold cutV
  rw [HT.sIx_none, HT.sIx_nat, List.take_of_length_le (by rw [List.length_drop]; omega)]
  by_cases h : k ≤ xs.length
  · rw [Nat.min_eq_left h]
  · rw [Nat.min_eq_right (by omega), List.drop_length, List.drop_eq_nil_of_le (by omega)]
theorem cut1 {xs : List V} (h : 1 ≤ xs.length) : cutV xs (some 1) none = xs.drop 1 := cut_from (k := 1) h
theorem cut_to {xs : List V} {k : Nat} (h : k ≤ xs.length) : cutV xs none (some (k : Int)) = xs.take k := by
  unfold cutV
  rw [HT.sIx_none, HT.sIx_nat, Nat.min_eq_left h]
  simp
theorem cut_last {xs : List V} : cutV xs none (some (-1)) = xs.dropLast := by
  unfold cutV
  rw [HT.sIx_none, List.dropLast_eq_take]
  show List.take ((-1 + (xs.length : Int)).toNat - 0) (List.drop 0 xs) = _
  rw [List.drop_zero]
  congr 1
  omega
theorem cut_not {n : Nat} (h : 1 ≤ n) : ¬ (HT.sIx n 0 (some 1) = 0 ∧ HT.sIx n n none = n) := fun z => by
  have e := HT.sIx_nat n 0 1
  rw [Nat.min_eq_left h] at e
  have q : HT.sIx n 0 (some 1) = 1 := e
  rw [q] at z
  cases z.1
/-! ### all but some stands still -/
theorem Keep.sty {K : PySem.W.Frag} {S : List Addr} {H1 H : Hp} {a : Addr} {xs : List V} (k : Keep S H1 H) (h : a ∉ S) : Sty K H1 H a xs := by
  refine ⟨fun q => ?_, fun q => ?_⟩
  · rcases q with (q | ⟨o, q⟩) | q
    · exact .inl (.inl (k _ _ q h))
    · exact .inl (.inr ⟨o, k _ _ q h⟩)
    · exact .inr q
  · rcases q with (q | ⟨o, q⟩) | q
    · exact .inl (.inl (k _ _ q h))
    · exact .inl (.inr ⟨o, k _ _ q h⟩)
    · exact .inr q
theorem keep_upd {S : List Addr} {H1 H : Hp} {l : Addr} {o : HO} (k : Keep S H1 H) (h : l ∈ S) : Keep S H1 (upd H l o) := fun b u e n => by
  rw [upd_ne (fun z => n (by rw [z]; exact h))]
  exact k b u e n
theorem keep_same {S : List Addr} {H1 H H2 : Hp} (k : Keep S H1 H) (s : Same H H2) : Keep S H1 H2 := fun b u e n => s _ _ (k b u e n)
theorem call_isib {X : Cx} {K : PySem.W.Frag} (h : X.K = K := by rfl) : CallR X (.builtin "isinstance") (rIsi K) := by
  subst h
  exact call_isi
def isStrD : PyData → Bool
  | .str _ => true
  | _ => false
theorem kit_strD (d : PyData) {K : PySem.W.Frag} : PySem.W.kitOne K (.type (tyName d)) (.type "str") = some (isStrD d) := by
  cases d <;> exact kit_str _
/-! ### data in tuples alone -/
def TupKeep (H H' : Hp) : Prop := ∀ t xs, H t = some (.tup xs) → H' t = some (.tup xs)
theorem TupKeep.of {H H' : Hp} (s : Same H H') : TupKeep H H' := fun t xs e => s _ _ e
theorem TupKeep.lst {H : Hp} {l : Addr} {xs : List V} {o : HO} (h : H l = some (.lst xs)) : TupKeep H (upd H l o) := fun t ys e => by
  rw [upd_ne (fun z => by rw [z, h] at e; cases e)]
  exact e
theorem TupKeep.trans {A B C : Hp} (a : TupKeep A B) (b : TupKeep B C) : TupKeep A C := fun t xs e => b t xs (a t xs e)
def tupOf (H : Hp) : Hp := fun b => match H b with
  | some (.tup xs) => some (.tup xs)
  | _ => none
theorem tupOf_at {H : Hp} {b : Addr} {xs : List V} (h : H b = some (.tup xs)) : tupOf H b = some (.tup xs) := by
  unfold tupOf
  rw [h]
theorem tupOf_of {H : Hp} {b : Addr} {o : HO} (h : tupOf H b = some o) : ∃ xs, o = .tup xs ∧ H b = some (.tup xs) := by
  unfold tupOf at h
  split at h
  · rename_i xs e
    exact ⟨xs, (Option.some.inj h).symm, e⟩
  · cases h
theorem TupKeep.up {H H' : Hp} (k : TupKeep H H') : Same (tupOf H) (tupOf H') := fun b o e => by
  obtain ⟨xs, rfl, h⟩ := tupOf_of e
  exact tupOf_at (k _ _ h)
theorem tupOf_sub {H : Hp} : Same (tupOf H) H := fun b o e => by
  obtain ⟨xs, rfl, h⟩ := tupOf_of e
  exact h
theorem TupKeep.ins {H : Hp} {x C dx : Addr} {fs : List (Str × V)} {o : HO} (h : H x = some (.ins C dx fs)) : TupKeep H (upd H x o) := fun t ys e => by
  rw [upd_ne (fun z => by rw [z, h] at e; cases e)]
  exact e
theorem szlt (n : Nat) (h : n ≤ 1000 := by decide) : n < sizeLine := by
  rw [sizeLine_eq]
  omega
/-! ### another reading -/
theorem pimp {X : Cx} {e : Expr} {t : TE} (t' : TE) (he : PE X e t) (k : ∀ σ H Q, t' σ H Q → t σ H Q) : PE X e t' := ⟨fun pins s σ H Q I h => he.run pins s σ H Q I (k σ H Q h)⟩
theorem fmod_le {a b : Int} (h : 0 < b) : 0 ≤ a.fmod b ∧ a.fmod b < b := by
  rw [Int.fmod_eq_emod_of_nonneg _ (Int.le_of_lt h)]
  exact ⟨Int.emod_nonneg _ (by omega), Int.emod_lt_of_pos _ h⟩
theorem timp {X : Cx} {e : Expr} {t : TT} (t' : TT) (he : PT X e t) (k : ∀ σ H Q, t' σ H Q → t σ H Q) : PT X e t' := ⟨fun pins s σ H Q I h => he.run pins s σ H Q I (k σ H Q h)⟩
theorem pg_tupb {X : Cx} {K : PySem.W.Frag} {es : List Expr} {k : Nat} {t : TGs} {n : Nat} {pos : Pos} (hc : X.calm = true) (h : PGs X es t) (hK : X.K = K := by rfl) (hn : (assignEach es X.env).length = n := by rfl) (hst : (assignEach es X.env).findIdx? (·.1) = none := by rfl) : PG X (.Tuple es k pos) (gTup K n t) := by
  subst hK
  exact pg_tup hc h hn hst
theorem pe_joinb {X : Cx} {K : PySem.W.Frag} {o e : Expr} {to te : TE} {apos pos : Pos} (ho : PE X o to) (he : PE X e te) (hK : X.K = K := by rfl) (hs : starEach [e] X.env = [(false, eval e X.env)] := by rfl) (hbase : attributeBase o "join" X.env (eval o X.env) = eval o X.env := by rfl) (hline : (apos.endLine == pos.line) = true := by rfl) :
    PE X (.Call (.Attribute o "join" apos) [e] [] pos) (tM1 (fun x xs H Q => ∃ a p, ∃ ys : List Str, x = .str a ∧ xs = [.ref p] ∧ (SqL K H p (ys.map V.str) ∨ SqT K H p (ys.map V.str)) ∧ (ys.map (·.length)).sum + ys.length * a.length ≤ 16777216 ∧ Q (.str (Txt.join a ys)) H) to te) := by
  subst hK
  exact pe_join ho he hs hbase hline
end Mine

set_option Elab.async false
set_option linter.all false
set_option maxRecDepth 100000
set_option maxHeartbeats 2000000
namespace Mine
open PySem PySem.Spec PyProof.Rows L2
abbrev PP : Program := PySem.Challenge.pw_saveagain_k97_whole_texts_of_chains
def top (i : Nat) : Stmt := PP.main.body.getD i (.Pass ⟨0, 0, 0, 0⟩)
/-- a def of the top -/
def FnT (K : PySem.W.Frag) (mg : Str → Option Value) (x : Str) (i : Nat) : Prop := ∃ f fd, FunD K x x (defArgs (top i)) (defBody (top i)) (defScope (top i)) [] [] f fd ∧ mg x = some (.ref f)
def frees : List Str := ["len", "range", "isinstance", "str", "list", "tuple", "all", "int", "abs", "enumerate", "repr", "super"]
def intC : List (Str × Int) := [("LONGEST", 8), ("MOST_CHAINS_chains", 40), ("MOST_LEVEL", 8), ("MOST_PARTS_chains", 6), ("MOST_CHAINS_chain_texts", 40), ("DEEPEST", 8)]
def strC : List (Str × Str) := [("LETTERS", "abcdefghijklmnopqrstuvwxyz"), ("OPEN", "("), ("SHUT", ")")]
/-- what the top holds -/
structure Tx (K : PySem.W.Frag) (mg : Str → Option Value) : Prop where
  fr0 : ∀ x ∈ frees, mg x = none
  gi0 : ∀ q ∈ intC, ∃ t, mg q.1 = some (.int q.2 t)
  gs0 : ∀ q ∈ strC, ∃ t, mg q.1 = some (.str q.2 t)
  is_name : FnT K mg "is_name" 7
  fixed : FnT K mg "fixed" 9
  need_chain : ∃ f fd, FunD K "need_chain" "need_chain" (defArgs (top 16)) (defBody (top 16)) (defScope (top 16)) [.non] [] f fd ∧ mg "need_chain" = some (.ref f)
  is_shaped : FnT K mg "is_shaped" 14
  first_wrong : FnT K mg "first_wrong" 15
  chain_words : FnT K mg "chain_words" 24
  first_stop : FnT K mg "first_stop" 26
  write_chain : FnT K mg "write_chain" 27
  read_chain : FnT K mg "read_chain" 28
  law_pen : FnT K mg "_law_pen" 30
  law_draw : FnT K mg "_law_draw" 31
  law_pick : FnT K mg "_law_pick" 32
  law_heard : FnT K mg "_law_heard" 33
  law_chain : FnT K mg "_law_chain" 34
  law_words : FnT K mg "_law_words" 35
  law_listed : FnT K mg "_law_listed" 36
  law_spoilt : FnT K mg "_law_spoilt" 37
  law_begun : FnT K mg "_law_begun" 38
  law_bounds_right : FnT K mg "_law_bounds_right" 39
  law_refused : FnT K mg "_law_refused" 40
section
variable {P : Program} {w : World} {K : PySem.W.Frag} {mg : Str → Option Value} {base : Heap}
theorem Tx.fr (T : Tx K mg) (x : Str) (h : x ∈ frees := by decide +kernel) : mg x = none := T.fr0 x h
theorem Tx.gi (T : Tx K mg) (x : Str) (i : Int) (h : (x, i) ∈ intC := by decide +kernel) : ∃ t, mg x = some (.int i t) := T.gi0 (x, i) h
theorem Tx.gs (T : Tx K mg) (x : Str) (z : Str) (h : (x, z) ∈ strC := by decide +kernel) : ∃ t, mg x = some (.str z t) := T.gs0 (x, z) h
theorem pty {X : Cx} {x : Str} {n : String} {pos : Pos} (hm : X.mg x = none) (hv : bootBuiltins x = some (.type n)) (hg : Gl X x := by rfl) (hn : x ≠ "__name__" := by decide) (hd : (x == ("__debug__" : Str)) = false := by decide) : PE X (.Name x pos) (tC (.ty n)) := pe_bltn hg hm hv rfl hn hd
theorem df_of {CX : CXT} {N ps : List Str} {k : Nat} {sp : Sp} {x : Str} {i : Nat} (F : FnT K mg x i) (S : FnScope N ps (defScope (top i))) (len : ∀ vs H Q E, sp vs H Q E → vs.length = ps.length)
    (bn : ∀ (kV doc pm : Value) (an : Option Addr) (cdv ct : Value) (us : List Value), us.length = ps.length → bindArgs (PySem.W.fnOf x x (defArgs (top i)) (defBody (top i)) (defScope (top i)) .none kV doc pm an cdv ct) ⟨us, []⟩ = pure (ps.zip us))
    (hbody : ∀ (f : Addr) (cdv : Value) (A : Around) (outer : List Env) (s : Shared) (H : Hp) (vs : List V) (Q : VK) (E : XK), Room k (A.deeper (envOfC x (defScope (top i)) s.heap.objs.size f cdv)) → sp vs H Q E →
      ∃ t, PSs (cxOf CX P w K mg base N x (defScope (top i)) f cdv A outer s H E) (defBody (top i)) t ∧ t { nx := fun _ H' => Q .non H', rt := Q } (start N vs) H) : Df P w K mg base CX (k + 1) x ps [] sp := by
  obtain ⟨f, fd, F, e⟩ := F
  exact ⟨f, fd, e, F.kp, F.bindsN bn, F.ok S len fun cdv A outer s H vs Q E hr h => hbody f cdv A outer s H vs Q E hr h⟩
end
/-- a def and its promise -/
def Gf (P : Program) (w : World) (K : PySem.W.Frag) (mg : Str → Option Value) (base : Heap) (CX : CXT) (k : Nat) (x : Str) (i : Nat) (ps : List Str) (sp : Sp) : Prop := ∃ f fd, FunD K x x (defArgs (top i)) (defBody (top i)) (defScope (top i)) [] [] f fd ∧ mg x = some (.ref f) ∧ FnOk P w K mg base CX k f fd ps sp
section
variable {P : Program} {w : World} {K : PySem.W.Frag} {mg : Str → Option Value} {base : Heap}
theorem gf_of {CX : CXT} {N ps : List Str} {k : Nat} {sp : Sp} {x : Str} {i : Nat} (F : FnT K mg x i) (S : FnScope N ps (defScope (top i))) (len : ∀ vs H Q E, sp vs H Q E → vs.length = ps.length)
    (hbody : ∀ (f : Addr) (cdv : Value) (A : Around) (outer : List Env) (s : Shared) (H : Hp) (vs : List V) (Q : VK) (E : XK), Room k (A.deeper (envOfC x (defScope (top i)) s.heap.objs.size f cdv)) → sp vs H Q E →
      ∃ t, PSs (cxOf CX P w K mg base N x (defScope (top i)) f cdv A outer s H E) (defBody (top i)) t ∧ t { nx := fun _ H' => Q .non H', rt := Q } (start N vs) H) : Gf P w K mg base CX (k + 1) x i ps sp := by
  obtain ⟨f, fd, F, e⟩ := F
  exact ⟨f, fd, F, e, F.ok S len fun cdv A outer s H vs Q E hr h => hbody f cdv A outer s H vs Q E hr h⟩
theorem Gf.df {CX : CXT} {ps : List Str} {k : Nat} {sp : Sp} {x : Str} {i : Nat} (g : Gf P w K mg base CX k x i ps sp)
    (bn : ∀ (kV doc pm : Value) (an : Option Addr) (cdv ct : Value) (us : List Value), us.length = ps.length → bindArgs (PySem.W.fnOf x x (defArgs (top i)) (defBody (top i)) (defScope (top i)) .none kV doc pm an cdv ct) ⟨us, []⟩ = pure (ps.zip us)) : Df P w K mg base CX k x ps [] sp := by
  obtain ⟨f, fd, F, e, R⟩ := g
  exact ⟨f, fd, e, F.kp, F.bindsN bn, R⟩
/-- a def called by keywords alone -/
def Dk (P : Program) (w : World) (K : PySem.W.Frag) (mg : Str → Option Value) (base : Heap) (CX : CXT) (k : Nat) (x : Str) (ps : List Str) (sp : Sp) : Prop :=
  ∃ f fd, mg x = some (.ref f) ∧ PySem.W.keepIn K (.ref f) = true ∧ (∀ (s : Shared) (ws : List Value), ws.length = ps.length → BindsTo s fd ⟨[], ps.zip ws⟩ (ps.zip ws)) ∧ FnOk P w K mg base CX k f fd ps sp
theorem Gf.kw {CX : CXT} {ps : List Str} {k : Nat} {sp : Sp} {x : Str} {i : Nat} (g : Gf P w K mg base CX k x i ps sp)
    (bk : ∀ (kV doc pm : Value) (an : Option Addr) (cdv ct : Value) (ws : List Value), ws.length = ps.length → bindArgs (PySem.W.fnOf x x (defArgs (top i)) (defBody (top i)) (defScope (top i)) .none kV doc pm an cdv ct) ⟨[], ps.zip ws⟩ = pure (ps.zip ws)) : Dk P w K mg base CX k x ps sp := by
  obtain ⟨f, fd, F, e, R⟩ := g
  obtain ⟨oc, od, dV, kV, doc, pm, an, cdv, ct, osl, rfl, lk, hcd, hD, _⟩ := F.ex
  rcases hD with ⟨_, rfl⟩ | ⟨h, _⟩
  · exact ⟨f, _, e, F.kp, fun s ws hl => .of_eq (bk kV doc pm an cdv ct ws hl), R⟩
  · exact absurd rfl h
end
section
variable {X : Cx} {CX : CXT} {k : Nat} {x : Str} {ps : List Str} {sp : Sp} {E : XK} {tk : TA} {p pos : Pos} {kws : List Keyword}
def tCallK0 (sp : Sp) (n : Nat) (E : XK) (tk : TA) : TE := fun σ H Q => tk σ H fun zs H1 => zs.length = n ∧ sp zs H1 Q E
theorem pcallK (D : Dk X.prog X.w X.K X.mg X.base CX k x ps sp) (hr : Room k X.A) (hx : Passes CX X E) (hkw : PK X kws tk) (hg : Gl X x := by rfl)
    (hall : (backToKw pos (keywordEach kws X.env)).all (·.1.isSome) = true := by rfl) (hks : (backToKw pos (keywordEach kws X.env)).filterMap (·.1) = ps := by rfl) (hdb : (x == ("__debug__" : Str)) = false := by decide)
    (hpl : ((backTo pos (starEach [] X.env)).any (·.1) || (backToKw pos (keywordEach kws X.env)).any (·.1.isNone)) = false := by rfl) : PE X (.Call (.Name x p) [] kws pos) (tCallK0 sp ps.length E tk) := by
  obtain ⟨f, fd, hm, hk, hb, F⟩ := D
  refine ⟨fun pins s σ H Q I h => wpAny_Call_Name_kw (ld_glob I hg hm ?_ hdb)⟩
  refine PySem.W.callWith_KW0 (h₀ := X.base) I.ok.mod.kin hk hall ?_ hpl
  refine thn (hkw.run pos pins s σ H _ I h) fun ws s2 ⟨zs, H2, I2, rz, hl, q⟩ => ⟨I2.kIn, ?_⟩
  rw [hks]
  have hlw : ws.length = ps.length := rz.length.symm.trans hl
  refine wpAny_call (codeAny_mono (F.run X.A X.stack s2 H2 ⟨[], ps.zip ws⟩ ws zs Q E hr I2.env0 (hb s2 ws hlw) rz q) fun r s' hq => ?_)
  cases r with
  | error e => exact hx pins σ H2 s2 e s' I2 hq
  | ok fl =>
    cases fl with
    | ret u => exact I2.after hq
    | next => exact hq.elim
    | brk => exact hq.elim
    | cont => exact hq.elim
end
theorem df_false {P : Program} {w : World} {K : PySem.W.Frag} {mg : Str → Option Value} {base : Heap} {CX : CXT} {N ps : List Str} {k : Nat} {x : Str} {i : Nat} (F : FnT K mg x i) (S : FnScope N ps (defScope (top i)))
    (bn : ∀ (kV doc pm : Value) (an : Option Addr) (cdv ct : Value) (us : List Value), us.length = ps.length → bindArgs (PySem.W.fnOf x x (defArgs (top i)) (defBody (top i)) (defScope (top i)) .none kV doc pm an cdv ct) ⟨us, []⟩ = pure (ps.zip us)) : Df P w K mg base CX (k + 1) x ps [] (fun _ _ _ _ => False) :=
  df_of F S (fun _ _ _ _ h => h.elim) bn fun _ _ _ _ _ _ _ _ _ _ h => h.elim
/-- an own class of errors -/
structure Exk (P : Program) (K : PySem.W.Frag) (mg : Str → Option Value) (x : Str) (C : Addr) (i j : Nat) (fs : List Str) : Prop where
  t : ∃ fI, ExT P K mg C fI (defArgs (inClass (top i) j)) (defBody (inClass (top i) j)) (defScope (inClass (top i) j)) fs
  m : mg x = some (.ref C)
  kp : PySem.W.keepIn K (.ref C) = true
  ex : PySem.W.subIn K (.ref C) (.type "BaseException") = some true
  ty : PySem.W.typeIn K (.ref C) = some (.type "type")
  c : ExC K C
/-- the errors -/
structure Tz (P : Program) (K : PySem.W.Frag) (mg : Str → Option Value) (cS cC cT : Addr) : Prop where
  chain : Exk P K mg "BadChain" cC 2 0 ["path"]
  text : Exk P K mg "BadText" cT 3 0 ["line", "word"]
  save : mg "SaveError" = some (.ref cS)
  kC : PySem.W.kitOne K (.ref cC) (.ref cC) = some true
  kTC : PySem.W.kitOne K (.ref cT) (.ref cC) = some false
  kT : PySem.W.kitOne K (.ref cT) (.ref cT) = some true
  kN1 : PySem.W.kitOne K (.type "NoneType") (.ref cC) = some false
  kN2 : PySem.W.kitOne K (.type "NoneType") (.ref cT) = some false
  eC : PySem.W.exmOne K (.ref cC) (.ref cS) = some true
  eT : PySem.W.exmOne K (.ref cT) (.ref cS) = some true
/-! ### the class Nest -/
def MtT (K : PySem.W.Frag) (C : Addr) (m q : Str) (j : Nat) : Prop := ∃ f fd, FunD K m q (defArgs (inClass (top 25) j)) (defBody (inClass (top 25) j)) (defScope (inClass (top 25) j)) [] [] f fd ∧ Meth K C m f
structure Nx (w : World) (K : PySem.W.Frag) (mg : Str → Option Value) (cN : Addr) : Prop where
  m : mg "Nest" = some (.ref cN)
  cl : Cls K cN
  nF : ∀ f ∈ (["nested", "whole", "many"] : List Str), NoAttr K cN f
  init : ∃ f fd, FunD K "__init__" "Nest.__init__" (defArgs (inClass (top 25) 0)) (defBody (inClass (top 25) 0)) (defScope (inClass (top 25) 0)) [] [] f fd ∧ Mk K cN f
  due : MtT K cN "is_due" "Nest.is_due" 1
  can : MtT K cN "can_begin" "Nest.can_begin" 2
  add : MtT K cN "add" "Nest.add" 3
  take : MtT K cN "take" "Nest.take" 4
  shut : MtT K cN "shut" "Nest.shut" 5
  tab : ∃ a, mg "MOST_PARTS_chain_texts" = some (.ref a) ∧ KDct K w a "then" (.int 6) ∧ KDct K w a "or" (.int 6) ∧ KDct K w a "again" (.int 1)
  wds : ∃ a, mg "WORDS" = some (.ref a) ∧ ∀ H, SqT K H a [.str "then", .str "or", .str "again"]
/-- a method by its name -/
structure Dm (P : Program) (w : World) (K : PySem.W.Frag) (mg : Str → Option Value) (base : Heap) (CX : CXT) (k : Nat) (C : Addr) (m : Str) (ps : List Str) (sp : Sp) : Prop where
  ex : ∃ f fd, Meth K C m f ∧ Binds K fd ps [] ∧ FnOk P w K mg base CX k f fd ps sp
section
variable {P : Program} {w : World} {K : PySem.W.Frag} {mg : Str → Option Value} {base : Heap}
theorem dm_of {CX : CXT} {N ps : List Str} {k j : Nat} {C : Addr} {sp : Sp} {m q : Str} (F : MtT K C m q j) (S : FnScope N ps (defScope (inClass (top 25) j))) (len : ∀ vs H Q E, sp vs H Q E → vs.length = ps.length)
    (bn : ∀ (kV doc pm : Value) (an : Option Addr) (cdv ct : Value) (us : List Value), us.length = ps.length → bindArgs (PySem.W.fnOf m q (defArgs (inClass (top 25) j)) (defBody (inClass (top 25) j)) (defScope (inClass (top 25) j)) .none kV doc pm an cdv ct) ⟨us, []⟩ = pure (ps.zip us))
    (hbody : ∀ (f : Addr) (cdv : Value) (A : Around) (outer : List Env) (s : Shared) (H : Hp) (vs : List V) (Q : VK) (E : XK), Room k (A.deeper (envOfC q (defScope (inClass (top 25) j)) s.heap.objs.size f cdv)) → sp vs H Q E →
      ∃ t, PSs (cxOf CX P w K mg base N q (defScope (inClass (top 25) j)) f cdv A outer s H E) (defBody (inClass (top 25) j)) t ∧ t { nx := fun _ H' => Q .non H', rt := Q } (start N vs) H) : Dm P w K mg base CX (k + 1) C m ps sp := by
  obtain ⟨f, fd, F, e⟩ := F
  exact ⟨f, fd, e, F.bindsN bn, F.ok S len fun cdv A outer s H vs Q E hr h => hbody f cdv A outer s H vs Q E hr h⟩
end
section
variable {X : Cx} {CX : CXT} {k : Nat} {C : Addr} {m : Str} {ps : List Str} {sp : Sp} {E : XK} {o e : Expr} {es : List Expr} {ta : TE} {t : TA} {pos apos : Pos}
theorem pmeth {pl : Sem Bool} (D : Dm X.prog X.w X.K X.mg X.base CX k C m ps sp) (hr : Room k X.A) (c : Cls X.K C) (hx : Passes CX X E) (he : PE X o ta) (ha : PA X (e :: es) t)
    (hst : starEach (e :: es) X.env = (false, eval e X.env) :: starEach es X.env := by rfl) (hpl : (backTo pos (starEach es X.env)).any (·.1) = false := by rfl)
    (ht : eval (.Call (.Attribute o m apos) (e :: es) [] pos) X.env = (do
      let ov ← eval o X.env
      standAt apos.atName
      let (f, first) ← holding [ov] (getMethod ov m pl)
      callWith pos f first (backTo pos (starEach (e :: es) X.env)) (backToKw pos (keywordEach [] X.env))) := by rfl) : PE X (.Call (.Attribute o m apos) (e :: es) [] pos) (tMeth C m sp [] E ta t) := by
  obtain ⟨f, fd, hm, hb, F⟩ := D.ex
  exact pe_meth he c hm F hr hb .nil hx ha hst hpl ht
theorem pmeth0 {pl : Sem Bool} (D : Dm X.prog X.w X.K X.mg X.base CX k C m ps sp) (hr : Room k X.A) (c : Cls X.K C) (hx : Passes CX X E) (he : PE X o ta)
    (ht : eval (.Call (.Attribute o m apos) [] [] pos) X.env = (do
      let ov ← eval o X.env
      standAt apos.atName
      let (f, first) ← holding [ov] (getMethod ov m pl)
      callWith pos f first (backTo pos (starEach [] X.env)) (backToKw pos (keywordEach [] X.env))) := by rfl) : PE X (.Call (.Attribute o m apos) [] [] pos) (tMeth C m sp [] E ta tNil) := by
  obtain ⟨f, fd, hm, hb, F⟩ := D.ex
  exact pe_meth0 he c hm F hr hb .nil hx ht
end
end Mine

set_option linter.all false
namespace Mine
open PySem
/-! ### data that say a chain, in lists or tuples -/
mutual
def Fm : Ch → PyData → Prop
  | .this s, d => isSeqD d = true ∧ items d = [.str sThis, .str s]
  | .node w ps, d => isSeqD d = true ∧ ∃ ds, items d = .str w :: ds ∧ FmL ps ds
def FmL : List Ch → List PyData → Prop
  | [], ds => ds = []
  | c :: r, ds => ∃ d es, ds = d :: es ∧ Fm c d ∧ FmL r es
end
mutual
theorem Fm.data : ∀ c : Ch, Fm c c.data
  | .this s => by
    rw [Fm]
    exact ⟨rfl, rfl⟩
  | .node w ps => by
    rw [Fm]
    exact ⟨rfl, dataL ps, rfl, FmL.data ps⟩
theorem FmL.data : ∀ ps : List Ch, FmL ps (dataL ps)
  | [] => by rw [FmL]; rfl
  | c :: r => by
    rw [FmL]
    exact ⟨c.data, dataL r, rfl, Fm.data c, FmL.data r⟩
end
theorem FmL.length : ∀ {ps : List Ch} {ds : List PyData}, FmL ps ds → ds.length = ps.length
  | [], _, h => by rw [FmL] at h; rw [h]; rfl
  | c :: r, _, h => by
    rw [FmL] at h
    obtain ⟨d, es, rfl, _, h⟩ := h
    simp [FmL.length h]
theorem FmL.get : ∀ {ps : List Ch} {ds : List PyData} {i : Nat} {c : Ch}, FmL ps ds → ps[i]? = some c → ∃ d, ds[i]? = some d ∧ Fm c d
  | [], _, _, _, _, e => by simp at e
  | c :: r, _, 0, c', h, e => by
    rw [FmL] at h
    obtain ⟨d, es, rfl, h1, _⟩ := h
    simp at e
    subst e
    exact ⟨d, rfl, h1⟩
  | c :: r, _, i + 1, c', h, e => by
    rw [FmL] at h
    obtain ⟨d, es, rfl, _, h2⟩ := h
    obtain ⟨d2, e1, e2⟩ := FmL.get (i := i) (c := c') h2 (by simpa using e)
    exact ⟨d2, by simpa using e1, e2⟩
theorem Fm.seq {c : Ch} {d : PyData} (h : Fm c d) : isSeqD d = true := by
  cases c with
  | this s => rw [Fm] at h; exact h.1
  | node w ps => rw [Fm] at h; exact h.1
theorem okL_get : ∀ {ps : List Ch} {i : Nat} {c : Ch}, okL ps → ps[i]? = some c → c.ok
  | [], _, _, _, e => by simp at e
  | c :: r, 0, c', h, e => by
    simp at e
    subst e
    exact (by simpa [okL] using h : c.ok ∧ okL r).1
  | c :: r, i + 1, c', h, e => okL_get (i := i) (by simpa [okL] using h : c.ok ∧ okL r).2 (by simpa using e)
theorem sizeL_get : ∀ {ps : List Ch} {i : Nat} {c : Ch}, ps[i]? = some c → c.size ≤ sizeL ps
  | [], _, _, e => by simp at e
  | c :: r, 0, c', e => by
    simp at e
    subst e
    simp only [sizeL]
    omega
  | c :: r, i + 1, c', e => by
    have := sizeL_get (ps := r) (i := i) (c := c') (by simpa using e)
    simp only [sizeL]
    omega
theorem depthL_get : ∀ {ps : List Ch} {i : Nat} {c : Ch}, ps[i]? = some c → c.depth ≤ depthL ps
  | [], _, _, e => by simp at e
  | c :: r, 0, c', e => by
    simp at e
    subst e
    simp only [depthL]
    omega
  | c :: r, i + 1, c', e => by
    have := depthL_get (ps := r) (i := i) (c := c') (by simpa using e)
    simp only [depthL]
    omega
theorem wordsL_take : ∀ {ps : List Ch} {i : Nat} {c : Ch}, ps[i]? = some c → wordsL (ps.take (i + 1)) = wordsL (ps.take i) ++ c.words
  | [], _, _, e => by simp at e
  | c :: r, 0, c', e => by
    simp at e
    subst e
    simp [wordsL]
  | c :: r, i + 1, c', e => by
    have := wordsL_take (ps := r) (i := i) (c := c') (by simpa using e)
    simp only [List.take_succ_cons, wordsL, this, List.append_assoc]
mutual
theorem size_pos : ∀ c : Ch, 1 ≤ c.size ∧ 1 ≤ c.depth
  | .this s => by simp [Ch.size, Ch.depth]
  | .node w ps => by
    simp only [Ch.size, Ch.depth]
    omega
end
mutual
theorem words_length : ∀ c : Ch, c.words.length ≤ 3 * c.size
  | .this s => by simp [Ch.words, Ch.size]
  | .node w ps => by
    have := wordsL_length ps
    simp only [Ch.words, Ch.size, List.length_cons, List.length_append, List.length_nil]
    omega
theorem wordsL_length : ∀ ps : List Ch, (wordsL ps).length ≤ 3 * sizeL ps
  | [] => by simp [wordsL, sizeL]
  | c :: r => by
    have h1 := words_length c
    have h2 := wordsL_length r
    simp only [wordsL, sizeL, List.length_append]
    omega
end
theorem wordsL_take_length (ps : List Ch) (i : Nat) : (wordsL (ps.take i)).length ≤ (wordsL ps).length := by
  induction ps generalizing i with
  | nil => simp
  | cons c r ih =>
    cases i with
    | zero => simp [wordsL]
    | succ i =>
      have := ih i
      simp only [List.take_succ_cons, wordsL, List.length_append]
      omega
/-! ### lengths of words -/
theorem nameOk_len {s : Str} (h : nameOk s = true) : s.length ≤ 8 := by
  simp only [nameOk, Bool.and_eq_true, decide_eq_true_eq] at h
  exact h.1.2
theorem heads_len : ∀ w ∈ heads, w.length ≤ 8 := by decide
end Mine

set_option linter.all false
namespace Mine
open PySem PyProof.Rows
def jl : List Str → List Nat
  | [] => []
  | [x] => x.cps.toList
  | x :: y :: r => x.cps.toList ++ 32 :: jl (y :: r)
theorem join_codes : ∀ ws : List Str, (Str.join " " ws).cps.toList = jl ws
  | [] => rfl
  | [x] => rfl
  | x :: y :: r => by
    have h := join_codes (y :: r)
    show ((x.cps ++ (" " : Str).cps) ++ (Str.join " " (y :: r)).cps).toList = _
    rw [Array.toList_append, Array.toList_append, h]
    simp only [jl, List.append_assoc]
    rfl
theorem first_sp : ∀ {a b r s : List Nat}, 32 ∉ a → 32 ∉ b → a ++ 32 :: r = b ++ 32 :: s → a = b ∧ r = s
  | [], [], _, _, _, _, e => ⟨rfl, by simpa using e⟩
  | [], y :: b, _, _, _, hb, e => by
    rw [List.nil_append, List.cons_append] at e
    obtain ⟨e1, _⟩ := List.cons.inj e
    exact absurd (by rw [← e1]; exact List.mem_cons_self ..) hb
  | x :: a, [], _, _, ha, _, e => by
    rw [List.nil_append, List.cons_append] at e
    obtain ⟨e1, _⟩ := List.cons.inj e
    exact absurd (by rw [e1]; exact List.mem_cons_self ..) ha
  | x :: a, y :: b, r, s, ha, hb, e => by
    rw [List.cons_append, List.cons_append] at e
    obtain ⟨e1, e2⟩ := List.cons.inj e
    obtain ⟨h1, h2⟩ := first_sp (fun h => ha (List.mem_cons_of_mem _ h)) (fun h => hb (List.mem_cons_of_mem _ h)) e2
    exact ⟨by rw [e1, h1], h2⟩
theorem no_sp {a b r : List Nat} (h : 32 ∉ a) (e : a = b ++ 32 :: r) : False := h (by rw [e]; simp)
theorem codes_inj {x y : Str} (h : x.cps.toList = y.cps.toList) : x = y := by
  obtain ⟨x⟩ := x
  obtain ⟨y⟩ := y
  congr 1
  exact Array.toList_inj.mp h
theorem jl_inj : ∀ {xs ys : List Str}, xs ≠ [] → ys ≠ [] → (∀ x ∈ xs, 32 ∉ x.cps.toList) → (∀ y ∈ ys, 32 ∉ y.cps.toList) → jl xs = jl ys → xs = ys
  | [], _, h, _, _, _, _ => absurd rfl h
  | _, [], _, h, _, _, _ => absurd rfl h
  | [x], [y], _, _, _, _, e => by rw [codes_inj (show x.cps.toList = y.cps.toList from e)]
  | [x], y :: z :: r, _, _, hx, _, e => (no_sp (hx x (List.mem_cons_self ..)) (show x.cps.toList = y.cps.toList ++ 32 :: jl (z :: r) from e)).elim
  | x :: z :: r, [y], _, _, _, hy, e => (no_sp (hy y (List.mem_cons_self ..)) (show y.cps.toList = x.cps.toList ++ 32 :: jl (z :: r) from e.symm)).elim
  | x :: z :: r, y :: u :: s, _, _, hx, hy, e => by
    obtain ⟨e1, e2⟩ := first_sp (hx x (List.mem_cons_self ..)) (hy y (List.mem_cons_self ..)) (show x.cps.toList ++ 32 :: jl (z :: r) = y.cps.toList ++ 32 :: jl (u :: s) from e)
    have := jl_inj (xs := z :: r) (ys := u :: s) (by simp) (by simp) (fun w hw => hx w (List.mem_cons_of_mem _ hw)) (fun w hw => hy w (List.mem_cons_of_mem _ hw)) e2
    rw [codes_inj e1, this]
theorem noSp_iff {w : Str} (h : noSp w = true) : 32 ∉ w.cps.toList := by
  simpa [noSp] using h
/-- what is joined by blanks is split into the same words -/
theorem split_join {ws : List Str} (hne : ws ≠ []) (h : ∀ w ∈ ws, noSp w = true) : Txt.split (Txt.join " " ws) " " = ws := by
  have e1 := StrLaws.join_split (Txt.join " " ws) " "
  have e2 := StrLaws.split_free (Txt.join " " ws) 32
  have e3 := split_pos (Txt.join " " ws) " "
  have e4 : Txt.join " " ws = Str.join " " ws := StrLaws.glued_eq_join " " ws
  rw [e4] at e1 e2 e3 ⊢
  refine jl_inj (fun z => ?_) hne (fun x hx => e2 x hx) (fun y hy => noSp_iff (h y hy)) ?_
  · rw [z] at e3
    simp at e3
  · rw [← join_codes, ← join_codes, e1]
theorem join_length (ws : List Str) : (Txt.join " " ws).length ≤ (ws.map (·.length)).sum + ws.length * 1 := by
  have e4 : Txt.join " " ws = Str.join " " ws := StrLaws.glued_eq_join " " ws
  rw [e4]
  exact StrLaws.join_length_le " " ws
theorem sum_le {ws : List Str} {m : Nat} (h : ∀ w ∈ ws, w.length ≤ m) : (ws.map (·.length)).sum ≤ ws.length * m := by
  induction ws with
  | nil => simp
  | cons x xs ih =>
    have h1 := h x (List.mem_cons_self ..)
    have h2 := ih fun w hw => h w (List.mem_cons_of_mem _ hw)
    rw [List.map_cons, List.sum_cons, List.length_cons, Nat.succ_mul]
    omega
end Mine

set_option Elab.async false
set_option linter.all false
set_option maxRecDepth 100000
set_option maxHeartbeats 2000000
namespace Mine
open PySem PySem.Spec PyProof.Rows L2
def isNameD : PyData → Bool
  | .str s => nameOk s
  | _ => false
def spIsName (K : PySem.W.Frag) : Sp := fun vs H Q _ => ∃ v d, vs = [v] ∧ Rp K H v d ∧ ∀ H', Same H H' → Q (.bl (isNameD d)) H'
theorem S_is_name : FnScope ["value", "sign"] ["value"] (defScope (top 7)) := ⟨rfl, rfl, rfl, by decide +kernel, rfl, by decide +kernel, by decide +kernel⟩
section
variable {P : Program} {w : World} {K : PySem.W.Frag} {mg : Str → Option Value} {base : Heap}
theorem D_is_name (T : Tx K mg) : Df P w K mg base CX0 1 "is_name" ["value"] [] (spIsName K) := by
  have sc := S_is_name
  refine df_of T.is_name sc (fun vs H Q E h => ?_) (fun _ _ _ _ _ _ us hl => match us, hl with | [_], _ => rfl) ?_
  · obtain ⟨v, d, rfl, _⟩ := h
    rfl
  · intro f cdv A outer s H vs Q E hr h
    refine ⟨_, PSs.nox (pss_cons (ps_if (PW.pt (pw_or (pt_not (pt_val (pe_callB call_isi (by rfl) (T.fr "isinstance") PyProof.Rows.Boot.«isinstance» (pa_cons (pv 0) (pa_cons (pty (T.fr "str") PyProof.Rows.Boot.«str») pa_nil))))) (pw_or1 (pt_not (pt_chain op_le op_le pe_int (pe_callB call_len (by rfl) (T.fr "len") PyProof.Rows.Boot.«len» (pa_cons (pv 0) pa_nil)) (pgi (T.gi "LONGEST" 8)))))))
      (pss_one (ps_ret pe_bl))
      pss_nil)
      (pss_one (ps_ret (pe_callB (cr_all rfl) (by rfl) (T.fr "all") PyProof.Rows.Boot.«all» (pa_cons (pe_lc (own := [("sign", 1)]) (g := gName 1) (tt := tYes) rfl sc.nd (pi_str (pv 0)) (blkOk_by (N := ["value", "sign"]) (sc := defScope (top 7)) (by decide +kernel)) (fun _ _ _ _ _ => (pg_name (i := 1) sc.nd rfl (Or.inl rfl))) (fun _ _ _ _ _ => pts_nil) (fun _ _ _ _ _ => (pe_cmpR op_in_sign (pv 1) (pgs (T.gs "LETTERS" "abcdefghijklmnopqrstuvwxyz")) (by rfl)))) pa_nil))))), ?_⟩
    obtain ⟨v, d, rfl, R, hQ⟩ := h
    refine ⟨_, rfl, v, .ty "str", _, _, _, rfl, .ty "str", R.ty, kit_str d, ?_⟩
    cases d with
    | str z =>
      cases R with
      | str _ hz =>
      refine ⟨_, rfl, iteF ?_⟩
      refine ⟨_, rfl, _, z.length, rfl, ⟨by rw [sizeLine_eq]; omega, rfl⟩, _, _, rfl, rfl, _, rfl, ?_⟩
      by_cases h1 : (1 : Int) ≤ (z.length : Int)
      · rw [decide_eq_true h1]
        refine iteT ⟨_, _, rfl, rfl, _, rfl, ?_⟩
        by_cases h2 : (z.length : Int) ≤ 8
        · rw [decide_eq_true h2]
          refine iteF ?_
          refine ⟨_, rfl, _, rfl, fun D hD => ?_⟩
          refine lcMap (n := z.cps.size) walk_str (by have : z.cps.size = z.length := rfl; omega) (fun _ _ => trivial) (fun i y _ => ∃ c, z.cps[i]? = some c ∧ y = .bl (decide (c ∈ letters))) hD (fun _ _ _ _ _ h => h) ?_ ?_
          · rintro i x H2 H3 hi s2 _ ⟨rfl, c, hc, rfl⟩ R hR
            exact ⟨_, rfl, c, _, rfl, rfl, hR _ _ (Same.refl _) ⟨c, hc, rfl⟩⟩
          · intro ys H2 hl hf hD2 s2
            refine ⟨D, z.cps.toList.map (fun c => decide (c ∈ letters)), rfl, SqL.of ?_, ?_⟩
            · rw [hD2]
              congr 2
              refine List.ext_getElem? fun i => ?_
              by_cases hi : i < z.cps.size
              · obtain ⟨c, hc, e⟩ := hf i (ys[i]'(by omega)) (by simp)
                rw [List.getElem?_eq_getElem (by omega), e]
                simp [hc]
              · rw [List.getElem?_eq_none (by omega), List.getElem?_eq_none (by simp; omega)]
            · have e : nameOk z = (z.cps.toList.map fun c => decide (c ∈ letters)).all id := by
                unfold nameOk
                rw [decide_eq_true (by omega), Bool.true_and, List.all_map]
                rfl
              rw [← e]
              exact hQ H2 s2
        · rw [decide_eq_false h2]
          have e : nameOk z = false := by
            unfold nameOk
            rw [decide_eq_false (by omega), Bool.false_and]
          have q := hQ H (Same.refl H)
          simp only [isNameD, e] at q
          exact iteT q
      · rw [decide_eq_false h1]
        have e : nameOk z = false := by
            unfold nameOk
            rw [decide_eq_false (by omega), Bool.false_and]
        have q := hQ H (Same.refl H)
        simp only [isNameD, e] at q
        exact iteF ⟨_, rfl, iteT q⟩
    | _ =>
      exact ⟨_, rfl, iteT (iteT (hQ H (Same.refl H)))⟩
end
end Mine

set_option Elab.async false
set_option linter.all false
set_option maxRecDepth 100000
set_option maxHeartbeats 2000000
namespace Mine
open PySem PySem.Spec PyProof.Rows L2
def spFixed (K : PySem.W.Frag) (n : Nat) : Sp := fun vs H Q _ => ∃ v d, vs = [v] ∧ Rp K H v d ∧ dp d ≤ n ∧ ∀ u H', Same H H' → Q u H'
theorem S_fixed : FnScope ["value", "part"] ["value"] (defScope (top 9)) := ⟨rfl, rfl, rfl, by decide +kernel, rfl, by decide +kernel, by decide +kernel⟩
section
variable {P : Program} {w : World} {K : PySem.W.Frag} {mg : Str → Option Value} {base : Heap}
theorem D_fixed (T : Tx K mg) : ∀ n, Df P w K mg base CX0 (n + 1) "fixed" ["value"] [] (spFixed K n) := by
  have sc := S_fixed
  intro n
  induction n with
  | zero =>
    refine df_of T.fixed sc (fun vs H Q E h => ?_) (fun _ _ _ _ _ _ us hl => match us, hl with | [_], _ => rfl) ?_
    · obtain ⟨v, d, rfl, _⟩ := h
      rfl
    intro f cdv A outer s H vs Q E hr h
    obtain ⟨v, d, rfl, R, hd, hQ⟩ := h
    refine ⟨_, PSs.nox (pss_cons (ps_if (pt_val (pe_callB call_isiT (by rfl) (T.fr "isinstance") PyProof.Rows.Boot.«isinstance» (pa_cons (pv 0) (pa_cons (pe_tup (pa_cons (pty (T.fr "list") PyProof.Rows.Boot.«list») (pa_cons (pty (T.fr "tuple") PyProof.Rows.Boot.«tuple») pa_nil))) pa_nil))))
      (pss_one ps_never)
      pss_nil)
      (pss_one (ps_ret (pv 0)))), ?_⟩
    have e : isSeqD d = false := by
      cases hh : isSeqD d with
      | false => rfl
      | true =>
        have := dp_items hh
        omega
    refine ⟨_, rfl, by decide, fun t ht => ⟨v, t, _, _, _, _, rfl, upd_same, .cons (.ty "list") (.cons (.ty "tuple") .nil), (R.same (same_upd ht) _).ty, kit_seq d, ?_⟩⟩
    rw [e]
    exact ⟨_, rfl, iteF ⟨v, rfl, hQ _ _ (same_upd ht)⟩⟩
  | succ n ih =>
    refine df_of T.fixed sc (fun vs H Q E h => ?_) (fun _ _ _ _ _ _ us hl => match us, hl with | [_], _ => rfl) ?_
    · obtain ⟨v, d, rfl, _⟩ := h
      rfl
    intro f cdv A outer s H vs Q E hr h
    obtain ⟨v, d, rfl, R, hd, hQ⟩ := h
    refine ⟨_, PSs.nox (pss_cons (ps_if (pt_val (pe_callB call_isiT (by rfl) (T.fr "isinstance") PyProof.Rows.Boot.«isinstance» (pa_cons (pv 0) (pa_cons (pe_tup (pa_cons (pty (T.fr "list") PyProof.Rows.Boot.«list») (pa_cons (pty (T.fr "tuple") PyProof.Rows.Boot.«tuple») pa_nil))) pa_nil))))
      (pss_one (ps_ret (pe_callTy call_tuple_of (by rfl) (T.fr "tuple") PyProof.Rows.Boot.«tuple» (pa_cons (pe_lc (own := [("part", 1)]) (g := gName 1) (tt := tYes) rfl sc.nd (pi_lt (pv 0)) (blkOk_by (N := ["value", "part"]) (sc := defScope (top 9)) (by decide +kernel)) (fun _ _ _ _ _ => (pg_name (i := 1) sc.nd rfl (Or.inl rfl))) (fun _ _ _ _ _ => pts_nil) (fun _ _ _ _ _ => (pcall ih hr .nil pass0 (pa_cons (pv 1) pa_nil)))) pa_nil))))
      pss_nil)
      (pss_one (ps_ret (pv 0)))), ?_⟩
    refine ⟨_, rfl, by decide, fun t ht => ⟨v, t, _, _, _, _, rfl, upd_same, .cons (.ty "list") (.cons (.ty "tuple") .nil), (R.same (same_upd ht) _).ty, kit_seq d, ?_⟩⟩
    cases e : isSeqD d with
    | false => exact ⟨_, rfl, iteF ⟨v, rfl, hQ _ _ (same_upd ht)⟩⟩
    | true =>
      have R2 := R.same (same_upd ht (o := HO.tup [.ty "list", .ty "tuple"])) _
      obtain ⟨a, xs, rfl, hx, hi, hl, hxl⟩ := R2.seq e
      refine ⟨_, rfl, iteT ⟨_, rfl, a, xs, rfl, hx, fun J w D hD => ?_⟩⟩
      refine lcMap w (by omega) (fun H2 s2 => Sty.of s2) (fun _ _ _ => True) hD (fun _ _ _ _ _ h => h) ?_ ?_
      · rintro i x H2 H3 hi2 s2 _ ⟨rfl, hx2⟩ R hR
        obtain ⟨d2, hd2, r2⟩ := hi.get hx2
        have q := dpL_get hd2
        have q2 := dp_items e
        refine ⟨x, rfl, x, d2, rfl, RpL.same s2 _ _ hi |>.get hx2 |> fun ⟨d3, h3, r3⟩ => by rw [hd2] at h3; cases h3; exact r3, by omega, fun u H4 s4 => hR u H4 s4 trivial⟩
      · intro ys H2 hl hf hD2 s2
        exact ⟨D, ys, rfl, .inl ⟨SqL.of hD2, fun l hl => hQ _ _ ((same_upd ht).trans (s2.trans (same_upd hl)))⟩⟩
end
end Mine

set_option Elab.async false
set_option linter.all false
set_option maxRecDepth 100000
set_option maxHeartbeats 2000000
namespace Mine
open PySem PySem.Spec PyProof.Rows L2
theorem inV2 (x a b : Str) : inV (.str x) [.str a, .str b] = decide (x = a ∨ x = b) := by
  rw [Bool.eq_iff_iff]
  simp only [inV, eqV, List.any_cons, List.any_nil, Bool.or_false, Bool.or_eq_true, beq_iff_eq, decide_eq_true_eq]
  exact ⟨fun h => h.elim (fun h => .inl h.symm) fun h => .inr h.symm, fun h => h.elim (fun h => .inl h.symm) fun h => .inr h.symm⟩
def shapedL : List PyData → Bool
  | .str w :: r => if r.length = 0 then false else if w = sThis then decide (r.length = 1) && isNameD (r.headD .none) else if w = sAgain then decide (r.length = 1) else decide (w = sThen ∨ w = sOr) && decide (r.length ≤ 6)
  | _ => false
def shapedD (d : PyData) : Bool := isSeqD d && shapedL (items d)
def spShaped (K : PySem.W.Frag) : Sp := fun vs H Q _ => ∃ v d, vs = [v, .non] ∧ Rp K H v d ∧ ∀ H', Same H H' → Q (.bl (shapedD d)) H'
theorem S_is_shaped : FnScope ["value", "kit"] ["value", "kit"] (defScope (top 14)) := ⟨rfl, rfl, rfl, by decide +kernel, rfl, by decide +kernel, by decide +kernel⟩
section
variable {P : Program} {w : World} {K : PySem.W.Frag} {mg : Str → Option Value} {base : Heap}
theorem D_is_shaped (T : Tx K mg) : Df P w K mg base CX0 2 "is_shaped" ["value", "kit"] [] (spShaped K) := by
  have sc := S_is_shaped
  have DN := D_is_name (P := P) (w := w) (base := base) T
  refine df_of T.is_shaped sc (fun vs H Q E h => ?_) (fun _ _ _ _ _ _ us hl => match us, hl with | [_, _], _ => rfl) ?_
  · obtain ⟨v, d, rfl, _⟩ := h
    rfl
  intro f cdv A outer s H vs Q E hr h
  obtain ⟨v, d, rfl, R, hQ⟩ := h
  refine ⟨_, PSs.nox ((pss_cons (ps_if (PW.pt (pw_or (pt_not (pt_val (pe_callB call_isiT (by rfl) (T.fr "isinstance") PyProof.Rows.Boot.«isinstance» (pa_cons (pv 0) (pa_cons (pe_tup (pa_cons (pty (T.fr "list") PyProof.Rows.Boot.«list») (pa_cons (pty (T.fr "tuple") PyProof.Rows.Boot.«tuple») pa_nil))) pa_nil))))) (pw_or (pt_cmpR op_lt (pe_callB call_len (by rfl) (T.fr "len") PyProof.Rows.Boot.«len» (pa_cons (pv 0) pa_nil)) pe_int (nomark _)) (pw_or1 (pt_not (pt_val (pe_callB call_isi (by rfl) (T.fr "isinstance") PyProof.Rows.Boot.«isinstance» (pa_cons (pe_ix ix_x (pv 0) pe_int (fun _ _ => rfl)) (pa_cons (pty (T.fr "str") PyProof.Rows.Boot.«str») pa_nil)))))))))
      (pss_one (ps_ret pe_bl))
      pss_nil)
      (pss_cons (ps_if (pt_cmpR op_eq (pe_ix ix_x (pv 0) pe_int (fun _ _ => rfl)) pe_str (nomark _))
      (pss_one (ps_ret (pe_and (pe_cmpR op_eq (pe_callB call_len (by rfl) (T.fr "len") PyProof.Rows.Boot.«len» (pa_cons (pv 0) pa_nil)) pe_int (nomark _)) (pe_and (pcall DN hr .nil pass0 (pa_cons (pe_ix ix_x (pv 0) pe_int (fun _ _ => rfl)) pa_nil)) (pe_one (pe_or (pe_cmpR op_isN (pv 1) pe_non (nomark _)) (pe_one pe_nv)))))))
      pss_nil)
      (pss_cons (ps_if (pt_cmpR op_eq (pe_ix ix_x (pv 0) pe_int (fun _ _ => rfl)) pe_str (nomark _))
      (pss_one (ps_ret (pe_cmpR op_eq (pe_callB call_len (by rfl) (T.fr "len") PyProof.Rows.Boot.«len» (pa_cons (pv 0) pa_nil)) pe_int (nomark _))))
      pss_nil)
      (pss_one (ps_ret (pe_and (pe_cmpR op_in_seq (pe_ix ix_x (pv 0) pe_int (fun _ _ => rfl)) (pe_tup (pa_cons pe_str (pa_cons pe_str pa_nil))) (by rfl)) (pe_one (pe_cmpR op_le (pe_op op_sub (pe_callB call_len (by rfl) (T.fr "len") PyProof.Rows.Boot.«len» (pa_cons (pv 0) pa_nil)) pe_int) (pgi (T.gi "MOST_PARTS_chains" 6)) (nomark _)))))))))), ?_⟩
  refine ⟨_, rfl, by decide, fun t ht => ⟨v, t, _, _, _, _, rfl, upd_same, .cons (.ty "list") (.cons (.ty "tuple") .nil), (R.same (same_upd ht) _).ty, kit_seq d, ?_⟩⟩
  have st := same_upd (o := HO.tup [.ty "list", .ty "tuple"]) ht
  generalize upd H t (HO.tup [.ty "list", .ty "tuple"]) = H1 at st ⊢
  cases e : isSeqD d with
  | false =>
    have q := hQ H1 st
    unfold shapedD at q
    rw [e, Bool.false_and] at q
    exact ⟨_, rfl, iteT (iteT q)⟩
  | true =>
    obtain ⟨a, xs, rfl, hx, hi, hl, hxl⟩ := (R.same st).seq e
    refine ⟨_, rfl, iteF ?_⟩
    unfold shapedD at hQ
    rw [e, Bool.true_and] at hQ
    generalize items d = ds at hi hl hxl hQ
    refine ⟨_, rfl, _, _, rfl, hx.len, _, _, rfl, rfl, _, rfl, ?_⟩
    by_cases h2 : (xs.length : Int) < 2
    · rw [decide_eq_true h2]
      have q := hQ H1 st
      have z : shapedL ds = false := by
        match ds, hxl with
        | [], _ => rfl
        | [d0], _ =>
          unfold shapedL
          split <;> simp_all
        | _ :: _ :: _, hxl => simp only [List.length_cons] at hxl; omega
      rw [z] at q
      exact iteT (iteT q)
    · rw [decide_eq_false h2]
      refine iteF ?_
      match ds, hi, hl, hxl, hQ with
      | [], _, _, hxl, _ => simp only [List.length_nil] at hxl; omega
      | d0 :: r, hi, hl, hxl, hQ =>
      obtain ⟨v0, hv0, r0⟩ := hi.get' (i := 0) (d := d0) rfl
      have h0 : atI xs 0 = some v0 := atI_at 0 hv0
      have hr1 : xs.length = r.length + 1 := by simpa using hxl
      refine ⟨_, rfl, a, xs, _, _, rfl, rfl, hx, h0, ?_⟩
      refine ⟨_, _, _, _, _, rfl, .ty "str", r0.ty, kit_str d0, ?_⟩
      have no : (∀ w, d0 ≠ .str w) → Q (.bl false) H1 := fun h => by
        have z : shapedL (d0 :: r) = false := by
          unfold shapedL
          split
          · rename_i w0 _ e0
            cases e0
            exact absurd rfl (h w0)
          · rfl
        have q := hQ H1 st
        rw [z] at q
        exact q
      cases d0 with
      | str w0 =>
        cases r0 with
        | str _ hw =>
        refine ⟨_, rfl, iteF ?_⟩
        have hs : shapedL (.str w0 :: r) = (if w0 = sThis then decide (r.length = 1) && isNameD (r.headD .none) else if w0 = sAgain then decide (r.length = 1) else decide (w0 = sThen ∨ w0 = sOr) && decide (r.length ≤ 6)) := by
          show (if r.length = 0 then false else _) = _
          rw [if_neg (by omega)]
        rw [hs] at hQ
        clear hs no
        have el : (decide (V.int (xs.length : Int) = V.int 2)) = decide (r.length = 1) := by
          rw [Bool.eq_iff_iff]
          simp only [decide_eq_true_eq, V.int.injEq]
          omega
        refine ⟨_, rfl, a, xs, _, _, rfl, rfl, hx, h0, rfl, _, rfl, ?_⟩
        rw [dec_str]
        by_cases h3 : w0 = sThis
        · rw [decide_eq_true h3]
          rw [if_pos h3] at hQ
          refine iteT ⟨_, rfl, _, _, rfl, hx.len, rfl, _, rfl, ?_⟩
          rw [el]
          by_cases h4 : r.length = 1
          · rw [decide_eq_true h4] at hQ ⊢
            match r, h4, hi, hQ with
            | [d1], _, hi, hQ =>
            obtain ⟨v1, hv1, r1⟩ := hi.get' (i := 1) (d := d1) rfl
            refine iteT ⟨_, rfl, a, xs, _, _, rfl, rfl, hx, atI_at 1 hv1, v1, d1, rfl, r1, fun H2 s2 => ?_⟩
            have q := hQ H2 (st.trans s2)
            rw [Bool.true_and, List.headD_cons] at q
            refine ⟨_, rfl, ?_⟩
            cases e1 : isNameD d1 with
            | true =>
              rw [e1] at q
              exact iteT ⟨_, rfl, rfl, _, rfl, iteT q⟩
            | false =>
              rw [e1] at q
              exact iteF q
          · rw [decide_eq_false h4] at hQ ⊢
            exact iteF (hQ H1 st)
        · rw [decide_eq_false h3]
          rw [if_neg h3] at hQ
          refine iteF ⟨_, rfl, a, xs, _, _, rfl, rfl, hx, h0, rfl, _, rfl, ?_⟩
          rw [dec_str]
          by_cases h4 : w0 = sAgain
          · rw [decide_eq_true h4]
            rw [if_pos h4] at hQ
            refine iteT ⟨_, rfl, _, _, rfl, hx.len, rfl, ?_⟩
            rw [el]
            exact hQ H1 st
          · rw [decide_eq_false h4]
            rw [if_neg h4] at hQ
            refine iteF ⟨_, rfl, a, xs, _, _, rfl, rfl, hx, h0, by decide, fun p hp => ?_⟩
            have s2 := st.trans (same_upd (o := HO.tup [.str "then", .str "or"]) hp)
            refine ⟨p, _, rfl, .inr (SqT.of upd_same), rfl, rfl, _, rfl, ?_⟩
            have ei : (if false = true then !inV (.str w0) [V.str "then", V.str "or"] else inV (.str w0) [V.str "then", V.str "or"]) = decide (w0 = sThen ∨ w0 = sOr) := by
              rw [if_neg (by decide)]
              exact inV2 _ _ _
            rw [ei]
            by_cases h5 : w0 = sThen ∨ w0 = sOr
            · rw [decide_eq_true h5] at hQ ⊢
              refine iteT ⟨_, rfl, _, _, rfl, (hx.same (same_upd hp)).len, _, _, rfl, rfl, _, _, rfl, rfl, ?_⟩
              have q := hQ _ s2
              rw [Bool.true_and] at q
              have e6 : decide ((xs.length : Int) - 1 ≤ 6) = decide (r.length ≤ 6) := by
                rw [Bool.eq_iff_iff]
                simp only [decide_eq_true_eq]
                omega
              show Q (.bl (decide ((xs.length : Int) - 1 ≤ 6))) _
              rw [e6]
              exact q
            · rw [decide_eq_false h5] at hQ ⊢
              exact iteF (hQ _ s2)
      | _ => exact ⟨_, rfl, iteT (no (fun w h => by cases h))⟩
end
end Mine

set_option Elab.async false
set_option linter.all false
set_option maxRecDepth 100000
set_option maxHeartbeats 2000000
namespace Mine
open PySem PySem.Spec PyProof.Rows L2
def isThis : List PyData → Bool
  | .str w :: _ => decide (w = sThis)
  | _ => false
def kids (p : List Int) (ds : List PyData) : List (List Int × PyData) := (List.range (ds.length - 1)).map fun i => (p ++ [((i + 1 : Nat) : Int)], ds.getD (i + 1) .none)
def fw : Nat → List (List Int × PyData) → Option (List Int)
  | _, [] => none
  | 0, (p, _) :: _ => some p
  | n + 1, (p, c) :: l => if decide (8 ≤ p.length) || !shapedD c then some p else if isThis (items c) then fw n l else fw n (kids p (items c) ++ l)
def fwD (d : PyData) : Option (List Int) := fw 40 [([], d)]
def spFW (K : PySem.W.Frag) : Sp := fun vs H Q _ => ∃ v d, vs = [v, .non] ∧ Rp K H v d ∧ (∀ H', Same H H' → fwD d = none → Q .non H') ∧ ∀ pt p H', Same H H' → fwD d = some p → H' pt = some (.tup (p.map V.int)) → Q (.ref pt) H'
/-- a pair (path, chain) on the stack -/
def PairR (K : PySem.W.Frag) (H0 H : Hp) (y : V) (q : List Int × PyData) : Prop := ∃ t pt cv, y = .ref t ∧ H t = some (.tup [.ref pt, cv]) ∧ H pt = some (.tup (q.1.map V.int)) ∧ Rp K H0 cv q.2
theorem PairR.keep {K : PySem.W.Frag} {H0 H H' : Hp} {y : V} {q : List Int × PyData} (k : TupKeep H H') (h : PairR K H0 H y q) : PairR K H0 H' y q := by
  obtain ⟨t, pt, cv, a, b, c, d⟩ := h
  exact ⟨t, pt, cv, a, k _ _ b, k _ _ c, d⟩
inductive StR (K : PySem.W.Frag) (H0 H : Hp) : List V → List (List Int × PyData) → Prop
  | nil : StR K H0 H [] []
  | cons {y : V} {ys : List V} {q : List Int × PyData} {qs : List (List Int × PyData)} : PairR K H0 H y q → StR K H0 H ys qs → StR K H0 H (y :: ys) (q :: qs)
theorem StR.keep {K : PySem.W.Frag} {H0 H H' : Hp} (k : TupKeep H H') : ∀ {ys : List V} {qs : List (List Int × PyData)}, StR K H0 H ys qs → StR K H0 H' ys qs
  | _, _, .nil => .nil
  | _, _, .cons a b => .cons (a.keep k) (b.keep k)
theorem StR.app {K : PySem.W.Frag} {H0 H : Hp} : ∀ {ys zs : List V} {qs rs : List (List Int × PyData)}, StR K H0 H ys qs → StR K H0 H zs rs → StR K H0 H (ys ++ zs) (qs ++ rs)
  | _, _, _, _, .nil, h => h
  | _, _, _, _, .cons a b, h => .cons a (b.app h)
theorem StR.length {K : PySem.W.Frag} {H0 H : Hp} : ∀ {ys : List V} {qs : List (List Int × PyData)}, StR K H0 H ys qs → ys.length = qs.length
  | _, _, .nil => rfl
  | _, _, .cons _ b => congrArg Nat.succ b.length
theorem StR.of_get {K : PySem.W.Frag} {H0 H : Hp} : ∀ {ys : List V} {qs : List (List Int × PyData)}, ys.length = qs.length → (∀ (i : Nat) y q, ys[i]? = some y → qs[i]? = some q → PairR K H0 H y q) → StR K H0 H ys qs
  | [], [], _, _ => .nil
  | y :: ys, q :: qs, hl, h => .cons (h 0 y q rfl rfl) (StR.of_get (by simpa using hl) fun i y' q' a b => h (i + 1) y' q' (by simpa using a) (by simpa using b))
  | [], _ :: _, hl, _ => by simp at hl
  | _ :: _, [], hl, _ => by simp at hl
theorem shaped_head {d : PyData} (h : shapedD d = true) : isSeqD d = true ∧ ∃ w r, items d = .str w :: r ∧ 1 ≤ r.length ∧ r.length ≤ 6 := by
  unfold shapedD at h
  rw [Bool.and_eq_true] at h
  obtain ⟨h1, h2⟩ := h
  refine ⟨h1, ?_⟩
  unfold shapedL at h2
  split at h2
  · rename_i w r e
    refine ⟨w, r, e, ?_⟩
    split at h2
    · cases h2
    · split at h2
      · rw [Bool.and_eq_true, decide_eq_true_eq] at h2
        omega
      · split at h2
        · rw [decide_eq_true_eq] at h2
          omega
        · rw [Bool.and_eq_true, decide_eq_true_eq, decide_eq_true_eq] at h2
          omega
  · cases h2
theorem kids_length {p : List Int} {ds : List PyData} : (kids p ds).length = ds.length - 1 := by simp [kids]
theorem S_first_wrong : FnScope ["value", "kit", "left", "many", "path", "chain", "at"] ["value", "kit"] (defScope (top 15)) := ⟨rfl, rfl, rfl, by decide +kernel, rfl, by decide +kernel, by decide +kernel⟩
section
variable {P : Program} {w : World} {K : PySem.W.Frag} {mg : Str → Option Value} {base : Heap}
theorem D_first_wrong (T : Tx K mg) : Df P w K mg base CX0 3 "first_wrong" ["value", "kit"] [] (spFW K) := by
  have sc := S_first_wrong
  have DS := D_is_shaped (P := P) (w := w) (base := base) T
  refine df_of T.first_wrong sc (fun vs H Q E h => ?_) (fun _ _ _ _ _ _ us hl => match us, hl with | [_, _], _ => rfl) ?_
  · obtain ⟨v, d, rfl, _⟩ := h
    rfl
  intro f cdv A outer s H vs Q E hr h
  obtain ⟨v, d, rfl, R, hN, hS⟩ := h
  refine ⟨_, PSs.nox ((pss_cons (ps_par (i := 2) (j := 3) (by rfl) sc.nd rfl rfl (by decide) rfl rfl (pa_cons (pe_lst (pa_cons (pe_tup (pa_cons (pe_tup pa_nil) (pa_cons (pv 0) pa_nil))) pa_nil)) (pa_cons pe_int pa_nil)) (by rfl))
      (pss_cons (ps_while PassesOwn.never (pt_cmpR (op_ne_nil (Room.u hr)) (pv 2) (pe_lst pa_nil) (nomark _))
      (pss_cons (ps_asg (pe_bm0 PySem.F.plainAttrs_list PySem.F.slot_list_pop PySem.F.type_list_pop mt_pop (pv 2)) (pg_tup rfl (pgs_cons (pg_name (i := 4) sc.nd rfl (Or.inr rfl)) (pgs_cons (pg_name (i := 5) sc.nd rfl (Or.inr rfl)) pgs_nil))))
      (pss_cons (ps_aug (i := 3) sc.nd rfl (Or.inl rfl) pe_int ip_add)
      (pss_cons (ps_if (PW.pt (pw_or (pt_cmpR op_gt (pv 3) (pgi (T.gi "MOST_CHAINS_chains" 40)) (nomark _)) (pw_or (pt_cmpR op_ge (pe_callB call_len (by rfl) (T.fr "len") PyProof.Rows.Boot.«len» (pa_cons (pv 4) pa_nil)) (pgi (T.gi "MOST_LEVEL" 8)) (nomark _)) (pw_or1 (pt_not (pt_val (pcall DS hr .nil pass0 (pa_cons (pv 5) (pa_cons (pv 1) pa_nil)))))))))
      (pss_one (ps_ret (pv 4)))
      pss_nil)
      (pss_one (ps_if (pt_cmpR op_ne (pe_ix ix_x (pv 5) pe_int (fun _ _ => rfl)) pe_str (nomark _))
      (pss_one (ps_expr (pe_bm PySem.F.plainAttrs_list PySem.F.slot_list_extend PySem.F.type_list_extend mt_extend (pv 2) (pa_cons (pe_lc (own := [("at", 6)]) (g := gName 6) (tt := tYes) rfl sc.nd (pi_range3 (by rfl) (T.fr "range") (pa_cons (pe_op op_sub (pe_callB call_len (by rfl) (T.fr "len") PyProof.Rows.Boot.«len» (pa_cons (pv 5) pa_nil)) pe_int) (pa_cons pe_int (pa_cons (pe_un un_neg pe_int) pa_nil)))) (blkOk_by (N := ["value", "kit", "left", "many", "path", "chain", "at"]) (sc := defScope (top 15)) (by decide +kernel)) (fun _ _ _ _ _ => (pg_name (i := 6) sc.nd rfl (Or.inl rfl))) (fun _ _ _ _ _ => pts_nil) (fun _ _ _ _ _ => (pe_tup (pa_cons (pe_tup (pa_starb (K := K) (pv 4) (pa_cons (pv 6) pa_nil))) (pa_cons (pe_ix (ix_xb (K := K)) (pv 5) (pv 6) (fun _ _ => rfl)) pa_nil))))) pa_nil))))
      pss_nil))))))
      (pss_one (ps_ret pe_non))))), ?_⟩
  refine ⟨sz 0, fun pt hpt => ⟨v, rfl, sz 2, fun t ht => ⟨sz 1, fun l hl => ⟨_, _, rfl, ?_⟩⟩⟩⟩
  have s1 : Same H (upd (upd (upd H pt (.tup [])) t (.tup [.ref pt, v])) l (.lst [.ref t])) := ((same_upd hpt).trans (same_upd ht)).trans (same_upd hl)
  have hl0 : H l = none := by
    cases e : H l with
    | none => rfl
    | some o => rw [((same_upd hpt).trans (same_upd ht)) _ _ e] at hl; cases hl
  have hq : PairR K H (upd (upd (upd H pt (.tup [])) t (.tup [.ref pt, v])) l (.lst [.ref t])) (.ref t) ([], d) := by
    refine ⟨t, pt, v, rfl, same_upd hl _ _ upd_same, same_upd hl _ _ (same_upd ht _ _ upd_same), R⟩
  have hL : (upd (upd (upd H pt (.tup [])) t (.tup [.ref pt, v])) l (.lst [.ref t])) l = some (.lst [.ref t]) := upd_same
  generalize upd (upd (upd H pt (.tup [])) t (.tup [.ref pt, v])) l (.lst [.ref t]) = H1 at s1 hq hL
  refine while_by (fun σ H2 => ∃ (n : Nat) (st : List (List Int × PyData)) (ys : List V) (c4 c5 c6 : Option V), σ = [some v, some .non, some (.ref l), some (.int (40 - (n : Int))), c4, c5, c6] ∧ n ≤ 40 ∧ ys.length + 6 * n ≤ 241 ∧ Same H H2 ∧ H2 l = some (.lst ys.reverse) ∧ StR K H H2 ys st ∧ fw n st = fwD d)
    (fun σ _ => match σ[3]? with
      | some (some (V.int m)) => (41 - m).toNat
      | _ => 0) ⟨40, [([], d)], [.ref t], none, none, none, rfl, by omega, by show 1 + 6 * 40 ≤ 241; omega, s1, hL, .cons hq .nil, rfl⟩ ?_ ?_
  · rintro σ H2 ⟨n, st, ys, c4, c5, c6, rfl, hn, hyl, s2, hl2, hst, hf⟩
    refine ⟨_, rfl, by decide, fun p hp => ⟨l, p, _, rfl, rfl, SqL.of (same_upd hp _ _ hl2), SqL.of upd_same, _, rfl, ?_⟩⟩
    have s3 := s2.trans (same_upd (o := HO.lst []) hp)
    have hl3 := same_upd (o := HO.lst []) hp _ _ hl2
    have hst3 := hst.keep (TupKeep.of (same_upd (o := HO.lst []) hp))
    generalize upd H2 p (HO.lst []) = H3 at s3 hl3 hst3
    cases hst3 with
    | nil => exact iteF (hN H3 s3 (by rw [← hf]; simp [fw]))
    | @cons y ys q qs hy hys =>
      refine ite_of true (by simp) (iteT ?_)
      have hdl : (y :: ys).reverse.dropLast = ys.reverse := by rw [List.reverse_cons, List.dropLast_concat]
      obtain ⟨ty, py, cv, rfl, hty, hpy, hcv⟩ := hy
      refine ⟨_, rfl, .inl ⟨rfl, _, SqL.of hl3⟩, l, _, .ref ty, rfl, rfl, hl3, ?_, ?_⟩
      · rw [List.getElem?_reverse (by simp)]
        simp
      rw [hdl]
      have tk := TupKeep.lst (o := .lst ys.reverse) hl3
      have s4 : Same H (upd H3 l (.lst ys.reverse)) := smut s3 hl0
      have hl4 : (upd H3 l (HO.lst ys.reverse)) l = some (.lst ys.reverse) := upd_same
      replace hty := tk _ _ hty
      replace hpy := tk _ _ hpy
      replace hys := hys.keep tk
      generalize upd H3 l (HO.lst ys.reverse) = H4 at s4 hl4 hty hpy hys
      refine ⟨ty, [.ref py, cv], rfl, SqT.of hty, rfl, _, _, rfl, _, _, rfl, rfl, ?_⟩
      refine ⟨_, rfl, _, _, rfl, rfl, ?_⟩
      refine ⟨_, rfl, _, _, rfl, rfl, _, rfl, ?_⟩
      cases n with
      | zero =>
        refine ite_of true (by decide) (iteT (iteT ⟨_, rfl, hS py q.1 H4 s4 ?_ hpy⟩))
        rw [← hf]
        obtain ⟨q1, q2⟩ := q
        rfl
      | succ n =>
      refine ite_of false (decide_eq_false (by show ¬ (40 : Int) < 40 - ((n + 1 : Nat) : Int) + 1; omega)) (iteF ?_)
      refine ⟨_, rfl, _, _, rfl, .inr ⟨_, SqT.of hpy, rfl⟩, _, _, rfl, rfl, _, rfl, ?_⟩
      have hf' : (if decide (8 ≤ q.1.length) || !shapedD q.2 then some q.1 else if isThis (items q.2) then fw n qs else fw n (kids q.1 (items q.2) ++ qs)) = fwD d := by
        rw [← hf]
        obtain ⟨q1, q2⟩ := q
        rfl
      rw [List.length_map]
      by_cases h8 : 8 ≤ q.1.length
      · rw [decide_eq_true h8, Bool.true_or, if_pos rfl] at hf'
        rw [decide_eq_true (show (8 : Int) ≤ (q.1.length : Int) by omega)]
        exact iteT (iteT ⟨_, rfl, hS py q.1 H4 s4 hf'.symm hpy⟩)
      rw [decide_eq_false h8, Bool.false_or] at hf'
      rw [decide_eq_false (show ¬ (8 : Int) ≤ (q.1.length : Int) by omega)]
      refine iteF ⟨_, rfl, _, rfl, cv, q.2, rfl, hcv.same s4, fun H5 s5 => ?_⟩
      have s6 := s4.trans s5
      replace hl4 := s5 _ _ hl4
      replace hpy := s5 _ _ hpy
      replace hys := hys.keep (TupKeep.of s5)
      cases hsd : shapedD q.2 with
      | false =>
        rw [hsd, if_pos (by rfl)] at hf'
        exact ⟨_, rfl, iteT ⟨_, rfl, hS py q.1 H5 s6 hf'.symm hpy⟩⟩
      | true =>
      rw [hsd, if_neg (by decide)] at hf'
      refine ⟨_, rfl, iteF ?_⟩
      obtain ⟨hsq, w0, r, hit, hr1, hr6⟩ := shaped_head hsd
      obtain ⟨a, xs, rfl, hx0, hi, hil, hxl⟩ := hcv.seq hsq
      have hx := hx0.same s6
      rw [hit] at hi hxl hf'
      obtain ⟨v0, hv0, r0⟩ := hi.get' (i := 0) (d := .str w0) rfl
      cases r0
      rename_i hw0
      refine ⟨_, rfl, a, xs, _, _, rfl, rfl, hx, atI_at 0 hv0, rfl, _, rfl, ?_⟩
      rw [dec_str]
      simp only [List.length_cons] at hyl
      have hσ : 40 - ((n + 1 : Nat) : Int) + 1 = 40 - (n : Int) := by omega
      by_cases hth : w0 = sThis
      · rw [decide_eq_true hth]
        refine iteF ⟨⟨n, qs, ys, some (.ref py), some (.ref a), c6, ?_, by omega, by omega, s6, hl4, hys, ?_⟩, ?_⟩
        · show [some v, some .non, some (.ref l), some (.int (40 - ((n + 1 : Nat) : Int) + 1)), some (.ref py), some (.ref a), c6] = _
          rw [hσ]
        · rw [← hf', if_pos (show isThis (PyData.str w0 :: r) = true from decide_eq_true hth)]
        · show (41 - (40 - ((n + 1 : Nat) : Int) + 1)).toNat < (41 - (40 - ((n + 1 : Nat) : Int))).toNat
          omega
      · rw [decide_eq_false hth]
        refine iteT ⟨_, rfl, .inl ⟨rfl, _, SqL.of hl4⟩, ?_⟩
        refine ⟨_, rfl, _, _, rfl, hx.len, _, _, rfl, rfl, ?_⟩
        have hxl2 : xs.length = r.length + 1 := by simpa using hxl
        refine ⟨_, rfl, _, _, _, _, rfl, RgC.neg (by omega) (by omega) (by omega) (by omega), fun D hD => ?_⟩
        have hnn : (((xs.length : Int) - 1) - 0).toNat = r.length := by omega
        have hle : l ≠ D := ne_of_none hl4 hD
        refine lcMap walk_rangeC (by omega) (fun _ _ => trivial) (fun i y H6 => ∃ t2 pt2 cv2, t2 ≠ D ∧ pt2 ≠ D ∧ y = .ref t2 ∧ H6 t2 = some (.tup [.ref pt2, cv2]) ∧ H6 pt2 = some (.tup ((q.1 ++ [((r.length - i : Nat) : Int)]).map V.int)) ∧ ∃ d2, (PyData.str w0 :: r)[r.length - i]? = some d2 ∧ Rp K H cv2 d2) hD ?_ ?_ ?_
        · rintro i y H6 H7 hk ⟨t2, pt2, cv2, n1, n2, e1, e2, e3, e4⟩
          exact ⟨t2, pt2, cv2, n1, n2, e1, hk _ _ n1 e2, hk _ _ n2 e3, e4⟩
        · rintro i x H6 H7 hi2 s7 ⟨yD, hD6⟩ ⟨rfl, rfl⟩ R hR
          have hix : (xs.length : Int) - 1 + (i : Nat) * (-1) = ((r.length - i : Nat) : Int) := by omega
          refine ⟨_, rfl, py, _, rfl, .inl (SqT.of (s7 _ _ hpy)), _, rfl, ?_⟩
          refine ⟨?_, fun p2 hp2 => ?_⟩
          · rw [List.length_append, List.length_map, sizeLine_eq]
            simp only [List.length_cons, List.length_nil]
            omega
          have sA := same_upd (o := HO.tup (q.1.map V.int ++ [.int ((xs.length : Int) - 1 + (i : Nat) * (-1))])) hp2
          obtain ⟨d2, hd2⟩ : ∃ d2, (PyData.str w0 :: r)[r.length - i]? = some d2 := ⟨(PyData.str w0 :: r)[r.length - i]'(by simp only [List.length_cons]; omega), by rw [List.getElem?_eq_getElem]⟩
          obtain ⟨cv2, hcv2, r2⟩ := hi.get' hd2
          refine ⟨_, rfl, _, rfl, a, xs, _, cv2, rfl, rfl, (hx.same s7).same sA, ?_, ?_⟩
          · rw [hix]
            exact atI_nat hcv2
          refine ⟨sz 2, fun t2 ht2 => hR _ _ (sA.trans (same_upd ht2)) ⟨t2, p2, cv2, ?_, ?_, rfl, upd_same, ?_, d2, hd2, r2⟩⟩
          · exact fun z => by rw [z, sA _ _ hD6] at ht2; cases ht2
          · exact fun z => by rw [z, hD6] at hp2; cases hp2
          · rw [same_upd ht2 _ _ upd_same]
            show some (HO.tup (q.1.map V.int ++ [V.int ((xs.length : Int) - 1 + (i : Nat) * (-1))])) = _
            rw [hix, List.map_append]
            rfl
        · intro zs H6 hzl hzf hD6 s7
          refine ⟨l, D, _, _, rfl, rfl, s7 _ _ hl4, hD6, ?_, ⟨n, kids q.1 (PyData.str w0 :: r) ++ qs, zs.reverse ++ ys, some (.ref py), some (.ref a), c6, ?_, by omega, ?_, ?_, ?_, ?_, ?_⟩, ?_⟩
          · rw [List.length_reverse, sizeLine_eq]
            omega
          · show [some v, some .non, some (.ref l), some (.int (40 - ((n + 1 : Nat) : Int) + 1)), some (.ref py), some (.ref a), c6] = _
            rw [hσ]
          · rw [List.length_append, List.length_reverse]
            omega
          · exact smut (s6.trans s7) hl0
          · rw [upd_same, List.reverse_append, List.reverse_reverse]
          · have k1 : TupKeep H6 (upd H6 l (.lst (ys.reverse ++ zs))) := TupKeep.lst (s7 _ _ hl4)
            refine StR.app (StR.of_get (by rw [List.length_reverse, kids_length, List.length_cons]; omega) fun i y q' hy hq' => ?_) ((hys.keep (TupKeep.of s7)).keep k1)
            have hi2 : i < zs.length := by
              have := (List.getElem?_eq_some_iff.mp hy).1
              simpa using this
            rw [List.getElem?_reverse (by omega)] at hy
            obtain ⟨t2, pt2, cv2, _, _, rfl, e2, e3, d2, hd2, r2⟩ := hzf _ _ hy
            have hidx : r.length - (zs.length - 1 - i) = i + 1 := by omega
            rw [hidx] at e3 hd2
            have eq' : q' = (q.1 ++ [((i + 1 : Nat) : Int)], d2) := by
              unfold kids at hq'
              rw [List.getElem?_map, List.getElem?_range (by simp only [List.length_cons]; omega)] at hq'
              have h0 := Option.some.inj hq'
              rw [← h0]
              show (q.1 ++ [((i + 1 : Nat) : Int)], (PyData.str w0 :: r).getD (i + 1) PyData.none) = _
              rw [List.getD_eq_getElem?_getD, hd2]
              rfl
            rw [eq']
            exact ⟨t2, pt2, cv2, rfl, k1 _ _ e2, k1 _ _ e3, r2⟩
          · rw [← hf', if_neg (show ¬ isThis (PyData.str w0 :: r) = true from fun z => hth (of_decide_eq_true z))]
          · show (41 - (40 - ((n + 1 : Nat) : Int) + 1)).toNat < (41 - (40 - ((n + 1 : Nat) : Int))).toNat
            omega
  · rintro σ H2 Q1 Q2 hq ⟨v2, e2, hz, h2⟩
    refine ⟨v2, e2, hz, fun p hp => ?_⟩
    obtain ⟨a, b, xs, e3, e4, e5, e6, k, e7, q⟩ := h2 p hp
    exact ⟨a, b, xs, e3, e4, e5, e6, k, e7, hq _ _ q⟩
end
end Mine

set_option linter.all false
namespace Mine
open PySem
theorem fm_shaped {c : Ch} {d : PyData} (h : Fm c d) (hok : c.ok) : shapedD d = true := by
  cases c with
  | this s =>
    rw [Fm] at h
    have hn : nameOk s = true := by simpa [Ch.ok] using hok
    unfold shapedD
    rw [h.1, h.2, Bool.true_and]
    show (if [PyData.str s].length = 0 then false else if sThis = sThis then decide ([PyData.str s].length = 1) && nameOk s else if sThis = sAgain then decide ([PyData.str s].length = 1) else decide (sThis = sThen ∨ sThis = sOr) && decide ([PyData.str s].length ≤ 6)) = true
    rw [if_neg (show ¬ [PyData.str s].length = 0 from Nat.succ_ne_zero 0), if_pos rfl, hn]
    rfl
  | node w ps =>
    rw [Fm] at h
    obtain ⟨h1, ds, e, hf⟩ := h
    obtain ⟨hw, hp1, hp2, hps⟩ := (by simpa [Ch.ok] using hok : w ∈ heads ∧ 1 ≤ ps.length ∧ ps.length ≤ most w ∧ okL ps)
    unfold shapedD
    rw [h1, e, Bool.true_and]
    have hl := hf.length
    show (if ds.length = 0 then false else if w = sThis then _ else if w = sAgain then decide (ds.length = 1) else decide (w = sThen ∨ w = sOr) && decide (ds.length ≤ 6)) = true
    rw [if_neg (by omega)]
    unfold most at hp2
    rcases mem_heads hw with e | e | e
    · subst e
      rw [if_neg (by decide), if_neg (by decide), decide_eq_true (.inl rfl), Bool.true_and]
      rw [if_neg (by decide)] at hp2
      exact decide_eq_true (by omega)
    · subst e
      rw [if_neg (by decide), if_neg (by decide), decide_eq_true (.inr rfl), Bool.true_and]
      rw [if_neg (by decide)] at hp2
      exact decide_eq_true (by omega)
    · subst e
      rw [if_neg (by decide), if_pos rfl]
      rw [if_pos rfl] at hp2
      exact decide_eq_true (by omega)
mutual
theorem fw_ch : ∀ (c : Ch) (d : PyData) (p : List Int) (m : Nat) (l : List (List Int × PyData)), c.ok → Fm c d → p.length + c.depth ≤ 8 → fw (c.size + m) ((p, d) :: l) = fw m l
  | .this s, d, p, m, l, hok, hf, hp => by
    have hs := fm_shaped hf hok
    rw [Fm] at hf
    simp only [Ch.depth, Ch.size] at hp ⊢
    rw [Nat.add_comm 1 m]
    show (if decide (8 ≤ p.length) || !shapedD d then some p else if isThis (items d) then fw m l else fw m (kids p (items d) ++ l)) = _
    rw [hs, decide_eq_false (by omega), if_neg (by decide), hf.2, if_pos (show isThis [.str sThis, .str s] = true from (decide_eq_true (p := sThis = sThis) rfl : decide (sThis = sThis) = true))]
  | .node w ps, d, p, m, l, hok, hf, hp => by
    have hs := fm_shaped hf hok
    rw [Fm] at hf
    obtain ⟨h1, ds, e, hf⟩ := hf
    obtain ⟨hw, hp1, hp2, hps⟩ := (by simpa [Ch.ok] using hok : w ∈ heads ∧ 1 ≤ ps.length ∧ ps.length ≤ most w ∧ okL ps)
    simp only [Ch.depth, Ch.size] at hp ⊢
    rw [show 1 + sizeL ps + m = (sizeL ps + m) + 1 by omega]
    show (if decide (8 ≤ p.length) || !shapedD d then some p else if isThis (items d) then fw (sizeL ps + m) l else fw (sizeL ps + m) (kids p (items d) ++ l)) = _
    have hth : isThis (PyData.str w :: ds) = false := decide_eq_false (show ¬ w = sThis by rcases mem_heads hw with e | e | e <;> (rw [e]; decide))
    rw [hs, decide_eq_false (by omega), if_neg (by decide), e, hth, if_neg (by decide)]
    have hk : ∀ (k : Nat), (List.range ds.length).map (fun i => (p ++ [((i + 1 : Nat) : Int)], (PyData.str w :: ds).getD (i + 1) .none)) = kids p (PyData.str w :: ds) := fun _ => rfl
    refine fw_kids ps ds (kids p (PyData.str w :: ds)) m l (p.length + 1) hps hf ?_ ?_ (by omega)
    · unfold kids
      rw [List.map_map]
      refine List.ext_getElem? fun i => ?_
      by_cases hi : i < ds.length
      · rw [List.getElem?_map, List.getElem?_range (by simpa using hi)]
        show some ((PyData.str w :: ds).getD (i + 1) .none) = _
        rw [List.getD_eq_getElem?_getD, List.getElem?_cons_succ, List.getElem?_eq_getElem hi]
        rfl
      · rw [List.getElem?_eq_none (by simp; omega), List.getElem?_eq_none (by omega)]
    · intro q hq
      unfold kids at hq
      obtain ⟨i, _, e⟩ := List.mem_map.mp hq
      rw [← e]
      simp
theorem fw_kids : ∀ (ps : List Ch) (ds : List PyData) (qs : List (List Int × PyData)) (m : Nat) (l : List (List Int × PyData)) (k : Nat), okL ps → FmL ps ds → qs.map (·.2) = ds → (∀ q ∈ qs, q.1.length = k) → k + depthL ps ≤ 8 → fw (sizeL ps + m) (qs ++ l) = fw m l
  | [], ds, qs, m, l, k, _, hf, e, _, _ => by
    rw [FmL] at hf
    rw [hf] at e
    rw [List.map_eq_nil_iff.mp e]
    simp [sizeL]
  | c :: ps, ds, qs, m, l, k, hok, hf, e, hk, hd => by
    rw [FmL] at hf
    obtain ⟨d, es, rfl, f1, f2⟩ := hf
    obtain ⟨o1, o2⟩ := (by simpa [okL] using hok : c.ok ∧ okL ps)
    match qs, e with
    | (p, d') :: qs, e =>
      rw [List.map_cons] at e
      obtain ⟨e1, e2⟩ := List.cons.inj e
      have e1 : d' = d := e1
      subst e1
      have hp : p.length = k := hk _ (List.mem_cons_self ..)
      simp only [depthL, sizeL] at hd ⊢
      rw [Nat.add_assoc, List.cons_append, fw_ch c d' p (sizeL ps + m) (qs ++ l) o1 f1 (by omega)]
      exact fw_kids ps es qs m l k o2 f2 e2 (fun q hq => hk q (List.mem_cons_of_mem _ hq)) (by omega)
end
theorem fwD_ok {c : Ch} {d : PyData} (hok : c.ok) (hf : Fm c d) (hs : c.size ≤ 40) (hd : c.depth ≤ 8) : fwD d = none := by
  unfold fwD
  obtain ⟨m, e⟩ := Nat.exists_eq_add_of_le hs
  rw [e, fw_ch c d [] m [] hok hf (by simpa using hd)]
  cases m <;> rfl
mutual
theorem fm_dp : ∀ (c : Ch) (d : PyData), Fm c d → dp d ≤ c.depth
  | .this s, d, h => by
    rw [Fm] at h
    rw [dp_items h.1, h.2]
    simp [dpL, dp, Ch.depth]
  | .node w ps, d, h => by
    rw [Fm] at h
    obtain ⟨h1, ds, e, hf⟩ := h
    rw [dp_items h1, e]
    have := fmL_dp ps ds hf
    simp only [dpL, dp, Ch.depth]
    omega
theorem fmL_dp : ∀ (ps : List Ch) (ds : List PyData), FmL ps ds → dpL ds ≤ depthL ps
  | [], ds, h => by
    rw [FmL] at h
    rw [h]
    simp [dpL]
  | c :: ps, ds, h => by
    rw [FmL] at h
    obtain ⟨d, es, rfl, f1, f2⟩ := h
    have h1 := fm_dp c d f1
    have h2 := fmL_dp ps es f2
    simp only [dpL, depthL]
    omega
end
end Mine

set_option Elab.async false
set_option linter.all false
set_option maxRecDepth 100000
set_option maxHeartbeats 2000000
namespace Mine
open PySem PySem.Spec PyProof.Rows L2
def spNeed (K : PySem.W.Frag) (cC : Addr) : Sp := fun vs H Q E => ∃ v d, vs = [v, .non] ∧ Rp K H v d ∧ dp d ≤ 12 ∧ (∀ u H', Same H H' → fwD d = none → Q u H') ∧
  ∀ pt p dd H', Same H H' → fwD d = some p → H' pt = some (.tup (p.map V.int)) → H' dd = none → E (.ref cC) (some dd) (upd H' dd (.xd [("path", .ref pt)]))
theorem S_need_chain : FnScope ["value", "kit", "path"] ["value", "kit"] (defScope (top 16)) := ⟨rfl, rfl, rfl, by decide +kernel, rfl, by decide +kernel, by decide +kernel⟩
section
variable {P : Program} {w : World} {K : PySem.W.Frag} {mg : Str → Option Value} {base : Heap} {cS cC cT : Addr}
theorem D_need_chain (T : Tx K mg) (Z : Tz P K mg cS cC cT) : ∃ ds, Vals [V.non] ds ∧ Df P w K mg base (CX P w) 14 "need_chain" ["value", "kit"] ds (spNeed K cC) := by
  have sc := S_need_chain
  have DW := D_first_wrong (P := P) (w := w) (base := base) T
  have DF := D_fixed (P := P) (w := w) (base := base) T 12
  obtain ⟨fI, X1⟩ := Z.chain.t
  obtain ⟨f, fd, F, e⟩ := T.need_chain
  obtain ⟨ds, hv, hb⟩ := F.binds1 (ps := ["value", "kit"]) 1 0 (by simp) rfl fun _ _ _ _ _ _ _ us its h1 h2 => match us, its, h1, h2 with | [_], [_], _, _ => ⟨_, rfl, rfl⟩
  refine ⟨ds, hv, f, fd, e, F.kp, hb, F.ok sc (fun vs H Q E h => ?_) fun cdv A outer s H vs Q E hr h => ?_⟩
  · obtain ⟨v, d, rfl, _⟩ := h
    rfl
  obtain ⟨v, d, rfl, R, hd, hQ, hE⟩ := h
  refine ⟨_, ((pss_cons (ps_set (i := 2) sc.nd rfl (Or.inl rfl) (pcall DW (hr.mono (by decide)) .nil pass0 (pa_cons (pv 0) (pa_cons (pv 1) pa_nil))))
      (pss_cons (ps_if (pt_cmpR op_notN (pv 2) pe_non (nomark _))
      (pss_one (ps_raise rfl (takes_of rfl rfl rfl rfl) (pmk_ex X1 (by decide) hr Z.chain.m Z.chain.kp Z.chain.ex Z.chain.ty (pa_cons (pv 2) pa_nil))))
      pss_nil)
      (pss_one (ps_ret (pcall DF (hr.mono (by decide)) .nil pass0 (pa_cons (pv 0) pa_nil))))))), ?_⟩
  refine ⟨_, rfl, _, rfl, v, d, rfl, R, fun H1 s1 hn => ?_, fun pt p H1 s1 hp ht => ?_⟩
  · refine ⟨_, rfl, rfl, _, rfl, iteF ⟨_, rfl, v, d, rfl, R.same s1, hd, fun u H2 s2 => hQ u H2 (s1.trans s2) hn⟩⟩
  · refine ⟨_, rfl, rfl, _, rfl, iteT ⟨_, rfl, rfl, fun dd hdd => hE pt p dd H1 s1 hp ht hdd⟩⟩
end
end Mine

set_option Elab.async false
set_option linter.all false
set_option maxRecDepth 100000
set_option maxHeartbeats 2000000
namespace Mine
open PySem PySem.Spec PyProof.Rows L2
def spWords (K : PySem.W.Frag) (n : Nat) : Sp := fun vs H Q _ => ∃ v d c, vs = [v] ∧ Rp K H v d ∧ Fm c d ∧ c.ok ∧ c.depth ≤ n ∧ c.size ≤ 40 ∧ ∀ p H', Same H H' → H' p = some (.lst (c.words.map V.str)) → Q (.ref p) H'
theorem S_chain_words : FnScope ["chain", "found", "part"] ["chain"] (defScope (top 24)) := ⟨rfl, rfl, rfl, by decide +kernel, rfl, by decide +kernel, by decide +kernel⟩
theorem head_ne {w : Str} (h : w ∈ heads) : w ≠ sThis := by
  rcases mem_heads h with e | e | e <;> (rw [e]; decide)
section
variable {P : Program} {w : World} {K : PySem.W.Frag} {mg : Str → Option Value} {base : Heap}
theorem D_chain_words (T : Tx K mg) : ∀ n, Df P w K mg base CX0 (n + 1) "chain_words" ["chain"] [] (spWords K n) := by
  have sc := S_chain_words
  intro n
  induction n with
  | zero =>
    refine df_of T.chain_words sc (fun vs H Q E h => ?_) (fun _ _ _ _ _ _ us hl => match us, hl with | [_], _ => rfl) ?_
    · obtain ⟨v, d, c, rfl, _⟩ := h
      rfl
    intro f cdv A outer s H vs Q E hr h
    obtain ⟨v, d, c, rfl, R, hF, hok, hd, _⟩ := h
    exact absurd (size_pos c).2 (by omega)
  | succ n ih =>
    refine df_of T.chain_words sc (fun vs H Q E h => ?_) (fun _ _ _ _ _ _ us hl => match us, hl with | [_], _ => rfl) ?_
    · obtain ⟨v, d, c, rfl, _⟩ := h
      rfl
    intro f cdv A outer s H vs Q E hr h
    obtain ⟨v, d, c, rfl, R, hF, hok, hd, hsz, hQ⟩ := h
    refine ⟨_, PSs.nox ((pss_cons (ps_if (pt_cmpR op_eq (pe_ix ix_x (pv 0) pe_int (fun _ _ => rfl)) pe_str (nomark _))
      (pss_one (ps_ret (pe_lst (pa_cons (pe_ix ix_x (pv 0) pe_int (fun _ _ => rfl)) pa_nil))))
      pss_nil)
      (pss_cons (ps_set (i := 1) sc.nd rfl (Or.inl rfl) (pe_lst (pa_cons (pgs (T.gs "OPEN" "(")) (pa_cons (pe_ix ix_x (pv 0) pe_int (fun _ _ => rfl)) pa_nil))))
      (pss_cons (ps_for PassesOwn.never rfl (pi_lt (pe_slice sl_x (pv 0) (po_some pe_int) po_none)) (pg_name (i := 2) sc.nd rfl (Or.inl rfl))
      (pss_one (ps_expr (pe_bm PySem.F.plainAttrs_list PySem.F.slot_list_extend PySem.F.type_list_extend mt_extend (pv 1) (pa_cons (pcall ih hr .nil pass0 (pa_cons (pv 2) pa_nil)) pa_nil)))))
      (pss_one (ps_ret (pe_lst (StX.pa_star (pv 1) (pa_cons (pgs (T.gs "SHUT" ")")) pa_nil))))))))), ?_⟩
    obtain ⟨a, xs, rfl, hx, hi, hil, hxl⟩ := R.seq hF.seq
    cases c with
    | this z =>
      rw [Fm] at hF
      obtain ⟨_, e⟩ := hF
      rw [e] at hi hxl
      obtain ⟨v0, hv0, r0⟩ := hi.get' (i := 0) (d := .str sThis) rfl
      obtain ⟨v1, hv1, r1⟩ := hi.get' (i := 1) (d := .str z) rfl
      cases r0
      cases r1
      refine ⟨_, rfl, a, xs, _, _, rfl, rfl, hx, atI_at 0 hv0, rfl, _, rfl, ?_⟩
      refine ite_of true (decide_eq_true rfl) (iteT ?_)
      refine ⟨_, rfl, a, xs, _, _, rfl, rfl, hx, atI_at 1 hv1, sz 1, fun p hp => hQ p _ (same_upd hp) upd_same⟩
    | node w0 ps =>
      rw [Fm] at hF
      obtain ⟨_, ds, e, hF⟩ := hF
      obtain ⟨hw, hp1, hp2, hps⟩ := (by simpa [Ch.ok] using hok : w0 ∈ heads ∧ 1 ≤ ps.length ∧ ps.length ≤ most w0 ∧ okL ps)
      rw [e] at hi hxl
      obtain ⟨v0, hv0, r0⟩ := hi.get' (i := 0) (d := .str w0) rfl
      cases r0
      simp only [Ch.depth, Ch.size] at hd hsz
      have hxl2 : xs.length = ps.length + 1 := by
        rw [hxl, List.length_cons, hF.length]
      have hwl := wordsL_length ps
      refine ⟨_, rfl, a, xs, _, _, rfl, rfl, hx, atI_at 0 hv0, rfl, _, rfl, ?_⟩
      rw [dec_str, decide_eq_false (head_ne hw)]
      refine iteF ?_
      refine ⟨_, rfl, a, xs, _, _, rfl, rfl, hx, atI_at 0 hv0, sz 2, fun l hl => ?_⟩
      have s1 := same_upd (o := HO.lst [.str "(", .str w0]) hl
      have hl1 : upd H l (HO.lst [.str "(", .str w0]) l = some (.lst ([sOpen, w0].map V.str)) := upd_same
      generalize upd H l (HO.lst [.str "(", .str w0]) = H1 at s1 hl1
      refine ⟨_, rfl, _, rfl, a, xs, rfl, hx.same s1, cut_not (by omega), fun p o hp ho => ?_⟩
      rw [cut1 (by omega)] at ho
      have s2 := same_upd (o := o) hp
      have hpx : SqX K (upd H1 p o) p (xs.drop 1) := SqX.new ho
      have hl2 := s2 _ _ hl1
      have hne : p ≠ l := fun z => by rw [z, hl1] at hp; cases hp
      replace s2 := s1.trans s2
      generalize upd H1 p o = H2 at s2 hpx hl2
      refine ⟨p, xs.drop 1, rfl, hpx, fun J wk => ?_⟩
      have hlen : (xs.drop 1).length = ps.length := by rw [List.length_drop]; omega
      refine for_it wk (fun i σ H3 => ∃ c2, σ = [some (.ref a), some (.ref l), c2] ∧ Keep [l] H2 H3 ∧ Same H H3 ∧ H3 l = some (.lst ((sOpen :: w0 :: wordsL (ps.take i)).map V.str))) ⟨none, rfl, Keep.refl _, s2, ?_⟩ (fun i σ H3 _ h => h.elim fun _ h => h.2.1.sty (by simpa using hne)) ?_ ?_
      · rw [hl2]
        rfl
      · rintro i x σ H3 H4 hi2 ⟨c2, rfl, k3, s3, hl3⟩ ⟨rfl, hx2⟩
        have hi3 : i < ps.length := by omega
        have hci := List.getElem?_eq_getElem hi3
        obtain ⟨d2, hd2, f2⟩ := hF.get hci
        obtain ⟨v2, hv2, r2⟩ := hi.get' (i := i + 1) (d := d2) (by simpa using hd2)
        rw [List.getElem?_drop, Nat.add_comm, hv2] at hx2
        cases hx2
        have q1 := depthL_get hci
        have q2 := sizeL_get hci
        refine ⟨_, rfl, .inl ⟨rfl, _, SqL.of hl3⟩, _, rfl, x, d2, ps[i], rfl, r2.same s3, f2, okL_get hps hci, by omega, by omega, fun p5 H5 s5 h5 => ?_⟩
        refine ⟨l, p5, _, _, rfl, rfl, s5 _ _ hl3, h5, ?_, some x, rfl, keep_upd (keep_same k3 s5) (by simp), smut (s3.trans s5) ?_, ?_⟩
        · rw [List.length_map, List.length_map, sizeLine_eq]
          have := wordsL_take_length ps i
          have := words_length ps[i]
          simp only [List.length_cons]
          omega
        · exact hl
        · rw [upd_same, wordsL_take hci, ← List.map_append]
          rfl
      · rintro σ H3 ⟨c2, rfl, k3, s3, hl3⟩
        rw [hlen, List.take_length] at hl3
        refine ⟨_, rfl, l, _, rfl, .inr (SqL.of hl3), ?_, fun p4 h4 => hQ p4 _ (s3.trans (same_upd h4)) ?_⟩
        · rw [List.length_append, List.length_map, sizeLine_eq]
          simp only [List.length_cons, List.length_nil]
          omega
        · rw [upd_same]
          show some (HO.lst ((sOpen :: w0 :: wordsL ps).map V.str ++ [V.str ")"])) = _
          rw [Ch.words, List.map_cons, List.map_cons, List.map_cons, List.map_cons, List.map_append]
          rfl
end
end Mine

set_option Elab.async false
set_option linter.all false
set_option maxRecDepth 100000
set_option maxHeartbeats 2000000
namespace Mine
open PySem PySem.Spec PyProof.Rows L2
theorem S_law_words : FnScope ["chain", "found", "part"] ["chain"] (defScope (top 35)) := ⟨rfl, rfl, rfl, by decide +kernel, rfl, by decide +kernel, by decide +kernel⟩
section
variable {P : Program} {w : World} {K : PySem.W.Frag} {mg : Str → Option Value} {base : Heap}
theorem D_law_words (T : Tx K mg) : ∀ n, Df P w K mg base CX0 (n + 1) "_law_words" ["chain"] [] (spWords K n) := by
  have sc := S_law_words
  intro n
  induction n with
  | zero =>
    refine df_of T.law_words sc (fun vs H Q E h => ?_) (fun _ _ _ _ _ _ us hl => match us, hl with | [_], _ => rfl) ?_
    · obtain ⟨v, d, c, rfl, _⟩ := h
      rfl
    intro f cdv A outer s H vs Q E hr h
    obtain ⟨v, d, c, rfl, R, hF, hok, hd, _⟩ := h
    exact absurd (size_pos c).2 (by omega)
  | succ n ih =>
    refine df_of T.law_words sc (fun vs H Q E h => ?_) (fun _ _ _ _ _ _ us hl => match us, hl with | [_], _ => rfl) ?_
    · obtain ⟨v, d, c, rfl, _⟩ := h
      rfl
    intro f cdv A outer s H vs Q E hr h
    obtain ⟨v, d, c, rfl, R, hF, hok, hd, hsz, hQ⟩ := h
    refine ⟨_, PSs.nox ((pss_cons (ps_if (pt_cmpR op_eq (pe_ix ix_x (pv 0) pe_int (fun _ _ => rfl)) pe_str (nomark _))
      (pss_one (ps_ret (pe_lst (pa_cons (pe_ix ix_x (pv 0) pe_int (fun _ _ => rfl)) pa_nil))))
      pss_nil)
      (pss_cons (ps_set (i := 1) sc.nd rfl (Or.inl rfl) (pe_lst (pa_cons pe_str (pa_cons (pe_ix ix_x (pv 0) pe_int (fun _ _ => rfl)) pa_nil))))
      (pss_cons (ps_for PassesOwn.never rfl (pi_lt (pe_slice sl_x (pv 0) (po_some pe_int) po_none)) (pg_name (i := 2) sc.nd rfl (Or.inl rfl))
      (pss_one (ps_set (i := 1) sc.nd rfl (Or.inl rfl) (pe_op op_cat (pv 1) (pcall ih hr .nil pass0 (pa_cons (pv 2) pa_nil))))))
      (pss_one (ps_ret (pe_op op_cat (pv 1) (pe_lst (pa_cons pe_str pa_nil))))))))), ?_⟩
    obtain ⟨a, xs, rfl, hx, hi, hil, hxl⟩ := R.seq hF.seq
    cases c with
    | this z =>
      rw [Fm] at hF
      obtain ⟨_, e⟩ := hF
      rw [e] at hi hxl
      obtain ⟨v0, hv0, r0⟩ := hi.get' (i := 0) (d := .str sThis) rfl
      obtain ⟨v1, hv1, r1⟩ := hi.get' (i := 1) (d := .str z) rfl
      cases r0
      cases r1
      refine ⟨_, rfl, a, xs, _, _, rfl, rfl, hx, atI_at 0 hv0, rfl, _, rfl, ?_⟩
      refine ite_of true (decide_eq_true rfl) (iteT ?_)
      refine ⟨_, rfl, a, xs, _, _, rfl, rfl, hx, atI_at 1 hv1, sz 1, fun p hp => hQ p _ (same_upd hp) upd_same⟩
    | node w0 ps =>
      rw [Fm] at hF
      obtain ⟨_, ds, e, hF⟩ := hF
      obtain ⟨hw, hp1, hp2, hps⟩ := (by simpa [Ch.ok] using hok : w0 ∈ heads ∧ 1 ≤ ps.length ∧ ps.length ≤ most w0 ∧ okL ps)
      rw [e] at hi hxl
      obtain ⟨v0, hv0, r0⟩ := hi.get' (i := 0) (d := .str w0) rfl
      cases r0
      simp only [Ch.depth, Ch.size] at hd hsz
      have hxl2 : xs.length = ps.length + 1 := by
        rw [hxl, List.length_cons, hF.length]
      have hwl := wordsL_length ps
      refine ⟨_, rfl, a, xs, _, _, rfl, rfl, hx, atI_at 0 hv0, rfl, _, rfl, ?_⟩
      rw [dec_str, decide_eq_false (head_ne hw)]
      refine iteF ?_
      refine ⟨_, rfl, a, xs, _, _, rfl, rfl, hx, atI_at 0 hv0, sz 2, fun l hl => ?_⟩
      have s1 := same_upd (o := HO.lst [.str "(", .str w0]) hl
      have hl1 : upd H l (HO.lst [.str "(", .str w0]) l = some (.lst ([sOpen, w0].map V.str)) := upd_same
      generalize upd H l (HO.lst [.str "(", .str w0]) = H1 at s1 hl1
      refine ⟨_, rfl, _, rfl, a, xs, rfl, hx.same s1, cut_not (by omega), fun p o hp ho => ?_⟩
      rw [cut1 (by omega)] at ho
      have s2 := same_upd (o := o) hp
      have hpx : SqX K (upd H1 p o) p (xs.drop 1) := SqX.new ho
      have hl2 := s2 _ _ hl1
      have hne : p ≠ l := fun z => by rw [z, hl1] at hp; cases hp
      replace s2 := s1.trans s2
      generalize upd H1 p o = H2 at s2 hpx hl2
      refine ⟨p, xs.drop 1, rfl, hpx, fun J wk => ?_⟩
      have hlen : (xs.drop 1).length = ps.length := by rw [List.length_drop]; omega
      refine for_it wk (fun i σ H3 => ∃ c2 l3, σ = [some (.ref a), some (.ref l3), c2] ∧ Same H2 H3 ∧ H3 l3 = some (.lst ((sOpen :: w0 :: wordsL (ps.take i)).map V.str))) ⟨none, l, rfl, Same.refl _, ?_⟩ (fun i σ H3 _ h => h.elim fun _ h => h.elim fun _ h => Sty.of h.2.1) ?_ ?_
      · rw [hl2]
        rfl
      · rintro i x σ H3 H4 hi2 ⟨c2, l3, rfl, k3, hl3⟩ ⟨rfl, hx2⟩
        have hi3 : i < ps.length := by omega
        have hci := List.getElem?_eq_getElem hi3
        obtain ⟨d2, hd2, f2⟩ := hF.get hci
        obtain ⟨v2, hv2, r2⟩ := hi.get' (i := i + 1) (d := d2) (by simpa using hd2)
        rw [List.getElem?_drop, Nat.add_comm, hv2] at hx2
        cases hx2
        have q1 := depthL_get hci
        have q2 := sizeL_get hci
        refine ⟨_, rfl, _, rfl, x, d2, ps[i], rfl, r2.same (s2.trans k3), f2, okL_get hps hci, by omega, by omega, fun p5 H5 s5 h5 => ?_⟩
        refine ⟨l3, p5, _, _, rfl, rfl, s5 _ _ hl3, h5, ?_, fun q hq => ⟨some x, q, rfl, (k3.trans s5).trans (same_upd hq), ?_⟩⟩
        · rw [List.length_map, List.length_map, sizeLine_eq]
          have := wordsL_take_length ps i
          have := words_length ps[i]
          simp only [List.length_cons]
          omega
        · rw [upd_same, wordsL_take hci, ← List.map_append]
          rfl
      · rintro σ H3 ⟨c2, l3, rfl, k3, hl3⟩
        rw [hlen, List.take_length] at hl3
        refine ⟨_, rfl, sz 1, fun q1 h1 => ?_⟩
        refine ⟨l3, q1, _, _, rfl, rfl, same_upd h1 _ _ hl3, upd_same, ?_, fun p4 h4 => hQ p4 _ (((s2.trans k3).trans (same_upd h1)).trans (same_upd h4)) ?_⟩
        · rw [List.length_map, sizeLine_eq]
          simp only [List.length_cons, List.length_nil]
          omega
        · rw [upd_same]
          show some (HO.lst ((sOpen :: w0 :: wordsL ps).map V.str ++ [V.str ")"])) = _
          rw [Ch.words, List.map_cons, List.map_cons, List.map_cons, List.map_cons, List.map_append]
          rfl
end
end Mine

set_option Elab.async false
set_option linter.all false
set_option maxRecDepth 100000
set_option maxHeartbeats 2000000
namespace Mine
open PySem PySem.Spec PyProof.Rows L2
/-- what is new -/
def Nw (H H' : Hp) : Hp := fun b => match H b with
  | none => H' b
  | some _ => none
theorem nw_at {H H' : Hp} {b : Addr} (h : H b = none) : Nw H H' b = H' b := by
  unfold Nw
  rw [h]
theorem nw_of {H H' : Hp} {b : Addr} {o : HO} (h : Nw H H' b = some o) : H b = none ∧ H' b = some o := by
  unfold Nw at h
  split at h
  · rename_i e
    exact ⟨e, h⟩
  · cases h
theorem nw_same {H0 H1 H2 H3 : Hp} (a : ∀ b o, H0 b = some o → H1 b ≠ none) (b : Same H2 H3) : Same (Nw H1 H2) (Nw H0 H3) := fun c o e => by
  obtain ⟨e1, e2⟩ := nw_of e
  rw [nw_at, b _ _ e2]
  cases h : H0 c with
  | none => rfl
  | some u => exact absurd e1 (a c u h)
theorem nw_sub {H H' : Hp} : Same (Nw H H') H' := fun c o e => (nw_of e).2
def spListed (K : PySem.W.Frag) (n : Nat) : Sp := fun vs H Q _ => ∃ v d c, vs = [v] ∧ Rp K H v d ∧ Fm c d ∧ c.ok ∧ c.depth ≤ n ∧ ∀ u H' d', Same H H' → Rp K (Nw H H') u d' → Fm c d' → Q u H'
theorem S_law_listed : FnScope ["chain", "part"] ["chain"] (defScope (top 36)) := ⟨rfl, rfl, rfl, by decide +kernel, rfl, by decide +kernel, by decide +kernel⟩
/-- of each item of a chain -/
def Itm (c : Ch) (i : Nat) (d : PyData) : Prop := match c, i with
  | .this _, 0 => d = .str sThis
  | .this s, 1 => d = .str s
  | .node w _, 0 => d = .str w
  | .node _ ps, i + 1 => ∃ c, ps[i]? = some c ∧ Fm c d
  | _, _ => False
def mn (D : Addr) (H : Hp) : Hp := fun b => if b = D then none else H b
theorem fmL_all : ∀ {ps : List Ch} {ds : List PyData}, (∀ (i : Nat) d, ds[i]? = some d → ∃ c, ps[i]? = some c ∧ Fm c d) → ds.length = ps.length → FmL ps ds
  | [], [], _, _ => by rw [FmL]
  | p :: ps, d :: es, h2, hl2 => by
    rw [FmL]
    obtain ⟨c0, e0, f0⟩ := h2 0 d rfl
    cases e0
    exact ⟨d, es, rfl, f0, fmL_all (fun i d' e => by simpa using h2 (i + 1) d' (by simpa using e)) (by simpa using hl2)⟩
  | [], _ :: _, _, hl => by simp at hl
  | _ :: _, [], _, hl => by simp at hl
def nItems : Ch → Nat
  | .this _ => 2
  | .node _ ps => ps.length + 1
theorem itm_all {c : Ch} : ∀ {ds : List PyData}, (∀ i d, ds[i]? = some d → Itm c i d) → ds.length = nItems c → Fm c (.list ds) := by
  intro ds h hl
  cases c with
  | this s =>
    match ds, hl with
    | [d0, d1], _ =>
      rw [Fm]
      have h0 := h 0 d0 rfl
      have h1 := h 1 d1 rfl
      exact ⟨rfl, by rw [show d0 = .str sThis from h0, show d1 = .str s from h1]; rfl⟩
  | node w ps =>
    match ds, hl with
    | d0 :: ds, hl =>
      rw [Fm]
      refine ⟨rfl, ds, by rw [show d0 = .str w from h 0 d0 rfl]; rfl, ?_⟩
      have h2 : ∀ i d, ds[i]? = some d → ∃ c, ps[i]? = some c ∧ Fm c d := fun i d e => h (i + 1) d (by simpa using e)
      have hl2 : ds.length = ps.length := by simpa [nItems] using hl
      exact fmL_all h2 hl2
theorem itm_of {c : Ch} {d : PyData} (h : Fm c d) (hok : c.ok) {i : Nat} {e : PyData} (he : (items d)[i]? = some e) : (∃ s, e = .str s ∧ Itm c i (.str s) ∧ s.length ≤ 8) ∨ ∃ c', Fm c' e ∧ c'.depth < c.depth ∧ c'.ok ∧ ∀ e', Fm c' e' → Itm c i e' := by
  cases c with
  | this s =>
    rw [Fm] at h
    rw [h.2] at he
    match i, he with
    | 0, he => cases he; exact .inl ⟨sThis, rfl, rfl, by decide⟩
    | 1, he => cases he; exact .inl ⟨s, rfl, rfl, nameOk_len (by simpa [Ch.ok] using hok)⟩
  | node w ps =>
    rw [Fm] at h
    obtain ⟨_, ds, e0, hf⟩ := h
    obtain ⟨hw, _, _, hps⟩ := (by simpa [Ch.ok] using hok : w ∈ heads ∧ 1 ≤ ps.length ∧ ps.length ≤ most w ∧ okL ps)
    rw [e0] at he
    match i, he with
    | 0, he => cases he; exact .inl ⟨w, rfl, rfl, heads_len w hw⟩
    | i + 1, he =>
      have he : ds[i]? = some e := by simpa using he
      have hi : i < ps.length := by rw [← hf.length]; exact (List.getElem?_eq_some_iff.mp he).1
      have hci := List.getElem?_eq_getElem hi
      obtain ⟨d2, h2, f2⟩ := hf.get hci
      rw [he] at h2
      cases h2
      have := depthL_get hci
      exact .inr ⟨ps[i], f2, by simp only [Ch.depth]; omega, okL_get hps hci, fun e' f' => ⟨ps[i], hci, f'⟩⟩
theorem len_of {c : Ch} {d : PyData} (h : Fm c d) : (items d).length = nItems c := by
  cases c with
  | this s =>
    rw [Fm] at h
    rw [h.2]
    rfl
  | node w ps =>
    rw [Fm] at h
    obtain ⟨_, ds, e0, hf⟩ := h
    rw [e0, List.length_cons, hf.length]
    rfl
section
variable {P : Program} {w : World} {K : PySem.W.Frag} {mg : Str → Option Value} {base : Heap}
theorem D_law_listed (T : Tx K mg) : ∀ n, Df P w K mg base CX0 (n + 1) "_law_listed" ["chain"] [] (spListed K n) := by
  have sc := S_law_listed
  intro n
  induction n with
  | zero =>
    refine df_of T.law_listed sc (fun vs H Q E h => ?_) (fun _ _ _ _ _ _ us hl => match us, hl with | [_], _ => rfl) ?_
    · obtain ⟨v, d, c, rfl, _⟩ := h
      rfl
    intro f cdv A outer s H vs Q E hr h
    obtain ⟨v, d, c, rfl, R, hF, hok, hd, _⟩ := h
    exact absurd (size_pos c).2 (by omega)
  | succ n ih =>
    refine df_of T.law_listed sc (fun vs H Q E h => ?_) (fun _ _ _ _ _ _ us hl => match us, hl with | [_], _ => rfl) ?_
    · obtain ⟨v, d, c, rfl, _⟩ := h
      rfl
    intro f cdv A outer s H vs Q E hr h
    obtain ⟨v, d, c, rfl, R, hF, hok, hd, hQ⟩ := h
    refine ⟨_, PSs.nox ((pss_one (ps_ret (pe_lc (own := [("part", 1)]) (g := gName 1) (tt := tYes) rfl sc.nd (pi_lt (pv 0)) (blkOk_by (N := ["chain", "part"]) (sc := defScope (top 36)) (by decide +kernel)) (fun _ _ _ _ _ => (pg_name (i := 1) sc.nd rfl (Or.inl rfl))) (fun _ _ _ _ _ => pts_nil) (fun _ _ _ _ _ => (pe_ifExp (pt_val (pe_callB (call_isib (K := K)) (by rfl) (T.fr "isinstance") PyProof.Rows.Boot.«isinstance» (pa_cons (pv 1) (pa_cons (pty (T.fr "str") PyProof.Rows.Boot.«str») pa_nil)))) (pv 1) (pcall ih hr .nil pass0 (pa_cons (pv 1) pa_nil)))))))), ?_⟩
    obtain ⟨a, xs, rfl, hx, hi, hil, hxl⟩ := R.seq hF.seq
    refine ⟨_, rfl, a, xs, rfl, hx, fun J wk D hD => ?_⟩
    have hD' : ∀ {H2 : Hp}, Same H H2 → (∃ ys, H2 D = some (.lst ys)) → True := fun _ _ => trivial
    refine lcMap wk (by omega) (fun H2 s2 => Sty.of s2) (fun i y H2 => ∃ d', Rp K (mn D (Nw H H2)) y d' ∧ Itm c i d') hD ?_ ?_ ?_
    · rintro i y H2 H3 hk ⟨d', r, hI⟩
      refine ⟨d', Rp.same (fun b o e => ?_) _ _ r, hI⟩
      unfold mn at e ⊢
      split at e
      · cases e
      · rename_i hb
        rw [if_neg hb]
        obtain ⟨e1, e2⟩ := nw_of e
        rw [nw_at e1]
        exact hk _ _ hb e2
    · rintro i x H2 H3 hi2 s2 ⟨ys, hDl⟩ ⟨rfl, hx2⟩ R hR
      obtain ⟨e, he, re⟩ := hi.get hx2
      have re2 := re.same s2
      refine ⟨_, rfl, _, _, _, _, _, rfl, .ty "str", re2.ty, kit_strD e, ?_⟩
      rcases itm_of hF hok he with ⟨s, rfl, hI, hs⟩ | ⟨c', f', hd', hok', hI⟩
      · cases re
        refine ⟨_, rfl, iteT ⟨_, rfl, hR _ _ (Same.refl _) ⟨_, .str s (by omega), hI⟩⟩⟩
      · have e1 : isStrD e = false := by
          have := f'.seq
          cases e with
          | list _ => rfl
          | tuple _ => rfl
          | _ => cases this
        rw [e1]
        refine ⟨_, rfl, iteF ⟨_, rfl, x, e, c', rfl, re2, f', hok', by omega, fun u H4 d4 s4 r4 f4 => hR _ _ s4 ⟨d4, Rp.same (fun b o q => ?_) _ _ r4, hI d4 f4⟩⟩⟩
        obtain ⟨q1, q2⟩ := nw_of q
        have hbD : b ≠ D := fun z => by rw [z, hDl] at q1; cases q1
        unfold mn
        rw [if_neg hbD, nw_at]
        · exact q2
        · cases hb : H b with
          | none => rfl
          | some o2 => rw [s2 _ _ hb] at q1; cases q1
    · intro ys H2 hl hf hD2 s2
      have hds : ∃ ds, RpL K (Nw H H2) ys ds ∧ ds.length = ys.length ∧ ∀ i d, ds[i]? = some d → Itm c i d := by
        have : ∀ (zs : List V) (k : Nat), (∀ i y, zs[i]? = some y → ∃ d', Rp K (mn D (Nw H H2)) y d' ∧ Itm c (k + i) d') → ∃ ds, RpL K (Nw H H2) zs ds ∧ ds.length = zs.length ∧ ∀ i d, ds[i]? = some d → Itm c (k + i) d := by
          intro zs
          induction zs with
          | nil => exact fun k _ => ⟨[], .nil, rfl, fun i d e => by simp at e⟩
          | cons z zs ih2 =>
            intro k hz
            obtain ⟨d0, r0, i0⟩ := hz 0 z rfl
            obtain ⟨ds, r1, l1, i1⟩ := ih2 (k + 1) (fun i y e => by
              have := hz (i + 1) y (by simpa using e)
              rwa [show k + (i + 1) = k + 1 + i by omega] at this)
            refine ⟨d0 :: ds, .cons (Rp.same (fun b o q => ?_) _ _ r0) r1, by simp [l1], fun i d e => ?_⟩
            · unfold mn at q
              split at q
              · cases q
              · exact q
            · match i, e with
              | 0, e => cases e; exact i0
              | i + 1, e =>
                have := i1 i d (by simpa using e)
                rwa [show k + 1 + i = k + (i + 1) by omega] at this
        obtain ⟨ds, r, l, h⟩ := this ys 0 (fun i y e => by rw [Nat.zero_add]; exact hf i y e)
        exact ⟨ds, r, l, fun i d e => by have := h i d e; rwa [Nat.zero_add] at this⟩
      obtain ⟨ds, r, l, h⟩ := hds
      refine hQ _ _ (.list ds) s2 (.lst (SqL.of ?_) r (by omega)) (itm_all h ?_)
      · rw [nw_at hD]
        exact hD2
      · rw [l, hl, hxl, len_of hF]
end
end Mine

set_option Elab.async false
set_option linter.all false
set_option maxRecDepth 100000
set_option maxHeartbeats 2000000
namespace Mine
open PySem PySem.Spec PyProof.Rows L2
theorem okL_mem : ∀ {ps : List Ch}, okL ps → ∀ c ∈ ps, c.ok
  | [], _, c, h => by cases h
  | p :: ps, h, c, hc => by
    obtain ⟨h1, h2⟩ := (by simpa [okL] using h : p.ok ∧ okL ps)
    rcases List.mem_cons.mp hc with e | e
    · rw [e]; exact h1
    · exact okL_mem h2 c e
mutual
theorem words_len : ∀ (c : Ch), c.ok → ∀ w ∈ c.words, w.length ≤ 8
  | .this s, h, w, hw => by
    have hn : nameOk s = true := by simpa [Ch.ok] using h
    simp only [Ch.words, List.mem_singleton] at hw
    rw [hw]
    exact nameOk_len hn
  | .node x ps, h, w, hw => by
    obtain ⟨h1, _, _, h4⟩ := (by simpa [Ch.ok] using h : x ∈ heads ∧ 1 ≤ ps.length ∧ ps.length ≤ most x ∧ okL ps)
    simp only [Ch.words, List.mem_cons, List.mem_append, List.not_mem_nil, or_false] at hw
    rcases hw with e | e | e | e
    · rw [e]; decide
    · rw [e]; exact heads_len x h1
    · exact wordsL_len ps h4 w e
    · rw [e]; decide
theorem wordsL_len : ∀ (ps : List Ch), okL ps → ∀ w ∈ wordsL ps, w.length ≤ 8
  | [], _, w, hw => by simp [wordsL] at hw
  | c :: r, h, w, hw => by
    obtain ⟨h1, h2⟩ := (by simpa [okL] using h : c.ok ∧ okL r)
    simp only [wordsL, List.mem_append] at hw
    rcases hw with e | e
    · exact words_len c h1 w e
    · exact wordsL_len r h2 w e
end
def joinW (ws : List Str) : Str := Txt.join " " ws
def spWrite (K : PySem.W.Frag) (cC : Addr) : Sp := fun vs H Q E => ∃ v d, vs = [v] ∧ Rp K H v d ∧
  ((∃ c, Fm c d ∧ c.ok ∧ c.size ≤ 40 ∧ c.depth ≤ 8 ∧ ∀ H', Same H H' → Q (.str (joinW c.words)) H') ∨
   (dp d ≤ 12 ∧ ∃ p, fwD d = some p ∧ ∀ pt dd H', Same H H' → H' pt = some (.tup (p.map V.int)) → H' dd = none → E (.ref cC) (some dd) (upd H' dd (.xd [("path", .ref pt)]))))
theorem S_write_chain : FnScope ["chain"] ["chain"] (defScope (top 27)) := ⟨rfl, rfl, rfl, by decide +kernel, rfl, by decide +kernel, by decide +kernel⟩
section
variable {P : Program} {w : World} {K : PySem.W.Frag} {mg : Str → Option Value} {base : Heap} {cS cC cT : Addr}
theorem G_write_chain (T : Tx K mg) (Z : Tz P K mg cS cC cT) : Gf P w K mg base (CX P w) 15 "write_chain" 27 ["chain"] (spWrite K cC) := by
  have sc := S_write_chain
  obtain ⟨ds, hv, DN⟩ := D_need_chain (P := P) (w := w) (base := base) T Z
  have DW := D_chain_words (P := P) (w := w) (base := base) T 8
  refine gf_of T.write_chain sc (fun vs H Q E h => ?_) ?_
  · obtain ⟨v, d, rfl, _⟩ := h
    rfl
  intro f cdv A outer s H vs Q E hr h
  obtain ⟨v, d, rfl, R, h⟩ := h
  refine ⟨_, ((pss_cons (ps_expr (pcall DN (hr.mono (by decide)) hv (passes_call (takes_of rfl rfl rfl rfl) (fun _ _ _ _ h => h)) (pa_cons (pv 0) pa_nil)))
      (pss_one (ps_ret (pe_join pe_str (pcall DW (hr.mono (by decide)) .nil pass0 (pa_cons (pv 0) pa_nil))))))), ?_⟩
  rcases h with ⟨c, hf, hok, hs, hd, hQ⟩ | ⟨hd, p, hp, hE⟩
  · refine ⟨_, rfl, v, d, rfl, R, Nat.le_trans (fm_dp c d hf) (by omega), fun u H1 s1 _ => ?_, fun pt p dd H1 s1 hp => ?_⟩
    · refine ⟨⟨_, rfl⟩, _, rfl, v, d, c, rfl, R.same s1, hf, hok, hd, hs, fun q H2 s2 hq => ?_⟩
      refine ⟨_, q, c.words, rfl, rfl, .inl (SqL.of hq), ?_, hQ H2 (s1.trans s2)⟩
      have h1 := sum_le (words_len c hok)
      have h2 := words_length c
      have e : (" " : Str).length = 1 := rfl
      rw [e]
      omega
    · rw [fwD_ok hok hf hs hd] at hp
      cases hp
  · refine ⟨_, rfl, v, d, rfl, R, hd, fun u H1 s1 hn => ?_, fun pt p' dd H1 s1 hp' ht hdd => ?_⟩
    · rw [hp] at hn
      cases hn
    · rw [hp] at hp'
      cases hp'
      exact hE pt dd H1 s1 ht hdd
theorem D_write_chain (T : Tx K mg) (Z : Tz P K mg cS cC cT) : Df P w K mg base (CX P w) 15 "write_chain" ["chain"] [] (spWrite K cC) := (G_write_chain T Z).df fun _ _ _ _ _ _ us hl => match us, hl with | [_], _ => rfl
theorem K_write_chain (T : Tx K mg) (Z : Tz P K mg cS cC cT) : Dk P w K mg base (CX P w) 15 "write_chain" ["chain"] (spWrite K cC) := (G_write_chain T Z).kw fun _ _ _ _ _ _ us hl => match us, hl with | [_], _ => rfl
end
end Mine

set_option Elab.async false
set_option linter.all false
set_option maxRecDepth 100000
set_option maxHeartbeats 2000000
namespace Mine
open PySem PySem.Spec PyProof.Rows L2
/-! ### the reader's state in the heap -/
inductive Inn (K : PySem.W.Frag) (H : Hp) : List Addr → List (List PyData) → Prop
  | nil : Inn K H [] []
  | cons {r : Addr} {rs : List Addr} {vs : List V} {t : List PyData} {n : List (List PyData)} : H r = some (.lst vs) → RpL K (tupOf H) vs t → Inn K H rs n → Inn K H (r :: rs) (t :: n)
theorem Inn.length {K : PySem.W.Frag} {H : Hp} : ∀ {rs : List Addr} {n : List (List PyData)}, Inn K H rs n → rs.length = n.length
  | _, _, .nil => rfl
  | _, _, .cons _ _ c => congrArg Nat.succ c.length
theorem Inn.keep {K : PySem.W.Frag} {H H' : Hp} (k : TupKeep H H') : ∀ {rs : List Addr} {n : List (List PyData)}, (∀ r ∈ rs, ∀ o, H r = some o → H' r = some o) → Inn K H rs n → Inn K H' rs n
  | _, _, _, .nil => .nil
  | _, _, h, .cons a b c => .cons (h _ (List.mem_cons_self ..) _ a) (RpL.same k.up _ _ b) (c.keep k fun r hr => h r (List.mem_cons_of_mem _ hr))
def WhR (K : PySem.W.Frag) (H : Hp) (wv : V) : Option PyData → Prop
  | none => wv = .non
  | some d => Rp K (tupOf H) wv d ∧ wv ≠ .non
theorem WhR.keep {K : PySem.W.Frag} {H H' : Hp} {wv : V} (k : TupKeep H H') : ∀ {o : Option PyData}, WhR K H wv o → WhR K H' wv o
  | none, h => h
  | some d, h => ⟨Rp.same k.up _ _ h.1, h.2⟩
def HdOk (t : List PyData) : Prop := ∃ w r, t = .str w :: r ∧ w ∈ heads
def Gd (b : Nat) (st : Ns) : Prop := (∀ t ∈ st.nested, t.length ≤ b ∧ (t = [] ∨ HdOk t)) ∧ st.nested.length ≤ b ∧ ∀ t ∈ st.nested.tail, t ≠ []
abbrev nsF (l : Addr) (wv : V) (m : Nat) : List (Str × V) := [("nested", .ref l), ("whole", wv), ("many", .int (m : Nat))]
structure NsA (K : PySem.W.Frag) (H0 H : Hp) (cN x : Addr) (b : Nat) (st : Ns) (dx l : Addr) (rs : List Addr) (wv : V) : Prop where
  hx : H x = some (.ins cN dx (nsF l wv st.many))
  hl : H l = some (.lst ((rs.map V.ref).reverse))
  nd : rs.Nodup
  lr : l ∉ rs
  inn : Inn K H rs st.nested
  wh : WhR K H wv st.whole
  l0 : H0 l = none
  r0 : ∀ r ∈ rs, H0 r = none
  sm : Same H0 H
  x0 : H0 x = none
  gd : Gd b st
def NsH (K : PySem.W.Frag) (H0 H : Hp) (cN x : Addr) (b : Nat) (st : Ns) : Prop := ∃ dx l rs wv, NsA K H0 H cN x b st dx l rs wv
theorem NsA.same {K : PySem.W.Frag} {H0 H H' : Hp} {cN x : Addr} {b : Nat} {st : Ns} {dx l : Addr} {rs : List Addr} {wv : V} (a : NsA K H0 H cN x b st dx l rs wv) (s : Same H H') : NsA K H0 H' cN x b st dx l rs wv :=
  ⟨s _ _ a.hx, s _ _ a.hl, a.nd, a.lr, a.inn.keep (TupKeep.of s) fun r _ o e => s _ _ e, a.wh.keep (TupKeep.of s), a.l0, a.r0, a.sm.trans s, a.x0, a.gd⟩
theorem NsH.same {K : PySem.W.Frag} {H0 H H' : Hp} {cN x : Addr} {b : Nat} {st : Ns} (a : NsH K H0 H cN x b st) (s : Same H H') : NsH K H0 H' cN x b st := by
  obtain ⟨dx, l, rs, wv, a⟩ := a
  exact ⟨dx, l, rs, wv, a.same s⟩
theorem last_ref {r : Addr} {rs : List Addr} : atI (((r :: rs).map V.ref).reverse) (-1) = some (.ref r) := by
  rw [List.map_cons, List.reverse_cons]
  exact atI_last _ _
def spDue (K : PySem.W.Frag) (cN : Addr) : Sp := fun vs H Q _ => ∃ H0 x b st, vs = [.ref x] ∧ NsH K H0 H cN x b st ∧ ∀ H', Same H H' → Q (.bl st.isDue) H'
def spCan (K : PySem.W.Frag) (cN : Addr) : Sp := fun vs H Q _ => ∃ H0 x b st, vs = [.ref x] ∧ NsH K H0 H cN x b st ∧ st.isDue = false ∧ b ≤ 10000 ∧ ∀ H', Same H H' → Q (.bl st.canBegin) H'
theorem S_due : FnScope ["self"] ["self"] (defScope (inClass (top 25) 1)) := ⟨rfl, rfl, rfl, by decide +kernel, rfl, by decide +kernel, by decide +kernel⟩
theorem S_can : FnScope ["self"] ["self"] (defScope (inClass (top 25) 2)) := ⟨rfl, rfl, rfl, by decide +kernel, rfl, by decide +kernel, by decide +kernel⟩
section
variable {P : Program} {w : World} {K : PySem.W.Frag} {mg : Str → Option Value} {base : Heap} {cN : Addr}
theorem D_due (T : Tx K mg) (N : Nx w K mg cN) : Dm P w K mg base CX0 1 cN "is_due" ["self"] (spDue K cN) := by
  have sc := S_due
  refine dm_of N.due sc (fun vs H Q E h => ?_) (fun _ _ _ _ _ _ us hl => match us, hl with | [_], _ => rfl) ?_
  · obtain ⟨H0, x, b, st, rfl, _⟩ := h
    rfl
  intro f cdv A outer s H vs Q E hr h
  obtain ⟨H0, x, b, st, rfl, ⟨dx, l, rs, wv, a⟩, hQ⟩ := h
  have nF := N.nF
  refine ⟨_, PSs.nox ((pss_one (ps_ret (pe_and (pe_cmpR (op_ne_nil (Room.u hr)) (pe_fld (pv 0) rfl) (pe_lst pa_nil) (nomark _)) (pe_one (pe_cmpR (op_eq_nil (Room.u hr)) (pe_ix ix_list (pe_fld (pv 0) rfl) (pe_un un_neg pe_int) (fun _ _ => rfl)) (pe_lst pa_nil) (nomark _))))))), ?_⟩
  refine ⟨_, rfl, x, cN, dx, _, _, rfl, a.hx, N.cl, nF _ (by simp), rfl, sz 0, fun p hp => ⟨l, p, _, rfl, rfl, SqL.of (same_upd hp _ _ a.hl), SqL.of upd_same, _, rfl, ?_⟩⟩
  have s1 := same_upd (o := HO.lst []) hp
  have a1 := a.same s1
  unfold Ns.isDue at hQ
  generalize upd H p (HO.lst []) = H1 at s1 a1
  have hin := a1.inn
  have hl := a1.hl
  generalize st.nested = n at hin hQ
  cases hin with
  | nil => exact iteF (hQ H1 s1)
  | @cons r rs vs t n hr1 hv hin =>
    refine ite_of true (by simp) (iteT ?_)
    refine ⟨_, rfl, x, cN, dx, _, _, rfl, a1.hx, N.cl, nF _ (by simp), rfl, _, rfl, l, _, _, _, rfl, rfl, SqL.of hl, last_ref, sz 0, fun q hq => ?_⟩
    refine ⟨r, q, vs, rfl, rfl, SqL.of (same_upd hq _ _ hr1), SqL.of upd_same, ?_⟩
    have q1 := hQ _ (s1.trans (same_upd (o := HO.lst []) hq))
    cases hv with
    | nil => exact q1
    | cons _ _ => exact q1
theorem D_can (T : Tx K mg) (N : Nx w K mg cN) : Dm P w K mg base CX0 1 cN "can_begin" ["self"] (spCan K cN) := by
  have sc := S_can
  refine dm_of N.can sc (fun vs H Q E h => ?_) (fun _ _ _ _ _ _ us hl => match us, hl with | [_], _ => rfl) ?_
  · obtain ⟨H0, x, b, st, rfl, _⟩ := h
    rfl
  intro f cdv A outer s H vs Q E hr h
  obtain ⟨H0, x, b, st, rfl, ⟨dx, l, rs, wv, a⟩, hdue, hb, hQ⟩ := h
  have nF := N.nF
  obtain ⟨ta, tg, k1, k2, k3⟩ := N.tab
  refine ⟨_, PSs.nox ((pss_cons (ps_if (PW.pt (pw_or (pt_cmpR op_notN (pe_fld (pv 0) rfl) pe_non (nomark _)) (pw_or (pt_cmpR op_ge (pe_fld (pv 0) rfl) (pgi (T.gi "MOST_CHAINS_chain_texts" 40)) (nomark _)) (pw_or1 (pt_cmpR op_ge (pe_callB call_len (by rfl) (T.fr "len") PyProof.Rows.Boot.«len» (pa_cons (pe_fld (pv 0) rfl) pa_nil)) (pgi (T.gi "DEEPEST" 8)) (nomark _))))))
      (pss_one (ps_ret pe_bl))
      pss_nil)
      (pss_one (ps_ret (pe_or (pe_cmpR (op_eq_nil (Room.u hr)) (pe_fld (pv 0) rfl) (pe_lst pa_nil) (nomark _)) (pe_one (pe_cmpR op_lt (pe_op op_sub (pe_callB call_len (by rfl) (T.fr "len") PyProof.Rows.Boot.«len» (pa_cons (pe_ix ix_list (pe_fld (pv 0) rfl) (pe_un un_neg pe_int) (fun _ _ => rfl)) pa_nil)) pe_int) (pe_ix ix_kdict (pgr tg) (pe_ix ix_list (pe_ix ix_list (pe_fld (pv 0) rfl) (pe_un un_neg pe_int) (fun _ _ => rfl)) pe_int (fun _ _ => rfl)) (fun _ _ => rfl)) (nomark _)))))))), ?_⟩
  have hwv : (!decide (wv = V.non)) = st.whole.isSome := by
    have := a.wh
    cases e : st.whole with
    | none =>
      rw [e] at this
      rw [show wv = .non from this]
      rfl
    | some d =>
      rw [e] at this
      rw [decide_eq_false this.2]
      rfl
  have hin0 := a.inn.length
  refine ⟨_, rfl, x, cN, dx, _, _, rfl, a.hx, N.cl, nF _ (by simp), rfl, rfl, _, rfl, ?_⟩
  unfold Ns.canBegin at hQ
  rw [hwv]
  cases hw : st.whole.isSome with
  | true =>
    rw [hw, Bool.true_or, Bool.true_or, Bool.not_true, Bool.false_and] at hQ
    exact iteT (iteT (hQ H (Same.refl H)))
  | false =>
  rw [hw, Bool.false_or] at hQ
  refine iteF ⟨_, rfl, x, cN, dx, _, _, rfl, a.hx, N.cl, nF _ (by simp), rfl, _, _, rfl, rfl, _, rfl, ?_⟩
  by_cases h40 : 40 ≤ st.many
  · rw [decide_eq_true h40, Bool.true_or, Bool.not_true, Bool.false_and] at hQ
    rw [decide_eq_true (show (40 : Int) ≤ (st.many : Int) by omega)]
    exact iteT (iteT (hQ H (Same.refl H)))
  rw [decide_eq_false h40, Bool.false_or] at hQ
  rw [decide_eq_false (show ¬ (40 : Int) ≤ (st.many : Int) by omega)]
  refine iteF ⟨_, rfl, x, cN, dx, _, _, rfl, a.hx, N.cl, nF _ (by simp), rfl, _, _, rfl, .inl ⟨_, SqL.of a.hl, rfl⟩, _, _, rfl, rfl, _, rfl, ?_⟩
  rw [List.length_reverse, List.length_map, hin0]
  by_cases h8 : 8 ≤ st.nested.length
  · rw [decide_eq_true h8, Bool.not_true, Bool.false_and] at hQ
    rw [decide_eq_true (show (8 : Int) ≤ (st.nested.length : Int) by omega)]
    exact iteT (hQ H (Same.refl H))
  rw [decide_eq_false h8, Bool.not_false, Bool.true_and] at hQ
  rw [decide_eq_false (show ¬ (8 : Int) ≤ (st.nested.length : Int) by omega)]
  refine iteF ⟨_, rfl, x, cN, dx, _, _, rfl, a.hx, N.cl, nF _ (by simp), rfl, sz 0, fun p hp => ⟨l, p, _, rfl, rfl, SqL.of (same_upd hp _ _ a.hl), SqL.of upd_same, _, rfl, ?_⟩⟩
  have s1 := same_upd (o := HO.lst []) hp
  have a1 := a.same s1
  generalize upd H p (HO.lst []) = H1 at s1 a1
  have hin := a1.inn
  have hl := a1.hl
  have hg := a1.gd.1
  unfold Ns.isDue at hdue
  generalize st.nested = n at hin hQ hg hdue
  cases hin with
  | nil => exact iteT (hQ H1 s1)
  | @cons r rs vs t n hr1 hv hin =>
    refine ite_of false (by simp) (iteF ?_)
    obtain ⟨htb, ht⟩ := hg t (List.mem_cons_self ..)
    rcases ht with rfl | ⟨w0, t, rfl, hw0⟩
    · cases hdue
    obtain ⟨v0, hv0, r0⟩ := hv.get' (i := 0) (d := .str w0) rfl
    cases r0
    refine ⟨_, rfl, x, cN, dx, _, _, rfl, a1.hx, N.cl, nF _ (by simp), rfl, _, rfl, l, _, _, _, rfl, rfl, SqL.of hl, last_ref, _, _, rfl, .inl ⟨_, SqL.of hr1, rfl⟩, _, _, rfl, rfl, ?_⟩
    refine ⟨_, rfl, x, cN, dx, _, _, rfl, a1.hx, N.cl, nF _ (by simp), rfl, _, rfl, l, _, _, _, rfl, rfl, SqL.of hl, last_ref, r, _, _, _, rfl, rfl, SqL.of hr1, atI_at 0 hv0, ta, w0, .int (most w0), rfl, rfl, ?_, _, _, rfl, rfl, ?_⟩
    · rcases mem_heads hw0 with e | e | e
      · rw [e]; exact k1
      · rw [e]; exact k2
      · rw [e]; exact k3
    · rw [hv.length]
      exact hQ H1 s1
end
end Mine

set_option Elab.async false
set_option linter.all false
set_option maxRecDepth 100000
set_option maxHeartbeats 2000000
namespace Mine
open PySem PySem.Spec PyProof.Rows L2
theorem putW {l : Addr} {wv u : V} {m : Nat} : putF "whole" u (nsF l wv m) = nsF l u m := by
  show (if ("nested" : Str) = "whole" then _ else _ :: (if ("whole" : Str) = "whole" then _ else _)) = _
  rw [if_neg (by decide), if_pos rfl]
theorem putM {l : Addr} {wv : V} {m : Nat} : putF "many" (.int ((m : Int) + 1)) (nsF l wv m) = nsF l wv (m + 1) := by
  show (if ("nested" : Str) = "many" then _ else _ :: (if ("whole" : Str) = "many" then _ else _ :: (if ("many" : Str) = "many" then _ else _))) = _
  rw [if_neg (by decide), if_neg (by decide), if_pos rfl]
  rfl
theorem Gd.mono {b c : Nat} {st : Ns} (g : Gd b st) (h : b ≤ c) : Gd c st := ⟨fun t ht => ⟨Nat.le_trans (g.1 t ht).1 h, (g.1 t ht).2⟩, Nat.le_trans g.2.1 h, g.2.2⟩
section
variable {K : PySem.W.Frag} {H0 H : Hp} {cN x : Addr} {b : Nat} {st : Ns} {dx l r p : Addr} {rs : List Addr} {wv u : V} {vs : List V} {t : List PyData} {n : List (List PyData)} {d : PyData} {o : HO}
theorem Inn.off (h : Inn K H rs n) (hu : ∃ ys, H p = some (.lst ys)) (hp : p ∉ rs) : Inn K (upd H p (.lst vs)) rs n := by
  obtain ⟨ys, hu⟩ := hu
  refine h.keep (TupKeep.lst hu) fun r hr o e => ?_
  rw [upd_ne (fun z => hp (by rw [← z]; exact hr))]
  exact e
theorem NsA.app (a : NsA K H0 H cN x b st dx l (r :: rs) wv) (hn : st.nested = t :: n) (hr : H r = some (.lst vs)) (hv : RpL K (tupOf H) vs t) (hu : Rp K (tupOf H) u d) (hd : HdOk (t ++ [d])) :
    NsA K H0 (upd H r (.lst (vs ++ [u]))) cN x (b + 1) { st with nested := (t ++ [d]) :: n } dx l (r :: rs) wv := by
  have k : TupKeep H (upd H r (.lst (vs ++ [u]))) := TupKeep.lst hr
  have hnr := List.nodup_cons.mp a.nd
  have hin := a.inn
  rw [hn] at hin
  obtain ⟨g1, g2, g3⟩ := a.gd
  rw [hn] at g1 g2 g3
  refine ⟨?_, ?_, a.nd, a.lr, ?_, a.wh.keep k, a.l0, a.r0, smut a.sm (a.r0 r (List.mem_cons_self ..)), a.x0, ?_⟩
  · rw [upd_ne (ne_of a.hx hr (by intro z; cases z))]
    exact a.hx
  · rw [upd_ne (fun z => a.lr (by rw [z]; exact List.mem_cons_self ..))]
    exact a.hl
  · cases hin with
    | cons h1 h2 h3 => exact .cons upd_same (RpL.same k.up _ _ (hv.app (.cons hu .nil))) (h3.off ⟨_, hr⟩ hnr.1)
  · refine ⟨fun t' ht' => ?_, ?_, g3⟩
    · rcases List.mem_cons.mp ht' with e | e
      · rw [e]
        exact ⟨by rw [List.length_append]; have := (g1 t (List.mem_cons_self ..)).1; simp only [List.length_cons, List.length_nil]; omega, .inr hd⟩
      · have := g1 t' (List.mem_cons_of_mem _ e)
        exact ⟨by omega, this.2⟩
    · show n.length + 1 ≤ b + 1
      simp only [List.length_cons] at g2
      omega
theorem Inn.at (h : Inn K H rs n) : ∀ q ∈ rs, ∃ vs, H q = some (.lst vs) := by
  induction h with
  | nil => exact fun q hq => by cases hq
  | cons h1 h2 h3 ih =>
    intro q hq
    rcases List.mem_cons.mp hq with e | e
    · exact ⟨_, by rw [e]; exact h1⟩
    · exact ih q e
theorem NsA.rx (a : NsA K H0 H cN x b st dx l rs wv) : ∀ q ∈ rs, q ≠ x := fun q hq => by
  obtain ⟨vs, e⟩ := a.inn.at q hq
  exact ne_of e a.hx (by intro z; cases z)
theorem NsA.lx (a : NsA K H0 H cN x b st dx l rs wv) : l ≠ x := ne_of a.hl a.hx (by intro z; cases z)
theorem NsA.setW (a : NsA K H0 H cN x b st dx l rs wv) (hu : Rp K (tupOf H) u d) (hne : u ≠ .non) : NsA K H0 (upd H x (.ins cN dx (putF "whole" u (nsF l wv st.many)))) cN x b { st with whole := some d } dx l rs u := by
  rw [putW]
  have k : TupKeep H (upd H x (.ins cN dx (nsF l u st.many))) := TupKeep.ins a.hx
  refine ⟨upd_same, ?_, a.nd, a.lr, a.inn.keep k fun r hr o e => ?_, ⟨Rp.same k.up _ _ hu, hne⟩, a.l0, a.r0, smut a.sm a.x0, a.x0, a.gd⟩
  · rw [upd_ne a.lx]
    exact a.hl
  · rw [upd_ne (a.rx r hr)]
    exact e
theorem NsA.inc (a : NsA K H0 H cN x b st dx l rs wv) : NsA K H0 (upd H x (.ins cN dx (putF "many" (.int ((st.many : Int) + 1)) (nsF l wv st.many)))) cN x b { st with many := st.many + 1 } dx l rs wv := by
  rw [putM]
  have k : TupKeep H (upd H x (.ins cN dx (nsF l wv (st.many + 1)))) := TupKeep.ins a.hx
  refine ⟨upd_same, ?_, a.nd, a.lr, a.inn.keep k fun r hr o e => ?_, a.wh.keep k, a.l0, a.r0, smut a.sm a.x0, a.x0, a.gd⟩
  · rw [upd_ne a.lx]
    exact a.hl
  · rw [upd_ne (a.rx r hr)]
    exact e
/-- a new empty list on the stack -/
theorem NsA.push (a : NsA K H0 H cN x b st dx l rs wv) (hp : H p = none) (hd : st.isDue = false) : NsA K H0 (upd (upd H p (.lst [])) l (.lst ((rs.map V.ref).reverse ++ [.ref p]))) cN x (b + 1) { st with nested := [] :: st.nested } dx l (p :: rs) wv := by
  have s1 := same_upd (o := HO.lst []) hp
  have hlp : p ≠ l := fun z => by rw [z, a.hl] at hp; cases hp
  have hpr : p ∉ rs := fun z => by
    obtain ⟨vs, e⟩ := a.inn.at p z
    rw [e] at hp
    cases hp
  have a1 := a.same s1
  have hp1 : upd H p (HO.lst []) p = some (.lst []) := upd_same
  have hp0 : H0 p = none := by
    cases e : H0 p with
    | none => rfl
    | some o => rw [a.sm _ _ e] at hp; cases hp
  clear a
  generalize upd H p (HO.lst []) = H1 at a1 hp1
  have k : TupKeep H1 (upd H1 l (.lst ((rs.map V.ref).reverse ++ [.ref p]))) := TupKeep.lst a1.hl
  obtain ⟨g1, g2, g3⟩ := a1.gd
  refine ⟨?_, ?_, List.nodup_cons.mpr ⟨hpr, a1.nd⟩, ?_, .cons ?_ .nil (a1.inn.off ⟨_, a1.hl⟩ a1.lr), a1.wh.keep k, a1.l0, ?_, smut a1.sm a1.l0, a1.x0, ?_⟩
  · rw [upd_ne (Ne.symm a1.lx)]
    exact a1.hx
  · rw [upd_same, List.map_cons, List.reverse_cons]
  · exact fun z => by
      rcases List.mem_cons.mp z with e | e
      · exact hlp e.symm
      · exact a1.lr e
  · rw [upd_ne hlp]
    exact hp1
  · exact fun q hq => by
      rcases List.mem_cons.mp hq with e | e
      · rw [e]; exact hp0
      · exact a1.r0 q e
  · refine ⟨fun t ht => ?_, ?_, fun t ht => ?_⟩
    · rcases List.mem_cons.mp ht with e | e
      · rw [e]
        exact ⟨Nat.zero_le _, .inl rfl⟩
      · exact ⟨Nat.le_trans (g1 t e).1 (Nat.le_succ _), (g1 t e).2⟩
    · show st.nested.length + 1 ≤ b + 1
      omega
    · have ht : t ∈ st.nested := ht
      unfold Ns.isDue at hd
      generalize st.nested = n at ht hd g3
      cases n with
      | nil => cases ht
      | cons t0 n =>
        rcases List.mem_cons.mp ht with e | e
        · rw [e]
          intro z
          rw [z] at hd
          cases hd
        · exact g3 t e
theorem NsA.pop (a : NsA K H0 H cN x b st dx l (r :: rs) wv) (hn : st.nested = t :: n) : NsA K H0 (upd H l (.lst (((r :: rs).map V.ref).reverse.dropLast))) cN x b { st with nested := n } dx l rs wv := by
  have k : TupKeep H (upd H l (.lst (((r :: rs).map V.ref).reverse.dropLast))) := TupKeep.lst a.hl
  have hin := a.inn
  obtain ⟨g1, g2, g3⟩ := a.gd
  rw [hn] at hin g1 g2 g3
  refine ⟨?_, ?_, (List.nodup_cons.mp a.nd).2, fun z => a.lr (List.mem_cons_of_mem _ z), ?_, a.wh.keep k, a.l0, fun q hq => a.r0 q (List.mem_cons_of_mem _ hq), smut a.sm a.l0, a.x0, fun t' ht' => g1 t' (List.mem_cons_of_mem _ ht'), ?_, fun t' ht' => g3 t' (List.mem_of_mem_tail ht')⟩
  · rw [upd_ne (Ne.symm a.lx)]
    exact a.hx
  · rw [upd_same, List.map_cons, List.reverse_cons, List.dropLast_concat]
  · cases hin with
    | cons h1 h2 h3 => exact h3.off ⟨_, a.hl⟩ fun z => a.lr (List.mem_cons_of_mem _ z)
  · show n.length ≤ b
    simp only [List.length_cons] at g2
    omega
theorem due_tail (a : NsA K H0 H cN x b st dx l rs wv) (hn : st.nested = t :: n) : ({ st with nested := n } : Ns).isDue = false := by
  obtain ⟨g1, g2, g3⟩ := a.gd
  rw [hn] at g3
  unfold Ns.isDue
  clear a hn
  cases n with
  | nil => rfl
  | cons t0 n =>
    cases t0 with
    | nil => exact absurd rfl (g3 [] (List.mem_cons_self ..))
    | cons _ _ => rfl
end
def Ns.shut (st : Ns) : Option Ns := match st.nested with
  | [] => none
  | t :: r => if t.length < 2 then none else some ({ st with nested := r }.add (.tuple t))
def spAdd (K : PySem.W.Frag) (cN : Addr) : Sp := fun vs H Q _ => ∃ H0 x b st u d, vs = [.ref x, u] ∧ NsH K H0 H cN x b st ∧ st.isDue = false ∧ b ≤ 10000 ∧ Rp K (tupOf H) u d ∧ u ≠ .non ∧ ∀ H', NsH K H0 H' cN x (b + 1) (st.add d) → Q .non H'
def spShut (K : PySem.W.Frag) (cN : Addr) : Sp := fun vs H Q _ => ∃ H0 x b st, vs = [.ref x] ∧ NsH K H0 H cN x b st ∧ b ≤ 10000 ∧ (∀ st' H', st.shut = some st' → NsH K H0 H' cN x (b + 1) st' → Q (.bl true) H') ∧ ∀ H', st.shut = none → Same H0 H' → Q (.bl false) H'
theorem S_add : FnScope ["self", "chain"] ["self", "chain"] (defScope (inClass (top 25) 3)) := ⟨rfl, rfl, rfl, by decide +kernel, rfl, by decide +kernel, by decide +kernel⟩
theorem S_shut : FnScope ["self"] ["self"] (defScope (inClass (top 25) 5)) := ⟨rfl, rfl, rfl, by decide +kernel, rfl, by decide +kernel, by decide +kernel⟩
section
variable {P : Program} {w : World} {K : PySem.W.Frag} {mg : Str → Option Value} {base : Heap} {cN : Addr}
theorem D_add (T : Tx K mg) (N : Nx w K mg cN) : Dm P w K mg base CX0 1 cN "add" ["self", "chain"] (spAdd K cN) := by
  have sc := S_add
  refine dm_of N.add sc (fun vs H Q E h => ?_) (fun _ _ _ _ _ _ us hl => match us, hl with | [_, _], _ => rfl) ?_
  · obtain ⟨H0, x, b, st, u, d, rfl, _⟩ := h
    rfl
  intro f cdv A outer s H vs Q E hr h
  obtain ⟨H0, x, b, st, u, d, rfl, ⟨dx, l, rs, wv, a⟩, hdue, hb, hu, hun, hQ⟩ := h
  have nF := N.nF
  refine ⟨_, PSs.nox ((pss_one (ps_if (pt_cmpR (op_eq_nil (Room.u hr)) (pe_fld (pv 0) rfl) (pe_lst pa_nil) (nomark _))
      (pss_one (ps_fld (pv 0) (pv 1) rfl))
      (pss_one (ps_expr (pe_bm PySem.F.plainAttrs_list PySem.F.slot_list_append PySem.F.type_list_append mt_append (pe_ix ix_list (pe_fld (pv 0) rfl) (pe_un un_neg pe_int) (fun _ _ => rfl)) (pa_cons (pv 1) pa_nil))))))), ?_⟩
  refine ⟨_, rfl, x, cN, dx, _, _, rfl, a.hx, N.cl, nF _ (by simp), rfl, sz 0, fun p hp => ⟨l, p, _, rfl, rfl, SqL.of (same_upd hp _ _ a.hl), SqL.of upd_same, _, rfl, ?_⟩⟩
  have s1 := same_upd (o := HO.lst []) hp
  have a1 := a.same s1
  have hu1 := Rp.same (TupKeep.of s1).up _ _ hu
  clear a
  generalize upd H p (HO.lst []) = H1 at s1 a1 hu1
  have hin := a1.inn
  generalize hn : st.nested = n at hin
  cases hin with
  | nil =>
    refine ite_of true (by simp) (iteT ?_)
    refine ⟨u, rfl, _, rfl, x, cN, dx, _, rfl, a1.hx, N.cl, nF _ (by simp), by show 3 < 1000; omega, hQ _ ⟨dx, l, [], u, ?_⟩⟩
    have q := a1.setW hu1 hun
    have e : st.add d = { st with whole := some d } := by
      unfold Ns.add
      rw [hn]
    rw [e]
    exact ⟨q.hx, q.hl, q.nd, q.lr, q.inn, q.wh, q.l0, q.r0, q.sm, q.x0, q.gd.mono (Nat.le_succ _)⟩
  | @cons r rs vs t n hr1 hv hin =>
    refine ite_of false (by simp) (iteF ?_)
    have e : st.add d = { st with nested := (t ++ [d]) :: n } := by
      unfold Ns.add
      rw [hn]
    have hhd : HdOk (t ++ [d]) := by
      have g := a1.gd.1 t (by rw [hn]; exact List.mem_cons_self ..)
      rcases g.2 with e | ⟨w0, r0, e, hw⟩
      · unfold Ns.isDue at hdue
        rw [hn, e] at hdue
        cases hdue
      · exact ⟨w0, r0 ++ [d], by rw [e]; rfl, hw⟩
    have htb := (a1.gd.1 t (by rw [hn]; exact List.mem_cons_self ..)).1
    refine ⟨_, rfl, x, cN, dx, _, _, rfl, a1.hx, N.cl, nF _ (by simp), rfl, _, rfl, l, _, _, _, rfl, rfl, SqL.of a1.hl, last_ref, .inl ⟨rfl, _, SqL.of hr1⟩, u, rfl, r, _, _, rfl, rfl, hr1, ?_, hQ _ ⟨dx, l, r :: rs, wv, ?_⟩⟩
    · rw [hv.length, sizeLine_eq]
      omega
    · rw [e]
      exact a1.app hn hr1 hv hu1 hhd
theorem D_shut (T : Tx K mg) (N : Nx w K mg cN) : Dm P w K mg base CX0 2 cN "shut" ["self"] (spShut K cN) := by
  have sc := S_shut
  have DA := D_add (P := P) (base := base) T N
  refine dm_of N.shut sc (fun vs H Q E h => ?_) (fun _ _ _ _ _ _ us hl => match us, hl with | [_], _ => rfl) ?_
  · obtain ⟨H0, x, b, st, rfl, _⟩ := h
    rfl
  intro f cdv A outer s H vs Q E hr h
  obtain ⟨H0, x, b, st, rfl, ⟨dx, l, rs, wv, a⟩, hb, hQ, hN⟩ := h
  have nF := N.nF
  refine ⟨_, PSs.nox ((pss_cons (ps_if (PW.pt (pw_or (pt_cmpR (op_eq_nil (Room.u hr)) (pe_fld (pv 0) rfl) (pe_lst pa_nil) (nomark _)) (pw_or1 (pt_cmpR op_lt (pe_callB call_len (by rfl) (T.fr "len") PyProof.Rows.Boot.«len» (pa_cons (pe_ix ix_list (pe_fld (pv 0) rfl) (pe_un un_neg pe_int) (fun _ _ => rfl)) pa_nil)) pe_int (nomark _)))))
      (pss_one (ps_ret pe_bl))
      pss_nil)
      (pss_cons (ps_expr (pmeth DA hr N.cl pass0 (pv 0) (pa_cons (pe_callTy call_tuple_of (by rfl) (T.fr "tuple") PyProof.Rows.Boot.«tuple» (pa_cons (pe_bm0 PySem.F.plainAttrs_list PySem.F.slot_list_pop PySem.F.type_list_pop mt_pop (pe_fld (pv 0) rfl)) pa_nil)) pa_nil)))
      (pss_one (ps_ret pe_bl))))), ?_⟩
  refine ⟨_, rfl, x, cN, dx, _, _, rfl, a.hx, N.cl, nF _ (by simp), rfl, sz 0, fun p hp => ⟨l, p, _, rfl, rfl, SqL.of (same_upd hp _ _ a.hl), SqL.of upd_same, _, rfl, ?_⟩⟩
  have s1 := same_upd (o := HO.lst []) hp
  have a1 := a.same s1
  clear a
  generalize upd H p (HO.lst []) = H1 at s1 a1
  have hin := a1.inn
  generalize hn : st.nested = n at hin
  cases hin with
  | nil =>
    refine ite_of true (by simp) (iteT (iteT (hN H1 ?_ a1.sm)))
    unfold Ns.shut
    rw [hn]
  | @cons r rs vs t n hr1 hv hin =>
    refine ite_of false (by simp) (iteF ?_)
    have htb := (a1.gd.1 t (by rw [hn]; exact List.mem_cons_self ..)).1
    have es : st.shut = if t.length < 2 then none else some ({ st with nested := n }.add (.tuple t)) := by
      unfold Ns.shut
      rw [hn]
    refine ⟨_, rfl, x, cN, dx, _, _, rfl, a1.hx, N.cl, nF _ (by simp), rfl, _, rfl, l, _, _, _, rfl, rfl, SqL.of a1.hl, last_ref, _, _, rfl, .inl ⟨_, SqL.of hr1, rfl⟩, _, _, rfl, rfl, _, rfl, ?_⟩
    rw [hv.length]
    by_cases h2 : t.length < 2
    · rw [decide_eq_true (show (t.length : Int) < 2 by omega)]
      rw [if_pos h2] at es
      exact iteT (hN H1 es a1.sm)
    rw [decide_eq_false (show ¬ (t.length : Int) < 2 by omega)]
    rw [if_neg h2] at es
    have ap := a1.pop hn
    have hlr : r ≠ l := fun z => a1.lr (by rw [z]; exact List.mem_cons_self ..)
    have k1 : TupKeep H1 (upd H1 l (.lst (((r :: rs).map V.ref).reverse.dropLast))) := TupKeep.lst a1.hl
    have hr2 : upd H1 l (.lst (((r :: rs).map V.ref).reverse.dropLast)) r = some (.lst vs) := by
      rw [upd_ne hlr]
      exact hr1
    have hv2 := RpL.same k1.up _ _ hv
    have hlast : ((r :: rs).map V.ref).reverse[((r :: rs).map V.ref).reverse.length - 1]? = some (.ref r) := by
      rw [List.getElem?_reverse (by simp)]
      simp
    refine iteF ⟨_, rfl, x, dx, _, rfl, a1.hx, rfl, _, rfl, x, cN, dx, _, _, rfl, a1.hx, N.cl, nF _ (by simp), rfl, .inl ⟨rfl, _, SqL.of a1.hl⟩, l, _, .ref r, rfl, rfl, a1.hl, hlast, ?_⟩
    generalize upd H1 l (.lst (((r :: rs).map V.ref).reverse.dropLast)) = H2 at ap hr2 hv2
    refine ⟨r, vs, rfl, .inl ⟨SqL.of hr2, fun q hq => ?_⟩⟩
    have s3 := same_upd (o := HO.tup vs) hq
    refine ⟨H0, x, b, _, .ref q, .tuple t, rfl, ⟨dx, l, rs, wv, ap.same s3⟩, due_tail a1 hn, hb, .tup (SqT.of (tupOf_at upd_same)) (RpL.same (TupKeep.of s3).up _ _ hv2) (by omega), (by intro z; cases z), fun H' hn' => ?_⟩
    exact hQ _ _ es hn'
end
end Mine

set_option Elab.async false
set_option linter.all false
set_option maxRecDepth 100000
set_option maxHeartbeats 2000000
namespace Mine
open PySem PySem.Spec PyProof.Rows L2
theorem inV3 (x a b c : Str) : inV (.str x) [.str a, .str b, .str c] = decide (x ∈ [a, b, c]) := by
  rw [Bool.eq_iff_iff]
  simp only [inV, eqV, List.any_cons, List.any_nil, Bool.or_false, Bool.or_eq_true, beq_iff_eq, decide_eq_true_eq, List.mem_cons, List.not_mem_nil, or_false, eq_comm (a := x)]
def spTake (K : PySem.W.Frag) (cN : Addr) : Sp := fun vs H Q _ => ∃ H0 x b st z, vs = [.ref x, .str z] ∧ NsH K H0 H cN x b st ∧ b ≤ 9000 ∧ z.length ≤ 1000 ∧ (∀ st' H', st.take z = some st' → NsH K H0 H' cN x (b + 1) st' → Q (.bl true) H') ∧ ∀ H', st.take z = none → Same H0 H' → Q (.bl false) H'
theorem S_take : FnScope ["self", "word"] ["self", "word"] (defScope (inClass (top 25) 4)) := ⟨rfl, rfl, rfl, by decide +kernel, rfl, by decide +kernel, by decide +kernel⟩
section
variable {P : Program} {w : World} {K : PySem.W.Frag} {mg : Str → Option Value} {base : Heap} {cN : Addr}
theorem D_take (T : Tx K mg) (N : Nx w K mg cN) : Dm P w K mg base CX0 3 cN "take" ["self", "word"] (spTake K cN) := by
  have sc := S_take
  have DA := D_add (P := P) (base := base) T N
  have DD := D_due (P := P) (base := base) T N
  have DC := D_can (P := P) (base := base) T N
  have DH := D_shut (P := P) (base := base) T N
  have DN := D_is_name (P := P) (w := w) (base := base) T
  obtain ⟨aw, gw, kw⟩ := N.wds
  refine dm_of N.take sc (fun vs H Q E h => ?_) (fun _ _ _ _ _ _ us hl => match us, hl with | [_, _], _ => rfl) ?_
  · obtain ⟨H0, x, b, st, z, rfl, _⟩ := h
    rfl
  intro f cdv A outer s H vs Q E hr h
  obtain ⟨H0, x, b, st, z, rfl, ⟨dx, l, rs, wv, a⟩, hb, hz, hQ, hN⟩ := h
  have nF := N.nF
  refine ⟨_, PSs.nox ((pss_cons (ps_if (pt_val (pmeth0 DD (hr.mono (by decide)) N.cl pass0 (pv 0)))
      (pss_cons (ps_if (pt_cmpR op_in_seq (pv 1) (pgr gw) (by rfl))
      (pss_one (ps_expr (pe_bm PySem.F.plainAttrs_list PySem.F.slot_list_append PySem.F.type_list_append mt_append (pe_ix ix_list (pe_fld (pv 0) rfl) (pe_un un_neg pe_int) (fun _ _ => rfl)) (pa_cons (pv 1) pa_nil))))
      pss_nil)
      (pss_one (ps_ret (pe_cmpR op_in_seq (pv 1) (pgr gw) (by rfl)))))
      pss_nil)
      (pss_cons (ps_if (pt_cmpR op_eq (pv 1) (pgs (T.gs "SHUT" ")")) (nomark _))
      (pss_one (ps_ret (pmeth0 DH hr N.cl pass0 (pv 0))))
      pss_nil)
      (pss_cons (ps_if (PW.pt (pw_or (PW.pt (pw_and (pt_cmpR op_ne (pv 1) (pgs (T.gs "OPEN" "(")) (nomark _)) (pw_and1 (pt_not (pt_val (pcall DN (hr.mono (by decide)) .nil pass0 (pa_cons (pv 1) pa_nil))))))) (pw_or1 (pt_not (pt_val (pmeth0 DC (hr.mono (by decide)) N.cl pass0 (pv 0)))))))
      (pss_one (ps_ret pe_bl))
      pss_nil)
      (pss_cons (ps_fldaug (pv 0) pe_int in_add)
      (pss_cons (ps_if (pt_cmpR op_eq (pv 1) (pgs (T.gs "OPEN" "(")) (nomark _))
      (pss_one (ps_expr (pe_bm PySem.F.plainAttrs_list PySem.F.slot_list_append PySem.F.type_list_append mt_append (pe_fld (pv 0) rfl) (pa_cons (pe_lst pa_nil) pa_nil))))
      (pss_one (ps_expr (pmeth DA (hr.mono (by decide)) N.cl pass0 (pv 0) (pa_cons (pe_tup (pa_cons pe_str (pa_cons (pv 1) pa_nil))) pa_nil)))))
      (pss_one (ps_ret pe_bl)))))))), ?_⟩
  refine ⟨_, rfl, x, dx, _, rfl, a.hx, rfl, H0, x, b, st, rfl, ⟨dx, l, rs, wv, a⟩, fun H1 s1 => ⟨_, rfl, ?_⟩⟩
  replace a := a.same s1
  clear s1
  have hin : (if false = true then !inV (.str z) [V.str "then", V.str "or", V.str "again"] else inV (.str z) [V.str "then", V.str "or", V.str "again"]) = decide (z ∈ heads) := by
    rw [if_neg (by decide)]
    exact inV3 _ _ _ _
  cases hd : st.isDue with
  | true =>
    refine iteT ?_
    refine ⟨_, rfl, aw, _, rfl, .inr (kw H1), rfl, rfl, _, rfl, ?_⟩
    rw [hin]
    by_cases hz2 : z ∈ heads
    · rw [decide_eq_true hz2]
      refine iteT ?_
      have hinn := a.inn
      generalize hn : st.nested = n at hinn
      unfold Ns.isDue at hd
      rw [hn] at hd
      cases hinn with
      | nil => cases hd
      | @cons r rs vs t n hr1 hv hinn =>
        cases t with
        | cons _ _ => cases hd
        | nil =>
        cases hv
        refine ⟨_, rfl, x, cN, dx, _, _, rfl, a.hx, N.cl, nF _ (by simp), rfl, _, rfl, l, _, _, _, rfl, rfl, SqL.of a.hl, last_ref, .inl ⟨rfl, _, SqL.of hr1⟩, .str z, rfl, r, _, _, rfl, rfl, hr1, szlt 0, ?_⟩
        have q := a.app hn hr1 .nil (.str z hz) ⟨z, [], rfl, hz2⟩
        refine ⟨_, rfl, aw, _, rfl, .inr (kw _), rfl, rfl, ?_⟩
        rw [hin, decide_eq_true hz2]
        refine hQ _ _ ?_ ⟨dx, l, r :: rs, wv, q⟩
        unfold Ns.take Ns.isDue
        rw [hn, if_pos rfl, if_pos hz2]
        rfl
    · rw [decide_eq_false hz2]
      refine iteF ⟨_, rfl, aw, _, rfl, .inr (kw _), rfl, rfl, ?_⟩
      rw [hin, decide_eq_false hz2]
      refine hN _ ?_ a.sm
      unfold Ns.take
      rw [if_pos hd, if_neg hz2]
  | false =>
    have ht : st.take z = if z = sShut then st.shut else if (z ≠ sOpen ∧ nameOk z = false) ∨ st.canBegin = false then none
        else if z = sOpen then some { st with nested := [] :: st.nested, many := st.many + 1 } else some ({ st with many := st.many + 1 }.add (.tuple [.str sThis, .str z])) := by
      unfold Ns.take
      rw [if_neg (by rw [hd]; decide)]
      rfl
    rw [ht] at hQ hN
    clear ht
    refine iteF ⟨_, rfl, rfl, _, rfl, ?_⟩
    rw [dec_str]
    by_cases h1 : z = sShut
    · rw [decide_eq_true h1]
      rw [if_pos h1] at hQ hN
      refine iteT ⟨_, rfl, x, dx, _, rfl, a.hx, rfl, H0, x, b, st, rfl, ⟨dx, l, rs, wv, a⟩, by omega, hQ, hN⟩
    rw [decide_eq_false h1]
    rw [if_neg h1] at hQ hN
    refine iteF ⟨_, rfl, rfl, _, rfl, ?_⟩
    rw [dec_str]
    by_cases ho : z = sOpen
    · rw [decide_eq_true ho]
      refine iteF ?_
      refine ⟨_, rfl, x, dx, _, rfl, a.hx, rfl, H0, x, b, st, rfl, ⟨dx, l, rs, wv, a⟩, hd, by omega, fun H2 s2 => ⟨_, rfl, ?_⟩⟩
      replace a := a.same s2
      cases hc : st.canBegin with
      | false => exact iteT (hN _ (by rw [if_pos (.inr hc)]) a.sm)
      | true =>
        rw [if_neg (by rw [hc]; simp [ho]), if_pos ho] at hQ
        refine iteF ?_
        refine ⟨_, rfl, x, cN, dx, _, _, rfl, a.hx, N.cl, nF _ (by simp), rfl, _, _, rfl, rfl, dx, _, a.hx, by show 3 < 1000; omega, ?_⟩
        have q := a.inc
        generalize upd H2 x _ = H3 at q
        refine ⟨_, rfl, rfl, _, rfl, ?_⟩
        rw [dec_str, decide_eq_true ho]
        refine iteT ⟨_, rfl, x, cN, dx, _, _, rfl, q.hx, N.cl, nF _ (by simp), rfl, .inl ⟨rfl, _, SqL.of q.hl⟩, sz 0, fun p hp => ?_⟩
        refine ⟨l, _, .ref p, rfl, rfl, same_upd hp _ _ q.hl, ?_, hQ _ _ rfl ⟨dx, l, p :: rs, wv, q.push hp hd⟩⟩
        rw [List.length_reverse, List.length_map, q.inn.length, sizeLine_eq]
        have := q.gd.2.1
        omega
    · rw [decide_eq_false ho]
      refine iteT ?_
      refine ⟨_, rfl, .str z, .str z, rfl, .str z hz, fun H2 s2 => ⟨_, rfl, ?_⟩⟩
      replace a := a.same s2
      show if (!nameOk z) = true then _ else _
      cases hn : nameOk z with
      | false => exact iteT (iteT (hN _ (by rw [if_pos (.inl ⟨ho, hn⟩)]) a.sm))
      | true =>
      refine iteF ?_
      refine ⟨_, rfl, x, dx, _, rfl, a.hx, rfl, H0, x, b, st, rfl, ⟨dx, l, rs, wv, a⟩, hd, by omega, fun H3 s3 => ⟨_, rfl, ?_⟩⟩
      replace a := a.same s3
      cases hc : st.canBegin with
      | false => exact iteT (hN _ (by rw [if_pos (.inr hc)]) a.sm)
      | true =>
        rw [if_neg (by rw [hc, hn]; simp), if_neg ho] at hQ
        refine iteF ?_
        refine ⟨_, rfl, x, cN, dx, _, _, rfl, a.hx, N.cl, nF _ (by simp), rfl, _, _, rfl, rfl, dx, _, a.hx, by show 3 < 1000; omega, ?_⟩
        have q := a.inc
        generalize upd H3 x _ = H4 at q
        refine ⟨_, rfl, rfl, _, rfl, ?_⟩
        rw [dec_str, decide_eq_false ho]
        refine iteF ⟨_, rfl, x, dx, _, rfl, q.hx, rfl, _, rfl, sz 2, fun p hp => ?_⟩
        have s5 := same_upd (o := HO.tup [.str "this", .str z]) hp
        refine ⟨H0, x, b, _, .ref p, .tuple [.str sThis, .str z], rfl, ⟨dx, l, rs, wv, q.same s5⟩, hd, by omega, .tup (SqT.of (tupOf_at upd_same)) (.cons (.str _ (by decide)) (.cons (.str z hz) .nil)) (by show 2 ≤ 10000; omega), (by intro z; cases z), fun H' hn' => hQ _ _ rfl hn'⟩
end
end Mine

set_option Elab.async false
set_option linter.all false
set_option maxRecDepth 100000
set_option maxHeartbeats 2000000
namespace Mine
open PySem PySem.Spec PyProof.Rows L2
def spInit (cN : Addr) : Sp := fun vs H Q _ => ∃ x dx, vs = [.ref x] ∧ H x = some (.ins cN dx []) ∧ ∀ H' l, (∀ b o, b ≠ x → H b = some o → H' b = some o) → H l = none → H' x = some (.ins cN dx (nsF l .non 0)) → H' l = some (.lst []) → Q .non H'
theorem S_init : FnScope ["self"] ["self"] (defScope (inClass (top 25) 0)) := ⟨rfl, rfl, rfl, by decide +kernel, rfl, by decide +kernel, by decide +kernel⟩
def spStop (K : PySem.W.Frag) : Sp := fun vs H Q _ => ∃ a ws, vs = [.ref a] ∧ SqL K H a (ws.map V.str) ∧ ws.length ≤ 9000 ∧ (∀ w ∈ ws, w.length ≤ 1000) ∧
  (∀ i t H', run 0 .init ws = .inl i → Same H H' → H' t = some (.tup [.int (i : Nat), .non]) → Q (.ref t) H') ∧
  ∀ st wv t H', run 0 .init ws = .inr st → Same H H' → WhR K H' wv st.whole → H' t = some (.tup [.non, wv]) → Q (.ref t) H'
theorem S_first_stop : FnScope ["words", "nest", "at", "word"] ["words"] (defScope (top 26)) := ⟨rfl, rfl, rfl, by decide +kernel, rfl, by decide +kernel, by decide +kernel⟩
section
variable {P : Program} {w : World} {K : PySem.W.Frag} {mg : Str → Option Value} {base : Heap} {cN : Addr}
theorem F_init (N : Nx w K mg cN) : ∃ f fd, Mk K cN f ∧ Binds K fd ["self"] [] ∧ FnOk P w K mg base CX0 1 f fd ["self"] (spInit cN) := by
  have sc := S_init
  have nF := N.nF
  obtain ⟨f, fd, F, M⟩ := N.init
  refine ⟨f, fd, M, F.bindsN fun _ _ _ _ _ _ us hl => (match us, hl with | [_], _ => rfl), F.ok sc (fun vs H Q E h => ?_) fun cdv A outer s H vs Q E hr h => ?_⟩
  · obtain ⟨x, dx, rfl, _⟩ := h
    rfl
  obtain ⟨x, dx, rfl, hx, hQ⟩ := h
  refine ⟨_, PSs.nox ((pss_cons (ps_fld (pv 0) (pe_lst pa_nil) rfl)
      (pss_cons (ps_fld (pv 0) pe_non rfl)
      (pss_one (ps_fld (pv 0) pe_int rfl))))), ?_⟩
  refine ⟨sz 0, fun l hl => ?_⟩
  have hlx : l ≠ x := fun z => by rw [z, hx] at hl; cases hl
  refine ⟨_, rfl, x, cN, dx, _, rfl, same_upd hl _ _ hx, N.cl, nF _ (by simp), by show 0 < 1000; omega, ?_⟩
  refine ⟨_, rfl, x, cN, dx, _, rfl, upd_same, N.cl, nF _ (by simp), by show 1 < 1000; omega, ?_⟩
  refine ⟨_, rfl, x, cN, dx, _, rfl, upd_same, N.cl, nF _ (by simp), by show 2 < 1000; omega, ?_⟩
  refine hQ _ l (fun b o hb e => ?_) hl ?_ ?_
  · rw [upd_ne hb, upd_ne hb, upd_ne hb]
    exact same_upd hl _ _ e
  · rw [upd_same]
    rfl
  · rw [upd_ne hlx, upd_ne hlx, upd_ne hlx, upd_same]
theorem D_first_stop (T : Tx K mg) (N : Nx w K mg cN) : Df P w K mg base CX0 4 "first_stop" ["words"] [] (spStop K) := by
  have sc := S_first_stop
  have DT := D_take (P := P) (base := base) T N
  obtain ⟨f0, fd0, M, B0, F0⟩ := F_init (P := P) (base := base) N
  refine df_of T.first_stop sc (fun vs H Q E h => ?_) (fun _ _ _ _ _ _ us hl => match us, hl with | [_], _ => rfl) ?_
  · obtain ⟨a, ws, rfl, _⟩ := h
    rfl
  intro f cdv A outer s H vs Q E hr h
  obtain ⟨a, ws, rfl, ha, hl, hw, hI, hS⟩ := h
  have nF := N.nF
  refine ⟨_, PSs.nox ((pss_cons (ps_set (i := 1) sc.nd rfl (Or.inl rfl) (pe_make0 M F0 (hr.mono (by decide)) rfl N.m B0 .nil pass0))
      (pss_cons (ps_for PassesOwn.never rfl (pi_enum (by rfl) (T.fr "enumerate") (pa_cons (pv 0) pa_nil)) (pg_tup rfl (pgs_cons (pg_name (i := 2) sc.nd rfl (Or.inl rfl)) (pgs_cons (pg_name (i := 3) sc.nd rfl (Or.inl rfl)) pgs_nil)))
      (pss_one (ps_if (pt_not (pt_val (pmeth DT hr N.cl pass0 (pv 1) (pa_cons (pv 3) pa_nil))))
      (pss_one (ps_ret (pe_tup (pa_cons (pv 2) (pa_cons pe_non pa_nil)))))
      pss_nil)))
      (pss_one (ps_ret (pe_tup (pa_cons pe_non (pa_cons (pe_fld (pv 1) rfl) pa_nil)))))))), ?_⟩
  refine fun x dx hx hdx hne => ⟨x, dx, rfl, upd_same, fun H1 l k hl0 hx1 hl1 => ⟨rfl, ?_⟩⟩
  have hlH : H l = none := by
    have e1 : l ≠ x := fun z => by rw [z, upd_same] at hl0; cases hl0
    rw [upd_ne e1] at hl0
    have e2 : l ≠ dx := fun z => by rw [z, upd_same] at hl0; cases hl0
    rw [upd_ne e2] at hl0
    exact hl0
  have s1 : Same H H1 := fun b o e => by
    have e1 : b ≠ x := fun z => by rw [z, hx] at e; cases e
    have e2 : b ≠ dx := fun z => by rw [z, hdx] at e; cases e
    refine k b o e1 ?_
    rw [upd_ne e1, upd_ne e2]
    exact e
  have n1 : NsH K H H1 cN x 0 .init := ⟨dx, l, [], .non, hx1, hl1, List.nodup_nil, by simp, .nil, rfl, hlH, (fun r hr => by cases hr), s1, hx, (fun t ht => by cases ht), Nat.le_refl _, (fun t ht => by cases ht)⟩
  refine ⟨_, rfl, a, _, rfl, s1.seq ha, ?_⟩
  refine for_it (walk_enum (xs := ws.map V.str)) (fun i σ H2 => ∃ c2 c3 st, σ = [some (.ref a), some (.ref x), c2, c3] ∧ NsH K H H2 cN x i st ∧ run i st (ws.drop i) = run 0 .init ws) ⟨none, none, .init, rfl, n1, rfl⟩ (fun i σ H2 _ h => ?_) ?_ ?_
  · obtain ⟨c2, c3, st, rfl, ⟨dx, l, rs, wv, q⟩, _⟩ := h
    exact q.sm.seq ha
  · rintro i y σ H2 H3 hi ⟨c2, c3, st, rfl, hn, hrun⟩ ⟨t, p, y, rfl, ht, rfl, hp, hy⟩
    cases hp
    have hi2 : i < ws.length := by rw [List.length_map] at hi; exact hi
    have hyw : y = .str ws[i] := by
      have hy : (ws.map V.str)[i]? = some y := hy
      rw [List.getElem?_map, List.getElem?_eq_getElem hi2] at hy
      exact (Option.some.inj hy).symm
    subst hyw
    refine ⟨t, _, rfl, SqT.of upd_same, rfl, _, _, rfl, _, _, rfl, rfl, ?_⟩
    obtain ⟨dx, l, rs, wv, q⟩ := hn.same (same_upd (o := HO.tup [.int (i : Nat), .str ws[i]]) ht)
    rw [List.drop_eq_getElem_cons hi2] at hrun
    refine ⟨_, rfl, x, dx, _, rfl, q.hx, rfl, _, rfl, H, x, i, st, ws[i], rfl, ⟨dx, l, rs, wv, q⟩, by omega, hw _ (List.getElem_mem hi2), fun st' H4 e n4 => ⟨_, rfl, iteF ?_⟩, fun H4 e s4 => ⟨_, rfl, iteT ?_⟩⟩
    · refine ⟨_, _, st', rfl, n4, ?_⟩
      rw [← hrun]
      simp only [run, e]
    · refine ⟨_, rfl, sz 2, fun t4 ht4 => hI i t4 _ ?_ (s4.trans (same_upd ht4)) upd_same⟩
      rw [← hrun]
      simp only [run, e]
  · rintro σ H2 ⟨c2, c3, st, rfl, ⟨dx, l, rs, wv, q⟩, hrun⟩
    rw [List.length_map, List.drop_length] at hrun
    refine ⟨_, rfl, x, cN, dx, _, _, rfl, q.hx, N.cl, nF _ (by simp), rfl, sz 2, fun t ht => hS st wv t _ hrun.symm (q.sm.trans (same_upd ht)) (q.wh.keep (TupKeep.of (same_upd ht))) upd_same⟩
end
end Mine

set_option Elab.async false
set_option linter.all false
set_option maxRecDepth 100000
set_option maxHeartbeats 2000000
namespace Mine
open PySem PySem.Spec PyProof.Rows L2
def joinT (ws : List Str) : Str := Txt.join " " ws
/-- words that may be read -/
structure WsOk (ws : List Str) : Prop where
  ne : ws ≠ []
  sp : ∀ w ∈ ws, noSp w = true
  len : ws.length ≤ 9000
  wl : ∀ w ∈ ws, w.length ≤ 1000
def spRead (K : PySem.W.Frag) (cT : Addr) : Sp := fun vs H Q E => ∃ v, vs = [v] ∧
  ((∃ ws, v = .str (joinT ws) ∧ WsOk ws ∧ (∀ d u H', readW ws = .inr d → Same H H' → Rp K (tupOf H') u d → Q u H') ∧
    ∀ i dd H', readW ws = .inl i → Same H H' → H' dd = none → E (.ref cT) (some dd) (upd H' dd (.xd [("line", .int 0), ("word", .int (i : Nat))]))) ∨
   ∃ d, Rp K H v d ∧ isStrD d = false ∧ ∀ dd H', Same H H' → H' dd = none → E (.ref cT) (some dd) (upd H' dd (.xd [("line", .int 0), ("word", .int 0)])))
theorem S_read_chain : FnScope ["text", "words", "at", "chain"] ["text"] (defScope (top 28)) := ⟨rfl, rfl, rfl, by decide +kernel, rfl, by decide +kernel, by decide +kernel⟩
section
variable {P : Program} {w : World} {K : PySem.W.Frag} {mg : Str → Option Value} {base : Heap} {cN cS cC cT : Addr}
theorem G_read_chain (T : Tx K mg) (N : Nx w K mg cN) (Z : Tz P K mg cS cC cT) : Gf P w K mg base (CX P w) 5 "read_chain" 28 ["text"] (spRead K cT) := by
  have sc := S_read_chain
  have DS := D_first_stop (P := P) (base := base) T N
  obtain ⟨fI, X1⟩ := Z.text.t
  refine gf_of T.read_chain sc (fun vs H Q E h => ?_) ?_
  · obtain ⟨v, rfl, _⟩ := h
    rfl
  intro f cdv A outer s H vs Q E hr h
  obtain ⟨v, rfl, h⟩ := h
  refine ⟨_, ((pss_cons (ps_if (pt_not (pt_val (pe_callB call_isi (by rfl) (T.fr "isinstance") PyProof.Rows.Boot.«isinstance» (pa_cons (pv 0) (pa_cons (pty (T.fr "str") PyProof.Rows.Boot.«str») pa_nil)))))
      (pss_one (ps_raise rfl (takes_of rfl rfl rfl rfl) (pmk_ex X1 (by decide) hr Z.text.m Z.text.kp Z.text.ex Z.text.ty (pa_cons pe_int (pa_cons pe_int pa_nil)))))
      pss_nil)
      (pss_cons (ps_set (i := 1) sc.nd rfl (Or.inl rfl) (pe_split (pv 0) pe_str))
      (pss_cons (ps_asg (pcall DS hr .nil pass0 (pa_cons (pv 1) pa_nil)) (pg_tup rfl (pgs_cons (pg_name (i := 2) sc.nd rfl (Or.inl rfl)) (pgs_cons (pg_name (i := 3) sc.nd rfl (Or.inl rfl)) pgs_nil))))
      (pss_cons (ps_if (pt_cmpR op_notN (pv 2) pe_non (nomark _))
      (pss_one (ps_raise rfl (takes_of rfl rfl rfl rfl) (pmk_ex X1 (by decide) hr Z.text.m Z.text.kp Z.text.ex Z.text.ty (pa_cons pe_int (pa_cons (pv 2) pa_nil)))))
      pss_nil)
      (pss_cons (ps_if (pt_cmpR op_isN (pv 3) pe_non (nomark _))
      (pss_one (ps_raise rfl (takes_of rfl rfl rfl rfl) (pmk_ex X1 (by decide) hr Z.text.m Z.text.kp Z.text.ex Z.text.ty (pa_cons pe_int (pa_cons (pe_callB call_len (by rfl) (T.fr "len") PyProof.Rows.Boot.«len» (pa_cons (pv 1) pa_nil)) pa_nil)))))
      pss_nil)
      (pss_one (ps_ret (pv 3))))))))), ?_⟩
  rcases h with ⟨ws, rfl, ok, hQ, hE⟩ | ⟨d, R, hd, hE⟩
  · refine ⟨_, rfl, .str (joinT ws), .ty "str", _, _, _, rfl, .ty "str", .base (.str _), kit_strD (.str (joinT ws)), _, rfl, iteF ?_⟩
    have hjl : (joinT ws).length ≤ 16000000 := by
      have h1 := join_length ws
      have h2 := sum_le ok.wl
      have h3 := ok.len
      have h4 : ws.length * 1000 ≤ 9000 * 1000 := Nat.mul_le_mul_right _ h3
      show (Txt.join " " ws).length ≤ _
      omega
    refine ⟨_, rfl, ⟨_, rfl⟩, _, _, rfl, rfl, by decide, by rw [sizeLine_eq]; omega, fun p hp => ?_⟩
    rw [show Txt.split (joinT ws) " " = ws from split_join ok.ne ok.sp]
    have s1 := same_upd (o := HO.lst (ws.map V.str)) hp
    have hp1 : upd H p (HO.lst (ws.map V.str)) p = some (.lst (ws.map V.str)) := upd_same
    generalize upd H p (HO.lst (ws.map V.str)) = H1 at s1 hp1
    refine ⟨_, rfl, p, ws, rfl, SqL.of hp1, ok.len, ok.wl, fun i t H2 hi s2 ht => ?_, fun st wv t H2 hi s2 hw ht => ?_⟩
    · refine ⟨t, _, rfl, SqT.of ht, rfl, _, _, rfl, _, _, rfl, rfl, ?_⟩
      refine ⟨_, rfl, rfl, _, rfl, iteT ⟨_, rfl, rfl, fun dd hdd => hE i dd H2 ?_ (s1.trans s2) hdd⟩⟩
      unfold readW
      rw [hi]
    · refine ⟨t, _, rfl, SqT.of ht, rfl, _, _, rfl, _, _, rfl, rfl, ?_⟩
      refine ⟨_, rfl, rfl, _, rfl, iteF ?_⟩
      cases hwh : st.whole with
      | none =>
        rw [hwh] at hw
        obtain rfl : wv = .non := hw
        refine ⟨_, rfl, rfl, _, rfl, iteT ⟨_, rfl, _, _, rfl, .inl ⟨_, SqL.of (s2 _ _ hp1), rfl⟩, rfl, fun dd hdd => ?_⟩⟩
        have q := hE ws.length dd H2 (by unfold readW; rw [hi]; simp only [hwh]) (s1.trans s2) hdd
        rw [List.length_map]
        exact q
      | some d =>
        rw [hwh] at hw
        refine ⟨_, rfl, rfl, _, rfl, ?_⟩
        rw [decide_eq_false hw.2]
        exact iteF ⟨_, rfl, hQ d wv H2 (by unfold readW; rw [hi]; simp only [hwh]) (s1.trans s2) hw.1⟩
  · refine ⟨_, rfl, v, .ty "str", _, _, _, rfl, .ty "str", R.ty, kit_strD d, ?_⟩
    rw [hd]
    exact ⟨_, rfl, iteT ⟨rfl, fun dd hdd => hE dd H (Same.refl H) hdd⟩⟩
theorem D_read_chain (T : Tx K mg) (N : Nx w K mg cN) (Z : Tz P K mg cS cC cT) : Df P w K mg base (CX P w) 5 "read_chain" ["text"] [] (spRead K cT) := (G_read_chain T N Z).df fun _ _ _ _ _ _ us hl => match us, hl with | [_], _ => rfl
theorem K_read_chain (T : Tx K mg) (N : Nx w K mg cN) (Z : Tz P K mg cS cC cT) : Dk P w K mg base (CX P w) 5 "read_chain" ["text"] (spRead K cT) := (G_read_chain T N Z).kw fun _ _ _ _ _ _ us hl => match us, hl with | [_], _ => rfl
end
end Mine

set_option Elab.async false
set_option linter.all false
set_option maxRecDepth 100000
set_option maxHeartbeats 2000000
namespace Mine
open PySem PySem.Spec PyProof.Rows L2
/-- the pen: its cells, how far it is -/
def PenAt (H : Hp) (pen ca : Addr) (B : Nat) : Prop := ∃ (cs : List Int) (at_ rest : Int), H pen = some (.lst [.ref ca, .int at_, .int rest]) ∧ H ca = some (.lst (cs.map V.int)) ∧ cs.length ≤ 63 ∧ 0 ≤ at_ ∧ at_ ≤ (B : Int) ∧ pen ≠ ca
theorem PenAt.mono {H : Hp} {pen ca : Addr} {B C : Nat} (p : PenAt H pen ca B) (h : B ≤ C) : PenAt H pen ca C := by
  obtain ⟨cs, at_, rest, h1, h2, h3, h4, h5, h6⟩ := p
  exact ⟨cs, at_, rest, h1, h2, h3, h4, by omega, h6⟩
theorem PenAt.keep {H H' : Hp} {S : List Addr} {pen ca : Addr} {B : Nat} (p : PenAt H pen ca B) (k : Keep S H H') (h1 : pen ∉ S) (h2 : ca ∉ S) : PenAt H' pen ca B := by
  obtain ⟨cs, at_, rest, e1, e2, e3⟩ := p
  exact ⟨cs, at_, rest, k _ _ e1 h1, k _ _ e2 h2, e3⟩
theorem PenAt.same {H H' : Hp} {pen ca : Addr} {B : Nat} (p : PenAt H pen ca B) (k : Same H H') : PenAt H' pen ca B := p.keep (Keep.of (S := []) k) (by simp) (by simp)
def spPen (K : PySem.W.Frag) : Sp := fun vs H Q _ => ∃ (a : Addr) (ns : List Int), vs = [.ref a] ∧ SqL K H a (ns.map V.int) ∧ ∀ p ca H', Same H H' → H p = none → PenAt H' p ca 0 → Q (.ref p) H'
def spDraw : Sp := fun vs H Q _ => ∃ pen ca m B, vs = [.ref pen, .int m] ∧ PenAt H pen ca B ∧ B < 1000000 ∧ 0 < m ∧ m ≤ 1000000 ∧ ∀ r H', 0 ≤ r → r < m → PenAt H' pen ca (B + 1) → Keep [pen] H H' → Q (.int r) H'
def spPick (K : PySem.W.Frag) : Sp := fun vs H Q _ => ∃ pen ca B s xs, vs = [.ref pen, .ref s] ∧ PenAt H pen ca B ∧ B < 1000000 ∧ SqL K H s xs ∧ s ≠ pen ∧ xs ≠ [] ∧ xs.length ≤ 1000 ∧ ∀ x H', x ∈ xs → PenAt H' pen ca (B + 1) → Keep [pen] H H' → Q x H'
theorem S_law_pen : FnScope ["script", "cell"] ["script"] (defScope (top 30)) := ⟨rfl, rfl, rfl, by decide +kernel, rfl, by decide +kernel, by decide +kernel⟩
theorem S_law_draw : FnScope ["pen", "many", "rest", "at", "cell", "mixed"] ["pen", "many"] (defScope (top 31)) := ⟨rfl, rfl, rfl, by decide +kernel, rfl, by decide +kernel, by decide +kernel⟩
theorem S_law_pick : FnScope ["pen", "some"] ["pen", "some"] (defScope (top 32)) := ⟨rfl, rfl, rfl, by decide +kernel, rfl, by decide +kernel, by decide +kernel⟩
section
variable {P : Program} {w : World} {K : PySem.W.Frag} {mg : Str → Option Value} {base : Heap}
theorem D_law_pen (T : Tx K mg) : Df P w K mg base CX0 1 "_law_pen" ["script"] [] (spPen K) := by
  have sc := S_law_pen
  refine df_of T.law_pen sc (fun vs H Q E h => ?_) (fun _ _ _ _ _ _ us hl => match us, hl with | [_], _ => rfl) ?_
  · obtain ⟨a, ns, rfl, _⟩ := h
    rfl
  intro f cdv A outer s H vs Q E hr h
  obtain ⟨a, ns, rfl, ha, hQ⟩ := h
  refine ⟨_, PSs.nox ((pss_one (ps_ret (pe_lst (pa_cons (pe_lc (own := [("cell", 1)]) (g := gName 1) (tt := tYes) rfl sc.nd (pi_list (pe_slice sl_list (pv 0) po_none (po_some pe_int))) (blkOk_by (N := ["script", "cell"]) (sc := defScope (top 30)) (by decide +kernel)) (fun _ _ _ _ _ => (pg_name (i := 1) sc.nd rfl (Or.inl rfl))) (fun _ _ _ _ _ => pts_nil) (fun _ _ _ _ _ => (pe_callTy call_int1 (by rfl) (T.fr "int") PyProof.Rows.Boot.«int» (pa_cons (pv 1) pa_nil)))) (pa_cons pe_int (pa_cons pe_int pa_nil))))))), ?_⟩
  refine ⟨_, rfl, _, rfl, a, _, rfl, ha, fun p hp => ?_⟩
  have ec : cutV (ns.map V.int) none (some 63) = (ns.take 63).map V.int := by
    unfold cutV
    rw [HT.sIx_none]
    have e : HT.sIx (ns.map V.int).length 0 (some 63) = min 63 (ns.map V.int).length := HT.sIx_nat _ 0 63
    have e2 : HT.sIx (ns.map V.int).length (ns.map V.int).length (some 63) = min 63 (ns.map V.int).length := HT.sIx_nat _ _ 63
    rw [e2]
    simp only [List.drop_zero, Nat.sub_zero, List.length_map]
    rw [List.map_take]
    rw [List.take_eq_take_iff]
    simp
  rw [ec]
  have s1 := same_upd (o := HO.lst ((ns.take 63).map V.int)) hp
  have hp1 : upd H p (HO.lst ((ns.take 63).map V.int)) p = some (.lst ((ns.take 63).map V.int)) := upd_same
  generalize upd H p (HO.lst ((ns.take 63).map V.int)) = H1 at s1 hp1
  have hl63 : (ns.take 63).length ≤ 63 := by rw [List.length_take]; omega
  refine ⟨p, rfl, ⟨_, SqL.of hp1⟩, fun D hD => ?_⟩
  refine lcMap (walk_list (xs := (ns.take 63).map V.int)) (by rw [List.length_map]; omega) (fun H2 s2 => s2.seq (SqL.of hp1)) (fun i y _ => ((ns.take 63).map V.int)[i]? = some y) hD (fun _ _ _ _ _ h => h) ?_ ?_
  · rintro i x H2 H3 hi s2 _ ⟨rfl, hx⟩ R hR
    have hi2 : i < (ns.take 63).length := by rw [List.length_map] at hi; exact hi
    have e : x = .int (ns.take 63)[i] := by
      rw [List.getElem?_map, List.getElem?_eq_getElem hi2] at hx
      exact (Option.some.inj hx).symm
    subst e
    exact ⟨_, rfl, .inl ⟨_, rfl, hR _ _ (Same.refl _) hx⟩⟩
  · intro ys H2 hl hf hD2 s2
    have e : ys = (ns.take 63).map V.int := by
      refine List.ext_getElem? fun i => ?_
      by_cases hi : i < ys.length
      · rw [hf i ys[i] (List.getElem?_eq_getElem hi), List.getElem?_eq_getElem hi]
      · rw [List.getElem?_eq_none (by omega), List.getElem?_eq_none (by omega)]
    subst e
    refine ⟨sz 3, fun q hq => hQ q D _ ((s1.trans s2).trans (same_upd hq)) ?_ ⟨ns.take 63, 0, 0, upd_same, same_upd hq _ _ hD2, hl63, Int.le_refl 0, Int.le_refl 0, ?_⟩⟩
    · cases e : H q with
      | none => rfl
      | some o => rw [(s1.trans s2) _ _ e] at hq; cases hq
    · exact fun z => by rw [z, hD2] at hq; cases hq
/-- the cell that is read -/
def tCell : TE := fun σ H Q => ∃ pen ca at_ cs rest, σ[0]? = some (some (.ref pen)) ∧ σ[3]? = some (some (.int at_)) ∧ H pen = some (.lst [.ref ca, .int (at_ + 1), .int rest]) ∧ H ca = some (.lst ((cs : List Int).map V.int)) ∧ 0 ≤ at_ ∧ ∀ c H', Same H H' → Q (.int c) H'
/-- the test whether it is great: any answer -/
def tBig (K : PySem.W.Frag) : TT := fun σ H Q => ∃ pen ca at_ cs rest c, σ[0]? = some (some (.ref pen)) ∧ σ[3]? = some (some (.int at_)) ∧ σ[4]? = some (some (.int c)) ∧ H pen = some (.lst [.ref ca, .int (at_ + 1), .int rest]) ∧ H ca = some (.lst ((cs : List Int).map V.int)) ∧ ∀ b, Q b H
theorem D_law_draw (T : Tx K mg) : Df P w K mg base CX0 1 "_law_draw" ["pen", "many"] [] spDraw := by
  have sc := S_law_draw
  refine df_of T.law_draw sc (fun vs H Q E h => ?_) (fun _ _ _ _ _ _ us hl => match us, hl with | [_, _], _ => rfl) ?_
  · obtain ⟨pen, ca, m, B, rfl, _⟩ := h
    rfl
  intro f cdv A outer s H vs Q E hr h
  obtain ⟨pen, ca, m, B, rfl, ⟨cs, at_, rest, h1, h2, hcl, ha0, haB, hne⟩, hB, hm, hm2, hQ⟩ := h
  refine ⟨_, PSs.nox ((pss_cons (ps_if (pt_cmpR op_gt (pe_ix ix_list (pv 0) pe_int (fun _ _ => rfl)) pe_int (nomark _))
      (pss_cons (ps_set (i := 2) sc.nd rfl (Or.inl rfl) (pe_callTy call_int1 (by rfl) (T.fr "int") PyProof.Rows.Boot.«int» (pa_cons (pe_ix ix_list (pv 0) pe_int (fun _ _ => rfl)) pa_nil)))
      (pss_cons (ps_asg (pe_op op_fdivN (pv 2) (pv 1)) (pg_sub (pv 0) pe_int set_list))
      (pss_one (ps_ret (pe_op op_modN (pe_callTy call_int1 (by rfl) (T.fr "int") PyProof.Rows.Boot.«int» (pa_cons (pv 2) pa_nil)) (pv 1))))))
      pss_nil)
      (pss_cons (ps_set (i := 3) sc.nd rfl (Or.inl rfl) (pe_ix ix_list (pv 0) pe_int (fun _ _ => rfl)))
      (pss_cons (ps_asg (pe_op op_add (pv 3) pe_int) (pg_sub (pv 0) pe_int set_list))
      (pss_cons (ps_set (i := 4) sc.nd rfl (Or.inl rfl) (pimp tCell (pe_ifExp (pt_cmpR (op_eq_nil (Room.u hr)) (pe_ix ix_list (pv 0) pe_int (fun _ _ => rfl)) (pe_lst pa_nil) (nomark _)) (pe_op op_add (pe_op op_mul pe_int (pv 3)) pe_int) (pe_ix ix_list (pe_ix ix_list (pv 0) pe_int (fun _ _ => rfl)) (pe_op op_modN (pe_callTy call_int1 (by rfl) (T.fr "int") PyProof.Rows.Boot.«int» (pa_cons (pv 3) pa_nil)) (pe_callB call_len (by rfl) (T.fr "len") PyProof.Rows.Boot.«len» (pa_cons (pe_ix ix_list (pv 0) pe_int (fun _ _ => rfl)) pa_nil))) (fun _ _ => rfl))) ?_))
      (pss_cons (ps_if (timp (tBig K) (PW.pt (pw_and (pt_cmpR op_lt (pv 3) (pe_callB call_len (by rfl) (T.fr "len") PyProof.Rows.Boot.«len» (pa_cons (pe_ix ix_list (pv 0) pe_int (fun _ _ => rfl)) pa_nil)) (nomark _)) (pw_and1 (pt_cmpR op_ge (pe_callB call_abs (by rfl) (T.fr "abs") PyProof.Rows.Boot.«abs» (pa_cons (pv 4) pa_nil)) (pe_op op_pow pe_int pe_int) (nomark _))))) ?_)
      (pss_cons (ps_set (i := 2) sc.nd rfl (Or.inl rfl) (pe_op op_add (pe_op op_mul pe_int (pe_op op_sub (pe_callB call_abs (by rfl) (T.fr "abs") PyProof.Rows.Boot.«abs» (pa_cons (pv 4) pa_nil)) (pe_op op_pow pe_int pe_int))) (pe_callTy call_int1 (by rfl) (T.fr "int") PyProof.Rows.Boot.«int» (pa_cons (pe_cmpR op_lt (pv 4) pe_int (nomark _)) pa_nil))))
      (pss_cons (ps_asg (pe_op op_fdivN (pe_callTy call_int1 (by rfl) (T.fr "int") PyProof.Rows.Boot.«int» (pa_cons (pv 2) pa_nil)) (pv 1)) (pg_sub (pv 0) pe_int set_list))
      (pss_one (ps_ret (pe_op op_modN (pe_callTy call_int1 (by rfl) (T.fr "int") PyProof.Rows.Boot.«int» (pa_cons (pv 2) pa_nil)) (pv 1))))))
      pss_nil)
      (pss_cons (ps_set (i := 5) sc.nd rfl (Or.inl rfl) (pe_op op_mod (pe_callTy call_int1 (by rfl) (T.fr "int") PyProof.Rows.Boot.«int» (pa_cons (pe_op op_pow (pe_op op_add (pe_op op_add (pe_op op_mod (pe_callTy call_int1 (by rfl) (T.fr "int") PyProof.Rows.Boot.«int» (pa_cons (pv 4) pa_nil)) pe_int) (pe_op op_mul pe_int (pv 3))) pe_int) pe_int) pa_nil)) pe_int))
      (pss_cons (ps_set (i := 5) sc.nd rfl (Or.inl rfl) (pe_op op_mod (pe_callTy call_int1 (by rfl) (T.fr "int") PyProof.Rows.Boot.«int» (pa_cons (pe_op op_pow (pe_op op_add (pe_op op_add (pe_op op_mul (pv 5) (pe_op op_add (pe_op op_mul pe_int (pv 3)) pe_int)) (pe_op op_mul (pe_op op_mul pe_int (pv 3)) (pv 3))) pe_int) pe_int) pa_nil)) pe_int))
      (pss_one (ps_ret (pe_op op_modN (pe_callTy call_int1 (by rfl) (T.fr "int") PyProof.Rows.Boot.«int» (pa_cons (pe_op op_fdiv (pv 5) pe_int) pa_nil)) (pv 1)))))))))))), ?_⟩
  · intro σ H Q ⟨pen, ca, at_, cs, rest, e0, e3, h1, h2, ha, hQ⟩
    refine ⟨_, e0, pen, _, _, _, rfl, rfl, SqL.of h1, atI_at 0 rfl, sz 0, fun p hp => ⟨ca, p, _, rfl, rfl, SqL.of (same_upd hp _ _ h2), SqL.of upd_same, _, rfl, ?_⟩⟩
    have s1 := same_upd (o := HO.lst []) hp
    replace h1 := s1 _ _ h1
    replace h2 := s1 _ _ h2
    generalize upd H p (HO.lst []) = H1 at s1 h1 h2
    cases cs with
    | nil => exact iteT ⟨_, e3, _, _, rfl, rfl, .inl (by decide), _, _, rfl, rfl, hQ _ _ s1⟩
    | cons c cs =>
      have hl : (0 : Int) < (((c :: cs).map V.int).length : Int) := by simp only [List.length_map, List.length_cons]; omega
      obtain ⟨f1, f2⟩ := fmod_le (a := at_) hl
      obtain ⟨k, hk⟩ := Int.eq_ofNat_of_zero_le f1
      have hk2 : k < (c :: cs).length := by
        rw [hk] at f2
        simp only [List.length_map] at f2
        omega
      refine iteF ⟨_, e0, pen, _, _, _, rfl, rfl, SqL.of h1, atI_at 0 rfl, _, e3, .inl ⟨_, rfl, ?_⟩⟩
      refine ⟨_, e0, pen, _, _, _, rfl, rfl, SqL.of h1, atI_at 0 rfl, _, _, rfl, .inl ⟨_, SqL.of h2, rfl⟩, _, _, rfl, rfl, by omega, ?_⟩
      refine ⟨ca, _, _, .int (c :: cs)[k], rfl, rfl, SqL.of h2, ?_, hQ _ _ s1⟩
      rw [hk]
      refine atI_nat ?_
      rw [List.getElem?_map, List.getElem?_eq_getElem hk2]
      rfl
  · intro σ H Q ⟨pen, ca, at_, cs, rest, c, e0, e3, e4, h1, h2, hQ⟩
    refine ⟨_, e3, _, e0, pen, _, _, _, rfl, rfl, SqL.of h1, atI_at 0 rfl, _, _, rfl, .inl ⟨_, SqL.of h2, rfl⟩, _, _, rfl, rfl, _, rfl, ?_⟩
    refine ite2 (fun _ => ?_) (fun _ => hQ false)
    exact ⟨_, e4, _, rfl, _, _, rfl, rfl, ⟨by decide, by decide, by decide⟩, _, _, rfl, rfl, _, rfl, hQ _⟩
  · have fin : ∀ (r a : Int) (H1 : Hp), H1 pen = some (.lst [.ref ca, .int a, .int r]) → 0 ≤ a → a ≤ ((B + 1 : Nat) : Int) → Keep [pen] H H1 → PenAt H1 pen ca (B + 1) := fun r a H1 e1 e2 e3 k => ⟨cs, a, r, e1, k _ _ h2 (by simpa using Ne.symm hne), hcl, e2, e3, hne⟩
    have kp : ∀ {H1 : Hp} {o : HO}, Keep [pen] H H1 → Keep [pen] H (upd H1 pen o) := fun k => keep_upd k (by simp)
    refine ⟨_, rfl, pen, _, _, _, rfl, rfl, SqL.of h1, atI_at 2 rfl, _, _, rfl, rfl, _, rfl, ?_⟩
    by_cases hr0 : (0 : Int) < rest
    · rw [decide_eq_true hr0]
      refine iteT ?_
      refine ⟨_, rfl, pen, _, _, _, rfl, rfl, SqL.of h1, atI_at 2 rfl, .inl ⟨_, rfl, ?_⟩⟩
      refine ⟨_, rfl, _, rfl, _, _, rfl, rfl, ⟨by omega, by omega⟩, ?_⟩
      refine ⟨_, rfl, pen, _, _, _, rfl, rfl, h1, rfl, ?_⟩
      refine ⟨_, rfl, .inl ⟨_, rfl, ?_⟩⟩
      obtain ⟨f1, f2⟩ := fmod_le (a := rest) hm
      exact ⟨_, rfl, _, _, rfl, rfl, by omega, hQ _ _ f1 f2 (fin _ _ _ upd_same ha0 (by omega) (kp (Keep.refl _))) (kp (Keep.refl _))⟩
    rw [decide_eq_false hr0]
    refine iteF ?_
    refine ⟨_, rfl, pen, _, _, _, rfl, rfl, SqL.of h1, atI_at 1 rfl, ?_⟩
    refine ⟨_, rfl, _, _, rfl, rfl, ?_⟩
    refine ⟨_, rfl, pen, _, _, _, rfl, rfl, h1, rfl, ?_⟩
    have k1 : Keep [pen] H (upd H pen (.lst [.ref ca, .int (at_ + 1), .int rest])) := kp (Keep.refl _)
    have h3 : upd H pen (.lst [.ref ca, .int (at_ + 1), .int rest]) pen = some (.lst [.ref ca, .int (at_ + 1), .int rest]) := upd_same
    refine ⟨pen, ca, at_, cs, rest, rfl, rfl, h3, k1 _ _ h2 (by simpa using Ne.symm hne), ha0, fun c H2 s2 => ?_⟩
    replace k1 := keep_same k1 s2
    replace h3 := s2 _ _ h3
    clear s2
    have h4 : H2 ca = some (.lst (cs.map V.int)) := k1 _ _ h2 (by simpa using Ne.symm hne)
    refine ⟨pen, ca, at_, cs, rest, c, rfl, rfl, rfl, h3, h4, fun b => ?_⟩
    cases b with
    | true =>
      refine iteT ?_
      refine ⟨_, rfl, _, rfl, _, _, rfl, rfl, ⟨by decide, by decide, by decide⟩, _, _, rfl, rfl, _, _, rfl, rfl, .inl (by decide), _, rfl, _, _, rfl, rfl, .inr ⟨_, rfl, _, _, rfl, rfl, ?_⟩⟩
      refine ⟨_, rfl, .inl ⟨_, rfl, ?_⟩⟩
      refine ⟨_, rfl, _, _, rfl, rfl, ⟨by omega, by omega⟩, ?_⟩
      refine ⟨_, rfl, pen, _, _, _, rfl, rfl, h3, rfl, ?_⟩
      refine ⟨_, rfl, .inl ⟨_, rfl, ?_⟩⟩
      obtain ⟨f1, f2⟩ := fmod_le (a := 2 * ((if c < 0 then -c else c) - 10 ^ 18) + (if (decide (c < 0)) = true then 1 else 0)) hm
      exact ⟨_, rfl, _, _, rfl, rfl, by omega, hQ _ _ f1 f2 (fin _ _ _ upd_same (by omega) (by omega) (kp k1)) (kp k1)⟩
    | false =>
      refine iteF ?_
      have e1 := Int.emod_nonneg c (show (2147483549 : Int) ≠ 0 by decide)
      have e2 := Int.emod_lt_of_pos c (show (0 : Int) < 2147483549 by decide)
      refine ⟨_, rfl, .inl ⟨_, rfl, _, _, rfl, rfl, by show (0 : Int) < 2147483549; decide, _, rfl, _, _, rfl, rfl, .inl (by decide), _, _, rfl, rfl, _, _, rfl, rfl, _, _, rfl, rfl, ⟨by decide, by decide, ?_⟩, .inl ⟨_, rfl, _, _, rfl, rfl, by show (0 : Int) < 2147483629; decide, ?_⟩⟩⟩
      · show (c % 2147483549 + 86531 * at_ + 5381).natAbs < 2 ^ 64
        omega
      dsimp only
      generalize hm1 : (c % 2147483549 + 86531 * at_ + 5381) ^ (3 : Int).toNat % 2147483629 = m1
      have e3 : 0 ≤ m1 := by rw [← hm1]; exact Int.emod_nonneg _ (by decide)
      have e4 : m1 < 2147483629 := by rw [← hm1]; exact Int.emod_lt_of_pos _ (by decide)
      have e5 : 0 ≤ m1 * (2 * at_ + 311) := Int.mul_nonneg e3 (by omega)
      have e6 : m1 * (2 * at_ + 311) ≤ 2147483629 * 2000311 := Int.mul_le_mul (by omega) (by omega) (by omega) (by omega)
      have e7 : 0 ≤ 5381 * at_ * at_ := Int.mul_nonneg (by omega) ha0
      have e8 : 5381 * at_ * at_ ≤ (5381 * 1000000) * 1000000 := Int.mul_le_mul (by omega) (by omega) ha0 (by omega)
      refine ⟨_, rfl, _, rfl, _, _, rfl, rfl, .inl (by decide), _, _, rfl, rfl, _, _, rfl, rfl, .inl ⟨by omega, by omega⟩, _, rfl, _, _, rfl, rfl, .inl (by decide), _, rfl, _, _, rfl, rfl, .inl ⟨by omega, by omega⟩, _, _, rfl, rfl, _, _, rfl, rfl, _, _, rfl, rfl, ⟨by decide, by decide, ?_⟩, .inl ⟨_, rfl, _, _, rfl, rfl, by show (0 : Int) < 2147483563; decide, ?_⟩⟩
      · show (m1 * (2 * at_ + 311) + 5381 * at_ * at_ + 86531).natAbs < 2 ^ 64
        omega
      dsimp only
      generalize (m1 * (2 * at_ + 311) + 5381 * at_ * at_ + 86531) ^ (5 : Int).toNat % 2147483563 = m2
      obtain ⟨f1, f2⟩ := fmod_le (a := m2 / 32) hm
      exact ⟨_, rfl, _, _, rfl, rfl, ⟨by decide, by decide⟩, .inl ⟨_, rfl, _, rfl, _, _, rfl, rfl, by omega, hQ _ _ f1 f2 (fin _ _ _ h3 (by omega) (by omega) k1) k1⟩⟩
end
end Mine

set_option Elab.async false
set_option linter.all false
set_option maxRecDepth 100000
set_option maxHeartbeats 2000000
namespace Mine
open PySem PySem.Spec PyProof.Rows L2
section
variable {P : Program} {w : World} {K : PySem.W.Frag} {mg : Str → Option Value} {base : Heap}
theorem D_law_pick (T : Tx K mg) : Df P w K mg base CX0 2 "_law_pick" ["pen", "some"] [] (spPick K) := by
  have sc := S_law_pick
  have DD := D_law_draw (P := P) (w := w) (base := base) T
  refine df_of T.law_pick sc (fun vs H Q E h => ?_) (fun _ _ _ _ _ _ us hl => match us, hl with | [_, _], _ => rfl) ?_
  · obtain ⟨pen, ca, B, s, xs, rfl, _⟩ := h
    rfl
  intro f cdv A outer s0 H vs Q E hr h
  obtain ⟨pen, ca, B, s, xs, rfl, hp, hB, hs, hne, hx, hl, hQ⟩ := h
  refine ⟨_, PSs.nox ((pss_one (ps_ret (pe_ix ix_list (pv 1) (pcall DD hr .nil pass0 (pa_cons (pv 0) (pa_cons (pe_callB call_len (by rfl) (T.fr "len") PyProof.Rows.Boot.«len» (pa_cons (pv 1) pa_nil)) pa_nil))) (fun _ _ => rfl))))), ?_⟩
  have hpos : 0 < xs.length := List.length_pos_iff.mpr hx
  refine ⟨_, rfl, _, rfl, _, rfl, _, _, rfl, .inl ⟨_, hs, rfl⟩, pen, ca, _, B, rfl, hp, hB, by omega, by omega, fun r H1 h1 h2 hp1 k1 => ?_⟩
  obtain ⟨k, rfl⟩ := Int.eq_ofNat_of_zero_le h1
  have hk : k < xs.length := by omega
  exact ⟨s, _, _, xs[k], rfl, rfl, (k1.sty (by simpa using hne)).1 hs, atI_nat (List.getElem?_eq_getElem hk), hQ _ _ (List.getElem_mem hk) hp1 k1⟩
end
end Mine

set_option Elab.async false
set_option linter.all false
set_option maxRecDepth 100000
set_option maxHeartbeats 2000000
namespace Mine
open PySem PySem.Spec PyProof.Rows L2
theorem tupKeep_of {S : List Addr} {H H' : Hp} (k : Keep S H H') (h : ∀ a ∈ S, ∀ xs, H a ≠ some (.tup xs)) : TupKeep H H' := fun t xs e => k _ _ e fun z => h t z xs e
theorem node_ok {w : Str} {ps : List Ch} (h1 : w ∈ heads) (h2 : 1 ≤ ps.length) (h3 : ps.length ≤ most w) (h4 : okL ps) : (Ch.node w ps).ok := by
  rw [Ch.ok]
  exact ⟨h1, h2, h3, h4⟩
theorem okL_nil : okL [] := by
  rw [okL]
  trivial
theorem okL_cons {c : Ch} {ps : List Ch} (h : c.ok) (hs : okL ps) : okL (c :: ps) := by
  rw [okL]
  exact ⟨h, hs⟩
theorem okL_app : ∀ {ps : List Ch} {c : Ch}, okL ps → c.ok → okL (ps ++ [c])
  | [], c, _, h => okL_cons h okL_nil
  | p :: ps, c, hs, h => by
    rw [okL] at hs
    exact okL_cons hs.1 (okL_app hs.2 h)
theorem sizeL_app : ∀ {ps : List Ch} {c : Ch}, sizeL (ps ++ [c]) = sizeL ps + c.size
  | [], c => by simp [sizeL]
  | p :: ps, c => by
    rw [List.cons_append, sizeL, sizeL, sizeL_app]
    omega
theorem depthL_app : ∀ {ps : List Ch} {c : Ch}, depthL (ps ++ [c]) = max (depthL ps) c.depth
  | [], c => by simp [depthL]
  | p :: ps, c => by
    rw [List.cons_append, depthL, depthL, depthL_app]
    omega
theorem dataL_app : ∀ {ps : List Ch} {c : Ch}, dataL (ps ++ [c]) = dataL ps ++ [c.data]
  | [], c => by simp [dataL]
  | p :: ps, c => by
    rw [List.cons_append, dataL, dataL, dataL_app, List.cons_append]
def spChain (K : PySem.W.Frag) (n : Nat) : Sp := fun vs H Q _ => ∃ pen ca lf B lv b, vs = [.ref pen, .int (lv : Nat), .ref lf] ∧ 1 ≤ lv ∧ lv ≤ 8 ∧ 8 ≤ lv + n ∧ PenAt H pen ca B ∧ B + 3 * b ≤ 900000 ∧ H lf = some (.lst [.int (b : Nat)]) ∧ 1 ≤ b ∧ b ≤ 40 ∧ lf ≠ pen ∧ lf ≠ ca ∧
  ∀ (u : V) (c : Ch) H', c.ok → c.size ≤ b → c.depth + lv ≤ 9 → Rp K (tupOf H') u c.data → PenAt H' pen ca (B + 3 * c.size) → H' lf = some (.lst [.int ((b - c.size : Nat) : Int)]) → Keep [pen, lf] H H' → Q u H'
def tWay : TE := fun σ H Q => ∃ pen ca lf B lv b, σ[0]? = some (some (.ref pen)) ∧ σ[1]? = some (some (.int (lv : Nat))) ∧ σ[2]? = some (some (.ref lf)) ∧ PenAt H pen ca B ∧ B < 900000 ∧ lf ≠ pen ∧ H lf = some (.lst [.int (b : Int)]) ∧
  ∀ r H', 0 ≤ r → r < 5 → (r ≠ 0 → lv < 8 ∧ 0 < b) → PenAt H' pen ca (B + 1) → H' lf = some (.lst [.int (b : Int)]) → Keep [pen, lf] H H' → Q (.int r) H'
def tLeaf : TT := fun σ H Q => ∃ lf lv b wy, σ[1]? = some (some (.int (lv : Nat))) ∧ σ[2]? = some (some (.ref lf)) ∧ σ[3]? = some (some (.int wy)) ∧ H lf = some (.lst [.int (b : Int)]) ∧ Q (decide (wy < 2 ∧ (2 < lv ∨ b ≤ 0 ∨ lv = 8))) H
theorem S_law_chain : FnScope ["pen", "level", "left", "way", "found", "part"] ["pen", "level", "left"] (defScope (top 34)) := ⟨rfl, rfl, rfl, by decide +kernel, rfl, by decide +kernel, by decide +kernel⟩
def leafs : List Str := ["a", "b", "then", "or", "again", "this", "zzzzzzzz", "save", "c"]
theorem leafs_ok : ∀ s ∈ leafs, nameOk s = true := by decide
section
variable {P : Program} {w : World} {K : PySem.W.Frag} {mg : Str → Option Value} {base : Heap}
theorem step_law_chain (T : Tx K mg) (n : Nat) (sp' : Sp) (hsp : ∀ vs H Q E, n ≠ 0 → spChain K (n - 1) vs H Q E → sp' vs H Q E) (ih : Df P w K mg base CX0 (n + 2) "_law_chain" ["pen", "level", "left"] [] sp') : Df P w K mg base CX0 (n + 3) "_law_chain" ["pen", "level", "left"] [] (spChain K n) := by
  have sc := S_law_chain
  have DD := D_law_draw (P := P) (w := w) (base := base) T
  have DP := D_law_pick (P := P) (w := w) (base := base) T
  refine df_of T.law_chain sc (fun vs H Q E h => ?_) (fun _ _ _ _ _ _ us hl => match us, hl with | [_, _, _], _ => rfl) ?_
  · obtain ⟨pen, ca, lf, B, lv, b, rfl, _⟩ := h
    rfl
  intro f cdv A outer s0 H vs Q E hr h
  obtain ⟨pen, ca, lf, B, lv, b, rfl, hl1, hl8, hln, hp, hB, hlf, hb1, hb40, hlp, hlc, hQ⟩ := h
  refine ⟨_, PSs.nox ((pss_cons (ps_asg (pe_op op_sub (pe_ix ix_list (pv 2) pe_int (fun _ _ => rfl)) pe_int) (pg_sub (pv 2) pe_int set_list))
      (pss_cons (ps_set (i := 3) sc.nd rfl (Or.inl rfl) (pimp tWay (pe_ifExp (PW.pt (pw_and (pt_cmpR op_lt (pv 1) pe_int (nomark _)) (pw_and1 (pt_cmpR op_gt (pe_ix ix_list (pv 2) pe_int (fun _ _ => rfl)) pe_int (nomark _))))) (pcall DD (hr.mono (by omega)) .nil pass0 (pa_cons (pv 0) (pa_cons pe_int pa_nil))) pe_int) ?_))
      (pss_cons (ps_if (timp tLeaf (PW.pt (pw_and (pt_cmpR op_lt (pv 3) pe_int (nomark _)) (pw_and1 (PW.pt (pw_or (pt_cmpR op_gt (pv 1) pe_int (nomark _)) (pw_or (pt_cmpR op_le (pe_ix ix_list (pv 2) pe_int (fun _ _ => rfl)) pe_int (nomark _)) (pw_or1 (pt_cmpR op_eq (pv 1) pe_int (nomark _))))))))) ?_)
      (pss_one (ps_ret (pe_tup (pa_cons pe_str (pa_cons (pcall DP (hr.mono (by omega)) .nil pass0 (pa_cons (pv 0) (pa_cons (pe_lst (pa_cons pe_str (pa_cons pe_str (pa_cons pe_str (pa_cons pe_str (pa_cons pe_str (pa_cons pe_str (pa_cons pe_str (pa_cons pe_str (pa_cons pe_str pa_nil)))))))))) pa_nil))) pa_nil)))))
      pss_nil)
      (pss_cons (ps_if (pt_cmpR op_eq (pv 3) pe_int (nomark _))
      (pss_one (ps_ret (pe_tup (pa_cons pe_str (pa_cons (pcall ih hr .nil pass0 (pa_cons (pv 0) (pa_cons (pe_op op_add (pv 1) pe_int) (pa_cons (pv 2) pa_nil)))) pa_nil)))))
      pss_nil)
      (pss_cons (ps_set (i := 4) sc.nd rfl (Or.inl rfl) (pe_lst (pa_cons (pcall DP (hr.mono (by omega)) .nil pass0 (pa_cons (pv 0) (pa_cons (pe_lst (pa_cons pe_str (pa_cons pe_str pa_nil))) pa_nil))) pa_nil)))
      (pss_cons (ps_for PassesOwn.never rfl (pi_range1 (by rfl) (T.fr "range") (pa_cons (pe_op op_add pe_int (pcall DD (hr.mono (by omega)) .nil pass0 (pa_cons (pv 0) (pa_cons pe_int pa_nil)))) pa_nil)) (pg_name (i := 5) sc.nd rfl (Or.inl rfl))
      (pss_one (ps_if (pt_cmpR op_gt (pe_ix ix_list (pv 2) pe_int (fun _ _ => rfl)) pe_int (nomark _))
      (pss_one (ps_expr (pe_bm PySem.F.plainAttrs_list PySem.F.slot_list_append PySem.F.type_list_append mt_append (pv 4) (pa_cons (pcall ih hr .nil pass0 (pa_cons (pv 0) (pa_cons (pe_op op_add (pv 1) pe_int) (pa_cons (pv 2) pa_nil)))) pa_nil))))
      pss_nil)))
      (pss_one (ps_ret (pe_callTy call_tuple_of (by rfl) (T.fr "tuple") PyProof.Rows.Boot.«tuple» (pa_cons (pv 4) pa_nil))))))))))), ?_⟩
  · intro σ H Q ⟨pen, ca, lf, B, lv, b, e0, e1, e2, hp, hB, hlp, hlf, hY⟩
    have go : (lv < 8 ∧ 0 < b → tCall spDraw [] E0 (tCons (tVar 0) (tCons (tC (V.int 5)) tNil)) σ H Q) := fun h =>
      ⟨_, e0, pen, ca, 5, B, rfl, hp, by omega, by omega, by omega, fun r H' h1 h2 p1 k1 => hY r H' h1 h2 (fun _ => h) p1 (k1 _ _ hlf (by simpa using hlp)) (fun b o e hb => k1 b o e (fun z => hb (by simp at z; rw [z]; simp)))⟩
    have hN : Q (.int 0) H := hY 0 H (by omega) (by omega) (fun z => absurd rfl z) (hp.mono (Nat.le_succ _)) hlf (Keep.refl _)
    refine ⟨_, e1, _, _, rfl, rfl, _, rfl, ?_⟩
    by_cases h8 : lv < 8
    · refine ite_of true (decide_eq_true (by omega)) (iteT ?_)
      refine ⟨_, e2, lf, _, _, _, rfl, rfl, SqL.of hlf, atI_at 0 rfl, _, _, rfl, rfl, _, rfl, ?_⟩
      by_cases hb : 0 < b
      · exact ite_of true (decide_eq_true hb) (iteT (go ⟨h8, hb⟩))
      · exact ite_of false (decide_eq_false hb) (iteF hN)
    · exact ite_of false (decide_eq_false (by omega)) (iteF hN)
  · intro σ H Q ⟨lf, lv, b, wy, e1, e2, e3, hlf, hQ⟩
    refine ⟨_, e3, _, _, rfl, rfl, _, rfl, ?_⟩
    have hq : ∀ c : Bool, decide (wy < 2 ∧ (2 < lv ∨ b ≤ 0 ∨ lv = 8)) = c → Q c H := fun c e => e ▸ hQ
    by_cases hw : wy < 2
    · refine ite_of true (decide_eq_true hw) (iteT ?_)
      refine ⟨_, e1, _, _, rfl, rfl, _, rfl, ?_⟩
      by_cases h2 : 2 < lv
      · exact ite_of true (decide_eq_true (by omega)) (iteT (hq true (decide_eq_true ⟨hw, .inl h2⟩)))
      refine ite_of false (decide_eq_false (by omega)) (iteF ?_)
      refine ⟨_, e2, lf, _, _, _, rfl, rfl, SqL.of hlf, atI_at 0 rfl, _, _, rfl, rfl, _, rfl, ?_⟩
      by_cases hb : b ≤ 0
      · exact ite_of true (decide_eq_true hb) (iteT (hq true (decide_eq_true ⟨hw, .inr (.inl hb)⟩)))
      refine ite_of false (decide_eq_false hb) (iteF ?_)
      refine ⟨_, e1, rfl, _, rfl, ?_⟩
      have e8 : decide (V.int (lv : Int) = V.int 8) = decide (wy < 2 ∧ (2 < lv ∨ b ≤ 0 ∨ lv = 8)) := by
        rw [Bool.eq_iff_iff]
        simp only [decide_eq_true_eq, V.int.injEq]
        omega
      rw [e8]
      exact hQ
    · exact ite_of false (decide_eq_false hw) (iteF (hq false (decide_eq_false fun z => hw z.1)))
  · have kp : ∀ {H1 : Hp} {o : HO}, Keep [pen, lf] H H1 → Keep [pen, lf] H (upd H1 lf o) := fun k => keep_upd k (by simp)
    have kd : ∀ {H1 H2 : Hp}, Keep [pen] H1 H2 → Keep [pen, lf] H1 H2 := fun k b o e n => k b o e (fun z => n (by simp at z; rw [z]; simp))
    refine ⟨_, rfl, lf, _, _, _, rfl, rfl, SqL.of hlf, atI_at 0 rfl, _, _, rfl, rfl, ?_⟩
    refine ⟨_, rfl, lf, _, _, _, rfl, rfl, hlf, rfl, ?_⟩
    have k1 : Keep [pen, lf] H (upd H lf (.lst [.int ((b : Int) - 1)])) := kp (Keep.refl _)
    have hp1 : PenAt (upd H lf (.lst [.int ((b : Int) - 1)])) pen ca B := by
      obtain ⟨cs, at_, rest, q1, q2, q3⟩ := hp
      refine ⟨cs, at_, rest, ?_, ?_, q3⟩
      · rw [upd_ne (Ne.symm hlp)]; exact q1
      · rw [upd_ne (Ne.symm hlc)]; exact q2
    have hlf1 : upd H lf (.lst [.int ((b : Int) - 1)]) lf = some (.lst [.int ((b : Int) - 1)]) := upd_same
    have htk : TupKeep H (upd H lf (.lst [.int ((b : Int) - 1)])) := TupKeep.lst hlf
    refine ⟨pen, ca, lf, B, lv, (b : Int) - 1, rfl, rfl, rfl, hp1, by omega, hlp, hlf1, fun wy H2 hw0 hw5 hwn hp2 hlf2 k2 => ?_⟩
    replace k2 := k1.trans k2
    clear k1 hp1 hlf1
    refine ⟨lf, lv, (b : Int) - 1, wy, rfl, rfl, rfl, hlf2, ?_⟩
    by_cases hleaf : wy < 2 ∧ (2 < lv ∨ (b : Int) - 1 ≤ 0 ∨ lv = 8)
    · refine ite_of true (decide_eq_true hleaf) (iteT ?_)
      refine ⟨_, rfl, sz 9, fun q hq => ?_⟩
      have s3 := same_upd (o := HO.lst (leafs.map V.str)) hq
      have hqp : q ≠ pen := fun z => by
        obtain ⟨cs, at_, rest, q1, q2, q3⟩ := hp2
        rw [z, q1] at hq
        cases hq
      refine ⟨pen, ca, B + 1, q, leafs.map V.str, rfl, hp2.same s3, by omega, SqL.of upd_same, hqp, by decide, by decide, fun x H4 hx hp4 k4 => ?_⟩
      obtain ⟨z, hz, rfl⟩ := List.mem_map.mp hx
      have hzok := leafs_ok z hz
      have k5 : Keep [pen, lf] H H4 := (keep_same k2 s3).trans (kd k4)
      refine ⟨sz 2, fun t ht => hQ (.ref t) (.this z) _ (by simpa [Ch.ok] using hzok) (by simp only [Ch.size]; omega) (by simp only [Ch.depth]; omega) ?_ ((hp4.same (same_upd ht)).mono (by simp only [Ch.size]; omega)) ?_ (keep_same k5 (same_upd ht))⟩
      · have hz8 := nameOk_len hzok
        rw [Ch.data]
        exact .tup (SqT.of (tupOf_at upd_same)) (.cons (.str _ (by decide)) (.cons (.str z (by omega)) .nil)) (by show 2 ≤ 10000; omega)
      · have e : H4 lf = some (.lst [.int ((b : Int) - 1)]) := k4 _ _ (s3 _ _ hlf2) (by simpa using hlp)
        rw [same_upd ht _ _ e]
        simp only [Ch.size]
        congr 4
        omega
    refine ite_of false (decide_eq_false hleaf) (iteF ?_)
    have hb0 : 0 < (b : Int) - 1 ∧ lv < 8 := by
      by_cases h0 : wy = 0
      · omega
      · have := hwn h0
        exact ⟨this.2, this.1⟩
    have hbn : (b : Int) - 1 = ((b - 1 : Nat) : Int) := by omega
    have hn0 : n ≠ 0 := by omega
    rw [hbn] at hlf2
    refine ⟨_, rfl, rfl, _, rfl, ?_⟩
    by_cases h4 : wy = 4
    · refine ite_of true (decide_eq_true (by rw [h4])) (iteT ?_)
      refine ⟨_, rfl, _, rfl, _, _, rfl, rfl, _, rfl, hsp _ _ _ _ hn0 ⟨pen, ca, lf, B + 1, lv + 1, b - 1, rfl, by omega, by omega, by omega, hp2, by omega, hlf2, by omega, by omega, hlp, hlc, fun u c H4 hok hcs hcd hR hp4 hlf4 k4 => ?_⟩⟩
      refine ⟨sz 2, fun t ht => hQ (.ref t) (.node sAgain [c]) _ ?_ ?_ ?_ ?_ ((hp4.same (same_upd ht)).mono ?_) ?_ (keep_same (k2.trans k4) (same_upd ht))⟩
      · exact node_ok (by decide) (Nat.le_refl 1) (show 1 ≤ most sAgain from most_pos _) (okL_cons hok okL_nil)
      · simp only [Ch.size, sizeL]; omega
      · simp only [Ch.depth, depthL]; omega
      · rw [Ch.data, dataL, dataL]
        exact .tup (SqT.of (tupOf_at upd_same)) (.cons (.str _ (by decide)) (.cons (Rp.same (TupKeep.of (same_upd ht)).up _ _ hR) .nil)) (by show 2 ≤ 10000; omega)
      · simp only [Ch.size, sizeL]; omega
      · rw [same_upd ht _ _ hlf4]
        simp only [Ch.size, sizeL]
        congr 4
        omega
    refine ite_of false (decide_eq_false (by intro z; cases z; exact h4 rfl)) (iteF ?_)
    refine ⟨_, rfl, sz 2, fun q hq => ?_⟩
    have s3 := same_upd (o := HO.lst [.str "then", .str "or"]) hq
    have hqp : q ≠ pen := fun z => by
      obtain ⟨cs, at_, rest, q1, q2, q3⟩ := hp2
      rw [z, q1] at hq
      cases hq
    refine ⟨pen, ca, B + 1, q, [.str "then", .str "or"], rfl, hp2.same s3, by omega, SqL.of upd_same, hqp, by simp, by show 2 ≤ 1000; omega, fun x H3 hx hp3 k3 => ⟨sz 1, fun fo hfo => ?_⟩⟩
    obtain ⟨w0, hw0h, hw0a, rfl⟩ : ∃ w0 : Str, w0 ∈ heads ∧ w0 ≠ sAgain ∧ x = .str w0 := by
      rcases List.mem_cons.mp hx with e | e
      · exact ⟨sThen, by decide, by decide, e⟩
      · rcases List.mem_cons.mp e with e | e
        · exact ⟨sOr, by decide, by decide, e⟩
        · cases e
    have hmost : most w0 = 6 := if_neg hw0a
    have k3' : Keep [pen, lf] H H3 := (keep_same k2 s3).trans (kd k3)
    have hlf3 : H3 lf = some (.lst [.int ((b - 1 : Nat) : Int)]) := k3 _ _ (s3 _ _ hlf2) (by simpa using hlp)
    have s4 := same_upd (o := HO.lst [.str w0]) hfo
    have hfo1 : upd H3 fo (HO.lst [.str w0]) fo = some (.lst [.str w0]) := upd_same
    have hfp : fo ≠ pen := fun z => by
      obtain ⟨cs, at_, rest, q1, q2, q3⟩ := hp3
      rw [z, q1] at hfo
      cases hfo
    have hfc : fo ≠ ca := fun z => by
      obtain ⟨cs, at_, rest, q1, q2, q3⟩ := hp3
      rw [z, q2] at hfo
      cases hfo
    have hfl : fo ≠ lf := fun z => by rw [z, hlf3] at hfo; cases hfo
    have hfH : ∀ o, H fo = some o → fo ∉ ([pen, lf] : List Addr) → False := fun o e z => by rw [k3' _ _ e z] at hfo; cases hfo
    have hfH0 : H fo = none := by
      cases e : H fo with
      | none => rfl
      | some o => exact (hfH o e (by simp [hfp, hfl])).elim
    replace hp3 := hp3.same s4
    replace hlf3 := s4 _ _ hlf3
    replace k3' := keep_same k3' s4
    generalize upd H3 fo (HO.lst [.str w0]) = H4 at hfo1 hp3 hlf3 k3'
    refine ⟨_, rfl, pen, ca, 6, B + 2, rfl, hp3, by omega, by omega, by omega, fun r H5 hr0 hr6 hp5 k5 => ?_⟩
    have hlf5 := k5 _ _ hlf3 (by simpa using hlp)
    have hfo5 := k5 _ _ hfo1 (by simpa using hfp)
    have k5' := k3'.trans (kd k5)
    refine ⟨_, _, rfl, rfl, _, rfl, by omega, by omega, ?_⟩
    refine for_it walk_range (fun i σ H6 => ∃ c5 ps vs, σ = [some (.ref pen), some (.int (lv : Nat)), some (.ref lf), some (.int wy), some (.ref fo), c5] ∧ Keep [pen, lf] H H6 ∧ H6 fo = some (.lst (.str w0 :: vs)) ∧ RpL K (tupOf H6) vs (dataL ps) ∧ okL ps ∧ sizeL ps ≤ b - 1 ∧ depthL ps + lv ≤ 8 ∧ ps.length ≤ i ∧ (1 ≤ i → 1 ≤ ps.length) ∧ PenAt H6 pen ca (B + 3 + 3 * sizeL ps) ∧ H6 lf = some (.lst [.int ((b - 1 - sizeL ps : Nat) : Int)]))
      ⟨none, [], [], rfl, k5', hfo5, .nil, okL_nil, by simp [sizeL], by simp only [depthL]; omega, Nat.le_refl _, by omega, hp5, hlf5⟩ (fun _ _ _ _ _ => trivial) ?_ ?_
    · rintro i x σ H6 H7 hi ⟨c5, ps, vs, rfl, k6, hf6, hv6, hok6, hs6, hd6, hl6, hm6, hp6, hlf6⟩ ⟨rfl, rfl⟩
      refine ⟨_, rfl, lf, _, _, _, rfl, rfl, SqL.of hlf6, atI_at 0 rfl, _, _, rfl, rfl, _, rfl, ?_⟩
      by_cases hz : 0 < b - 1 - sizeL ps
      · refine ite_of true (decide_eq_true (by omega)) (iteT ?_)
        refine ⟨_, rfl, .inl ⟨rfl, _, SqL.of hf6⟩, _, rfl, _, rfl, _, _, rfl, rfl, _, rfl, hsp _ _ _ _ hn0 ⟨pen, ca, lf, B + 3 + 3 * sizeL ps, lv + 1, b - 1 - sizeL ps, rfl, by omega, by omega, by omega, hp6, by omega, hlf6, by omega, by omega, hlp, hlc, fun u c H8 hok hcs hcd hR hp8 hlf8 k8 => ?_⟩⟩
        have hf8 : H8 fo = some (.lst (.str w0 :: vs)) := k8 _ _ hf6 (by simp [hfp, hfl])
        have tk8 : TupKeep H7 H8 := tupKeep_of k8 fun a ha xs z => by
          rcases List.mem_cons.mp ha with e | e
          · obtain ⟨cs, at_, rest, q1, q2, q3⟩ := hp6
            rw [e, q1] at z
            cases z
          · have e : a = lf := by simpa using e
            rw [e, hlf6] at z
            cases z
        have tk9 : TupKeep H8 (upd H8 fo (.lst (.str w0 :: vs ++ [u]))) := TupKeep.lst hf8
        have k9 : Keep [fo] H8 (upd H8 fo (.lst (.str w0 :: vs ++ [u]))) := keep_upd (Keep.refl _) (by simp)
        refine ⟨fo, _, _, rfl, rfl, hf8, ?_, some (.int (0 + (i : Nat))), ps ++ [c], vs ++ [u], rfl, ?_, upd_same, ?_, okL_app hok6 hok, ?_, ?_, ?_, fun _ => by simp, ?_, ?_⟩
        · rw [List.length_cons, hv6.length, dataL_length, sizeLine_eq]
          omega
        · exact fun a o e n => k9 _ _ ((k6.trans k8) a o e n) (by
            intro z
            have e2 : a = fo := by simpa using z
            rw [e2, hfH0] at e
            cases e)
        · rw [dataL_app]
          exact (RpL.same (tk8.trans tk9).up _ _ hv6).app (.cons (Rp.same tk9.up _ _ hR) .nil)
        · rw [sizeL_app]; omega
        · rw [depthL_app]; omega
        · rw [List.length_append]; simp only [List.length_cons, List.length_nil]; omega
        · rw [sizeL_app]
          exact (hp8.keep k9 (by simpa using Ne.symm hfp) (by simpa using Ne.symm hfc)).mono (by omega)
        · rw [sizeL_app, k9 _ _ hlf8 (by simpa using Ne.symm hfl)]
          congr 4
          omega
      · refine ite_of false (decide_eq_false (by omega)) (iteF ?_)
        refine ⟨some (.int (0 + (i : Nat))), ps, vs, rfl, k6, hf6, hv6, hok6, hs6, hd6, by omega, fun _ => ?_, hp6, hlf6⟩
        by_cases hi0 : i = 0
        · have : ps = [] := List.length_eq_zero_iff.mp (by omega)
          subst this
          simp only [sizeL] at hz
          omega
        · exact hm6 (by omega)
    · rintro σ H6 ⟨c5, ps, vs, rfl, k6, hf6, hv6, hok6, hs6, hd6, hl6, hm6, hp6, hlf6⟩
      have hl62 : ps.length ≤ 6 := by omega
      have hl61 : 1 ≤ ps.length := hm6 (by omega)
      refine ⟨_, rfl, fo, _, rfl, .inl ⟨SqL.of hf6, fun t ht => ?_⟩⟩
      have s7 := same_upd (o := HO.tup (.str w0 :: vs)) ht
      refine hQ (.ref t) (.node w0 ps) _ (node_ok hw0h hl61 (by omega) hok6) (by simp only [Ch.size]; omega) (by simp only [Ch.depth]; omega) ?_ ((hp6.same s7).mono (by simp only [Ch.size]; omega)) ?_ (keep_same k6 s7)
      · rw [Ch.data]
        refine .tup (SqT.of (tupOf_at upd_same)) (.cons (.str w0 ?_) (RpL.same (TupKeep.of s7).up _ _ hv6)) (by rw [List.length_cons, dataL_length]; omega)
        have := heads_len w0 hw0h
        omega
      · rw [s7 _ _ hlf6]
        simp only [Ch.size]
        congr 4
        omega
theorem D_law_chain (T : Tx K mg) : ∀ n, Df P w K mg base CX0 (n + 3) "_law_chain" ["pen", "level", "left"] [] (spChain K n) := by
  intro n
  induction n with
  | zero => exact step_law_chain T 0 _ (fun _ _ _ _ z _ => absurd rfl z) ((df_false T.law_chain S_law_chain fun _ _ _ _ _ _ us hl => match us, hl with | [_, _, _], _ => rfl : Df P w K mg base CX0 1 "_law_chain" ["pen", "level", "left"] [] _).mono (by omega))
  | succ n ih => exact step_law_chain T (n + 1) _ (fun _ _ _ _ _ h => h) ih
end
end Mine

set_option Elab.async false
set_option linter.all false
set_option maxRecDepth 100000
set_option maxHeartbeats 2000000
namespace Mine
open PySem PySem.Spec PyProof.Rows L2
def spSpoilt (K : PySem.W.Frag) : Sp := fun vs H Q _ => ∃ pen ca wa B ws, vs = [.ref pen, .ref wa] ∧ PenAt H pen ca B ∧ B + 3 ≤ 900000 ∧ H wa = some (.lst ((ws : List Str).map V.str)) ∧ wa ≠ pen ∧ Whole ws ∧ (∀ w ∈ ws, noSp w = true) ∧ (∀ w ∈ ws, w.length ≤ 8) ∧ ws.length ≤ 1000 ∧
  ∀ t p ws' i H', PenAt H' pen ca (B + 3) → Keep [pen] H H' → H' t = some (.tup [.ref p, .int ((i : Nat) : Int)]) → H' p = some (.lst ((ws' : List Str).map V.str)) → WsOk ws' → readW ws' = .inl i → Q (.ref t) H'
theorem S_law_spoilt : FnScope ["pen", "words", "way", "at"] ["pen", "words"] (defScope (top 37)) := ⟨rfl, rfl, rfl, by decide +kernel, rfl, by decide +kernel, by decide +kernel⟩
section
variable {P : Program} {w : World} {K : PySem.W.Frag} {mg : Str → Option Value} {base : Heap}
def tPrev (K : PySem.W.Frag) : TT := fun σ H Q => ∃ wa ws k, σ[1]? = some (some (.ref wa)) ∧ σ[3]? = some (some (.int ((k : Nat) : Int))) ∧ H wa = some (.lst ((ws : List Str).map V.str)) ∧ k < ws.length ∧ Q (decide (0 < k ∧ ws[k - 1]? = some sOpen)) H
theorem D_law_spoilt (T : Tx K mg) : Df P w K mg base CX0 3 "_law_spoilt" ["pen", "words"] [] (spSpoilt K) := by
  have sc := S_law_spoilt
  have DD := D_law_draw (P := P) (w := w) (base := base) T
  have DP := D_law_pick (P := P) (w := w) (base := base) T
  refine df_of T.law_spoilt sc (fun vs H Q E h => ?_) (fun _ _ _ _ _ _ us hl => match us, hl with | [_, _], _ => rfl) ?_
  · obtain ⟨pen, ca, wa, B, ws, rfl, _⟩ := h
    rfl
  intro f cdv A outer s0 H vs Q E hr h
  obtain ⟨pen, ca, wa, B, ws, rfl, hp, hB, hw, hwp, hW, hsp, hl8, hlen, hQ⟩ := h
  refine ⟨_, PSs.nox ((pss_cons (ps_par (i := 2) (j := 3) (by rfl) sc.nd rfl rfl (by decide) rfl rfl (pa_cons (pcall DD (hr.mono (by omega)) .nil pass0 (pa_cons (pv 0) (pa_cons pe_int pa_nil))) (pa_cons (pcall DD (hr.mono (by omega)) .nil pass0 (pa_cons (pv 0) (pa_cons (pe_callB call_len (by rfl) (T.fr "len") PyProof.Rows.Boot.«len» (pa_cons (pv 1) pa_nil)) pa_nil))) pa_nil)) (by rfl))
      (pss_cons (ps_if (pt_cmpR op_eq (pv 2) pe_int (nomark _))
      (pss_one (ps_ret (pe_ifExp (pt_cmpR op_gt (pe_callB call_len (by rfl) (T.fr "len") PyProof.Rows.Boot.«len» (pa_cons (pv 1) pa_nil)) pe_int (nomark _)) (pe_tup (pa_cons (pe_slice sl_list (pv 1) po_none (po_some (pe_un un_neg pe_int))) (pa_cons (pe_op op_sub (pe_callB call_len (by rfl) (T.fr "len") PyProof.Rows.Boot.«len» (pa_cons (pv 1) pa_nil)) pe_int) pa_nil))) (pe_tup (pa_cons (pe_lst (pa_cons pe_str pa_nil)) (pa_cons pe_int pa_nil))))))
      pss_nil)
      (pss_cons (ps_if (pt_cmpR op_eq (pv 2) pe_int (nomark _))
      (pss_one (ps_ret (pe_tup (pa_cons (pe_op op_cat (pv 1) (pe_lst (pa_cons (pcall DP (hr.mono (by omega)) .nil pass0 (pa_cons (pv 0) (pa_cons (pe_lst (pa_cons pe_str (pa_cons pe_str (pa_cons pe_str (pa_cons pe_str (pa_cons pe_str pa_nil)))))) pa_nil))) pa_nil))) (pa_cons (pe_callB call_len (by rfl) (T.fr "len") PyProof.Rows.Boot.«len» (pa_cons (pv 1) pa_nil)) pa_nil)))))
      pss_nil)
      (pss_cons (ps_if (pt_cmpR op_eq (pv 2) pe_int (nomark _))
      (pss_one (ps_ret (pe_tup (pa_cons (pe_op op_cat (pe_op op_cat (pe_slice sl_list (pv 1) po_none (po_some (pv 3))) (pe_lst (pa_cons pe_str pa_nil))) (pe_slice sl_list (pv 1) (po_some (pv 3)) po_none)) (pa_cons (pv 3) pa_nil)))))
      pss_nil)
      (pss_cons (ps_if (pt_cmpR op_eq (pe_ix ix_list (pv 1) (pv 3) (fun _ _ => rfl)) pe_str (nomark _))
      (pss_one (ps_ret (pe_tup (pa_cons (pe_op op_cat (pe_op op_cat (pe_slice sl_list (pv 1) po_none (po_some (pe_op op_add (pv 3) pe_int))) (pe_lst (pa_cons (pcall DP (hr.mono (by omega)) .nil pass0 (pa_cons (pv 0) (pa_cons (pe_lst (pa_cons pe_str (pa_cons pe_str (pa_cons pe_str (pa_cons pe_str (pa_cons pe_str (pa_cons pe_str pa_nil))))))) pa_nil))) pa_nil))) (pe_slice sl_list (pv 1) (po_some (pe_op op_add (pv 3) pe_int)) po_none)) (pa_cons (pe_op op_add (pv 3) pe_int) pa_nil)))))
      pss_nil)
      (pss_cons (ps_if (pt_cmpR op_eq (pe_ix ix_list (pv 1) (pv 3) (fun _ _ => rfl)) pe_str (nomark _))
      (pss_one (ps_ret (pe_tup (pa_cons (pe_op op_cat (pe_op op_cat (pe_slice sl_list (pv 1) po_none (po_some (pv 3))) (pe_lst (pa_cons pe_str pa_nil))) (pe_slice sl_list (pv 1) (po_some (pe_op op_add (pv 3) pe_int)) po_none)) (pa_cons (pv 3) pa_nil)))))
      pss_nil)
      (pss_cons (ps_if (timp (tPrev K) (PW.pt (pw_and (pt_cmpR op_gt (pv 3) pe_int (nomark _)) (pw_and1 (pt_cmpR op_eq (pe_ix ix_list (pv 1) (pe_op op_sub (pv 3) pe_int) (fun _ _ => rfl)) pe_str (nomark _))))) ?_)
      (pss_one (ps_ret (pe_tup (pa_cons (pe_op op_cat (pe_op op_cat (pe_slice sl_list (pv 1) po_none (po_some (pe_op op_add (pv 3) pe_int))) (pe_lst (pa_cons pe_str pa_nil))) (pe_slice sl_list (pv 1) (po_some (pe_op op_add (pv 3) pe_int)) po_none)) (pa_cons (pe_op op_add (pv 3) pe_int) pa_nil)))))
      pss_nil)
      (pss_one (ps_ret (pe_tup (pa_cons (pe_op op_cat (pe_op op_cat (pe_slice sl_list (pv 1) po_none (po_some (pv 3))) (pe_lst (pa_cons (pcall DP (hr.mono (by omega)) .nil pass0 (pa_cons (pv 0) (pa_cons (pe_lst (pa_cons pe_str (pa_cons pe_str (pa_cons pe_str (pa_cons pe_str (pa_cons pe_str pa_nil)))))) pa_nil))) pa_nil))) (pe_slice sl_list (pv 1) (po_some (pe_op op_add (pv 3) pe_int)) po_none)) (pa_cons (pv 3) pa_nil))))))))))))), ?_⟩
  · intro σ H Q ⟨wa, ws, k, e1, e3, hw, hk, hQ⟩
    refine ⟨_, e3, _, _, rfl, rfl, _, rfl, ?_⟩
    by_cases h0 : 0 < k
    · refine ite_of true (decide_eq_true (by omega)) (iteT ?_)
      have hk1 : k - 1 < ws.length := by omega
      have hat : atI (ws.map V.str) ((k : Int) - 1) = some (.str ws[k - 1]) := by
        rw [show (k : Int) - 1 = ((k - 1 : Nat) : Int) by omega]
        exact atI_nat (by rw [List.getElem?_map, List.getElem?_eq_getElem hk1]; rfl)
      refine ⟨_, e1, _, e3, _, _, rfl, rfl, wa, _, _, _, rfl, rfl, SqL.of hw, hat, rfl, _, rfl, ?_⟩
      rw [dec_str]
      have e : decide (ws[k - 1] = "(") = decide (0 < k ∧ ws[k - 1]? = some sOpen) := by
        rw [Bool.eq_iff_iff]
        simp only [decide_eq_true_eq, List.getElem?_eq_getElem hk1, Option.some.injEq]
        exact ⟨fun z => ⟨h0, z⟩, fun z => z.2⟩
      rw [e]
      exact hQ
    · refine ite_of false (decide_eq_false (by omega)) (iteF ?_)
      rw [decide_eq_false (fun z => h0 z.1)] at hQ
      exact hQ
  have hne := hW.ne
  have hpos : 0 < ws.length := List.length_pos_iff.mpr hne
  have wok : ∀ {us : List Str}, us ≠ [] → (∀ w ∈ us, noSp w = true ∧ w.length ≤ 1000) → us.length ≤ 9000 → WsOk us := fun h1 h2 h3 => ⟨h1, fun w hw => (h2 w hw).1, h3, fun w hw => (h2 w hw).2⟩
  have wsm : ∀ w ∈ ws, noSp w = true ∧ w.length ≤ 1000 := fun w h => ⟨hsp w h, Nat.le_trans (hl8 w h) (by decide)⟩
  have cat : ∀ {A C : List Str} {p1 p2 : Addr} {H1 : Hp} {Q : VK}, H1 p1 = some (.lst (A.map V.str)) → H1 p2 = some (.lst (C.map V.str)) → A.length + C.length ≤ 10000 → (∀ p H2, Same H1 H2 → H2 p = some (.lst ((A ++ C).map V.str)) → Q (.ref p) H2) → rCat (.ref p1) (.ref p2) H1 Q := fun {A C p1 p2 H1 Q} h1 h2 h3 h4 =>
    ⟨p1, p2, _, _, rfl, rfl, h1, h2, by rw [List.length_map, List.length_map, sizeLine_eq]; omega, fun p hp => h4 p _ (same_upd hp) (by rw [upd_same, List.map_append])⟩
  have slTo : ∀ {H1 : Hp} {j : Int} {Q : VK} (k : Nat), H1 wa = some (.lst (ws.map V.str)) → j = (k : Int) → k ≤ ws.length → (∀ p H2, H1 p = none → Same H1 H2 → H2 p = some (.lst ((ws.take k).map V.str)) → Q (.ref p) H2) → rSlL K (.ref wa) none (some j) H1 Q := fun {H1 j Q} k h1 h2 h3 h4 =>
    ⟨wa, _, rfl, SqL.of h1, fun p hp => h4 p _ hp (same_upd hp) (by rw [upd_same, h2, cut_to (by rw [List.length_map]; exact h3), List.map_take])⟩
  have slFrom : ∀ {σ : L2.St} {H1 : Hp} {j : Int} {Q : VK} (k : Nat), H1 wa = some (.lst (ws.map V.str)) → j = (k : Int) → (∀ p H2, Same H1 H2 → H2 p = some (.lst ((ws.drop k).map V.str)) → Q (.ref p) H2) → tNoPart σ H1 (fun u H3 => rSlL K (.ref wa) (some j) u H3 Q) := fun {σ H1 j Q} k h1 h2 h4 =>
    ⟨wa, _, rfl, SqL.of h1, fun p hp => h4 p _ (same_upd hp) (by rw [upd_same, h2, cut_fromA, List.map_drop])⟩
  have fresh : ∀ {H1 : Hp} {C : Nat} {q : Addr}, PenAt H1 pen ca C → H1 q = none → q ≠ pen := fun {H1 C q} h1 h2 z => by
    obtain ⟨cs, at_, rest, q1, q2, q3⟩ := h1
    rw [z, q1] at h2
    cases h2
  refine ⟨_, rfl, pen, ca, 6, B, rfl, hp, by omega, by omega, by omega, fun wy H1 hy0 hy6 hp1 k1 => ?_⟩
  have hw1 := k1 _ _ hw (by simpa using hwp)
  refine ⟨_, rfl, _, rfl, _, _, rfl, .inl ⟨_, SqL.of hw1, rfl⟩, pen, ca, _, B + 1, rfl, hp1, by omega, by rw [List.length_map]; omega, by rw [List.length_map]; omega, fun r H2 hr0 hrl hp2 k2 => ?_⟩
  have hw2 := k2 _ _ hw1 (by simpa using hwp)
  rw [List.length_map] at hrl
  obtain ⟨k, rfl⟩ := Int.eq_ofNat_of_zero_le hr0
  have hk : k < ws.length := by omega
  replace k2 := k1.trans k2
  clear k1 hp1 hw1 hr0
  have fin : ∀ {t p : Addr} {us : List Str} {i : Nat} {H3 : Hp} {v : Int}, PenAt H3 pen ca (B + 3) → Keep [pen] H H3 → H3 p = some (.lst (us.map V.str)) → WsOk us → readW us = .inl i → v = (i : Int) → H3 t = none → Q (.ref t) (upd H3 t (.tup [.ref p, .int v])) := fun {t p us i H3 v} a1 a2 a3 a4 a5 a6 a7 =>
    hQ t p us i _ (a1.same (same_upd a7)) (keep_same a2 (same_upd a7)) (by rw [upd_same, a6]) (same_upd a7 _ _ a3) a4 a5
  refine ⟨_, _, rfl, ?_⟩
  refine ⟨_, rfl, rfl, _, rfl, ?_⟩
  by_cases h0 : wy = 0
  · refine ite_of true (decide_eq_true (by rw [h0])) (iteT ?_)
    refine ⟨_, rfl, _, _, rfl, .inl ⟨_, SqL.of hw2, rfl⟩, _, _, rfl, rfl, _, rfl, ?_⟩
    rw [List.length_map]
    by_cases h1 : 1 < ws.length
    · refine ite_of true (decide_eq_true (by omega)) (iteT ?_)
      refine ⟨_, rfl, _, rfl, _, rfl, wa, _, rfl, SqL.of hw2, fun p hpn => ?_⟩
      have s3 := same_upd (o := HO.lst (cutV (ws.map V.str) none (some (-1)))) hpn
      refine ⟨_, rfl, _, _, rfl, .inl ⟨_, SqL.of (s3 _ _ hw2), rfl⟩, _, _, rfl, rfl, sz 2, fun t ht => ?_⟩
      refine fin (us := ws.dropLast) (i := ws.length - 1) ((hp2.same s3).mono (by omega)) (keep_same k2 s3) ?_ (wok ?_ (fun w hw => wsm w (List.dropLast_subset _ hw)) ?_) (sp_last hW) ?_ ht
      · show upd H2 p (HO.lst (cutV (ws.map V.str) none (some (-1)))) p = _
        rw [upd_same, cut_last, List.map_dropLast]
      · exact fun z => by
          have := congrArg List.length z
          rw [List.length_dropLast, List.length_nil] at this
          omega
      · rw [List.length_dropLast]; omega
      · show (((ws.map V.str).length : Nat) : Int) - 1 = _
        rw [List.length_map]
        omega
    · refine ite_of false (decide_eq_false (by omega)) (iteF ?_)
      refine ⟨sz 1, fun p hpn => ⟨sz 2, fun t ht => ?_⟩⟩
      have s3 := same_upd (o := HO.lst [.str ""]) hpn
      exact fin (us := [""]) (i := 0) ((hp2.same s3).mono (by omega)) (keep_same k2 s3) upd_same (wok (by simp) (by decide) (by decide)) (sp_bad (us := []) (xs := []) (w := "") hW (List.nil_append ws).symm (by decide)) rfl ht
  refine ite_of false (decide_eq_false (by intro z; cases z; exact h0 rfl)) (iteF ?_)
  -- what is picked
  have pick : ∀ {H1 : Hp} {ls : List Str} {Q : VK} {q : Addr}, PenAt H1 pen ca (B + 2) → Keep [pen] H H1 → H1 wa = some (.lst (ws.map V.str)) → H1 q = none → ls ≠ [] → ls.length ≤ 1000 → (∀ z H3, z ∈ ls → PenAt H3 pen ca (B + 3) → Keep [pen] H H3 → H3 wa = some (.lst (ws.map V.str)) → (∀ p o, p ≠ pen → H1 p = some o → H3 p = some o) → Q (.str z) H3) →
      spPick K ([V.ref pen, V.ref q] ++ []) (upd H1 q (.lst (ls.map V.str))) Q E0 := fun {H1 ls Q q} a1 a2 a3 a4 a5 a6 a7 => by
    refine ⟨pen, ca, B + 2, q, _, rfl, a1.same (same_upd a4), by omega, SqL.of upd_same, fresh a1 a4, by simpa using a5, by rw [List.length_map]; exact a6, fun x H3 hx p3 k3 => ?_⟩
    obtain ⟨z, hz, rfl⟩ := List.mem_map.mp hx
    exact a7 z H3 hz p3 ((keep_same a2 (same_upd a4)).trans k3) (k3 _ _ (same_upd a4 _ _ a3) (by simpa using hwp)) fun p o n e => k3 _ _ (same_upd a4 _ _ e) (by simpa using n)
  have tk : ws = ws.take k ++ ws.drop k := (List.take_append_drop k ws).symm
  have tk1 : ws.take (k + 1) = ws.take k ++ [ws[k]] := (List.take_append_getElem hk).symm
  have lk : (ws.take k).length = k := by rw [List.length_take]; omega
  have sub1 : ∀ {n : Nat}, ∀ w ∈ ws.take n, noSp w = true ∧ w.length ≤ 1000 := fun w hw => wsm w (List.take_subset _ _ hw)
  have sub2 : ∀ {n : Nat}, ∀ w ∈ ws.drop n, noSp w = true ∧ w.length ≤ 1000 := fun w hw => wsm w (List.drop_subset _ _ hw)
  have wk3 : ∀ {a b : Nat} {z : Str}, noSp z = true ∧ z.length ≤ 1000 → WsOk ((ws.take a ++ [z]) ++ ws.drop b) := fun {a b z} hz => by
    refine wok (by simp) (fun w hw => ?_) ?_
    · rcases List.mem_append.mp hw with h | h
      · rcases List.mem_append.mp h with h | h
        · exact sub1 w h
        · rw [List.mem_singleton.mp h]
          exact hz
      · exact sub2 w h
    · simp only [List.length_append, List.length_take, List.length_drop, List.length_cons, List.length_nil]
      omega
  refine ⟨_, rfl, rfl, _, rfl, ?_⟩
  by_cases h1 : wy = 1
  · refine ite_of true (decide_eq_true (by rw [h1])) (iteT ?_)
    refine ⟨_, rfl, _, rfl, sz 5, fun q hq => ?_⟩
    refine pick (ls := ["a", ")", "(", "", "then"]) hp2 k2 hw2 hq (by simp) (by decide) fun z H3 hz p3 k3 hw3 _ => ?_
    have hz2 : noSp z = true ∧ z.length ≤ 1000 := (show ∀ z ∈ (["a", ")", "(", "", "then"] : List Str), noSp z = true ∧ z.length ≤ 1000 by decide) z hz
    refine ⟨sz 1, fun p hpn => cat (C := [z]) (same_upd hpn _ _ hw3) upd_same (by simp only [List.length_cons, List.length_nil]; omega) fun p4 H4 s4 h4 => ?_⟩
    have s5 := (same_upd (o := HO.lst [.str z]) hpn).trans s4
    refine ⟨_, rfl, _, _, rfl, .inl ⟨_, SqL.of (s5 _ _ hw3), rfl⟩, sz 2, fun t ht => ?_⟩
    refine fin (i := ws.length) (p3.same s5) (keep_same k3 s5) h4 (wok (by simp) (fun w hw => ?_) ?_) (sp_more hW z) (by rw [List.length_map]) ht
    · rcases List.mem_append.mp hw with h | h
      · exact wsm w h
      · rw [List.mem_singleton.mp h]
        exact hz2
    · simp only [List.length_append, List.length_cons, List.length_nil]
      omega
  refine ite_of false (decide_eq_false (by intro z; cases z; exact h1 rfl)) (iteF ?_)
  refine ⟨_, rfl, rfl, _, rfl, ?_⟩
  by_cases h2 : wy = 2
  · refine ite_of true (decide_eq_true (by rw [h2])) (iteT ?_)
    refine ⟨_, rfl, _, rfl, _, rfl, slTo k hw2 rfl (by omega) fun p3 H3 _ s3 h3 => ⟨sz 1, fun p4 hp4 => ?_⟩⟩
    have s4 := s3.trans (same_upd (o := HO.lst [.str ""]) hp4)
    refine cat (C := [""]) (same_upd hp4 _ _ h3) upd_same (by rw [lk]; simp only [List.length_cons, List.length_nil]; omega) fun p5 H5 s5 h5 => ?_
    refine ⟨_, rfl, _, rfl, _, rfl, slFrom k ((s4.trans s5) _ _ hw2) rfl fun p6 H6 s6 h6 => ?_⟩
    refine cat (s6 _ _ h5) h6 (by simp only [List.length_append, List.length_take, List.length_drop, List.length_cons, List.length_nil]; omega) fun p7 H7 s7 h7 => ?_
    have sA := ((s4.trans s5).trans s6).trans s7
    refine ⟨_, rfl, sz 2, fun t ht => fin (i := k) ((hp2.same sA).mono (by omega)) (keep_same k2 sA) h7 (wk3 (by decide)) ?_ rfl ht⟩
    have q := sp_bad (xs := ws.drop k) (w := "") hW tk (by decide)
    rw [lk] at q
    rw [List.append_assoc]
    exact q
  refine ite_of false (decide_eq_false (by intro z; cases z; exact h2 rfl)) (iteF ?_)
  have hat : atI (ws.map V.str) (k : Int) = some (.str ws[k]) := atI_nat (by rw [List.getElem?_map, List.getElem?_eq_getElem hk]; rfl)
  refine ⟨_, rfl, _, rfl, wa, _, _, _, rfl, rfl, SqL.of hw2, hat, rfl, _, rfl, ?_⟩
  rw [dec_str]
  by_cases h3 : ws[k] = sOpen
  · refine ite_of true (decide_eq_true h3) (iteT ?_)
    refine ⟨_, rfl, _, rfl, _, _, rfl, rfl, _, rfl, slTo (k + 1) hw2 rfl (by omega) fun p3 H3 n3 s3 hh3 => ⟨_, rfl, sz 6, fun q hq => ?_⟩⟩
    refine pick (ls := ["this", "Then", ")", "(", "a", ""]) ((hp2.same s3).mono (by omega)) (keep_same k2 s3) (s3 _ _ hw2) hq (by simp) (by decide) fun z H4 hz p4 k4 hw4 kk => ⟨sz 1, fun p5 hp5 => ?_⟩
    have hz2 : (noSp z = true ∧ z.length ≤ 1000) ∧ z ∉ heads := (show ∀ z ∈ (["this", "Then", ")", "(", "a", ""] : List Str), (noSp z = true ∧ z.length ≤ 1000) ∧ z ∉ heads by decide) z hz
    have h34 := kk _ _ (fresh hp2 n3) hh3
    have s5 := same_upd (o := HO.lst [.str z]) hp5
    refine cat (C := [z]) (s5 _ _ h34) upd_same (by rw [List.length_take]; simp only [List.length_cons, List.length_nil]; omega) fun p6 H6 s6 h6 => ?_
    refine ⟨_, rfl, _, rfl, _, _, rfl, rfl, _, rfl, slFrom (k + 2) ((s5.trans s6) _ _ hw4) rfl fun p7 H7 s7 h7 => ?_⟩
    refine cat (s7 _ _ h6) h7 (by simp only [List.length_append, List.length_take, List.length_drop, List.length_cons, List.length_nil]; omega) fun p8 H8 s8 h8 => ?_
    have sA := ((s5.trans s6).trans s7).trans s8
    refine ⟨_, rfl, _, _, rfl, rfl, sz 2, fun t ht => fin (i := k + 1) (p4.same sA) (keep_same k4 sA) h8 (wk3 hz2.1) ?_ rfl ht⟩
    have q := sp_open (us := ws.take k) (vs := ws.drop (k + 1)) (xs := ws.drop (k + 2)) hW (by rw [← h3, ← tk1, List.take_append_drop]) hz2.2
    rw [lk, ← h3, ← tk1] at q
    rw [List.append_assoc]
    exact q
  refine ite_of false (decide_eq_false h3) (iteF ?_)
  refine ⟨_, rfl, _, rfl, wa, _, _, _, rfl, rfl, SqL.of hw2, hat, rfl, _, rfl, ?_⟩
  rw [dec_str]
  by_cases h4 : ws[k] = sShut
  · refine ite_of true (decide_eq_true h4) (iteT ?_)
    refine ⟨_, rfl, _, rfl, _, rfl, slTo k hw2 rfl (by omega) fun p3 H3 _ s3 h3 => ⟨sz 1, fun p4 hp4 => ?_⟩⟩
    have s4 := s3.trans (same_upd (o := HO.lst [.str "))"]) hp4)
    refine cat (C := ["))"]) (same_upd hp4 _ _ h3) upd_same (by rw [lk]; simp only [List.length_cons, List.length_nil]; omega) fun p5 H5 s5 h5 => ?_
    refine ⟨_, rfl, _, rfl, _, _, rfl, rfl, _, rfl, slFrom (k + 1) ((s4.trans s5) _ _ hw2) rfl fun p6 H6 s6 h6 => ?_⟩
    refine cat (s6 _ _ h5) h6 (by simp only [List.length_append, List.length_take, List.length_drop, List.length_cons, List.length_nil]; omega) fun p7 H7 s7 h7 => ?_
    have sA := ((s4.trans s5).trans s6).trans s7
    refine ⟨_, rfl, sz 2, fun t ht => fin (i := k) ((hp2.same sA).mono (by omega)) (keep_same k2 sA) h7 (wk3 (by decide)) ?_ rfl ht⟩
    have q := sp_bad (xs := ws.drop (k + 1)) (w := "))") hW tk (by decide)
    rw [lk] at q
    rw [List.append_assoc]
    exact q
  refine ite_of false (decide_eq_false h4) (iteF ?_)
  refine ⟨wa, ws, k, rfl, rfl, hw2, hk, ?_⟩
  by_cases h5 : 0 < k ∧ ws[k - 1]? = some sOpen
  · refine ite_of true (decide_eq_true h5) (iteT ?_)
    refine ⟨_, rfl, _, rfl, _, _, rfl, rfl, _, rfl, slTo (k + 1) hw2 rfl (by omega) fun p3 H3 _ s3 hh3 => ⟨sz 1, fun p4 hp4 => ?_⟩⟩
    have s4 := s3.trans (same_upd (o := HO.lst [.str ")"]) hp4)
    refine cat (C := [")"]) (same_upd hp4 _ _ hh3) upd_same (by rw [List.length_take]; simp only [List.length_cons, List.length_nil]; omega) fun p5 H5 s5 h55 => ?_
    refine ⟨_, rfl, _, rfl, _, _, rfl, rfl, _, rfl, slFrom (k + 1) ((s4.trans s5) _ _ hw2) rfl fun p6 H6 s6 h6 => ?_⟩
    refine cat (s6 _ _ h55) h6 (by simp only [List.length_append, List.length_take, List.length_drop, List.length_cons, List.length_nil]; omega) fun p7 H7 s7 h7 => ?_
    have sA := ((s4.trans s5).trans s6).trans s7
    refine ⟨_, rfl, _, _, rfl, rfl, sz 2, fun t ht => fin (i := k + 1) ((hp2.same sA).mono (by omega)) (keep_same k2 sA) h7 (wk3 (by decide)) ?_ rfl ht⟩
    obtain ⟨h50, h51⟩ := h5
    have hk1 : k - 1 < ws.length := by omega
    have e5 : ws[k - 1] = sOpen := by
      rw [List.getElem?_eq_getElem hk1] at h51
      exact Option.some.inj h51
    have tkm : ws.take k = ws.take (k - 1) ++ [sOpen] := by
      have := List.take_append_getElem (i := k - 1) hk1
      rw [e5, show k - 1 + 1 = k by omega] at this
      exact this.symm
    have q := sp_head (us := ws.take (k - 1)) (w := ws[k]) (vs := ws.drop (k + 1)) (xs := ws.drop (k + 1)) hW (by rw [← tkm, ← tk1, List.take_append_drop])
    rw [← tkm, ← tk1, List.length_take] at q
    rw [List.append_assoc]
    show readW (ws.take (k + 1) ++ sShut :: ws.drop (k + 1)) = _
    rw [q]
    congr 1
    omega
  refine ite_of false (decide_eq_false h5) (iteF ?_)
  refine ⟨_, rfl, _, rfl, _, rfl, slTo k hw2 rfl (by omega) fun p3 H3 n3 s3 hh3 => ⟨_, rfl, sz 5, fun q hq => ?_⟩⟩
  refine pick (ls := ["A", "ninesigns", "a1", "((", "-"]) ((hp2.same s3).mono (by omega)) (keep_same k2 s3) (s3 _ _ hw2) hq (by simp) (by decide) fun z H4 hz p4 k4 hw4 kk => ⟨sz 1, fun p5 hp5 => ?_⟩
  have hz2 : (noSp z = true ∧ z.length ≤ 1000) ∧ bad z = true := (show ∀ z ∈ (["A", "ninesigns", "a1", "((", "-"] : List Str), (noSp z = true ∧ z.length ≤ 1000) ∧ bad z = true by decide) z hz
  have h34 := kk _ _ (fresh hp2 n3) hh3
  have s5 := same_upd (o := HO.lst [.str z]) hp5
  refine cat (C := [z]) (s5 _ _ h34) upd_same (by rw [List.length_take]; simp only [List.length_cons, List.length_nil]; omega) fun p6 H6 s6 h6 => ?_
  refine ⟨_, rfl, _, rfl, _, _, rfl, rfl, _, rfl, slFrom (k + 1) ((s5.trans s6) _ _ hw4) rfl fun p7 H7 s7 h7 => ?_⟩
  refine cat (s7 _ _ h6) h7 (by simp only [List.length_append, List.length_take, List.length_drop, List.length_cons, List.length_nil]; omega) fun p8 H8 s8 h8 => ?_
  have sA := ((s5.trans s6).trans s7).trans s8
  refine ⟨_, rfl, sz 2, fun t ht => fin (i := k) (p4.same sA) (keep_same k4 sA) h8 (wk3 hz2.1) ?_ rfl ht⟩
  have q := sp_bad (xs := ws.drop (k + 1)) (w := z) hW tk hz2.2
  rw [lk] at q
  rw [List.append_assoc]
  exact q
end
end Mine

set_option Elab.async false
set_option linter.all false
set_option maxRecDepth 100000
set_option maxHeartbeats 2000000
namespace Mine
open PySem PySem.Spec PyProof.Rows L2
def begC (ws : List Str) (i : Nat) : Bool := decide (ws[i]? ≠ some sShut) && (decide (i = 0) || decide (ws[i - 1]? ≠ some sOpen))
def begunL (ws : List Str) : List Nat := (List.range ws.length).filter (begC ws)
def spBegun (K : PySem.W.Frag) : Sp := fun vs H Q _ => ∃ a ws, vs = [.ref a] ∧ SqL K H a ((ws : List Str).map V.str) ∧ ws.length ≤ 1000 ∧ ∀ p H', Same H H' → H' p = some (.lst ((begunL ws).map fun i => .int ((i : Nat) : Int))) → Q (.ref p) H'
def tBeg (K : PySem.W.Frag) : TT := fun σ H Q => ∃ a ws i z, σ[0]? = some (some (.ref a)) ∧ σ[1]? = some (some (.int ((i : Nat) : Int))) ∧ σ[2]? = some (some (.str z)) ∧ SqL K H a ((ws : List Str).map V.str) ∧ ws[i]? = some z ∧ Q (begC ws i) H
theorem S_law_begun : FnScope ["words", "at", "word"] ["words"] (defScope (top 38)) := ⟨rfl, rfl, rfl, by decide +kernel, rfl, by decide +kernel, by decide +kernel⟩
section
variable {P : Program} {w : World} {K : PySem.W.Frag} {mg : Str → Option Value} {base : Heap}
theorem D_law_begun (T : Tx K mg) : Df P w K mg base CX0 1 "_law_begun" ["words"] [] (spBegun K) := by
  have sc := S_law_begun
  refine df_of T.law_begun sc (fun vs H Q E h => ?_) (fun _ _ _ _ _ _ us hl => match us, hl with | [_], _ => rfl) ?_
  · obtain ⟨a, ws, rfl, _⟩ := h
    rfl
  intro f cdv A outer s H vs Q E hr h
  obtain ⟨a, ws, rfl, ha, hl, hQ⟩ := h
  refine ⟨_, PSs.nox ((pss_one (ps_ret (pe_lc (own := [("at", 1), ("word", 2)]) (g := gTup K 2 (gCons (gName 1) (gCons (gName 2) gNil))) (tt := _) rfl sc.nd (pi_enum (by rfl) (T.fr "enumerate") (pa_cons (pv 0) pa_nil)) (blkOk_by (N := ["words", "at", "word"]) (sc := defScope (top 38)) (by decide +kernel)) (fun _ _ _ _ _ => (pg_tupb (K := K) rfl (pgs_cons (pg_name (i := 1) sc.nd rfl (Or.inl rfl)) (pgs_cons (pg_name (i := 2) sc.nd rfl (Or.inl rfl)) pgs_nil)))) (fun _ _ _ _ _ => (pts_one (timp (tBeg K) (PW.pt (pw_and (pt_cmpR op_ne (pv 2) pe_str (nomark _)) (pw_and1 (PW.pt (pw_or (pt_cmpR op_eq (pv 1) pe_int (nomark _)) (pw_or1 (pt_cmpR op_ne (pe_ix (ix_xb (K := K)) (pv 0) (pe_op op_sub (pv 1) pe_int) (fun _ _ => rfl)) pe_str (nomark _)))))))) ?_))) (fun _ _ _ _ _ => (pv 1)))))), ?_⟩
  · intro σ H Q ⟨a, ws, i, z, e0, e1, e2, ha, hz, hQ⟩
    have hq : ∀ c : Bool, begC ws i = c → Q c H := fun c e => e ▸ hQ
    refine ⟨_, e2, rfl, _, rfl, ?_⟩
    rw [dec_str]
    unfold begC at hq
    rw [hz] at hq
    by_cases hs : z = sShut
    · refine ite_of false (by rw [decide_eq_true hs]; rfl) (iteF (hq false ?_))
      rw [decide_eq_false (show ¬ (some z ≠ some sShut) from fun h => h (by rw [hs])), Bool.false_and]
    refine ite_of true (by rw [decide_eq_false hs]; rfl) (iteT ?_)
    rw [decide_eq_true (show some z ≠ some sShut from fun h => hs (Option.some.inj h)), Bool.true_and] at hq
    refine ⟨_, e1, rfl, _, rfl, ?_⟩
    by_cases h0 : i = 0
    · refine ite_of true (decide_eq_true (by rw [h0]; rfl)) (iteT (hq true ?_))
      rw [decide_eq_true h0, Bool.true_or]
    refine ite_of false (decide_eq_false (fun h => h0 (by have := V.int.inj h; omega))) (iteF ?_)
    rw [decide_eq_false h0, Bool.false_or] at hq
    have hil := (List.getElem?_eq_some_iff.mp hz).1
    have hk1 : i - 1 < ws.length := by omega
    have hat : atI (ws.map V.str) ((i : Int) - 1) = some (.str ws[i - 1]) := by
      rw [show (i : Int) - 1 = ((i - 1 : Nat) : Int) by omega]
      exact atI_nat (by rw [List.getElem?_map, List.getElem?_eq_getElem hk1]; rfl)
    refine ⟨_, e0, _, e1, _, _, rfl, rfl, a, _, _, _, rfl, rfl, .inl ha, hat, rfl, _, rfl, ?_⟩
    rw [dec_str]
    refine hq _ ?_
    rw [List.getElem?_eq_getElem hk1, Bool.eq_iff_iff]
    simp only [decide_eq_true_eq, Bool.not_eq_true', decide_eq_false_iff_not, ne_eq, Option.some.injEq]
  · refine ⟨_, rfl, a, _, rfl, ha, fun D hD => ?_⟩
    refine lc_it (walk_enum (xs := ws.map V.str)) (fun i H2 => Same H H2 ∧ H2 D = some (.lst (((List.range i).filter (begC ws)).map fun i => .int ((i : Nat) : Int)))) ⟨same_upd hD, upd_same⟩ (fun i H2 _ h => h.1.seq ha) ?_ ?_
    · rintro i y H2 H3 hi ⟨s2, h2⟩ ⟨t, p, y, rfl, ht, rfl, hp, hy⟩
      cases hp
      have hi2 : i < ws.length := by rw [List.length_map] at hi; exact hi
      have hyw : y = .str ws[i] := by
        have hy : (ws.map V.str)[i]? = some y := hy
        rw [List.getElem?_map, List.getElem?_eq_getElem hi2] at hy
        exact (Option.some.inj hy).symm
      subst hyw
      have s3 := same_upd (o := HO.tup [.int (i : Nat), .str ws[i]]) ht
      refine ⟨t, _, rfl, SqT.of upd_same, rfl, _, _, rfl, _, _, rfl, rfl, rfl, ?_⟩
      refine ⟨a, ws, i, ws[i], rfl, rfl, rfl, (s2.trans s3).seq ha, List.getElem?_eq_getElem hi2, ?_⟩
      have er : ((List.range (i + 1)).filter (begC ws)).map (fun i => V.int ((i : Nat) : Int)) = ((List.range i).filter (begC ws)).map (fun i => V.int ((i : Nat) : Int)) ++ (if begC ws i = true then [V.int ((i : Nat) : Int)] else []) := by
        rw [List.range_succ, List.filter_append, List.map_append]
        congr 1
        by_cases h : begC ws i = true
        · rw [if_pos h, List.filter_cons_of_pos h]
          rfl
        · rw [if_neg h, List.filter_cons_of_neg h]
          rfl
      cases hb : begC ws i with
      | true =>
        rw [hb, if_pos rfl] at er
        refine iteT ⟨_, rfl, _, s3 _ _ h2, ?_, smut (s2.trans s3) hD, ?_⟩
        · rw [List.length_map, sizeLine_eq]
          have := List.length_filter_le (begC ws) (List.range i)
          rw [List.length_range] at this
          omega
        · rw [upd_same, er]
      | false =>
        rw [hb, if_neg (by decide), List.append_nil] at er
        refine iteF ⟨s2.trans s3, ?_⟩
        rw [s3 _ _ h2, er]
    · rintro H2 ⟨s2, h2⟩
      rw [List.length_map] at h2
      exact hQ D H2 s2 h2
end
end Mine

set_option Elab.async false
set_option linter.all false
set_option maxRecDepth 100000
set_option maxHeartbeats 2000000
namespace Mine
open PySem PySem.Spec PyProof.Rows L2
/-- isinstance of nothing, or of a caught error -/
def rIsW (K : PySem.W.Frag) : List V → Hp → VK → Prop := fun xs H Q => rIsi K xs H Q ∨ rIsV K xs H Q
theorem call_isW {X : Cx} : CallR X (.builtin "isinstance") (rIsW X.K) := by
  intro pins s σ H xs us Q I r h
  rcases h with h | h
  · exact call_isi pins s σ H xs us Q I r h
  · exact call_isV pins s σ H xs us Q I r h
/-- what is heard of a lambda's reading -/
def TTh (cC cT : Addr) : (XK → Hp → VK → Prop) → Hp → VK → Prop := fun tl H Q =>
  ∀ R : VK, (∀ v H', Q .non H' → R v H') → tl (fun cls d H' => (cls = .ref cC ∧ ∃ dd v, d = some dd ∧ H' dd = some (.xd [("path", v)]) ∧ ∀ t H'', Same H' H'' → H'' t = some (.tup [.str "chain", v]) → Q (.ref t) H'') ∨
    (cls = .ref cT ∧ ∃ dd a b, d = some dd ∧ H' dd = some (.xd [("line", a), ("word", b)]) ∧ ∀ t H'', Same H' H'' → H'' t = some (.tup [.str "text", a, b]) → Q (.ref t) H'')) H R
theorem S_law_heard : FnScope ["ask", "caught", "error"] ["ask"] (defScope (top 33)) := ⟨rfl, rfl, rfl, by decide +kernel, rfl, by decide +kernel, by decide +kernel⟩
theorem heard_gives {X : Cx} {g : Addr} {cdg : Value} {q : Str} {cS cC cT : Addr} (T : Tx X.K X.mg) (Z : Tz X.prog X.K X.mg cS cC cT) : LamX.GivesTo X ["ask", "caught", "error"] "_law_heard" (defScope (top 33)) g cdg (defBody (top 33)) "ask" q (TTh cC cT) := by
  have sc := S_law_heard
  intro f c' s H Q tl act hc h
  refine ⟨_, pss_cons (ps_set (i := 1) sc.nd rfl (Or.inl rfl) pe_non) (pss_cons
    (ps_try_val (X := (cxOf C8.CX0 X.prog X.w X.K X.mg X.base ["ask", "caught", "error"] "_law_heard" (defScope (top 33)) g cdg X.A X.stack s H C8.E0).nox) (c := .ref cS) (i := 2)
      (tb := fun W D σ H => ∃ Ech : XK, (∀ cls d σ' H', Ech cls d H' → W cls d σ' H') ∧ σ[0]? = some (some (.ref f)) ∧ H c' = some (LamX.CodeO c' q) ∧ tl Ech H fun _ H' => D.nx σ H')
      rfl rfl rfl sc.nd rfl rfl ⟨rfl, by decide, .inl Z.save⟩ LamX.takes0 (fun W pn xe tk _ => ?_) (fun a q pn => pss_one (ps_set (i := 1) sc.nd rfl (Or.inl rfl) (pv 2))))
    (pss_cons (ps_if (pt_val (pe_callB call_isW (by rfl) (T.fr "isinstance") PyProof.Rows.Boot.«isinstance» (pa_cons (pv 1) (pa_cons (pgr Z.chain.m) pa_nil))))
      (pss_one (ps_ret (pe_tup (pa_cons pe_str (pa_cons (pe_xv (pv 1)) pa_nil))))) pss_nil)
    (pss_one (ps_ret (pe_ifExp (pt_val (pe_callB call_isW (by rfl) (T.fr "isinstance") PyProof.Rows.Boot.«isinstance» (pa_cons (pv 1) (pa_cons (pgr Z.text.m) pa_nil))))
      (pe_tup (pa_cons pe_str (pa_cons (pe_xv (pv 1)) (pa_cons (pe_xv (pv 1)) pa_nil)))) (pv 1)))))), ?_⟩
  · refine ⟨fun pins s' σ H' D I h' => ?_⟩
    obtain ⟨Ech, hW, h1, h2, h3⟩ := h'
    exact (pss_one (ps_expr (act W pn xe Ech _ _ tk hW))).run pins s' σ H' D I ⟨h1, h2, h3⟩
  · refine ⟨fun cls d H' => (cls = .ref cC ∧ ∃ dd v, d = some dd ∧ H' dd = some (.xd [("path", v)]) ∧ ∀ t H'', Same H' H'' → H'' t = some (.tup [.str "chain", v]) → Q (.ref t) H'') ∨
      (cls = .ref cT ∧ ∃ dd a b, d = some dd ∧ H' dd = some (.xd [("line", a), ("word", b)]) ∧ ∀ t H'', Same H' H'' → H'' t = some (.tup [.str "text", a, b]) → Q (.ref t) H''), ?_, rfl, hc, ?_⟩
    · rintro cls d σ' H' (⟨rfl, dd, v, rfl, hd, hq⟩ | ⟨rfl, dd, a, b, rfl, hd, hq⟩)
      · refine ⟨true, Z.eC, fun _ hlen a ha => ?_, fun z => by cases z⟩
        match σ', hlen with
        | [c0, c1, c2], _ =>
        refine ⟨_, rfl, fun ha2 => ?_⟩
        have s1 := same_upd (o := ExV (.ref cC) (some dd) a) ha2
        have e1 : upd H' a (ExV (.ref cC) (some dd) a) a = some (ExV (.ref cC) (some dd) a) := upd_same
        refine ⟨_, rfl, .inr ⟨a, cC, some dd, .ref cC, .ref cC, true, rfl, e1, fun x hx => ⟨_, by cases hx; exact s1 _ _ hd⟩, Z.chain.c, .own cC, Z.kC, ?_⟩⟩
        refine ⟨_, rfl, iteT ?_⟩
        refine ⟨_, rfl, a, cC, dd, _, v, rfl, e1, Z.chain.c, ?_, s1 _ _ hd, rfl, sz 2, fun t ht => hq t _ (s1.trans (same_upd ht)) upd_same⟩
        obtain ⟨fI, X1⟩ := Z.chain.t
        exact X1.noF _ (by simp)
      · refine ⟨true, Z.eT, fun _ hlen a' ha => ?_, fun z => by cases z⟩
        match σ', hlen with
        | [c0, c1, c2], _ =>
        refine ⟨_, rfl, fun ha2 => ?_⟩
        have s1 := same_upd (o := ExV (.ref cT) (some dd) a') ha2
        have e1 : upd H' a' (ExV (.ref cT) (some dd) a') a' = some (ExV (.ref cT) (some dd) a') := upd_same
        obtain ⟨fI, X1⟩ := Z.text.t
        refine ⟨_, rfl, .inr ⟨a', cT, some dd, .ref cC, .ref cC, false, rfl, e1, fun x hx => ⟨_, by cases hx; exact s1 _ _ hd⟩, Z.text.c, .own cC, Z.kTC, ?_⟩⟩
        refine ⟨_, rfl, iteF ?_⟩
        refine ⟨_, rfl, .inr ⟨a', cT, some dd, .ref cT, .ref cT, true, rfl, e1, fun x hx => ⟨_, by cases hx; exact s1 _ _ hd⟩, Z.text.c, .own cT, Z.kT, ?_⟩⟩
        refine ⟨_, rfl, iteT ?_⟩
        refine ⟨_, rfl, a', cT, dd, _, a, rfl, e1, Z.text.c, X1.noF _ (by simp), s1 _ _ hd, rfl, ?_⟩
        refine ⟨_, rfl, a', cT, dd, _, b, rfl, e1, Z.text.c, X1.noF _ (by simp), s1 _ _ hd, rfl, sz 3, fun t ht => hq t _ (s1.trans (same_upd ht)) upd_same⟩
    · refine h _ fun v H' hq => ?_
      refine ⟨_, rfl, .inl ⟨.non, .ref cC, _, _, false, rfl, .own cC, .base .non, Z.kN1, ?_⟩⟩
      refine ⟨_, rfl, iteF ?_⟩
      refine ⟨_, rfl, .inl ⟨.non, .ref cT, _, _, false, rfl, .own cT, .base .non, Z.kN2, ?_⟩⟩
      exact ⟨_, rfl, iteF ⟨_, rfl, hq⟩⟩
end Mine

set_option Elab.async false
set_option linter.all false
set_option maxRecDepth 100000
set_option maxHeartbeats 2000000
namespace Mine
open PySem PySem.Spec PyProof.Rows L2
/-! ### all but some and the tables stands still -/
def Kx (S : List Addr) (H H' : Hp) : Prop := ∀ b o, H b = some o → b ∉ S → (∀ ps, o ≠ .tbl ps) → H' b = some o
theorem Kx.of {S : List Addr} {H H' : Hp} (k : Keep S H H') : Kx S H H' := fun b o e n _ => k b o e n
theorem Kx.same {S : List Addr} {H H' : Hp} (k : Same H H') : Kx S H H' := fun b o e _ _ => k b o e
theorem Kx.ext {S : List Addr} {H H' : Hp} (k : LamX.ExtN H H') : Kx S H H' := fun b o e _ n => k b o e n
theorem Kx.trans {S : List Addr} {A B C : Hp} (a : Kx S A B) (b : Kx S B C) : Kx S A C := fun x o e n t => b x o (a x o e n t) n t
theorem Kx.refl {S : List Addr} (H : Hp) : Kx S H H := fun _ _ e _ _ => e
theorem Kx.lst {S : List Addr} {H H' : Hp} (k : Kx S H H') {a : Addr} {xs : List V} (h : H a = some (.lst xs)) (n : a ∉ S) : H' a = some (.lst xs) := k _ _ h n (fun ps z => by cases z)
theorem Kx.tup {S : List Addr} {H H' : Hp} (k : Kx S H H') {a : Addr} {xs : List V} (h : H a = some (.tup xs)) (n : a ∉ S) : H' a = some (.tup xs) := k _ _ h n (fun ps z => by cases z)
theorem Kx.tk {H H' : Hp} {S : List Addr} (k : Kx S H H') (h : ∀ a ∈ S, ∀ xs, H a ≠ some (.tup xs)) : TupKeep H H' := fun t xs e => k.tup e fun z => h t z xs e
theorem PenAt.kx {H H' : Hp} {S : List Addr} {pen ca : Addr} {B : Nat} (p : PenAt H pen ca B) (k : Kx S H H') (h1 : pen ∉ S) (h2 : ca ∉ S) : PenAt H' pen ca B := by
  obtain ⟨cs, at_, rest, e1, e2, e3⟩ := p
  exact ⟨cs, at_, rest, k.lst e1 h1, k.lst e2 h2, e3⟩
theorem PenAt.notTup {H : Hp} {pen ca : Addr} {B : Nat} (p : PenAt H pen ca B) : ∀ xs, H pen ≠ some (.tup xs) := fun xs z => by
  obtain ⟨cs, at_, rest, e1, e2, e3⟩ := p
  rw [e1] at z
  cases z
/-! ### tables -/
theorem tabs_keep {T : List (Addr × Str)} {S : List Addr} {H H' : Hp} (t : LamX.Tabs T H) (k : Keep S H H') (h : ∀ a ∈ S, ∃ ys, H a = some (.lst ys)) : LamX.Tabs T H' := fun p hp => by
  obtain ⟨ps, h1, h2, h3⟩ := t p hp
  have off : ∀ {b : Addr} {o : HO}, H b = some o → (∀ ys, o ≠ .lst ys) → b ∉ S := fun {b o} e n z => by
    obtain ⟨ys, q⟩ := h b z
    rw [e] at q
    exact n ys (Option.some.inj q)
  refine ⟨ps, k _ _ h1 (off h1 fun ys z => by cases z), h2, fun pos cv hc => ?_⟩
  obtain ⟨c, e1, e2⟩ := h3 pos cv hc
  exact ⟨c, e1, k _ _ e2 (off e2 fun ys z => by unfold LamX.CodeO at z; cases z)⟩
theorem tabs_keep1 {T : List (Addr × Str)} {l : Addr} {ys : List V} {H H' : Hp} (t : LamX.Tabs T H) (k : Keep [l] H H') (h : H l = some (.lst ys)) : LamX.Tabs T H' := tabs_keep t k fun a ha => ⟨ys, List.mem_singleton.mp ha ▸ h⟩
theorem tabs_same {T : List (Addr × Str)} {H H' : Hp} (t : LamX.Tabs T H) (k : Same H H') : LamX.Tabs T H' := t.ext k
/-- the table of a def's lambdas -/
structure Tbs (T : List (Addr × Str)) (P : Addr) (q : Str) : Prop where
  mem : (P, q) ∈ T
  uni : ∀ p ∈ T, p.1 = P → p.2 = q
/-- a def whose lambdas' code objects stand at c, their table at P -/
def FnC (K : PySem.W.Frag) (mg : Str → Option Value) (x : Str) (i : Nat) (c : Addr) : Prop := ∃ (f : Addr) (oc : Value) (od : Option Addr) (kV doc pm : Value) (an : Option Addr) (ct : Value) (osl : Array (Option Value)),
  mg x = some (.ref f) ∧ PySem.W.keepIn K (.ref f) = true ∧ K.lookup f = some ⟨oc, od, .func (PySem.W.fnOf x x (defArgs (top i)) (defBody (top i)) (defScope (top i)) .none kV doc pm an (.ref c) ct), osl⟩ ∧ PySem.W.codeIn K (.ref c) x = true
section
variable {P : Program} {w : World} {K : PySem.W.Frag} {mg : Str → Option Value} {base : Heap}
theorem df_ofC {CX : CXT} {N ps : List Str} {k : Nat} {sp : Sp} {x : Str} {i : Nat} {c : Addr} (F : FnC K mg x i c) (S : FnScope N ps (defScope (top i))) (len : ∀ vs H Q E, sp vs H Q E → vs.length = ps.length)
    (bn : ∀ (kV doc pm : Value) (an : Option Addr) (cdv ct : Value) (us : List Value), us.length = ps.length → bindArgs (PySem.W.fnOf x x (defArgs (top i)) (defBody (top i)) (defScope (top i)) .none kV doc pm an cdv ct) ⟨us, []⟩ = pure (ps.zip us))
    (hbody : ∀ (f : Addr) (A : Around) (outer : List Env) (s : Shared) (H : Hp) (vs : List V) (Q : VK) (E : XK), Room k (A.deeper (envOfC x (defScope (top i)) s.heap.objs.size f (.ref c))) → sp vs H Q E →
      ∃ t, PSs (cxOf CX P w K mg base N x (defScope (top i)) f (.ref c) A outer s H E) (defBody (top i)) t ∧ t { nx := fun _ H' => Q .non H', rt := Q } (start N vs) H) : Df P w K mg base CX (k + 1) x ps [] sp := by
  obtain ⟨f, oc, od, kV, doc, pm, an, ct, osl, e, hk, lk, hcd⟩ := F
  exact ⟨f, _, e, hk, .all (bn kV doc pm an (.ref c) ct), fn_of lk hcd S len fun A outer s H vs Q E hr h => hbody f A outer s H vs Q E hr h⟩
end
/-- _law_heard(lambda: body) -/
theorem pheard {X : Cx} {T : List (Addr × Str)} {k : Nat} {c Pt cS cC cT : Addr} {params : Arguments} {body : Expr} {scope : Scope} {t : XK → TE} {p lpos pos : Pos} (F : FnT X.K X.mg "_law_heard" 33) (Tt : Tx X.K X.mg) (Z : Tz X.prog X.K X.mg cS cC cT)
    (TB : LamX.TabB X.base X.mg c Pt) (U : Tbs T Pt (X.env.qual ++ "<lambda>")) (hr : Room (k + 2) X.A) (L : LamX.lamSB X.env.scope scope = true)
    (hbody : ∀ (A : Around) (outer : List Env) (s : Shared) (H : Hp) (E : XK) (f c' : Addr), Room k (A.deeper (LamX.lamEnv X scope s.heap.objs.size f c')) → PE (LamX.lamCx X A outer s H E scope f c') body (t E))
    (hcode : X.env.code = .ref c := by rfl) (hg : Gl X "_law_heard" := by rfl) (hdef : defaultsOf params X.env = ([], []) := by rfl)
    (hbind : ∀ (q : Str) (cl : List (Str × Addr)) (pm cv ctv : Value), bindArgs (PySem.W.kla_fn "<lambda>" q params body scope cl pm cv ctv) ⟨[], []⟩ = pure [] := by intros; rfl) :
    PE X (.Call (.Name "_law_heard" p) [.Lambda params body scope lpos] [] pos) (LamX.tLam T (TTh cC cT) t) := by
  obtain ⟨g, fd, F, e⟩ := F
  obtain ⟨oc, od, dV, kV, doc, pm, an, cdv, ct, osl, rfl, lk, hcd, hD, _⟩ := F.ex
  rcases hD with ⟨_, rfl⟩ | ⟨h, _⟩
  · exact LamX.pe_lamcall hg e F.kp lk hcd (F.bindsN fun _ _ _ _ _ _ us hl => match us, hl with | [_], _ => rfl) S_law_heard rfl (.inl rfl) (heard_gives Tt Z) TB hcode U.mem U.uni hr (LamX.lamS_by L) hdef hbind hbody
  · exact absurd rfl h
section
variable {K : PySem.W.Frag} {cC cT : Addr} {T : List (Addr × Str)} {σ : L2.St} {H : Hp} {Q : VK} {ta : TA}
/-- write_chain of what is none -/
theorem hearW (p : List Int) (hT : LamX.Tabs T H) (h1 : ∀ H1, LamX.ExtN H H1 → ∀ R : List V → Hp → Prop, (∀ v d H2, Same H1 H2 → Rp K H2 v d → dp d ≤ 12 → fwD d = some p → R [v] H2) → ta σ H1 R)
    (h2 : ∀ t pt H3, Kx [] H H3 → LamX.Tabs T H3 → H3 t = some (.tup [.str "chain", .ref pt]) → H3 pt = some (.tup (p.map V.int)) → Q (.ref t) H3) : LamX.tLam T (TTh cC cT) (fun E => tCall (spWrite K cC) [] E ta) σ H Q := by
  refine ⟨hT, fun H1 eN T1 R hR => h1 H1 eN _ fun v d H2 s2 r hd hf => ⟨v, d, rfl, r, .inr ⟨hd, p, hf, fun pt dd H3 s3 ht hdd => .inl ⟨rfl, dd, .ref pt, rfl, upd_same, fun t H4 s4 ht4 => h2 t pt H4 ?_ ?_ ht4 ?_⟩⟩⟩⟩
  · exact (Kx.ext eN).trans (Kx.same (((s2.trans s3).trans (same_upd hdd)).trans s4))
  · exact tabs_same T1 (((s2.trans s3).trans (same_upd hdd)).trans s4)
  · exact s4 _ _ (same_upd hdd _ _ ht)
/-- read_chain of what is no text -/
theorem hearO (hT : LamX.Tabs T H) {S : List Addr} (hS : ∀ a ∈ S, ∃ ys, H a = some (.lst ys)) (h1 : ∀ H1, LamX.ExtN H H1 → ∀ R : List V → Hp → Prop, (∀ v d H2, Keep S H1 H2 → Rp K H2 v d → isStrD d = false → R [v] H2) → ta σ H1 R)
    (h2 : ∀ t H3, Kx S H H3 → LamX.Tabs T H3 → H3 t = some (.tup [.str "text", .int 0, .int 0]) → Q (.ref t) H3) : LamX.tLam T (TTh cC cT) (fun E => tCall (spRead K cT) [] E ta) σ H Q := by
  refine ⟨hT, fun H1 eN T1 R hR => h1 H1 eN _ fun v d H2 k2 r hd => ⟨v, rfl, .inr ⟨d, r, hd, fun dd H3 s3 hdd => .inr ⟨rfl, dd, .int 0, .int 0, rfl, upd_same, fun t H4 s4 ht4 => h2 t H4 ?_ ?_ ht4⟩⟩⟩⟩
  · exact (Kx.ext eN).trans (Kx.of (keep_same k2 ((s3.trans (same_upd hdd)).trans s4)))
  · exact tabs_same (tabs_keep T1 k2 fun a ha => by obtain ⟨ys, q⟩ := hS a ha; exact ⟨ys, eN _ _ q (fun ps z => by cases z)⟩) ((s3.trans (same_upd hdd)).trans s4)
/-- what is heard of a text's words -/
def hearD (ws : List Str) : Option Nat := match readW ws with
  | .inl i => some i
  | .inr _ => none
/-- read_chain of joined words -/
theorem hearR (ws : List Str) (ok : WsOk ws) (hT : LamX.Tabs T H) (h1 : ∀ H1, LamX.ExtN H H1 → ∀ R : List V → Hp → Prop, (∀ H2, Same H1 H2 → R [.str (joinT ws)] H2) → ta σ H1 R)
    (h2 : ∀ i t H3, hearD ws = some i → Kx [] H H3 → LamX.Tabs T H3 → H3 t = some (.tup [.str "text", .int 0, .int ((i : Nat) : Int)]) → Q (.ref t) H3)
    (h3 : ∀ H3, hearD ws = none → Kx [] H H3 → LamX.Tabs T H3 → Q .non H3) : LamX.tLam T (TTh cC cT) (fun E => tCall (spRead K cT) [] E ta) σ H Q := by
  refine ⟨hT, fun H1 eN T1 R hR => h1 H1 eN _ fun H2 s2 => ⟨.str (joinT ws), rfl, .inl ⟨ws, rfl, ok, fun d u H3 hd s3 _ => hR u H3 (h3 H3 ?_ ?_ ?_), fun i dd H3 hi s3 hdd => .inr ⟨rfl, dd, .int 0, .int (i : Nat), rfl, upd_same, fun t H4 s4 ht4 => h2 i t H4 ?_ ?_ ?_ ht4⟩⟩⟩⟩
  · unfold hearD
    rw [hd]
  · exact (Kx.ext eN).trans (Kx.same (s2.trans s3))
  · exact tabs_same T1 (s2.trans s3)
  · unfold hearD
    rw [hi]
  · exact (Kx.ext eN).trans (Kx.same (((s2.trans s3).trans (same_upd hdd)).trans s4))
  · exact tabs_same T1 (((s2.trans s3).trans (same_upd hdd)).trans s4)
end
end Mine

set_option linter.all false
set_option maxRecDepth 100000
namespace Mine
open PySem
def bNames : List Str := ["a", "then", "zz"]
def rep {α : Type} : Nat → List α → List α
  | 0, _ => []
  | n + 1, xs => xs ++ rep n xs
abbrev L (xs : List Str) : List Str := xs
def deepW (z : Str) : List Str := (rep 7 (L ["(", "again"]) ++ L [z]) ++ rep 7 (L [")"])
def wideW (z : Str) : List Str := L ["(", "or"] ++ rep 5 ((L ["(", "then"] ++ rep 6 (L [z])) ++ L [")"])
def fullW (z : Str) : List Str := ((wideW z ++ L ["(", "then"]) ++ rep 3 (L [z])) ++ L [")", ")"]
def overW (z : Str) : List Str := ((wideW z ++ L ["(", "then"]) ++ rep 4 (L [z])) ++ L [")", ")"]
def asksA (z : Str) : List (List Str) := [deepW z, (L ["(", "again"] ++ deepW z) ++ L [")"], rep 1200 (L ["(", "then"]), fullW z, overW z]
def asksB (z : Str) : List (List Str) := [(L ["(", "or"] ++ rep 6 (L [z])) ++ L [")"], (L ["(", "or"] ++ rep 7 (L [z])) ++ L [")"], L ["(", "again", z, z, ")"], L ["(", "then", ")"]]
def asksC (z : Str) : List (List Str) := [L ["(", "again", ")"], L ["("], L [")"], L [z, z], L ["(", "or", z]]
def asksW (z : Str) : List (List Str) := (asksA z ++ asksB z) ++ asksC z
def dueN (z : Str) : List (Option Nat) := ([none, some 16, some 16, none, (begunL (overW z))[40]?] ++ [none, some 8, some 3, some 2]) ++ [some 2, some 1, some 0, some 1, some 3]
def wsOkB (ws : List Str) : Bool := !ws.isEmpty && ws.all noSp && decide (ws.length ≤ 9000) && ws.all fun w => decide (w.length ≤ 1000)
theorem wsOkB_ok {ws : List Str} (h : wsOkB ws = true) : WsOk ws := by
  simp only [wsOkB, Bool.and_eq_true, List.all_eq_true, decide_eq_true_eq, Bool.not_eq_true', List.isEmpty_eq_false_iff] at h
  exact ⟨h.1.1.1, h.1.1.2, h.1.2, h.2⟩
theorem asks_due : ∀ z ∈ bNames, (asksW z).map hearD = dueN z := by decide +kernel
theorem asks_ok : ∀ z ∈ bNames, ∀ ws ∈ asksW z, wsOkB ws = true := by decide +kernel
theorem over_40 : ∀ z ∈ bNames, (begunL (overW z)).length = 41 ∧ (begunL (fullW z)).length = 40 := by decide +kernel
end Mine

set_option Elab.async false
set_option linter.all false
set_option maxRecDepth 100000
set_option maxHeartbeats 2000000
namespace Mine
open PySem PySem.Spec PyProof.Rows L2
/-! ### lists of words that a name is put into -/
abbrev ZC := L2.St → Hp → Str → Prop
def tZ (C : ZC) (g : Str → List Str) : TE := fun σ H Q => ∃ z, σ[1]? = some (some (.str z)) ∧ C σ H z ∧ ∀ p H', Same H H' → H' p = some (.lst ((g z).map V.str)) → Q (.ref p) H'
def ZUp (C : ZC) : Prop := ∀ σ H H' z, Same H H' → C σ H z → C σ H' z
section
variable {X : Cx} {C : ZC} {g h : Str → List Str} {a b : Expr} {es : List Expr} {t : TA} {pos : Pos}
theorem z_lit (g : Str → List Str) (ha : PA X es t) (hl : ∀ z, (g z).length ≤ 5000) (k : ∀ (σ : L2.St) (H : Hp) (R : List V → Hp → Prop) z, σ[1]? = some (some (.str z)) → R ((g z).map V.str) H → t σ H R) : PE X (.List es pos) (tZ C g) :=
  pimp _ (pe_lst ha) fun σ H Q ⟨z, e, c, q⟩ => k σ H _ z e ⟨by rw [List.length_map, sizeLine_eq]; have := hl z; omega, fun p hp => q p _ (same_upd hp) upd_same⟩
theorem z_cat (hC : ZUp C) (ha : PE X a (tZ C g)) (hb : PE X b (tZ C h)) (h1 : ∀ z, (g z).length + (h z).length ≤ 5000) : PE X (.BinOp a .Add b pos) (tZ C fun z => g z ++ h z) :=
  pimp _ (pe_op op_cat ha hb) fun σ H Q ⟨z, e, c, q⟩ => ⟨z, e, c, fun p1 H1 s1 e1 => ⟨z, e, hC _ _ _ _ s1 c, fun p2 H2 s2 e2 => ⟨p1, p2, _, _, rfl, rfl, s2 _ _ e1, e2, by rw [List.length_map, List.length_map, sizeLine_eq]; have := h1 z; omega,
    fun p hp => q p _ ((s1.trans s2).trans (same_upd hp)) (by rw [upd_same, List.map_append])⟩⟩⟩
theorem rep_map {α β : Type} (f : α → β) : ∀ (n : Nat) (xs : List α), (rep n xs).map f = rep n (xs.map f)
  | 0, xs => rfl
  | n + 1, xs => by rw [rep, rep, List.map_append, rep_map f n xs]
theorem rep_flat {α : Type} : ∀ (n : Nat) (xs : List α), (List.replicate n xs).flatten = rep n xs
  | 0, xs => rfl
  | n + 1, xs => by rw [List.replicate_succ, List.flatten_cons, rep_flat n xs, rep]
theorem z_rep (n : Nat) (ha : PE X a (tZ C g)) (hb : PE X b (tC (.int (n : Int)))) (h1 : ∀ z, (g z).length * n ≤ 10000) (hn : n ≤ 5000) : PE X (.BinOp a .Mult b pos) (tZ C fun z => rep n (g z)) :=
  pimp _ (pe_op op_rep ha hb) fun σ H Q ⟨z, e, c, q⟩ => ⟨z, e, c, fun p1 H1 s1 e1 => ⟨p1, (n : Int), _, rfl, rfl, e1, by omega, by omega, by rw [List.length_map, sizeLine_eq, Int.toNat_natCast]; have := h1 z; omega,
    fun p hp => q p _ (s1.trans (same_upd hp)) (by rw [upd_same, Int.toNat_natCast, rep_flat, rep_map])⟩⟩
theorem z_var (i : Nat) {x : Str} {p : Pos} (hv : PE X (.Name x p) (tVar i)) (k : ∀ σ H z, C σ H z → ∃ p, σ[i]? = some (some (.ref p)) ∧ H p = some (.lst ((g z).map V.str))) : PE X (.Name x p) (tZ C g) :=
  pimp _ hv fun σ H Q ⟨z, e, c, q⟩ => by
    obtain ⟨p, h1, h2⟩ := k σ H z c
    exact ⟨_, h1, q p H (Same.refl H) h2⟩
end
end Mine

set_option Elab.async false
set_option linter.all false
set_option maxRecDepth 100000
set_option maxHeartbeats 2000000
namespace Mine
open PySem PySem.Spec PyProof.Rows L2
def oddDs : List PyData := [.none, .str "a", .int 5, .tuple [], .dict [], .tuple [.str "then"], .tuple [.str "this"], .tuple [.str "this", .str "A"], .tuple [.str "again"], .list [.str "or"]]
def oddB (d : PyData) : PyData := .tuple [.str "or", .tuple [.str "this", .str "a"], .list [.str "then", .tuple [.str "this", .str "b"], d]]
def oddC (d : PyData) : PyData := .tuple [.str "again", d, .tuple [.str "this", .str "a"]]
theorem oddDs_ok : ∀ d ∈ oddDs, fwD d = some [] ∧ fwD (oddB d) = some [2, 2] ∧ fwD (oddC d) = some [] ∧ dp d ≤ 3 := by
  intro d hd
  simp only [oddDs, List.mem_cons, List.not_mem_nil, or_false] at hd
  rcases hd with rfl | rfl | rfl | rfl | rfl | rfl | rfl | rfl | rfl | rfl <;> exact ⟨by decide +kernel, by decide +kernel, by decide +kernel, by decide +kernel⟩
/-- what is neither of S nor a table -/
def off (S : List Addr) (H : Hp) : Hp := fun b => if b ∈ S then none else match H b with
  | some (.tbl _) => none
  | o => o
theorem off_at {S : List Addr} {H : Hp} {b : Addr} {o : HO} (h : H b = some o) (n : b ∉ S) (t : ∀ ps, o ≠ .tbl ps) : off S H b = some o := by
  unfold off
  rw [if_neg n, h]
  split
  · rename_i ps e
    exact absurd (Option.some.inj e) (t ps)
  · rfl
theorem off_of {S : List Addr} {H : Hp} {b : Addr} {o : HO} (h : off S H b = some o) : H b = some o ∧ b ∉ S ∧ ∀ ps, o ≠ .tbl ps := by
  unfold off at h
  split at h
  · cases h
  · rename_i n
    split at h
    · cases h
    · rename_i hn
      exact ⟨h, n, fun ps z => hn ps (by rw [h, z])⟩
theorem off_kx {S : List Addr} {H H' : Hp} (k : Kx S H H') : Same (off S H) (off S H') := fun b o e => by
  obtain ⟨h1, h2, h3⟩ := off_of e
  exact off_at (k _ _ h1 h2 h3) h2 h3
theorem off_sub {S : List Addr} {H : Hp} : Same (off S H) H := fun b o e => (off_of e).1
theorem off_new {S : List Addr} {H : Hp} {l : Addr} {o : HO} (h : H l = none) : Same (off S H) (off (l :: S) (upd H l o)) := fun b u e => by
  obtain ⟨h1, h2, h3⟩ := off_of e
  have hb : b ≠ l := fun z => by rw [z, h] at h1; cases h1
  exact off_at (by rw [upd_ne hb]; exact h1) (fun z => (List.mem_cons.mp z).elim hb h2) h3
theorem off_mut {S : List Addr} {H : Hp} {l : Addr} {o : HO} (h : l ∈ S) : Same (off S H) (off S (upd H l o)) := fun b u e => by
  obtain ⟨h1, h2, h3⟩ := off_of e
  have hb : b ≠ l := fun z => h2 (by rw [z]; exact h)
  exact off_at (by rw [upd_ne hb]; exact h1) h2 h3
theorem Kx.weak {S S' : List Addr} {H H' : Hp} (k : Kx S H H') (h : ∀ a ∈ S, a ∈ S') : Kx S' H H' := fun b o e n t => k b o e (fun z => n (h b z)) t
def spRefused (T : List (Addr × Str)) : Sp := fun vs H Q _ => ∃ pen ca B, vs = [.ref pen] ∧ PenAt H pen ca B ∧ B + 10 < 900000 ∧ LamX.Tabs T H ∧ ∀ H', Q (.bl true) H'
theorem S_law_refused : FnScope ["pen", "odd", "heard"] ["pen"] (defScope (top 40)) := ⟨rfl, rfl, rfl, by decide +kernel, rfl, by decide +kernel, by decide +kernel⟩
section
variable {P : Program} {w : World} {K : PySem.W.Frag} {mg : Str → Option Value} {base : Heap} {cN cS cC cT c Pt : Addr} {Tb : List (Addr × Str)}
theorem D_law_refused (T : Tx K mg) (N : Nx w K mg cN) (Z : Tz P K mg cS cC cT) (F : FnC K mg "_law_refused" 40 c) (TB : LamX.TabB base mg c Pt) (U : Tbs Tb Pt "_law_refused.<locals>.<lambda>") : Df P w K mg base CX0 20 "_law_refused" ["pen"] [] (spRefused Tb) := by
  have sc := S_law_refused
  have DP := D_law_pick (P := P) (w := w) (base := base) T
  have DW := D_write_chain (P := P) (w := w) (base := base) T Z
  have DR := D_read_chain (P := P) (w := w) (base := base) T N Z
  refine df_ofC F sc (fun vs H Q E h => ?_) (fun _ _ _ _ _ _ us hl => match us, hl with | [_], _ => rfl) ?_
  · obtain ⟨pen, ca, B, rfl, _⟩ := h
    rfl
  intro f A outer s0 H vs Q E hr h
  obtain ⟨pen, ca, B, rfl, hp, hB, hT, hQ⟩ := h
  refine ⟨_, PSs.nox ((pss_cons (ps_set (i := 1) sc.nd rfl (Or.inr rfl) (pcall DP (hr.mono (by omega)) .nil pass0 (pa_cons (pv 0) (pa_cons (pe_lst (pa_cons pe_non (pa_cons pe_str (pa_cons pe_int (pa_cons (pe_tup pa_nil) (pa_cons pe_dnewK (pa_cons (pe_tup (pa_cons pe_str pa_nil)) (pa_cons (pe_tup (pa_cons pe_str pa_nil)) (pa_cons (pe_tup (pa_cons pe_str (pa_cons pe_str pa_nil))) (pa_cons (pe_tup (pa_cons pe_str pa_nil)) (pa_cons (pe_lst (pa_cons pe_str pa_nil)) pa_nil))))))))))) pa_nil))))
      (pss_cons (ps_set (i := 2) sc.nd rfl (Or.inl rfl) (pe_lst (pa_cons (pheard (k := 17) (T := Tb) T.law_heard T Z TB U hr (show LamX.lamSB (defScope (top 40)) _ = true by decide +kernel) (fun _ _ _ _ _ _ _ hr2 => (pcall DW (hr2.mono (by omega)) .nil (passes_call (takes_of rfl rfl rfl rfl) (fun _ _ _ _ h => h)) (pa_cons (pv 1) pa_nil)))) pa_nil)))
      (pss_cons (ps_expr (pe_bm PySem.F.plainAttrs_list PySem.F.slot_list_append PySem.F.type_list_append mt_append (pv 2) (pa_cons (pheard (k := 17) (T := Tb) T.law_heard T Z TB U hr (show LamX.lamSB (defScope (top 40)) _ = true by decide +kernel) (fun _ _ _ _ _ _ _ hr2 => (pcall DW (hr2.mono (by omega)) .nil (passes_call (takes_of rfl rfl rfl rfl) (fun _ _ _ _ h => h)) (pa_cons (pe_tup (pa_cons pe_str (pa_cons (pe_tup (pa_cons pe_str (pa_cons pe_str pa_nil))) (pa_cons (pe_lst (pa_cons pe_str (pa_cons (pe_tup (pa_cons pe_str (pa_cons pe_str pa_nil))) (pa_cons (pv 1) pa_nil)))) pa_nil)))) pa_nil)))) pa_nil)))
      (pss_cons (ps_expr (pe_bm PySem.F.plainAttrs_list PySem.F.slot_list_append PySem.F.type_list_append mt_append (pv 2) (pa_cons (pheard (k := 17) (T := Tb) T.law_heard T Z TB U hr (show LamX.lamSB (defScope (top 40)) _ = true by decide +kernel) (fun _ _ _ _ _ _ _ hr2 => (pcall DW (hr2.mono (by omega)) .nil (passes_call (takes_of rfl rfl rfl rfl) (fun _ _ _ _ h => h)) (pa_cons (pe_tup (pa_cons pe_str (pa_cons (pv 1) (pa_cons (pe_tup (pa_cons pe_str (pa_cons pe_str pa_nil))) pa_nil)))) pa_nil)))) pa_nil)))
      (pss_cons (ps_expr (pe_bm PySem.F.plainAttrs_list PySem.F.slot_list_append PySem.F.type_list_append mt_append (pv 2) (pa_cons (pheard (k := 17) (T := Tb) T.law_heard T Z TB U hr (show LamX.lamSB (defScope (top 40)) _ = true by decide +kernel) (fun _ _ _ _ _ _ _ hr2 => (pcall DR (hr2.mono (by omega)) .nil (passes_call (takes_of rfl rfl rfl rfl) (fun _ _ _ _ h => h)) (pa_cons (pcall DP (hr2.mono (by omega)) .nil pass0 (pa_cons (pv 0) (pa_cons (pe_lst (pa_cons pe_non (pa_cons pe_int (pa_cons (pe_lst (pa_cons pe_str pa_nil)) (pa_cons (pe_tup (pa_cons pe_str (pa_cons pe_str pa_nil))) pa_nil))))) pa_nil))) pa_nil)))) pa_nil)))
      (pss_one (ps_ret (pe_and (pe_cmpR (op_eqD hr.units) (pe_slice sl_list (pv 2) (po_some pe_int) po_none) (pe_lst (pa_cons (pe_tup (pa_cons pe_str (pa_cons (pe_tup (pa_cons pe_int (pa_cons pe_int pa_nil))) pa_nil))) (pa_cons (pe_tup (pa_cons pe_str (pa_cons (pe_tup pa_nil) pa_nil))) (pa_cons (pe_tup (pa_cons pe_str (pa_cons pe_int (pa_cons pe_int pa_nil)))) pa_nil)))) (nomark _)) (pe_one (pe_cmpR (op_eqD hr.units) (pe_ix ix_list (pv 2) pe_int (fun _ _ => rfl)) (pe_tup (pa_cons pe_str (pa_cons (pe_tup pa_nil) pa_nil))) (nomark _)))))))))))), ?_⟩
  have fresh : ∀ {H1 : Hp} {C : Nat} {q : Addr}, PenAt H1 pen ca C → H1 q = none → q ≠ pen := fun {H1 C q} h1 h2 z => by
    obtain ⟨cs, at_, rest, q1, q2, q3⟩ := h1
    rw [z, q1] at h2
    cases h2
  refine ⟨_, rfl, sz 0, fun p1 h1 p2 h2 => ⟨sz 1, fun p3 h3 => ⟨sz 1, fun p4 h4 => ⟨sz 2, fun p5 h5 => ⟨sz 1, fun p6 h6 => ⟨sz 1, fun p7 h7 => ⟨sz 10, fun q hq => ?_⟩⟩⟩⟩⟩⟩⟩
  have S8 := same_upd (o := HO.lst [.non, .str "a", .int 5, .ref p1, .ref p2, .ref p3, .ref p4, .ref p5, .ref p6, .ref p7]) hq
  have S7 := (same_upd (o := HO.lst [.str "or"]) h7).trans S8
  have S6 := (same_upd (o := HO.tup [.str "again"]) h6).trans S7
  have S5 := (same_upd (o := HO.tup [.str "this", .str "A"]) h5).trans S6
  have S4 := (same_upd (o := HO.tup [.str "this"]) h4).trans S5
  have S3 := (same_upd (o := HO.tup [.str "then"]) h3).trans S4
  have S2 := (same_upd (o := HO.dK []) h2).trans S3
  have S1 := (same_upd (o := HO.tup []) h1).trans S2
  have n1 := fresh hp h1
  have n2 := fresh (hp.same (same_upd (o := HO.tup []) h1)) h2
  have R1 := (same_upd (o := HO.tup []) h1).trans (same_upd (o := HO.dK []) h2)
  have n3 := fresh (hp.same R1) h3
  replace R1 := R1.trans (same_upd (o := HO.tup [.str "then"]) h3)
  have n4 := fresh (hp.same R1) h4
  replace R1 := R1.trans (same_upd (o := HO.tup [.str "this"]) h4)
  have n5 := fresh (hp.same R1) h5
  replace R1 := R1.trans (same_upd (o := HO.tup [.str "this", .str "A"]) h5)
  have n6 := fresh (hp.same R1) h6
  replace R1 := R1.trans (same_upd (o := HO.tup [.str "again"]) h6)
  have n7 := fresh (hp.same R1) h7
  replace R1 := R1.trans (same_upd (o := HO.lst [.str "or"]) h7)
  have n8 := fresh (hp.same R1) hq
  replace R1 := R1.trans S8
  have e1 := S2 _ _ upd_same
  have e2 := S3 _ _ upd_same
  have e3 := S4 _ _ upd_same
  have e4 := S5 _ _ upd_same
  have e5 := S6 _ _ upd_same
  have e6 := S7 _ _ upd_same
  have e7 := S8 _ _ upd_same
  clear S1 S2 S3 S4 S5 S6 S7 S8
  have tup1 : ∀ {H1 : Hp} {a : Addr} {xs : List V} {ds : List PyData}, H1 a = some (.tup xs) → a ≠ pen → RpL K (off [pen] H1) xs ds → ds.length ≤ 3 → Rp K (off [pen] H1) (.ref a) (.tuple ds) := fun h n r l => .tup (SqT.of (off_at h (by simpa using n) (fun ps z => by cases z))) r (by omega)
  refine ⟨pen, ca, B, q, [.non, .str "a", .int 5, .ref p1, .ref p2, .ref p3, .ref p4, .ref p5, .ref p6, .ref p7], rfl, hp.same R1, by omega, SqL.of upd_same, n8, by simp, by show 10 ≤ 1000; omega, fun x H2 hx hp2 k2 => ?_⟩
  have hRx : ∃ d ∈ oddDs, Rp K (off [pen] H2) x d := by
    have ok := off_kx (Kx.of k2)
    simp only [List.mem_cons, List.not_mem_nil, or_false] at hx
    rcases hx with rfl | rfl | rfl | rfl | rfl | rfl | rfl | rfl | rfl | rfl
    · exact ⟨.none, by simp [oddDs], .non⟩
    · exact ⟨.str "a", by simp [oddDs], .str _ (by decide)⟩
    · exact ⟨.int 5, by simp [oddDs], .int 5⟩
    · exact ⟨.tuple [], by simp [oddDs], Rp.same ok _ _ (tup1 e1 n1 .nil (by decide))⟩
    · exact ⟨.dict [], by simp [oddDs], Rp.same ok _ _ (.dic (off_at e2 (by simpa using n2) (fun ps z => by cases z)))⟩
    · exact ⟨.tuple [.str "then"], by simp [oddDs], Rp.same ok _ _ (tup1 e3 n3 (.cons (.str _ (by decide)) .nil) (by decide))⟩
    · exact ⟨.tuple [.str "this"], by simp [oddDs], Rp.same ok _ _ (tup1 e4 n4 (.cons (.str _ (by decide)) .nil) (by decide))⟩
    · exact ⟨.tuple [.str "this", .str "A"], by simp [oddDs], Rp.same ok _ _ (tup1 e5 n5 (.cons (.str _ (by decide)) (.cons (.str _ (by decide)) .nil)) (by decide))⟩
    · exact ⟨.tuple [.str "again"], by simp [oddDs], Rp.same ok _ _ (tup1 e6 n6 (.cons (.str _ (by decide)) .nil) (by decide))⟩
    · exact ⟨.list [.str "or"], by simp [oddDs], Rp.same ok _ _ (.lst (SqL.of (off_at e7 (by simpa using n7) (fun ps z => by cases z))) (.cons (.str _ (by decide)) .nil) (by decide))⟩
  have T2 : LamX.Tabs Tb H2 := tabs_keep (tabs_same hT R1) k2 fun a ha => by
    obtain ⟨cs, at_, rest, q1, q2, q3⟩ := hp.same R1
    rw [List.mem_singleton.mp ha]
    exact ⟨_, q1⟩
  clear e1 e2 e3 e4 e5 e6 e7 hx k2 tup1
  obtain ⟨d, hd, hR⟩ := hRx
  obtain ⟨o1, o2, o3, o4⟩ := oddDs_ok d hd
  -- the first
  refine hearW [] T2 (fun H3 eN R hRR => ⟨_, rfl, hRR x d H3 (Same.refl _) (Rp.same ((off_kx (Kx.ext eN)).trans off_sub) _ _ hR) (by omega) o1⟩) fun t1 q1 H3 k3 T3 a1 b1 => ⟨sz 1, fun l hl => ?_⟩
  have s4 := same_upd (o := HO.lst [.ref t1]) hl
  have hl4 : upd H3 l (HO.lst [.ref t1]) l = some (.lst [.ref t1]) := upd_same
  have p4 : PenAt (upd H3 l (HO.lst [.ref t1])) pen ca (B + 1) := (hp2.kx k3 (by simp) (by simp)).same s4
  replace T3 := tabs_same T3 s4
  have hlp : l ≠ pen := fresh (hp2.kx k3 (by simp) (by simp)) hl
  have hlc : l ≠ ca := fun z => by
    obtain ⟨cs, at_, rest, w1, w2, w3⟩ := hp2.kx k3 (by simp) (by simp)
    rw [z, w2] at hl
    cases hl
  replace hR : Rp K (off [l, pen] (upd H3 l (HO.lst [.ref t1]))) x d := Rp.same ((off_kx (k3.weak (by simp))).trans (off_new hl)) _ _ hR
  replace a1 := s4 _ _ a1
  replace b1 := s4 _ _ b1
  clear k3 s4
  generalize upd H3 l (HO.lst [.ref t1]) = H4 at hl4 p4 T3 hR a1 b1
  -- the second
  refine ⟨_, rfl, .inl ⟨rfl, _, SqL.of hl4⟩, ?_⟩
  refine hearW [2, 2] T3 (fun H5 eN R hRR => ⟨sz 2, fun c1 g1 => ⟨sz 2, fun c2 g2 => ⟨_, rfl, sz 3, fun c3 g3 => ⟨sz 3, fun c4 g4 => ?_⟩⟩⟩⟩) fun t2 q2 H5 k5 T5 a2 b2 => ?_
  · have Z4 := same_upd (o := HO.tup [.str "or", .ref c1, .ref c3]) g4
    have Z3 := (same_upd (o := HO.lst [.str "then", .ref c2, x]) g3).trans Z4
    have Z2 := (same_upd (o := HO.tup [.str "this", .str "b"]) g2).trans Z3
    have Z1 := (same_upd (o := HO.tup [.str "this", .str "a"]) g1).trans Z2
    refine hRR (.ref c4) (oddB d) _ Z1 ?_ (by simp only [oddB, dp, dpL]; omega) o2
    exact .tup (SqT.of upd_same) (.cons (.str _ (by decide)) (.cons (.tup (SqT.of (Z2 _ _ upd_same)) (.cons (.str _ (by decide)) (.cons (.str _ (by decide)) .nil)) (by decide))
      (.cons (.lst (SqL.of (Z4 _ _ upd_same)) (.cons (.str _ (by decide)) (.cons (.tup (SqT.of (Z3 _ _ upd_same)) (.cons (.str _ (by decide)) (.cons (.str _ (by decide)) .nil)) (by decide)) (.cons (Rp.same (((off_kx (Kx.ext eN)).trans off_sub).trans Z1) _ _ hR) .nil))) (by show 3 ≤ 10000; omega)) .nil))) (by show 3 ≤ 10000; omega)
  have hl5 := k5.lst hl4 (by simp)
  refine ⟨l, _, _, rfl, rfl, hl5, szlt 1, ?_⟩
  have tk5 : TupKeep H5 (upd H5 l (HO.lst ([.ref t1] ++ [.ref t2]))) := TupKeep.lst hl5
  have kk5 : Keep [l] H5 (upd H5 l (HO.lst ([.ref t1] ++ [.ref t2]))) := keep_upd (Keep.refl _) (by simp)
  have hl6 : upd H5 l (HO.lst ([.ref t1] ++ [.ref t2])) l = some (.lst ([.ref t1] ++ [.ref t2])) := upd_same
  replace a1 := tk5 _ _ (k5.tup a1 (by simp))
  replace b1 := tk5 _ _ (k5.tup b1 (by simp))
  replace a2 := tk5 _ _ a2
  replace b2 := tk5 _ _ b2
  have p6 := (p4.kx k5 (by simp) (by simp)).keep kk5 (by simpa using Ne.symm hlp) (by simpa using Ne.symm hlc)
  replace T5 : LamX.Tabs Tb (upd H5 l (HO.lst ([.ref t1] ++ [.ref t2]))) := tabs_keep1 T5 kk5 hl5
  replace hR : Rp K (off [l, pen] (upd H5 l (HO.lst ([.ref t1] ++ [.ref t2])))) x d := Rp.same ((off_kx (k5.weak (by simp))).trans (off_mut (by simp))) _ _ hR
  clear k5 tk5 kk5 hl5 hl4 p4 T3
  generalize upd H5 l (HO.lst ([.ref t1] ++ [.ref t2])) = H6 at hl6 a1 b1 a2 b2 p6 T5 hR
  -- the third
  refine ⟨_, rfl, .inl ⟨rfl, _, SqL.of hl6⟩, ?_⟩
  refine hearW [] T5 (fun H7 eN R hRR => ⟨_, rfl, sz 2, fun c1 g1 => ⟨sz 3, fun c2 g2 => ?_⟩⟩) fun t3 q3 H7 k7 T7 a3 b3 => ?_
  · have Z2 := same_upd (o := HO.tup [.str "again", x, .ref c1]) g2
    have Z1 := (same_upd (o := HO.tup [.str "this", .str "a"]) g1).trans Z2
    refine hRR (.ref c2) (oddC d) _ Z1 ?_ (by simp only [oddC, dp, dpL]; omega) o3
    exact .tup (SqT.of upd_same) (.cons (.str _ (by decide)) (.cons (Rp.same (((off_kx (Kx.ext eN)).trans off_sub).trans Z1) _ _ hR) (.cons (.tup (SqT.of (Z2 _ _ upd_same)) (.cons (.str _ (by decide)) (.cons (.str _ (by decide)) .nil)) (by decide)) .nil))) (by show 3 ≤ 10000; omega)
  have hl7 := k7.lst hl6 (by simp)
  refine ⟨l, _, _, rfl, rfl, hl7, szlt 2, ?_⟩
  have tk7 : TupKeep H7 (upd H7 l (HO.lst (([.ref t1] ++ [.ref t2]) ++ [.ref t3]))) := TupKeep.lst hl7
  have kk7 : Keep [l] H7 (upd H7 l (HO.lst (([.ref t1] ++ [.ref t2]) ++ [.ref t3]))) := keep_upd (Keep.refl _) (by simp)
  have hl8 : upd H7 l (HO.lst (([.ref t1] ++ [.ref t2]) ++ [.ref t3])) l = some (.lst [.ref t1, .ref t2, .ref t3]) := upd_same
  replace a1 := tk7 _ _ (k7.tup a1 (by simp))
  replace b1 := tk7 _ _ (k7.tup b1 (by simp))
  replace a2 := tk7 _ _ (k7.tup a2 (by simp))
  replace b2 := tk7 _ _ (k7.tup b2 (by simp))
  replace a3 := tk7 _ _ a3
  replace b3 := tk7 _ _ b3
  have p8 := (p6.kx k7 (by simp) (by simp)).keep kk7 (by simpa using Ne.symm hlp) (by simpa using Ne.symm hlc)
  replace T7 : LamX.Tabs Tb (upd H7 l (HO.lst (([.ref t1] ++ [.ref t2]) ++ [.ref t3]))) := tabs_keep1 T7 kk7 hl7
  clear k7 tk7 kk7 hl7 hl6 p6 T5 hR
  generalize upd H7 l (HO.lst (([.ref t1] ++ [.ref t2]) ++ [.ref t3])) = H8 at hl8 a1 b1 a2 b2 a3 b3 p8 T7
  -- the fourth
  have hpl : ∃ ys, H8 pen = some (.lst ys) := by
    obtain ⟨cs, at_, rest, w1, w2, w3⟩ := p8
    exact ⟨_, w1⟩
  refine ⟨_, rfl, .inl ⟨rfl, _, SqL.of hl8⟩, ?_⟩
  refine hearO T7 (S := [pen]) (fun a ha => by rw [List.mem_singleton.mp ha]; exact hpl) (fun H9 eN R hRR => ⟨_, rfl, sz 1, fun c1 g1 => ⟨sz 2, fun c2 g2 => ⟨sz 4, fun c3 g3 => ?_⟩⟩⟩) fun t4 H9 k9 T9 a4 => ?_
  · have Z3 := same_upd (o := HO.lst [.non, .int 4, .ref c1, .ref c2]) g3
    have Z2 := (same_upd (o := HO.tup [.str "this", .str "a"]) g2).trans Z3
    have Z1 := (same_upd (o := HO.lst [.str "a"]) g1).trans Z2
    have p9 : PenAt H9 pen ca (B + 1) := p8.kx (S := []) (Kx.ext eN) (by simp) (by simp)
    have W2 := (same_upd (o := HO.lst [.str "a"]) g1).trans (same_upd (o := HO.tup [.str "this", .str "a"]) g2)
    refine ⟨pen, ca, B + 1, c3, [.non, .int 4, .ref c1, .ref c2], rfl, p9.same Z1, by omega, SqL.of upd_same, fresh (p9.same W2) g3, by simp, by show 4 ≤ 1000; omega, fun y H10 hy _ k10 => ?_⟩
    have k11 : Keep [pen] H9 H10 := (Keep.of Z1).trans k10
    have m1 := fresh p9 g1
    have v1 := k10 _ _ (Z2 _ _ upd_same) (by simpa using m1)
    have m2 := fresh (p9.same (same_upd (o := HO.lst [.str "a"]) g1)) g2
    have v2 := k10 _ _ (Z3 _ _ upd_same) (by simpa using m2)
    simp only [List.mem_cons, List.not_mem_nil, or_false] at hy
    rcases hy with rfl | rfl | rfl | rfl
    · exact hRR _ .none _ k11 .non rfl
    · exact hRR _ (.int 4) _ k11 (.int 4) rfl
    · exact hRR _ (.list [.str "a"]) _ k11 (.lst (SqL.of v1) (.cons (.str _ (by decide)) .nil) (by decide)) rfl
    · exact hRR _ (.tuple [.str "this", .str "a"]) _ k11 (.tup (SqT.of v2) (.cons (.str _ (by decide)) (.cons (.str _ (by decide)) .nil)) (by decide)) rfl
  have tkA : TupKeep H8 H9 := k9.tk fun a ha xs z => by
    rw [List.mem_singleton.mp ha] at z
    exact p8.notTup xs z
  have hl9 := k9.lst hl8 (by simpa using hlp)
  refine ⟨l, _, _, rfl, rfl, hl9, szlt 3, ?_⟩
  have tk9 : TupKeep H9 (upd H9 l (HO.lst ([.ref t1, .ref t2, .ref t3] ++ [.ref t4]))) := TupKeep.lst hl9
  have hl10 : upd H9 l (HO.lst ([.ref t1, .ref t2, .ref t3] ++ [.ref t4])) l = some (.lst [.ref t1, .ref t2, .ref t3, .ref t4]) := upd_same
  replace a1 := tk9 _ _ (tkA _ _ a1)
  replace b1 := tk9 _ _ (tkA _ _ b1)
  replace a2 := tk9 _ _ (tkA _ _ a2)
  replace b2 := tk9 _ _ (tkA _ _ b2)
  replace a3 := tk9 _ _ (tkA _ _ a3)
  replace b3 := tk9 _ _ (tkA _ _ b3)
  replace a4 := tk9 _ _ a4
  clear tk9 hl9 tkA k9 hl8 p8 T7 T9
  generalize upd H9 l (HO.lst ([.ref t1, .ref t2, .ref t3] ++ [.ref t4])) = Hb at hl10 a1 b1 a2 b2 a3 b3 a4
  refine ⟨_, rfl, _, rfl, l, _, rfl, SqL.of hl10, fun sl hsl => ?_⟩
  have s1 := same_upd (o := HO.lst [.ref t2, .ref t3, .ref t4]) hsl
  refine ⟨sz 2, fun c1 g1 => ⟨sz 2, fun c2 g2 => ⟨sz 0, fun c3 g3 => ⟨sz 2, fun c4 g4 => ⟨sz 3, fun c5 g5 => ⟨sz 3, fun c6 g6 => ?_⟩⟩⟩⟩⟩⟩
  have Z6 := same_upd (o := HO.lst [.ref c2, .ref c4, .ref c5]) g6
  have Z5 := (same_upd (o := HO.tup [.str "text", .int 0, .int 0]) g5).trans Z6
  have Z4 := (same_upd (o := HO.tup [.str "chain", .ref c3]) g4).trans Z5
  have Z3 := (same_upd (o := HO.tup []) g3).trans Z4
  have Z2 := (same_upd (o := HO.tup [.str "chain", .ref c1]) g2).trans Z3
  have Z1 := (same_upd (o := HO.tup [.int 2, .int 2]) g1).trans Z2
  have Z0 := s1.trans Z1
  have hD : PyData.eqv (.list [.tuple [.str "chain", .tuple [.int 2, .int 2]], .tuple [.str "chain", .tuple []], .tuple [.str "text", .int 0, .int 0]]) (.list [.tuple [.str "chain", .tuple [.int 2, .int 2]], .tuple [.str "chain", .tuple []], .tuple [.str "text", .int 0, .int 0]]) = true := by decide +kernel
  refine ⟨.list [.tuple [.str "chain", .tuple [.int 2, .int 2]], .tuple [.str "chain", .tuple []], .tuple [.str "text", .int 0, .int 0]], .list [.tuple [.str "chain", .tuple [.int 2, .int 2]], .tuple [.str "chain", .tuple []], .tuple [.str "text", .int 0, .int 0]], ?_, ?_, by decide +kernel, by decide +kernel, _, rfl, ?_⟩
  · exact .lst (SqL.of (Z1 _ _ upd_same)) (.cons (.tup (SqT.of (Z0 _ _ a2)) (.cons (.str _) (.cons (.tup (SqT.of (Z0 _ _ b2)) (.cons (.int 2) (.cons (.int 2) .nil))) .nil))) (.cons (.tup (SqT.of (Z0 _ _ a3)) (.cons (.str _) (.cons (.tup (SqT.of (Z0 _ _ b3)) .nil) .nil))) (.cons (.tup (SqT.of (Z0 _ _ a4)) (.cons (.str _) (.cons (.int 0) (.cons (.int 0) .nil)))) .nil)))
  · exact .lst (SqL.of upd_same) (.cons (.tup (SqT.of (Z3 _ _ upd_same)) (.cons (.str _) (.cons (.tup (SqT.of (Z2 _ _ upd_same)) (.cons (.int 2) (.cons (.int 2) .nil))) .nil))) (.cons (.tup (SqT.of (Z5 _ _ upd_same)) (.cons (.str _) (.cons (.tup (SqT.of (Z4 _ _ upd_same)) .nil) .nil))) (.cons (.tup (SqT.of (Z6 _ _ upd_same)) (.cons (.str _) (.cons (.int 0) (.cons (.int 0) .nil)))) .nil)))
  refine ite_of true hD (iteT ?_)
  refine ⟨_, rfl, l, _, _, _, rfl, rfl, SqL.of (Z0 _ _ hl10), atI_at 0 rfl, sz 0, fun c7 g7 => ⟨sz 2, fun c8 g8 => ?_⟩⟩
  have Z8 := same_upd (o := HO.tup [.str "chain", .ref c7]) g8
  have Z7 := (same_upd (o := HO.tup []) g7).trans Z8
  have hE : PyData.eqv (.tuple [.str "chain", .tuple []]) (.tuple [.str "chain", .tuple []]) = true := by decide +kernel
  refine ⟨.tuple [.str "chain", .tuple []], .tuple [.str "chain", .tuple []], .tup (SqT.of (Z7 _ _ (Z0 _ _ a1))) (.cons (.str _) (.cons (.tup (SqT.of (Z7 _ _ (Z0 _ _ b1))) .nil) .nil)), .tup (SqT.of upd_same) (.cons (.str _) (.cons (.tup (SqT.of (Z8 _ _ upd_same)) .nil) .nil)), by decide +kernel, by decide +kernel, ?_⟩
  rw [hE]
  exact hQ _
end
end Mine

set_option Elab.async false
set_option linter.all false
set_option maxRecDepth 100000
set_option maxHeartbeats 4000000
namespace Mine
open PySem PySem.Spec PyProof.Rows L2
def C0 : ZC := fun _ _ _ => True
theorem C0u : ZUp C0 := fun _ _ _ _ _ h => h
def Cv (i : Nat) (g : Str → List Str) : ZC := fun σ H z => ∃ p, σ[i]? = some (some (.ref p)) ∧ H p = some (.lst ((g z).map V.str))
theorem Cvu {i : Nat} {g : Str → List Str} : ZUp (Cv i g) := fun _ _ _ _ s ⟨p, h1, h2⟩ => ⟨p, h1, s _ _ h2⟩
/-- lists of words -/
inductive AskR (H : Hp) : List V → List (List Str) → Prop
  | nil : AskR H [] []
  | cons {a : Addr} {vs : List V} {ws : List Str} {wss : List (List Str)} : H a = some (.lst (ws.map V.str)) → AskR H vs wss → AskR H (.ref a :: vs) (ws :: wss)
theorem AskR.same {H H' : Hp} (s : Same H H') : ∀ {vs : List V} {wss : List (List Str)}, AskR H vs wss → AskR H' vs wss
  | _, _, .nil => .nil
  | _, _, .cons a b => .cons (s _ _ a) (b.same s)
theorem AskR.app {H : Hp} : ∀ {vs us : List V} {wss xss : List (List Str)}, AskR H vs wss → AskR H us xss → AskR H (vs ++ us) (wss ++ xss)
  | _, _, _, _, .nil, h => h
  | _, _, _, _, .cons a b, h => .cons a (b.app h)
theorem AskR.length {H : Hp} : ∀ {vs : List V} {wss : List (List Str)}, AskR H vs wss → vs.length = wss.length
  | _, _, .nil => rfl
  | _, _, .cons _ b => congrArg Nat.succ b.length
theorem AskR.get {H : Hp} : ∀ {vs : List V} {wss : List (List Str)} {i : Nat} {v : V}, AskR H vs wss → vs[i]? = some v → ∃ a ws, v = .ref a ∧ wss[i]? = some ws ∧ H a = some (.lst (ws.map V.str))
  | _, _, _, _, .nil, e => by simp at e
  | _, _, 0, _, .cons a _, e => by simp at e; exact ⟨_, _, e.symm, rfl, a⟩
  | _, _, i + 1, v, .cons _ b, e => by
    obtain ⟨a, ws, h1, h2, h3⟩ := AskR.get (i := i) (v := v) b (by simpa using e)
    exact ⟨a, ws, h1, by simpa using h2, h3⟩
/-- what is heard, or due -/
inductive DueR (H : Hp) : List V → List (Option Nat) → Prop
  | nil : DueR H [] []
  | non {vs : List V} {ns : List (Option Nat)} : DueR H vs ns → DueR H (.non :: vs) (none :: ns)
  | tup {t : Addr} {k : Nat} {vs : List V} {ns : List (Option Nat)} : H t = some (.tup [.str "text", .int 0, .int (k : Nat)]) → DueR H vs ns → DueR H (.ref t :: vs) (some k :: ns)
theorem DueR.keep {H H' : Hp} (s : TupKeep H H') : ∀ {vs : List V} {ns : List (Option Nat)}, DueR H vs ns → DueR H' vs ns
  | _, _, .nil => .nil
  | _, _, .non b => .non (b.keep s)
  | _, _, .tup a b => .tup (s _ _ a) (b.keep s)
theorem DueR.app {H : Hp} : ∀ {vs us : List V} {ns ms : List (Option Nat)}, DueR H vs ns → DueR H us ms → DueR H (vs ++ us) (ns ++ ms)
  | _, _, _, _, .nil, h => h
  | _, _, _, _, .non b, h => .non (b.app h)
  | _, _, _, _, .tup a b, h => .tup a (b.app h)
theorem DueR.length {H : Hp} : ∀ {vs : List V} {ns : List (Option Nat)}, DueR H vs ns → vs.length = ns.length
  | _, _, .nil => rfl
  | _, _, .non b => congrArg Nat.succ b.length
  | _, _, .tup _ b => congrArg Nat.succ b.length
def dueD : Option Nat → PyData
  | none => .none
  | some k => .tuple [.str "text", .int 0, .int (k : Nat)]
theorem DueR.dp {K : PySem.W.Frag} {H : Hp} : ∀ {vs : List V} {ns : List (Option Nat)}, DueR H vs ns → DpAll K H vs (ns.map dueD)
  | _, _, .nil => .nil
  | _, _, .non b => .cons .non b.dp
  | _, _, .tup a b => .cons (.tup (SqT.of a) (.cons (.str _) (.cons (.int 0) (.cons (.int _) .nil)))) b.dp
theorem due_shaped : ∀ z ∈ bNames, SeqAt.shaped (.list ((dueN z).map dueD)) = true ∧ PyData.eqv (.list ((dueN z).map dueD)) (.list ((dueN z).map dueD)) = true := by decide +kernel
def spBounds (T : List (Addr × Str)) : Sp := fun vs H Q _ => ∃ pen ca B, vs = [.ref pen] ∧ PenAt H pen ca B ∧ B + 10 < 900000 ∧ LamX.Tabs T H ∧ ∀ H', PenAt H' pen ca (B + 1) → LamX.Tabs T H' → Q (.bl true) H'
theorem S_law_bounds : FnScope ["pen", "name", "deep", "wide", "full", "over", "asked", "due", "heard", "words"] ["pen"] (defScope (top 39)) := ⟨rfl, rfl, rfl, by decide +kernel, rfl, by decide +kernel, by decide +kernel⟩
section
variable {P : Program} {w : World} {K : PySem.W.Frag} {mg : Str → Option Value} {base : Heap} {cN cS cC cT c Pt : Addr} {Tb : List (Addr × Str)}
theorem D_law_bounds (T : Tx K mg) (N : Nx w K mg cN) (Z : Tz P K mg cS cC cT) (F : FnC K mg "_law_bounds_right" 39 c) (TB : LamX.TabB base mg c Pt) (U : Tbs Tb Pt "_law_bounds_right.<locals>.<lambda>") : Df P w K mg base CX0 20 "_law_bounds_right" ["pen"] [] (spBounds Tb) := by
  have sc := S_law_bounds
  have DP := D_law_pick (P := P) (w := w) (base := base) T
  have DR := D_read_chain (P := P) (w := w) (base := base) T N Z
  have DB := D_law_begun (P := P) (w := w) (base := base) T
  refine df_ofC F sc (fun vs H Q E h => ?_) (fun _ _ _ _ _ _ us hl => match us, hl with | [_], _ => rfl) ?_
  · obtain ⟨pen, ca, B, rfl, _⟩ := h
    rfl
  intro f A outer s0 H vs Q E hr h
  obtain ⟨pen, ca, B, rfl, hp, hB, hT, hQ⟩ := h
  refine ⟨_, PSs.nox ((pss_cons (ps_set (i := 1) sc.nd rfl (Or.inl rfl) (pcall DP (hr.mono (by omega)) .nil pass0 (pa_cons (pv 0) (pa_cons (pe_lst (pa_cons pe_str (pa_cons pe_str (pa_cons pe_str pa_nil)))) pa_nil))))
      (pss_cons (ps_set (i := 2) sc.nd rfl (Or.inl rfl) (z_cat C0u (z_cat C0u (z_rep (C := C0) 7 (z_lit (C := C0) (fun z => L ["(", "again"]) (pa_cons pe_str (pa_cons pe_str pa_nil)) (fun _ => Nat.le_of_ble_eq_true rfl) (fun _ _ _ z e q => q)) pe_int (fun _ => Nat.le_of_ble_eq_true rfl) (by decide)) (z_lit (C := C0) (fun z => L [z]) (pa_cons (pv 1) pa_nil) (fun _ => Nat.le_of_ble_eq_true rfl) (fun _ _ _ z e q => ⟨_, e, q⟩)) (fun _ => Nat.le_of_ble_eq_true rfl)) (z_rep (C := C0) 7 (z_lit (C := C0) (fun z => L [")"]) (pa_cons pe_str pa_nil) (fun _ => Nat.le_of_ble_eq_true rfl) (fun _ _ _ z e q => q)) pe_int (fun _ => Nat.le_of_ble_eq_true rfl) (by decide)) (fun _ => Nat.le_of_ble_eq_true rfl)))
      (pss_cons (ps_set (i := 3) sc.nd rfl (Or.inl rfl) (z_cat C0u (z_lit (C := C0) (fun z => L ["(", "or"]) (pa_cons pe_str (pa_cons pe_str pa_nil)) (fun _ => Nat.le_of_ble_eq_true rfl) (fun _ _ _ z e q => q)) (z_rep (C := C0) 5 (z_cat C0u (z_cat C0u (z_lit (C := C0) (fun z => L ["(", "then"]) (pa_cons pe_str (pa_cons pe_str pa_nil)) (fun _ => Nat.le_of_ble_eq_true rfl) (fun _ _ _ z e q => q)) (z_rep (C := C0) 6 (z_lit (C := C0) (fun z => L [z]) (pa_cons (pv 1) pa_nil) (fun _ => Nat.le_of_ble_eq_true rfl) (fun _ _ _ z e q => ⟨_, e, q⟩)) pe_int (fun _ => Nat.le_of_ble_eq_true rfl) (by decide)) (fun _ => Nat.le_of_ble_eq_true rfl)) (z_lit (C := C0) (fun z => L [")"]) (pa_cons pe_str pa_nil) (fun _ => Nat.le_of_ble_eq_true rfl) (fun _ _ _ z e q => q)) (fun _ => Nat.le_of_ble_eq_true rfl)) pe_int (fun _ => Nat.le_of_ble_eq_true rfl) (by decide)) (fun _ => Nat.le_of_ble_eq_true rfl)))
      (pss_cons (ps_set (i := 4) sc.nd rfl (Or.inl rfl) (z_cat (Cvu (i := 3) (g := wideW)) (z_cat (Cvu (i := 3) (g := wideW)) (z_cat (Cvu (i := 3) (g := wideW)) (z_var 3 (pv 3) (fun _ _ _ h => h)) (z_lit (C := _) (fun z => L ["(", "then"]) (pa_cons pe_str (pa_cons pe_str pa_nil)) (fun _ => Nat.le_of_ble_eq_true rfl) (fun _ _ _ z e q => q)) (fun _ => Nat.le_of_ble_eq_true rfl)) (z_rep (C := _) 3 (z_lit (C := _) (fun z => L [z]) (pa_cons (pv 1) pa_nil) (fun _ => Nat.le_of_ble_eq_true rfl) (fun _ _ _ z e q => ⟨_, e, q⟩)) pe_int (fun _ => Nat.le_of_ble_eq_true rfl) (by decide)) (fun _ => Nat.le_of_ble_eq_true rfl)) (z_lit (C := _) (fun z => L [")", ")"]) (pa_cons pe_str (pa_cons pe_str pa_nil)) (fun _ => Nat.le_of_ble_eq_true rfl) (fun _ _ _ z e q => q)) (fun _ => Nat.le_of_ble_eq_true rfl)))
      (pss_cons (ps_set (i := 5) sc.nd rfl (Or.inl rfl) (z_cat (Cvu (i := 3) (g := wideW)) (z_cat (Cvu (i := 3) (g := wideW)) (z_cat (Cvu (i := 3) (g := wideW)) (z_var 3 (pv 3) (fun _ _ _ h => h)) (z_lit (C := _) (fun z => L ["(", "then"]) (pa_cons pe_str (pa_cons pe_str pa_nil)) (fun _ => Nat.le_of_ble_eq_true rfl) (fun _ _ _ z e q => q)) (fun _ => Nat.le_of_ble_eq_true rfl)) (z_rep (C := _) 4 (z_lit (C := _) (fun z => L [z]) (pa_cons (pv 1) pa_nil) (fun _ => Nat.le_of_ble_eq_true rfl) (fun _ _ _ z e q => ⟨_, e, q⟩)) pe_int (fun _ => Nat.le_of_ble_eq_true rfl) (by decide)) (fun _ => Nat.le_of_ble_eq_true rfl)) (z_lit (C := _) (fun z => L [")", ")"]) (pa_cons pe_str (pa_cons pe_str pa_nil)) (fun _ => Nat.le_of_ble_eq_true rfl) (fun _ _ _ z e q => q)) (fun _ => Nat.le_of_ble_eq_true rfl)))
      (pss_cons (ps_set (i := 6) sc.nd rfl (Or.inl rfl) (pe_lst (pa_cons (pv 2) (pa_cons (z_cat (Cvu (i := 2) (g := deepW)) (z_cat (Cvu (i := 2) (g := deepW)) (z_lit (C := _) (fun z => L ["(", "again"]) (pa_cons pe_str (pa_cons pe_str pa_nil)) (fun _ => Nat.le_of_ble_eq_true rfl) (fun _ _ _ z e q => q)) (z_var 2 (pv 2) (fun _ _ _ h => h)) (fun _ => Nat.le_of_ble_eq_true rfl)) (z_lit (C := _) (fun z => L [")"]) (pa_cons pe_str pa_nil) (fun _ => Nat.le_of_ble_eq_true rfl) (fun _ _ _ z e q => q)) (fun _ => Nat.le_of_ble_eq_true rfl)) (pa_cons (z_rep (C := C0) 1200 (z_lit (C := C0) (fun z => L ["(", "then"]) (pa_cons pe_str (pa_cons pe_str pa_nil)) (fun _ => Nat.le_of_ble_eq_true rfl) (fun _ _ _ z e q => q)) pe_int (fun _ => Nat.le_of_ble_eq_true rfl) (by decide)) (pa_cons (pv 4) (pa_cons (pv 5) pa_nil)))))))
      (pss_cons (ps_set (i := 7) sc.nd rfl (Or.inl rfl) (pe_lst (pa_cons pe_non (pa_cons (pe_tup (pa_cons pe_str (pa_cons pe_int (pa_cons pe_int pa_nil)))) (pa_cons (pe_tup (pa_cons pe_str (pa_cons pe_int (pa_cons pe_int pa_nil)))) (pa_cons pe_non (pa_cons (pe_tup (pa_cons pe_str (pa_cons pe_int (pa_cons (pe_ix ix_list (pcall DB (hr.mono (by omega)) .nil pass0 (pa_cons (pv 5) pa_nil)) pe_int (fun _ _ => rfl)) pa_nil)))) pa_nil)))))))
      (pss_cons (ps_set (i := 6) sc.nd rfl (Or.inl rfl) (pe_op op_cat (pv 6) (pe_lst (pa_cons (z_cat C0u (z_cat C0u (z_lit (C := C0) (fun z => L ["(", "or"]) (pa_cons pe_str (pa_cons pe_str pa_nil)) (fun _ => Nat.le_of_ble_eq_true rfl) (fun _ _ _ z e q => q)) (z_rep (C := C0) 6 (z_lit (C := C0) (fun z => L [z]) (pa_cons (pv 1) pa_nil) (fun _ => Nat.le_of_ble_eq_true rfl) (fun _ _ _ z e q => ⟨_, e, q⟩)) pe_int (fun _ => Nat.le_of_ble_eq_true rfl) (by decide)) (fun _ => Nat.le_of_ble_eq_true rfl)) (z_lit (C := C0) (fun z => L [")"]) (pa_cons pe_str pa_nil) (fun _ => Nat.le_of_ble_eq_true rfl) (fun _ _ _ z e q => q)) (fun _ => Nat.le_of_ble_eq_true rfl)) (pa_cons (z_cat C0u (z_cat C0u (z_lit (C := C0) (fun z => L ["(", "or"]) (pa_cons pe_str (pa_cons pe_str pa_nil)) (fun _ => Nat.le_of_ble_eq_true rfl) (fun _ _ _ z e q => q)) (z_rep (C := C0) 7 (z_lit (C := C0) (fun z => L [z]) (pa_cons (pv 1) pa_nil) (fun _ => Nat.le_of_ble_eq_true rfl) (fun _ _ _ z e q => ⟨_, e, q⟩)) pe_int (fun _ => Nat.le_of_ble_eq_true rfl) (by decide)) (fun _ => Nat.le_of_ble_eq_true rfl)) (z_lit (C := C0) (fun z => L [")"]) (pa_cons pe_str pa_nil) (fun _ => Nat.le_of_ble_eq_true rfl) (fun _ _ _ z e q => q)) (fun _ => Nat.le_of_ble_eq_true rfl)) (pa_cons (z_lit (C := C0) (fun z => L ["(", "again", z, z, ")"]) (pa_cons pe_str (pa_cons pe_str (pa_cons (pv 1) (pa_cons (pv 1) (pa_cons pe_str pa_nil))))) (fun _ => Nat.le_of_ble_eq_true rfl) (fun _ _ _ z e q => ⟨_, e, ⟨_, e, q⟩⟩)) (pa_cons (z_lit (C := C0) (fun z => L ["(", "then", ")"]) (pa_cons pe_str (pa_cons pe_str (pa_cons pe_str pa_nil))) (fun _ => Nat.le_of_ble_eq_true rfl) (fun _ _ _ z e q => q)) pa_nil)))))))
      (pss_cons (ps_set (i := 7) sc.nd rfl (Or.inl rfl) (pe_op op_cat (pv 7) (pe_lst (pa_cons pe_non (pa_cons (pe_tup (pa_cons pe_str (pa_cons pe_int (pa_cons pe_int pa_nil)))) (pa_cons (pe_tup (pa_cons pe_str (pa_cons pe_int (pa_cons pe_int pa_nil)))) (pa_cons (pe_tup (pa_cons pe_str (pa_cons pe_int (pa_cons pe_int pa_nil)))) pa_nil)))))))
      (pss_cons (ps_set (i := 6) sc.nd rfl (Or.inl rfl) (pe_op op_cat (pv 6) (pe_lst (pa_cons (z_lit (C := C0) (fun z => L ["(", "again", ")"]) (pa_cons pe_str (pa_cons pe_str (pa_cons pe_str pa_nil))) (fun _ => Nat.le_of_ble_eq_true rfl) (fun _ _ _ z e q => q)) (pa_cons (z_lit (C := C0) (fun z => L ["("]) (pa_cons pe_str pa_nil) (fun _ => Nat.le_of_ble_eq_true rfl) (fun _ _ _ z e q => q)) (pa_cons (z_lit (C := C0) (fun z => L [")"]) (pa_cons pe_str pa_nil) (fun _ => Nat.le_of_ble_eq_true rfl) (fun _ _ _ z e q => q)) (pa_cons (z_lit (C := C0) (fun z => L [z, z]) (pa_cons (pv 1) (pa_cons (pv 1) pa_nil)) (fun _ => Nat.le_of_ble_eq_true rfl) (fun _ _ _ z e q => ⟨_, e, ⟨_, e, q⟩⟩)) (pa_cons (z_lit (C := C0) (fun z => L ["(", "or", z]) (pa_cons pe_str (pa_cons pe_str (pa_cons (pv 1) pa_nil))) (fun _ => Nat.le_of_ble_eq_true rfl) (fun _ _ _ z e q => ⟨_, e, q⟩)) pa_nil))))))))
      (pss_cons (ps_set (i := 7) sc.nd rfl (Or.inl rfl) (pe_op op_cat (pv 7) (pe_lst (pa_cons (pe_tup (pa_cons pe_str (pa_cons pe_int (pa_cons pe_int pa_nil)))) (pa_cons (pe_tup (pa_cons pe_str (pa_cons pe_int (pa_cons pe_int pa_nil)))) (pa_cons (pe_tup (pa_cons pe_str (pa_cons pe_int (pa_cons pe_int pa_nil)))) (pa_cons (pe_tup (pa_cons pe_str (pa_cons pe_int (pa_cons pe_int pa_nil)))) (pa_cons (pe_tup (pa_cons pe_str (pa_cons pe_int (pa_cons pe_int pa_nil)))) pa_nil))))))))
      (pss_cons (ps_set (i := 8) sc.nd rfl (Or.inl rfl) (pe_lst pa_nil))
      (pss_cons (ps_for PassesOwn.never rfl (pi_list (pv 6)) (pg_name (i := 9) sc.nd rfl (Or.inr rfl))
      (pss_one (ps_expr (pe_bm PySem.F.plainAttrs_list PySem.F.slot_list_append PySem.F.type_list_append mt_append (pv 8) (pa_cons (pheard (k := 17) (T := Tb) T.law_heard T Z TB U hr (show LamX.lamSB (defScope (top 39)) _ = true by decide +kernel) (fun _ _ _ _ _ _ _ hr2 => (pcall DR (hr2.mono (by omega)) .nil (passes_call (takes_of rfl rfl rfl rfl) (fun _ _ _ _ h => h)) (pa_cons (pe_joinb (K := K) pe_str (pv 9)) pa_nil)))) pa_nil)))))
      (pss_one (ps_ret (pe_and (pe_cmpR (op_eqD hr.units) (pv 8) (pv 7) (nomark _)) (pe_one (pe_cmpR op_eq (pe_callB call_len (by rfl) (T.fr "len") PyProof.Rows.Boot.«len» (pa_cons (pcall DB (hr.mono (by omega)) .nil pass0 (pa_cons (pv 4) pa_nil)) pa_nil)) pe_int (nomark _)))))))))))))))))))), ?_⟩
  have fresh : ∀ {H1 : Hp} {C : Nat} {q : Addr}, PenAt H1 pen ca C → H1 q = none → q ≠ pen := fun {H1 C q} h1 h2 z => by
    obtain ⟨cs, at_, rest, q1, q2, q3⟩ := h1
    rw [z, q1] at h2
    cases h2
  refine ⟨_, rfl, sz 3, fun q hq => ?_⟩
  refine ⟨pen, ca, B, q, bNames.map V.str, rfl, hp.same (same_upd hq), by omega, SqL.of upd_same, fresh hp hq, by decide, by decide, fun x H2 hx hp2 k2 => ?_⟩
  obtain ⟨z, hz, rfl⟩ := List.mem_map.mp hx
  have T2 : LamX.Tabs Tb H2 := by
    obtain ⟨cs, at_, rest, q1, q2, q3⟩ := hp.same (same_upd (o := HO.lst (bNames.map V.str)) hq)
    exact tabs_keep1 (tabs_same hT (same_upd hq)) k2 q1
  clear k2 hq hx
  refine ⟨z, rfl, trivial, fun dpa H3 s3 h3 => ?_⟩
  refine ⟨z, rfl, trivial, fun wp H4 s4 h4 => ?_⟩
  refine ⟨z, rfl, ⟨wp, rfl, h4⟩, fun fp H5 s5 h5 => ?_⟩
  refine ⟨z, rfl, ⟨wp, rfl, s5 _ _ h4⟩, fun op H6 s6 h6 => ?_⟩
  replace h3 := (s4.trans (s5.trans s6)) _ _ h3
  replace h5 := s6 _ _ h5
  have S := s3.trans (s4.trans (s5.trans s6))
  clear s3 s4 s5 s6 h4
  refine ⟨_, rfl, z, rfl, ⟨dpa, rfl, h3⟩, fun a2 H7 s7 g2 => ⟨z, rfl, trivial, fun a3 H8 s8 g3 => ⟨_, rfl, _, rfl, sz 5, fun A1 hA1 => ?_⟩⟩⟩
  have R1 : AskR H8 [.ref dpa, .ref a2, .ref a3, .ref fp, .ref op] (asksA z) := .cons ((s7.trans s8) _ _ h3) (.cons (s8 _ _ g2) (.cons g3 (.cons ((s7.trans s8) _ _ h5) (.cons ((s7.trans s8) _ _ h6) .nil))))
  have s9 := same_upd (o := HO.lst [.ref dpa, .ref a2, .ref a3, .ref fp, .ref op]) hA1
  have hA : upd H8 A1 (HO.lst [.ref dpa, .ref a2, .ref a3, .ref fp, .ref op]) A1 = some (.lst [.ref dpa, .ref a2, .ref a3, .ref fp, .ref op]) := upd_same
  replace R1 := R1.same s9
  replace h5 := ((s7.trans s8).trans s9) _ _ h5
  replace h6 := ((s7.trans s8).trans s9) _ _ h6
  replace S := S.trans ((s7.trans s8).trans s9)
  clear s7 s8 s9 g2 g3 hA1 h3
  generalize upd H8 A1 (HO.lst [.ref dpa, .ref a2, .ref a3, .ref fp, .ref op]) = H9 at R1 hA h5 h6 S
  obtain ⟨l41, l40⟩ := over_40 z hz
  have ho : ((begunL (overW z)).map fun i => V.int ((i : Nat) : Int))[40]? = some (.int (((begunL (overW z))[40]'(by omega) : Nat) : Int)) := by
    rw [List.getElem?_map, List.getElem?_eq_getElem (by omega)]
    rfl
  have hdue : dueN z = ([none, some 16, some 16, none, some ((begunL (overW z))[40]'(by omega))] ++ [none, some 8, some 3, some 2]) ++ [some 2, some 1, some 0, some 1, some 3] := by
    unfold dueN
    rw [List.getElem?_eq_getElem (by omega)]
  generalize (begunL (overW z))[40]'(by omega) = k40 at ho hdue
  refine ⟨sz 3, fun d2 e2 => ⟨sz 3, fun d3 e3 => ?_⟩⟩
  have W3 := (same_upd (o := HO.tup [.str "text", .int 0, .int 16]) e2).trans (same_upd (o := HO.tup [.str "text", .int 0, .int 16]) e3)
  refine ⟨_, rfl, op, overW z, rfl, SqL.of (W3 _ _ h6), Nat.le_of_ble_eq_true rfl, fun bp H10 s10 hb10 => ⟨bp, _, _, _, rfl, rfl, SqL.of hb10, atI_at 40 ho, sz 3, fun d5 e5 => ⟨sz 5, fun D1 e6 => ?_⟩⟩⟩
  have W5 := same_upd (o := HO.tup [.str "text", .int 0, .int (k40 : Nat)]) e5
  have W6 := same_upd (o := HO.lst [.non, .ref d2, .ref d3, .non, .ref d5]) e6
  have W4 := s10.trans (W5.trans W6)
  have Q1 : DueR _ [.non, .ref d2, .ref d3, .non, .ref d5] [none, some 16, some 16, none, some k40] := .non (.tup (W4 _ _ (same_upd e3 _ _ upd_same)) (.tup (W4 _ _ upd_same) (.non (.tup (W6 _ _ upd_same) .nil))))
  have hD := upd_same (H := upd H10 d5 (HO.tup [.str "text", .int 0, .int (k40 : Nat)])) (a := D1) (o := HO.lst [.non, .ref d2, .ref d3, .non, .ref d5])
  have W7 := W3.trans W4
  replace R1 := R1.same W7
  replace hA := W7 _ _ hA
  replace h5 := W7 _ _ h5
  replace S := S.trans W7
  clear W3 W4 W5 W6 W7 s10 hb10 e2 e3 h6
  generalize upd (upd H10 d5 (HO.tup [.str "text", .int 0, .int (k40 : Nat)])) D1 (HO.lst [.non, .ref d2, .ref d3, .non, .ref d5]) = H11 at R1 hA h5 S Q1 hD
  -- asked + ..
  refine ⟨_, rfl, z, rfl, trivial, fun b1 G1 u1 r1 => ⟨z, rfl, trivial, fun b2 G2 u2 r2 => ⟨z, rfl, trivial, fun b3 G3 u3 r3 => ⟨z, rfl, trivial, fun b4 G4 u4 r4 => ⟨sz 4, fun L1 n1 => ?_⟩⟩⟩⟩⟩
  have v5 := same_upd (o := HO.lst [.ref b1, .ref b2, .ref b3, .ref b4]) n1
  have v4 := u4.trans v5
  have v3 := u3.trans v4
  have v2 := u2.trans v3
  have v1 := u1.trans v2
  have R2 : AskR (upd G4 L1 (HO.lst [.ref b1, .ref b2, .ref b3, .ref b4])) [.ref b1, .ref b2, .ref b3, .ref b4] (asksB z) := .cons (v2 _ _ r1) (.cons (v3 _ _ r2) (.cons (v4 _ _ r3) (.cons (v5 _ _ r4) .nil)))
  refine ⟨A1, L1, _, _, rfl, rfl, v1 _ _ hA, upd_same, sz 9, fun A2 n2 => ?_⟩
  have v6 := same_upd (o := HO.lst ([.ref dpa, .ref a2, .ref a3, .ref fp, .ref op] ++ [.ref b1, .ref b2, .ref b3, .ref b4])) n2
  have hA2 : upd (upd G4 L1 (HO.lst [.ref b1, .ref b2, .ref b3, .ref b4])) A2 (HO.lst ([.ref dpa, .ref a2, .ref a3, .ref fp, .ref op] ++ [.ref b1, .ref b2, .ref b3, .ref b4])) A2 = _ := upd_same
  have v7 := v1.trans v6
  replace R1 := (R1.same v7).app (R2.same v6)
  replace h5 := v7 _ _ h5
  replace hD := v7 _ _ hD
  replace Q1 := Q1.keep (TupKeep.of v7)
  replace S := S.trans v7
  clear v1 v2 v3 v4 v5 v6 v7 u1 u2 u3 u4 r1 r2 r3 r4 hA R2
  generalize upd (upd G4 L1 (HO.lst [.ref b1, .ref b2, .ref b3, .ref b4])) A2 (HO.lst ([.ref dpa, .ref a2, .ref a3, .ref fp, .ref op] ++ [.ref b1, .ref b2, .ref b3, .ref b4])) = H12 at R1 h5 hD Q1 S hA2
  -- due + ..
  refine ⟨_, rfl, sz 3, fun t1 m1 => ⟨sz 3, fun t2 m2 => ⟨sz 3, fun t3 m3 => ⟨sz 4, fun L2 m4 => ?_⟩⟩⟩⟩
  have v4 := same_upd (o := HO.lst [.non, .ref t1, .ref t2, .ref t3]) m4
  have v3 := (same_upd (o := HO.tup [.str "text", .int 0, .int 2]) m3).trans v4
  have v2 := (same_upd (o := HO.tup [.str "text", .int 0, .int 3]) m2).trans v3
  have v1 := (same_upd (o := HO.tup [.str "text", .int 0, .int 8]) m1).trans v2
  have Q2 : DueR _ [.non, .ref t1, .ref t2, .ref t3] [none, some 8, some 3, some 2] := .non (.tup (v2 _ _ upd_same) (.tup (v3 _ _ upd_same) (.tup (v4 _ _ upd_same) .nil)))
  refine ⟨D1, L2, _, _, rfl, rfl, v1 _ _ hD, upd_same, sz 9, fun D2 n2 => ?_⟩
  have v6 := same_upd (o := HO.lst ([.non, .ref d2, .ref d3, .non, .ref d5] ++ [.non, .ref t1, .ref t2, .ref t3])) n2
  have v7 := v1.trans v6
  have hD2 := upd_same (H := upd (upd (upd (upd H12 t1 (HO.tup [.str "text", .int 0, .int 8])) t2 (HO.tup [.str "text", .int 0, .int 3])) t3 (HO.tup [.str "text", .int 0, .int 2])) L2 (HO.lst [.non, .ref t1, .ref t2, .ref t3])) (a := D2) (o := HO.lst ([.non, .ref d2, .ref d3, .non, .ref d5] ++ [.non, .ref t1, .ref t2, .ref t3]))
  replace R1 := R1.same v7
  replace h5 := v7 _ _ h5
  replace hA2 := v7 _ _ hA2
  replace Q1 := (Q1.keep (TupKeep.of v7)).app (Q2.keep (TupKeep.of v6))
  replace S := S.trans v7
  clear v1 v2 v3 v4 v6 v7 hD Q2 m1 m2 m3 m4 n2
  generalize upd (upd (upd (upd (upd H12 t1 (HO.tup [.str "text", .int 0, .int 8])) t2 (HO.tup [.str "text", .int 0, .int 3])) t3 (HO.tup [.str "text", .int 0, .int 2])) L2 (HO.lst [.non, .ref t1, .ref t2, .ref t3])) D2 (HO.lst ([.non, .ref d2, .ref d3, .non, .ref d5] ++ [.non, .ref t1, .ref t2, .ref t3])) = H13 at R1 h5 hA2 Q1 S hD2
  -- asked + .. once more
  refine ⟨_, rfl, z, rfl, trivial, fun b1' G1 u1 r1 => ⟨z, rfl, trivial, fun b2' G2 u2 r2 => ⟨z, rfl, trivial, fun b3' G3 u3 r3 => ⟨z, rfl, trivial, fun b4' G4 u4 r4 => ⟨z, rfl, trivial, fun b5' G5 u5 r5 => ⟨sz 5, fun L1 n1 => ?_⟩⟩⟩⟩⟩⟩
  have v5 := same_upd (o := HO.lst [.ref b1', .ref b2', .ref b3', .ref b4', .ref b5']) n1
  have v4 := u5.trans v5
  have v3 := u4.trans v4
  have v2 := u3.trans v3
  have v1 := u2.trans v2
  have v0 := u1.trans v1
  have R2 : AskR (upd G5 L1 (HO.lst [.ref b1', .ref b2', .ref b3', .ref b4', .ref b5'])) [.ref b1', .ref b2', .ref b3', .ref b4', .ref b5'] (asksC z) := .cons (v1 _ _ r1) (.cons (v2 _ _ r2) (.cons (v3 _ _ r3) (.cons (v4 _ _ r4) (.cons (v5 _ _ r5) .nil))))
  have hA3 := v0 _ _ hA2
  generalize hvs : [V.ref dpa, .ref a2, .ref a3, .ref fp, .ref op] ++ [.ref b1, .ref b2, .ref b3, .ref b4] = va at R1 hA3
  have hvl : va.length = 9 := by rw [← hvs]; rfl
  refine ⟨A2, L1, _, _, rfl, rfl, hA3, upd_same, by rw [hvl]; exact sz 14, fun A3 n3 => ?_⟩
  have v6 := same_upd (o := HO.lst (va ++ [.ref b1', .ref b2', .ref b3', .ref b4', .ref b5'])) n3
  have hA4 := upd_same (H := upd G5 L1 (HO.lst [.ref b1', .ref b2', .ref b3', .ref b4', .ref b5'])) (a := A3) (o := HO.lst (va ++ [.ref b1', .ref b2', .ref b3', .ref b4', .ref b5']))
  have v7 := v0.trans v6
  replace R1 := (R1.same v7).app (R2.same v6)
  replace h5 := v7 _ _ h5
  replace hD2 := v7 _ _ hD2
  replace Q1 := Q1.keep (TupKeep.of v7)
  replace S := S.trans v7
  clear v0 v1 v2 v3 v4 v5 v6 v7 u1 u2 u3 u4 u5 r1 r2 r3 r4 r5 hA2 R2 hA3 hvs hvl n1 n3
  generalize upd (upd G5 L1 (HO.lst [.ref b1', .ref b2', .ref b3', .ref b4', .ref b5'])) A3 (HO.lst (va ++ [.ref b1', .ref b2', .ref b3', .ref b4', .ref b5'])) = H14 at R1 h5 hD2 Q1 S hA4
  generalize va ++ [.ref b1', .ref b2', .ref b3', .ref b4', .ref b5'] = vb at R1 hA4
  -- due + .. once more
  refine ⟨_, rfl, sz 3, fun t1' m1 => ⟨sz 3, fun t2' m2 => ⟨sz 3, fun t3' m3 => ⟨sz 3, fun t4' m4 => ⟨sz 3, fun t5' m5 => ⟨sz 5, fun L2' m6 => ?_⟩⟩⟩⟩⟩⟩
  have v6 := same_upd (o := HO.lst [.ref t1', .ref t2', .ref t3', .ref t4', .ref t5']) m6
  have v5 := (same_upd (o := HO.tup [.str "text", .int 0, .int 3]) m5).trans v6
  have v4 := (same_upd (o := HO.tup [.str "text", .int 0, .int 1]) m4).trans v5
  have v3 := (same_upd (o := HO.tup [.str "text", .int 0, .int 0]) m3).trans v4
  have v2 := (same_upd (o := HO.tup [.str "text", .int 0, .int 1]) m2).trans v3
  have v1 := (same_upd (o := HO.tup [.str "text", .int 0, .int 2]) m1).trans v2
  have Q2 : DueR _ [.ref t1', .ref t2', .ref t3', .ref t4', .ref t5'] [some 2, some 1, some 0, some 1, some 3] := .tup (v2 _ _ upd_same) (.tup (v3 _ _ upd_same) (.tup (v4 _ _ upd_same) (.tup (v5 _ _ upd_same) (.tup (v6 _ _ upd_same) .nil))))
  have hD3 := v1 _ _ hD2
  generalize hvs : [V.non, .ref d2, .ref d3, .non, .ref d5] ++ [.non, .ref t1, .ref t2, .ref t3] = wa at Q1 hD3
  have hvl : wa.length = 9 := by rw [← hvs]; rfl
  refine ⟨D2, L2', _, _, rfl, rfl, hD3, upd_same, by rw [hvl]; exact sz 14, fun D3 n3 => ?_⟩
  have u6 := same_upd (o := HO.lst (wa ++ [.ref t1', .ref t2', .ref t3', .ref t4', .ref t5'])) n3
  have v7 := v1.trans u6
  replace R1 := R1.same v7
  replace h5 := v7 _ _ h5
  replace hA4 := v7 _ _ hA4
  replace Q1 := (Q1.keep (TupKeep.of v7)).app (Q2.keep (TupKeep.of u6))
  replace S := S.trans v7
  have hD4 := upd_same (H := upd (upd (upd (upd (upd (upd H14 t1' (HO.tup [.str "text", .int 0, .int 2])) t2' (HO.tup [.str "text", .int 0, .int 1])) t3' (HO.tup [.str "text", .int 0, .int 0])) t4' (HO.tup [.str "text", .int 0, .int 1])) t5' (HO.tup [.str "text", .int 0, .int 3])) L2' (HO.lst [.ref t1', .ref t2', .ref t3', .ref t4', .ref t5'])) (a := D3) (o := HO.lst (wa ++ [.ref t1', .ref t2', .ref t3', .ref t4', .ref t5']))
  rw [← hdue] at Q1
  clear v1 v2 v3 v4 v5 v6 v7 u6 Q2 hD2 hD3 hvs hvl m1 m2 m3 m4 m5 m6 n3 hdue ho l41
  generalize upd (upd (upd (upd (upd (upd (upd H14 t1' (HO.tup [.str "text", .int 0, .int 2])) t2' (HO.tup [.str "text", .int 0, .int 1])) t3' (HO.tup [.str "text", .int 0, .int 0])) t4' (HO.tup [.str "text", .int 0, .int 1])) t5' (HO.tup [.str "text", .int 0, .int 3])) L2' (HO.lst [.ref t1', .ref t2', .ref t3', .ref t4', .ref t5'])) D3 (HO.lst (wa ++ [.ref t1', .ref t2', .ref t3', .ref t4', .ref t5'])) = H15 at R1 h5 hA4 Q1 S hD4
  generalize wa ++ [.ref t1', .ref t2', .ref t3', .ref t4', .ref t5'] = wb at Q1 hD4
  have p15 := hp2.same S
  have T15 := tabs_same T2 S
  -- heard = []
  refine ⟨sz 0, fun l hl => ?_⟩
  have s16 := same_upd (o := HO.lst []) hl
  have k16 : Kx [] H15 (upd H15 l (HO.lst [])) := Kx.same s16
  have hRw : AskR H15 vb (asksW z) := R1
  have hvb : vb.length = 14 := by rw [hRw.length]; rfl
  refine ⟨_, rfl, A3, rfl, ⟨vb, SqL.of (s16 _ _ hA4)⟩, ?_⟩
  refine for_it (walk_list (xs := vb)) (fun i σ H2 => ∃ c9 vals, σ = [some (.ref pen), some (.str z), some (.ref dpa), some (.ref wp), some (.ref fp), some (.ref op), some (.ref A3), some (.ref D3), some (.ref l), c9] ∧ Kx [] H15 H2 ∧ LamX.Tabs Tb H2 ∧ H2 l = some (.lst vals) ∧ DueR H2 vals (((asksW z).take i).map hearD)) ⟨none, [], rfl, k16, tabs_same T15 s16, upd_same, .nil⟩
    (fun i σ H2 _ h => by
      obtain ⟨c9, vals, _, k, _⟩ := h
      exact SqL.of (k.lst hA4 (by simp))) ?_ ?_
  · rintro i y σ H2 H3 hi ⟨c9, vals, rfl, k, TT, hl2, hdr⟩ ⟨rfl, hy⟩
    obtain ⟨a, ws, rfl, hws, ha⟩ := hRw.get hy
    have ha2 := k.lst ha (by simp)
    have hmem : ws ∈ asksW z := List.mem_of_getElem? hws
    have ok := wsOkB_ok (asks_ok z hz ws hmem)
    have hvl := hdr.length
    have hvl2 : vals.length ≤ 14 := by
      rw [hvl, List.length_map, List.length_take]
      omega
    have tk : ((asksW z).take (i + 1)).map hearD = ((asksW z).take i).map hearD ++ [hearD ws] := by
      have hlt := (List.getElem?_eq_some_iff.mp hws).1
      rw [← List.take_append_getElem hlt, List.map_append]
      have e := Option.some.inj ((List.getElem?_eq_getElem hlt).symm.trans hws)
      rw [e]
      rfl
    refine ⟨_, rfl, .inl ⟨rfl, _, SqL.of hl2⟩, ?_⟩
    refine hearR ws ok TT (fun H4 eN R hRR => ?_) (fun j t H4 hj k4 T4 ht => ?_) (fun H4 hj k4 T4 => ?_)
    · have e1 : (" " : Str).length = 1 := rfl
      refine ⟨⟨_, rfl⟩, _, rfl, _, a, ws, rfl, rfl, .inl (SqL.of (eN _ _ ha2 (fun ps q => by cases q))), ?_, hRR H4 (Same.refl _)⟩
      rw [e1]
      have h1 := sum_le ok.wl
      have h2 := ok.len
      have h4 : ws.length * 1000 ≤ 9000 * 1000 := Nat.mul_le_mul_right _ h2
      omega
    · have hl4 := k4.lst hl2 (by simp)
      refine ⟨l, _, _, rfl, rfl, hl4, by rw [sizeLine_eq]; omega, some (.ref a), vals ++ [.ref t], rfl, ?_, ?_, upd_same, ?_⟩
      · exact fun b o e n q => by
          have hb : b ≠ l := fun z2 => by rw [z2, hl] at e; cases e
          rw [upd_ne hb]
          exact (k.trans k4) b o e n q
      · exact tabs_keep1 T4 (keep_upd (Keep.refl _) (by simp)) hl4
      · rw [tk, hj]
        exact ((hdr.keep (k4.tk (by simp))).keep (TupKeep.lst hl4)).app (.tup (TupKeep.lst hl4 _ _ ht) .nil)
    · have hl4 := k4.lst hl2 (by simp)
      refine ⟨l, _, _, rfl, rfl, hl4, by rw [sizeLine_eq]; omega, some (.ref a), vals ++ [.non], rfl, ?_, ?_, upd_same, ?_⟩
      · exact fun b o e n q => by
          have hb : b ≠ l := fun z2 => by rw [z2, hl] at e; cases e
          rw [upd_ne hb]
          exact (k.trans k4) b o e n q
      · exact tabs_keep1 T4 (keep_upd (Keep.refl _) (by simp)) hl4
      · rw [tk, hj]
        exact ((hdr.keep (k4.tk (by simp))).keep (TupKeep.lst hl4)).app (.non .nil)
  · rintro σ H2 ⟨c9, vals, rfl, k, TT, hl2, hdr⟩
    rw [hvb, show 14 = (asksW z).length from rfl, List.take_length, asks_due z hz] at hdr
    obtain ⟨hsh, heq⟩ := due_shaped z hz
    have hQ15 : DueR H2 wb (dueN z) := Q1.keep (k.tk (by simp))
    refine ⟨_, rfl, _, rfl, .list ((dueN z).map dueD), .list ((dueN z).map dueD), .lst (SqL.of hl2) hdr.dp, .lst (SqL.of (k.lst hD4 (by simp))) hQ15.dp, hsh, hsh, _, rfl, ?_⟩
    refine ite_of true heq (iteT ?_)
    refine ⟨_, rfl, fp, fullW z, rfl, SqL.of (k.lst h5 (by simp)), Nat.le_of_ble_eq_true rfl, fun bq H3 s3 hb => ?_⟩
    refine ⟨_, _, rfl, .inl ⟨_, SqL.of hb, rfl⟩, rfl, ?_⟩
    rw [List.length_map, l40]
    exact hQ _ ((p15.kx k (by simp) (by simp)).same s3) (tabs_same TT s3)
end
end Mine

set_option Elab.async false
set_option linter.all false
set_option maxRecDepth 100000
set_option maxHeartbeats 2000000
namespace Mine
open PySem PySem.Spec PyProof.Rows L2
theorem call_reprD {X : Cx} (hg : X.A.guards = some []) : CallR X (.builtin "repr") (fun xs H Q => ∃ a d, xs = [.ref a] ∧ Dp X.K H (.ref a) d ∧ d.showable = true ∧ d.hasDict = false ∧ X.A.units + (d.depth + 1) < cLine ∧ d.shown.length ≤ sizeLine ∧ Q (.str d.shown) H) := by
  intro pins s σ H xs us Q I r h
  obtain ⟨a, d, rfl, hd, hs, hn, hu, hz, q⟩ := h
  obtain ⟨u, rfl, r1⟩ := vals1 r
  cases r1
  obtain ⟨as, hr⟩ := Dp.reads I d _ _ hd rfl
  exact repr_of_reads' hr hs (PyData.noDict_hsm hn) hg hu (fun _ _ e => e) (fun h' u tk hk => ⟨.str d.shown, H, I.kept (t' := tk) hk, ⟨u, rfl⟩, q⟩) hz
/-- chains are shown -/
theorem nm_repr {s : Str} (h : nameOk s = true) : (reprText s).length ≤ 82 := by
  have h1 := nameOk_len h
  simp only [nameOk, Bool.and_eq_true, List.all_eq_true, decide_eq_true_eq] at h
  have h2 := StrLaws.reprText_len s fun c hc => by
    have := h.2 c hc
    have hm : ∀ x ∈ letters, x < 16 ^ 8 := by decide
    exact hm c this
  omega
theorem hd_repr : ∀ w ∈ heads, (reprText w).length ≤ 82 := by decide +kernel
theorem this_repr : (reprText sThis).length ≤ 82 := by decide +kernel
mutual
theorem ch_show : ∀ c : Ch, c.ok → c.data.showable = true ∧ c.data.hasDict = false ∧ c.data.depth ≤ 2 * c.depth ∧ c.data.shown.length + 2 ≤ 200 * c.size
  | .this s, h => by
    have hn : nameOk s = true := by simpa [Ch.ok] using h
    have h1 := nm_repr hn
    have h2 := this_repr
    have h3 := fmt_text [reprText sThis, reprText s]
    rw [piled_cons, piled_cons, piled_nil] at h3
    refine ⟨by simp [Ch.data, PyData.showable, PyData.showableAll], by simp [Ch.data, PyData.hasDict, PyData.hasDictAll], by simp [Ch.data, PyData.depth, PyData.depthAll, Ch.depth], ?_⟩
    simp only [Ch.data, PyData.shown, PyData.shownAll, Ch.size]
    omega
  | .node w ps, h => by
    obtain ⟨hw, _, _, hps⟩ := (by simpa [Ch.ok] using h : w ∈ heads ∧ 1 ≤ ps.length ∧ ps.length ≤ most w ∧ okL ps)
    obtain ⟨a, b, c, d⟩ := chL_show ps hps
    have h1 := hd_repr w hw
    have h3 := fmt_text (reprText w :: PyData.shownAll (dataL ps))
    rw [piled_cons] at h3
    refine ⟨by simp [Ch.data, PyData.showable, PyData.showableAll, a], by simp [Ch.data, PyData.hasDict, PyData.hasDictAll, b], ?_, ?_⟩
    · simp only [Ch.data, PyData.depth, PyData.depthAll, Ch.depth]
      omega
    · simp only [Ch.data, PyData.shown, PyData.shownAll, Ch.size]
      omega
theorem chL_show : ∀ ps : List Ch, okL ps → PyData.showableAll (dataL ps) = true ∧ PyData.hasDictAll (dataL ps) = false ∧ PyData.depthAll (dataL ps) ≤ 2 * depthL ps ∧ piled (PyData.shownAll (dataL ps)) ≤ 200 * sizeL ps
  | [], _ => by
    refine ⟨by simp [dataL, PyData.showableAll], by simp [dataL, PyData.hasDictAll], by simp [dataL, PyData.depthAll], ?_⟩
    simp [dataL, PyData.shownAll, piled_nil]
  | c :: r, h => by
    obtain ⟨h1, h2⟩ := (by simpa [okL] using h : c.ok ∧ okL r)
    obtain ⟨a1, b1, c1, d1⟩ := ch_show c h1
    obtain ⟨a2, b2, c2, d2⟩ := chL_show r h2
    refine ⟨by simp [dataL, PyData.showableAll, a1, a2], by simp [dataL, PyData.hasDictAll, b1, b2], ?_, ?_⟩
    · simp only [dataL, PyData.depthAll, depthL]
      omega
    · simp only [dataL, PyData.shownAll, sizeL]
      rw [piled_cons]
      omega
end
mutual
theorem ch_dp {K : PySem.W.Frag} {H : Hp} : ∀ (d : PyData) (v : V), Rp K H v d → d.hasDict = false → Dp K H v d
  | .none, _, h, _ => by cases h; exact .non
  | .bool b, _, h, _ => by cases h; exact .bl b
  | .int i, _, h, _ => by cases h; exact .int i
  | .str x, _, h, _ => by cases h; exact .str x
  | .list ds, _, h, n => by
    cases h with
    | lst a b _ => exact .lst a (chL_dp ds _ b (by simpa [PyData.hasDict] using n))
  | .tuple ds, _, h, n => by
    cases h with
    | tup a b _ => exact .tup a (chL_dp ds _ b (by simpa [PyData.hasDict] using n))
  | .dict _, _, h, n => by simp [PyData.hasDict] at n
theorem chL_dp {K : PySem.W.Frag} {H : Hp} : ∀ (ds : List PyData) (vs : List V), RpL K H vs ds → PyData.hasDictAll ds = false → DpAll K H vs ds
  | [], _, h, _ => by cases h; exact .nil
  | d :: ds, _, h, n => by
    simp only [PyData.hasDictAll, Bool.or_eq_false_iff] at n
    cases h with
    | cons a b => exact .cons (ch_dp d _ a n.1) (chL_dp ds _ b n.2)
end
end Mine

set_option Elab.async false
set_option linter.all false
set_option maxRecDepth 100000
set_option maxHeartbeats 4000000
namespace Mine
open PySem PySem.Spec PyProof.Rows L2
theorem S_law : FnScope ["script", "pen", "turn", "chain", "words", "text", "more", "spoilt", "due"] ["script"] (defScope (top 41)) := ⟨rfl, rfl, rfl, by decide +kernel, rfl, by decide +kernel, by decide +kernel⟩
section
variable {P : Program} {w : World} {K : PySem.W.Frag} {mg : Str → Option Value} {base : Heap} {cN cS cC cT cl Pl c1 P1 c2 P2 : Addr} {Tb : List (Addr × Str)}
theorem canLay_text (k : Nat) : (PyData.tuple [.str "text", .int 0, .int (k : Nat)]).canLay0 = true := by
  have h : PyData.strOk "text" = true := by decide +kernel
  simp only [PyData.canLay0, PyData.canLayAll0, h, Bool.and_self]
theorem shaped_text (k : Nat) : SeqAt.shaped (.tuple [.str "text", .int 0, .int (k : Nat)]) = true := by
  unfold SeqAt.shaped
  rw [canLay_text k, Bool.true_and]
  refine decide_eq_true ?_
  simp [PyData.depth, PyData.depthAll]
theorem law_body (T : Tx K mg) (N : Nx w K mg cN) (Z : Tz P K mg cS cC cT) (TB : LamX.TabB base mg cl Pl) (U : Tbs Tb Pl "law.<locals>.<lambda>")
    (F1 : FnC K mg "_law_bounds_right" 39 c1) (TB1 : LamX.TabB base mg c1 P1) (U1 : Tbs Tb P1 "_law_bounds_right.<locals>.<lambda>") (F2 : FnC K mg "_law_refused" 40 c2) (TB2 : LamX.TabB base mg c2 P2) (U2 : Tbs Tb P2 "_law_refused.<locals>.<lambda>")
    {A : Around} {outer : List Env} {s : Shared} {H : Hp} {f a : Addr} {ns : List Int} {Q : VK} {E : XK} (hgu : A.guards = some []) (hr : Room 20 (A.deeper (envOfC "law" (defScope (top 41)) s.heap.objs.size f (.ref cl)))) (ha : SqL K H a (ns.map V.int)) (hT : LamX.Tabs Tb H) (hQ : ∀ H', Q (.bl true) H') :
    ∃ t, PSs (cxOf CX0 P w K mg base ["script", "pen", "turn", "chain", "words", "text", "more", "spoilt", "due"] "law" (defScope (top 41)) f (.ref cl) A outer s H E) (defBody (top 41)) t ∧ t { nx := fun _ H' => Q .non H', rt := Q } (start ["script", "pen", "turn", "chain", "words", "text", "more", "spoilt", "due"] [.ref a]) H := by
  have sc := S_law
  have Dpen := D_law_pen (P := P) (w := w) (base := base) T
  have Dpick := D_law_pick (P := P) (w := w) (base := base) T
  have Dchain := D_law_chain (P := P) (w := w) (base := base) T 7
  have Dwords := D_law_words (P := P) (w := w) (base := base) T 8
  have Dlisted := D_law_listed (P := P) (w := w) (base := base) T 8
  have Dspoilt := D_law_spoilt (P := P) (w := w) (base := base) T
  have DW := D_write_chain (P := P) (w := w) (base := base) T Z
  have KW := K_write_chain (P := P) (w := w) (base := base) T Z
  have DR := D_read_chain (P := P) (w := w) (base := base) T N Z
  have KR := K_read_chain (P := P) (w := w) (base := base) T N Z
  have Db := D_law_bounds (P := P) (w := w) (base := base) T N Z F1 TB1 U1
  have Df := D_law_refused (P := P) (w := w) (base := base) T N Z F2 TB2 U2
  refine ⟨_, PSs.nox ((pss_cons (ps_set (i := 1) sc.nd rfl (Or.inl rfl) (pcall Dpen (hr.mono (by omega)) .nil pass0 (pa_cons (pv 0) pa_nil)))
      (pss_cons (ps_for PassesOwn.never rfl (pi_range1 (by rfl) (T.fr "range") (pa_cons pe_int pa_nil)) (pg_name (i := 2) sc.nd rfl (Or.inl rfl))
      (pss_cons (ps_set (i := 3) sc.nd rfl (Or.inl rfl) (pcall Dchain (hr.mono (by omega)) .nil pass0 (pa_cons (pv 1) (pa_cons pe_int (pa_cons (pe_lst (pa_cons (pcall Dpick (hr.mono (by omega)) .nil pass0 (pa_cons (pv 1) (pa_cons (pe_lst (pa_cons pe_int (pa_cons pe_int (pa_cons pe_int pa_nil)))) pa_nil))) pa_nil)) pa_nil)))))
      (pss_cons (ps_set (i := 4) sc.nd rfl (Or.inl rfl) (pcall Dwords (hr.mono (by omega)) .nil pass0 (pa_cons (pv 3) pa_nil)))
      (pss_cons (ps_set (i := 5) sc.nd rfl (Or.inl rfl) (pe_join pe_str (pv 4)))
      (pss_cons (ps_if (PW.pt (pw_or (pt_cmpR op_ne (pcall (E := fun _ _ _ => False) DW (hr.mono (by omega)) .nil (passes_call LamX.takes0 (fun _ _ _ _ h => h.elim)) (pa_cons (pv 3) pa_nil)) (pv 5) (nomark _)) (pw_or1 (pt_cmpR op_ne (pcallK (E := fun _ _ _ => False) KW (hr.mono (by omega)) (passes_call LamX.takes0 (fun _ _ _ _ h => h.elim)) (pk_cons (pcall Dlisted (hr.mono (by omega)) .nil pass0 (pa_cons (pv 3) pa_nil)) pk_nil)) (pv 5) (nomark _)))))
      (pss_one (ps_ret pe_bl))
      pss_nil)
      (pss_cons (ps_if (PW.pt (pw_or (pt_cmpR op_ne (pe_callB (call_reprD hgu) (by rfl) (T.fr "repr") PyProof.Rows.Boot.«repr» (pa_cons (pcall (E := fun _ _ _ => False) DR (hr.mono (by omega)) .nil (passes_call LamX.takes0 (fun _ _ _ _ h => h.elim)) (pa_cons (pv 5) pa_nil)) pa_nil)) (pe_callB (call_reprD hgu) (by rfl) (T.fr "repr") PyProof.Rows.Boot.«repr» (pa_cons (pv 3) pa_nil)) (nomark _)) (pw_or1 (pt_cmpR op_ne (pe_callB (call_reprD hgu) (by rfl) (T.fr "repr") PyProof.Rows.Boot.«repr» (pa_cons (pcallK (E := fun _ _ _ => False) KR (hr.mono (by omega)) (passes_call LamX.takes0 (fun _ _ _ _ h => h.elim)) (pk_cons (pv 5) pk_nil)) pa_nil)) (pe_callB (call_reprD hgu) (by rfl) (T.fr "repr") PyProof.Rows.Boot.«repr» (pa_cons (pv 3) pa_nil)) (nomark _)))))
      (pss_one (ps_ret pe_bl))
      pss_nil)
      (pss_one (ps_for PassesOwn.never rfl (pi_range1 (by rfl) (T.fr "range") (pa_cons pe_int pa_nil)) (pg_name (i := 6) sc.nd rfl (Or.inl rfl))
      (pss_cons (ps_asg (pcall Dspoilt (hr.mono (by omega)) .nil pass0 (pa_cons (pv 1) (pa_cons (pv 4) pa_nil))) (pg_tup rfl (pgs_cons (pg_name (i := 7) sc.nd rfl (Or.inr rfl)) (pgs_cons (pg_name (i := 8) sc.nd rfl (Or.inl rfl)) pgs_nil))))
      (pss_one (ps_if (pt_cmpR (op_neD hr.units) (pheard (k := 18) (T := Tb) T.law_heard T Z TB U hr (show LamX.lamSB (defScope (top 41)) _ = true by decide +kernel) (fun _ _ _ _ _ _ _ hr2 => (pcall DR (hr2.mono (by omega)) .nil (passes_call (takes_of rfl rfl rfl rfl) (fun _ _ _ _ h => h)) (pa_cons (pe_joinb (K := K) pe_str (pv 7)) pa_nil)))) (pe_tup (pa_cons pe_str (pa_cons pe_int (pa_cons (pv 8) pa_nil)))) (nomark _))
      (pss_one (ps_ret pe_bl))
      pss_nil)))))))))))
      (pss_one (ps_ret (pe_and (pcall Db hr .nil pass0 (pa_cons (pv 1) pa_nil)) (pe_one (pcall Df hr .nil pass0 (pa_cons (pv 1) pa_nil))))))))), ?_⟩
  have fresh : ∀ {H1 : Hp} {pen ca q : Addr} {C : Nat}, PenAt H1 pen ca C → H1 q = none → q ≠ pen ∧ q ≠ ca := fun {H1 pen ca q C} h1 h2 => by
    obtain ⟨cs, at_, rest, q1, q2, q3⟩ := h1
    exact ⟨fun z => (by rw [z, q1] at h2; cases h2), fun z => (by rw [z, q2] at h2; cases h2)⟩
  refine ⟨_, rfl, a, ns, rfl, ha, fun pen ca H1 s1 n1 p1 => ?_⟩
  have T1 := tabs_same hT s1
  refine ⟨_, rfl, by decide, by decide, ?_⟩
  refine for_it (walk_range (n := 5)) (fun i σ H2 => ∃ c2 c3 c4 c5 c6 c7 c8, σ = [some (.ref a), some (.ref pen), c2, c3, c4, c5, c6, c7, c8] ∧ PenAt H2 pen ca (200 * i) ∧ LamX.Tabs Tb H2) ⟨none, none, none, none, none, none, none, rfl, p1, T1⟩ (fun _ _ _ _ _ => trivial) ?_ ?_
  · rintro i x σ H2 H3 hi ⟨c2, c3, c4, c5, c6, c7, c8, rfl, p2, T2⟩ ⟨rfl, rfl⟩
    refine ⟨_, rfl, _, rfl, sz 3, fun q hq => ?_⟩
    refine ⟨pen, ca, 200 * i, q, [.int 40, .int 40, .int 12], rfl, p2.same (same_upd hq), by omega, SqL.of upd_same, (fresh p2 hq).1, by simp, by show 3 ≤ 1000; omega, fun x H4 hx p4 k4 => ⟨sz 1, fun lf hlf => ?_⟩⟩
    obtain ⟨b, hb1, hb40, rfl⟩ : ∃ b : Nat, 1 ≤ b ∧ b ≤ 40 ∧ x = .int (b : Nat) := by
      simp only [List.mem_cons, List.not_mem_nil, or_false] at hx
      rcases hx with e | e | e
      · exact ⟨40, by omega, by omega, e⟩
      · exact ⟨40, by omega, by omega, e⟩
      · exact ⟨12, by omega, by omega, e⟩
    obtain ⟨hlp, hlc⟩ := fresh p4 hlf
    have T4 : LamX.Tabs Tb H4 := by
      obtain ⟨cs, at_, rest, q1, q2, q3⟩ := p2.same (same_upd (o := HO.lst [.int 40, .int 40, .int 12]) hq)
      exact tabs_keep1 (tabs_same T2 (same_upd hq)) k4 q1
    have s5 := same_upd (o := HO.lst [.int (b : Nat)]) hlf
    have hlf5 : upd H4 lf (HO.lst [.int (b : Nat)]) lf = some (.lst [.int (b : Nat)]) := upd_same
    have p5 := p4.same s5
    have T5 := tabs_same T4 s5
    generalize upd H4 lf (HO.lst [.int (b : Nat)]) = H5 at hlf5 p5 T5
    refine ⟨pen, ca, lf, 200 * i + 1, 1, b, rfl, by omega, by omega, by omega, p5, by omega, hlf5, hb1, hb40, hlp, hlc, fun u c H6 hok hcs hcd hR p6 hlf6 k6 => ?_⟩
    have T6 : LamX.Tabs Tb H6 := by
      obtain ⟨cs, at_, rest, q1, q2, q3⟩ := p5
      refine tabs_keep T5 k6 fun a ha => ?_
      rcases List.mem_cons.mp ha with e | e
      · exact ⟨_, e ▸ q1⟩
      · exact ⟨_, (List.mem_singleton.mp e) ▸ hlf5⟩
    replace p6 := p6.mono (C := 200 * i + 122) (by omega)
    clear k6 hlf6 hlf5 p5 T5 s5 T4 k4 p4 p2 T2 hlf hq hx
    have hs40 : c.size ≤ 40 := by omega
    have hd8 : c.depth ≤ 8 := by omega
    -- words, text
    refine ⟨_, rfl, u, c.data, c, rfl, Rp.same tupOf_sub _ _ hR, Fm.data c, hok, hd8, hs40, fun wa H7 s7 h7 => ?_⟩
    have p7 := p6.same s7
    have T7 := tabs_same T6 s7
    have hR7 := Rp.same (TupKeep.of s7).up _ _ hR
    have hwp : wa ≠ pen := fun z => by
      obtain ⟨cs, at_, rest, q1, q2, q3⟩ := p7
      rw [z, q1] at h7
      have e := HO.lst.inj (Option.some.inj h7)
      cases hw : c.words with
      | nil => rw [hw] at e; simp at e
      | cons w0 r0 => rw [hw] at e; simp at e
    have e1 : (" " : Str).length = 1 := rfl
    have hwl := words_length c
    have hws := sum_le (words_len c hok)
    refine ⟨⟨_, rfl⟩, _, rfl, _, wa, c.words, rfl, rfl, .inl (SqL.of h7), by rw [e1]; omega, ?_⟩
    -- write_chain
    have hEq : ∀ x : Str, (!decide (V.str x = V.str x)) = false := fun x => by rw [decide_eq_true rfl]; rfl
    refine ⟨_, rfl, u, c.data, rfl, Rp.same tupOf_sub _ _ hR7, .inl ⟨c, Fm.data c, hok, hs40, hd8, fun H8 s8 => ⟨_, rfl, rfl, _, rfl, ite_of false (hEq _) (iteF ?_)⟩⟩⟩
    have hR8 := Rp.same (TupKeep.of s8).up _ _ hR7
    refine ⟨_, rfl, u, c.data, c, rfl, Rp.same tupOf_sub _ _ hR8, Fm.data c, hok, hd8, fun u2 H9 d2 s9 r9 f9 => ⟨rfl, u2, d2, rfl, Rp.same nw_sub _ _ r9, .inl ⟨c, f9, hok, hs40, hd8, fun H10 s10 => ⟨_, rfl, rfl, _, rfl, ite_of false (hEq _) (iteF ?_)⟩⟩⟩⟩
    have s78 := (s8.trans s9).trans s10
    have hR10 := Rp.same (TupKeep.of s78).up _ _ hR7
    have p10 := p7.same s78
    have T10 := tabs_same T7 s78
    have h10 := s78 _ _ h7
    clear hR8 r9 f9 s8 s9 s10 s78 hR7 p7 T7 h7 hR p6 T6 s7
    -- read_chain
    have hro := read_ok c hok hs40 hd8
    have wok : WsOk c.words := ⟨by cases c <;> simp [Ch.words], words_noSp c hok, by omega, fun w hw => Nat.le_trans (words_len c hok w hw) (by decide)⟩
    obtain ⟨hsh, hnd, hdp, hlen⟩ := ch_show c hok
    have hun := hr.un
    have isref : ∀ {H' : Hp} {v : V}, Rp K (tupOf H') v c.data → ∃ b, v = .ref b := fun {H' v} r => by
      cases c with
      | this s => rw [Ch.data] at r; cases r; exact ⟨_, rfl⟩
      | node w ps => rw [Ch.data] at r; cases r; exact ⟨_, rfl⟩
    obtain ⟨ub, rfl⟩ := isref hR10
    have shz : c.data.shown.length ≤ sizeLine := by rw [sizeLine_eq]; omega
    have unz : ∀ k : Nat, k = (A.deeper (envOfC "law" (defScope (top 41)) s.heap.objs.size f (.ref cl))).units → k + (c.data.depth + 1) < cLine := fun k e => by rw [e]; omega
    refine ⟨_, rfl, .str (joinT c.words), rfl, .inl ⟨c.words, rfl, wok, fun d u3 H11 hrd s11 r11 => ?_, fun i dd _ hrd => by rw [hro] at hrd; cases hrd⟩⟩
    rw [hro] at hrd
    cases hrd
    have hR11 := Rp.same (TupKeep.of s11).up _ _ hR10
    obtain ⟨b3, rfl⟩ := isref r11
    refine ⟨b3, c.data, rfl, ch_dp _ _ (Rp.same tupOf_sub _ _ r11) hnd, hsh, hnd, unz _ rfl, shz, ?_⟩
    refine ⟨_, rfl, ub, c.data, rfl, ch_dp _ _ (Rp.same tupOf_sub _ _ hR11) hnd, hsh, hnd, unz _ rfl, shz, ?_⟩
    refine ⟨rfl, _, rfl, ite_of false (hEq _) (iteF ?_)⟩
    refine ⟨_, rfl, rfl, .str (joinT c.words), rfl, .inl ⟨c.words, rfl, wok, fun d u4 H12 hrd s12 r12 => ?_, fun i dd _ hrd => by rw [hro] at hrd; cases hrd⟩⟩
    rw [hro] at hrd
    cases hrd
    have hR12 := Rp.same (TupKeep.of s12).up _ _ hR11
    obtain ⟨b4, rfl⟩ := isref r12
    refine ⟨b4, c.data, rfl, ch_dp _ _ (Rp.same tupOf_sub _ _ r12) hnd, hsh, hnd, unz _ rfl, shz, ?_⟩
    refine ⟨_, rfl, ub, c.data, rfl, ch_dp _ _ (Rp.same tupOf_sub _ _ hR12) hnd, hsh, hnd, unz _ rfl, shz, ?_⟩
    refine ⟨rfl, _, rfl, ite_of false (hEq _) (iteF ?_)⟩
    have p12 := p10.same (s11.trans s12)
    have T12 := tabs_same T10 (s11.trans s12)
    have h12 := (s11.trans s12) _ _ h10
    clear hR12 hR11 r12 r11 s11 s12 p10 T10 h10 hR10 shz
    -- spoilt texts
    refine ⟨_, rfl, by decide, by decide, ?_⟩
    refine for_it (walk_range (n := 4)) (fun j σ H2 => ∃ d2 d3 d5 d6 d7 d8, σ = [some (.ref a), some (.ref pen), d2, d3, some (.ref wa), d5, d6, d7, d8] ∧ PenAt H2 pen ca (200 * i + 122 + 3 * j) ∧ LamX.Tabs Tb H2 ∧ H2 wa = some (.lst (c.words.map V.str))) ⟨_, _, _, _, _, _, rfl, p12, T12, h12⟩ (fun _ _ _ _ _ => trivial) ?_ ?_
    · rintro j x σ G1 G2 hj ⟨d2, d3, d5, d6, d7, d8, rfl, g1, t1, w1⟩ ⟨rfl, rfl⟩
      refine ⟨_, rfl, _, rfl, pen, ca, wa, 200 * i + 122 + 3 * j, c.words, rfl, g1, by omega, w1, hwp, whole_of c hok hs40 hd8, words_noSp c hok, words_len c hok, by omega, fun t p ws' k G3 g3 kk ht hp hok' hread => ?_⟩
      have t3 : LamX.Tabs Tb G3 := by
        obtain ⟨cs, at_, rest, q1, q2, q3⟩ := g1
        exact tabs_keep1 t1 kk q1
      have w3 := kk _ _ w1 (by simpa using hwp)
      refine ⟨t, _, rfl, SqT.of ht, rfl, _, _, rfl, _, _, rfl, rfl, ?_⟩
      have hhd : hearD ws' = some k := by
        unfold hearD
        rw [hread]
      refine hearR ws' hok' t3 (fun G4 eN R hRR => ?_) (fun k' t4 G4 hk k4 t4' ht4 => ?_) (fun G4 hk _ _ => by rw [hhd] at hk; cases hk)
      · refine ⟨⟨_, rfl⟩, _, rfl, _, p, ws', rfl, rfl, .inl (SqL.of (eN _ _ hp (fun ps q => by cases q))), ?_, hRR G4 (Same.refl _)⟩
        rw [e1]
        have h1 := sum_le hok'.wl
        have h2 := hok'.len
        have h4 : ws'.length * 1000 ≤ 9000 * 1000 := Nat.mul_le_mul_right _ h2
        omega
      · rw [hhd] at hk
        cases hk
        refine ⟨_, rfl, sz 3, fun t5 h5 => ?_⟩
        have s5 := same_upd (o := HO.tup [.str "text", .int 0, .int (k : Nat)]) h5
        have hcl : SeqAt.shaped (.tuple [.str "text", .int 0, .int (k : Nat)]) = true := shaped_text k
        refine ⟨.tuple [.str "text", .int 0, .int (k : Nat)], .tuple [.str "text", .int 0, .int (k : Nat)], .tup (SqT.of (s5 _ _ ht4)) (.cons (.str _) (.cons (.int 0) (.cons (.int _) .nil))), .tup (SqT.of upd_same) (.cons (.str _) (.cons (.int 0) (.cons (.int _) .nil))), hcl, hcl, _, rfl, ?_⟩
        refine ite_of false (by rw [SeqAt.eqv_refl _ (canLay_text k)]; rfl) (iteF ?_)
        refine ⟨d2, d3, d5, some (.int (0 + (j : Nat))), some (.ref p), some (.int (k : Nat)), rfl, ?_, tabs_same t4' s5, s5 _ _ (k4.lst w3 (by simp))⟩
        exact ((g3.kx k4 (by simp) (by simp)).same s5).mono (by omega)
    · rintro σ G1 ⟨d2, d3, d5, d6, d7, d8, rfl, g1, t1, w1⟩
      exact ⟨d2, d3, _, d5, d6, d7, d8, rfl, g1.mono (by omega), t1⟩
  · rintro σ H2 ⟨c2, c3, c4, c5, c6, c7, c8, rfl, p2, T2⟩
    refine ⟨_, rfl, pen, ca, _, rfl, p2, by omega, T2, fun H3 p3 T3 => ⟨_, rfl, iteT ⟨_, rfl, pen, ca, _, rfl, p3, by omega, T3, hQ⟩⟩⟩
end
end Mine

set_option Elab.async false
set_option linter.all false
set_option maxRecDepth 100000
set_option maxHeartbeats 2000000
namespace Mine
open PySem PySem.Spec PyProof.Rows L2
/-- the end of a law that must know what is under way: the caller's own frame -/
theorem law_end {P : Program} {w : World} {K : PySem.W.Frag} {mg mb : Str → Option Value} {fa a : Addr} {cs : List (Addr × Addr)} {s1 : Shared} {vs : List Value} {ns : List Int}
    (kin : K.In s1.heap) (gl : s1.heap.Ns mainGlobals mg) (bt : s1.heap.Ns builtinsNs mb) (bb : ∀ x : Str, x ≠ "__name__" → mb x = bootBuiltins x) (nl : s1.heap.NoLimit) (ge : s1.gens = #[])
    (et : ∀ p ∈ cs, s1.heap.get? p.2 = some { cls := .none, data := .fields #[] }) (nt : ∀ p ∈ cs, K.lookup p.2 = none) (ch : ∀ p ∈ cs, PySem.W.CodeHd s1.heap p.1 p.2)
    (bm : ∃ (m : Addr) (o : Obj), mg "__builtins__" = some (.ref m) ∧ m ≠ builtinsNs ∧ s1.heap.get? m = some o ∧ o.cls = .type "module" ∧ o.dict = some builtinsNs ∧ o.data = .plain)
    (sc : s1.heap.get? a = some { cls := .type "list", data := .seq vs.toArray }) (iv : IntsAre vs ns) (sz : ns.length ≤ sizeLine)
    (F : ∀ (base : Heap) (H : Hp), Env0 P w K mg base callerA [] s1 H → (∀ p ∈ cs, LamX.TabB base mg p.1 p.2) → (∀ p ∈ cs, H p.2 = some (.tbl #[])) → SqL K H a (ns.map V.int) →
      codeAny (model P w) callerA (.call (.ref fa) ⟨[.ref a], []⟩) (CR CX0 [] P w H s1 (fun v _ => v = .bl true) E0) s1) :
    codeAny (model P w) callerA (.call (.ref fa) ⟨[.ref a], []⟩) (fun r s' => r = .ok (.ret (.bool true)) ∧ OldK s1.heap s'.heap ∧ s'.os = s1.os ∧ AllBare s'.gens) s1 := by
  have rel := vals_ints iv
  have len := iv.length
  let Tl : List Addr := cs.map (·.2)
  have ofT : ∀ b ∈ Tl, s1.heap.get? b = some { cls := .none, data := .fields #[] } := fun b hb => by
    obtain ⟨p, hp, rfl⟩ := List.mem_map.mp hb
    exact et p hp
  have inT : ∀ p ∈ cs, p.2 ∈ Tl := fun p hp => List.mem_map.mpr ⟨p, hp, rfl⟩
  have aNo : a ∉ Tl := fun z => by
    have q := ofT a z
    rw [sc] at q
    cases congrArg Obj.data (Option.some.inj q)
  -- what a heap must be
  have main : ∀ H : Hp, (∀ b ∈ Tl, H b = some (.tbl #[])) → (∀ b u, H b = some u → (b ∈ Tl ∧ u = .tbl #[]) ∨ (b = a ∧ K.lookup a = none ∧ ∃ o xs, u = .frz o (.lst xs))) → SqL K H a (ns.map V.int) → HOk P w H s1.heap →
      codeAny (model P w) callerA (.call (.ref fa) ⟨[.ref a], []⟩) (fun r s' => r = .ok (.ret (.bool true)) ∧ OldK s1.heap s'.heap ∧ s'.os = s1.os ∧ AllBare s'.gens) s1 := by
    intro H h1 h2 h3 h4
    have free : ∀ {b : Addr} {o : Obj}, s1.heap.get? b = some o → (∀ xs n, o.data ≠ .seq xs n) → o.data ≠ .fields #[] → H b = none := fun {b o} e d1 d2 => by
      cases q : H b with
      | none => rfl
      | some u =>
        rcases h2 b u q with ⟨ht, _⟩ | ⟨rfl, _, _⟩
        · have z := ofT b ht
          rw [e] at z
          exact absurd (congrArg Obj.data (Option.some.inj z)) d2
        · rw [sc] at e
          exact absurd (congrArg Obj.data (Option.some.inj e)).symm (d1 _ _)
    have freeD : ∀ {b : Addr} {o : Obj} {es : Array DictEntry} {n : Nat}, s1.heap.get? b = some o → o.data = .dict es n → H b = none := fun e d =>
      free e (fun xs n z => by rw [d] at z; cases z) (fun z => by rw [d] at z; cases z)
    have ns1 : ∀ {b : Addr} {m : Str → Option Value}, s1.heap.Ns b m → (hidT s1.heap H).Ns b m := fun ⟨o, es, n, e, d, r⟩ => ⟨o, es, n, hidT_get e (freeD e d), d, r⟩
    have kb : K.In (hidT s1.heap H) := fun b o e => hidT_get (kin b o e) (by
      cases q : H b with
      | none => rfl
      | some u =>
        rcases h2 b u q with ⟨ht, _⟩ | ⟨rfl, z, _⟩
        · obtain ⟨p, hp, rfl⟩ := List.mem_map.mp ht
          rw [nt p hp] at e
          cases e
        · rw [z] at e
          cases e)
    have tb : ∀ p ∈ cs, LamX.TabB (hidT s1.heap H) mg p.1 p.2 := fun p hp => by
      have here := et p hp
      refine ⟨?_, ?_, fun z => ?_⟩
      · obtain ⟨o, us, file, tf, flags, tg, inF, text, tt, w1, w2, w3, w4, w5, w6, w7, w8, w9, w10⟩ := ch p hp
        exact ⟨o, us, file, tf, flags, tg, inF, text, tt, hidT_get w1 (free w1 (fun xs n z => by rw [w3] at z; cases z) fun z => by rw [w3] at z; cases z; simp at w4), w2, w3, w4, w5, w6, w7, w8, w9, w10⟩
      · obtain ⟨m, o, b1, b2, b3, b4, b5, b6⟩ := bm
        refine ⟨m, o, b1, b2, fun q => ?_, fun q => ?_, hidT_get b3 (free b3 (fun xs n z => by rw [b6] at z; cases z) fun z => by rw [b6] at z; cases z), b4, b5, b6⟩
        · obtain ⟨o2, es, n, e, d, _⟩ := gl
          rw [q, e] at b3
          cases b3
          rw [d] at b6
          cases b6
        · rw [q, here] at b3
          cases b3
          cases b6
      · obtain ⟨o2, es, n, e, d, _⟩ := gl
        rw [z, here] at e
        cases e
        cases d
    have e0 : Env0 P w K mg (hidT s1.heap H) callerA [] s1 H :=
      ⟨rfl, ⟨kb, ns1 gl, ⟨mb, ns1 bt, bb⟩, (by obtain ⟨mc, q1, q2⟩ := nl; exact ⟨mc, ns1 q1, q2⟩)⟩, fun b o e => of_hidT e, Nat.le_of_eq (hidT_size _ _), trivial, fun b hb => (by cases (show b ∈ ([] : List Addr) from hb)), h4, .of_eq ge⟩
    refine codeAny_mono (F _ H e0 tb (fun p hp => h1 _ (inT p hp)) h3) fun r s' h => ?_
    cases r with
    | error e => exact (show False from h).elim
    | ok fl =>
      cases fl with
      | next => exact h.elim
      | brk => exact h.elim
      | cont => exact h.elim
      | ret u =>
        obtain ⟨v, H', os, bare, un, ok', rv, q⟩ := h
        subst q
        obtain rfl : u = Value.bool true := rv
        have stay : ∀ b o, b ∉ Tl → s1.heap.get? b = some o → s'.heap.get? b = some o := fun b o nb e => by
          cases q : H b with
          | none => exact un.keep b o e q (fun z => by cases (show b ∈ ([] : List Addr) from z)) (by simp)
          | some u =>
            rcases h2 b u q with ⟨ht, _⟩ | ⟨rfl, _, ob, xs, rfl⟩
            · exact absurd ht nb
            · obtain ⟨g1, _⟩ := h4 _ _ q
              obtain ⟨g2, _⟩ := ok' _ _ (un.frzs _ ob _ q)
              rw [e] at g1
              cases g1
              exact g2
        refine ⟨rfl, ⟨fun b o e => ?_, fun b o e => ?_⟩, os, bare⟩
        · by_cases hb : b ∈ Tl
          · obtain ⟨p, hp, rfl⟩ := List.mem_map.mp hb
            obtain ⟨more, z⟩ := un.tbls p.2 #[] (h1 _ hb)
            rw [et p hp] at e
            cases e
            exact .inr (.inl ⟨((ch p hp).tab (et p hp)).isCodeTable, rfl, #[], more, rfl, ok' p.2 _ z⟩)
          · exact .inl (stay b o hb e)
        · by_cases hb : b ∈ Tl
          · obtain ⟨more, z⟩ := un.tbls b #[] (h1 _ hb)
            exact ⟨_, ok' b _ z⟩
          · exact ⟨o, stay b o hb e⟩
  have okT : ∀ H : Hp, ∀ b ∈ Tl, ObjOk P w H s1.heap b (.tbl #[]) := fun H b hb => ofT b hb
  cases hk : K.lookup a with
  | some o =>
    have e := kin a o hk
    rw [sc] at e
    cases e
    refine main (fun b => if b ∈ Tl then some (.tbl #[]) else none) (fun b hb => if_pos hb) (fun b u e => ?_) (.inr ⟨_, vs.toArray, _, hk, rfl, rfl, rfl, by rw [List.size_toArray, len]; exact sz, by simpa using rel⟩) (fun b u e => ?_)
    · by_cases hb : b ∈ Tl
      · have e2 := (if_pos hb).symm.trans e
        cases e2
        exact .inl ⟨hb, rfl⟩
      · have e2 := (if_neg hb).symm.trans e
        cases e2
    · by_cases hb : b ∈ Tl
      · have e2 := (if_pos hb).symm.trans e
        cases e2
        exact okT _ b hb
      · have e2 := (if_neg hb).symm.trans e
        cases e2
  | none =>
    refine main (fun b => if b = a then some (.frz { cls := .type "list", data := .seq vs.toArray } (.lst (ns.map V.int))) else if b ∈ Tl then some (.tbl #[]) else none) (fun b hb => ?_) (fun b u e => ?_) (.inl (.inr ⟨_, if_pos rfl⟩)) (fun b u e => ?_)
    · have nb : ¬ b = a := fun z => aNo (by rw [← z]; exact hb)
      exact (if_neg nb).trans (if_pos hb)
    · by_cases ha : b = a
      · have e2 := (if_pos ha).symm.trans e
        cases e2
        exact .inr ⟨ha, hk, _, _, rfl⟩
      · have e1 := (if_neg ha).symm.trans e
        by_cases hb : b ∈ Tl
        · have e2 := (if_pos hb).symm.trans e1
          cases e2
          exact .inl ⟨hb, rfl⟩
        · have e2 := (if_neg hb).symm.trans e1
          cases e2
    · by_cases ha : b = a
      · have e2 := (if_pos ha).symm.trans e
        cases e2
        rw [ha]
        exact ⟨sc, by rw [List.length_map]; exact sz, vs, _, rel, sc⟩
      · have e1 := (if_neg ha).symm.trans e
        by_cases hb : b ∈ Tl
        · have e2 := (if_pos hb).symm.trans e1
          cases e2
          exact okT _ b hb
        · have e2 := (if_neg hb).symm.trans e1
          cases e2
end Mine

set_option Elab.async false
set_option linter.all false
set_option maxRecDepth 100000
set_option maxHeartbeats 2000000
namespace Mine
open PySem PySem.W PySem.Calls PyProof.Rows PySem.Spec L2
abbrev iC : Stmt := inClass (top 2) 0
abbrev iT : Stmt := inClass (top 3) 0
theorem inter {env : Env} {S : Scope} (h : env.scope = S) (k : S.kind = .function) : interactive env = false := by
  unfold interactive
  rw [h, k]
  rfl
theorem txtC : ExS (defArgs iC) (defBody iC) (defScope iC) ["path"] := by
  refine ⟨⟨_, _, _, _, _, _, _, _, _, rfl, .cons _ _ _ _ .nil, by decide +kernel, fun env h => ⟨inter h rfl, rfl⟩, fun env => ⟨_, rfl⟩⟩, ⟨_, rfl, rfl⟩, fun s qual cl kV doc pm an cdv ct u us hl => ?_, rfl, ?_, rfl, rfl, ?_, rfl, rfl, rfl, by decide⟩
  · match us, hl with
    | [v], _ => exact .of_eq rfl
  · intro f hf
    rw [List.mem_singleton.mp hf]
    exact ⟨by decide, rfl, rfl⟩
  · decide +kernel
theorem txtT : ExS (defArgs iT) (defBody iT) (defScope iT) ["line", "word"] := by
  refine ⟨⟨_, _, _, _, _, _, _, _, _, rfl, .cons _ _ _ _ (.cons _ _ _ _ .nil), by decide +kernel, fun env h => ⟨inter h rfl, rfl⟩, fun env => ⟨_, rfl⟩⟩, ⟨_, rfl, rfl⟩, fun s qual cl kV doc pm an cdv ct u us hl => ?_, rfl, ?_, rfl, rfl, ?_, rfl, rfl, rfl, by decide⟩
  · match us, hl with
    | [v, v2], _ => exact .of_eq rfl
  · intro f hf
    rcases List.mem_cons.mp hf with e | e
    · rw [e]; exact ⟨by decide, rfl, rfl⟩
    · rw [List.mem_singleton.mp e]; exact ⟨by decide, rfl, rfl⟩
  · decide +kernel
end Mine

set_option Elab.async false
set_option linter.all false
set_option maxRecDepth 100000
set_option maxHeartbeats 0
namespace Mine
open PySem PySem.Spec PyProof.Rows L2
def dG (x : Str) (i : Nat) : He.DefD := ⟨(x, none), x, x, defArgs (top i), defBody (top i), defScope (top i), [], []⟩
def dGd (x : Str) (i : Nat) (ds : List He.Dv) : He.DefD := ⟨(x, none), x, x, defArgs (top i), defBody (top i), defScope (top i), ds, []⟩
def dM (C m q : Str) (i j : Nat) : He.DefD := ⟨(C, some m), m, q, defArgs (inClass (top i) j), defBody (inClass (top i) j), defScope (inClass (top i) j), [], []⟩
def fn : List He.DefD := [
  dG "is_name" 7, dG "fixed" 9, dG "is_shaped" 14, dG "first_wrong" 15, dGd "need_chain" 16 [.non], dG "chain_words" 24, dG "first_stop" 26, dG "write_chain" 27, dG "read_chain" 28,
  dG "_law_pen" 30, dG "_law_draw" 31, dG "_law_pick" 32, dG "_law_heard" 33, dG "_law_chain" 34, dG "_law_words" 35, dG "_law_listed" 36, dG "_law_spoilt" 37, dG "_law_begun" 38, dG "_law_bounds_right" 39, dG "_law_refused" 40, dG "law" 41,
  dM "Nest" "__init__" "Nest.__init__" 25 0, dM "Nest" "is_due" "Nest.is_due" 25 1, dM "Nest" "can_begin" "Nest.can_begin" 25 2, dM "Nest" "add" "Nest.add" 25 3, dM "Nest" "take" "Nest.take" 25 4, dM "Nest" "shut" "Nest.shut" 25 5]
def fa : List He.Fa := ([.free "len", .free "range", .free "isinstance", .free "str", .free "list", .free "tuple", .free "all", .free "int", .free "abs", .free "enumerate", .free "repr", .free "super", .glo "is_name", .glo "fixed", .glo "is_shaped", .glo "first_wrong", .glo "need_chain", .glo "chain_words", .glo "first_stop", .glo "write_chain"] : List He.Fa) ++ ([.glo "read_chain", .glo "_law_pen", .glo "_law_draw", .glo "_law_pick", .glo "_law_heard", .glo "_law_chain", .glo "_law_words", .glo "_law_listed", .glo "_law_spoilt", .glo "_law_begun", .glo "_law_bounds_right", .glo "_law_refused", .glo "law", .glo "Nest", .glo "WORDS", .glo "MOST_PARTS_chain_texts", .glo "SaveError", .glo "BadChain", .glo "BadText", .int "LONGEST" 8] : List He.Fa) ++ ([.int "MOST_CHAINS_chains" 40, .int "MOST_LEVEL" 8, .int "MOST_PARTS_chains" 6, .int "MOST_CHAINS_chain_texts" 40, .int "DEEPEST" 8, .str "LETTERS" "abcdefghijklmnopqrstuvwxyz", .str "OPEN" "(", .str "SHUT" ")", .cls "Nest", .noat "Nest" "nested", .noat "Nest" "whole", .noat "Nest" "many", .mkr "Nest", .meth "Nest" "is_due", .meth "Nest" "can_begin", .meth "Nest" "add", .meth "Nest" "take", .meth "Nest" "shut", .exm "BadChain" "SaveError" true, .exm "BadText" "SaveError" true] : List He.Fa)
def loose : List PySem.Str := (["SaveError", "BadChain", "BadText", "LETTERS", "LONGEST", "is_name", "fixed", "MOST_CHAINS_chains", "MOST_LEVEL", "MOST_PARTS_chains", "is_shaped", "first_wrong", "need_chain", "OPEN", "SHUT"] : List PySem.Str) ++ (["WORDS", "MOST_CHAINS_chain_texts", "DEEPEST", "MOST_PARTS_chain_texts", "chain_words", "Nest", "first_stop", "write_chain", "read_chain", "_law_pen", "_law_draw", "_law_pick", "_law_heard", "_law_chain", "_law_words"] : List PySem.Str) ++ (["_law_listed", "_law_spoilt", "_law_begun", "_law_bounds_right", "_law_refused"] : List PySem.Str)
def tf : List He.Defn := [("law", none), ("_law_bounds_right", none), ("_law_refused", none)]
def tabs : List He.Tab := [(fun K => He.ga K "MOST_PARTS_chain_texts", ["then", "or", "again"])]
def clsB (K : PySem.W.Frag) (C : Addr) : Bool := match K.lookup C with
  | some ⟨.type "type", _, .cls cd, sl⟩ => (match cd.mro, sl.toList with
    | .ref C' :: bm, [_, _, _, _, some (.builtin n), _] => decide (C' = C) && (decide (n = "ValueError.__new__") && (!cd.hasDel && (cd.hasDict && HandSPX.refsVE bm)))
    | _, _ => false)
  | _ => false
def cellB (K : PySem.W.Frag) (c C : Addr) : Bool := match K.lookup c with
  | some ⟨_, _, .cell (some (.ref D)), _⟩ => decide (D = C)
  | _ => false
def fileB (K : PySem.W.Frag) (c : Addr) (z : Str) : Bool := match K.lookup c with
  | some ⟨_, _, .fields vs, _⟩ => (match vs[2]? with
    | some (Value.str file _) => z == file
    | _ => false)
  | _ => false
/-- an __init__ that says super() -/
def iniB (K : PySem.W.Frag) (C f : Addr) (z : Str) : Bool := match K.lookup f with
  | some ⟨_, _, .func fd, _⟩ => (match fd.closure, fd.code with
    | [(x, cc)], .ref cda => decide (x = "__class__") && (decide (fd.defaults = .none) && (cellB K cc C && (PySem.W.codeIn K (.ref cda) fd.qualname && fileB K cda z)))
    | _, _ => false)
  | _ => false
def excB (K : PySem.W.Frag) (x : Str) (fs : List Str) : Bool :=
  clsB K (He.ga K x) && (He.eqO (PySem.W.findIn K (.ref (He.ga K x)) "__setattr__") (some (some (.builtin "object.__setattr__"))) && (He.eqO (PySem.W.findIn K (.ref (He.ga K x)) "__init__") (some (some (.ref (He.ma K (He.ga K x) "__init__")))) &&
  (decide (PySem.W.typeIn K (.ref (He.ma K (He.ga K x) "__init__")) = some (.type "function")) && (fs.all (fun f => He.eqO (PySem.W.findIn K (.ref (He.ga K x)) f) (some none)) && (decide (PySem.W.ks_superIn K (He.ga K x) (He.ga K x) "__init__" = some (some (.builtin "ValueError.__init__"))) &&
  (decide (PySem.W.subIn K (.ref (He.ga K x)) (.type "ValueError") = some true) && (He.eqO (PySem.W.nsIn K cStatics "thirdparty.any") (some none) && (iniB K (He.ga K x) (He.ma K (He.ga K x) "__init__") PP.main.file &&
  (PySem.W.keepIn K (.ref (He.ga K x)) && (decide (PySem.W.subIn K (.ref (He.ga K x)) (.type "BaseException") = some true) && (decide (PySem.W.typeIn K (.ref (He.ga K x)) = some (.type "type")) &&
  ((PySem.W.clsIn K (He.ga K x)).isSome && (He.eqO (PySem.W.findIn K (.ref (He.ga K x)) "__getattribute__") (some (some (.builtin "BaseException.__getattribute__"))) && (He.eqO (PySem.W.findIn K (.ref (He.ga K x)) "__getattr__") (some none) &&
  (PySem.W.hasDictIn K (He.ga K x) && (He.eqO (PySem.W.findIn K (.ref (He.ga K x)) "__class__") (some (some (.builtin "object.__class__"))) && (He.eqO (PySem.W.specialIn K (.builtin "object.__class__") "__get__") (some (some (.builtin "getset_descriptor.__get__"))) &&
  (decide (PySem.W.takesIn K (.builtin "object.__class__") = some true) && decide (PySem.W.mroIn K (He.ga K x) (.type "object") = some true)))))))))))))))))))
def kit (K : PySem.W.Frag) (a : Value) (x : Str) (b : Bool) : Bool := decide (PySem.W.kitOne K a (.ref (He.ga K x)) = some b)
def tabP (K : PySem.W.Frag) (x : Str) : Addr := (He.cT K (x, none)).2
def exB (K : PySem.W.Frag) : Bool := He.tupB K "WORDS" [.str "then", .str "or", .str "again"] && (He.valsB K (He.ga K "MOST_PARTS_chain_texts") [("then", .int 6), ("or", .int 6), ("again", .int 1)] && (excB K "BadChain" ["path"] && (excB K "BadText" ["line", "word"] &&
  (kit K (.ref (He.ga K "BadChain")) "BadChain" true && (kit K (.ref (He.ga K "BadText")) "BadChain" false && (kit K (.ref (He.ga K "BadText")) "BadText" true && (kit K (.type "NoneType") "BadChain" false && (kit K (.type "NoneType") "BadText" false &&
  (decide (tabP K "law" ≠ tabP K "_law_bounds_right") && (decide (tabP K "law" ≠ tabP K "_law_refused") && decide (tabP K "_law_bounds_right" ≠ tabP K "_law_refused")))))))))))
/-! ### the hook, the static names' dict within -/
def asK (g : Addr → Option Obj) : Nat → List Addr
  | 0 => [mainGlobals, cStatics]
  | n + 1 => He.growD g (asK g n)
abbrev ExW : Type := Option (Str × Str × Arguments × FuncBody × Scope × Addr × Addr)
def exW (K : PySem.W.Frag) (x : Str) : ExW := match K.lookup (He.ma K (He.ga K x) "__init__") with
  | some ⟨_, _, .func fd, _⟩ => some (fd.name, fd.qualname, fd.params, fd.body, fd.scope, fd.globals, fd.builtins)
  | _ => none
def exV (q : Str) (i : Nat) : ExW := some ("__init__", q, defArgs (inClass (top i) 0), .stmts (defBody (inClass (top i) 0)), defScope (inClass (top i) 0), mainGlobals, builtinsNs)
def obK (K : PySem.W.Frag) (g : Addr → Option Obj) : (He.AlT × Bool) × (ExW × ExW) := ((He.obsT fa fn tabs K, exB K && He.tabsB g tf K), (exW K "BadChain", exW K "BadText"))
def obH (g : Addr → Option Obj) : (He.AlT × Bool) × (ExW × ExW) := obK (He.frT g (asK g 6)) g
def valH (w : World) : (He.AlT × Bool) × (ExW × ExW) := ((He.valT fn tabs w, true), (exV "BadChain.__init__" 2, exV "BadText.__init__" 3))
structure SaysH (w : World) (h : Heap) (K : PySem.W.Frag) : Prop where
  x : He.SaysX fa fn tabs tf exB w h K
  c : exW K "BadChain" = exV "BadChain.__init__" 2
  t : exW K "BadText" = exV "BadText.__init__" 3
theorem saysH_of {w : World} {h : Heap} (e : obH h.get? = valH w) : SaysH w h (He.frT h.get? (asK h.get? 6)) := by
  unfold obH obK valH at e
  generalize hK : He.frT h.get? (asK h.get? 6) = K at e
  obtain ⟨e1, e2⟩ := Prod.mk.inj e
  obtain ⟨e3, e4⟩ := Prod.mk.inj e1
  obtain ⟨e5, e6⟩ := Prod.mk.inj e2
  rw [Bool.and_eq_true] at e4
  obtain ⟨e7, e8⟩ := e4
  have key : ∀ p ∈ tf, PySem.W.codeHdIn K (He.cT K p).1 (He.cT K p).2 = true ∧ ∃ o, h.get? (He.cT K p).2 = some o ∧ He.emptyTab o = true := fun p hp => by
    have q := List.all_eq_true.mp e8 p hp
    rw [Bool.and_eq_true] at q
    refine ⟨q.1, ?_⟩
    have q2 := q.2
    cases z : h.get? (He.cT K p).2 with
    | none => rw [z] at q2; cases q2
    | some o => rw [z] at q2; exact ⟨o, rfl, q2⟩
  refine ⟨⟨e3, e7, fun p hp => (key p hp).1, fun p hp => ?_, fun p hp => ?_⟩, e5, e6⟩
  · obtain ⟨_, o, q, z⟩ := key p hp
    rw [← hK] at q ⊢
    exact He.frT_none q z
  · obtain ⟨_, o, q, z⟩ := key p hp
    rw [q, He.emptyTab_eq z]
def hk : PySem.W.Hook where
  α := (He.AlT × Bool) × (ExW × ExW)
  obs := fun s => obH s.heap.get?
  val := fun w => valH w
  says := fun w h => ∃ K : PySem.W.Frag, K.In h ∧ SaysH w h K
  of := fun _ _ e => ⟨_, He.frT_in, saysH_of e⟩
  keeps := fun _ _ _ ⟨K, hK, c⟩ k => ⟨K, PySem.W.Frag.In.keeps hK k, ⟨⟨c.x.t, c.x.more, c.x.hd, c.x.out, fun p hp => k _ _ (c.x.empty p hp)⟩, c.c, c.t⟩⟩
abbrev R : PySem.W.OpenRow := PySem.W.OpenLaw.row PySem.Challenge.rw_saveagain_k97_whole_texts_of_chains
def ob (s : PySem.W.SharedT) : (He.AlT × Bool) × (ExW × ExW) := obH (HandSHeadRun.getT s)
theorem ob_eq (s : PySem.W.SharedT) : ob s = hk.obs s.abs := by
  have e : HandSHeadRun.getT s = s.abs.heap.get? := funext fun a => HandSHeadRun.getT_eq s a
  show obH (HandSHeadRun.getT s) = obH s.abs.heap.get?
  rw [e]
end Mine
namespace Mine
open PySem PySem.Spec PyProof.Rows L2
theorem run97 (w : World) : HandSHeadRun.RunEq R (PySem.W.view R.prog [41]) hk ob 6000 loose w :=
  PySem.W.byRow2 "special-get-raises" (P := fun w => HandSHeadRun.RunEq R (PySem.W.view R.prog [41]) hk ob 6000 loose w) (fun w => by intro os; kernel_rfl) (fun w => by intro os; kernel_rfl) w
end Mine

set_option Elab.async false
set_option linter.all false
set_option maxRecDepth 100000
set_option maxHeartbeats 2000000
namespace Mine
open PySem PySem.Spec PyProof.Rows L2
section
variable {P : Program} {w : World} {K : PySem.W.Frag} {h h0 : Heap} {mg : Str → Option Value}
theorem glo (X : K.In h) (G : h.Ns mainGlobals mg) (S : SaysH w h0 K) (i : Nat) {x : Str} (e : fa[i]? = some (.glo x) := by rfl) : mg x = some (.ref (He.ga K x)) := He.glo_ok X G (S.x.t.d.fact i e)
theorem fnt (X : K.In h) (G : h.Ns mainGlobals mg) (S : SaysH w h0 K) (i j k : Nat) {x : Str} (e : fa[i]? = some (.glo x) := by rfl) (e2 : fn[j]? = some (dG x k) := by rfl) : FnT K mg x k := by
  obtain ⟨fd, F⟩ := S.x.t.d.def_ j e2
  exact ⟨_, fd, F, glo X G S i e⟩
theorem mtt (S : SaysH w h0 K) (i j k : Nat) {m q : Str} (e : fa[i]? = some (.meth "Nest" m) := by rfl) (e2 : fn[j]? = some (dM "Nest" m q 25 k) := by rfl) : MtT K (He.ga K "Nest") m q k := by
  obtain ⟨fd, F⟩ := S.x.t.d.def_ j e2
  exact ⟨_, fd, F, He.meth_ok (S.x.t.d.fact i e)⟩
theorem tx_of (X : K.In h) (G : h.Ns mainGlobals mg) (S : SaysH w h0 K) : Tx K mg where
  fr0 := fun x hx => by
    simp only [frees, List.mem_cons, List.not_mem_nil, or_false] at hx
    rcases hx with rfl | rfl | rfl | rfl | rfl | rfl | rfl | rfl | rfl | rfl | rfl | rfl
    · exact He.free_ok X G (S.x.t.d.fact 0 (f := .free "len") rfl)
    · exact He.free_ok X G (S.x.t.d.fact 1 (f := .free "range") rfl)
    · exact He.free_ok X G (S.x.t.d.fact 2 (f := .free "isinstance") rfl)
    · exact He.free_ok X G (S.x.t.d.fact 3 (f := .free "str") rfl)
    · exact He.free_ok X G (S.x.t.d.fact 4 (f := .free "list") rfl)
    · exact He.free_ok X G (S.x.t.d.fact 5 (f := .free "tuple") rfl)
    · exact He.free_ok X G (S.x.t.d.fact 6 (f := .free "all") rfl)
    · exact He.free_ok X G (S.x.t.d.fact 7 (f := .free "int") rfl)
    · exact He.free_ok X G (S.x.t.d.fact 8 (f := .free "abs") rfl)
    · exact He.free_ok X G (S.x.t.d.fact 9 (f := .free "enumerate") rfl)
    · exact He.free_ok X G (S.x.t.d.fact 10 (f := .free "repr") rfl)
    · exact He.free_ok X G (S.x.t.d.fact 11 (f := .free "super") rfl)
  gi0 := fun q hq => by
    simp only [intC, List.mem_cons, List.not_mem_nil, or_false] at hq
    rcases hq with rfl | rfl | rfl | rfl | rfl | rfl
    · exact He.int_ok X G (S.x.t.d.fact 39 (f := .int "LONGEST" 8) rfl)
    · exact He.int_ok X G (S.x.t.d.fact 40 (f := .int "MOST_CHAINS_chains" 40) rfl)
    · exact He.int_ok X G (S.x.t.d.fact 41 (f := .int "MOST_LEVEL" 8) rfl)
    · exact He.int_ok X G (S.x.t.d.fact 42 (f := .int "MOST_PARTS_chains" 6) rfl)
    · exact He.int_ok X G (S.x.t.d.fact 43 (f := .int "MOST_CHAINS_chain_texts" 40) rfl)
    · exact He.int_ok X G (S.x.t.d.fact 44 (f := .int "DEEPEST" 8) rfl)
  gs0 := fun q hq => by
    simp only [strC, List.mem_cons, List.not_mem_nil, or_false] at hq
    rcases hq with rfl | rfl | rfl
    · exact He.str_ok X G (S.x.t.d.fact 45 (f := .str "LETTERS" "abcdefghijklmnopqrstuvwxyz") rfl)
    · exact He.str_ok X G (S.x.t.d.fact 46 (f := .str "OPEN" "(") rfl)
    · exact He.str_ok X G (S.x.t.d.fact 47 (f := .str "SHUT" ")") rfl)
  is_name := fnt X G S 12 0 7
  fixed := fnt X G S 13 1 9
  is_shaped := fnt X G S 14 2 14
  first_wrong := fnt X G S 15 3 15
  need_chain := by
    obtain ⟨fd, F⟩ := S.x.t.d.def_ 4 (d := dGd "need_chain" 16 [.non]) rfl
    exact ⟨_, fd, F, glo X G S 16⟩
  chain_words := fnt X G S 17 5 24
  first_stop := fnt X G S 18 6 26
  write_chain := fnt X G S 19 7 27
  read_chain := fnt X G S 20 8 28
  law_pen := fnt X G S 21 9 30
  law_draw := fnt X G S 22 10 31
  law_pick := fnt X G S 23 11 32
  law_heard := fnt X G S 24 12 33
  law_chain := fnt X G S 25 13 34
  law_words := fnt X G S 26 14 35
  law_listed := fnt X G S 27 15 36
  law_spoilt := fnt X G S 28 16 37
  law_begun := fnt X G S 29 17 38
  law_bounds_right := fnt X G S 30 18 39
  law_refused := fnt X G S 31 19 40
theorem ba2 {a b : Bool} (h : (a && b) = true) : a = true ∧ b = true := by rwa [Bool.and_eq_true] at h
theorem nx_of (X : K.In h) (G : h.Ns mainGlobals mg) (S : SaysH w h0 K) : Nx w K mg (He.ga K "Nest") := by
  obtain ⟨q1, q2⟩ := ba2 (show (_ && _) = true from S.x.more)
  obtain ⟨q2, _⟩ := ba2 q2
  obtain ⟨es, n, kd⟩ := S.x.t.tab 0
  have v : ∀ x i, (x, i) ∈ ([("then", .int 6), ("or", .int 6), ("again", .int 1)] : List (Str × He.Dv)) → KDct K w (He.ga K "MOST_PARTS_chain_texts") x (i.v K) := fun x i hm => by
    obtain ⟨u, e1, e2⟩ := He.valsB_ok q2 hm
    exact ⟨es, n, u, kd.at_, kd.lit, e1, e2⟩
  refine ⟨glo X G S 33, He.cls_ok (S.x.t.d.fact 48 rfl), fun f hf => ?_, ?_, mtt S 53 22 1, mtt S 54 23 2, mtt S 55 24 3, mtt S 56 25 4, mtt S 57 26 5, ⟨_, glo X G S 35, v "then" (.int 6) (by simp), v "or" (.int 6) (by simp), v "again" (.int 1) (by simp)⟩, ⟨_, glo X G S 34, fun H => He.tupB_ok q1 H⟩⟩
  · simp only [List.mem_cons, List.not_mem_nil, or_false] at hf
    rcases hf with rfl | rfl | rfl
    · exact He.noat_ok (S.x.t.d.fact 49 rfl)
    · exact He.noat_ok (S.x.t.d.fact 50 rfl)
    · exact He.noat_ok (S.x.t.d.fact 51 rfl)
  · obtain ⟨fd, F⟩ := S.x.t.d.def_ 21 (d := dM "Nest" "__init__" "Nest.__init__" 25 0) rfl
    exact ⟨_, fd, F, He.mkr_ok (S.x.t.d.fact 52 rfl)⟩
theorem clsB_ok {C : Addr} (q : clsB K C = true) : ∃ nm qn N bs bm sn sub ab col dd k0 k1 k2 k3 k5, K.lookup C = some (excClassObj nm qn C N bs bm true sn sub ab col dd k0 k1 k2 k3 k5 "ValueError.__new__") ∧ HandSPX.refsVE bm = true := by
  unfold clsB at q
  split at q
  · rename_i dd cd sl ho
    split at q
    · rename_i C' bm k0 k1 k2 k3 n k5 hm hs
      obtain ⟨q1, q⟩ := ba2 q
      obtain ⟨q2, q⟩ := ba2 q
      obtain ⟨q3, q⟩ := ba2 q
      obtain ⟨q4, q5⟩ := ba2 q
      obtain ⟨nm, bs, mro, nss, qn, hd, sn, sub, ab, col, del⟩ := cd
      simp only at hm q3 q4
      subst hm
      have eC : C' = C := of_decide_eq_true q1
      have en : n = "ValueError.__new__" := of_decide_eq_true q2
      subst eC en
      refine ⟨nm, qn, nss, bs, bm, sn, sub, ab, col, dd, k0, k1, k2, k3, k5, ?_, q5⟩
      rw [ho]
      have e1 : del = false := by simpa using q3
      rw [e1, q4, ← Array.toArray_toList (xs := sl), hs]
    · cases q
  · cases q
theorem cellB_ok {c C : Addr} (q : cellB K c C = true) : ∃ cl cld csl, K.lookup c = some ⟨cl, cld, .cell (some (.ref C)), csl⟩ := by
  unfold cellB at q
  split at q
  · rename_i cl cld D csl e
    rw [e, of_decide_eq_true q]
    exact ⟨_, _, _, rfl⟩
  · cases q
theorem fileB_ok {c : Addr} {z : Str} (q : fileB K c z = true) : ∃ ccl cdd vs ccs file tf, K.lookup c = some ⟨ccl, cdd, .fields vs, ccs⟩ ∧ vs[2]? = some (.str file tf) ∧ (z == file) = true := by
  unfold fileB at q
  split at q
  · rename_i ccl cdd vs ccs e
    split at q
    · rename_i file tf e2
      exact ⟨ccl, cdd, vs, ccs, file, tf, e, e2, q⟩
    · cases q
  · cases q
theorem exk_of {x q : Str} {i : Nat} {fs : List Str} (eb : excB K x fs = true) (ew : exW K x = exV q i) (txt : ExS (defArgs (inClass (top i) 0)) (defBody (inClass (top i) 0)) (defScope (inClass (top i) 0)) fs) (hm : mg x = some (.ref (He.ga K x))) (hs : mg "super" = none) : Exk PP K mg x (He.ga K x) i 0 fs := by
  unfold excB at eb
  obtain ⟨a1, eb⟩ := ba2 eb
  obtain ⟨a2, eb⟩ := ba2 eb
  obtain ⟨a3, eb⟩ := ba2 eb
  obtain ⟨a4, eb⟩ := ba2 eb
  obtain ⟨a5, eb⟩ := ba2 eb
  obtain ⟨a6, eb⟩ := ba2 eb
  obtain ⟨a7, eb⟩ := ba2 eb
  obtain ⟨a8, eb⟩ := ba2 eb
  obtain ⟨a9, eb⟩ := ba2 eb
  obtain ⟨b1, eb⟩ := ba2 eb
  obtain ⟨b2, eb⟩ := ba2 eb
  obtain ⟨b3, eb⟩ := ba2 eb
  obtain ⟨b4, eb⟩ := ba2 eb
  obtain ⟨b5, eb⟩ := ba2 eb
  obtain ⟨b6, eb⟩ := ba2 eb
  obtain ⟨b7, eb⟩ := ba2 eb
  obtain ⟨b8, eb⟩ := ba2 eb
  obtain ⟨b9, eb⟩ := ba2 eb
  obtain ⟨d1, d2⟩ := ba2 eb
  refine ⟨⟨He.ma K (He.ga K x) "__init__", ⟨?_, He.eqO_ok a2, He.eqO_ok a3, of_decide_eq_true a4, fun f hf => He.eqO_ok (List.all_eq_true.mp a5 f hf), of_decide_eq_true a6, of_decide_eq_true a7, He.eqO_ok a8, hs, ?_, txt, by decide +kernel⟩⟩, hm, b1, of_decide_eq_true b2, of_decide_eq_true b3,
    ⟨b4, He.eqO_ok b5, He.eqO_ok b6, of_decide_eq_true b2, b7, He.eqO_ok b8, He.eqO_ok b9, of_decide_eq_true d1, of_decide_eq_true d2⟩⟩
  · obtain ⟨nm, qn, N, bs, bm, sn, sub, ab, col, dd, k0, k1, k2, k3, k5, e1, e2⟩ := clsB_ok a1
    exact ⟨nm, qn, N, bs, bm, sn, sub, ab, col, dd, k0, k1, k2, k3, k5, e1, e2⟩
  · unfold iniB at a9
    unfold exW exV at ew
    split at a9
    · rename_i oc od fd osl lk
      rw [lk] at ew
      obtain ⟨name, qualname, params, body, scope, globals, closure, defaults, kwdefaults, doc, pyModule, annotations, code, closureTuple, builtins⟩ := fd
      simp only at a9 ew
      split at a9
      · rename_i y cc cda
        obtain ⟨c1, a9⟩ := ba2 a9
        obtain ⟨c2, a9⟩ := ba2 a9
        obtain ⟨c3, a9⟩ := ba2 a9
        obtain ⟨c4, c5⟩ := ba2 a9
        obtain ⟨cl, cld, csl, hc⟩ := cellB_ok c3
        obtain ⟨ccl, cdd, vs, ccs, file, tf, g1, g2, g3⟩ := fileB_ok c5
        simp only [Option.some.injEq, Prod.mk.injEq] at ew
        obtain ⟨rfl, rfl, rfl, rfl, rfl, rfl, rfl⟩ := ew
        have e1 := of_decide_eq_true c1
        have e2 := of_decide_eq_true c2
        subst e1 e2
        exact ⟨oc, od, osl, kwdefaults, doc, pyModule, annotations, closureTuple, cc, cda, _, vs, file, tf, ccl, cl, cdd, cld, ccs, csl, lk, c4, g1, g2, g3, hc⟩
      · cases a9
    · cases a9
theorem tz_of (X : K.In h) (G : h.Ns mainGlobals mg) (S : SaysH w h0 K) : Tz PP K mg (He.ga K "SaveError") (He.ga K "BadChain") (He.ga K "BadText") := by
  obtain ⟨_, q⟩ := ba2 (show (_ && _) = true from S.x.more)
  obtain ⟨_, q⟩ := ba2 q
  obtain ⟨q1, q⟩ := ba2 q
  obtain ⟨q2, q⟩ := ba2 q
  obtain ⟨q3, q⟩ := ba2 q
  obtain ⟨q4, q⟩ := ba2 q
  obtain ⟨q5, q⟩ := ba2 q
  obtain ⟨q6, q⟩ := ba2 q
  obtain ⟨q7, q⟩ := ba2 q
  have hs : mg "super" = none := He.free_ok X G (S.x.t.d.fact 11 (f := .free "super") rfl)
  exact ⟨exk_of q1 S.c txtC (glo X G S 37) hs, exk_of q2 S.t txtT (glo X G S 38) hs, glo X G S 36, of_decide_eq_true q3, of_decide_eq_true q4, of_decide_eq_true q5, of_decide_eq_true q6, of_decide_eq_true q7, He.exm_ok (S.x.t.d.fact 58 rfl), He.exm_ok (S.x.t.d.fact 59 rfl)⟩
theorem fnc_of (X : K.In h) (G : h.Ns mainGlobals mg) (S : SaysH w h0 K) (i j k : Nat) {x : Str} (e : fa[i]? = some (.glo x) := by rfl) (e2 : fn[j]? = some (dG x k) := by rfl) : FnC K mg x k (He.cT K (x, none)).1 := by
  obtain ⟨fd, F⟩ := S.x.t.d.def_ j e2
  obtain ⟨oc, od, dV, kV, doc, pm, an, cdv, ct, osl, rfl, lk, hcd, hD, _⟩ := F.ex
  obtain ⟨c, rfl⟩ := He.codeIn_ref hcd
  have hc : (He.cT K (x, none)).1 = c := He.codeOf_eq lk rfl
  rw [hc]
  rcases hD with ⟨_, rfl⟩ | ⟨z, _⟩
  · exact ⟨_, oc, od, kV, doc, pm, an, ct, osl, glo X G S i e, F.kp, lk, hcd⟩
  · exact absurd rfl z
end
end Mine

set_option Elab.async false
set_option linter.all false
set_option maxRecDepth 100000
set_option maxHeartbeats 0
namespace Mine
open PySem PySem.Spec PyProof.Rows L2
theorem law_walk : PySem.W.WalkO (PySem.W.view R.prog [41]) loose (PySem.W.XL (PySem.W.view R.prog [41]) []) hk.says R.toRowW (HandSHeadRun.topDef R.prog 41) [] (fun f vs => PySem.call f vs) := by
  refine Att.attach_callB (l := PySem.Challenge.rw_saveagain_k97_whole_texts_of_chains) (n := 63) rfl (by kernel_rfl) fun w s0 s1 mg mb fa' o pm cd doc a vs ns G Y ho hd hcd hmg hobj hints hlen hbits hg => ?_
  obtain ⟨K, KX, S⟩ := Y
  have X := tx_of KX G.T.g S
  have N := nx_of KX G.T.g S
  have Z := tz_of KX G.T.g S
  have FL := fnc_of KX G.T.g S 32 20 41 (x := "law")
  have F1 := fnc_of KX G.T.g S 30 18 39 (x := "_law_bounds_right")
  have F2 := fnc_of KX G.T.g S 31 19 40 (x := "_law_refused")
  have hmg' : mg ("law" : Str) = some (.ref fa') := by
    have e : (HandSHeadRun.topDef R.prog 41).name = ("law" : Str) := by kernel_rfl
    rw [← e]
    exact hmg
  obtain ⟨_, q⟩ := ba2 (show (_ && _) = true from S.x.more)
  obtain ⟨_, q⟩ := ba2 q
  obtain ⟨_, q⟩ := ba2 q
  obtain ⟨_, q⟩ := ba2 q
  obtain ⟨_, q⟩ := ba2 q
  obtain ⟨_, q⟩ := ba2 q
  obtain ⟨_, q⟩ := ba2 q
  obtain ⟨_, q⟩ := ba2 q
  obtain ⟨_, q⟩ := ba2 q
  obtain ⟨n1, q⟩ := ba2 q
  obtain ⟨n2, n3⟩ := ba2 q
  have m1 := of_decide_eq_true n1
  have m2 := of_decide_eq_true n2
  have m3 := of_decide_eq_true n3
  obtain ⟨f, oc, od, kV, doc', pm', an, ct, osl, e1, hk1, lk, hcd1⟩ := FL
  rw [hmg'] at e1
  cases e1
  refine law_end (cs := [He.cT K ("law", none), He.cT K ("_law_bounds_right", none), He.cT K ("_law_refused", none)]) KX G.T.g G.T.b G.T.builtins G.T.nolimit hg (fun p hp => ?_) (fun p hp => ?_) (fun p hp => ?_) G.T.bmain hobj hints (Nat.le_trans hlen (by decide)) (fun base H e0 tb hH hS => ?_)
  · simp only [List.mem_cons, List.not_mem_nil, or_false] at hp
    rcases hp with rfl | rfl | rfl
    · exact S.x.empty ("law", none) (by simp [tf])
    · exact S.x.empty ("_law_bounds_right", none) (by simp [tf])
    · exact S.x.empty ("_law_refused", none) (by simp [tf])
  · simp only [List.mem_cons, List.not_mem_nil, or_false] at hp
    rcases hp with rfl | rfl | rfl
    · exact S.x.out ("law", none) (by simp [tf])
    · exact S.x.out ("_law_bounds_right", none) (by simp [tf])
    · exact S.x.out ("_law_refused", none) (by simp [tf])
  · simp only [List.mem_cons, List.not_mem_nil, or_false] at hp
    rcases hp with rfl | rfl | rfl
    · exact PySem.W.codeHd_of_K KX (S.x.hd ("law", none) (by simp [tf]))
    · exact PySem.W.codeHd_of_K KX (S.x.hd ("_law_bounds_right", none) (by simp [tf]))
    · exact PySem.W.codeHd_of_K KX (S.x.hd ("_law_refused", none) (by simp [tf]))
  · refine LamX.run_ofS (k := 20) (N := ["script", "pen", "turn", "chain", "words", "text", "more", "spoilt", "due"]) (ps := ["script"]) (us := [.ref a]) (vs := [.ref a]) lk hcd1 S_law ⟨rfl, by decide, by decide⟩ e0 (.of_eq rfl) (.cons rfl .nil) rfl fun hr => ?_
    refine law_body (Q := fun v _ => v = .bl true) (Tb := [((He.cT K ("law", none)).2, "law.<locals>.<lambda>"), ((He.cT K ("_law_bounds_right", none)).2, "_law_bounds_right.<locals>.<lambda>"), ((He.cT K ("_law_refused", none)).2, "_law_refused.<locals>.<lambda>")]) X N Z (tb _ (by simp)) ⟨by simp, fun p hp e => ?_⟩ F1 (tb _ (by simp)) ⟨by simp, fun p hp e => ?_⟩ F2 (tb _ (by simp)) ⟨by simp, fun p hp e => ?_⟩ rfl hr hS (fun p hp => ?_) (fun _ => rfl)
    · simp only [List.mem_cons, List.not_mem_nil, or_false] at hp
      rcases hp with rfl | rfl | rfl
      · rfl
      · exact absurd e.symm m1
      · exact absurd e.symm m2
    · simp only [List.mem_cons, List.not_mem_nil, or_false] at hp
      rcases hp with rfl | rfl | rfl
      · exact absurd e m1
      · rfl
      · exact absurd e.symm m3
    · simp only [List.mem_cons, List.not_mem_nil, or_false] at hp
      rcases hp with rfl | rfl | rfl
      · exact absurd e m2
      · exact absurd e m3
      · rfl
    · simp only [List.mem_cons, List.not_mem_nil, or_false] at hp
      rcases hp with rfl | rfl | rfl
      · exact LamX.TabS.nil (hH _ (by simp))
      · exact LamX.TabS.nil (hH _ (by simp))
      · exact LamX.TabS.nil (hH _ (by simp))
end Mine


open PySem PySem.W PySem.Calls PyProof.Rows
theorem PySem.Challenge.cw_saveagain_k97_whole_texts_of_chains_holds : PySem.Challenge.rw_saveagain_k97_whole_texts_of_chains.Holds := by
  w_on; o_law
  refine HandSHeadRun.head_any (r := OpenLaw.row PySem.Challenge.rw_saveagain_k97_whole_texts_of_chains) (q := view (OpenLaw.row PySem.Challenge.rw_saveagain_k97_whole_texts_of_chains).prog [41]) (H := Mine.hk) (ob := Mine.ob) (M := 6000) (loose := Mine.loose) (d := HandSHeadRun.topDef (OpenLaw.row PySem.Challenge.rw_saveagain_k97_whole_texts_of_chains).prog 41) (kwd := []) Mine.ob_eq
    (by kernel_rfl) (fun s => by kernel_rfl) Mine.run97 (by kernel_rfl) (by kernel_rfl) (by kernel_rfl) (by rfl) (by first | assumption | decide +kernel) (by decide +kernel) ⟨rfl, rfl, rfl, rfl, rfl, by decide +kernel⟩ ?hw ?hc
  case hw => w_witness2
  case hc => exact Mine.law_walk
