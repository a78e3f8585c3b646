import PyProof.Rows.All
import Wide.All
import OpenK.AllK
import Wide.FinOn
import HandS.ForMost
import HandS.Defaults
import HandS.MakeKwOnly
import HandS.Zip
import HandS.Style
import HandS.Strs
import HandS.SetBool
import HandS.IsInst
import HandS.Flow
import KE.KUnpackStar
import PySem.Challenge.RW_anystore_k61_whole_words_once_in_order
set_option Elab.async false
set_option maxRecDepth 100000
set_option maxHeartbeats 4000000
/-! A way between two ends: its store, a beat, what is plain, what is under way; plain Lean. -/
namespace Wy
structure S where
  mark : Nat
  bears : Bool
  slot : Option Int
  letters : List (Nat × Option Int)
  last : Nat
  took : Bool
  box : Option Int
  echoes : List (Nat × Bool)
/-- the word that the letter of the mark bears -/
def S.word (s : S) : Option Int := if s.bears then s.slot else none
/-- an echo of the mark comes -/
def S.adv (s : S) : Bool := match s.echoes with | [] => false | e :: _ => e.1 == s.mark
/-- .. and ends a round that bore a word which was taken -/
def S.over (s : S) : Bool := match s.echoes with | [] => false | e :: _ => e.1 == s.mark && s.bears && e.2
/-- a letter of another mark comes -/
def S.fresh (s : S) : Bool := match s.letters with | [] => false | l :: _ => l.1 != s.last
/-- .. and its word is taken -/
def S.takes (s : S) : Bool := match s.letters with | [] => false | l :: _ => l.1 != s.last && (l.2.isSome && s.box.isNone)
def S.first (s : S) : Option Int := match s.letters with | [] => none | l :: _ => l.2
def nMark (h : Nat) (s : S) : Nat := if s.adv then (s.mark + 1) % (2 * h + 1) else s.mark
def nBears (s : S) : Bool := if s.over then false else if s.adv then s.slot.isSome else s.bears
def nSlot (s : S) (w : Option Int) : Option Int := if s.slot.isNone && w.isSome then w else if s.over then none else s.slot
def nLast (s : S) : Nat := match s.letters with | [] => s.last | l :: _ => l.1
def nTook (s : S) : Bool := if s.fresh then s.takes else s.took
def nBox (s : S) (t : Bool) : Option Int := if t && s.box.isSome then none else if s.takes then s.first else s.box
def nEcho (s : S) : List (Nat × Bool) := match s.letters with | [] => [] | _ :: _ => [(nLast s, nTook s)]
/-- a beat -/
def beat (h : Nat) (s : S) (w : Option Int) (t : Bool) (lost : Bool × Bool) : S :=
  { mark := nMark h s, bears := nBears s, slot := nSlot s w, letters := s.letters.tail ++ (if lost.1 then [] else [(s.mark, s.word)]),
    last := nLast s, took := nTook s, box := nBox s t, echoes := s.echoes.tail ++ (if lost.2 then [] else nEcho s) }
/-- what a beat puts, what it hands out -/
def puts (s : S) (w : Option Int) : Bool := s.slot.isNone && w.isSome
def gives (s : S) (t : Bool) : Option Int := if t then s.box else none
/-- how many would be lost one behind another -/
def loses (s : S) (fl fe : Nat) (lost : Bool × Bool) : Nat × Nat := (if lost.1 then fl + 1 else 0, if s.letters.isEmpty then fe else if lost.2 then fe + 1 else 0)
def ahead (h m : Nat) : Nat := (m + 2 * h) % (2 * h + 1)
def S.isOver (s : S) : Bool := s.bears && s.took && s.last == s.mark
/-- the words under way -/
def uw (s : S) : List Int := s.box.toList ++ (if s.isOver then [] else s.slot.toList)
structure Plain (h : Nat) (s : S) : Prop where
  mok : s.mark ≤ 2 * h
  bs : s.bears = true → s.slot.isSome = true
  la : s.last = s.mark ∨ s.last = ahead h s.mark
  lt : ∃ X Y, s.letters = X ++ Y ∧ (∀ x ∈ X, x.1 = ahead h s.mark) ∧ (∀ y ∈ Y, y = (s.mark, s.word)) ∧ (s.last = s.mark → X = [])
  ec : ∃ X Y, s.echoes = X ++ Y ∧ (∀ x ∈ X, x.1 = ahead h s.mark) ∧ (∀ y ∈ Y, y = (s.mark, s.took)) ∧ (s.last ≠ s.mark → Y = [])
theorem ahead_ne {h m : Nat} (hh : 1 ≤ h) (hm : m ≤ 2 * h) : ahead h m ≠ m := by
  unfold ahead
  intro e
  by_cases z : m = 0
  · subst z
    rw [Nat.mod_eq_of_lt (by omega)] at e
    omega
  · rw [show m + 2 * h = (m - 1) + (2 * h + 1) by omega, Nat.add_mod_right, Nat.mod_eq_of_lt (by omega)] at e
    omega
theorem ahead_le {h m : Nat} : ahead h m ≤ 2 * h := by
  unfold ahead
  have := Nat.mod_lt (m + 2 * h) (show 0 < 2 * h + 1 by omega)
  omega
theorem ahead_next {h m : Nat} (hm : m ≤ 2 * h) : ahead h ((m + 1) % (2 * h + 1)) = m := by
  unfold ahead
  by_cases z : m = 2 * h
  · subst z
    rw [Nat.mod_self, Nat.zero_add, Nat.mod_eq_of_lt (by omega)]
  · rw [Nat.mod_eq_of_lt (show m + 1 < 2 * h + 1 by omega), show m + 1 + 2 * h = m + (2 * h + 1) by omega, Nat.add_mod_right, Nat.mod_eq_of_lt (by omega)]
theorem next_le {h m : Nat} : (m + 1) % (2 * h + 1) ≤ 2 * h := by
  have := Nat.mod_lt (m + 1) (show 0 < 2 * h + 1 by omega)
  omega
theorem adv_cases {s : S} (h : s.adv = true) : ∃ e r, s.echoes = e :: r ∧ e.1 = s.mark := by
  unfold S.adv at h
  cases q : s.echoes with
  | nil => rw [q] at h; cases h
  | cons e r =>
    rw [q] at h
    exact ⟨e, r, rfl, by simpa using h⟩
theorem over_adv {s : S} (h : s.adv = false) : s.over = false := by
  unfold S.adv at h
  unfold S.over
  cases q : s.echoes with
  | nil => rfl
  | cons e r =>
    rw [q] at h
    simp only at h ⊢
    rw [h]; rfl
/-- behind the first echo, where it is not of the mark -/
theorem tail_seq {s : S} {X Y : List (Nat × Bool)} (h : s.adv = false) (e : s.echoes = X ++ Y) (hy : ∀ y ∈ Y, y.1 = s.mark) : ∃ X', s.echoes.tail = X' ++ Y ∧ ∀ x ∈ X', x ∈ X := by
  cases X with
  | nil =>
    cases Y with
    | nil => exact ⟨[], by rw [e]; rfl, fun _ z => nomatch z⟩
    | cons y r =>
      have : s.adv = true := by
        unfold S.adv
        rw [e]
        simp [hy y List.mem_cons_self]
      rw [h] at this; cases this
  | cons x r => exact ⟨r, by rw [e]; rfl, fun z hz => List.mem_cons_of_mem _ hz⟩
theorem plain_adv {h : Nat} {s : S} (hh : 1 ≤ h) (p : Plain h s) (a : s.adv = true) :
    s.last = s.mark ∧ (∀ l ∈ s.letters, l = (s.mark, s.word)) ∧ (∀ e ∈ s.echoes, e = (s.mark, s.took)) ∧ s.over = (s.bears && s.took) := by
  obtain ⟨e, r, er, e1⟩ := adv_cases a
  obtain ⟨X1, Y1, q, x1, y1, z1⟩ := p.ec
  have x0 : X1 = [] := by
    cases X1 with
    | nil => rfl
    | cons x X =>
      rw [er] at q
      simp only [List.cons_append, List.cons.injEq] at q
      have := x1 x List.mem_cons_self
      rw [← q.1, e1] at this
      exact absurd this.symm (ahead_ne hh p.mok)
  subst x0
  rw [List.nil_append] at q
  have hl : s.last = s.mark := by
    apply Classical.byContradiction
    intro n
    rw [z1 n, er] at q
    cases q
  obtain ⟨X, Y, ql, x2, y2, z2⟩ := p.lt
  rw [z2 hl, List.nil_append] at ql
  have ee : e = (s.mark, s.took) := y1 e (by rw [← q, er]; exact List.mem_cons_self)
  refine ⟨hl, fun l hm => y2 l (by rw [← ql]; exact hm), fun e hm => y1 e (by rw [← q]; exact hm), ?_⟩
  unfold S.over
  rw [er, ee]
  simp
theorem last_of_all {s : S} {m : Nat} (hl : s.last = m) (ha : ∀ l ∈ s.letters, l.1 = m) : nLast s = m ∧ s.fresh = false ∧ s.takes = false := by
  unfold nLast S.fresh S.takes
  cases q : s.letters with
  | nil => exact ⟨hl, rfl, rfl⟩
  | cons l r =>
    have := ha l (by rw [q]; exact List.mem_cons_self)
    simp only [this, hl, bne_self_eq_false, Bool.false_and, and_self]
theorem mem_opt {α : Type} {b : Bool} {a x : α} (h : x ∈ (if b = true then [] else [a])) : x = a := by
  cases b with
  | true => cases h
  | false => simpa using h
theorem nEcho_cases (s : S) : nEcho s = [] ∨ nEcho s = [(nLast s, nTook s)] := by
  unfold nEcho
  cases s.letters with
  | nil => exact .inl rfl
  | cons l r => exact .inr rfl
theorem bears_next {s : S} {w : Option Int} (bs : s.bears = true → s.slot.isSome = true) (b : nBears s = true) : nSlot s w = s.slot ∧ s.slot.isSome = true ∧ s.over = false := by
  unfold nBears at b
  by_cases o : s.over = true
  · rw [if_pos o] at b; cases b
  · have o' : s.over = false := by simpa using o
    have hs : s.slot.isSome = true := by
      rw [if_neg o] at b
      by_cases a : s.adv = true
      · rwa [if_pos a] at b
      · rw [if_neg a] at b; exact bs b
    refine ⟨?_, hs, o'⟩
    unfold nSlot
    cases q : s.slot with
    | none => rw [q] at hs; cases hs
    | some x => simp [o']
theorem plain_beat {h : Nat} {s : S} {w : Option Int} {t : Bool} {lost : Bool × Bool} (hh : 1 ≤ h) (p : Plain h s) : Plain h (beat h s w t lost) := by
  by_cases a : s.adv = true
  · obtain ⟨hl, hL, hE, ho⟩ := plain_adv hh p a
    obtain ⟨n1, n2, n3⟩ := last_of_all hl fun l hm => by rw [hL l hm]
    have em : nMark h s = (s.mark + 1) % (2 * h + 1) := by unfold nMark; rw [if_pos a]
    have ea : ahead h (nMark h s) = s.mark := by rw [em]; exact ahead_next p.mok
    have ne : s.mark ≠ nMark h s := by
      intro z
      have := ahead_ne hh (show nMark h s ≤ 2 * h by rw [em]; exact next_le)
      rw [ea] at this
      exact this z
    refine ⟨?_, fun b => ?_, .inr ?_, ⟨_, [], (List.append_nil _).symm, ?_, (fun _ z => by cases z), fun z => ?_⟩, ⟨_, [], (List.append_nil _).symm, ?_, (fun _ z => by cases z), fun _ => rfl⟩⟩
    · show nMark h s ≤ 2 * h
      rw [em]; exact next_le
    · obtain ⟨e1, e2, _⟩ := bears_next (w := w) p.bs b
      show (nSlot s w).isSome = true
      rw [e1]; exact e2
    · show nLast s = ahead h (nMark h s)
      rw [ea, n1]
    · show ∀ x ∈ s.letters.tail ++ (if lost.1 then [] else [(s.mark, s.word)]), x.1 = ahead h (nMark h s)
      intro x hx
      rw [ea]
      rcases List.mem_append.mp hx with hx | hx
      · rw [hL x (List.mem_of_mem_tail hx)]
      · rw [mem_opt hx]
    · exact absurd (show s.mark = nMark h s by rw [← n1]; exact z) ne
    · show ∀ x ∈ s.echoes.tail ++ (if lost.2 then [] else nEcho s), x.1 = ahead h (nMark h s)
      intro x hx
      rw [ea]
      rcases List.mem_append.mp hx with hx | hx
      · rw [hE x (List.mem_of_mem_tail hx)]
      · rcases nEcho_cases s with q | q
        · rw [q, ite_self] at hx
          cases hx
        · rw [q] at hx
          rw [mem_opt hx]
          exact n1
  · have a' : s.adv = false := by simpa using a
    have o' := over_adv a'
    have em : nMark h s = s.mark := by unfold nMark; rw [if_neg a]
    have eb : nBears s = s.bears := by unfold nBears; rw [o', if_neg a]; rfl
    have ew : (beat h s w t lost).word = s.word := by
      show (if nBears s then nSlot s w else none) = (if s.bears then s.slot else none)
      rw [eb]
      by_cases b : s.bears = true
      · rw [if_pos b, if_pos b]
        exact (bears_next (w := w) p.bs (eb.trans b)).1
      · rw [if_neg b, if_neg b]
    obtain ⟨X, Y, ql, x2, y2, z2⟩ := p.lt
    obtain ⟨X1, Y1, qe, x1, y1, z1⟩ := p.ec
    obtain ⟨X1', qt, xs⟩ := tail_seq a' qe fun y hy => by rw [y1 y hy]
    have bs' : (beat h s w t lost).bears = true → (beat h s w t lost).slot.isSome = true := fun b => by
      obtain ⟨e1, e2, _⟩ := bears_next (w := w) p.bs b
      show (nSlot s w).isSome = true
      rw [e1]; exact e2
    have ne := ahead_ne hh p.mok
    cases X with
    | nil =>
      rw [List.nil_append] at ql
      cases Y with
      | nil =>
        -- no letter comes
        have n1 : nLast s = s.last := by unfold nLast; rw [ql]
        have n2 : nTook s = s.took := by unfold nTook S.fresh; rw [ql]; rfl
        have n3 : nEcho s = [] := by unfold nEcho; rw [ql]
        refine ⟨by show nMark h s ≤ 2 * h; rw [em]; exact p.mok, bs', ?_, ⟨[], _, (List.nil_append _).symm, fun _ z => (by cases z), ?_, fun _ => rfl⟩, ⟨X1', Y1, ?_, ?_, ?_, ?_⟩⟩
        · show nLast s = nMark h s ∨ nLast s = ahead h (nMark h s)
          rw [em, n1]; exact p.la
        · show ∀ y ∈ s.letters.tail ++ (if lost.1 then [] else [(s.mark, s.word)]), y = (nMark h s, (beat h s w t lost).word)
          rw [ew, em, ql]
          intro y hy
          exact mem_opt hy
        · show s.echoes.tail ++ (if lost.2 then [] else nEcho s) = X1' ++ Y1
          rw [n3, qt]; simp
        · show ∀ x ∈ X1', x.1 = ahead h (nMark h s)
          rw [em]; exact fun x hx => x1 x (xs x hx)
        · show ∀ y ∈ Y1, y = (nMark h s, nTook s)
          rw [em, n2]; exact y1
        · show nLast s ≠ nMark h s → Y1 = []
          rw [em, n1]; exact z1
      | cons l r =>
        -- a letter of the mark comes
        have el : l = (s.mark, s.word) := y2 l List.mem_cons_self
        have n1 : nLast s = s.mark := by unfold nLast; rw [ql, el]
        have n3 : nEcho s = [(s.mark, nTook s)] := by unfold nEcho; rw [ql, n1]
        refine ⟨by show nMark h s ≤ 2 * h; rw [em]; exact p.mok, bs', ?_, ⟨[], _, (List.nil_append _).symm, fun _ z => (by cases z), ?_, fun _ => rfl⟩, ⟨X1', Y1 ++ (if lost.2 then [] else nEcho s), ?_, ?_, ?_, ?_⟩⟩
        · show nLast s = nMark h s ∨ nLast s = ahead h (nMark h s)
          rw [em, n1]; exact .inl rfl
        · show ∀ y ∈ s.letters.tail ++ (if lost.1 then [] else [(s.mark, s.word)]), y = (nMark h s, (beat h s w t lost).word)
          rw [ew, em, ql]
          intro y hy
          rcases List.mem_append.mp hy with hy | hy
          · exact y2 y (List.mem_cons_of_mem _ hy)
          · exact mem_opt hy
        · show s.echoes.tail ++ (if lost.2 then [] else nEcho s) = X1' ++ (Y1 ++ (if lost.2 then [] else nEcho s))
          rw [qt, List.append_assoc]
        · show ∀ x ∈ X1', x.1 = ahead h (nMark h s)
          rw [em]; exact fun x hx => x1 x (xs x hx)
        · show ∀ y ∈ Y1 ++ (if lost.2 then [] else nEcho s), y = (nMark h s, nTook s)
          rw [em, n3]
          intro y hy
          rcases List.mem_append.mp hy with hy | hy
          · have hlast : s.last = s.mark := by
              apply Classical.byContradiction
              intro n
              rw [z1 n] at hy
              cases hy
            have n2 : nTook s = s.took := by
              unfold nTook S.fresh
              rw [ql, el, hlast]; simp
            rw [n2]; exact y1 y hy
          · exact mem_opt hy
        · show nLast s ≠ nMark h s → _
          rw [em, n1]
          exact fun z => absurd rfl z
    | cons x X' =>
      -- a letter of the mark ahead comes
      have hlast : s.last ≠ s.mark := fun z => by have := z2 z; cases this
      have ha : s.last = ahead h s.mark := p.la.resolve_left hlast
      have ex : x.1 = ahead h s.mark := x2 x List.mem_cons_self
      have n1 : nLast s = s.last := by unfold nLast; rw [ql]; exact ex.trans ha.symm
      have n2 : nTook s = s.took := by
        unfold nTook S.fresh
        rw [ql]
        simp [ex, ha]
      have n3 : nEcho s = [(s.last, s.took)] := by unfold nEcho; rw [ql, n1, n2]; rfl
      have y0 := z1 hlast
      subst y0
      refine ⟨by show nMark h s ≤ 2 * h; rw [em]; exact p.mok, bs', ?_, ⟨X', Y ++ (if lost.1 then [] else [(s.mark, s.word)]), ?_, ?_, ?_, ?_⟩, ⟨X1' ++ (if lost.2 then [] else nEcho s), [], ?_, ?_, (fun _ z => by cases z), fun _ => rfl⟩⟩
      · show nLast s = nMark h s ∨ nLast s = ahead h (nMark h s)
        rw [em, n1]; exact p.la
      · show s.letters.tail ++ (if lost.1 then [] else [(s.mark, s.word)]) = X' ++ (Y ++ (if lost.1 then [] else [(s.mark, s.word)]))
        rw [ql, List.cons_append, List.tail_cons, List.append_assoc]
      · show ∀ x ∈ X', x.1 = ahead h (nMark h s)
        rw [em]; exact fun z hz => x2 z (List.mem_cons_of_mem _ hz)
      · show ∀ y ∈ Y ++ (if lost.1 then [] else [(s.mark, s.word)]), y = (nMark h s, (beat h s w t lost).word)
        rw [ew, em]
        intro y hy
        rcases List.mem_append.mp hy with hy | hy
        · exact y2 y hy
        · exact mem_opt hy
      · show nLast s = nMark h s → X' = []
        rw [em, n1]; exact fun z => absurd z hlast
      · show s.echoes.tail ++ (if lost.2 then [] else nEcho s) = X1' ++ (if lost.2 then [] else nEcho s) ++ []
        rw [qt]; simp
      · show ∀ x ∈ X1' ++ (if lost.2 then [] else nEcho s), x.1 = ahead h (nMark h s)
        rw [em, n3]
        intro y hy
        rcases List.mem_append.mp hy with hy | hy
        · exact x1 y (xs y hy)
        · rw [mem_opt hy]; exact ha
/-! ### nothing is lost, nothing comes twice -/
theorem uw_beat {h : Nat} {s : S} {w : Option Int} {t : Bool} {lost : Bool × Bool} (hh : 1 ≤ h) (p : Plain h s) :
    uw s ++ (if puts s w then w.toList else []) = (gives s t).toList ++ uw (beat h s w t lost) := by
  have key : uw s ++ (if puts s w then w.toList else []) = s.box.toList ++ ((if s.isOver then [] else s.slot.toList) ++ (if puts s w then w.toList else [])) := by
    unfold uw; rw [List.append_assoc]
  have ne := ahead_ne hh p.mok
  by_cases a : s.adv = true
  · obtain ⟨hl, hL, hE, ho⟩ := plain_adv hh p a
    obtain ⟨n1, n2, n3⟩ := last_of_all hl fun l hm => by rw [hL l hm]
    have em : nMark h s = (s.mark + 1) % (2 * h + 1) := by unfold nMark; rw [if_pos a]
    have hne : s.mark ≠ nMark h s := by
      intro z
      have q := ahead_ne hh (show nMark h s ≤ 2 * h by rw [em]; exact next_le)
      rw [em, ahead_next p.mok, ← em] at q
      exact q z
    have io : s.isOver = (s.bears && s.took) := by unfold S.isOver; rw [hl]; simp
    have io' : (beat h s w t lost).isOver = false := by
      show (nBears s && nTook s && nLast s == nMark h s) = false
      rw [n1]
      have : (s.mark == nMark h s) = false := by simpa using hne
      rw [this, Bool.and_false]
    rw [key]
    unfold uw
    rw [io', io, ← ho]
    show _ = (if t then s.box else none).toList ++ ((nBox s t).toList ++ (nSlot s w).toList)
    unfold nBox nSlot puts
    rw [n3]
    have bs := p.bs
    have ov : s.over = true → s.slot.isSome = true := fun z => bs (by rw [ho] at z; simp at z; exact z.1)
    cases hs : s.slot with
    | none =>
      have o' : s.over = false := by
        cases q : s.over with
        | false => rfl
        | true => have := ov q; rw [hs] at this; cases this
      rw [o']
      cases t <;> cases s.box <;> cases w <;> simp
    | some x => cases t <;> cases s.box <;> cases w <;> cases s.over <;> simp
  · have a' : s.adv = false := by simpa using a
    have o' := over_adv a'
    have em : nMark h s = s.mark := by unfold nMark; rw [if_neg a]
    have eb : nBears s = s.bears := by unfold nBears; rw [o', if_neg a]; rfl
    obtain ⟨X, Y, ql, x2, y2, z2⟩ := p.lt
    rw [key]
    unfold uw
    have io' : (beat h s w t lost).isOver = (s.bears && nTook s && nLast s == s.mark) := by
      show (nBears s && nTook s && nLast s == nMark h s) = _
      rw [em, eb]
    rw [io']
    show _ = (if t then s.box else none).toList ++ ((nBox s t).toList ++ (if (s.bears && nTook s && nLast s == s.mark) then [] else (nSlot s w).toList))
    have bs := p.bs
    have same : (nLast s = s.last ∧ nTook s = s.took ∧ s.takes = false) ∨ (s.last ≠ s.mark ∧ nLast s = s.mark ∧ nTook s = (s.word.isSome && s.box.isNone) ∧ s.takes = (s.word.isSome && s.box.isNone) ∧ s.first = s.word) := by
      cases X with
      | nil =>
        rw [List.nil_append] at ql
        cases Y with
        | nil => left; unfold nLast nTook S.fresh S.takes; rw [ql]; exact ⟨rfl, rfl, rfl⟩
        | cons l r =>
          have el : l = (s.mark, s.word) := y2 l List.mem_cons_self
          by_cases hl : s.last = s.mark
          · left; unfold nLast nTook S.fresh S.takes; rw [ql, el, hl]; simp
          · right
            have hb : (s.mark != s.last) = true := by simpa using fun z : s.mark = s.last => hl z.symm
            refine ⟨hl, ?_, ?_, ?_, ?_⟩
            · unfold nLast; rw [ql, el]
            · unfold nTook S.fresh S.takes; rw [ql, el]; simp [hb]
            · unfold S.takes; rw [ql, el]; simp [hb]
            · unfold S.first; rw [ql, el]
      | cons x r =>
        have hl : s.last ≠ s.mark := fun z => by have := z2 z; cases this
        have ex : x.1 = s.last := (x2 x List.mem_cons_self).trans (p.la.resolve_left hl).symm
        left; unfold nLast nTook S.fresh S.takes; rw [ql]; simp [ex]
    unfold nBox nSlot puts S.isOver
    rw [o']
    rcases same with ⟨e1, e2, e3⟩ | ⟨e0, e1, e2, e3, e4⟩
    · rw [e1, e2, e3]
      cases hs : s.slot with
      | none =>
        have hb : s.bears = false := by
          cases q : s.bears with
          | false => rfl
          | true => have := bs q; rw [hs] at this; cases this
        rw [hb]
        cases t <;> cases s.box <;> cases w <;> simp
      | some x => cases t <;> cases s.box <;> cases w <;> simp
    · rw [e1, e2, e3, e4]
      have hl : (s.last == s.mark) = false := by simpa using e0
      rw [hl]
      unfold S.word
      cases hs : s.slot with
      | none =>
        have hb : s.bears = false := by
          cases q : s.bears with
          | false => rfl
          | true => have := bs q; rw [hs] at this; cases this
        rw [hb]
        cases t <;> cases s.box <;> cases w <;> simp
      | some x => cases t <;> cases s.box <;> cases w <;> cases s.bears <;> simp
end Wy
namespace Wy
/-! ### how soon a round ends -/
/-- at most how many beats till an echo of the mark is surely sent: x letters of other marks, then y of the mark; fl, fe: lost last; g: the gap -/
def need (g x fe : Nat) : Nat := if x = 0 then g - fe else g
def wait (g k fl : Nat) : Nat := if k = 0 then 0 else (g - fl) + (k - 1) * g + 1
/-- n bounds it -/
def Till (g x y fl fe n : Nat) : Prop := x + need g x fe ≤ n ∧ wait g (need g x fe - y) fl ≤ n
/-- in a round: the letters of the mark stand last, so do the echoes, and where one is, all behind is of the mark -/
structure Tidy (h : Nat) (s : S) (X Y : List (Nat × Option Int)) (X' Y' : List (Nat × Bool)) : Prop where
  mok : s.mark ≤ 2 * h
  el : s.letters = X ++ Y
  ee : s.echoes = X' ++ Y'
  x : ∀ l ∈ X, l.1 ≠ s.mark
  y : ∀ l ∈ Y, l.1 = s.mark
  x' : ∀ e ∈ X', e.1 ≠ s.mark
  y' : ∀ e ∈ Y', e.1 = s.mark
  z : Y' ≠ [] → s.last = s.mark ∧ X = []
def Due (h g : Nat) (s : S) (fl fe n : Nat) : Prop := ∃ X Y X' Y', Tidy h s X Y X' Y' ∧
  ((Y' ≠ [] ∧ X'.length + 1 ≤ n) ∨ (Y' = [] ∧ h ≤ n ∧ Till g X.length Y.length fl fe (n - h)))
theorem till_x {g x y fl fe fl' fe' i n : Nat} (hg : 1 ≤ g ∧ g ≤ 4) (hfl : fl < g) (hfl' : fl' < g) (hfe' : fe' < g) (hi : (fl' = fl + 1 ∧ i = 0) ∨ (fl' = 0 ∧ i = 1)) (t : Till g (x + 1) y fl fe (n + 1)) : Till g x (y + i) fl' fe' n := by
  unfold Till need wait at *
  have hg : g = 1 ∨ g = 2 ∨ g = 3 ∨ g = 4 := by omega
  rw [if_neg (Nat.succ_ne_zero x)] at t
  rcases hg with rfl | rfl | rfl | rfl <;> (obtain ⟨t1, t2⟩ := t; constructor <;> (repeat' split at *) <;> omega)
theorem till_y {g y fl fe fl' i n : Nat} (hg : 1 ≤ g ∧ g ≤ 4) (hfl : fl < g) (hfl' : fl' < g) (hfe' : fe + 1 < g) (hi : (fl' = fl + 1 ∧ i = 0) ∨ (fl' = 0 ∧ i = 1)) (t : Till g 0 (y + 1) fl fe (n + 1)) : Till g 0 (y + i) fl' (fe + 1) n := by
  unfold Till need wait at *
  have hg : g = 1 ∨ g = 2 ∨ g = 3 ∨ g = 4 := by omega
  rcases hg with rfl | rfl | rfl | rfl <;> (obtain ⟨t1, t2⟩ := t; constructor <;> (repeat' split at *) <;> omega)
theorem till_0 {g fl fe fl' i n : Nat} (hg : 1 ≤ g ∧ g ≤ 4) (hfl : fl < g) (hfl' : fl' < g) (hfe : fe < g) (hi : (fl' = fl + 1 ∧ i = 0) ∨ (fl' = 0 ∧ i = 1)) (t : Till g 0 0 fl fe (n + 1)) : Till g 0 i fl' fe n := by
  unfold Till need wait at *
  have hg : g = 1 ∨ g = 2 ∨ g = 3 ∨ g = 4 := by omega
  rcases hg with rfl | rfl | rfl | rfl <;> (obtain ⟨t1, t2⟩ := t; constructor <;> (repeat' split at *) <;> omega)
theorem till_pos {g x y fl fe n : Nat} (_ : 1 ≤ g) (hfe : fe < g) (t : Till g x y fl fe n) : 1 ≤ n := by
  unfold Till need at t
  obtain ⟨t1, _⟩ := t
  split at t1 <;> omega
/-- at the start of a round -/
theorem till_start {g x y fl fe h : Nat} (hg : 1 ≤ g ∧ g ≤ 4) (hh : 1 ≤ h) (hx : x + y ≤ h) (hfl : fl < g) (hfe : fe < g) : Till g x y fl fe (g * g + h) := by
  unfold Till need wait
  have hg : g = 1 ∨ g = 2 ∨ g = 3 ∨ g = 4 := by omega
  rcases hg with rfl | rfl | rfl | rfl <;> (constructor <;> (repeat' split) <;> omega)
theorem plain_turn {h : Nat} {s : S} {w : Option Int} {t : Bool} {lost : Bool × Bool} (hh : 1 ≤ h) (hm : s.mark ≤ 2 * h) (a : s.adv = true) (hl : s.last = s.mark) (hL : ∀ l ∈ s.letters, l.1 = s.mark) (hE : ∀ e ∈ s.echoes, e.1 = s.mark) : Plain h (beat h s w t lost) := by
  obtain ⟨n1, n2, n3⟩ := last_of_all hl hL
  have em : nMark h s = (s.mark + 1) % (2 * h + 1) := by unfold nMark; rw [if_pos a]
  have ea : ahead h (nMark h s) = s.mark := by rw [em]; exact ahead_next hm
  have ne : s.mark ≠ nMark h s := by
    intro z
    have := ahead_ne hh (show nMark h s ≤ 2 * h by rw [em]; exact next_le)
    rw [ea] at this
    exact this z
  refine ⟨?_, fun b => ?_, .inr ?_, ⟨_, [], (List.append_nil _).symm, ?_, (fun _ z => by cases z), fun z => ?_⟩, ⟨_, [], (List.append_nil _).symm, ?_, (fun _ z => by cases z), fun _ => rfl⟩⟩
  · show nMark h s ≤ 2 * h
    rw [em]; exact next_le
  · show (nSlot s w).isSome = true
    have b' : nBears s = true := b
    unfold nBears at b'
    unfold nSlot
    cases o : s.over with
    | true => rw [o] at b'; cases b'
    | false =>
      rw [o, a] at b'
      cases q : s.slot with
      | none => rw [q] at b'; cases b'
      | some x => simp
  · show nLast s = ahead h (nMark h s)
    rw [ea, n1]
  · show ∀ x ∈ s.letters.tail ++ (if lost.1 then [] else [(s.mark, s.word)]), x.1 = ahead h (nMark h s)
    intro x hx
    rw [ea]
    rcases List.mem_append.mp hx with hx | hx
    · exact hL x (List.mem_of_mem_tail hx)
    · rw [mem_opt hx]
  · exact absurd (show s.mark = nMark h s by rw [← n1]; exact z) ne
  · show ∀ x ∈ s.echoes.tail ++ (if lost.2 then [] else nEcho s), x.1 = ahead h (nMark h s)
    intro x hx
    rw [ea]
    rcases List.mem_append.mp hx with hx | hx
    · exact hE x (List.mem_of_mem_tail hx)
    · rcases nEcho_cases s with q | q
      · rw [q, ite_self] at hx
        cases hx
      · rw [q] at hx
        rw [mem_opt hx]
        exact n1
theorem loses1 {s : S} {fl fe : Nat} {lost : Bool × Bool} : ((loses s fl fe lost).1 = fl + 1 ∧ (if lost.1 then ([] : List (Nat × Option Int)) else [(s.mark, s.word)]).length = 0) ∨
    ((loses s fl fe lost).1 = 0 ∧ (if lost.1 then ([] : List (Nat × Option Int)) else [(s.mark, s.word)]).length = 1) := by
  unfold loses
  cases lost.1 <;> simp
theorem due_beat {h g : Nat} {s : S} {w : Option Int} {t : Bool} {lost : Bool × Bool} {fl fe n : Nat} (hh : 1 ≤ h) (hg : 1 ≤ g ∧ g ≤ 4) (lenE : s.echoes.length ≤ h) (hfl : fl < g) (hfe : fe < g)
    (h1 : (loses s fl fe lost).1 < g) (h2 : (loses s fl fe lost).2 < g) (d : Due h g s fl fe (n + 1)) :
    (s.adv = true ∧ Plain h (beat h s w t lost)) ∨ (s.adv = false ∧ Due h g (beat h s w t lost) (loses s fl fe lost).1 (loses s fl fe lost).2 n) := by
  obtain ⟨X, Y, X', Y', T, b⟩ := d
  by_cases a : s.adv = true
  · refine .inl ⟨a, ?_⟩
    obtain ⟨e, r, er, e1⟩ := adv_cases a
    have x0 : X' = [] := by
      cases X' with
      | nil => rfl
      | cons x Z =>
        have q := T.ee
        rw [er] at q
        simp only [List.cons_append, List.cons.injEq] at q
        have := T.x' x List.mem_cons_self
        rw [← q.1] at this
        exact absurd e1 this
    have ee := T.ee
    rw [x0, List.nil_append] at ee
    have y0 : Y' ≠ [] := fun z => by rw [z, er] at ee; cases ee
    obtain ⟨hl, hx⟩ := T.z y0
    refine plain_turn hh T.mok a hl (fun l hm => T.y l ?_) fun e hm => T.y' e (by rw [← ee]; exact hm)
    rw [T.el, hx, List.nil_append] at hm
    exact hm
  · have a' : s.adv = false := by simpa using a
    refine .inr ⟨a', ?_⟩
    have em : nMark h s = s.mark := by unfold nMark; rw [if_neg a]
    obtain ⟨X1, qt, xs⟩ := tail_seq a' T.ee T.y'
    have mok' : (beat h s w t lost).mark ≤ 2 * h := by show nMark h s ≤ 2 * h; rw [em]; exact T.mok
    have hL1 := @loses1 s fl fe lost
    have newL : ∀ y ∈ (if lost.1 then ([] : List (Nat × Option Int)) else [(s.mark, s.word)]), y.1 = s.mark := fun y hy => by rw [mem_opt hy]
    have lenT : ∀ k, X'.length ≤ k + 1 → X1.length ≤ k := by
      intro k hk
      have hl : s.echoes.tail.length = X1.length + Y'.length := by rw [qt, List.length_append]
      have hl2 : s.echoes.length = X'.length + Y'.length := by rw [T.ee, List.length_append]
      rw [List.length_tail] at hl
      cases X' with
      | nil =>
        cases Y' with
        | nil =>
          simp only [List.length_nil] at hl hl2
          omega
        | cons y r =>
          have : s.adv = true := by
            unfold S.adv
            rw [T.ee]
            simp [T.y' y List.mem_cons_self]
          rw [a'] at this; cases this
      | cons x Z =>
        simp at hl2 hk
        omega
    -- the row of letters
    cases X with
    | nil =>
      have ql := T.el
      rw [List.nil_append] at ql
      cases Y with
      | nil =>
        -- no letter comes
        have n1 : nLast s = s.last := by unfold nLast; rw [ql]
        have n3 : nEcho s = [] := by unfold nEcho; rw [ql]
        have e2 : (loses s fl fe lost).2 = fe := by unfold loses; rw [ql]; rfl
        refine ⟨[], (if lost.1 then [] else [(s.mark, s.word)]), X1, Y', ⟨mok', ?_, ?_, fun _ z => (by cases z), ?_, ?_, ?_, ?_⟩, ?_⟩
        · show s.letters.tail ++ (if lost.1 then [] else [(s.mark, s.word)]) = _
          rw [ql]; rfl
        · show s.echoes.tail ++ (if lost.2 then [] else nEcho s) = _
          rw [n3, qt, ite_self, List.append_nil]
        · show ∀ l ∈ (if lost.1 then [] else [(s.mark, s.word)]), l.1 = nMark h s
          rw [em]; exact newL
        · show ∀ e ∈ X1, e.1 ≠ nMark h s
          rw [em]; exact fun e he => T.x' e (xs e he)
        · show ∀ e ∈ Y', e.1 = nMark h s
          rw [em]; exact T.y'
        · show Y' ≠ [] → nLast s = nMark h s ∧ _
          rw [em, n1]; exact T.z
        · rcases b with ⟨b1, b2⟩ | ⟨b1, b2, b3⟩
          · refine .inl ⟨b1, ?_⟩
            cases n with
            | zero => 
              have hz : X'.length = 0 := by omega
              have hz : X' = [] := List.length_eq_zero_iff.mp hz
              cases Y' with
              | nil => exact absurd rfl b1
              | cons y r =>
                have : s.adv = true := by
                  unfold S.adv
                  rw [T.ee, hz]
                  simp [T.y' y List.mem_cons_self]
                rw [a'] at this; cases this
            | succ m => have := lenT m (by omega); omega
          · have hp := till_pos hg.1 hfe b3
            refine .inr ⟨b1, by omega, ?_⟩
            rw [e2]
            exact till_0 hg hfl h1 hfe hL1 (by rw [show n - h + 1 = n + 1 - h by omega]; exact b3)
      | cons l r =>
        -- a letter of the mark comes
        have el : l.1 = s.mark := T.y l List.mem_cons_self
        have n1 : nLast s = s.mark := by unfold nLast; rw [ql]; exact el
        have n3 : nEcho s = [(s.mark, nTook s)] := by unfold nEcho; rw [ql, n1]
        have lenL : (r ++ (if lost.1 then ([] : List (Nat × Option Int)) else [(s.mark, s.word)])).length = r.length + (if lost.1 then ([] : List (Nat × Option Int)) else [(s.mark, s.word)]).length := List.length_append
        refine ⟨[], r ++ (if lost.1 then [] else [(s.mark, s.word)]), X1, Y' ++ (if lost.2 then [] else nEcho s), ⟨mok', ?_, ?_, fun _ z => (by cases z), ?_, ?_, ?_, ?_⟩, ?_⟩
        · show s.letters.tail ++ (if lost.1 then [] else [(s.mark, s.word)]) = _
          rw [ql]; rfl
        · show s.echoes.tail ++ (if lost.2 then [] else nEcho s) = _
          rw [qt, List.append_assoc]
        · show ∀ l ∈ r ++ (if lost.1 then [] else [(s.mark, s.word)]), l.1 = nMark h s
          rw [em]
          intro y hy
          rcases List.mem_append.mp hy with hy | hy
          · exact T.y y (List.mem_cons_of_mem _ hy)
          · exact newL y hy
        · show ∀ e ∈ X1, e.1 ≠ nMark h s
          rw [em]; exact fun e he => T.x' e (xs e he)
        · show ∀ e ∈ Y' ++ (if lost.2 then [] else nEcho s), e.1 = nMark h s
          rw [em, n3]
          intro y hy
          rcases List.mem_append.mp hy with hy | hy
          · exact T.y' y hy
          · rw [mem_opt hy]
        · show _ → nLast s = nMark h s ∧ _
          rw [em, n1]; exact fun _ => ⟨rfl, rfl⟩
        · rcases b with ⟨b1, b2⟩ | ⟨b1, b2, b3⟩
          · refine .inl ⟨fun z => b1 (List.append_eq_nil_iff.mp z).1, ?_⟩
            cases n with
            | zero => 
              have hz : X'.length = 0 := by omega
              have hz : X' = [] := List.length_eq_zero_iff.mp hz
              cases Y' with
              | nil => exact absurd rfl b1
              | cons y r =>
                have : s.adv = true := by
                  unfold S.adv
                  rw [T.ee, hz]
                  simp [T.y' y List.mem_cons_self]
                rw [a'] at this; cases this
            | succ m => have := lenT m (by omega); omega
          · have hp := till_pos hg.1 hfe b3
            have hX : X'.length ≤ h := by
              have : s.echoes.length = X'.length + Y'.length := by rw [T.ee, List.length_append]
              omega
            cases hb : lost.2 with
            | true =>
              refine .inr ⟨by rw [b1]; rfl, by omega, ?_⟩
              have e2 : (loses s fl fe lost).2 = fe + 1 := by unfold loses; rw [ql, hb]; rfl
              rw [e2] at h2 ⊢
              rw [lenL]
              exact till_y hg hfl h1 h2 hL1 (by rw [show n - h + 1 = n + 1 - h by omega]; exact b3)
            | false =>
              refine .inl ⟨by rw [b1, n3]; simp, ?_⟩
              have := lenT (h - 1) (by omega)
              omega
    | cons x Z =>
      -- a letter of another mark comes
      have ql := T.el
      have y0 : Y' = [] := by
        apply Classical.byContradiction
        intro z
        have := (T.z z).2
        cases this
      subst y0
      have ex : x.1 ≠ s.mark := T.x x List.mem_cons_self
      have n1 : nLast s = x.1 := by unfold nLast; rw [ql] <;> rfl
      have n3 : nEcho s = [(x.1, nTook s)] := by unfold nEcho; rw [ql, n1] <;> rfl
      have e0 : s.letters.isEmpty = false := by rw [ql]; rfl
      refine ⟨Z, Y ++ (if lost.1 then [] else [(s.mark, s.word)]), X1 ++ (if lost.2 then [] else nEcho s), [], ⟨mok', ?_, ?_, ?_, ?_, ?_, fun _ z => (by cases z), fun z => absurd rfl z⟩, ?_⟩
      · show s.letters.tail ++ (if lost.1 then [] else [(s.mark, s.word)]) = _
        rw [ql, List.cons_append, List.tail_cons, List.append_assoc]
      · show s.echoes.tail ++ (if lost.2 then [] else nEcho s) = _
        rw [qt, List.append_nil, List.append_nil]
      · show ∀ l ∈ Z, l.1 ≠ nMark h s
        rw [em]; exact fun l hl => T.x l (List.mem_cons_of_mem _ hl)
      · show ∀ l ∈ Y ++ (if lost.1 then [] else [(s.mark, s.word)]), l.1 = nMark h s
        rw [em]
        intro y hy
        rcases List.mem_append.mp hy with hy | hy
        · exact T.y y hy
        · exact newL y hy
      · show ∀ e ∈ X1 ++ (if lost.2 then [] else nEcho s), e.1 ≠ nMark h s
        rw [em, n3]
        intro y hy
        rcases List.mem_append.mp hy with hy | hy
        · exact T.x' y (xs y hy)
        · rw [mem_opt hy]; exact ex
      · rcases b with ⟨b1, _⟩ | ⟨_, b2, b3⟩
        · exact absurd rfl b1
        · have hp := till_pos hg.1 hfe b3
          refine .inr ⟨rfl, by omega, ?_⟩
          rw [List.length_append]
          exact till_x (y := Y.length) hg hfl h1 h2 hL1 (by rw [show n - h + 1 = n + 1 - h by omega]; exact b3)
end Wy
namespace Wy
/-! ### from any store on -/
/-- a mark of τ rounds ago at most, not the mark itself -/
def Old (h m n x : Nat) : Prop := x ≠ m ∧ x ≤ 2 * h ∧ ((x ≤ m ∧ m ≤ x + n) ∨ (m < x ∧ m + (2 * h + 1) ≤ x + n))
theorem old_mono {h m n x : Nat} (o : Old h m n x) : Old h m (n + 1) x := by
  unfold Old at *; omega
theorem next_of {h m : Nat} (hm : m ≤ 2 * h) : (m = 2 * h ∧ (m + 1) % (2 * h + 1) = 0) ∨ (m < 2 * h ∧ (m + 1) % (2 * h + 1) = m + 1) := by
  by_cases z : m = 2 * h
  · left; subst z; exact ⟨rfl, Nat.mod_self _⟩
  · right; exact ⟨by omega, Nat.mod_eq_of_lt (by omega)⟩
theorem old_next {h m n x : Nat} (hm : m ≤ 2 * h) (hn : n < 2 * h) (o : Old h m n x) : Old h ((m + 1) % (2 * h + 1)) (n + 1) x := by
  rcases next_of hm with ⟨e, q⟩ | ⟨e, q⟩ <;> rw [q] <;> unfold Old at * <;> omega
theorem old_self {h m n : Nat} (hh : 1 ≤ h) (hm : m ≤ 2 * h) : Old h ((m + 1) % (2 * h + 1)) (n + 1) m := by
  rcases next_of hm with ⟨e, q⟩ | ⟨e, q⟩ <;> rw [q] <;> unfold Old at * <;> omega
def Seq {α : Type} (m : Nat) (l : List (Nat × α)) : Prop := l.Pairwise fun a b => a.1 = m → b.1 = m
theorem Seq.split {α : Type} {m : Nat} : ∀ {l : List (Nat × α)}, Seq m l → ∃ X Y, l = X ++ Y ∧ (∀ x ∈ X, x.1 ≠ m) ∧ ∀ y ∈ Y, y.1 = m
  | [], _ => ⟨[], [], rfl, (fun _ z => by cases z), fun _ z => by cases z⟩
  | a :: r, h => by
    obtain ⟨h1, h2⟩ := List.pairwise_cons.mp h
    by_cases e : a.1 = m
    · refine ⟨[], a :: r, rfl, (fun _ z => by cases z), fun y hy => ?_⟩
      rcases List.mem_cons.mp hy with q | q
      · rw [q]; exact e
      · exact h1 y q e
    · obtain ⟨X, Y, e1, e2, e3⟩ := Seq.split h2
      refine ⟨a :: X, Y, by rw [e1]; rfl, fun x hx => ?_, e3⟩
      rcases List.mem_cons.mp hx with q | q
      · rw [q]; exact e
      · exact e2 x q
theorem Seq.tail {α : Type} {m : Nat} {l : List (Nat × α)} (h : Seq m l) : Seq m l.tail := by
  cases l with
  | nil => exact h
  | cons a r => exact (List.pairwise_cons.mp h).2
theorem Seq.all {α : Type} {m : Nat} {l : List (Nat × α)} (h : ∀ x ∈ l, x.1 = m) : Seq m l :=
  List.pairwise_of_forall_mem_list fun _ _ b hb _ => h b hb
theorem Seq.no {α : Type} {m : Nat} {l : List (Nat × α)} (h : ∀ x ∈ l, x.1 ≠ m) : Seq m l :=
  List.pairwise_of_forall_mem_list fun a ha _ _ e => absurd e (h a ha)
/-- what is of the mark may be laid behind -/
theorem Seq.add {α : Type} {m : Nat} {l r : List (Nat × α)} (h : Seq m l) (hr : ∀ x ∈ r, x.1 = m) : Seq m (l ++ r) :=
  List.pairwise_append.mpr ⟨h, Seq.all hr, fun _ _ b hb _ => hr b hb⟩
/-- behind what is not of the mark anything in turn -/
theorem Seq.adn {α : Type} {m : Nat} {l r : List (Nat × α)} (h : ∀ x ∈ l, x.1 ≠ m) (hr : Seq m r) : Seq m (l ++ r) :=
  List.pairwise_append.mpr ⟨Seq.no h, hr, fun a ha _ _ e => absurd e (h a ha)⟩
/-- n beats behind any store: what is left of it stands first -/
structure Real (h n : Nat) (s : S) (GL RL : List (Nat × Option Int)) (GE RE : List (Nat × Bool)) : Prop where
  mok : s.mark ≤ 2 * h
  el : s.letters = GL ++ RL
  ee : s.echoes = GE ++ RE
  gl : GL.length ≤ h - n
  ge : GE.length ≤ 2 * h - n
  ol : ∀ l ∈ RL, l.1 = s.mark ∨ Old h s.mark n l.1
  oe : ∀ e ∈ RE, e.1 = s.mark ∨ Old h s.mark n e.1
  sl : Seq s.mark RL
  se : Seq s.mark RE
  g0 : GL ≠ [] → RE = []
  z : ∀ e ∈ RE, e.1 = s.mark → s.last = s.mark ∧ GL = [] ∧ ∀ l ∈ RL, l.1 = s.mark
theorem len_echoes {h : Nat} {s : S} {w : Option Int} {t : Bool} {lost : Bool × Bool} (hh : 1 ≤ h) (hl : s.echoes.length ≤ h) : (beat h s w t lost).echoes.length ≤ h := by
  show (s.echoes.tail ++ (if lost.2 then [] else nEcho s)).length ≤ h
  rw [List.length_append, List.length_tail]
  have : (if lost.2 then [] else nEcho s).length ≤ 1 := by
    cases lost.2
    · rcases nEcho_cases s with q | q <;> rw [q] <;> simp
    · simp
  omega
theorem len_letters {h : Nat} {s : S} {w : Option Int} {t : Bool} {lost : Bool × Bool} (hh : 1 ≤ h) (hl : s.letters.length ≤ h) : (beat h s w t lost).letters.length ≤ h := by
  show (s.letters.tail ++ (if lost.1 then [] else [(s.mark, s.word)])).length ≤ h
  rw [List.length_append, List.length_tail]
  have : (if lost.1 then [] else [(s.mark, s.word)]).length ≤ 1 := by
    cases lost.1 <;> simp
  omega
theorem real_beat {h n : Nat} {s : S} {w : Option Int} {t : Bool} {lost : Bool × Bool} {GL RL : List (Nat × Option Int)} {GE RE : List (Nat × Bool)} (hh : 1 ≤ h) (hn : n < 2 * h) (lenE : s.echoes.length ≤ h) (R : Real h n s GL RL GE RE) :
    ∃ GL' RL' GE' RE', Real h (n + 1) (beat h s w t lost) GL' RL' GE' RE' := by
  have newL : ∀ y ∈ (if lost.1 then ([] : List (Nat × Option Int)) else [(s.mark, s.word)]), y.1 = s.mark := fun y hy => by rw [mem_opt hy]
  have mok' : (beat h s w t lost).mark ≤ 2 * h := by
    show nMark h s ≤ 2 * h
    unfold nMark
    split
    · exact next_le
    · exact R.mok
  have lenE' := len_echoes (w := w) (t := t) (lost := lost) hh lenE
  have neE : ∀ y ∈ (if lost.2 then [] else nEcho s), y.1 = nLast s := fun y hy => by
    rcases nEcho_cases s with q | q
    · rw [q, ite_self] at hy; cases hy
    · rw [q] at hy; rw [mem_opt hy]
  cases GL with
  | cons g GL' =>
    -- a letter of the elder ones comes: all echoes are elder ones
    have r0 := R.g0 (by simp)
    subst r0
    have hgl : GL'.length + 1 ≤ h - n := R.gl
    have et : (beat h s w t lost).letters = GL' ++ (RL ++ (if lost.1 then [] else [(s.mark, s.word)])) := by
      show s.letters.tail ++ (if lost.1 then [] else [(s.mark, s.word)]) = _
      rw [R.el, List.cons_append, List.tail_cons, List.append_assoc]
    refine ⟨GL', RL ++ (if lost.1 then [] else [(s.mark, s.word)]), (beat h s w t lost).echoes, [], ⟨mok', et, (List.append_nil _).symm, by omega, by omega, ?_, (fun _ z => by cases z), ?_, List.Pairwise.nil, fun _ => rfl, fun _ z => by cases z⟩⟩
    · show ∀ l ∈ RL ++ (if lost.1 then [] else [(s.mark, s.word)]), l.1 = nMark h s ∨ Old h (nMark h s) (n + 1) l.1
      unfold nMark
      intro l hl
      split
      · right
        rcases List.mem_append.mp hl with q | q
        · rcases R.ol l q with z | z
          · rw [z]; exact old_self hh R.mok
          · exact old_next R.mok hn z
        · rw [newL l q]; exact old_self hh R.mok
      · rcases List.mem_append.mp hl with q | q
        · rcases R.ol l q with z | z
          · exact .inl z
          · exact .inr (old_mono z)
        · exact .inl (newL l q)
    · show Seq (nMark h s) (RL ++ (if lost.1 then [] else [(s.mark, s.word)]))
      unfold nMark
      split
      · refine Seq.no fun l hl => ?_
        rcases List.mem_append.mp hl with q | q
        · rcases R.ol l q with z | z
          · rw [z]; exact (old_self (n := n) hh R.mok).1
          · exact (old_next R.mok hn z).1
        · rw [newL l q]; exact (old_self (n := n) hh R.mok).1
      · exact R.sl.add newL
  | nil =>
    have ql := R.el
    rw [List.nil_append] at ql
    have et : (beat h s w t lost).letters = [] ++ (RL.tail ++ (if lost.1 then [] else [(s.mark, s.word)])) := by
      show s.letters.tail ++ (if lost.1 then [] else [(s.mark, s.word)]) = _
      rw [ql, List.nil_append]
    -- the row of echoes
    obtain ⟨GE', RE', qt, hge, hre, hse⟩ : ∃ GE' RE', s.echoes.tail = GE' ++ RE' ∧ GE'.length ≤ 2 * h - (n + 1) ∧ (∀ e ∈ RE', e ∈ RE) ∧ Seq s.mark RE' := by
      cases GE with
      | nil => exact ⟨[], RE.tail, by rw [R.ee]; rfl, by simp, fun e he => List.mem_of_mem_tail he, R.se.tail⟩
      | cons g GE' =>
        have := R.ge
        rw [List.length_cons] at this
        exact ⟨GE', RE, by rw [R.ee]; rfl, by omega, fun e he => he, R.se⟩
    have ee : (beat h s w t lost).echoes = GE' ++ (RE' ++ (if lost.2 then [] else nEcho s)) := by
      show s.echoes.tail ++ (if lost.2 then [] else nEcho s) = _
      rw [qt, List.append_assoc]
    -- an echo's mark: there is one only where a letter came
    have neL : ∀ y ∈ (if lost.2 then [] else nEcho s), ∃ l ∈ RL, y.1 = l.1 ∧ nLast s = l.1 ∧ ∃ r, RL = l :: r := fun y hy => by
      cases RL with
      | nil =>
        have : nEcho s = [] := by unfold nEcho; rw [ql]
        rw [this, ite_self] at hy
        cases hy
      | cons l r =>
        have : nLast s = l.1 := by unfold nLast; rw [ql]
        exact ⟨l, List.mem_cons_self, by rw [neE y hy, this], this, r, rfl⟩
    by_cases a : s.adv = true
    · have em : nMark h s = (s.mark + 1) % (2 * h + 1) := by unfold nMark; rw [if_pos a]
      have oL : ∀ l ∈ RL, Old h (nMark h s) (n + 1) l.1 := fun l hl => by
        rw [em]
        rcases R.ol l hl with z | z
        · rw [z]; exact old_self hh R.mok
        · exact old_next R.mok hn z
      have allL : ∀ l ∈ RL.tail ++ (if lost.1 then [] else [(s.mark, s.word)]), Old h (nMark h s) (n + 1) l.1 := fun l hl => by
        rcases List.mem_append.mp hl with q | q
        · exact oL l (List.mem_of_mem_tail q)
        · rw [newL l q, em]; exact old_self hh R.mok
      have allE : ∀ e ∈ RE' ++ (if lost.2 then [] else nEcho s), Old h (nMark h s) (n + 1) e.1 := fun e he => by
        rcases List.mem_append.mp he with q | q
        · rw [em]
          rcases R.oe e (hre e q) with z | z
          · rw [z]; exact old_self hh R.mok
          · exact old_next R.mok hn z
        · obtain ⟨l, hl, e1, _⟩ := neL e q
          rw [e1]; exact oL l hl
      exact ⟨[], _, GE', _, ⟨mok', et, ee, Nat.zero_le _, hge, fun l hl => .inr (allL l hl), fun e he => .inr (allE e he), Seq.no fun l hl => (allL l hl).1, Seq.no fun e he => (allE e he).1, fun z => absurd rfl z, fun e he z => absurd z (allE e he).1⟩⟩
    · have em : nMark h s = s.mark := by unfold nMark; rw [if_neg a]
      refine ⟨[], _, GE', _, ⟨mok', et, ee, Nat.zero_le _, hge, fun l hl => ?_, fun e he => ?_, ?_, ?_, fun z => absurd rfl z, fun e he z => ?_⟩⟩
      · show l.1 = nMark h s ∨ Old h (nMark h s) (n + 1) l.1
        rw [em]
        rcases List.mem_append.mp hl with q | q
        · rcases R.ol l (List.mem_of_mem_tail q) with z | z
          · exact .inl z
          · exact .inr (old_mono z)
        · exact .inl (newL l q)
      · show e.1 = nMark h s ∨ Old h (nMark h s) (n + 1) e.1
        rw [em]
        rcases List.mem_append.mp he with q | q
        · rcases R.oe e (hre e q) with z | z
          · exact .inl z
          · exact .inr (old_mono z)
        · obtain ⟨l, hl, e1, _⟩ := neL e q
          rw [e1]
          rcases R.ol l hl with z | z
          · exact .inl z
          · exact .inr (old_mono z)
      · show Seq (nMark h s) _
        rw [em]; exact R.sl.tail.add newL
      · show Seq (nMark h s) _
        rw [em]
        by_cases q : ∀ y ∈ (if lost.2 then [] else nEcho s), y.1 = s.mark
        · exact hse.add q
        · -- an echo of another mark: none of the mark stands ahead
          refine List.pairwise_append.mpr ⟨hse, ?_, fun x hx y hy ex => ?_⟩
          · rcases nEcho_cases s with z | z
            · rw [z, ite_self]; exact List.Pairwise.nil
            · rw [z]; split
              · exact List.Pairwise.nil
              · exact List.pairwise_singleton _ _
          · obtain ⟨l, hl, e1, _⟩ := neL y hy
            rw [e1]
            exact (R.z x (hre x hx) ex).2.2 l hl
      · show nLast s = nMark h s ∧ _
        have z' : e.1 = s.mark := z.trans em
        have tailL : (∀ l ∈ RL, l.1 = s.mark) → ∀ l ∈ RL.tail ++ (if lost.1 then [] else [(s.mark, s.word)]), l.1 = nMark h s := fun k l hl => by
          rw [em]
          rcases List.mem_append.mp hl with q | q
          · exact k l (List.mem_of_mem_tail q)
          · exact newL l q
        rw [em]
        rcases List.mem_append.mp he with q | q
        · obtain ⟨k1, _, k3⟩ := R.z e (hre e q) z'
          refine ⟨?_, rfl, fun l hl => tailL k3 l hl⟩
          cases RL with
          | nil => unfold nLast; rw [ql]; exact k1
          | cons l r => unfold nLast; rw [ql]; exact k3 l List.mem_cons_self
        · obtain ⟨l, hl, e1, e2, r, er⟩ := neL e q
          have el : l.1 = s.mark := by rw [← e1]; exact z'
          have k3 : ∀ l ∈ RL, l.1 = s.mark := fun l' hl' => by
            have sl := R.sl
            rw [er] at sl hl'
            rcases List.mem_cons.mp hl' with q | q
            · rw [q]; exact el
            · exact (List.pairwise_cons.mp sl).1 l' q el
          exact ⟨e2.trans el, rfl, fun l hl => tailL k3 l hl⟩
/-- twice hold beats behind it nothing is left -/
theorem real_due {h g : Nat} {s : S} {fl fe : Nat} {GL RL : List (Nat × Option Int)} {GE RE : List (Nat × Bool)} (hh : 1 ≤ h) (hg : 1 ≤ g ∧ g ≤ 4) (hfl : fl < g) (hfe : fe < g) (lenL : s.letters.length ≤ h) (lenE : s.echoes.length ≤ h)
    (R : Real h (2 * h) s GL RL GE RE) : Due h g s fl fe (g * g + 2 * h) := by
  have g0 : GL = [] := List.length_eq_zero_iff.mp (by have := R.gl; omega)
  have e0 : GE = [] := List.length_eq_zero_iff.mp (by have := R.ge; omega)
  subst g0 e0
  obtain ⟨X, Y, e1, x, y⟩ := R.sl.split
  obtain ⟨X', Y', e1', x', y'⟩ := R.se.split
  have el := R.el
  have ee := R.ee
  rw [List.nil_append] at el ee
  refine ⟨X, Y, X', Y', ⟨R.mok, el.trans e1, ee.trans e1', x, y, x', y', fun ne => ?_⟩, ?_⟩
  · cases Y' with
    | nil => exact absurd rfl ne
    | cons e r =>
      obtain ⟨k1, _, k3⟩ := R.z e (by rw [e1']; exact List.mem_append_right _ List.mem_cons_self) (y' e List.mem_cons_self)
      refine ⟨k1, ?_⟩
      cases X with
      | nil => rfl
      | cons l r => exact absurd (k3 l (by rw [e1]; exact List.mem_cons_self)) (x l List.mem_cons_self)
  · have l1 : X.length + Y.length ≤ h := by rw [← List.length_append, ← e1, ← el]; exact lenL
    have l2 : X'.length + Y'.length ≤ h := by rw [← List.length_append, ← e1', ← ee]; exact lenE
    by_cases z : Y' = []
    · refine .inr ⟨z, by omega, ?_⟩
      rw [show g * g + 2 * h - h = g * g + h by omega]
      exact till_start hg hh l1 hfl hfe
    · exact .inl ⟨z, by omega⟩
theorem real_any {h : Nat} {s : S} (hm : s.mark ≤ 2 * h) (lenL : s.letters.length ≤ h) (lenE : s.echoes.length ≤ h) : Real h 0 s s.letters [] s.echoes [] :=
  ⟨hm, (List.append_nil _).symm, (List.append_nil _).symm, lenL, by omega, (fun _ z => by cases z), (fun _ z => by cases z), List.Pairwise.nil, List.Pairwise.nil, fun _ => rfl, fun _ z => by cases z⟩
theorem plain_due {h g : Nat} {s : S} {fl fe : Nat} (hh : 1 ≤ h) (hg : 1 ≤ g ∧ g ≤ 4) (hfl : fl < g) (hfe : fe < g) (lenL : s.letters.length ≤ h) (lenE : s.echoes.length ≤ h) (p : Plain h s) : Due h g s fl fe (g * g + 2 * h) := by
  obtain ⟨X, Y, e1, x, y, z⟩ := p.lt
  obtain ⟨X', Y', e1', x', y', z'⟩ := p.ec
  have ne := ahead_ne hh p.mok
  refine ⟨X, Y, X', Y', ⟨p.mok, e1, e1', fun l hl => by rw [x l hl]; exact ne, fun l hl => by rw [y l hl], fun l hl => by rw [x' l hl]; exact ne, fun l hl => by rw [y' l hl], fun q => ?_⟩, ?_⟩
  · have hl : s.last = s.mark := Classical.byContradiction fun n => q (z' n)
    exact ⟨hl, z hl⟩
  · have l1 : X.length + Y.length ≤ h := by rw [← List.length_append, ← e1]; exact lenL
    have l2 : X'.length + Y'.length ≤ h := by rw [← List.length_append, ← e1']; exact lenE
    by_cases q : Y' = []
    · refine .inr ⟨q, by omega, ?_⟩
      rw [show g * g + 2 * h - h = g * g + h by omega]
      exact till_start hg hh l1 hfl hfe
    · exact .inl ⟨q, by omega⟩
/-- behind n beats more, whatever is lost, the way is plain -/
def Conv (h g : Nat) (s : S) (fl fe n : Nat) : Prop := (∃ k GL RL GE RE, Real h k s GL RL GE RE ∧ k ≤ 2 * h ∧ n = g * g + 4 * h - k) ∨ Due h g s fl fe n ∨ Plain h s
theorem conv_any {h g : Nat} {s : S} {fl fe : Nat} (hm : s.mark ≤ 2 * h) (lenL : s.letters.length ≤ h) (lenE : s.echoes.length ≤ h) : Conv h g s fl fe (g * g + 4 * h) :=
  .inl ⟨0, _, _, _, _, real_any hm lenL lenE, Nat.zero_le _, rfl⟩
theorem conv_beat {h g : Nat} {s : S} {w : Option Int} {t : Bool} {lost : Bool × Bool} {fl fe n : Nat} (hh : 1 ≤ h) (hg : 1 ≤ g ∧ g ≤ 4) (lenL : s.letters.length ≤ h) (lenE : s.echoes.length ≤ h) (hfl : fl < g) (hfe : fe < g)
    (h1 : (loses s fl fe lost).1 < g) (h2 : (loses s fl fe lost).2 < g) (c : Conv h g s fl fe (n + 1)) : Conv h g (beat h s w t lost) (loses s fl fe lost).1 (loses s fl fe lost).2 n := by
  rcases c with ⟨k, GL, RL, GE, RE, R, hk, e⟩ | d | p
  · by_cases q : k < 2 * h
    · obtain ⟨GL', RL', GE', RE', R'⟩ := real_beat (w := w) (t := t) (lost := lost) hh q lenE R
      exact .inl ⟨k + 1, _, _, _, _, R', q, by omega⟩
    · have : k = 2 * h := by omega
      subst this
      have d := real_due hh hg hfl hfe lenL lenE R
      rw [show g * g + 2 * h = n + 1 by omega] at d
      rcases due_beat (w := w) (t := t) hh hg lenE hfl hfe h1 h2 d with ⟨_, p⟩ | ⟨_, d'⟩
      · exact .inr (.inr p)
      · exact .inr (.inl d')
  · rcases due_beat (w := w) (t := t) hh hg lenE hfl hfe h1 h2 d with ⟨_, p⟩ | ⟨_, d'⟩
    · exact .inr (.inr p)
    · exact .inr (.inl d')
  · exact .inr (.inr (plain_beat hh p))
theorem conv_end {h g : Nat} {s : S} {fl fe : Nat} (hh : 1 ≤ h) (c : Conv h g s fl fe 0) : Plain h s := by
  rcases c with ⟨k, GL, RL, GE, RE, R, hk, e⟩ | d | p
  · omega
  · obtain ⟨X, Y, X', Y', T, b⟩ := d
    rcases b with ⟨_, b⟩ | ⟨_, b, _⟩ <;> omega
  · exact p
end Wy
namespace Wy
/-! ### at last all comes -/
/-- a word in the box came at the very last beat -/
def Fresh (s : S) : Prop := s.box.isSome = true → s.last = s.mark
/-- in a round begun with an empty box -/
def Good (s : S) : Prop := s.bears = s.slot.isSome ∧ (s.last = s.mark → s.took = s.bears)
/-- within k beats, all taken and none put, nothing is under way -/
def Live (h g : Nat) (s : S) (fl fe k : Nat) : Prop := Plain h s ∧
  (2 * (g * g + 2 * h) + 2 ≤ k ∨ (Fresh s ∧ ∃ n, Due h g s fl fe n ∧ n + (g * g + 2 * h) + 1 ≤ k) ∨ (Fresh s ∧ Good s ∧ ∃ n, Due h g s fl fe n ∧ n + 1 ≤ k) ∨ (s.slot = none ∧ 1 ≤ k) ∨ (s.slot = none ∧ s.box = none))
theorem plain_box {h : Nat} {s : S} {w : Option Int} {lost : Bool × Bool} (hh : 1 ≤ h) (p : Plain h s) : (beat h s w true lost).box.isSome = true → s.takes = true ∧ s.adv = false ∧ s.last ≠ s.mark ∧ nLast s = s.mark ∧ nMark h s = s.mark ∧ s.box = none ∧ s.first = s.word := by
  intro b
  have b' : (nBox s true).isSome = true := b
  unfold nBox at b'
  cases hb : s.box with
  | some x => rw [hb] at b'; simp at b'
  | none =>
    rw [hb] at b'
    have tk : s.takes = true := by
      cases q : s.takes with
      | true => rfl
      | false => rw [q] at b'; simp at b'
    -- a letter of another mark has come
    have hne : ∃ l r, s.letters = l :: r ∧ l.1 ≠ s.last := by
      unfold S.takes at tk
      cases q : s.letters with
      | nil => rw [q] at tk; cases tk
      | cons l r =>
        rw [q] at tk
        simp at tk
        exact ⟨l, r, rfl, tk.1⟩
    obtain ⟨l, r, ql, hl⟩ := hne
    obtain ⟨X, Y, e1, x, y, z⟩ := p.lt
    have hlast : s.last ≠ s.mark := fun q => by
      have x0 := z q
      rw [x0, List.nil_append] at e1
      have : l = (s.mark, s.word) := y l (by rw [← e1, ql]; exact List.mem_cons_self)
      rw [this, q] at hl
      exact hl rfl
    have ha : s.last = ahead h s.mark := p.la.resolve_left hlast
    have el : l = (s.mark, s.word) := by
      cases X with
      | nil =>
        rw [List.nil_append] at e1
        exact y l (by rw [← e1, ql]; exact List.mem_cons_self)
      | cons x' X' =>
        rw [ql] at e1
        simp only [List.cons_append, List.cons.injEq] at e1
        have := x x' List.mem_cons_self
        rw [← e1.1, ← ha] at this
        exact absurd this hl
    have a : s.adv = false := by
      cases q : s.adv with
      | false => rfl
      | true => exact absurd (plain_adv hh p q).1 hlast
    refine ⟨tk, a, hlast, ?_, ?_, rfl, ?_⟩
    · unfold nLast; rw [ql, el]
    · unfold nMark; rw [a]; rfl
    · unfold S.first; rw [ql, el]
theorem fresh_beat {h : Nat} {s : S} {w : Option Int} {lost : Bool × Bool} (hh : 1 ≤ h) (p : Plain h s) : Fresh (beat h s w true lost) := fun b => by
  obtain ⟨_, _, _, e1, e2, _⟩ := plain_box hh p b
  exact e1.trans e2.symm
theorem slot_none {s : S} : nSlot s none = if s.over then none else s.slot := by
  unfold nSlot; simp
/-- a round ends -/
theorem good_turn {h : Nat} {s : S} {t : Bool} {lost : Bool × Bool} (hh : 1 ≤ h) (p : Plain h s) (a : s.adv = true) : Good (beat h s none t lost) := by
  obtain ⟨hl, hL, hE, ho⟩ := plain_adv hh p a
  obtain ⟨n1, _, _⟩ := last_of_all hl fun l hm => by rw [hL l hm]
  have em : nMark h s = (s.mark + 1) % (2 * h + 1) := by unfold nMark; rw [if_pos a]
  constructor
  · show nBears s = (nSlot s none).isSome
    rw [slot_none]
    unfold nBears
    rw [a]
    cases s.over <;> rfl
  · intro q
    have q' : nLast s = nMark h s := q
    rw [n1] at q'
    have := ahead_ne hh (show nMark h s ≤ 2 * h by rw [em]; exact next_le)
    rw [em, ahead_next p.mok, ← em] at this
    exact absurd q' this
/-- .. a good one: the slot is empty behind it -/
theorem good_end {h : Nat} {s : S} {t : Bool} {lost : Bool × Bool} (hh : 1 ≤ h) (p : Plain h s) (gd : Good s) (a : s.adv = true) : (beat h s none t lost).slot = none := by
  obtain ⟨hl, hL, hE, ho⟩ := plain_adv hh p a
  have k := gd.2 hl
  show nSlot s none = none
  rw [slot_none, ho, k, gd.1]
  cases s.slot <;> rfl
/-- .. goes on -/
theorem good_on {h : Nat} {s : S} {lost : Bool × Bool} (hh : 1 ≤ h) (p : Plain h s) (fr : Fresh s) (gd : Good s) (a : s.adv = false) : Good (beat h s none true lost) := by
  have o := over_adv a
  have em : nMark h s = s.mark := by unfold nMark; rw [a]; rfl
  have eb : nBears s = s.bears := by unfold nBears; rw [o, a]; rfl
  have es : nSlot s none = s.slot := by rw [slot_none, o]; rfl
  constructor
  · show nBears s = (nSlot s none).isSome
    rw [eb, es]; exact gd.1
  · show nLast s = nMark h s → nTook s = nBears s
    rw [em, eb]
    intro q
    obtain ⟨X, Y, e1, x, y, z⟩ := p.lt
    by_cases hl : s.last = s.mark
    · have x0 := z hl
      rw [x0, List.nil_append] at e1
      have : s.fresh = false := (last_of_all hl fun l hm => by rw [y l (by rw [← e1]; exact hm)]).2.1
      unfold nTook
      rw [this]
      exact gd.2 hl
    · have hb : s.box = none := by
        cases hb : s.box with
        | none => rfl
        | some v => exact absurd (fr (by rw [hb]; rfl)) hl
      have ne := ahead_ne hh p.mok
      have ha : s.last = ahead h s.mark := p.la.resolve_left hl
      cases q1 : s.letters with
      | nil => unfold nLast at q; rw [q1] at q; exact absurd q hl
      | cons l r =>
        have el : l.1 = s.mark := by unfold nLast at q; rw [q1] at q; exact q
        have el' : l = (s.mark, s.word) := by
          have hm : l ∈ X ++ Y := by rw [← e1, q1]; exact List.mem_cons_self
          rcases List.mem_append.mp hm with hm | hm
          · have := x l hm
            rw [el] at this
            exact absurd this.symm ne
          · exact y l hm
        have nb : (s.mark != s.last) = true := by simpa using fun z : s.mark = s.last => hl z.symm
        unfold nTook S.fresh S.takes
        rw [q1, el']
        simp only [nb, Bool.true_and, if_true, hb, Option.isNone_none, Bool.and_true]
        unfold S.word
        have := gd.1
        cases hs : s.slot with
        | none => rw [hs] at this; rw [this]; rfl
        | some v => rw [hs] at this; rw [this]; rfl
theorem live_beat {h g : Nat} {s : S} {lost : Bool × Bool} {fl fe n : Nat} (hh : 1 ≤ h) (hg : 1 ≤ g ∧ g ≤ 4) (lenL : s.letters.length ≤ h) (lenE : s.echoes.length ≤ h) (hfl : fl < g) (hfe : fe < g)
    (h1 : (loses s fl fe lost).1 < g) (h2 : (loses s fl fe lost).2 < g) (c : Live h g s fl fe (n + 1)) : Live h g (beat h s none true lost) (loses s fl fe lost).1 (loses s fl fe lost).2 n := by
  obtain ⟨p, c⟩ := c
  have p' := plain_beat (w := none) (t := true) (lost := lost) hh p
  have fr' := fresh_beat (w := none) (lost := lost) hh p
  have due' := plain_due hh hg h1 h2 (len_letters (w := none) (t := true) (lost := lost) hh lenL) (len_echoes (w := none) (t := true) (lost := lost) hh lenE) p'
  refine ⟨p', ?_⟩
  have hs0 : s.slot = none → (beat h s none true lost).slot = none := fun e => by
    show nSlot s none = none
    rw [slot_none, e]
    cases s.over <;> rfl
  have hb0 : s.slot = none → (beat h s none true lost).box = none := fun e => by
    cases q : (beat h s none true lost).box with
    | none => rfl
    | some v =>
      obtain ⟨tk, _, _, _, _, hb, hf⟩ := plain_box (w := none) (lost := lost) hh p (by rw [q]; rfl)
      have : nBox s true = some v := q
      unfold nBox at this
      rw [tk, hb, hf] at this
      unfold S.word at this
      rw [e] at this
      simp at this
  rcases c with c | ⟨fr, m, d, hm⟩ | ⟨fr, gd, m, d, hm⟩ | ⟨e, hk⟩ | ⟨e1, e2⟩
  · exact .inr (.inl ⟨fr', _, due', by omega⟩)
  · cases m with
    | zero =>
      obtain ⟨X, Y, X', Y', T, b⟩ := d
      rcases b with ⟨_, b⟩ | ⟨_, b, _⟩ <;> omega
    | succ m =>
      rcases due_beat (w := none) (t := true) hh hg lenE hfl hfe h1 h2 d with ⟨a, _⟩ | ⟨a, d'⟩
      · exact .inr (.inr (.inl ⟨fr', good_turn hh p a, _, due', by omega⟩))
      · exact .inr (.inl ⟨fr', _, d', by omega⟩)
  · cases m with
    | zero =>
      obtain ⟨X, Y, X', Y', T, b⟩ := d
      rcases b with ⟨_, b⟩ | ⟨_, b, _⟩ <;> omega
    | succ m =>
      rcases due_beat (w := none) (t := true) hh hg lenE hfl hfe h1 h2 d with ⟨a, _⟩ | ⟨a, d'⟩
      · exact .inr (.inr (.inr (.inl ⟨good_end hh p gd a, by omega⟩)))
      · exact .inr (.inr (.inl ⟨fr', good_on hh p fr gd a, _, d', by omega⟩))
  · exact .inr (.inr (.inr (.inr ⟨hs0 e, hb0 e⟩)))
  · exact .inr (.inr (.inr (.inr ⟨hs0 e1, hb0 e1⟩)))
theorem live_end {h g : Nat} {s : S} {fl fe : Nat} (hh : 1 ≤ h) (c : Live h g s fl fe 0) : uw s = [] := by
  obtain ⟨p, c⟩ := c
  rcases c with c | ⟨fr, m, d, hm⟩ | ⟨fr, gd, m, d, hm⟩ | ⟨e, hk⟩ | ⟨e1, e2⟩
  · omega
  · omega
  · omega
  · omega
  · unfold uw
    rw [e1, e2]
    simp
/-- a hundred and twenty beats do -/
theorem live_start {h g : Nat} {s : S} {fl fe : Nat} (hh : h ≤ 6) (hg : g ≤ 4) (p : Plain h s) : Live h g s fl fe 120 := by
  refine ⟨p, .inl ?_⟩
  have : g = 0 ∨ g = 1 ∨ g = 2 ∨ g = 3 ∨ g = 4 := by omega
  rcases this with rfl | rfl | rfl | rfl | rfl <;> omega
end Wy
/-! Rules of our own over the hand layer: an attribute as a target, a star in a target, a method called by keywords, None beside True, powers, sets of numbers by a comprehension. -/
namespace Ru
open PySem PySem.Spec PyProof.Rows L2
section
variable {X : Cx} {pos : Pos}
/-- an attribute as a target -/
def gAt (K : PySem.W.Frag) (ta : TE) (f : PySem.Str) : TG := fun v σ H Q => ta σ H fun x H2 => ∃ a C dx fs, x = .ref a ∧ H2 a = some (.ins C dx fs) ∧ Cls K C ∧ NoAttr K C f ∧ fs.length < 1000 ∧ Q σ (upd H2 a (.ins C dx (putF f v fs)))
theorem pg_at {o : Expr} {f : PySem.Str} {ta : TE} (ho : PE X o ta) : PG X (.Attribute o f pos) (gAt X.K ta f) := by
  constructor
  intro pins s σ H v u Q I r h
  rw [arm_assign_Attribute]
  refine wpAny_bind (wpAny_holding (thn (ho.run pins s σ H _ I h) ?_))
  rintro ov s1 ⟨x, H2, I2, rx, a, C, dx, fs, rfl, ea, c, n, l, q⟩
  obtain rfl : ov = Value.ref a := rx
  refine wpAny_bind (wpAny_standAt (wpAny_bind (wpAny_holding (setattr_ok I2 ea c n l r fun s3 I3 => ?_))))
  exact wpAny_release ⟨σ, _, I3, q⟩
/-- two words of None, True, False by is -/
def nb : V → Bool
  | .non => true
  | .bl _ => true
  | _ => false
theorem op_isNB : OpR X (compareOp .Is) (fun x y H Q => nb x = true ∧ nb y = true ∧ Q (.bl (decide (x = y))) H) := by
  intro pins s σ H x y v u Q I rx ry ⟨hx, hy, q⟩
  by_cases e : x = y
  · subst e
    have huv : v = u := by
      cases x with
      | non => exact (show v = Value.none from rx).trans (show u = Value.none from ry).symm
      | bl b => exact (show v = Value.bool b from rx).trans (show u = Value.bool b from ry).symm
      | _ => cases hx
    subst huv
    cases x with
    | non => cases (show v = Value.none from rx); exact wpAny_is_self rfl ⟨.bl true, H, I, rfl, by simpa using q⟩
    | bl b => cases (show v = Value.bool b from rx); exact wpAny_is_self rfl ⟨.bl true, H, I, rfl, by simpa using q⟩
    | _ => cases hx
  · have fin : EP X pins σ Q (.bool false) s := ⟨.bl false, H, I, rfl, by simpa [e] using q⟩
    cases x with
    | non =>
      cases (show v = Value.none from rx)
      cases y with
      | non => exact absurd rfl e
      | bl b => cases (show u = Value.bool b from ry); exact wpAny_is_other rfl (by intro z; cases z) fin
      | _ => cases hy
    | bl a =>
      cases (show v = Value.bool a from rx)
      cases y with
      | non => cases (show u = Value.none from ry); exact wpAny_is_other rfl (by intro z; cases z) fin
      | bl b => cases (show u = Value.bool b from ry); exact wpAny_is_other rfl (fun z => e (by rw [Value.bool.inj z])) fin
      | _ => cases hy
    | _ => cases hx
/-- a power whose size is bounded -/
theorem op_powB : OpR X (binaryOp .Pow) (rI (fun i j => 0 ≤ j ∧ (Builtin.Int.intBits i : Int) * j ≤ 2 ^ 27) fun i j => .int (i ^ j.toNat)) :=
  opI fun _ _ _ _ _ _ _ hc q => pow_int hc.1 hc.2 q
/-- o.m(k = v, ..) -/
def tMethK (C : Addr) (m : PySem.Str) (j : Nat) (sp : Sp) (gV : List V → List V → List V) (E : XK) (ta : TE) (tk : TA) : TE := fun σ H Q => ta σ H fun x H1 => ∃ a dx fs, x = .ref a ∧ H1 a = some (.ins C dx fs) ∧ fs.lookup m = none ∧
  tk σ H1 fun zs H2 => zs.length = j ∧ sp (gV [.ref a] zs) H2 Q E
theorem pe_methK {CX : CXT} {k : Nat} {f C : Addr} {fd : FuncData} {ps ks : List PySem.Str} {sp : Sp} {E : XK} {m : PySem.Str} {apos : Pos} {o : Expr} {kws : List Keyword} {ta : TE} {tk : TA} {g : List Value → List Value → List Value} {gV : List V → List V → List V} {pl : Sem Bool}
    (he : PE X o ta) (c : Cls X.K C) (hm : Meth X.K C m f) (F : FnOk X.prog X.w X.K X.mg X.base CX k f fd ps sp) (hr : Room k X.A) (hb : KBn X.K fd ps 1 ks g gV) (hx : Passes CX X E) (hkw : PK X kws tk)
    (hall : (backToKw pos (keywordEach kws X.env)).all (·.1.isSome) = true := by rfl) (hks : (backToKw pos (keywordEach kws X.env)).filterMap (·.1) = ks := by rfl)
    (hpl : ((backTo pos (starEach [] X.env)).any (·.1) || (backToKw pos (keywordEach kws X.env)).any (·.1.isNone)) = false := by rfl)
    (ht : eval (.Call (.Attribute o m apos) [] kws pos) X.env = (do
      let ov ← eval o X.env
      standAt apos.atName
      let (f, first) ← holding [ov] (getMethod ov m pl)
      callWith pos f first (backTo pos (starEach [] X.env)) (backToKw pos (keywordEach kws X.env))) := by rfl) :
    PE X (.Call (.Attribute o m apos) [] kws pos) (tMethK C m ks.length sp gV E ta tk) := by
  constructor
  intro pins s σ H Q I h
  refine PySem.W.methodCall_KW (pl := pl) (thn (he.run pins s σ H _ I h) ?_) ht
  rintro u s1 ⟨x, H1, I1, rx, a, dx, fs, rfl, ea, l, q⟩
  obtain rfl : u = Value.ref a := rx
  refine getmeth_ok I1 ea c hm l (PySem.W.callWith_KW0 (first := [.ref a]) (h₀ := X.base) I1.ok.mod.kin hm.kp hall ?_ hpl)
  refine thn (hkw.run pos pins s1 σ H1 _ I1 q) fun ws s2 ⟨zs, H2, I2, rz, l2, q2⟩ => ⟨I2.kIn, ?_⟩
  rw [hks]
  exact run_fnN (us := [.ref a]) (vs := [.ref a]) F hr hb hx I2 (.cons rfl .nil) rz rfl l2 q2
end
end Ru
namespace Ru
open PySem PySem.Spec PyProof.Rows L2
/-- one item, and a star behind it, out of a list -/
theorem star_raw {prog : Program} {w : World} {A : Around} {E : Value → Shared → Prop} {s : Shared} {l : Addr} {x : Value} {rest : List Value} {Q : List Value → Shared → Prop} (hh : A.handled = none) (hl : s.heap.IsList l (x :: rest).toArray) (hz : rest.length < sizeLine)
    (h : ∀ h' tk, (∀ b o, s.heap.get? b = some o → h'.get? b = some o) → wpAny (model prog w) A (newList rest) (fun d s' => Q [x, d] s') E { s with heap := h', toks := tk }) : wpAny (model prog w) A (unpackItems (.ref l) 2 (some 1)) Q E s := by
  have hin : l < s.heap.objs.size := by
    obtain ⟨o, e, _⟩ := hl
    exact Heap.lt_size e
  have hne : l ≠ s.heap.objs.size := Nat.ne_of_lt hin
  have hsz : (x :: rest).toArray.size = rest.length + 1 := by simp
  unfold unpackItems notIterableAtAll
  refine wpAny_bind (wpAny_bind (wpAny_specialOf hl.typeIs slot_list_iter.lookup (wpAny_pure ?_)))
  simp only [Bool.false_eq_true, if_false]
  refine wpAny_bind (wpAny_holding (wpAny_pyIter_list hl ?_))
  refine wpAny_bind (wpAny_holding (PySem.W.kun_draw hne 1 0 _ _ ⟨_, Heap.get?_push_size _ rfl, rfl, rfl⟩ (hl.push _) (by rw [hsz]; omega) fun h1 it1 sb1 => ?_))
  have l1 : h1.IsList l (x :: rest).toArray := (hl.push _).extBut sb1.extBut hne
  have p1 : s.heap.objs.size < h1.objs.size := by
    obtain ⟨o, e, _⟩ := it1
    exact Heap.lt_size e
  have p2 : l < h1.objs.size := by
    obtain ⟨o, e, _⟩ := l1
    exact Heap.lt_size e
  have it1' : h1.IsListIter s.heap.objs.size l 1 := it1
  have e1 : List.take 1 (List.drop 0 (x :: rest).toArray.toList) = [x] := by simp
  rw [e1, if_neg (show ¬ [x].length < 1 by simp)]
  refine wpAny_bind (wpAny_holding (PySem.W.kun_collect (s := { s with heap := h1 }) (T := "list_iterator") (.inr (.inr (.inl rfl))) (Walks.list (A := A.in1) hh s.heap.objs.size l hne (x :: rest).toArray) (fun j u st => st.1.typeIs) (k := 1) (by rw [hsz]; omega) ⟨it1', l1⟩ p1 p2 (fun h2 tk k2 => ?_) (by rw [hsz]; omega)))
  have e2 : List.drop 1 (x :: rest).toArray.toList = rest := by simp
  rw [e2]
  show wpAny _ _ (if rest.length < 2 - 1 - 1 then _ else _) _ _ _
  rw [if_neg (Nat.not_lt_zero _)]
  show wpAny _ _ (newList (rest.take (rest.length - (2 - 1 - 1))) >>= fun d => pure ([x] ++ [d] ++ rest.drop (rest.length - (2 - 1 - 1)))) _ _ _
  rw [show rest.length - (2 - 1 - 1) = rest.length from rfl, List.take_length, List.drop_length]
  have kk : ∀ b o, s.heap.get? b = some o → h2.get? b = some o := fun b o e => by
    have hb : b ≠ s.heap.objs.size := Nat.ne_of_lt (Heap.lt_size e)
    exact k2 b o hb (sb1.extBut b o hb (Heap.get?_push_of_some _ e))
  exact wpAny_bind (thn (h h2 tk kk) fun d s' q => wpAny_pure q)
section
variable {X : Cx} {pos : Pos}
/-- a, *b = a list of one item at least -/
def gStar (K : PySem.W.Frag) (t u : TG) : TG := fun v σ H Q => ∃ a x xs, v = .ref a ∧ SqL K H a (x :: xs) ∧ ∀ D, H D = none → t x σ (upd H D (.lst xs)) fun σ' H' => u (.ref D) σ' H' Q
theorem pg_star {e1 e2 : Expr} {k : Nat} {t u : TG} {p2 : Pos} (hc : X.calm = true) (h1 : PG X e1 t) (h2 : PG X e2 u)
    (ha : assignEach [e1, .Starred e2 p2] X.env = [(false, assign e1 X.env), (true, assign e2 X.env)] := by rfl) : PG X (.Tuple [e1, .Starred e2 p2] k pos) (gStar X.K t u) := by
  constructor
  rintro pins s σ H v z Q I r ⟨a, x, xs, rfl, hq, hw⟩
  obtain rfl : z = Value.ref a := r
  obtain ⟨its, rv, p, hz⟩ := I.list hq
  obtain ⟨y, ys, rfl, ry, rys⟩ : ∃ y ys, its = y :: ys ∧ RelV x y ∧ Vals xs ys := by
    cases rv with
    | cons r1 r2 => exact ⟨_, _, rfl, r1, r2⟩
  rw [arm_assign_Tuple]
  refine wpAny_bind (wpAny_standAt ?_)
  unfold unpack
  rw [ha]
  refine wpAny_bind (wpAny_holding ?_)
  show wpAny _ _ (unpackItems (.ref a) 2 (some 1)) _ _ _
  have hxs : xs.length < sizeLine := hz
  refine star_raw (I.ok.hd hc) p.isList (by rw [← rys.length]; exact hxs) fun h' tk kk => ?_
  have I1 : Inv X pins σ H { s with heap := h', toks := tk } := I.kept kk
  unfold newList
  refine wpAny_newObj_type ?_ (by show ys.length ≤ sizeLine; rw [← rys.length]; omega)
  have I2 : Inv X pins σ (upd H h'.objs.size (.lst xs)) { s with heap := h'.push { cls := .type "list", data := .seq ys.toArray }, toks := tk } := I1.lnew (t' := tk) rys (by omega)
  have q := hw h'.objs.size (I1.hok.fresh (Nat.le_refl _))
  show wpAny _ _ (assignInOrder [assign e1 X.env, assign e2 X.env] [y, .ref h'.objs.size]) _ _ _
  refine assignInOrder_cons (thn (h1.run pins _ σ _ x y _ I2 ry q) fun _ s3 ⟨σ3, H3, I3, q3⟩ => ?_)
  exact assignInOrder_cons (thn (h2.run pins s3 σ3 H3 (.ref h'.objs.size) _ _ I3 rfl q3) fun _ s4 q4 => assignInOrder_nil q4)
end
end Ru
namespace Ru
open PySem PySem.Spec PyProof.Rows L2
section
variable {X : Cx} {pos : Pos}
/-- the empty set of numbers at D -/
abbrev set0 (w : World) (D : Addr) : HO := SetO w D (fun _ => false) 0
/-- a number more in it -/
abbrev setAdd (w : World) (D : Addr) (S : Int → Bool) (n : Nat) (c : Int) : HO := SetO w D (fun j => S j || decide (j = c)) (if S c = true then n else n + 1)
/-- {elt for target in iter}, elt a number -/
def tSetC (w : World) (wi : TI) (g : TG) (te : TE) (vs : List Nat) : TE := fun σ H Q => wi σ H fun J H1 => ∀ D, H1 D = none → ∃ W : Nat → Nat → Hp → Prop, (∃ m, W 0 m (upd H1 D (set0 w D))) ∧ ∀ i m H, W i m H →
  (J.stop i H ∧ Q (.ref D) H) ∨ (J.go i H ∧ ∃ Nx : Hp → Prop, (∀ H', Nx H' → ∃ m', m' < m ∧ W (i + 1) m' H') ∧ ∀ x H', J.yld i H x H' → g x (wipe σ vs) H' fun σ2 H2 => wipe σ2 vs = wipe σ vs ∧
    te σ2 H2 fun y H4 => ∃ (c : Int) (S : Int → Bool) (n : Nat), y = .int c ∧ H4 D = some (SetO w D S n) ∧ n + 1 < scanBound ∧ Nx (upd H4 D (setAdd w D S n c)))
theorem pe_setC {elt tg iter : Expr} {scope : Scope} {own : List (PySem.Str × Nat)} {wi : TI} {g : TG} {te : TE} (hc : X.calm = true) (hN : X.N.Nodup) (hi : PI X tg iter wi) (ok : BlkOk X.N X.env.scope scope own)
    (hg : ∀ (s : Shared) (H : Hp) (C : Addr) (cl : List (PySem.Str × Addr)) (fp : List Addr), PG (X.blk s H scope (compEnvC scope cl C X.env) fp) tg g)
    (he : ∀ (s : Shared) (H : Hp) (C : Addr) (cl : List (PySem.Str × Addr)) (fp : List Addr), PE (X.blk s H scope (compEnvC scope cl C X.env) fp) elt te) (hs : ∀ x, foldedSetIterable iter X.env x = pure x := by intro _; rfl) :
    PE X (.SetComp elt [⟨tg, iter, [], 0⟩] scope pos) (tSetC X.w wi g te (own.map (·.2))) := by
  constructor
  intro pins s σ H Q I h
  rw [PpSet.eval_SetComp]
  have cells : ∀ y ∈ scope.names, y.2 = .free → ∃ c, X.env.cells.lookup y.1 = some c := fun y hy e => I.ok.has _ ((ok.free y hy e).elim Or.inl Or.inr)
  refine wpAny_comprehension_free (use := none) rfl hs (closure_ok cells) ok.kind (fun y hy e => by rw [ok.uniq y hy, e]) (thn (hi.run pins s σ H _ I h) fun _ sa ha => thn ha fun _ sb hb => ?_)
  obtain ⟨it, fp, tn, J, Hb, rfl, Ib, T, stb, fb, q⟩ := hb
  refine PpSet.newSet_ok (newEnv_comp ?_)
  -- the new set, at D
  have hDn : Hb sb.heap.objs.size = none := Ib.hok.fresh (Nat.le_refl _)
  obtain ⟨W, ⟨m0, w0⟩, turn⟩ := q _ hDn
  have Ic := Ib.laid (o := set0 X.w sb.heap.objs.size) (t' := sb.toks) (fun b o e => Heap.get?_push_of_some _ e) (Nat.le_refl _) (setO_new (setR_fresh X.w))
  have fc : ∀ b ∈ fp, FpOk X pins (upd Hb sb.heap.objs.size (set0 X.w sb.heap.objs.size)) b ∧ b < sb.heap.objs.size := fun b hb => by
    obtain ⟨o, e, _⟩ := T.obj _ _ stb b hb
    have lt := Heap.lt_size e
    exact ⟨⟨by rw [upd_ne (Nat.ne_of_lt lt)]; exact (fb b hb).1, (fb b hb).2⟩, lt⟩
  generalize hh : sb.heap.push { cls := .type "set", dict := none, data := .set #[] 0 (.fresh 0 0 (!X.w.params.followText "set-order")) } = hc2 at Ic
  have stc : tn 0 hc2 := T.keep _ _ _ stb fun b _ o e => by rw [← hh]; exact Heap.get?_push_of_some _ e
  have hsz : sb.heap.objs.size < hc2.objs.size := by rw [← hh, Heap.size_push]; exact Nat.lt_succ_self _
  generalize hD : sb.heap.objs.size = D at *
  clear hh
  generalize hHc : upd Hb D (set0 X.w D) = Hc at Ic fc w0
  generalize hsc : ({ sb with heap := hc2, toks := sb.toks } : Shared) = sc at Ic
  have esc : sc.heap = hc2 := by rw [← hsc]
  have fc' : ∀ b ∈ fp, FpOk X pins Hc b ∧ b < sc.heap.objs.size := fun b hb => ⟨(fc b hb).1, by rw [esc]; exact Nat.lt_trans (fc b hb).2 hsz⟩
  have Id := block_start Ic ok hN fc'
  have pg := hg sc Hc sc.heap.objs.size (cellsFrom (sc.heap.objs.size + 1) scope.names (cloFrom X.env.cells scope.names [])) fp
  have pe := he sc Hc sc.heap.objs.size (cellsFrom (sc.heap.objs.size + 1) scope.names (cloFrom X.env.cells scope.names [])) fp
  have goal : codeAny (model X.prog X.w) X.A (.compStart (.SetComp elt [⟨tg, iter, [], 0⟩] scope pos) 0 (.ref it) (.ref D) (compEnvC scope (cellsFrom (sc.heap.objs.size + 1) scope.names (cloFrom X.env.cells scope.names [])) sc.heap.objs.size X.env))
      (compPost (model X.prog X.w) X.A X.xe none (EP X pins σ Q) (.ref D) sc.heap.objs.size) { sc with heap := pushCells (sc.heap.push { cls := .type "dict", data := .dict #[] }) scope.names } := by
    generalize hce : compEnvC scope (cellsFrom (sc.heap.objs.size + 1) scope.names (cloFrom X.env.cells scope.names [])) sc.heap.objs.size X.env = ce at Id pg pe ⊢
    have cL : ce.locals = sc.heap.objs.size := by rw [← hce]; rfl
    generalize hsd : ({ sc with heap := pushCells (sc.heap.push { cls := .type "dict", data := .dict #[] }) scope.names } : Shared) = sd at Id ⊢
    have std : tn 0 sd.heap := T.keep _ _ _ stc fun b _ o e => by
      rw [← hsd]
      exact pushCells_keeps _ _ _ _ (Heap.get?_push_of_some _ (by rw [esc]; exact e))
    have fpB : ∀ {τ : L2.St} {H' : Hp} {s' : Shared}, Inv (X.blk sc Hc scope ce fp) [] τ H' s' → (∀ b ∈ fp, H' b = none) → ∀ b ∈ fp, FpOk (X.blk sc Hc scope ce fp) [] H' b := by
      intro τ H' s' I' hn b hb
      exact ⟨hn b hb, (I'.ok.exf b hb).1, I'.ok.exfs b hb, .inl hb, fun x c e => (I'.ok.exf b hb).2 x c e, fun p hp => absurd (show p ∈ ([] : List (Addr × Obj)) ++ [] from hp) (by simp)⟩
    have run : codeAny (model X.prog X.w) X.A (.compLoop (.SetComp elt [⟨tg, iter, [], 0⟩] scope pos) 0 (.ref it) (.ref D) ce) (compPost (model X.prog X.w) X.A X.xe none (EP X pins σ Q) (.ref D) sc.heap.objs.size) sd := by
      refine PpSet.compLoopS_any (fun n s' => ∃ i H', Inv (X.blk sc Hc scope ce fp) [] (wipe σ (own.map (·.2))) H' s' ∧ tn i s'.heap ∧ (∀ b ∈ fp, H' b = none) ∧ W i n H') ?_ m0 ⟨0, Hc, Id, std, fun b hb => (fc b hb).1.1, w0⟩
      rintro n se ⟨i, He, Ie, ste, ne, we⟩
      rcases turn i n He we with ⟨stop, qq⟩ | ⟨go, Nx, hNx, step⟩
      · refine thnF (T.done (X.blk sc Hc scope ce fp) rfl rfl rfl hc i [] se _ He (fun _ _ => False) Ie (fpB Ie ne) ste stop) ?_
        rintro _ sf ⟨rfl, If⟩
        have Ig : Inv X pins σ He sf := Ic.call' (ch := fp) If.os If.base If.hok If.bare fun b hb => ⟨(fc' b hb).1.2.2.2.1, (fc' b hb).1.2.1, (fc' b hb).1.2.2.2.2.1, (fc' b hb).1.2.2.2.2.2⟩
        have nC : He sc.heap.objs.size = none := by
          have z : He ce.locals = none := If.free
          rwa [cL] at z
        obtain ⟨m, hn, _⟩ := If.loc
        have hn' : sf.heap.Ns ce.locals m := hn
        rw [cL] at hn'
        obtain ⟨f0, f1, f2, f3, f4, f5⟩ := Ic.fpOk (H' := He) (Nat.le_refl _) nC
        exact ⟨m, hn', fun h'' sbt => ⟨.ref D, He, Ig.turned (t' := sf.toks) (fun b o hb e => (sbt.2 b hb).trans e) f0 f1 f3 f4 f5, rfl, qq⟩⟩
      · refine thnF (T.item (X.blk sc Hc scope ce fp) rfl rfl rfl hc i [] se _ He (fun _ _ => False) Ie (fpB Ie ne) ste go) ?_
        rintro _ sf ⟨u, rfl, hf⟩
        refine thnF hf fun _ sg ⟨x, Hg, Ig, rx, yx, stg, ng⟩ => ?_
        have Ip := Ig.pinned (fpB Ig ng) (T.obj _ _ stg)
        refine thnF (pg.run _ sg _ Hg x u _ Ip rx (step x Hg yx)) fun _ sh ⟨τ, Hh, Ih, hw, qh⟩ => ?_
        -- behind the turn
        have next : ∀ {s' : Shared} {H' : Hp}, Inv (X.blk sc Hc scope ce fp) ([] ++ pinsAt fp sg.heap) τ H' s' → Nx H' → ∃ m, m < n ∧ ∃ i H', Inv (X.blk sc Hc scope ce fp) [] (wipe σ (own.map (·.2))) H' s' ∧ tn i s'.heap ∧ (∀ b ∈ fp, H' b = none) ∧ W i m H' := by
          intro s' H' I' nx
          obtain ⟨m', hm, w'⟩ := hNx H' nx
          have stay : ∀ b ∈ fp, ∀ o, sg.heap.get? b = some o → s'.heap.get? b = some o ∧ H' b = none := fun b hb o e =>
            ⟨(I'.pin (b, o) (List.mem_append_right _ (List.mem_append_right _ (mem_pinsAt hb e)))).1, (I'.pin (b, o) (List.mem_append_right _ (List.mem_append_right _ (mem_pinsAt hb e)))).2.1⟩
          have hlen : (wipe σ (own.map (·.2))).length = τ.length := by rw [← hw, wipe_length]
          refine ⟨m', hm, i + 1, H', (I'.unpinned (pins := [])).weak hlen (fun j v e => ?_), T.keep _ _ _ stg fun b hb o e => (stay b hb o e).1, fun b hb => ?_, w'⟩
          · rw [← hw] at e
            exact (wipe_some e).1
          · obtain ⟨o, e, _⟩ := T.obj _ _ stg b hb
            exact (stay b hb o e).2
        show wpAny _ _ (pure true) _ _ _
        refine wpAny_pure ?_
        rw [if_pos rfl]
        refine thnF (pe.run _ sh τ Hh _ Ih qh) ?_
        rintro z si ⟨_, Hi, Ii, rz, c, S, k, rfl, hSet, hk, nx⟩
        obtain ⟨tz, rfl⟩ := rz
        refine setR_add (setO_get (X := X.blk sc Hc scope ce fp) Ii hSet) hk fun h' sbt new => ?_
        obtain ⟨o, es, ep, b1, ho, b2⟩ := id new
        exact next (Ii.write (e := D) (t' := si.toks + 1) (by rw [hSet]; trivial) (.inl rfl) (fun b u hb hu => (sbt.2 b hb).trans hu) ⟨o, ho⟩ (setO_new new)) nx
    exact PpSet.codeAny_compStart_set run (T.self X.A 0 _ _ _ std run)
  exact goal
/-- its reading over a list that the block leaves as it is -/
theorem setc_list {w : World} {K : PySem.W.Frag} {a : Addr} {xs : List V} {g : TG} {te : TE} {vs : List Nat} {σ : L2.St} {H1 : Hp} {D : Addr} {Qd : Hp → Prop} (Pv : Nat → Hp → Prop) (h0 : Pv 0 (upd H1 D (set0 w D))) (hl : ∀ i H, Pv i H → SqL K H a xs)
    (hs : ∀ i x H, xs[i]? = some x → Pv i H → g x (wipe σ vs) H fun σ2 H2 => wipe σ2 vs = wipe σ vs ∧ te σ2 H2 fun y H4 => ∃ (c : Int) (S : Int → Bool) (n : Nat), y = .int c ∧ H4 D = some (SetO w D S n) ∧ n + 1 < scanBound ∧ Pv (i + 1) (upd H4 D (setAdd w D S n c))) (hd : ∀ H, Pv xs.length H → Qd H) :
    ∃ W : Nat → Nat → Hp → Prop, (∃ m, W 0 m (upd H1 D (set0 w D))) ∧ ∀ i m H, W i m H →
      ((Itl K a).stop i H ∧ Qd H) ∨ ((Itl K a).go i H ∧ ∃ Nx : Hp → Prop, (∀ H', Nx H' → ∃ m', m' < m ∧ W (i + 1) m' H') ∧ ∀ x H', (Itl K a).yld i H x H' → g x (wipe σ vs) H' fun σ2 H2 => wipe σ2 vs = wipe σ vs ∧
        te σ2 H2 fun y H4 => ∃ (c : Int) (S : Int → Bool) (n : Nat), y = .int c ∧ H4 D = some (SetO w D S n) ∧ n + 1 < scanBound ∧ Nx (upd H4 D (setAdd w D S n c))) := by
  refine ⟨fun i m H => m + i = xs.length ∧ Pv i H, ⟨xs.length, rfl, h0⟩, ?_⟩
  rintro i m H ⟨e, p⟩
  have q := hl i H p
  cases m with
  | zero =>
    have e' : i = xs.length := by omega
    rw [e'] at p
    exact .inl ⟨⟨xs, q, by omega⟩, hd H p⟩
  | succ m =>
    have lt : i < xs.length := by omega
    refine .inr ⟨⟨xs, xs[i], q, List.getElem?_eq_getElem lt⟩, Pv (i + 1), fun H' p' => ⟨m, Nat.lt_succ_self _, by omega, p'⟩, ?_⟩
    rintro x H' ⟨rfl, y⟩
    exact hs i x _ (y xs q) p
end
end Ru
/-! The text by places, and what every def may lean on. -/
namespace Wk
open PySem L2 Ru
def top (i : Nat) : Stmt := PySem.Challenge.pw_anystore_k61_whole_words_once_in_order.main.body.getD i (.Pass ⟨0, 0, 0, 0⟩)
abbrev sWhole : Stmt := top 6
abbrev sMarks : Stmt := top 13
abbrev sBorne : Stmt := top 14
abbrev sIsStore : Stmt := top 15
abbrev sTurn : Stmt := top 16
abbrev sInit : Stmt := inClass (top 17) 0
abbrev sPut : Stmt := inClass (top 17) 1
abbrev sStore : Stmt := inClass (top 17) 2
abbrev sSpoil : Stmt := inClass (top 17) 3
abbrev sWould : Stmt := inClass (top 17) 4
abbrev sMust : Stmt := inClass (top 17) 5
abbrev sTaken : Stmt := inClass (top 17) 6
abbrev sHeard : Stmt := inClass (top 17) 7
abbrev sEnd : Stmt := inClass (top 17) 8
abbrev sBeat : Stmt := inClass (top 17) 9
abbrev sPlain : Stmt := inClass (top 17) 10
abbrev sUnder : Stmt := inClass (top 17) 11
abbrev sBag : Stmt := top 19
abbrev sTake : Stmt := top 20
abbrev sLStore : Stmt := top 21
abbrev sGone : Stmt := top 22
abbrev sHabit : Stmt := top 23
abbrev sLost : Stmt := top 24
abbrev sBrings : Stmt := top 25
abbrev sAll : Stmt := top 26
abbrev sLaw : Stmt := top 27
section
variable (P : Program) (w : World) (K : PySem.W.Frag) (mg : Str → Option Value) (base : Heap)
/-- a def of the module that may be called by its name -/
structure Has (k : Nat) (x : Str) (ps : List Str) (sp : Sp) : Prop where
  ex : ∃ (f : Addr) (fd : FuncData), FnOk P w K mg base CX0 k f fd ps sp ∧ mg x = some (.ref f) ∧ PySem.W.keepIn K (.ref f) = true ∧ Binds K fd ps []
/-- a method of the class at C -/
structure HasM (C : Addr) (k : Nat) (m : Str) (ps : List Str) (sp : Sp) : Prop where
  ex : ∃ (f : Addr) (fd : FuncData), FnOk P w K mg base CX0 k f fd ps sp ∧ Meth K C m f ∧ Binds K fd ps []
end
/-- the attributes of a way, in the order in which they are first set -/
def wk : List Str := ["hold", "miss", "bound", "lost_letters", "lost_echoes", "mark", "bears", "slot", "last", "took", "box", "letters", "echoes"]
/-- the built-in names that are called -/
def blt : List Str := ["isinstance", "int", "bool", "len", "all", "zip", "list", "tuple", "range", "abs", "max", "min"]
/-- what the text has at its top -/
structure Txt (K : PySem.W.Frag) (mg : Str → Option Value) (C : Addr) : Prop where
  cl : Cls K C
  no : ∀ f ∈ wk, NoAttr K C f
  mgC : mg "Way" = some (.ref C)
  bi : ∀ x ∈ blt, mg x = none
  mh : ∃ t, mg "MOST_HOLD" = some (.int 6 t)
  mm : ∃ t, mg "MOST_MISS" = some (.int 4 t)
  mb : ∃ t, mg "MOST_BOUND" = some (.int 40 t)
  pa : ∃ t, mg "PARTS" = some (.int 8 t)
  fi : ∃ f e1 e2, mg "FIRST" = some (.ref f) ∧ (∀ H, SqT K H f [.int 0, .int 0, .non, .ref e1, .int 0, .int 0, .non, .ref e2]) ∧ (∀ H, SqT K H e1 []) ∧ ∀ H, SqT K H e2 []
theorem Txt.b {K : PySem.W.Frag} {mg : Str → Option Value} {C : Addr} {x : Str} (T : Txt K mg C) (i : Nat) (h : blt[i]? = some x := by rfl) : mg x = none := T.bi x (List.mem_of_getElem? h)
theorem Txt.n {K : PySem.W.Frag} {mg : Str → Option Value} {C : Addr} {f : Str} (T : Txt K mg C) (i : Nat) (h : wk[i]? = some f := by rfl) : NoAttr K C f := T.no f (List.mem_of_getElem? h)
/-! ### the attributes by places -/
theorem wk_nodup : wk.Nodup := by decide +kernel
theorem lookup_zip {α β : Type} [BEq α] [LawfulBEq α] {k : α} {v : β} : ∀ {ks : List α} {vs : List β} {i : Nat}, ks.Nodup → ks[i]? = some k → vs[i]? = some v → (ks.zip vs).lookup k = some v
  | [], _, _, _, h, _ => by simp at h
  | _ :: _, [], _, _, _, h => by simp at h
  | a :: ks, b :: vs, 0, _, h1, h2 => by
    simp at h1 h2
    subst h1 h2
    simp
  | a :: ks, b :: vs, i + 1, hn, h1, h2 => by
    have hn' := List.nodup_cons.mp hn
    have ne : ¬ k = a := fun e => hn'.1 (by rw [← e]; exact List.mem_of_getElem? (by simpa using h1))
    rw [List.zip_cons_cons, List.lookup_cons, (beq_eq_false_iff_ne.mpr ne)]
    exact lookup_zip hn'.2 (by simpa using h1) (by simpa using h2)
theorem lookup_no {α β : Type} [BEq α] [LawfulBEq α] {k : α} : ∀ {ks : List α} {vs : List β}, k ∉ ks → (ks.zip vs).lookup k = none
  | [], _, _ => rfl
  | _ :: _, [], _ => by simp
  | a :: ks, b :: vs, h => by
    rw [List.zip_cons_cons, List.lookup_cons, beq_eq_false_iff_ne.mpr fun e => h (by rw [e]; exact List.mem_cons_self)]
    exact lookup_no fun z => h (List.mem_cons_of_mem _ z)
theorem putF_zip {k : Str} {v : V} : ∀ {ks : List Str} {vs : List V} {i : Nat}, ks.Nodup → ks[i]? = some k → i < vs.length → putF k v (ks.zip vs) = ks.zip (vs.set i v)
  | [], _, _, _, h, _ => by simp at h
  | _ :: _, [], _, _, _, h => by simp at h
  | a :: ks, b :: vs, 0, _, h1, _ => by
    simp at h1
    subst h1
    show (if a = a then _ else _) = _
    rw [if_pos rfl] <;> rfl
  | a :: ks, b :: vs, i + 1, hn, h1, h2 => by
    have hn' := List.nodup_cons.mp hn
    have ne : ¬ a = k := fun e => hn'.1 (by rw [e]; exact List.mem_of_getElem? (by simpa using h1))
    show (if a = k then _ else (a, b) :: putF k v (ks.zip vs)) = _
    rw [if_neg ne, putF_zip hn'.2 (by simpa using h1) (by simpa using h2)] <;> rfl
theorem putF_new {k : Str} {v : V} : ∀ {fs : List (Str × V)}, k ∉ fs.map (·.1) → putF k v fs = fs ++ [(k, v)]
  | [], _ => rfl
  | (a, b) :: fs, h => by
    have ne : ¬ a = k := fun e => h (by rw [← e]; exact List.mem_cons_self)
    show (if a = k then _ else (a, b) :: putF k v fs) = _
    rw [if_neg ne, putF_new fun z => h (List.mem_cons_of_mem _ z)] <;> rfl
end Wk
namespace Wk
open PySem L2 Ru
section
variable {P : Program} {w : World} {K : PySem.W.Frag} {mg : Str → Option Value} {base : Heap} {C f : Addr} {fd : FuncData}
/-! ### is_whole, marks, is_borne -/
def spWhole : Sp := fun vs H Q _ => ∃ i lo hi : Int, vs = [.int i, .int lo, .int hi] ∧ Q (.bl (decide (lo ≤ i) && decide (i ≤ hi))) H
theorem scWhole : FnScope ["thing", "least", "most"] ["thing", "least", "most"] (defScope sWhole) := ⟨rfl, rfl, rfl, by decide +kernel, rfl, by decide +kernel, by decide +kernel⟩
theorem ok_whole (F : Fun K "is_whole" "is_whole" sWhole f fd) (T : Txt K mg C) : FnOk P w K mg base CX0 1 f fd ["thing", "least", "most"] spWhole := by
  refine F.ok scWhole (fun vs H Q E ⟨i, lo, hi, e, _⟩ => by rw [e]; rfl) (fun cdv A outer s H vs Q E hr h => ?_)
  obtain ⟨i, lo, hi, rfl, k⟩ := h
  refine ⟨_, pss_one (ps_ret (pe_and (pe_callB call_isi (by rfl) (T.b 0) (by decide +kernel) (pa_cons (pv 0) (pa_cons (pe_bltn (v := .ty "int") (by rfl) (T.b 1) (by decide +kernel) rfl) pa_nil)))
    (pe_and (pe_not (pe_callB call_isi (by rfl) (T.b 0) (by decide +kernel) (pa_cons (pv 0) (pa_cons (pe_bltn (v := .ty "bool") (by rfl) (T.b 2) (by decide +kernel) rfl) pa_nil))))
      (pe_one (pe_chain op_le op_le (pv 1) (pv 0) (pv 2)))))), ?_⟩
  refine ⟨_, rfl, _, _, _, _, true, rfl, .ty "int", .base (.int i), rfl, true, rfl, iteT ?_⟩
  refine ⟨_, rfl, _, _, _, _, false, rfl, .ty "bool", .base (.int i), kit_ty (by decide +kernel), false, rfl, true, rfl, iteT ?_⟩
  refine ⟨_, rfl, _, rfl, _, _, rfl, rfl, _, rfl, ?_⟩
  by_cases h1 : lo ≤ i
  · rw [decide_eq_true h1]
    refine iteT ⟨_, rfl, _, _, rfl, rfl, ?_⟩
    rw [decide_eq_true h1, Bool.true_and] at k
    exact k
  · rw [decide_eq_false h1]
    rw [decide_eq_false h1, Bool.false_and] at k
    exact iteF k
def spMarks : Sp := fun vs H Q _ => ∃ h : Nat, vs = [.int h] ∧ h ≤ 6 ∧ Q (.int ((2 * h + 1 : Nat) : Int)) H
theorem scMarks : FnScope ["hold"] ["hold"] (defScope sMarks) := ⟨rfl, rfl, rfl, by decide +kernel, rfl, by decide +kernel, by decide +kernel⟩
theorem ok_marks (F : Fun K "marks" "marks" sMarks f fd) : FnOk P w K mg base CX0 1 f fd ["hold"] spMarks := by
  refine F.ok scMarks (fun vs H Q E ⟨i, e, _⟩ => by rw [e]; rfl) (fun cdv A outer s H vs Q E hr h => ?_)
  obtain ⟨h, rfl, hh, k⟩ := h
  refine ⟨_, pss_one (ps_ret (pe_op op_add (pe_op op_mul pe_int (pv 0)) pe_int)), ?_⟩
  exact ⟨_, rfl, _, _, rfl, rfl, .inl ⟨by decide, by decide⟩, _, _, rfl, rfl, k⟩
/-- a word or none, as it lies -/
def wV : Option Int → V
  | none => .non
  | some i => .int i
def wOk (b : Nat) : Option Int → Prop
  | none => True
  | some i => 0 ≤ i ∧ i < b
def spBorne : Sp := fun vs H Q _ => ∃ (x : Option Int) (b : Nat), vs = [wV x, .int b] ∧ wOk b x ∧ Q (.bl true) H
theorem scBorne : FnScope ["thing", "bound"] ["thing", "bound"] (defScope sBorne) := ⟨rfl, rfl, rfl, by decide +kernel, rfl, by decide +kernel, by decide +kernel⟩
theorem ok_borne (F : Fun K "is_borne" "is_borne" sBorne f fd) (W : Has P w K mg base 1 "is_whole" ["thing", "least", "most"] spWhole) : FnOk P w K mg base CX0 2 f fd ["thing", "bound"] spBorne := by
  obtain ⟨fw, fdw, G, mw, kw, bw⟩ := W.ex
  refine F.ok scBorne (fun vs H Q E ⟨x, b, e, _⟩ => by rw [e]; rfl) (fun cdv A outer s H vs Q E hr h => ?_)
  obtain ⟨x, b, rfl, hx, k⟩ := h
  refine ⟨_, pss_one (ps_ret (pe_or (pe_cmp (pc_isN (pv 0))) (pe_one (pe_call G hr rfl mw kw bw .nil pass0 (pa_cons (pv 0) (pa_cons pe_int (pa_cons (pe_op op_sub (pv 1) pe_int) pa_nil))))))), ?_⟩
  cases x with
  | none => exact ⟨_, rfl, true, rfl, iteT k⟩
  | some i =>
    refine ⟨_, rfl, false, rfl, iteF ⟨_, rfl, _, rfl, _, _, rfl, rfl, i, 0, _, rfl, ?_⟩⟩
    rw [decide_eq_true hx.1, decide_eq_true (show i ≤ (b : Int) - 1 by have := hx.2; omega)]
    exact k
end
end Wk
/-! How a way lies in the heap; rows of pairs; what == tells of them. -/
namespace Wk
open PySem L2 Ru
/-- a bit as a number -/
def bV (b : Bool) : V := .int (if b then 1 else 0)
theorem bV_true : bV true = .int 1 := rfl
theorem bV_false : bV false = .int 0 := rfl
/-- a pair of a mark and something, at its own tuple -/
def PairAt {α : Type} (f : α → V) (H : Hp) (t : V) (l : Nat × α) : Prop := ∃ a, t = .ref a ∧ H a = some (.tup [.int l.1, f l.2])
inductive RowAt {α : Type} (f : α → V) (H : Hp) : List V → List (Nat × α) → Prop
  | nil : RowAt f H [] []
  | cons {t : V} {ts : List V} {l : Nat × α} {ls : List (Nat × α)} : PairAt f H t l → RowAt f H ts ls → RowAt f H (t :: ts) (l :: ls)
/-- what stood stands, but where D -/
def Kept (H H' : Hp) (D : Addr → Prop) : Prop := ∀ q o, H q = some o → ¬ D q → H' q = some o
theorem Kept.same {H H' : Hp} (k : Kept H H' fun _ => False) : Same H H' := fun q o e => k q o e fun z => z
theorem Kept.of {H H' : Hp} {D : Addr → Prop} (s : Same H H') : Kept H H' D := fun q o e _ => s q o e
theorem Kept.trans {H H1 H2 : Hp} {D : Addr → Prop} (a : Kept H H1 D) (b : Kept H1 H2 D) : Kept H H2 D := fun q o e n => b q o (a q o e n) n
theorem Kept.mono {H H' : Hp} {D D' : Addr → Prop} (a : Kept H H' D) (h : ∀ q, D q → D' q) : Kept H H' D' := fun q o e n => a q o e fun z => n (h q z)
theorem Kept.upd {H : Hp} {D : Addr → Prop} {p : Addr} {o : HO} (h : D p) : Kept H (L2.upd H p o) D := fun q u e n => by
  rw [upd_ne fun z => n (by rw [z]; exact h)]
  exact e
theorem Same.new {H : Hp} {p : Addr} {o : HO} (h : H p = none) : Same H (L2.upd H p o) := fun q u e => by
  rw [upd_ne fun z => by rw [z, h] at e; cases e]
  exact e
/-- lists and instances, that may change -/
def soft : HO → Bool
  | .lst _ => true
  | .ins _ _ _ => true
  | _ => false
/-- where D nothing but such stands -/
def NoTup (H : Hp) (D : Addr → Prop) : Prop := ∀ q o, D q → H q = some o → soft o = true
theorem PairAt.kept {α : Type} {f : α → V} {H H' : Hp} {D : Addr → Prop} {t : V} {l : Nat × α} (h : PairAt f H t l) (k : Kept H H' D) (n : NoTup H D) : PairAt f H' t l := by
  obtain ⟨a, e, ea⟩ := h
  exact ⟨a, e, k a _ ea fun d => by cases n a _ d ea⟩
theorem RowAt.kept {α : Type} {f : α → V} {H H' : Hp} {D : Addr → Prop} {ts : List V} {ls : List (Nat × α)} (h : RowAt f H ts ls) (k : Kept H H' D) (n : NoTup H D) : RowAt f H' ts ls := by
  induction h with
  | nil => exact .nil
  | cons p _ ih => exact .cons (p.kept k n) ih
theorem RowAt.same {α : Type} {f : α → V} {H H' : Hp} {ts : List V} {ls : List (Nat × α)} (h : RowAt f H ts ls) (k : Same H H') : RowAt f H' ts ls :=
  h.kept (D := fun _ => False) (Kept.of k) fun _ _ z => z.elim
theorem RowAt.length {α : Type} {f : α → V} {H : Hp} {ts : List V} {ls : List (Nat × α)} (h : RowAt f H ts ls) : ts.length = ls.length := by
  induction h with
  | nil => rfl
  | cons _ _ ih => rw [List.length_cons, List.length_cons, ih]
theorem RowAt.append {α : Type} {f : α → V} {H : Hp} {ts us : List V} {ls ms : List (Nat × α)} (h : RowAt f H ts ls) (k : RowAt f H us ms) : RowAt f H (ts ++ us) (ls ++ ms) := by
  induction h with
  | nil => exact k
  | cons p _ ih => exact .cons p ih
theorem RowAt.get {α : Type} {f : α → V} {H : Hp} {ts : List V} {ls : List (Nat × α)} (h : RowAt f H ts ls) : ∀ {i : Nat} {t : V}, ts[i]? = some t → ∃ l, ls[i]? = some l ∧ PairAt f H t l := by
  induction h with
  | nil => intro i t e; simp at e
  | cons p _ ih =>
    intro i t e
    cases i with
    | zero => simp at e; subst e; exact ⟨_, rfl, p⟩
    | succ i => simpa using ih (by simpa using e)
theorem RowAt.nil_iff {α : Type} {f : α → V} {H : Hp} {ls : List (Nat × α)} (h : RowAt f H [] ls) : ls = [] := by cases h; rfl
theorem RowAt.tail {α : Type} {f : α → V} {H : Hp} {ts : List V} {ls : List (Nat × α)} (h : RowAt f H ts ls) : RowAt f H ts.tail ls.tail := by
  cases h with
  | nil => exact .nil
  | cons _ h => exact h
/-! ### == -/
def dW : Option Int → PyData
  | none => .none
  | some i => .int i
theorem dp_w {K : PySem.W.Frag} {H : Hp} (x : Option Int) : Dp K H (wV x) (dW x) := by
  cases x with
  | none => exact .non
  | some i => exact .int i
theorem eqv_w (x y : Option Int) : PyData.eqv (dW x) (dW y) = decide (x = y) := by
  cases x <;> cases y <;> simp [dW, PyData.eqv, Bool.beq_eq_decide_eq]
theorem dp_pair {α : Type} {f : α → V} {g : α → PyData} {K : PySem.W.Frag} {H : Hp} {t : V} {l : Nat × α} (hg : ∀ x, Dp K H (f x) (g x)) (h : PairAt f H t l) : Dp K H t (.tuple [.int l.1, g l.2]) := by
  obtain ⟨a, rfl, e⟩ := h
  exact .tup (SqT.of e) (.cons (.int _) (.cons (hg _) .nil))
theorem dp_row {α : Type} {f : α → V} {g : α → PyData} {K : PySem.W.Frag} {H : Hp} {ts : List V} {ls : List (Nat × α)} (hg : ∀ x, Dp K H (f x) (g x)) (h : RowAt f H ts ls) : DpAll K H ts (ls.map fun l => .tuple [.int l.1, g l.2]) := by
  induction h with
  | nil => exact .nil
  | cons p _ ih => exact .cons (dp_pair hg p) ih
theorem shaped_of {d : PyData} (h1 : d.canLay0 = true) (h2 : d.depth ≤ 64) : SeqAt.shaped d = true := by
  unfold SeqAt.shaped
  rw [h1, decide_eq_true h2]; rfl
theorem lay_w (x : Option Int) : (dW x).canLay0 = true ∧ (dW x).depth = 0 := by
  cases x <;> simp [dW, PyData.canLay0, PyData.depth]
theorem shaped_w (x : Option Int) : SeqAt.shaped (dW x) = true := shaped_of (lay_w x).1 (by rw [(lay_w x).2]; decide)
theorem shaped_pair {i : Int} {d : PyData} (h1 : d.canLay0 = true) (h2 : d.depth = 0) : SeqAt.shaped (.tuple [.int i, d]) = true := by
  refine shaped_of ?_ ?_
  · simp [PyData.canLay0, PyData.canLayAll0, h1]
  · simp [PyData.depth, PyData.depthAll, h2]
theorem lay_row {α : Type} {g : α → PyData} (hg : ∀ x, (g x).canLay0 = true ∧ (g x).depth = 0) (ls : List (Nat × α)) :
    PyData.canLayAll0 (ls.map fun l => .tuple [.int l.1, g l.2]) = true ∧ PyData.depthAll (ls.map fun l => .tuple [.int l.1, g l.2]) ≤ 1 := by
  induction ls with
  | nil => simp [PyData.canLayAll0, PyData.depthAll]
  | cons l r ih =>
    obtain ⟨h1, h2⟩ := hg l.2
    simp only [List.map_cons, PyData.canLayAll0, PyData.depthAll, PyData.canLay0, PyData.depth, h1, h2, ih.1, Bool.and_self, true_and, Nat.max_le]
    exact ⟨by simp, ih.2⟩
theorem shaped_list {α : Type} {g : α → PyData} (hg : ∀ x, (g x).canLay0 = true ∧ (g x).depth = 0) (ls : List (Nat × α)) : SeqAt.shaped (.list (ls.map fun l => .tuple [.int l.1, g l.2])) = true := by
  obtain ⟨h1, h2⟩ := lay_row hg ls
  refine shaped_of ?_ ?_
  · simpa [PyData.canLay0] using h1
  · simp only [PyData.depth]; omega
theorem shaped_tup {α : Type} {g : α → PyData} (hg : ∀ x, (g x).canLay0 = true ∧ (g x).depth = 0) (ls : List (Nat × α)) : SeqAt.shaped (.tuple (ls.map fun l => .tuple [.int l.1, g l.2])) = true := by
  obtain ⟨h1, h2⟩ := lay_row hg ls
  refine shaped_of ?_ ?_
  · simpa [PyData.canLay0] using h1
  · simp only [PyData.depth]; omega
theorem eqv_nilL (ds : List PyData) : PyData.eqv (.list ds) (.list []) = ds.isEmpty := by
  cases ds <;> simp [PyData.eqv, PyData.eqvAll]
theorem eqv_nilT (ds : List PyData) : PyData.eqv (.tuple ds) (.tuple []) = ds.isEmpty := by
  cases ds <;> simp [PyData.eqv, PyData.eqvAll]
theorem shaped_nilL : SeqAt.shaped (.list []) = true := by simp [SeqAt.shaped, PyData.canLay0, PyData.canLayAll0, PyData.depth, PyData.depthAll]
theorem shaped_nilT : SeqAt.shaped (.tuple []) = true := by simp [SeqAt.shaped, PyData.canLay0, PyData.canLayAll0, PyData.depth, PyData.depthAll]
theorem eqv_pair (i j : Int) (d e : PyData) : PyData.eqv (.tuple [.int i, d]) (.tuple [.int j, e]) = (decide (i = j) && PyData.eqv d e) := by
  simp [PyData.eqv, PyData.eqvAll, Bool.beq_eq_decide_eq]
/-- lists of numbers -/
theorem dp_ints {K : PySem.W.Frag} {H : Hp} (ns : List Int) : DpAll K H (ns.map V.int) (ns.map PyData.int) := by
  induction ns with
  | nil => exact .nil
  | cons n r ih => exact .cons (.int n) ih
theorem eqv_ints (ns ms : List Int) : PyData.eqvAll (ns.map PyData.int) (ms.map PyData.int) = decide (ns = ms) := by
  induction ns generalizing ms with
  | nil => cases ms <;> simp [PyData.eqvAll]
  | cons n r ih =>
    cases ms with
    | nil => simp [PyData.eqvAll]
    | cons m s => simp [PyData.eqvAll, PyData.eqv, ih, Bool.beq_eq_decide_eq]
theorem shaped_ints (ns : List Int) : SeqAt.shaped (.list (ns.map PyData.int)) = true := by
  have h : PyData.canLayAll0 (ns.map PyData.int) = true ∧ PyData.depthAll (ns.map PyData.int) = 0 := by
    induction ns with
    | nil => simp [PyData.canLayAll0, PyData.depthAll]
    | cons n r ih => simp [PyData.canLayAll0, PyData.depthAll, PyData.canLay0, PyData.depth, ih.1, ih.2]
  refine shaped_of ?_ ?_
  · simpa [PyData.canLay0] using h.1
  · simp only [PyData.depth, h.2]; omega
theorem eqv_lists (ns ms : List Int) : PyData.eqv (.list (ns.map PyData.int)) (.list (ms.map PyData.int)) = decide (ns = ms) := by
  rw [PyData.eqv]; exact eqv_ints ns ms
/-! ### a way in the heap -/
/-- hold, miss, bound -/
structure Cf where
  h : Nat
  g : Nat
  b : Nat
structure Cf.Ok (c : Cf) : Prop where
  h1 : 1 ≤ c.h
  h2 : c.h ≤ 6
  g1 : 1 ≤ c.g
  g2 : c.g ≤ 4
  b1 : 1 ≤ c.b
  b2 : c.b ≤ 40
def wv (c : Cf) (fl fe : Nat) (s : Wy.S) (lp ep : Addr) : List V :=
  [.int c.h, .int c.g, .int c.b, .int fl, .int fe, .int s.mark, bV s.bears, wV s.slot, .int s.last, bV s.took, wV s.box, .ref lp, .ref ep]
structure WayAt (C : Addr) (H : Hp) (p : Addr) (c : Cf) (fl fe : Nat) (s : Wy.S) (lp ep : Addr) : Prop where
  i : ∃ dx, H p = some (.ins C dx (wk.zip (wv c fl fe s lp ep)))
  l : ∃ ts, H lp = some (.lst ts) ∧ RowAt wV H ts s.letters
  e : ∃ us, H ep = some (.lst us) ∧ RowAt bV H us s.echoes
  ne : lp ≠ ep
/-- what a way is made of, beside its tuples -/
def Own (p lp ep : Addr) (q : Addr) : Prop := q = p ∨ q = lp ∨ q = ep
theorem WayAt.kept {C : Addr} {H H' : Hp} {p : Addr} {c : Cf} {fl fe : Nat} {s : Wy.S} {lp ep : Addr} {D : Addr → Prop} (h : WayAt C H p c fl fe s lp ep) (k : Kept H H' D) (n : NoTup H D) (o : ∀ q, Own p lp ep q → ¬ D q) : WayAt C H' p c fl fe s lp ep := by
  obtain ⟨⟨dx, i⟩, ⟨ts, l, tl⟩, ⟨us, e, te⟩, ne⟩ := h
  exact ⟨⟨dx, k _ _ i (o _ (.inl rfl))⟩, ⟨ts, k _ _ l (o _ (.inr (.inl rfl))), tl.kept k n⟩, ⟨us, k _ _ e (o _ (.inr (.inr rfl))), te.kept k n⟩, ne⟩
theorem WayAt.same {C : Addr} {H H' : Hp} {p : Addr} {c : Cf} {fl fe : Nat} {s : Wy.S} {lp ep : Addr} (h : WayAt C H p c fl fe s lp ep) (k : Same H H') : WayAt C H' p c fl fe s lp ep :=
  h.kept (D := fun _ => False) (Kept.of k) (fun _ _ z => z.elim) fun _ _ z => z
theorem no_tup1 {H : Hp} {p : Addr} {o : HO} (h : H p = some o) (n : soft o = true) : NoTup H fun q => q = p := fun q u e z => by
  rw [e, h] at z
  rw [← Option.some.inj z]; exact n
theorem no_own {C : Addr} {H : Hp} {p : Addr} {c : Cf} {fl fe : Nat} {s : Wy.S} {lp ep : Addr} (h : WayAt C H p c fl fe s lp ep) : NoTup H (Own p lp ep) := fun q u e z => by
  obtain ⟨⟨dx, i⟩, ⟨ts, l, _⟩, ⟨us, e', _⟩, _⟩ := h
  rcases e with e | e | e <;> subst e
  · rw [i] at z; cases z; rfl
  · rw [l] at z; cases z; rfl
  · rw [e'] at z; cases z; rfl
theorem sqT_kept {K : PySem.W.Frag} {H H' : Hp} {D : Addr → Prop} {a : Addr} {xs : List V} (h : SqT K H a xs) (k : Kept H H' D) (n : NoTup H D) : SqT K H' a xs := by
  rcases h with (h | ⟨o, h⟩) | h
  · exact .inl (.inl (k a _ h fun d => by cases n a _ d h))
  · exact .inl (.inr ⟨o, k a _ h fun d => by cases n a _ d h⟩)
  · exact .inr h
theorem sqT_same {K : PySem.W.Frag} {H H' : Hp} {a : Addr} {xs : List V} (h : SqT K H a xs) (k : Same H H') : SqT K H' a xs :=
  sqT_kept (D := fun _ => False) h (Kept.of k) fun _ _ z => z.elim
/-- the attribute of a place, read -/
theorem at_wk {v : V} {vs : List V} {f : Str} (i : Nat) (h : wk[i]? = some f) (hv : vs[i]? = some v) : (wk.zip vs).lookup f = some v := lookup_zip wk_nodup h hv
/-- .. and set -/
theorem put_wk {v : V} {vs : List V} {f : Str} (i : Nat) (h : wk[i]? = some f) (hl : vs.length = 13) : putF f v (wk.zip vs) = wk.zip (vs.set i v) :=
  putF_zip wk_nodup h (by rw [hl]; exact (List.getElem?_eq_some_iff.mp h).1)
theorem len_wk {vs : List V} (hl : vs.length = 13) : (wk.zip vs).length < 1000 := by
  rw [List.length_zip, hl]; decide
end Wk
namespace Wk
open PySem L2 Ru
section
variable {P : Program} {w : World} {K : PySem.W.Frag} {mg : Str → Option Value} {base : Heap} {C f : Addr} {fd : FuncData}
/-! ### put_down, store -/
def putAll (fs : List (Str × V)) (m b s l t x lp ep : V) : List (Str × V) :=
  putF "echoes" ep (putF "letters" lp (putF "box" x (putF "took" t (putF "last" l (putF "slot" s (putF "bears" b (putF "mark" m fs)))))))
def spPut (K : PySem.W.Frag) (C : Addr) : Sp := fun vs H Q _ => ∃ (p dx st la ea : Addr) (fs : List (Str × V)) (m b s l t x : V) (ts us : List V), vs = [.ref p, .ref st] ∧ H p = some (.ins C dx fs) ∧ fs.length ≤ 20 ∧
  SqT K H st [m, b, s, .ref la, l, t, x, .ref ea] ∧ SqT K H la ts ∧ SqT K H ea us ∧
  ∀ (H' : Hp) (lp ep : Addr), H lp = none → H ep = none → lp ≠ ep → Kept H H' (· = p) → H' lp = some (.lst ts) → H' ep = some (.lst us) → H' p = some (.ins C dx (putAll fs m b s l t x (.ref lp) (.ref ep))) → Q .non H'
theorem scPut : FnScope ["self", "store", "letters", "echoes"] ["self", "store"] (defScope sPut) := ⟨rfl, rfl, rfl, by decide +kernel, rfl, by decide +kernel, by decide +kernel⟩
theorem ok_put (F : Fun K "put_down" "Way.put_down" sPut f fd) (T : Txt K mg C) : FnOk P w K mg base CX0 1 f fd ["self", "store"] (spPut K C) := by
  refine F.ok scPut (fun vs H Q E h => ?_) (fun cdv A outer s H vs Q E hr h => ?_)
  · obtain ⟨p, dx, st, la, ea, fs, m, b, s, l, t, x, ts, us, rfl, _⟩ := h
    rfl
  · obtain ⟨p, dx, st, la, ea, fs, m, b, sl, l, t, x, ts, us, rfl, hp, hlen, hst, hla, hea, k⟩ := h
    refine ⟨_, pss_cons (ps_asg (pv 1) (pg_tup (by rfl) (pgs_cons (pg_at (pv 0)) (pgs_cons (pg_at (pv 0)) (pgs_cons (pg_at (pv 0)) (pgs_cons (pg_name (i := 2) scPut.nd rfl (.inl rfl)) (pgs_cons (pg_at (pv 0)) (pgs_cons (pg_at (pv 0)) (pgs_cons (pg_at (pv 0)) (pgs_cons (pg_name (i := 3) scPut.nd rfl (.inl rfl)) pgs_nil))))))))))
      (pss_cons (ps_fld (pv 0) (pe_callTy call_list_of (by rfl) (T.b 6) (by decide +kernel) (pa_cons (pv 2) pa_nil)) rfl)
        (pss_one (ps_fld (pv 0) (pe_callTy call_list_of (by rfl) (T.b 6) (by decide +kernel) (pa_cons (pv 3) pa_nil)) rfl))), ?_⟩
    have lp1 : ∀ (k : Str) (v : V) (gs : List (Str × V)) (n : Nat), gs.length ≤ n → (putF k v gs).length ≤ n + 1 := fun k v gs n h => Nat.le_trans (length_putF k v gs) (Nat.succ_le_succ h)
    have n1 := lp1 "mark" m fs 20 hlen
    have n2 := lp1 "bears" b _ 21 n1
    have n3 := lp1 "slot" sl _ 22 n2
    have n4 := lp1 "last" l _ 23 n3
    have n5 := lp1 "took" t _ 24 n4
    have n6 := lp1 "box" x _ 25 n5
    refine ⟨_, rfl, st, _, rfl, hst, rfl, ?_⟩
    refine ⟨_, _, rfl, _, rfl, p, C, dx, fs, rfl, hp, T.cl, T.n 5, by omega, ?_⟩
    refine ⟨_, _, rfl, _, rfl, p, C, dx, _, rfl, upd_same, T.cl, T.n 6, by omega, ?_⟩
    rw [upd_upd]
    refine ⟨_, _, rfl, _, rfl, p, C, dx, _, rfl, upd_same, T.cl, T.n 7, by omega, ?_⟩
    rw [upd_upd]
    refine ⟨_, _, rfl, ?_⟩
    refine ⟨_, _, rfl, _, rfl, p, C, dx, _, rfl, upd_same, T.cl, T.n 8, by omega, ?_⟩
    rw [upd_upd]
    refine ⟨_, _, rfl, _, rfl, p, C, dx, _, rfl, upd_same, T.cl, T.n 9, by omega, ?_⟩
    rw [upd_upd]
    refine ⟨_, _, rfl, _, rfl, p, C, dx, _, rfl, upd_same, T.cl, T.n 10, by omega, ?_⟩
    rw [upd_upd]
    refine ⟨_, _, rfl, rfl, ?_⟩
    generalize hfs : putF "box" x (putF "took" t (putF "last" l (putF "slot" sl (putF "bears" b (putF "mark" m fs))))) = fs6 at n6 ⊢
    have nt : NoTup H (· = p) := no_tup1 hp rfl
    have k1 : Kept H (upd H p (.ins C dx fs6)) (· = p) := Kept.upd rfl
    refine ⟨_, rfl, la, ts, rfl, .inr (sqT_kept hla k1 nt), fun lp hl => ?_⟩
    have npl : p ≠ lp := fun e => by rw [← e, upd_same] at hl; cases hl
    have hl0 : H lp = none := by rwa [upd_ne npl.symm] at hl
    have n7 := lp1 "letters" (.ref lp) _ 26 n6
    refine ⟨_, rfl, p, C, dx, _, rfl, by rw [upd_ne npl, upd_same], T.cl, T.n 11, by omega, ?_⟩
    have k2 : Kept H (upd (upd (upd H p (.ins C dx fs6)) lp (.lst ts)) p (.ins C dx (putF "letters" (.ref lp) fs6))) (· = p) := (k1.trans (Kept.of (Same.new hl))).trans (Kept.upd rfl)
    refine ⟨_, rfl, ea, us, rfl, .inr (sqT_kept hea k2 nt), fun ep he => ?_⟩
    have npe : p ≠ ep := fun e => by rw [← e, upd_same] at he; cases he
    have nle : lp ≠ ep := fun e => by rw [← e, upd_ne npl.symm, upd_same] at he; cases he
    have he0 : H ep = none := by rwa [upd_ne npe.symm, upd_ne nle.symm, upd_ne npe.symm] at he
    refine ⟨_, rfl, p, C, dx, _, rfl, by rw [upd_ne npe, upd_same], T.cl, T.n 12, by omega, ?_⟩
    refine k _ lp ep hl0 he0 nle ((k2.trans (Kept.of (Same.new he))).trans (Kept.upd rfl)) ?_ ?_ ?_
    · rw [upd_ne npl.symm, upd_ne nle, upd_ne npl.symm, upd_same]
    · rw [upd_ne npe.symm, upd_same]
    · rw [upd_same, ← hfs]; rfl
/-- on a way that stands -/
theorem putAll_full (c : Cf) (fl fe : Nat) (s : Wy.S) (l0 e0 : Addr) (m l : Nat) (b t : Bool) (sl x : Option Int) (lp ep : Addr) (ls : List (Nat × Option Int)) (es : List (Nat × Bool)) :
    putAll (wk.zip (wv c fl fe s l0 e0)) (.int m) (bV b) (wV sl) (.int l) (bV t) (wV x) (.ref lp) (.ref ep) = wk.zip (wv c fl fe ⟨m, b, sl, ls, l, t, x, es⟩ lp ep) := by
  unfold putAll
  rw [put_wk 5 rfl rfl, put_wk 6 rfl rfl, put_wk 7 rfl rfl, put_wk 8 rfl rfl, put_wk 9 rfl rfl, put_wk 10 rfl rfl, put_wk 11 rfl rfl, put_wk 12 rfl rfl]
  rfl
/-- the store as a tuple: new -/
def StoreAt (H : Hp) (r : Addr) (s : Wy.S) : Prop := ∃ (la ea : Addr) (ts us : List V), H r = some (.tup [.int s.mark, bV s.bears, wV s.slot, .ref la, .int s.last, bV s.took, wV s.box, .ref ea]) ∧ H la = some (.tup ts) ∧ H ea = some (.tup us) ∧ RowAt wV H ts s.letters ∧ RowAt bV H us s.echoes
def spStore (C : Addr) : Sp := fun vs H Q _ => ∃ (p : Addr) (c : Cf) (fl fe : Nat) (s : Wy.S) (lp ep : Addr), vs = [.ref p] ∧ WayAt C H p c fl fe s lp ep ∧ ∀ (H' : Hp) (r : Addr), H r = none → Same H H' → StoreAt H' r s → Q (.ref r) H'
theorem scStore : FnScope ["self", "rows"] ["self"] (defScope sStore) := ⟨rfl, rfl, rfl, by decide +kernel, rfl, by decide +kernel, by decide +kernel⟩
theorem ok_store (F : Fun K "store" "Way.store" sStore f fd) (T : Txt K mg C) : FnOk P w K mg base CX0 1 f fd ["self"] (spStore C) := by
  refine F.ok scStore (fun vs H Q E h => ?_) (fun cdv A outer s H vs Q E hr h => ?_)
  · obtain ⟨p, c, fl, fe, s, lp, ep, rfl, _⟩ := h
    rfl
  · obtain ⟨p, c, fl, fe, z, lp, ep, rfl, W, k⟩ := h
    obtain ⟨⟨dx, hp⟩, ⟨ts, hl, tl⟩, ⟨us, he, te⟩, nle⟩ := id W
    refine ⟨_, pss_cons (ps_set (i := 1) scStore.nd rfl (.inl rfl) (pe_tup (pa_cons (pe_callTy call_tuple_of (by rfl) (T.b 7) (by decide +kernel) (pa_cons (pe_fld (pv 0) rfl) pa_nil)) (pa_cons (pe_callTy call_tuple_of (by rfl) (T.b 7) (by decide +kernel) (pa_cons (pe_fld (pv 0) rfl) pa_nil)) pa_nil))))
      (pss_one (ps_ret (pe_tup (pa_cons (pe_fld (pv 0) rfl) (pa_cons (pe_fld (pv 0) rfl) (pa_cons (pe_fld (pv 0) rfl) (pa_cons (pe_ix ix_tup (pv 1) pe_int (fun _ _ => rfl)) (pa_cons (pe_fld (pv 0) rfl) (pa_cons (pe_fld (pv 0) rfl) (pa_cons (pe_fld (pv 0) rfl) (pa_cons (pe_ix ix_tup (pv 1) pe_int (fun _ _ => rfl)) pa_nil))))))))))), ?_⟩
    refine ⟨_, rfl, p, C, dx, _, _, rfl, hp, T.cl, T.n 11, at_wk 11 rfl rfl, lp, ts, rfl, .inl ⟨SqL.of hl, fun la hla => ?_⟩⟩
    have s1 : Same H (upd H la (.tup ts)) := Same.new hla
    refine ⟨_, rfl, p, C, dx, _, _, rfl, s1 _ _ hp, T.cl, T.n 12, at_wk 12 rfl rfl, ep, us, rfl, .inl ⟨SqL.of (s1 _ _ he), fun ea hea => ?_⟩⟩
    have s2 : Same H (upd (upd H la (.tup ts)) ea (.tup us)) := s1.trans (Same.new hea)
    refine ⟨by show 2 ≤ sizeLine; decide, fun ra hra => ?_⟩
    generalize hH3 : upd (upd (upd H la (.tup ts)) ea (.tup us)) ra (.tup [.ref la, .ref ea]) = H3
    have s3 : Same H H3 := by rw [← hH3]; exact s2.trans (Same.new hra)
    have hp3 := s3 _ _ hp
    have hra3 : H3 ra = some (.tup [.ref la, .ref ea]) := by rw [← hH3, upd_same]
    have hla3 : H3 la = some (.tup ts) := by rw [← hH3]; exact (Same.new hra) _ _ ((Same.new hea) _ _ upd_same)
    have hea3 : H3 ea = some (.tup us) := by rw [← hH3]; exact (Same.new hra) _ _ upd_same
    refine ⟨_, rfl, p, C, dx, _, _, rfl, hp3, T.cl, T.n 5, at_wk 5 rfl rfl, _, rfl, p, C, dx, _, _, rfl, hp3, T.cl, T.n 6, at_wk 6 rfl rfl, _, rfl, p, C, dx, _, _, rfl, hp3, T.cl, T.n 7, at_wk 7 rfl rfl, ?_⟩
    refine ⟨_, rfl, ra, _, 0, _, rfl, rfl, SqT.of hra3, atI_nat (j := 0) rfl, ?_⟩
    refine ⟨_, rfl, p, C, dx, _, _, rfl, hp3, T.cl, T.n 8, at_wk 8 rfl rfl, _, rfl, p, C, dx, _, _, rfl, hp3, T.cl, T.n 9, at_wk 9 rfl rfl, _, rfl, p, C, dx, _, _, rfl, hp3, T.cl, T.n 10, at_wk 10 rfl rfl, ?_⟩
    refine ⟨_, rfl, ra, _, 1, _, rfl, rfl, SqT.of hra3, atI_nat (j := 1) rfl, ?_⟩
    refine ⟨by show 8 ≤ sizeLine; decide, fun r hr4 => ?_⟩
    have s4 : Same H3 (upd H3 r (.tup [.int z.mark, bV z.bears, wV z.slot, .ref la, .int z.last, bV z.took, wV z.box, .ref ea])) := Same.new hr4
    exact k _ r (s3.free hr4) (s3.trans s4) ⟨la, ea, ts, us, upd_same, s4 _ _ hla3, s4 _ _ hea3, tl.same (s3.trans s4), te.same (s3.trans s4)⟩
end
end Wk
namespace Wk
open PySem L2 Ru
section
variable {P : Program} {w : World} {K : PySem.W.Frag} {mg : Str → Option Value} {base : Heap} {C f : Addr} {fd : FuncData}
/-! ### would_lose, must_bear -/
def spWould (K : PySem.W.Frag) (C : Addr) : Sp := fun vs H Q _ => ∃ (p q : Addr) (c : Cf) (fl fe : Nat) (s : Wy.S) (lp ep : Addr) (lost : Bool × Bool), vs = [.ref p, .ref q] ∧ WayAt C H p c fl fe s lp ep ∧ SqT K H q [.bl lost.1, .bl lost.2] ∧
  ∀ (H' : Hp) (r : Addr), H r = none → Same H H' → H' r = some (.tup [.int ((Wy.loses s fl fe lost).1 : Nat), .int ((Wy.loses s fl fe lost).2 : Nat)]) → Q (.ref r) H'
theorem dp_letters {K : PySem.W.Frag} {H : Hp} {lp : Addr} {ts : List V} {ls : List (Nat × Option Int)} (h : H lp = some (.lst ts)) (r : RowAt wV H ts ls) : Dp K H (.ref lp) (.list (ls.map fun l => .tuple [.int l.1, dW l.2])) :=
  .lst (SqL.of h) (dp_row (g := dW) dp_w r)
theorem scWould : FnScope ["self", "lost", "letters"] ["self", "lost"] (defScope sWould) := ⟨rfl, rfl, rfl, by decide +kernel, rfl, by decide +kernel, by decide +kernel⟩
theorem ok_would (F : Fun K "would_lose" "Way.would_lose" sWould f fd) (T : Txt K mg C) : FnOk P w K mg base CX0 1 f fd ["self", "lost"] (spWould K C) := by
  refine F.ok scWould (fun vs H Q E h => ?_) (fun cdv A outer s H vs Q E hr h => ?_)
  · obtain ⟨p, q, c, fl, fe, s, lp, ep, lost, rfl, _⟩ := h
    rfl
  · obtain ⟨p, q, c, fl, fe, z, lp, ep, ⟨b1, b2⟩, rfl, W, hq, k⟩ := h
    obtain ⟨⟨dx, hp⟩, ⟨ts, hl, tl⟩, ⟨us, he, te⟩, nle⟩ := id W
    refine ⟨_, pss_cons (ps_set (i := 2) scWould.nd rfl (.inl rfl) (pe_ifExp (pt_val (pe_ix ix_tup (pv 1) pe_int (fun _ _ => rfl))) (pe_op op_add (pe_fld (pv 0) rfl) pe_int) pe_int))
      (pss_cons (ps_if (pt_cmpR (op_eqD hr.units) (pe_fld (pv 0) rfl) (pe_lst pa_nil) (nomark _)) (pss_one (ps_ret (pe_tup (pa_cons (pv 2) (pa_cons (pe_fld (pv 0) rfl) pa_nil))))) pss_nil)
        (pss_one (ps_ret (pe_tup (pa_cons (pv 2) (pa_cons (pe_ifExp (pt_val (pe_ix ix_tup (pv 1) pe_int (fun _ _ => rfl))) (pe_op op_add (pe_fld (pv 0) rfl) pe_int) pe_int) pa_nil)))))), ?_⟩
    refine ⟨_, rfl, q, _, 0, _, rfl, rfl, hq, atI_nat (j := 0) rfl, b1, rfl, ?_⟩
    rcases b1
    case' false => refine iteF ?_
    case' true => refine iteT ⟨_, rfl, p, C, dx, _, _, rfl, hp, T.cl, T.n 3, at_wk 3 rfl rfl, _, _, rfl, rfl, ?_⟩
    all_goals
      refine ⟨_, rfl, p, C, dx, _, _, rfl, hp, T.cl, T.n 11, at_wk 11 rfl rfl, Nat.zero_le _, fun l0 h0 => ?_⟩
      have s1 : Same H (upd H l0 (.lst [])) := Same.new h0
      refine ⟨_, _, dp_letters (s1 _ _ hl) (tl.same s1), .lst (SqL.of upd_same) .nil, shaped_list lay_w _, shaped_nilL, _, rfl, ?_⟩
      rw [eqv_nilL]
      cases hL : z.letters with
      | nil =>
        refine iteT ⟨_, rfl, _, rfl, p, C, dx, _, _, rfl, s1 _ _ hp, T.cl, T.n 4, at_wk 4 rfl rfl, by show 2 ≤ sizeLine; decide, fun r hr' => ?_⟩
        refine k _ r (s1.free hr') (s1.trans (Same.new hr')) ?_
        rw [upd_same]
        unfold Wy.loses
        rw [hL]
        rfl
      | cons l0' ls =>
        refine iteF ⟨_, rfl, _, rfl, q, _, 1, _, rfl, rfl, sqT_same hq s1, atI_nat (j := 1) rfl, b2, rfl, ?_⟩
        cases b2 with
        | true =>
          refine iteT ⟨_, rfl, p, C, dx, _, _, rfl, s1 _ _ hp, T.cl, T.n 4, at_wk 4 rfl rfl, _, _, rfl, rfl, by show 2 ≤ sizeLine; decide, fun r hr' => ?_⟩
          refine k _ r (s1.free hr') (s1.trans (Same.new hr')) ?_
          rw [upd_same]
          unfold Wy.loses
          rw [hL]
          rfl
        | false =>
          refine iteF ⟨by show 2 ≤ sizeLine; decide, fun r hr' => ?_⟩
          refine k _ r (s1.free hr') (s1.trans (Same.new hr')) ?_
          rw [upd_same]
          unfold Wy.loses
          rw [hL]
          rfl
def spMust (K : PySem.W.Frag) (C : Addr) : Sp := fun vs H Q _ => ∃ (p q : Addr) (c : Cf) (fl fe : Nat) (s : Wy.S) (lp ep : Addr) (lost : Bool × Bool), vs = [.ref p, .ref q] ∧ WayAt C H p c fl fe s lp ep ∧ SqT K H q [.bl lost.1, .bl lost.2] ∧
  (Wy.loses s fl fe lost).1 < c.g ∧ (Wy.loses s fl fe lost).2 < c.g ∧ ∀ (H' : Hp), Same H H' → Q .non H'
theorem scMust : FnScope ["self", "lost", "row", "many"] ["self", "lost"] (defScope sMust) := ⟨rfl, rfl, rfl, by decide +kernel, rfl, by decide +kernel, by decide +kernel⟩
theorem ok_must (F : Fun K "must_bear" "Way.must_bear" sMust f fd) (T : Txt K mg C) (M : HasM P w K mg base C 1 "would_lose" ["self", "lost"] (spWould K C)) : FnOk P w K mg base CX0 2 f fd ["self", "lost"] (spMust K C) := by
  obtain ⟨fw, fdw, GW, mW, bW⟩ := M.ex
  refine F.ok scMust (fun vs H Q E h => ?_) (fun cdv A outer s H vs Q E hr h => ?_)
  · obtain ⟨p, q, c, fl, fe, s, lp, ep, lost, rfl, _⟩ := h
    rfl
  · obtain ⟨p, q, c, fl, fe, z, lp, ep, lost, rfl, W, hq, g1, g2, k⟩ := h
    obtain ⟨⟨dx, hp⟩, _⟩ := id W
    refine ⟨_, pss_one (ps_for PassesOwn.never rfl (RZ.pi_zipA (by rfl) (T.b 5) (pa_cons (pe_tup (pa_cons pe_str (pa_cons pe_str pa_nil))) (pa_cons (pe_meth (pv 0) T.cl mW GW hr bW .nil pass0 (pa_cons (pv 1) pa_nil)) pa_nil)))
      (pg_tup rfl (pgs_cons (pg_name (i := 2) scMust.nd rfl (.inl rfl)) (pgs_cons (pg_name (i := 3) scMust.nd rfl (.inl rfl)) pgs_nil)))
      (pss_one (ps_if (pt_cmpR op_ge (pv 3) (pe_fld (pv 0) rfl) (nomark _)) (pss_one ps_never) pss_nil))), ?_⟩
    refine ⟨by show 2 ≤ sizeLine; decide, fun ta ha => ?_⟩
    have s1 : Same H (upd H ta (.tup [.str "letters", .str "echoes"])) := Same.new ha
    refine ⟨_, rfl, p, dx, _, rfl, s1 _ _ hp, lookup_no (by decide +kernel), _, rfl, p, q, c, fl, fe, z, lp, ep, lost, rfl, W.same s1, sqT_same hq s1, fun H2 tb hb s2 e2 => ?_⟩
    have s3 := s1.trans s2
    refine ⟨ta, tb, [.str "letters", .str "echoes"], _, rfl, .inr ⟨SqT.of (s2 _ _ upd_same), SqT.of e2, ?_⟩⟩
    refine RZ.for_zipT (xs := [.str "letters", .str "echoes"]) (ys := [.int ((Wy.loses z fl fe lost).1 : Nat), .int ((Wy.loses z fl fe lost).2 : Nat)]) rfl (fun i σ H' => Same H2 H' ∧ ∃ v2 v3, σ = [some (.ref p), some (.ref q), v2, v3]) ⟨Same.refl _, _, _, rfl⟩ (fun i σ H' ⟨s4, _⟩ => ⟨SqT.of (s4 _ _ (s2 _ _ upd_same)), SqT.of (s4 _ _ e2)⟩) ?_ (fun σ H' ⟨s4, _⟩ => k _ (s3.trans s4))
    rintro i x y t σ H' hx hy ⟨s4, v2, v3, rfl⟩ ht
    have s5 := s4.trans (Same.new (o := .tup [x, y]) ht)
    refine ⟨t, _, rfl, SqT.of upd_same, rfl, _, _, rfl, _, _, rfl, rfl, ?_⟩
    have hy' : ∃ n : Nat, y = .int n ∧ n < c.g := by
      match i, hy with
      | 0, hy => cases hy; exact ⟨_, rfl, g1⟩
      | 1, hy => cases hy; exact ⟨_, rfl, g2⟩
      | i + 2, hy => simp at hy
    obtain ⟨n, rfl, hn⟩ := hy'
    refine ⟨_, rfl, _, rfl, p, C, dx, _, _, rfl, s5 _ _ (s3 _ _ hp), T.cl, T.n 1, at_wk 1 rfl rfl, _, _, rfl, rfl, _, rfl, ?_⟩
    rw [decide_eq_false (show ¬ (c.g : Int) ≤ (n : Int) by omega)]
    exact iteF ⟨s5, _, _, rfl⟩
end
end Wk
namespace Wk
open PySem L2 Ru
theorem dec_w (x : Option Int) : decide (wV x = V.non) = x.isNone := by cases x <;> simp [wV]
theorem dec_b1 (b : Bool) : decide (bV b = V.int 1) = b := by cases b <;> simp [bV]
theorem dec_nat (i j : Nat) : decide (V.int (i : Int) = V.int (j : Int)) = (i == j) := by
  by_cases e : i = j
  · subst e
    rw [decide_eq_true rfl]; exact (beq_self_eq_true i).symm
  · rw [decide_eq_false fun z => e (by have := V.int.inj z; omega)]
    exact (beq_eq_false_iff_ne.mpr e).symm
theorem scal_nat (i j : Int) : scal (V.int i) (V.int j) = true := rfl
theorem iteET {b : Bool} {A B : Prop} (h : b = true) (x : A) : if b = true then A else B := by rw [if_pos h]; exact x
theorem iteEF {b : Bool} {A B : Prop} (h : b = false) (x : B) : if b = true then A else B := by rw [h]; exact iteF x
/-- a way whose own attributes are set anew -/
theorem WayAt.set {C : Addr} {H : Hp} {p dx : Addr} {c : Cf} {fl fe fl' fe' : Nat} {s s' : Wy.S} {lp ep : Addr} (W : WayAt C H p c fl fe s lp ep) (eL : s'.letters = s.letters) (eE : s'.echoes = s.echoes) :
    WayAt C (upd H p (.ins C dx (wk.zip (wv c fl' fe' s' lp ep)))) p c fl' fe' s' lp ep := by
  obtain ⟨⟨dy, i⟩, ⟨ts, l, tl⟩, ⟨us, e, te⟩, ne⟩ := W
  have k : Kept H (upd H p (.ins C dx (wk.zip (wv c fl' fe' s' lp ep)))) (· = p) := Kept.upd rfl
  have n : NoTup H (· = p) := no_tup1 i rfl
  have nl : lp ≠ p := ne_of l i (by intro z; cases z)
  have ne' : ep ≠ p := ne_of e i (by intro z; cases z)
  exact ⟨⟨dx, upd_same⟩, ⟨ts, by rw [upd_ne nl]; exact l, by rw [eL]; exact tl.kept k n⟩, ⟨us, by rw [upd_ne ne']; exact e, by rw [eE]; exact te.kept k n⟩, ne⟩
section
variable {P : Program} {w : World} {K : PySem.W.Frag} {mg : Str → Option Value} {base : Heap} {C f : Addr} {fd : FuncData}
/-! ### end_round -/
def spEnd (C : Addr) : Sp := fun vs H Q _ => ∃ (p : Addr) (c : Cf) (fl fe : Nat) (s : Wy.S) (lp ep : Addr) (b : Bool) (x : Option Int), vs = [.ref p, bV b, wV x] ∧ WayAt C H p c fl fe s lp ep ∧ c.h ≤ 6 ∧
  ∀ (H' : Hp), Kept H H' (· = p) → WayAt C H' p c fl fe { s with mark := (s.mark + 1) % (2 * c.h + 1), bears := b, slot := x } lp ep → Q .non H'
theorem scEnd : FnScope ["self", "bears", "slot"] ["self", "bears", "slot"] (defScope sEnd) := ⟨rfl, rfl, rfl, by decide +kernel, rfl, by decide +kernel, by decide +kernel⟩
theorem ok_end (F : Fun K "end_round" "Way.end_round" sEnd f fd) (T : Txt K mg C) (M : Has P w K mg base 1 "marks" ["hold"] spMarks) : FnOk P w K mg base CX0 2 f fd ["self", "bears", "slot"] (spEnd C) := by
  obtain ⟨fm, fdm, GM, mM, kM, bM⟩ := M.ex
  refine F.ok scEnd (fun vs H Q E h => ?_) (fun cdv A outer s H vs Q E hr h => ?_)
  · obtain ⟨p, c, fl, fe, s, lp, ep, b, x, rfl, _⟩ := h
    rfl
  · obtain ⟨p, c, fl, fe, z, lp, ep, b, x, rfl, W, hh, k⟩ := h
    obtain ⟨⟨dx, hp⟩, _⟩ := id W
    refine ⟨_, pss_cons (ps_fld (pv 0) (pe_op op_mod (pe_op op_add (pe_fld (pv 0) rfl) pe_int) (pe_call GM hr rfl mM kM bM .nil pass0 (pa_cons (pe_fld (pv 0) rfl) pa_nil))) rfl)
      (pss_one (ps_asg (pe_tup (pa_cons (pv 1) (pa_cons (pv 2) pa_nil))) (pg_tup rfl (pgs_cons (pg_at (pv 0)) (pgs_cons (pg_at (pv 0)) pgs_nil))))), ?_⟩
    refine ⟨_, rfl, p, C, dx, _, _, rfl, hp, T.cl, T.n 5, at_wk 5 rfl rfl, _, _, rfl, rfl, _, rfl, p, C, dx, _, _, rfl, hp, T.cl, T.n 0, at_wk 0 rfl rfl, c.h, rfl, hh, ?_⟩
    refine ⟨_, _, rfl, rfl, (by show (0 : Int) < ((2 * c.h + 1 : Nat) : Int); omega), ?_⟩
    have em : ((z.mark : Int) + 1) % ((2 * c.h + 1 : Nat) : Int) = (((z.mark + 1) % (2 * c.h + 1) : Nat) : Int) := by
      rw [Int.natCast_emod]; rfl
    dsimp only
    rw [em]
    refine ⟨_, rfl, p, C, dx, _, rfl, hp, T.cl, T.n 5, len_wk rfl, ?_⟩
    rw [put_wk 5 rfl rfl]
    refine ⟨_, rfl, _, rfl, by show 2 ≤ sizeLine; decide, fun t ht => ?_⟩
    have npt : p ≠ t := fun e => by rw [← e, upd_same] at ht; cases ht
    refine ⟨t, _, rfl, SqT.of upd_same, rfl, ?_⟩
    refine ⟨_, _, rfl, _, rfl, p, C, dx, _, rfl, by rw [upd_ne npt, upd_same], T.cl, T.n 6, len_wk rfl, ?_⟩
    rw [put_wk 6 rfl rfl]
    refine ⟨_, _, rfl, _, rfl, p, C, dx, _, rfl, upd_same, T.cl, T.n 7, len_wk rfl, ?_⟩
    rw [put_wk 7 rfl rfl, upd_upd]
    refine ⟨rfl, ?_⟩
    have s1 : Same (upd H p (.ins C dx (wk.zip ((wv c fl fe z lp ep).set 5 (.int ((z.mark + 1) % (2 * c.h + 1) : Nat)))))) (upd (upd H p (.ins C dx (wk.zip ((wv c fl fe z lp ep).set 5 (.int ((z.mark + 1) % (2 * c.h + 1) : Nat)))))) t (.tup [bV b, wV x])) := Same.new ht
    have W1 : WayAt C (upd H p (.ins C dx (wk.zip ((wv c fl fe z lp ep).set 5 (.int ((z.mark + 1) % (2 * c.h + 1) : Nat)))))) p c fl fe { z with mark := (z.mark + 1) % (2 * c.h + 1) } lp ep := WayAt.set (s' := { z with mark := (z.mark + 1) % (2 * c.h + 1) }) W rfl rfl
    have k1 : Kept H (upd H p (.ins C dx (wk.zip ((wv c fl fe z lp ep).set 5 (.int ((z.mark + 1) % (2 * c.h + 1) : Nat)))))) (· = p) := Kept.upd rfl
    exact k _ ((k1.trans (Kept.of s1)).trans (Kept.upd rfl)) (WayAt.set (s' := { z with mark := (z.mark + 1) % (2 * c.h + 1), bears := b, slot := x }) (W1.same s1) rfl rfl)
/-! ### heard -/
def hs (h : Nat) (s : Wy.S) : Wy.S := { s with mark := Wy.nMark h s, bears := Wy.nBears s, slot := if s.over then none else s.slot, echoes := s.echoes.tail }
def spHeard (C : Addr) : Sp := fun vs H Q _ => ∃ (p : Addr) (c : Cf) (fl fe : Nat) (s : Wy.S) (lp ep : Addr), vs = [.ref p] ∧ WayAt C H p c fl fe s lp ep ∧ c.h ≤ 6 ∧
  ∀ (H' : Hp) (ep' : Addr), H ep' = none → Kept H H' (· = p) → WayAt C H' p c fl fe (hs c.h s) lp ep' → Q .non H'
theorem cut_head (us : List V) : cutV us none (some 1) = us.take 1 := by
  cases us <;> simp [cutV, HT.sIx]
theorem cut_tail (us : List V) : cutV us (some 1) none = us.tail := by
  cases us <;> simp [cutV, HT.sIx]
theorem scHeard : FnScope ["self", "heard", "left", "mark", "took"] ["self"] (defScope sHeard) := ⟨rfl, rfl, rfl, by decide +kernel, rfl, by decide +kernel, by decide +kernel⟩
theorem ok_heard (F : Fun K "heard" "Way.heard" sHeard f fd) (T : Txt K mg C) (M : HasM P w K mg base C 2 "end_round" ["self", "bears", "slot"] (spEnd C)) : FnOk P w K mg base CX0 3 f fd ["self"] (spHeard C) := by
  obtain ⟨fe0, fde, GE, mE, bE⟩ := M.ex
  refine F.ok scHeard (fun vs H Q E h => ?_) (fun cdv A outer s H vs Q E hr h => ?_)
  · obtain ⟨p, c, fl, fe, s, lp, ep, rfl, _⟩ := h
    rfl
  · obtain ⟨p, c, fl, fe, z, lp, ep, rfl, W, hh, k⟩ := h
    obtain ⟨⟨dx, hp⟩, ⟨ts, hl, tl⟩, ⟨us, he, te⟩, nle⟩ := id W
    refine ⟨_, pss_cons (ps_par (i := 1) (j := 2) rfl scHeard.nd rfl rfl (by decide) rfl rfl (pa_cons (pe_slice sl_list (pe_fld (pv 0) rfl) po_none (po_some pe_int)) (pa_cons (pe_slice sl_list (pe_fld (pv 0) rfl) (po_some pe_int) po_none) pa_nil)) (by rfl))
      (pss_cons (ps_fld (pv 0) (pv 2) rfl)
        (pss_one (ps_for PassesOwn.never rfl (pi_list (pv 1)) (pg_tup rfl (pgs_cons (pg_name (i := 3) scHeard.nd rfl (.inl rfl)) (pgs_cons (pg_name (i := 4) scHeard.nd rfl (.inl rfl)) pgs_nil)))
          (pss_one (ps_if (PW.pt (pw_and (pt_cmpR op_eq (pv 3) (pe_fld (pv 0) rfl) (nomark _)) (pw_and (pt_cmpR op_eq (pe_fld (pv 0) rfl) pe_int (nomark _)) (pw_and1 (pt_cmpR op_eq (pv 4) pe_int (nomark _))))))
            (pss_one (ps_expr (pe_meth (pv 0) T.cl mE GE hr bE .nil pass0 (pa_cons pe_int (pa_cons pe_non pa_nil)))))
            (pss_one (ps_if (pt_cmpR op_eq (pv 3) (pe_fld (pv 0) rfl) (nomark _)) (pss_one (ps_expr (pe_meth (pv 0) T.cl mE GE hr bE .nil pass0 (pa_cons (pe_callTy call_int1 (by rfl) (T.b 1) (by decide +kernel) (pa_cons (pe_cmp (pc_notN (pe_fld (pv 0) rfl))) pa_nil)) (pa_cons (pe_fld (pv 0) rfl) pa_nil))))) pss_nil))))))), ?_⟩
    refine ⟨_, rfl, p, C, dx, _, _, rfl, hp, T.cl, T.n 12, at_wk 12 rfl rfl, _, rfl, ep, us, rfl, SqL.of he, fun q1 h1 => ?_⟩
    have s1 : Same H (upd H q1 (.lst (cutV us none (some 1)))) := Same.new h1
    refine ⟨_, rfl, p, C, dx, _, _, rfl, s1 _ _ hp, T.cl, T.n 12, at_wk 12 rfl rfl, _, rfl, ep, us, rfl, SqL.of (s1 _ _ he), fun q2 h2 => ?_⟩
    have s2 : Same H _ := s1.trans (Same.new (o := .lst (cutV us (some 1) none)) h2)
    have e1 : upd (upd H q1 (.lst (cutV us none (some 1)))) q2 (.lst (cutV us (some 1) none)) q1 = some (.lst (us.take 1)) := by
      rw [upd_ne (ne_of_none upd_same h2), upd_same, cut_head]
    have e2 : upd (upd H q1 (.lst (cutV us none (some 1)))) q2 (.lst (cutV us (some 1) none)) q2 = some (.lst us.tail) := by
      rw [upd_same, cut_tail]
    generalize hH2 : upd (upd H q1 (.lst (cutV us none (some 1)))) q2 (.lst (cutV us (some 1) none)) = H2 at s2 e1 e2 ⊢
    refine ⟨_, _, rfl, ?_⟩
    have h20 : H q2 = none := s1.free h2
    have np1 : q1 ≠ p := (ne_of_none hp h1).symm
    have np2 : q2 ≠ p := (ne_of_none hp h20).symm
    refine ⟨_, rfl, _, rfl, p, C, dx, _, rfl, s2 _ _ hp, T.cl, T.n 12, len_wk rfl, ?_⟩
    rw [put_wk 12 rfl rfl]
    -- the way with the rest of the echoes
    have k3 : Kept H2 (upd H2 p (.ins C dx (wk.zip ((wv c fl fe z lp ep).set 12 (.ref q2))))) (· = p) := Kept.upd rfl
    have W3 : WayAt C (upd H2 p (.ins C dx (wk.zip ((wv c fl fe z lp ep).set 12 (.ref q2))))) p c fl fe { z with echoes := z.echoes.tail } lp q2 := by
      have nt : NoTup H2 (· = p) := no_tup1 (s2 _ _ hp) rfl
      have nl : lp ≠ p := ne_of hl hp (by intro z; cases z)
      exact ⟨⟨dx, upd_same⟩, ⟨ts, by rw [upd_ne nl]; exact s2 _ _ hl, (tl.same s2).kept k3 nt⟩, ⟨us.tail, by rw [upd_ne np2]; exact e2, ((te.same s2).tail).kept k3 nt⟩, ne_of_none hl h20⟩
    have e3 : upd H2 p (.ins C dx (wk.zip ((wv c fl fe z lp ep).set 12 (.ref q2)))) q1 = some (.lst (us.take 1)) := by rw [upd_ne np1]; exact e1
    have k4 : Kept H (upd H2 p (.ins C dx (wk.zip ((wv c fl fe z lp ep).set 12 (.ref q2))))) (· = p) := (Kept.of s2).trans k3
    have te3 : RowAt bV (upd H2 p (.ins C dx (wk.zip ((wv c fl fe z lp ep).set 12 (.ref q2))))) us z.echoes := (te.same s2).kept k3 (no_tup1 (s2 _ _ hp) rfl)
    generalize upd H2 p (.ins C dx (wk.zip ((wv c fl fe z lp ep).set 12 (.ref q2)))) = H3 at W3 e3 k4 te3 ⊢
    refine ⟨_, rfl, q1, rfl, ⟨_, SqL.of e3⟩, ?_⟩
    cases hE : z.echoes with
    | nil =>
      rw [hE] at te3
      cases te3
      refine for_list (K := K) (a := q1) (xs := []) (fun i σ H' => H' = H3) rfl (fun i σ H' _ e => by rw [e]; exact SqL.of e3) (fun i x σ H' hx => by simp at hx) (fun σ H' e => ?_)
      rw [e]
      refine k _ q2 h20 k4 ?_
      have : hs c.h z = { z with echoes := z.echoes.tail } := by
        unfold hs Wy.nMark Wy.nBears Wy.S.adv Wy.S.over
        rw [hE]; rfl
      rw [this]; exact W3
    | cons e0 es =>
      rw [hE] at te3
      obtain ⟨u, us', rfl, ⟨a, rfl, ha⟩, te4⟩ : ∃ u us', us = u :: us' ∧ PairAt bV H3 u e0 ∧ RowAt bV H3 us' es := by
        cases te3 with
        | cons p1 p2 => exact ⟨_, _, rfl, p1, p2⟩
      refine for_list (K := K) (a := q1) (xs := [.ref a]) (fun i σ H' => SqL K H' q1 [.ref a] ∧ ((i = 0 ∧ H' = H3 ∧ ∃ v3 v4, σ = [some (.ref p), some (.ref q1), some (.ref q2), v3, v4]) ∨ (i = 1 ∧ Kept H H' (· = p) ∧ WayAt C H' p c fl fe (hs c.h z) lp q2))) ⟨SqL.of e3, .inl ⟨rfl, rfl, _, _, rfl⟩⟩ (fun i σ H' _ h => h.1) ?_ ?_
      · rintro i x σ H' hx ⟨hq, hi⟩
        have i0 : i = 0 := by
          have := (List.getElem?_eq_some_iff.mp hx).1
          simp at this; exact this
        subst i0
        simp at hx
        subst hx
        rcases hi with ⟨_, rfl, v3, v4, rfl⟩ | ⟨q, _⟩
        · obtain ⟨⟨dy, hp3⟩, _⟩ := id W3
          refine ⟨a, _, rfl, SqT.of ha, rfl, _, _, rfl, _, _, rfl, rfl, ?_⟩
          -- behind end_round
          have fin : ∀ (b : Bool) (x : Option Int) (H4 : Hp), Kept H' H4 (· = p) → WayAt C H4 p c fl fe { ({ z with echoes := z.echoes.tail } : Wy.S) with mark := (z.mark + 1) % (2 * c.h + 1), bears := b, slot := x } lp q2 →
              (z.adv = true ∧ Wy.nBears z = b ∧ (if z.over then none else z.slot) = x) → SqL K H4 q1 [.ref a] ∧ ((1 = 0 ∧ H4 = H' ∧ ∃ v3 v4, [some (V.ref p), some (.ref q1), some (.ref q2), some (.int e0.1), some (bV e0.2)] = [some (.ref p), some (.ref q1), some (.ref q2), v3, v4]) ∨ (1 = 1 ∧ Kept H H4 (· = p) ∧ WayAt C H4 p c fl fe (hs c.h z) lp q2)) := by
            intro b x H4 k5 W5 ⟨a1, a2, a3⟩
            refine ⟨SqL.of (k5 _ _ e3 np1), .inr ⟨rfl, k4.trans k5, ?_⟩⟩
            have : hs c.h z = { ({ z with echoes := z.echoes.tail } : Wy.S) with mark := (z.mark + 1) % (2 * c.h + 1), bears := b, slot := x } := by
              unfold hs Wy.nMark
              rw [a1, a2, a3]; rfl
            rw [this]; exact W5
          have noE : (wk.zip (wv c fl fe { z with echoes := z.echoes.tail } lp q2)).lookup ("end_round" : Str) = none := lookup_no (by decide +kernel)
          have ad : z.adv = (e0.1 == z.mark) := by unfold Wy.S.adv; rw [hE]
          have ov : z.over = (e0.1 == z.mark && z.bears && e0.2) := by unfold Wy.S.over; rw [hE]
          refine ⟨_, rfl, _, rfl, p, C, dy, _, _, rfl, hp3, T.cl, T.n 5, at_wk 5 rfl rfl, scal_nat _ _, _, rfl, ?_⟩
          rw [dec_nat]
          -- an echo of another mark
          have other : (e0.1 == z.mark) = false → Wk.hs c.h z = { z with echoes := z.echoes.tail } := fun q => by
            unfold hs Wy.nMark Wy.nBears
            rw [ov, ad, q]; rfl
          -- the second branch
          have elif : ∀ {D : Ends}, (z.over = false) → (∀ H4, D.nx [some (.ref p), some (.ref q1), some (.ref q2), some (.int e0.1), some (bV e0.2)] H4 = (SqL K H4 q1 [.ref a] ∧ ((1 = 0 ∧ H4 = H' ∧ ∃ v3 v4, [some (V.ref p), some (.ref q1), some (.ref q2), some (.int e0.1), some (bV e0.2)] = [some (.ref p), some (.ref q1), some (.ref q2), v3, v4]) ∨ (1 = 1 ∧ Kept H H4 (· = p) ∧ WayAt C H4 p c fl fe (hs c.h z) lp q2)))) →
              tIfS (tTest (tOp rEq (tVar 3) (tFld K (tVar 0) "mark"))) (tDrop (tMeth C "end_round" (spEnd C) [] E0 (tVar 0) (tCons (tCB (fun xs H Q => (∃ i, xs = [.int i] ∧ Q (.int i) H) ∨ ∃ k, xs = [.bl k] ∧ Q (.int (if k then 1 else 0)) H) (tCons (tNotN (tFld K (tVar 0) "slot")) tNil)) (tCons (tFld K (tVar 0) "slot") tNil)))) tNext D [some (.ref p), some (.ref q1), some (.ref q2), some (.int e0.1), some (bV e0.2)] H' := by
            intro D o hD
            refine ⟨_, rfl, _, rfl, p, C, dy, _, _, rfl, hp3, T.cl, T.n 5, at_wk 5 rfl rfl, scal_nat _ _, _, rfl, ?_⟩
            rw [dec_nat]
            cases q : (e0.1 == z.mark) with
            | false =>
              refine iteF ?_
              show D.nx _ _
              rw [hD]
              exact ⟨hq, .inr ⟨rfl, k4, by rw [other q]; exact W3⟩⟩
            | true =>
              refine iteT ⟨_, rfl, p, dy, _, rfl, hp3, noE, _, rfl, p, C, dy, _, _, rfl, hp3, T.cl, T.n 7, at_wk 7 rfl rfl, .inr ⟨_, rfl, _, rfl, p, C, dy, _, _, rfl, hp3, T.cl, T.n 7, at_wk 7 rfl rfl, ?_⟩⟩
              refine ⟨p, c, fl, fe, _, lp, q2, z.slot.isSome, z.slot, by cases z.slot <;> rfl, W3, hh, fun H4 k5 W5 => ?_⟩
              show D.nx _ _
              rw [hD]
              refine fin _ _ H4 k5 W5 ⟨by rw [ad, q], ?_, by rw [o]; rfl⟩
              unfold Wy.nBears
              rw [o, ad, q]; rfl
          cases q : (e0.1 == z.mark) with
          | false => exact iteF (iteF (elif (by rw [ov, q]; rfl) fun H4 => rfl))
          | true =>
            refine iteT ⟨_, rfl, p, C, dy, _, _, rfl, hp3, T.cl, T.n 6, at_wk 6 rfl rfl, by show scal (bV z.bears) _ = true; rfl, _, rfl, ?_⟩
            rw [show decide (bV z.bears = V.int 1) = z.bears from dec_b1 _]
            cases q2' : z.bears with
            | false => exact iteF (iteF (elif (by rw [ov, q, q2']; rfl) fun H4 => rfl))
            | true =>
              refine iteT ⟨_, rfl, by show scal (bV e0.2) _ = true; rfl, _, rfl, ?_⟩
              rw [show decide (bV e0.2 = V.int 1) = e0.2 from dec_b1 _]
              cases q3 : (id e0.2 : Bool) with
              | false => exact iteEF q3 (elif (by rw [ov, q, q2', show e0.2 = false from q3]; rfl) fun H4 => rfl)
              | true =>
                have q3' : e0.2 = true := q3
                refine iteET q3' ⟨_, rfl, p, dy, _, rfl, hp3, noE, p, c, fl, fe, _, lp, q2, false, none, rfl, W3, hh, fun H4 k5 W5 => ?_⟩
                have o : z.over = true := by rw [ov, q, q2', q3']; rfl
                exact fin _ _ H4 k5 W5 ⟨by rw [ad, q], by unfold Wy.nBears; rw [o]; rfl, by rw [o]; rfl⟩
        · cases q
      · rintro σ H' ⟨_, ⟨q, _⟩ | ⟨_, k5, W5⟩⟩
        · cases q
        · exact k _ q2 h20 k5 W5
end
end Wk
namespace Wk
open PySem L2 Ru
section
variable {P : Program} {w : World} {K : PySem.W.Frag} {mg : Str → Option Value} {base : Heap} {C f : Addr} {fd : FuncData}
/-! ### taken_up -/
def tkS (s : Wy.S) : Wy.S := { s with letters := s.letters.tail, last := Wy.nLast s, took := Wy.nTook s, box := if s.takes then s.first else s.box }
theorem tkS_nil {s : Wy.S} (h : s.letters = []) : tkS s = s := by
  obtain ⟨m, b, sl, ls, la, tk, bx, es⟩ := s
  have h' : ls = [] := h
  subst h'
  rfl
def spTaken (C : Addr) : Sp := fun vs H Q _ => ∃ (p : Addr) (c : Cf) (fl fe : Nat) (s : Wy.S) (lp ep : Addr), vs = [.ref p] ∧ WayAt C H p c fl fe s lp ep ∧ s.letters.length ≤ 6 ∧
  ∀ (H' : Hp) (r lp' : Addr) (es : List V), H r = none → (lp' = lp ∨ H lp' = none) → r ≠ lp' → Kept H H' (· = p) → WayAt C H' p c fl fe (tkS s) lp' ep → H' r = some (.lst es) → RowAt bV H' es (Wy.nEcho s) → Q (.ref r) H'
theorem scTaken : FnScope ["self", "mark", "word", "left", "is_taken"] ["self"] (defScope sTaken) := ⟨rfl, rfl, rfl, by decide +kernel, rfl, by decide +kernel, by decide +kernel⟩
theorem ok_taken (F : Fun K "taken_up" "Way.taken_up" sTaken f fd) (T : Txt K mg C) : FnOk P w K mg base CX0 1 f fd ["self"] (spTaken C) := by
  refine F.ok scTaken (fun vs H Q E h => ?_) (fun cdv A outer s H vs Q E hr h => ?_)
  · obtain ⟨p, c, fl, fe, s, lp, ep, rfl, _⟩ := h
    rfl
  · obtain ⟨p, c, fl, fe, z, lp, ep, rfl, W, hlen, k⟩ := h
    obtain ⟨⟨dx, hp⟩, ⟨ts, hl, tl⟩, ⟨us, he, te⟩, nle⟩ := id W
    refine ⟨_, pss_cons (ps_if (pt_cmpR (op_eqD hr.units) (pe_fld (pv 0) rfl) (pe_lst pa_nil) (nomark _)) (pss_one (ps_ret (pe_lst pa_nil))) pss_nil)
      (pss_cons (ps_asg (pe_fld (pv 0) rfl) (pg_star rfl (pg_tup rfl (pgs_cons (pg_name (i := 1) scTaken.nd rfl (.inl rfl)) (pgs_cons (pg_name (i := 2) scTaken.nd rfl (.inl rfl)) pgs_nil))) (pg_name (i := 3) scTaken.nd rfl (.inl rfl))))
      (pss_cons (ps_fld (pv 0) (pv 3) rfl)
      (pss_cons (ps_if (pt_cmpR op_ne (pv 1) (pe_fld (pv 0) rfl) (nomark _))
        (pss_cons (ps_set (i := 4) scTaken.nd rfl (.inl rfl) (pe_and (pe_cmp (pc_notN (pv 2))) (pe_one (pe_cmp (pc_isN (pe_fld (pv 0) rfl))))))
        (pss_cons (ps_asg (pe_tup (pa_cons (pv 1) (pa_cons (pe_callTy call_int1 (by rfl) (T.b 1) (by decide +kernel) (pa_cons (pv 4) pa_nil)) pa_nil))) (pg_tup rfl (pgs_cons (pg_at (pv 0)) (pgs_cons (pg_at (pv 0)) pgs_nil))))
        (pss_one (ps_fld (pv 0) (pe_ifExp (pt_val (pv 4)) (pv 2) (pe_fld (pv 0) rfl)) rfl)))) pss_nil)
      (pss_one (ps_ret (pe_lst (pa_cons (pe_tup (pa_cons (pe_fld (pv 0) rfl) (pa_cons (pe_fld (pv 0) rfl) pa_nil))) pa_nil))))))), ?_⟩
    refine ⟨_, rfl, p, C, dx, _, _, rfl, hp, T.cl, T.n 11, at_wk 11 rfl rfl, Nat.zero_le _, fun l0 h0 => ?_⟩
    have s1 : Same H (upd H l0 (.lst [])) := Same.new h0
    refine ⟨_, _, dp_letters (s1 _ _ hl) (tl.same s1), .lst (SqL.of upd_same) .nil, shaped_list lay_w _, shaped_nilL, _, rfl, ?_⟩
    rw [eqv_nilL]
    generalize hH1 : upd H l0 (.lst []) = H1 at s1
    have nt : NoTup H (· = p) := no_tup1 hp rfl
    have npl : lp ≠ p := ne_of hl hp (by intro z; cases z)
    have npe : ep ≠ p := ne_of he hp (by intro z; cases z)
    cases hL : z.letters with
    | nil =>
      -- no letter
      refine iteT ⟨Nat.zero_le _, fun r hr' => ?_⟩
      have s2 : Same H (upd H1 r (.lst [])) := s1.trans (Same.new hr')
      have hr0 : H r = none := s1.free hr'
      have ek : tkS z = z := tkS_nil hL
      have ee : Wy.nEcho z = [] := by unfold Wy.nEcho; rw [hL]
      exact k _ r lp [] hr0 (.inl rfl) (ne_of_none hl hr0).symm (Kept.of s2) (by rw [ek]; exact W.same s2) upd_same (by rw [ee]; exact .nil)
    | cons l ls =>
      rw [hL] at tl
      obtain ⟨t, ts', rfl, ⟨a, rfl, ha⟩, tl'⟩ : ∃ t ts', ts = t :: ts' ∧ PairAt wV H t l ∧ RowAt wV H ts' ls := by
        cases tl with
        | cons p1 p2 => exact ⟨_, _, rfl, p1, p2⟩
      refine iteF ⟨_, rfl, p, C, dx, _, _, rfl, s1 _ _ hp, T.cl, T.n 11, at_wk 11 rfl rfl, lp, _, _, rfl, SqL.of (s1 _ _ hl), fun q hq => ?_⟩
      have s2 : Same H (upd H1 q (.lst ts')) := s1.trans (Same.new hq)
      have hq0 : H q = none := s1.free hq
      have nqp : q ≠ p := (ne_of_none hp hq0).symm
      refine ⟨a, _, rfl, SqT.of (s2 _ _ ha), rfl, _, _, rfl, _, _, rfl, rfl, ?_⟩
      -- self.letters = left
      refine ⟨_, rfl, _, rfl, p, C, dx, _, rfl, s2 _ _ hp, T.cl, T.n 11, len_wk rfl, ?_⟩
      rw [put_wk 11 rfl rfl]
      have k3 : Kept (upd H1 q (.lst ts')) (upd (upd H1 q (.lst ts')) p (.ins C dx (wk.zip ((wv c fl fe z lp ep).set 11 (.ref q))))) (· = p) := Kept.upd rfl
      have nt2 : NoTup (upd H1 q (.lst ts')) (· = p) := no_tup1 (s2 _ _ hp) rfl
      have W3 : WayAt C (upd (upd H1 q (.lst ts')) p (.ins C dx (wk.zip ((wv c fl fe z lp ep).set 11 (.ref q))))) p c fl fe { z with letters := ls } q ep :=
        ⟨⟨dx, upd_same⟩, ⟨ts', by rw [upd_ne nqp, upd_same], (tl'.same s2).kept k3 nt2⟩, ⟨us, by rw [upd_ne npe]; exact s2 _ _ he, (te.same s2).kept k3 nt2⟩, (ne_of_none he hq0).symm⟩
      have k4 := (Kept.of (D := (· = p)) s2).trans k3
      generalize upd (upd H1 q (.lst ts')) p (.ins C dx (wk.zip ((wv c fl fe z lp ep).set 11 (.ref q)))) = H3 at W3 k4 ⊢
      obtain ⟨⟨dy, hp3⟩, _⟩ := id W3
      have fr : z.fresh = (l.1 != z.last) := by unfold Wy.S.fresh; rw [hL]
      have tkn : z.takes = (l.1 != z.last && (l.2.isSome && z.box.isNone)) := by unfold Wy.S.takes; rw [hL]
      have nl : Wy.nLast z = l.1 := by unfold Wy.nLast; rw [hL]
      have ec : Wy.nEcho z = [(Wy.nLast z, Wy.nTook z)] := by unfold Wy.nEcho; rw [hL]
      have fi : z.first = l.2 := by unfold Wy.S.first; rw [hL]
      -- the last line
      have fin : ∀ (H4 : Hp) (v : Option V), Kept H H4 (· = p) → WayAt C H4 p c fl fe (tkS z) q ep → tRet (tLst (tCons (tTup (tCons (tFld K (tVar 0) "last") (tCons (tFld K (tVar 0) "took") tNil))) tNil)) { nx := fun _ H' => Q .non H', rt := Q } [some (.ref p), some (.int l.1), some (wV l.2), some (.ref q), v] H4 := by
        intro H4 v k5 W5
        obtain ⟨⟨dz, hp5⟩, ⟨tq, hq5, _⟩, _⟩ := id W5
        refine ⟨_, rfl, p, C, dz, _, _, rfl, hp5, T.cl, T.n 8, at_wk 8 rfl rfl, _, rfl, p, C, dz, _, _, rfl, hp5, T.cl, T.n 9, at_wk 9 rfl rfl, by show 2 ≤ sizeLine; decide, fun t ht => ?_⟩
        refine ⟨by show 1 ≤ sizeLine; decide, fun r hr' => ?_⟩
        have s6 : Same H4 (upd H4 t (.tup [.int (tkS z).last, bV (tkS z).took])) := Same.new ht
        have s7 : Same H4 (upd (upd H4 t (.tup [.int (tkS z).last, bV (tkS z).took])) r (.lst [.ref t])) := s6.trans (Same.new hr')
        have hr4 : H4 r = none := s6.free hr'
        have hr0 : H r = none := by
          cases e : H r with
          | none => rfl
          | some o =>
            by_cases rp : r = p
            · rw [rp, hp5] at hr4; cases hr4
            · have := k5 r o e rp
              rw [hr4] at this; cases this
        refine k _ r q [.ref t] hr0 (.inr hq0) (ne_of_none hq5 hr4).symm (k5.trans (Kept.of s7)) (W5.same s7) upd_same ?_
        rw [ec]
        exact .cons ⟨t, rfl, (Same.new hr') _ _ upd_same⟩ .nil
      refine ⟨_, rfl, _, rfl, p, C, dy, _, _, rfl, hp3, T.cl, T.n 8, at_wk 8 rfl rfl, scal_nat _ _, _, rfl, ?_⟩
      rw [dec_nat]
      cases q1 : (l.1 == z.last) with
      | true =>
        refine iteF (fin _ _ k4 ?_)
        have e1 : l.1 = z.last := by simpa using q1
        have : tkS z = { z with letters := ls } := by
          unfold tkS
          unfold Wy.nTook
          rw [nl, fr, tkn, hL, e1]
          simp
        rw [this]; exact W3
      | false =>
        have n1 : (l.1 != z.last) = true := by rw [bne, q1]; rfl
        -- what is taken
        have go : ∀ (tkb : Bool), (l.2.isSome && z.box.isNone) = tkb → ∀ {D : Ends}, (∀ H4 v, D.nx [some (.ref p), some (.int l.1), some (wV l.2), some (.ref q), v] H4 = tRet (tLst (tCons (tTup (tCons (tFld K (tVar 0) "last") (tCons (tFld K (tVar 0) "took") tNil))) tNil)) { nx := fun _ H' => Q .non H', rt := Q } [some (.ref p), some (.int l.1), some (wV l.2), some (.ref q), v] H4) →
            tSeq (tAsg (tTup (tCons (tVar 1) (tCons (tCB (fun xs H Q => (∃ i, xs = [.int i] ∧ Q (.int i) H) ∨ ∃ k, xs = [.bl k] ∧ Q (.int (if k then 1 else 0)) H) (tCons (tVar 4) tNil)) tNil))) (gTup K 2 (gCons (gAt K (tVar 0) "last") (gCons (gAt K (tVar 0) "took") gNil)))) (sFld K (tVar 0) (tIf (tB (tVar 4)) (tVar 2) (tFld K (tVar 0) "box")) "box") D [some (.ref p), some (.int l.1), some (wV l.2), some (.ref q), some (.bl tkb)] H3 := by
          intro tkb etk D hD
          refine ⟨_, rfl, _, rfl, .inr ⟨_, rfl, by show 2 ≤ sizeLine; decide, fun t ht => ?_⟩⟩
          have s5 : Same H3 (upd H3 t (.tup [.int l.1, .int (if tkb = true then 1 else 0)])) := Same.new ht
          refine ⟨t, _, rfl, SqT.of upd_same, rfl, ?_⟩
          have W5 := W3.same s5
          have k5 := k4.trans (Kept.of (D := (· = p)) s5)
          have hp5 := s5 _ _ hp3
          generalize upd H3 t (.tup [.int l.1, .int (if tkb = true then 1 else 0)]) = H5 at W5 k5 hp5 ⊢
          refine ⟨_, _, rfl, _, rfl, p, C, dy, _, rfl, hp5, T.cl, T.n 8, len_wk rfl, ?_⟩
          rw [put_wk 8 rfl rfl]
          refine ⟨_, _, rfl, _, rfl, p, C, dy, _, rfl, upd_same, T.cl, T.n 9, len_wk rfl, ?_⟩
          rw [put_wk 9 rfl rfl, upd_upd, show V.int (if tkb = true then 1 else 0) = bV tkb from rfl]
          refine ⟨rfl, ?_⟩
          have W6 : WayAt C (upd H5 p (.ins C dy (wk.zip (((wv c fl fe { z with letters := ls } q ep).set 8 (.int l.1)).set 9 (bV tkb))))) p c fl fe { z with letters := ls, last := l.1, took := tkb } q ep :=
            WayAt.set (s' := { z with letters := ls, last := l.1, took := tkb }) W5 rfl rfl
          have k6 := k5.trans (Kept.upd (o := .ins C dy (wk.zip (((wv c fl fe { z with letters := ls } q ep).set 8 (.int l.1)).set 9 (bV tkb)))) (D := (· = p)) rfl)
          have hp6 : upd H5 p (.ins C dy (wk.zip (((wv c fl fe { z with letters := ls } q ep).set 8 (.int l.1)).set 9 (bV tkb)))) p = _ := upd_same
          generalize upd H5 p (.ins C dy (wk.zip (((wv c fl fe { z with letters := ls } q ep).set 8 (.int l.1)).set 9 (bV tkb)))) = H6 at W6 k6 hp6 ⊢
          have done : ∀ (x : Option Int), (if tkb then l.2 else z.box) = x → D.nx [some (.ref p), some (.int l.1), some (wV l.2), some (.ref q), some (.bl tkb)] (upd H6 p (.ins C dy (putF "box" (wV x) (wk.zip (((wv c fl fe { z with letters := ls } q ep).set 8 (.int l.1)).set 9 (bV tkb)))))) := by
            intro x ex
            rw [hD, put_wk 10 rfl rfl]
            refine fin _ _ (k6.trans (Kept.upd rfl)) ?_
            have : tkS z = { z with letters := ls, last := l.1, took := tkb, box := x } := by
              unfold tkS
              unfold Wy.nTook
              rw [nl, fr, tkn, fi, hL, n1, etk, ← ex]
              simp
            rw [this]
            exact WayAt.set (s' := { z with letters := ls, last := l.1, took := tkb, box := x }) W6 rfl rfl
          refine ⟨_, rfl, tkb, rfl, ?_⟩
          cases tkb with
          | true => exact iteT ⟨_, rfl, _, rfl, p, C, dy, _, rfl, hp6, T.cl, T.n 10, len_wk rfl, done l.2 rfl⟩
          | false => exact iteF ⟨_, rfl, p, C, dy, _, _, rfl, hp6, T.cl, T.n 10, at_wk 10 rfl rfl, _, rfl, p, C, dy, _, rfl, hp6, T.cl, T.n 10, len_wk rfl, done z.box rfl⟩
        refine iteT ⟨_, rfl, _, rfl, ?_⟩
        rw [show (!decide (wV l.2 = V.non)) = l.2.isSome by rw [dec_w]; cases l.2 <;> rfl]
        cases q2 : l.2.isSome with
        | false => exact iteF (go false (by rw [q2]; rfl) fun H4 v => rfl)
        | true =>
          refine iteT ⟨_, rfl, p, C, dy, _, _, rfl, hp3, T.cl, T.n 10, at_wk 10 rfl rfl, ?_⟩
          exact go (decide (wV z.box = V.non)) (by rw [q2, dec_w]; rfl) fun H4 v => rfl
end
end Wk
namespace Wk
open PySem L2 Ru
theorem Kept.free {H H' : Hp} {D : Addr → Prop} {r : Addr} (k : Kept H H' D) (h : H' r = none) (n : ∀ o, D r → H r ≠ some o) : H r = none := by
  cases e : H r with
  | none => rfl
  | some o =>
    by_cases d : D r
    · exact absurd e (n o d)
    · have := k r o e d
      rw [h] at this; cases this
/-- a new address was new before, where one attribute's owner alone has changed -/
theorem Kept.free1 {H H' : Hp} {p r : Addr} {o : HO} (k : Kept H H' (· = p)) (h : H' r = none) (hp : H' p = some o) : H r = none :=
  k.free h fun u d _ => by rw [d, hp] at h; cases h
theorem Kept.updO {H H' : Hp} {D : Addr → Prop} {a : Addr} {u : HO} (k : Kept H H' D) (h : D a ∨ H a = none) : Kept H (L2.upd H' a u) D := fun q o e n => by
  have ne : q ≠ a := fun z => by
    rcases h with h | h
    · exact n (by rw [z]; exact h)
    · rw [z, h] at e; cases e
  rw [upd_ne ne]
  exact k q o e n
/-! ### a block, statement by statement -/
/-- from Pre the block ends well (Q: what is wanted of what it returns) -/
def Blk (X : Cx) (Q : VK) (B : List Stmt) (Pre Post : L2.St → Hp → Prop) : Prop := ∃ t, PSs X B t ∧ ∀ (nx bk ct : L2.St → Hp → Prop) (σ : L2.St) (H : Hp), (∀ σ' H', Post σ' H' → nx σ' H') → Pre σ H → t { nx := nx, rt := Q, bk := bk, ct := ct } σ H
/-- from Pre the statement leads to Post -/
def Stp (X : Cx) (Q : VK) (st : Stmt) (Pre Post : L2.St → Hp → Prop) : Prop := ∃ t, PS X st t ∧ ∀ (nx bk ct : L2.St → Hp → Prop) (σ : L2.St) (H : Hp), (∀ σ' H', Post σ' H' → nx σ' H') → Pre σ H → t { nx := nx, rt := Q, bk := bk, ct := ct } σ H
theorem blk_cons {X : Cx} {Q : VK} {st : Stmt} {rest : List Stmt} {Pre Post : L2.St → Hp → Prop} (Mid : L2.St → Hp → Prop) (h1 : Stp X Q st Pre Mid) (h2 : Blk X Q rest Mid Post) : Blk X Q (st :: rest) Pre Post := by
  obtain ⟨t, p1, r1⟩ := h1
  obtain ⟨u, p2, r2⟩ := h2
  exact ⟨tSeq t u, pss_cons p1 p2, fun nx bk ct σ H hn hp => r1 _ bk ct σ H (fun σ' H' m => r2 nx bk ct σ' H' hn m) hp⟩
theorem blk_one {X : Cx} {Q : VK} {st : Stmt} {Pre Post : L2.St → Hp → Prop} (h1 : Stp X Q st Pre Post) : Blk X Q [st] Pre Post := by
  obtain ⟨t, p1, r1⟩ := h1
  exact ⟨t, pss_one p1, r1⟩
theorem blk_run {X : Cx} {Q : VK} {B : List Stmt} {Pre Post : L2.St → Hp → Prop} {σ : L2.St} {H : Hp} (b : Blk X Q B Pre Post) (hn : ∀ σ' H', Post σ' H' → Q .non H') (h : Pre σ H) : ∃ t, PSs X B t ∧ t { nx := fun _ H' => Q .non H', rt := Q } σ H := by
  obtain ⟨t, p, r⟩ := b
  exact ⟨t, p, r _ _ _ σ H (fun σ' H' => hn σ' H') h⟩
section
variable {P : Program} {w : World} {K : PySem.W.Frag} {mg : Str → Option Value} {base : Heap} {C f : Addr} {fd : FuncData}
/-- what a beat tells of the word -/
def putV (x : Option Int) (s : Wy.S) : V := match x with
  | none => .non
  | some _ => .bl s.slot.isNone
def spBeat (K : PySem.W.Frag) (C : Addr) : Sp := fun vs H Q _ => ∃ (p q : Addr) (c : Cf) (fl fe : Nat) (s : Wy.S) (lp ep : Addr) (x : Option Int) (t : Bool) (lost : Bool × Bool), vs = [.ref p, wV x, .bl t, .ref q] ∧ WayAt C H p c fl fe s lp ep ∧ c.Ok ∧ wOk c.b x ∧
  SqT K H q [.bl lost.1, .bl lost.2] ∧ (Wy.loses s fl fe lost).1 < c.g ∧ (Wy.loses s fl fe lost).2 < c.g ∧ s.letters.length ≤ c.h ∧ s.echoes.length ≤ c.h ∧
  ∀ (H' : Hp) (r lp' ep' : Addr), (lp' = lp ∨ H lp' = none) → H ep' = none → Kept H H' (Own p lp ep) → WayAt C H' p c (Wy.loses s fl fe lost).1 (Wy.loses s fl fe lost).2 (Wy.beat c.h s x t lost) lp' ep' → H' r = some (.tup [putV x s, wV (Wy.gives s t)]) → Q (.ref r) H'
theorem scBeat : FnScope ["self", "word", "taking", "lost", "letter", "is_free", "taken", "echoes"] ["self", "word", "taking", "lost"] (defScope sBeat) := ⟨rfl, rfl, rfl, by decide +kernel, rfl, by decide +kernel, by decide +kernel⟩
theorem gives_isSome (z : Wy.S) (t : Bool) : (Wy.gives z t).isSome = (t && z.box.isSome) := by
  unfold Wy.gives; cases t <;> simp
theorem body_beat {fb fm fw ft fh : Addr} {fdb fdm fdw fdt fdh : FuncData} (T : Txt K mg C)
    (GB : FnOk P w K mg base CX0 2 fb fdb ["thing", "bound"] spBorne) (mB : mg "is_borne" = some (.ref fb)) (kB : PySem.W.keepIn K (.ref fb) = true) (bB : Binds K fdb ["thing", "bound"] [])
    (GM : FnOk P w K mg base CX0 2 fm fdm ["self", "lost"] (spMust K C)) (mM : Meth K C "must_bear" fm) (bM : Binds K fdm ["self", "lost"] [])
    (GW : FnOk P w K mg base CX0 1 fw fdw ["self", "lost"] (spWould K C)) (mW : Meth K C "would_lose" fw) (bW : Binds K fdw ["self", "lost"] [])
    (GT : FnOk P w K mg base CX0 1 ft fdt ["self"] (spTaken C)) (mT : Meth K C "taken_up" ft) (bT : Binds K fdt ["self"] [])
    (GH : FnOk P w K mg base CX0 3 fh fdh ["self"] (spHeard C)) (mH : Meth K C "heard" fh) (bH : Binds K fdh ["self"] [])
    (cdv : Value) (A : Around) (outer : List Env) (s : Shared) (H : Hp) (vs : List V) (Q : VK) (E : XK) (hr : Room 3 (A.deeper (PyProof.Rows.envOfC "Way.beat" (defScope sBeat) s.heap.objs.size f cdv))) (h : spBeat K C vs H Q E) :
    ∃ t, PSs (cxOf CX0 P w K mg base ["self", "word", "taking", "lost", "letter", "is_free", "taken", "echoes"] "Way.beat" (defScope sBeat) f cdv A outer s H E).nox (defBody sBeat) t ∧ t { nx := fun _ H' => Q .non H', rt := Q } (start ["self", "word", "taking", "lost", "letter", "is_free", "taken", "echoes"] vs) H := by
  obtain ⟨p, q, c, fl, fe, z, lp, ep, x, t, ⟨l1, l2⟩, rfl, W, ok, hx, hq, g1, g2, n1, n2, k⟩ := h
  have hr1 : Room 1 _ := hr.mono (by decide)
  have hr2 : Room 2 _ := hr.mono (by decide)
  obtain ⟨⟨dx, hp⟩, ⟨ts, hl, tl⟩, ⟨us, he, te⟩, nle⟩ := id W
  have nt : NoTup H (· = p) := no_tup1 hp rfl
  generalize hfl : (Wy.loses z fl fe (l1, l2)).1 = fl' at g1 k
  generalize hfe : (Wy.loses z fl fe (l1, l2)).2 = fe' at g2 k
  let σ4 (a b d e : Option V) : L2.St := [some (.ref p), some (wV x), some (.bl t), some (.ref q), a, b, d, e]
  have sl : ∀ {H' : Hp}, Kept H H' (· = p) → SqT K H' q [.bl l1, .bl l2] := fun k => sqT_kept hq k nt
  refine blk_run (Pre := fun σ H' => σ = σ4 none none none none ∧ H' = H) (Post := fun _ _ => False) ?_ (fun _ _ z => z.elim) ⟨rfl, rfl⟩
  -- if not is_borne(word, self.bound): raise NoNumber(word)
  refine blk_cons (fun σ H' => σ = σ4 none none none none ∧ H' = H) ⟨_, ps_if (pt_not (pt_val (pe_call GB hr2 rfl mB kB bB .nil pass0 (pa_cons (pv 1) (pa_cons (pe_fld (pv 0) rfl) pa_nil))))) (pss_one ps_never) pss_nil, ?_⟩ ?_
  · rintro nx bk ct σ H' hn ⟨rfl, rfl⟩
    exact ⟨_, rfl, _, rfl, p, C, dx, _, _, rfl, hp, T.cl, T.n 2, at_wk 2 rfl rfl, x, c.b, rfl, hx, true, rfl, iteF (hn _ _ ⟨rfl, rfl⟩)⟩
  -- self.must_bear(lost)
  refine blk_cons (fun σ H' => σ = σ4 none none none none ∧ Same H H') ⟨_, ps_expr (pe_meth (pv 0) T.cl mM GM hr2 bM .nil pass0 (pa_cons (pv 3) pa_nil)), ?_⟩ ?_
  · rintro nx bk ct σ H' hn ⟨rfl, rfl⟩
    refine ⟨_, rfl, p, dx, _, rfl, hp, lookup_no (by decide +kernel), _, rfl, p, q, c, fl, fe, z, lp, ep, (l1, l2), rfl, W, hq, ?_, ?_, fun H1 s1 => hn _ _ ⟨rfl, s1⟩⟩
    · rw [hfl]; exact g1
    · rw [hfe]; exact g2
  -- self.lost_letters, self.lost_echoes = self.would_lose(lost)
  refine blk_cons (fun σ H' => σ = σ4 none none none none ∧ Kept H H' (· = p) ∧ WayAt C H' p c fl' fe' z lp ep) ⟨_, ps_asg (pe_meth (pv 0) T.cl mW GW hr1 bW .nil pass0 (pa_cons (pv 3) pa_nil)) (pg_tup rfl (pgs_cons (pg_at (pv 0)) (pgs_cons (pg_at (pv 0)) pgs_nil))), ?_⟩ ?_
  · rintro nx bk ct σ H1 hn ⟨rfl, s1⟩
    refine ⟨_, rfl, p, dx, _, rfl, s1 _ _ hp, lookup_no (by decide +kernel), _, rfl, p, q, c, fl, fe, z, lp, ep, (l1, l2), rfl, W.same s1, sqT_same hq s1, fun H2 r2 f2 s2 e2 => ?_⟩
    rw [hfl, hfe] at e2
    have s12 := s1.trans s2
    refine ⟨r2, _, rfl, SqT.of e2, rfl, _, _, rfl, _, rfl, p, C, dx, _, rfl, s12 _ _ hp, T.cl, T.n 3, len_wk rfl, ?_⟩
    rw [put_wk 3 rfl rfl]
    refine ⟨_, _, rfl, _, rfl, p, C, dx, _, rfl, upd_same, T.cl, T.n 4, len_wk rfl, ?_⟩
    rw [put_wk 4 rfl rfl, upd_upd]
    exact ⟨rfl, hn _ _ ⟨rfl, (Kept.of s12).trans (Kept.upd rfl), WayAt.set (s' := z) (W.same s12) rfl rfl⟩⟩
  -- letter = (self.mark, self.slot if self.bears == 1 else None)
  refine blk_cons (fun σ H' => ∃ a, σ = σ4 (some (.ref a)) none none none ∧ Kept H H' (· = p) ∧ WayAt C H' p c fl' fe' z lp ep ∧ PairAt wV H' (.ref a) (z.mark, z.word))
    ⟨_, ps_set (i := 4) scBeat.nd rfl (.inl rfl) (pe_tup (pa_cons (pe_fld (pv 0) rfl) (pa_cons (pe_ifExp (pt_cmpR op_eq (pe_fld (pv 0) rfl) pe_int (nomark _)) (pe_fld (pv 0) rfl) pe_non) pa_nil))), ?_⟩ ?_
  · rintro nx bk ct σ H' hn ⟨rfl, k1, W1⟩
    obtain ⟨⟨dy, hp1⟩, _⟩ := id W1
    refine ⟨_, rfl, p, C, dy, _, _, rfl, hp1, T.cl, T.n 5, at_wk 5 rfl rfl, _, rfl, p, C, dy, _, _, rfl, hp1, T.cl, T.n 6, at_wk 6 rfl rfl, by show scal (bV z.bears) _ = true; rfl, _, rfl, ?_⟩
    have fin : ∀ a, H' a = none → ∀ v, v = wV z.word → nx (σ4 (some (.ref a)) none none none) (upd H' a (.tup [.int z.mark, v])) := by
      rintro a ha v rfl
      have s2 : Same H' (upd H' a (.tup [.int z.mark, wV z.word])) := Same.new ha
      exact hn _ _ ⟨a, rfl, k1.trans (Kept.of s2), W1.same s2, a, rfl, upd_same⟩
    cases hb : z.bears with
    | true => exact iteET (by rw [dec_b1]) ⟨_, rfl, p, C, dy, _, _, rfl, hp1, T.cl, T.n 7, at_wk 7 rfl rfl, by show 2 ≤ sizeLine; decide, fun a ha => fin a ha _ (by unfold Wy.S.word; rw [hb]; rfl)⟩
    | false => exact iteEF (by rw [dec_b1]) ⟨by show 2 ≤ sizeLine; decide, fun a ha => fin a ha _ (by unfold Wy.S.word; rw [hb]; rfl)⟩
  -- is_free, taken = (self.slot is None, self.box if taking else None)
  refine blk_cons (fun σ H' => ∃ a, σ = σ4 (some (.ref a)) (some (.bl z.slot.isNone)) (some (wV (Wy.gives z t))) none ∧ Kept H H' (· = p) ∧ WayAt C H' p c fl' fe' z lp ep ∧ PairAt wV H' (.ref a) (z.mark, z.word))
    ⟨_, ps_par (i := 5) (j := 6) rfl scBeat.nd rfl rfl (by decide) rfl rfl (pa_cons (pe_cmp (pc_isN (pe_fld (pv 0) rfl))) (pa_cons (pe_ifExp (pt_val (pv 2)) (pe_fld (pv 0) rfl) pe_non) pa_nil)) (by rfl), ?_⟩ ?_
  · rintro nx bk ct σ H' hn ⟨a, rfl, k1, W1, ha⟩
    obtain ⟨⟨dy, hp1⟩, _⟩ := id W1
    refine ⟨_, rfl, p, C, dy, _, _, rfl, hp1, T.cl, T.n 7, at_wk 7 rfl rfl, _, rfl, t, rfl, ?_⟩
    have e7 : V.bl (decide (wV z.slot = V.non)) = .bl z.slot.isNone := by rw [dec_w]
    cases t with
    | true => exact iteT ⟨_, rfl, p, C, dy, _, _, rfl, hp1, T.cl, T.n 10, at_wk 10 rfl rfl, _, _, rfl, hn _ _ ⟨a, by show _ = σ4 _ (some (V.bl z.slot.isNone)) _ _; rw [← e7]; rfl, k1, W1, ha⟩⟩
    | false => exact iteF ⟨_, _, rfl, hn _ _ ⟨a, by show _ = σ4 _ (some (V.bl z.slot.isNone)) _ _; rw [← e7]; rfl, k1, W1, ha⟩⟩
  -- echoes = self.taken_up()
  refine blk_cons (fun σ H' => ∃ a r lp1 es, σ = σ4 (some (.ref a)) (some (.bl z.slot.isNone)) (some (wV (Wy.gives z t))) (some (.ref r)) ∧ Kept H H' (· = p) ∧ H r = none ∧ (lp1 = lp ∨ H lp1 = none) ∧ r ≠ lp1 ∧
      WayAt C H' p c fl' fe' (tkS z) lp1 ep ∧ PairAt wV H' (.ref a) (z.mark, z.word) ∧ H' r = some (.lst es) ∧ RowAt bV H' es (Wy.nEcho z))
    ⟨_, ps_set (i := 7) scBeat.nd rfl (.inl rfl) (pe_meth0 (pv 0) T.cl mT GT hr1 bT .nil pass0), ?_⟩ ?_
  · rintro nx bk ct σ H' hn ⟨a, rfl, k1, W1, ha⟩
    obtain ⟨⟨dy, hp1⟩, _⟩ := id W1
    have nt1 : NoTup H' (· = p) := no_tup1 hp1 rfl
    refine ⟨_, rfl, p, dy, _, rfl, hp1, lookup_no (by decide +kernel), p, c, fl', fe', z, lp, ep, rfl, W1, Nat.le_trans n1 ok.h2, fun H2 r lp1 es f1 f2 f3 k2 W2 e2 t2 => ?_⟩
    exact hn _ _ ⟨a, r, lp1, es, rfl, k1.trans k2, k1.free1 f1 hp1, f2.imp id fun f2 => k1.free1 f2 hp1, f3, W2, ha.kept k2 nt1, e2, t2⟩
  -- self.heard()
  refine blk_cons (fun σ H' => ∃ a r lp1 ep1 es, σ = σ4 (some (.ref a)) (some (.bl z.slot.isNone)) (some (wV (Wy.gives z t))) (some (.ref r)) ∧ Kept H H' (· = p) ∧ (lp1 = lp ∨ H lp1 = none) ∧ H ep1 = none ∧ r ≠ lp1 ∧ r ≠ ep1 ∧ r ≠ p ∧
      WayAt C H' p c fl' fe' (hs c.h (tkS z)) lp1 ep1 ∧ PairAt wV H' (.ref a) (z.mark, z.word) ∧ H' r = some (.lst es) ∧ RowAt bV H' es (Wy.nEcho z))
    ⟨_, ps_expr (pe_meth0 (pv 0) T.cl mH GH hr bH .nil pass0), ?_⟩ ?_
  · rintro nx bk ct σ H' hn ⟨a, r, lp1, es, rfl, k1, fr, fl1, nrl, W1, ha, hr', tr⟩
    obtain ⟨⟨dy, hp1⟩, _⟩ := id W1
    have nt1 : NoTup H' (· = p) := no_tup1 hp1 rfl
    have nrp : r ≠ p := ne_of hr' hp1 (by intro z; cases z)
    refine ⟨_, rfl, p, dy, _, rfl, hp1, lookup_no (by decide +kernel), p, c, fl', fe', tkS z, lp1, ep, rfl, W1, ok.h2, fun H2 ep1 f1 k2 W2 => ?_⟩
    exact hn _ _ ⟨a, r, lp1, ep1, es, rfl, k1.trans k2, fl1, k1.free1 f1 hp1, nrl, ne_of_none hr' f1, nrp, W2, ha.kept k2 nt1, k2 _ _ hr' nrp, tr.kept k2 nt1⟩
  -- self.letters.extend([] if lost[0] else [letter])
  refine blk_cons (fun σ H' => ∃ a r lp1 ep1 es, σ = σ4 (some (.ref a)) (some (.bl z.slot.isNone)) (some (wV (Wy.gives z t))) (some (.ref r)) ∧ Kept H H' (Own p lp ep) ∧ (lp1 = lp ∨ H lp1 = none) ∧ H ep1 = none ∧ r ≠ lp1 ∧ r ≠ ep1 ∧ r ≠ p ∧ SqT K H' q [.bl l1, .bl l2] ∧
      WayAt C H' p c fl' fe' { hs c.h (tkS z) with letters := z.letters.tail ++ (if l1 then [] else [(z.mark, z.word)]) } lp1 ep1 ∧ H' r = some (.lst es) ∧ RowAt bV H' es (Wy.nEcho z))
    ⟨_, ps_expr (pe_bm PySem.F.plainAttrs_list PySem.F.slot_list_extend PySem.F.type_list_extend mt_extend (pe_fld (pv 0) rfl) (pa_cons (pe_ifExp (pt_val (pe_ix ix_tup (pv 3) pe_int (fun _ _ => rfl))) (pe_lst pa_nil) (pe_lst (pa_cons (pv 4) pa_nil))) pa_nil)), ?_⟩ ?_
  · rintro nx bk ct σ H' hn ⟨a, r, lp1, ep1, es, rfl, k1, fl1, fe1, nrl, nre, nrp, W1, ha, hr', tr⟩
    obtain ⟨⟨dy, hp1⟩, ⟨tq, hq1, tq1⟩, ⟨uq, hu1, uq1⟩, ne1⟩ := id W1
    refine ⟨_, rfl, p, C, dy, _, _, rfl, hp1, T.cl, T.n 11, at_wk 11 rfl rfl, .inl ⟨rfl, _, SqL.of hq1⟩, _, rfl, q, _, 0, _, rfl, rfl, sl k1, atI_nat (j := 0) rfl, l1, rfl, ?_⟩
    have fin : ∀ (n : Addr) (ms : List V), H' n = none → ms.length ≤ 1 → RowAt wV (upd H' n (.lst ms)) ms (if l1 then [] else [(z.mark, z.word)]) →
        upd H' n (.lst ms) lp1 = some (.lst tq) ∧ upd H' n (.lst ms) n = some (.lst ms) ∧ tq.length + ms.length ≤ sizeLine ∧ nx (σ4 (some (.ref a)) (some (.bl z.slot.isNone)) (some (wV (Wy.gives z t))) (some (.ref r))) (upd (upd H' n (.lst ms)) lp1 (.lst (tq ++ ms))) := by
      intro n ms hn0 hm rm
      have s2 : Same H' (upd H' n (.lst ms)) := Same.new hn0
      have hq2 := s2 _ _ hq1
      refine ⟨hq2, upd_same, ?_, hn _ _ ⟨a, r, lp1, ep1, es, rfl, ?_, fl1, fe1, nrl, nre, nrp, ?_, ?_, ?_, ?_⟩⟩
      · have e1 := tq1.length
        have e2 : (hs c.h (tkS z)).letters.length ≤ 6 := by
          show z.letters.tail.length ≤ 6
          rw [List.length_tail]
          have := ok.h2; omega
        have : (8 : Nat) ≤ sizeLine := by decide
        omega
      · exact ((k1.mono fun _ e => .inl e).trans (Kept.of s2)).updO (fl1.imp (fun e => by rw [e]; exact .inr (.inl rfl)) id)
      · have nt2 : NoTup (upd H' n (.lst ms)) (· = lp1) := no_tup1 hq2 rfl
        exact sqT_kept (D := (· = lp1)) (sqT_same (sl k1) s2) (Kept.upd rfl) nt2
      · have nt2 : NoTup (upd H' n (.lst ms)) (· = lp1) := no_tup1 hq2 rfl
        have kk : Kept (upd H' n (.lst ms)) (upd (upd H' n (.lst ms)) lp1 (.lst (tq ++ ms))) (· = lp1) := Kept.upd rfl
        have nlp : p ≠ lp1 := ne_of hp1 hq1 (by intro z; cases z)
        exact ⟨⟨dy, kk _ _ (s2 _ _ hp1) nlp⟩, ⟨_, upd_same, ((tq1.same s2).append rm).kept kk nt2⟩, ⟨uq, kk _ _ (s2 _ _ hu1) ne1.symm, (uq1.same s2).kept kk nt2⟩, ne1⟩
      · rw [upd_ne nrl]; exact s2 _ _ hr'
      · have nt2 : NoTup (upd H' n (.lst ms)) (· = lp1) := no_tup1 hq2 rfl
        exact (tr.same s2).kept (D := (· = lp1)) (Kept.upd rfl) nt2
    cases l1 with
    | true =>
      refine iteT ⟨Nat.zero_le _, fun n hn0 => ?_⟩
      obtain ⟨f1, f2, f3, f4⟩ := fin n [] hn0 (Nat.zero_le _) .nil
      exact ⟨lp1, n, tq, [], rfl, rfl, f1, f2, f3, f4⟩
    | false =>
      refine iteF ⟨_, rfl, by show 1 ≤ sizeLine; decide, fun n hn0 => ?_⟩
      obtain ⟨f1, f2, f3, f4⟩ := fin n [.ref a] hn0 (Nat.le_refl _) (.cons (ha.kept (D := fun _ => False) (Kept.of (Same.new hn0)) fun _ _ z => z.elim) .nil)
      exact ⟨lp1, n, tq, [.ref a], rfl, rfl, f1, f2, f3, f4⟩
  -- self.echoes.extend([] if lost[1] else echoes)
  refine blk_cons (fun σ H' => ∃ a r lp1 ep1, σ = σ4 (some (.ref a)) (some (.bl z.slot.isNone)) (some (wV (Wy.gives z t))) (some (.ref r)) ∧ Kept H H' (Own p lp ep) ∧ (lp1 = lp ∨ H lp1 = none) ∧ H ep1 = none ∧
      WayAt C H' p c fl' fe' { hs c.h (tkS z) with letters := z.letters.tail ++ (if l1 then [] else [(z.mark, z.word)]), echoes := z.echoes.tail ++ (if l2 then [] else Wy.nEcho z) } lp1 ep1)
    ⟨_, ps_expr (pe_bm PySem.F.plainAttrs_list PySem.F.slot_list_extend PySem.F.type_list_extend mt_extend (pe_fld (pv 0) rfl) (pa_cons (pe_ifExp (pt_val (pe_ix ix_tup (pv 3) pe_int (fun _ _ => rfl))) (pe_lst pa_nil) (pv 7)) pa_nil)), ?_⟩ ?_
  · rintro nx bk ct σ H' hn ⟨a, r, lp1, ep1, es, rfl, k1, fl1, fe1, nrl, nre, nrp, sq1, W1, hr', tr⟩
    obtain ⟨⟨dy, hp1⟩, ⟨tq, hq1, tq1⟩, ⟨uq, hu1, uq1⟩, ne1⟩ := id W1
    refine ⟨_, rfl, p, C, dy, _, _, rfl, hp1, T.cl, T.n 12, at_wk 12 rfl rfl, .inl ⟨rfl, _, SqL.of hu1⟩, _, rfl, q, _, 1, _, rfl, rfl, sq1, atI_nat (j := 1) rfl, l2, rfl, ?_⟩
    have fin : ∀ (H2 : Hp) (n : Addr) (ms : List V), Same H' H2 → H2 n = some (.lst ms) → ms.length ≤ 1 → RowAt bV H2 ms (if l2 then [] else Wy.nEcho z) →
        H2 ep1 = some (.lst uq) ∧ uq.length + ms.length ≤ sizeLine ∧ nx (σ4 (some (.ref a)) (some (.bl z.slot.isNone)) (some (wV (Wy.gives z t))) (some (.ref r))) (upd H2 ep1 (.lst (uq ++ ms))) := by
      intro H2 n ms s2 hn0 hm rm
      have hu2 := s2 _ _ hu1
      have nt2 : NoTup H2 (· = ep1) := no_tup1 hu2 rfl
      have kk : Kept H2 (upd H2 ep1 (.lst (uq ++ ms))) (· = ep1) := Kept.upd rfl
      have npe : p ≠ ep1 := ne_of hp1 hu1 (by intro z; cases z)
      refine ⟨hu2, ?_, hn _ _ ⟨a, r, lp1, ep1, rfl, (k1.trans (Kept.of s2)).updO (.inr fe1), fl1, fe1, ⟨dy, kk _ _ (s2 _ _ hp1) npe⟩, ⟨tq, kk _ _ (s2 _ _ hq1) ne1, (tq1.same s2).kept kk nt2⟩, ⟨_, upd_same, ((uq1.same s2).append rm).kept kk nt2⟩, ne1⟩⟩
      have e1 := uq1.length
      have e2 : z.echoes.tail.length ≤ 6 := by
        rw [List.length_tail]
        have := ok.h2; omega
      have e3 : uq.length = z.echoes.tail.length := e1
      have : (8 : Nat) ≤ sizeLine := by decide
      omega
    cases l2 with
    | true =>
      refine iteT ⟨Nat.zero_le _, fun n hn0 => ?_⟩
      obtain ⟨f1, f3, f4⟩ := fin (upd H' n (.lst [])) n [] (Same.new hn0) upd_same (Nat.zero_le _) .nil
      exact ⟨ep1, n, uq, [], rfl, rfl, f1, upd_same, f3, f4⟩
    | false =>
      refine iteF ⟨_, rfl, ?_⟩
      have hes : es.length ≤ 1 := by
        rw [tr.length]
        rcases Wy.nEcho_cases z with e | e <;> rw [e] <;> simp
      obtain ⟨f1, f3, f4⟩ := fin H' r es (Same.refl _) hr' hes tr
      exact ⟨ep1, r, uq, es, rfl, rfl, f1, hr', f3, f4⟩
  -- if is_free and word is not None: self.slot = word
  refine blk_cons (fun σ H' => ∃ a r lp1 ep1, σ = σ4 (some (.ref a)) (some (.bl z.slot.isNone)) (some (wV (Wy.gives z t))) (some (.ref r)) ∧ Kept H H' (Own p lp ep) ∧ (lp1 = lp ∨ H lp1 = none) ∧ H ep1 = none ∧
      WayAt C H' p c fl' fe' { hs c.h (tkS z) with slot := Wy.nSlot z x, letters := z.letters.tail ++ (if l1 then [] else [(z.mark, z.word)]), echoes := z.echoes.tail ++ (if l2 then [] else Wy.nEcho z) } lp1 ep1)
    ⟨_, ps_if (PW.pt (pw_and (pt_val (pv 5)) (pw_and1 (pt_cmp (pc_notN (pv 1)))))) (pss_one (ps_fld (pv 0) (pv 1) rfl)) pss_nil, ?_⟩ ?_
  · rintro nx bk ct σ H' hn ⟨a, r, lp1, ep1, rfl, k1, fl1, fe1, W1⟩
    obtain ⟨⟨dy, hp1⟩, _⟩ := id W1
    have keep : (z.slot.isNone && x.isSome) = false → nx (σ4 (some (.ref a)) (some (.bl z.slot.isNone)) (some (wV (Wy.gives z t))) (some (.ref r))) H' := fun e => by
      refine hn _ _ ⟨a, r, lp1, ep1, rfl, k1, fl1, fe1, ?_⟩
      have : Wy.nSlot z x = (if z.over then none else z.slot) := by unfold Wy.nSlot; rw [e]; rfl
      rw [this]; exact W1
    refine ⟨_, rfl, z.slot.isNone, rfl, ?_⟩
    cases h1 : z.slot.isNone with
    | false => exact iteF (iteF (by have := keep (by rw [h1]; rfl); rw [h1] at this; exact this))
    | true =>
      refine iteT ⟨_, rfl, _, rfl, ?_⟩
      cases h2 : x with
      | none => exact iteEF (by rw [dec_w]; rfl) (by have := keep (by rw [h2]; simp); rw [h1] at this; exact this)
      | some i =>
        refine iteET (by rw [dec_w]; rfl) ⟨_, rfl, _, rfl, p, C, dy, _, rfl, hp1, T.cl, T.n 7, len_wk rfl, ?_⟩
        rw [put_wk 7 rfl rfl]
        refine hn _ _ ⟨a, r, lp1, ep1, by rw [h1], k1.updO (.inl (.inl rfl)), fl1, fe1, ?_⟩
        have : Wy.nSlot z x = x := by unfold Wy.nSlot; rw [h1, h2]; rfl
        rw [this]
        exact WayAt.set (s' := { hs c.h (tkS z) with slot := x, letters := z.letters.tail ++ (if l1 then [] else [(z.mark, z.word)]), echoes := z.echoes.tail ++ (if l2 then [] else Wy.nEcho z) }) W1 rfl rfl
  -- if taken is not None: self.box = None
  refine blk_cons (fun σ H' => ∃ a r lp1 ep1, σ = σ4 (some (.ref a)) (some (.bl z.slot.isNone)) (some (wV (Wy.gives z t))) (some (.ref r)) ∧ Kept H H' (Own p lp ep) ∧ (lp1 = lp ∨ H lp1 = none) ∧ H ep1 = none ∧
      WayAt C H' p c fl' fe' (Wy.beat c.h z x t (l1, l2)) lp1 ep1)
    ⟨_, ps_if (pt_cmp (pc_notN (pv 6))) (pss_one (ps_fld (pv 0) pe_non rfl)) pss_nil, ?_⟩ ?_
  · rintro nx bk ct σ H' hn ⟨a, r, lp1, ep1, rfl, k1, fl1, fe1, W1⟩
    obtain ⟨⟨dy, hp1⟩, _⟩ := id W1
    refine ⟨_, rfl, _, rfl, ?_⟩
    have e0 : (!decide (wV (Wy.gives z t) = V.non)) = (t && z.box.isSome) := by
      rw [dec_w, ← gives_isSome]; cases Wy.gives z t <;> rfl
    rw [e0]
    cases h1 : (t && z.box.isSome) with
    | false =>
      refine iteF (hn _ _ ⟨a, r, lp1, ep1, rfl, k1, fl1, fe1, ?_⟩)
      have : Wy.beat c.h z x t (l1, l2) = { hs c.h (tkS z) with slot := Wy.nSlot z x, letters := z.letters.tail ++ (if l1 then [] else [(z.mark, z.word)]), echoes := z.echoes.tail ++ (if l2 then [] else Wy.nEcho z) } := by
        unfold Wy.beat Wy.nBox
        rw [h1]; rfl
      rw [this]; exact W1
    | true =>
      refine iteT ⟨_, rfl, p, C, dy, _, rfl, hp1, T.cl, T.n 10, len_wk rfl, ?_⟩
      rw [put_wk 10 rfl rfl]
      refine hn _ _ ⟨a, r, lp1, ep1, rfl, k1.updO (.inl (.inl rfl)), fl1, fe1, ?_⟩
      have : Wy.beat c.h z x t (l1, l2) = { hs c.h (tkS z) with box := none, slot := Wy.nSlot z x, letters := z.letters.tail ++ (if l1 then [] else [(z.mark, z.word)]), echoes := z.echoes.tail ++ (if l2 then [] else Wy.nEcho z) } := by
        unfold Wy.beat Wy.nBox
        rw [h1]; rfl
      rw [this]
      exact WayAt.set (s' := { hs c.h (tkS z) with box := none, slot := Wy.nSlot z x, letters := z.letters.tail ++ (if l1 then [] else [(z.mark, z.word)]), echoes := z.echoes.tail ++ (if l2 then [] else Wy.nEcho z) }) W1 rfl rfl
  -- return (None if word is None else is_free, taken)
  refine blk_one ⟨_, ps_ret (pe_tup (pa_cons (pe_ifExp (pt_cmp (pc_isN (pv 1))) pe_non (pv 5)) (pa_cons (pv 6) pa_nil))), ?_⟩
  rintro nx bk ct σ H' hn ⟨a, r, lp1, ep1, rfl, k1, fl1, fe1, W1⟩
  refine ⟨_, rfl, _, rfl, ?_⟩
  have fin : ∀ n, H' n = none → Q (.ref n) (upd H' n (.tup [putV x z, wV (Wy.gives z t)])) := fun n hn0 => by
    have s2 : Same H' (upd H' n (.tup [putV x z, wV (Wy.gives z t)])) := Same.new hn0
    exact k _ n lp1 ep1 fl1 fe1 (k1.trans (Kept.of s2)) (W1.same s2) upd_same
  cases hx : x with
  | none =>
    refine iteET (by rw [dec_w]; rfl) ⟨_, rfl, by show 2 ≤ sizeLine; decide, fun n hn0 => ?_⟩
    have := fin n hn0
    rw [hx] at this; exact this
  | some i =>
    refine iteEF (by rw [dec_w]; rfl) ⟨_, rfl, _, rfl, by show 2 ≤ sizeLine; decide, fun n hn0 => ?_⟩
    have := fin n hn0
    rw [hx] at this; exact this
end
end Wk
namespace Wk
open PySem L2 Ru
/-- a comprehension over zip of two lists -/
theorem lc_zip {K : PySem.W.Frag} {a b : Addr} {xs ys : List V} {g : TG} {tt : TT} {te : TE} {vs : List Nat} {σ : L2.St} {H1 : Hp} {D : Addr} {Qd : Hp → Prop} (Pv : Nat → Hp → Prop) (h0 : Pv 0 (upd H1 D (.lst []))) (hq : ∀ i H, Pv i H → SqL K H a xs ∧ SqL K H b ys)
    (step : ∀ i x y T H, xs[i]? = some x → ys[i]? = some y → Pv i H → H T = none → g (.ref T) (wipe σ vs) (upd H T (.tup [x, y])) fun σ2 H2 => wipe σ2 vs = wipe σ vs ∧ tt σ2 H2 fun c H3 =>
      if c = true then te σ2 H3 fun z H4 => ∃ acc, H4 D = some (.lst acc) ∧ acc.length < sizeLine ∧ Pv (i + 1) (upd H4 D (.lst (acc ++ [z]))) else Pv (i + 1) H3) (hd : ∀ H, Pv (min xs.length ys.length) H → Qd H) :
    ∃ W : Nat → Nat → Hp → Prop, (∃ m, W 0 m (upd H1 D (.lst []))) ∧ ∀ i m H, W i m H →
      ((Itz K a b).stop i H ∧ Qd H) ∨ ((Itz K a b).go i H ∧ ∃ Nx : Hp → Prop, (∀ H', Nx H' → ∃ m', m' < m ∧ W (i + 1) m' H') ∧ ∀ x H', (Itz K a b).yld i H x H' → g x (wipe σ vs) H' fun σ2 H2 => wipe σ2 vs = wipe σ vs ∧ tt σ2 H2 fun c H3 =>
        if c = true then te σ2 H3 fun z H4 => ∃ acc, H4 D = some (.lst acc) ∧ acc.length < sizeLine ∧ Nx (upd H4 D (.lst (acc ++ [z]))) else Nx H3) := by
  refine ⟨fun i m H => m + i = min xs.length ys.length ∧ Pv i H, ⟨_, rfl, h0⟩, ?_⟩
  rintro i m H ⟨e, p⟩
  obtain ⟨q1, q2⟩ := hq i H p
  cases m with
  | zero =>
    refine .inl ⟨⟨xs, ys, q1, q2, by omega⟩, hd H ?_⟩
    rw [← e, Nat.zero_add]; exact p
  | succ m =>
    have lx : i < xs.length := by omega
    have ly : i < ys.length := by omega
    refine .inr ⟨⟨xs, ys, xs[i], ys[i], q1, q2, List.getElem?_eq_getElem lx, List.getElem?_eq_getElem ly⟩, Pv (i + 1), fun H' p' => ⟨m, Nat.lt_succ_self _, by omega, p'⟩, ?_⟩
    rintro v H' ⟨T, x, y, rfl, hT, rfl, f1, f2⟩
    exact step i x y T H (f1 xs q1) (f2 ys q2) p hT
theorem all_true (n : Nat) : (List.replicate n true).all id = true := by
  rw [List.all_eq_true]
  intro x hx
  exact (List.mem_replicate.mp hx).2
theorem rep_succ (n : Nat) : (List.replicate n true).map V.bl ++ [V.bl true] = (List.replicate (n + 1) true).map V.bl := by
  rw [List.replicate_succ', List.map_append]; rfl
section
variable {P : Program} {w : World} {K : PySem.W.Frag} {mg : Str → Option Value} {base : Heap} {C f : Addr} {fd : FuncData}
/-! ### is_in_turn -/
/-- how the second part lies, and what it is -/
structure Part {α : Type} (fv : α → V) (gd : α → PyData) : Prop where
  dp : ∀ (K : PySem.W.Frag) (H : Hp) (x : α), Dp K H (fv x) (gd x)
  lay : ∀ x, (gd x).canLay0 = true ∧ (gd x).depth = 0
  eq : ∀ x, PyData.eqv (gd x) (gd x) = true
theorem part_w : Part wV dW := ⟨fun _ _ => dp_w, lay_w, fun x => by rw [eqv_w, decide_eq_true rfl]⟩
def dB (b : Bool) : PyData := .int (if b then 1 else 0)
theorem part_b : Part bV dB := ⟨fun _ _ b => .int _, fun b => ⟨by simp [dB, PyData.canLay0], by simp [dB, PyData.depth]⟩, fun b => by simp [dB, PyData.eqv]⟩
def spTurn : Sp := fun vs H Q _ => ∃ (α : Type) (fv : α → V) (gd : α → PyData) (ra oa : Addr) (ts : List V) (ls : List (Nat × α)) (m ah : Nat) (x : α), vs = [.ref ra, .ref oa, .int ah] ∧ Part fv gd ∧ H ra = some (.lst ts) ∧ RowAt fv H ts ls ∧ PairAt fv H (.ref oa) (m, x) ∧ ls.length ≤ 6 ∧
  (∀ l ∈ ls, l = (m, x) ∨ l.1 = ah) ∧ (∀ (i : Nat) k l, ls[i]? = some k → ls[i + 1]? = some l → k.1 = ah ∨ l.1 ≠ ah) ∧ ∀ H', Same H H' → Q (.bl true) H'
theorem scTurn : FnScope ["row", "own", "ahead", "one", "later"] ["row", "own", "ahead"] (defScope sTurn) := ⟨rfl, rfl, rfl, by decide +kernel, rfl, by decide +kernel, by decide +kernel⟩
theorem ok_turn (F : Fun K "is_in_turn" "is_in_turn" sTurn f fd) (T : Txt K mg C) : FnOk P w K mg base CX0 1 f fd ["row", "own", "ahead"] spTurn := by
  refine F.ok scTurn (fun vs H Q E h => ?_) (fun cdv A outer s H vs Q E hr h => ?_)
  · obtain ⟨α, fv, gd, ra, oa, ts, ls, m, ah, x, rfl, _⟩ := h
    rfl
  · obtain ⟨α, fv, gd, ra, oa, ts, ls, m, ah, x, rfl, pt, hra, tr, hoa, hlen, h1, h2, k⟩ := h
    refine blk_run (Pre := fun σ H' => σ = start ["row", "own", "ahead", "one", "later"] [.ref ra, .ref oa, .int ah] ∧ H' = H) (Post := fun _ _ => False) ?_ (fun _ _ z => z.elim) ⟨rfl, rfl⟩
    have six : (6 : Nat) < sizeLine := by decide
    have tlen := tr.length
    refine blk_cons (fun σ H' => σ = start ["row", "own", "ahead", "one", "later"] [.ref ra, .ref oa, .int ah] ∧ Same H H')
      ⟨_, ps_if (pt_not (pt_val (pe_callB (cr_all rfl) (by rfl) (T.b 4) (by decide +kernel) (pa_cons (pe_lc (own := [("one", 3)]) (g := gName 3) (tt := tYes) rfl scTurn.nd (pi_list (pv 0)) (blkOk_by (own := [("one", 3)]) (N := ["row", "own", "ahead", "one", "later"]) (sc := defScope sTurn) (by decide +kernel)) (fun _ _ _ _ _ => pg_name (i := 3) scTurn.nd rfl (Or.inl rfl)) (fun _ _ _ _ _ => pts_nil)
        (fun _ _ _ _ _ => pe_or (pe_cmpR (r := rEqD K) (op_eqD hr.units) (pv 3) (pv 1) (nomark _)) (pe_one (pe_cmpR op_eq (pe_ix (r := rIxT K) ix_tup (pv 3) pe_int (fun _ _ => rfl)) (pv 2) (nomark _))))) pa_nil)))) (pss_one (ps_ret pe_bl)) pss_nil, ?_⟩ ?_
    · rintro nx bk ct σ H' hn ⟨rfl, rfl⟩
      refine ⟨_, rfl, ra, rfl, ⟨_, SqL.of hra⟩, fun D hD => ?_⟩
      refine lc_list (K := K) (a := ra) (xs := ts) (fun i H2 => Same H' H2 ∧ H2 D = some (.lst ((List.replicate i true).map V.bl))) ⟨Same.new hD, upd_same⟩ (fun i H2 _ h => SqL.of (h.1 _ _ hra)) ?_ ?_
      · rintro i t H2 ht ⟨s2, e2⟩
        obtain ⟨l, hl, pl⟩ := tr.get ht
        have hi : i < 6 := by
          have := (List.getElem?_eq_some_iff.mp hl).1
          omega
        have pl2 := pl.kept (D := fun _ => False) (Kept.of s2) fun _ _ z => z.elim
        have ho2 := hoa.kept (D := fun _ => False) (Kept.of s2) fun _ _ z => z.elim
        obtain ⟨a, rfl, ea⟩ := id pl2
        have fin : ∃ acc, H2 D = some (.lst acc) ∧ acc.length < sizeLine ∧ Same H' (upd H2 D (.lst (acc ++ [V.bl true]))) ∧ upd H2 D (.lst (acc ++ [V.bl true])) D = some (.lst ((List.replicate (i + 1) true).map V.bl)) :=
          ⟨_, e2, by rw [List.length_map, List.length_replicate]; omega, fun q o e => by rw [upd_ne (ne_of_none e hD)]; exact s2 _ _ e, by rw [upd_same, rep_succ]⟩
        refine ⟨rfl, _, rfl, _, rfl, _, _, dp_pair (pt.dp K H2) pl2, dp_pair (pt.dp K H2) ho2, shaped_pair (pt.lay _).1 (pt.lay _).2, shaped_pair (pt.lay _).1 (pt.lay _).2, _, rfl, ?_⟩
        cases q : PyData.eqv (.tuple [.int l.1, gd l.2]) (.tuple [.int m, gd x]) with
        | true => exact iteT fin
        | false =>
          have e1 : l.1 = ah := by
            rcases h1 l (List.mem_of_getElem? hl) with e | e
            · rw [e, eqv_pair, pt.eq, decide_eq_true rfl] at q
              cases q
            · exact e
          refine iteF ⟨_, rfl, a, _, 0, _, rfl, rfl, SqT.of ea, atI_nat (j := 0) rfl, _, rfl, rfl, ?_⟩
          rw [dec_nat, e1, beq_self_eq_true]
          exact fin
      · rintro H2 ⟨s2, e2⟩
        refine ⟨D, List.replicate ts.length true, rfl, SqL.of e2, true, ?_, iteF (hn _ _ ⟨rfl, s2⟩)⟩
        rw [all_true]
    refine blk_one ⟨_, ps_ret (pe_callB (cr_all rfl) (by rfl) (T.b 4) (by decide +kernel) (pa_cons (pe_lc (own := [("one", 3), ("later", 4)]) (g := gTup K 2 (gCons (gName 3) (gCons (gName 4) gNil))) (tt := tYes) rfl scTurn.nd (pi_zip (by rfl) (T.b 5) (pa_cons (pv 0) (pa_cons (pe_slice sl_list (pv 0) (po_some pe_int) po_none) pa_nil))) (blkOk_by (own := [("one", 3), ("later", 4)]) (N := ["row", "own", "ahead", "one", "later"]) (sc := defScope sTurn) (by decide +kernel))
        (fun _ _ _ _ _ => pg_tup rfl (pgs_cons (pg_name (i := 3) scTurn.nd rfl (Or.inl rfl)) (pgs_cons (pg_name (i := 4) scTurn.nd rfl (Or.inl rfl)) pgs_nil))) (fun _ _ _ _ _ => pts_nil)
        (fun _ _ _ _ _ => pe_or (pe_cmpR op_eq (pe_ix (r := rIxT K) ix_tup (pv 3) pe_int (fun _ _ => rfl)) (pv 2) (nomark _)) (pe_one (pe_cmpR op_ne (pe_ix (r := rIxT K) ix_tup (pv 4) pe_int (fun _ _ => rfl)) (pv 2) (nomark _))))) pa_nil)), ?_⟩
    rintro nx bk ct σ H' hn ⟨rfl, s1⟩
    have hra1 := s1 _ _ hra
    refine ⟨_, rfl, _, rfl, _, rfl, ra, ts, rfl, SqL.of hra1, fun b hb => ?_⟩
    rw [cut_tail]
    have s2 : Same H (upd H' b (.lst ts.tail)) := s1.trans (Same.new hb)
    have hb2 : upd H' b (.lst ts.tail) b = some (.lst ts.tail) := upd_same
    generalize upd H' b (.lst ts.tail) = H2 at s2 hb2 ⊢
    refine ⟨ra, b, ts, ts.tail, rfl, SqL.of (s2 _ _ hra), SqL.of hb2, fun D hD => ?_⟩
    refine lc_zip (K := K) (a := ra) (b := b) (xs := ts) (ys := ts.tail) (fun i H3 => Same H2 H3 ∧ H3 D = some (.lst ((List.replicate i true).map V.bl))) ⟨Same.new hD, upd_same⟩ (fun i H3 h => ⟨SqL.of (h.1 _ _ (s2 _ _ hra)), SqL.of (h.1 _ _ hb2)⟩) ?_ ?_
    · rintro i t u Tp H3 ht hu ⟨s3, e3⟩ hT
      obtain ⟨l, hl, pl⟩ := tr.get ht
      have hu' : ts[i + 1]? = some u := by
        rw [List.getElem?_tail] at hu; exact hu
      obtain ⟨l', hl', pl'⟩ := tr.get hu'
      have hi : i < 6 := by
        have := (List.getElem?_eq_some_iff.mp hl).1
        omega
      have s4 : Same H (upd H3 Tp (.tup [t, u])) := (s2.trans s3).trans (Same.new hT)
      obtain ⟨a, rfl, ea⟩ := pl.kept (D := fun _ => False) (Kept.of s4) fun _ _ z => z.elim
      obtain ⟨a', rfl, ea'⟩ := pl'.kept (D := fun _ => False) (Kept.of s4) fun _ _ z => z.elim
      have eT : upd H3 Tp (.tup [.ref a, .ref a']) Tp = some (.tup [.ref a, .ref a']) := upd_same
      have e4 : upd H3 Tp (.tup [.ref a, .ref a']) D = some (.lst ((List.replicate i true).map V.bl)) := by rw [upd_ne (ne_of_none e3 hT)]; exact e3
      have s5 : Same H2 (upd H3 Tp (.tup [.ref a, .ref a'])) := s3.trans (Same.new hT)
      generalize upd H3 Tp (.tup [.ref a, .ref a']) = H4 at ea ea' eT e4 s5 ⊢
      have fin : ∃ acc, H4 D = some (.lst acc) ∧ acc.length < sizeLine ∧ Same H2 (upd H4 D (.lst (acc ++ [V.bl true]))) ∧ upd H4 D (.lst (acc ++ [V.bl true])) D = some (.lst ((List.replicate (i + 1) true).map V.bl)) :=
        ⟨_, e4, by rw [List.length_map, List.length_replicate]; omega, fun q o e => by rw [upd_ne (ne_of_none e hD)]; exact s5 _ _ e, by rw [upd_same, rep_succ]⟩
      refine ⟨Tp, _, rfl, SqT.of eT, rfl, _, _, rfl, _, _, rfl, rfl, rfl, _, rfl, a, _, 0, _, rfl, rfl, SqT.of ea, atI_nat (j := 0) rfl, _, rfl, rfl, _, rfl, ?_⟩
      rw [dec_nat]
      cases q : (l.1 == ah) with
      | true => exact iteT fin
      | false =>
        have ne : ¬ l'.1 = ah := (h2 i l l' hl hl').resolve_left fun e => by rw [e, beq_self_eq_true] at q; cases q
        refine iteF ⟨_, rfl, a', _, 0, _, rfl, rfl, SqT.of ea', atI_nat (j := 0) rfl, _, rfl, rfl, ?_⟩
        rw [dec_nat, beq_eq_false_iff_ne.mpr ne]
        exact fin
    · rintro H3 ⟨s3, e3⟩
      refine ⟨D, List.replicate (min ts.length ts.tail.length) true, rfl, SqL.of e3, ?_⟩
      rw [all_true]
      exact k _ (s2.trans s3)
end
end Wk
namespace Wk
open PySem L2 Ru
/-- a row of which X is of the mark ahead, Y of another one -/
theorem turn_of {α : Type} {ls X Y : List (Nat × α)} {m ah : Nat} {x : α} (e : ls = X ++ Y) (hX : ∀ l ∈ X, l.1 = ah) (hY : ∀ l ∈ Y, l = (m, x)) (ne : m ≠ ah) :
    (∀ l ∈ ls, l = (m, x) ∨ l.1 = ah) ∧ ∀ (i : Nat) k l, ls[i]? = some k → ls[i + 1]? = some l → k.1 = ah ∨ l.1 ≠ ah := by
  subst e
  refine ⟨fun l hl => ?_, fun i k l hk hl => ?_⟩
  · rcases List.mem_append.mp hl with h | h
    · exact .inr (hX l h)
    · exact .inl (hY l h)
  · by_cases hi : i < X.length
    · rw [List.getElem?_append_left hi] at hk
      exact .inl (hX k (List.mem_of_getElem? hk))
    · rw [List.getElem?_append_right (by omega)] at hl
      rw [hY l (List.mem_of_getElem? hl)]
      exact .inr ne
section
variable {P : Program} {w : World} {K : PySem.W.Frag} {mg : Str → Option Value} {base : Heap} {C f : Addr} {fd : FuncData}
/-! ### is_plain -/
def spPlain (C : Addr) : Sp := fun vs H Q _ => ∃ (p : Addr) (c : Cf) (fl fe : Nat) (s : Wy.S) (lp ep : Addr), vs = [.ref p] ∧ WayAt C H p c fl fe s lp ep ∧ c.Ok ∧ Wy.Plain c.h s ∧ s.letters.length ≤ c.h ∧ s.echoes.length ≤ c.h ∧ ∀ H', Same H H' → Q (.bl true) H'
theorem scPlain : FnScope ["self", "ahead", "letter", "mark", "word", "took"] ["self"] (defScope sPlain) := ⟨rfl, rfl, rfl, by decide +kernel, rfl, by decide +kernel, by decide +kernel⟩
theorem in_two {l m a : Nat} (h : l = m ∨ l = a) : inV (V.int l) [V.int m, V.int a] = true := by
  rcases h with h | h <;> subst h <;> simp [inV, eqV]
theorem ok_plain (F : Fun K "is_plain" "Way.is_plain" sPlain f fd) (T : Txt K mg C) (M : Has P w K mg base 1 "marks" ["hold"] spMarks) (I : Has P w K mg base 1 "is_in_turn" ["row", "own", "ahead"] spTurn) : FnOk P w K mg base CX0 2 f fd ["self"] (spPlain C) := by
  obtain ⟨fm, fdm, GM, mM, kM, bM⟩ := M.ex
  obtain ⟨fi, fdi, GI, mI, kI, bI⟩ := I.ex
  refine F.ok scPlain (fun vs H Q E h => ?_) (fun cdv A outer s H vs Q E hr h => ?_)
  · obtain ⟨p, c, fl, fe, s, lp, ep, rfl, _⟩ := h
    rfl
  · obtain ⟨p, c, fl, fe, z, lp, ep, rfl, W, ok, pl, n1, n2, k⟩ := h
    obtain ⟨⟨dx, hp⟩, ⟨ts, hl, tl⟩, ⟨us, he, te⟩, nle⟩ := id W
    have ne := Wy.ahead_ne ok.h1 pl.mok
    obtain ⟨X, Y, eL, hX, hY, zX⟩ := pl.lt
    obtain ⟨X', Y', eE, hX', hY', zY⟩ := pl.ec
    obtain ⟨tL1, tL2⟩ := turn_of eL hX hY ne.symm
    obtain ⟨tE1, tE2⟩ := turn_of eE hX' hY' ne.symm
    have h6 := ok.h2
    let σ4 (a b : Option V) : L2.St := [some (.ref p), a, b, none, none, none]
    refine blk_run (Pre := fun σ H' => σ = σ4 none none ∧ H' = H) (Post := fun _ _ => False) ?_ (fun _ _ z => z.elim) ⟨rfl, rfl⟩
    -- ahead = (self.mark + 2 * self.hold) % marks(self.hold)
    refine blk_cons (fun σ H' => σ = σ4 (some (.int (Wy.ahead c.h z.mark : Nat))) none ∧ H' = H) ⟨_, ps_set (i := 1) scPlain.nd rfl (.inl rfl) (pe_op op_mod (pe_op op_add (pe_fld (pv 0) rfl) (pe_op op_mul pe_int (pe_fld (pv 0) rfl))) (pe_call GM hr rfl mM kM bM .nil pass0 (pa_cons (pe_fld (pv 0) rfl) pa_nil))), ?_⟩ ?_
    · rintro nx bk ct σ H' hn ⟨rfl, rfl⟩
      refine ⟨_, rfl, p, C, dx, _, _, rfl, hp, T.cl, T.n 5, at_wk 5 rfl rfl, _, rfl, p, C, dx, _, _, rfl, hp, T.cl, T.n 0, at_wk 0 rfl rfl, _, _, rfl, rfl, .inl ⟨by decide, by decide⟩, _, _, rfl, rfl, ?_⟩
      refine ⟨_, rfl, p, C, dx, _, _, rfl, hp, T.cl, T.n 0, at_wk 0 rfl rfl, c.h, rfl, h6, _, _, rfl, rfl, (by show (0 : Int) < ((2 * c.h + 1 : Nat) : Int); omega), hn _ _ ⟨?_, rfl⟩⟩
      have em : ((z.mark : Int) + 2 * (c.h : Int)) % ((2 * c.h + 1 : Nat) : Int) = ((Wy.ahead c.h z.mark : Nat) : Int) := by
        unfold Wy.ahead
        rw [Int.natCast_emod]; rfl
      show [some (V.ref p), some (V.int (((z.mark : Int) + 2 * (c.h : Int)) % ((2 * c.h + 1 : Nat) : Int))), none, none, none, none] = _
      rw [em]
    -- if self.bears == 1 and self.slot is None or self.last not in (self.mark, ahead): return False
    refine blk_cons (fun σ H' => σ = σ4 (some (.int (Wy.ahead c.h z.mark : Nat))) none ∧ Same H H') ⟨_, ps_if (PW.pt (pw_or (PW.pt (pw_and (pt_cmpR op_eq (pe_fld (pv 0) rfl) pe_int (nomark _)) (pw_and1 (pt_cmp (pc_isN (pe_fld (pv 0) rfl)))))) (pw_or1 (pt_cmpR op_notIn_seq (pe_fld (pv 0) rfl) (pe_tup (pa_cons (pe_fld (pv 0) rfl) (pa_cons (pv 1) pa_nil))) rfl)))) (pss_one (ps_ret pe_bl)) pss_nil, ?_⟩ ?_
    · rintro nx bk ct σ H' hn ⟨rfl, rfl⟩
      refine ⟨_, rfl, p, C, dx, _, _, rfl, hp, T.cl, T.n 6, at_wk 6 rfl rfl, by show scal (bV z.bears) _ = true; rfl, _, rfl, ?_⟩
      have second : ∀ {D : Ends}, (∀ t, H' t = none → D.nx (σ4 (some (.int (Wy.ahead c.h z.mark : Nat))) none) (upd H' t (.tup [.int z.mark, .int (Wy.ahead c.h z.mark : Nat)]))) →
          tTest (tOp (rIn K true) (tFld K (tVar 0) "last") (tTup (tCons (tFld K (tVar 0) "mark") (tCons (tVar 1) tNil)))) (σ4 (some (.int (Wy.ahead c.h z.mark : Nat))) none) H' fun b H1 => if b = true then tRet (tC (.bl false)) D (σ4 (some (.int (Wy.ahead c.h z.mark : Nat))) none) H1 else tNext D (σ4 (some (.int (Wy.ahead c.h z.mark : Nat))) none) H1 := by
        intro D hD
        refine ⟨_, rfl, p, C, dx, _, _, rfl, hp, T.cl, T.n 8, at_wk 8 rfl rfl, _, rfl, p, C, dx, _, _, rfl, hp, T.cl, T.n 5, at_wk 5 rfl rfl, _, rfl, by show 2 ≤ sizeLine; decide, fun t ht => ?_⟩
        refine ⟨t, _, rfl, .inr (SqT.of upd_same), rfl, rfl, _, rfl, ?_⟩
        rw [show inV (V.int z.last) [V.int z.mark, V.int (Wy.ahead c.h z.mark : Nat)] = true from in_two pl.la]
        exact iteF (hD t ht)
      have go := fun (t : Addr) (ht : H' t = none) => hn (σ4 (some (.int (Wy.ahead c.h z.mark : Nat))) none) (upd H' t (.tup [.int z.mark, .int (Wy.ahead c.h z.mark : Nat)])) ⟨rfl, Same.new ht⟩
      cases hb : z.bears with
      | false => exact iteEF (by rw [dec_b1]) (iteF (second go))
      | true =>
        refine iteET (by rw [dec_b1]) ⟨_, rfl, p, C, dx, _, _, rfl, hp, T.cl, T.n 7, at_wk 7 rfl rfl, _, rfl, iteEF ?_ (second go)⟩
        rw [dec_w]
        have := pl.bs hb
        cases e : z.slot with
        | none => rw [e] at this; cases this
        | some i => rfl
    -- letter = (self.mark, self.slot if self.bears == 1 else None)
    refine blk_cons (fun σ H' => ∃ a, σ = σ4 (some (.int (Wy.ahead c.h z.mark : Nat))) (some (.ref a)) ∧ Same H H' ∧ PairAt wV H' (.ref a) (z.mark, z.word))
      ⟨_, ps_set (i := 2) scPlain.nd rfl (.inl rfl) (pe_tup (pa_cons (pe_fld (pv 0) rfl) (pa_cons (pe_ifExp (pt_cmpR op_eq (pe_fld (pv 0) rfl) pe_int (nomark _)) (pe_fld (pv 0) rfl) pe_non) pa_nil))), ?_⟩ ?_
    · rintro nx bk ct σ H' hn ⟨rfl, s1⟩
      have hp1 := s1 _ _ hp
      refine ⟨_, rfl, p, C, dx, _, _, rfl, hp1, T.cl, T.n 5, at_wk 5 rfl rfl, _, rfl, p, C, dx, _, _, rfl, hp1, T.cl, T.n 6, at_wk 6 rfl rfl, by show scal (bV z.bears) _ = true; rfl, _, rfl, ?_⟩
      have fin : ∀ a, H' a = none → ∀ v, v = wV z.word → nx (σ4 (some (.int (Wy.ahead c.h z.mark : Nat))) (some (.ref a))) (upd H' a (.tup [.int z.mark, v])) := by
        rintro a ha v rfl
        exact hn _ _ ⟨a, rfl, s1.trans (Same.new ha), a, rfl, upd_same⟩
      cases hb : z.bears with
      | true => exact iteET (by rw [dec_b1]) ⟨_, rfl, p, C, dx, _, _, rfl, hp1, T.cl, T.n 7, at_wk 7 rfl rfl, by show 2 ≤ sizeLine; decide, fun a ha => fin a ha _ (by unfold Wy.S.word; rw [hb]; rfl)⟩
      | false => exact iteEF (by rw [dec_b1]) ⟨by show 2 ≤ sizeLine; decide, fun a ha => fin a ha _ (by unfold Wy.S.word; rw [hb]; rfl)⟩
    -- both rows are in turn
    refine blk_cons (fun σ H' => ∃ a, σ = σ4 (some (.int (Wy.ahead c.h z.mark : Nat))) (some (.ref a)) ∧ Same H H')
      ⟨_, ps_if (PW.pt (pw_or (pt_not (pt_val (pe_call GI hr rfl mI kI bI .nil pass0 (pa_cons (pe_fld (pv 0) rfl) (pa_cons (pv 2) (pa_cons (pv 1) pa_nil)))))) (pw_or1 (pt_not (pt_val (pe_call GI hr rfl mI kI bI .nil pass0 (pa_cons (pe_fld (pv 0) rfl) (pa_cons (pe_tup (pa_cons (pe_fld (pv 0) rfl) (pa_cons (pe_fld (pv 0) rfl) pa_nil))) (pa_cons (pv 1) pa_nil))))))))) (pss_one (ps_ret pe_bl)) pss_nil, ?_⟩ ?_
    · rintro nx bk ct σ H' hn ⟨a, rfl, s1, ha⟩
      refine ⟨_, rfl, p, C, dx, _, _, rfl, s1 _ _ hp, T.cl, T.n 11, at_wk 11 rfl rfl, _, rfl, _, rfl, Option Int, wV, dW, lp, a, ts, z.letters, z.mark, Wy.ahead c.h z.mark, z.word, rfl, part_w, s1 _ _ hl, tl.same s1, ha, by omega, tL1, tL2, fun H2 s2 => ⟨true, rfl, iteF ?_⟩⟩
      have s12 := s1.trans s2
      refine ⟨_, rfl, p, C, dx, _, _, rfl, s12 _ _ hp, T.cl, T.n 12, at_wk 12 rfl rfl, _, rfl, p, C, dx, _, _, rfl, s12 _ _ hp, T.cl, T.n 5, at_wk 5 rfl rfl, _, rfl, p, C, dx, _, _, rfl, s12 _ _ hp, T.cl, T.n 9, at_wk 9 rfl rfl, by show 2 ≤ sizeLine; decide, fun b hb => ?_⟩
      have s3 : Same H (upd H2 b (.tup [.int z.mark, bV z.took])) := s12.trans (Same.new hb)
      refine ⟨_, rfl, Bool, bV, dB, ep, b, us, z.echoes, z.mark, Wy.ahead c.h z.mark, z.took, rfl, part_b, s3 _ _ he, te.same s3, ⟨b, rfl, upd_same⟩, by omega, tE1, tE2, fun H4 s4 => ⟨true, rfl, iteF (hn _ _ ⟨a, rfl, s3.trans s4⟩)⟩⟩
    -- if self.last == self.mark: return ahead not in {..}
    refine blk_cons (fun σ H' => ∃ a, σ = σ4 (some (.int (Wy.ahead c.h z.mark : Nat))) (some (.ref a)) ∧ Same H H' ∧ z.last ≠ z.mark)
      ⟨_, ps_if (pt_cmpR op_eq (pe_fld (pv 0) rfl) (pe_fld (pv 0) rfl) (nomark _)) (pss_one (ps_ret (pe_cmpR or_snotin (pv 1) (pe_setC (own := [("mark", 3), ("word", 4)]) (g := gTup K 2 (gCons (gName 3) (gCons (gName 4) gNil))) (te := tVar 3) rfl scPlain.nd (pi_list (pe_fld (pv 0) rfl)) (blkOk_by (own := [("mark", 3), ("word", 4)]) (N := ["self", "ahead", "letter", "mark", "word", "took"]) (sc := defScope sPlain) (by decide +kernel))
        (fun _ _ _ _ _ => pg_tup rfl (pgs_cons (pg_name (i := 3) scPlain.nd rfl (Or.inl rfl)) (pgs_cons (pg_name (i := 4) scPlain.nd rfl (Or.inl rfl)) pgs_nil))) (fun _ _ _ _ _ => pv 3)) rfl))) pss_nil, ?_⟩ ?_
    · rintro nx bk ct σ H' hn ⟨a, rfl, s1⟩
      refine ⟨_, rfl, p, C, dx, _, _, rfl, s1 _ _ hp, T.cl, T.n 8, at_wk 8 rfl rfl, _, rfl, p, C, dx, _, _, rfl, s1 _ _ hp, T.cl, T.n 5, at_wk 5 rfl rfl, scal_nat _ _, _, rfl, ?_⟩
      rw [dec_nat]
      cases hlm : (z.last == z.mark) with
      | false => exact iteF (hn _ _ ⟨a, rfl, s1, by intro e; rw [e, beq_self_eq_true] at hlm; cases hlm⟩)
      | true =>
        have lm : z.last = z.mark := by simpa using hlm
        refine iteT ⟨_, rfl, _, rfl, p, C, dx, _, _, rfl, s1 _ _ hp, T.cl, T.n 11, at_wk 11 rfl rfl, lp, rfl, ⟨_, SqL.of (s1 _ _ hl)⟩, fun D hD => ?_⟩
        have tl1 := tl.same s1
        refine setc_list (K := K) (a := lp) (xs := ts) (fun i H2 => Same H' H2 ∧ ∃ S n, H2 D = some (SetO w D S n) ∧ n ≤ i ∧ ∀ j, S j = true → ∃ l ∈ z.letters, j = (l.1 : Int)) ⟨Same.new hD, _, _, upd_same, Nat.le_refl _, fun j e => by cases e⟩ (fun i H2 h => SqL.of (h.1 _ _ (s1 _ _ hl))) ?_ ?_
        · rintro i t H2 ht ⟨s2, S, n, eS, hin, hS⟩
          obtain ⟨l, hl', pl'⟩ := tl1.get ht
          obtain ⟨b, rfl, eb⟩ := pl'
          have hi : i < 6 := by
            have := (List.getElem?_eq_some_iff.mp hl').1
            omega
          refine ⟨b, _, rfl, SqT.of (s2 _ _ eb), rfl, _, _, rfl, _, _, rfl, rfl, rfl, _, rfl, l.1, S, n, rfl, eS, (by unfold scanBound; omega), ?_, ?_⟩
          · intro q o e
            rw [upd_ne (ne_of_none e hD)]; exact s2 _ _ e
          · refine ⟨_, _, upd_same, by split <;> omega, fun j e => ?_⟩
            rcases Bool.or_eq_true_iff.mp e with e | e
            · exact hS j e
            · exact ⟨l, List.mem_of_getElem? hl', of_decide_eq_true e⟩
        · rintro H2 ⟨s2, S, n, eS, _, hS⟩
          refine ⟨_, D, S, n, rfl, rfl, eS, ?_⟩
          have : S (Wy.ahead c.h z.mark : Nat) = false := by
            cases e : S (Wy.ahead c.h z.mark : Nat) with
            | false => rfl
            | true =>
              obtain ⟨l, hlm', el⟩ := hS _ e
              rw [eL, zX lm, List.nil_append] at hlm'
              rw [hY l hlm'] at el
              have : Wy.ahead c.h z.mark = z.mark := Int.ofNat_inj.mp el
              exact absurd this ne
          rw [this]
          exact k _ (s1.trans s2)
    -- return self.mark not in {..}
    refine blk_one ⟨_, ps_ret (pe_cmpR or_snotin (pe_fld (pv 0) rfl) (pe_setC (own := [("mark", 3), ("took", 5)]) (g := gTup K 2 (gCons (gName 3) (gCons (gName 5) gNil))) (te := tVar 3) rfl scPlain.nd (pi_list (pe_fld (pv 0) rfl)) (blkOk_by (own := [("mark", 3), ("took", 5)]) (N := ["self", "ahead", "letter", "mark", "word", "took"]) (sc := defScope sPlain) (by decide +kernel))
        (fun _ _ _ _ _ => pg_tup rfl (pgs_cons (pg_name (i := 3) scPlain.nd rfl (Or.inl rfl)) (pgs_cons (pg_name (i := 5) scPlain.nd rfl (Or.inl rfl)) pgs_nil))) (fun _ _ _ _ _ => pv 3)) rfl), ?_⟩
    rintro nx bk ct σ H' hn ⟨a, rfl, s1, lm⟩
    refine ⟨_, rfl, p, C, dx, _, _, rfl, s1 _ _ hp, T.cl, T.n 5, at_wk 5 rfl rfl, _, rfl, p, C, dx, _, _, rfl, s1 _ _ hp, T.cl, T.n 12, at_wk 12 rfl rfl, ep, rfl, ⟨_, SqL.of (s1 _ _ he)⟩, fun D hD => ?_⟩
    have te1 := te.same s1
    refine setc_list (K := K) (a := ep) (xs := us) (fun i H2 => Same H' H2 ∧ ∃ S n, H2 D = some (SetO w D S n) ∧ n ≤ i ∧ ∀ j, S j = true → ∃ l ∈ z.echoes, j = (l.1 : Int)) ⟨Same.new hD, _, _, upd_same, Nat.le_refl _, fun j e => by cases e⟩ (fun i H2 h => SqL.of (h.1 _ _ (s1 _ _ he))) ?_ ?_
    · rintro i t H2 ht ⟨s2, S, n, eS, hin, hS⟩
      obtain ⟨l, hl', pl'⟩ := te1.get ht
      obtain ⟨b, rfl, eb⟩ := pl'
      have hi : i < 6 := by
        have := (List.getElem?_eq_some_iff.mp hl').1
        omega
      refine ⟨b, _, rfl, SqT.of (s2 _ _ eb), rfl, _, _, rfl, _, _, rfl, rfl, rfl, _, rfl, l.1, S, n, rfl, eS, (by unfold scanBound; omega), ?_, ?_⟩
      · intro q o e
        rw [upd_ne (ne_of_none e hD)]; exact s2 _ _ e
      · refine ⟨_, _, upd_same, by split <;> omega, fun j e => ?_⟩
        rcases Bool.or_eq_true_iff.mp e with e | e
        · exact hS j e
        · exact ⟨l, List.mem_of_getElem? hl', of_decide_eq_true e⟩
    · rintro H2 ⟨s2, S, n, eS, _, hS⟩
      refine ⟨_, D, S, n, rfl, rfl, eS, ?_⟩
      have : S (z.mark : Nat) = false := by
        cases e : S (z.mark : Nat) with
        | false => rfl
        | true =>
          obtain ⟨l, hlm', el⟩ := hS _ e
          rw [eE, zY lm, List.append_nil] at hlm'
          rw [hX' l hlm'] at el
          have : z.mark = Wy.ahead c.h z.mark := Int.ofNat_inj.mp el
          exact absurd this.symm ne
      rw [this]
      exact k _ (s1.trans s2)
/-! ### under_way -/
def spUnder (C : Addr) : Sp := fun vs H Q _ => ∃ (p : Addr) (c : Cf) (fl fe : Nat) (s : Wy.S) (lp ep : Addr), vs = [.ref p] ∧ WayAt C H p c fl fe s lp ep ∧ c.Ok ∧ Wy.Plain c.h s ∧ s.letters.length ≤ c.h ∧ s.echoes.length ≤ c.h ∧
  ∀ H' r, H r = none → Same H H' → H' r = some (.lst ((Wy.uw s).map V.int)) → Q (.ref r) H'
theorem scUnder : FnScope ["self", "is_over", "word"] ["self"] (defScope sUnder) := ⟨rfl, rfl, rfl, by decide +kernel, rfl, by decide +kernel, by decide +kernel⟩
theorem ok_under (F : Fun K "under_way" "Way.under_way" sUnder f fd) (T : Txt K mg C) (M : HasM P w K mg base C 2 "is_plain" ["self"] (spPlain C)) : FnOk P w K mg base CX0 3 f fd ["self"] (spUnder C) := by
  obtain ⟨fp, fdp, GP, mP, bP⟩ := M.ex
  refine F.ok scUnder (fun vs H Q E h => ?_) (fun cdv A outer s H vs Q E hr h => ?_)
  · obtain ⟨p, c, fl, fe, s, lp, ep, rfl, _⟩ := h
    rfl
  · obtain ⟨p, c, fl, fe, z, lp, ep, rfl, W, ok, pl, n1, n2, k⟩ := h
    obtain ⟨⟨dx, hp⟩, _⟩ := id W
    let σ3 (a : Option V) : L2.St := [some (.ref p), a, none]
    refine blk_run (Pre := fun σ H' => σ = σ3 none ∧ H' = H) (Post := fun _ _ => False) ?_ (fun _ _ z => z.elim) ⟨rfl, rfl⟩
    refine blk_cons (fun σ H' => σ = σ3 none ∧ Same H H') ⟨_, ps_if (pt_not (pt_val (pe_meth0 (pv 0) T.cl mP GP hr bP .nil pass0))) (pss_one (ps_ret pe_non)) pss_nil, ?_⟩ ?_
    · rintro nx bk ct σ H' hn ⟨rfl, rfl⟩
      exact ⟨_, rfl, p, dx, _, rfl, hp, lookup_no (by decide +kernel), p, c, fl, fe, z, lp, ep, rfl, W, ok, pl, n1, n2, fun H2 s2 => ⟨true, rfl, iteF (hn _ _ ⟨rfl, s2⟩)⟩⟩
    refine blk_cons (fun σ H' => σ = σ3 (some (.bl z.isOver)) ∧ Same H H') ⟨_, ps_set (i := 1) scUnder.nd rfl (.inl rfl) (pe_and (pe_cmpR op_eq (pe_fld (pv 0) rfl) pe_int (nomark _)) (pe_and (pe_cmpR op_eq (pe_fld (pv 0) rfl) pe_int (nomark _)) (pe_one (pe_cmpR op_eq (pe_fld (pv 0) rfl) (pe_fld (pv 0) rfl) (nomark _))))), ?_⟩ ?_
    · rintro nx bk ct σ H' hn ⟨rfl, s1⟩
      have hp1 := s1 _ _ hp
      refine ⟨_, rfl, p, C, dx, _, _, rfl, hp1, T.cl, T.n 6, at_wk 6 rfl rfl, by show scal (bV z.bears) _ = true; rfl, _, rfl, ?_⟩
      have fin : ∀ b, b = z.isOver → nx (σ3 (some (.bl b))) H' := fun b e => by rw [e]; exact hn _ _ ⟨rfl, s1⟩
      have o : z.isOver = (z.bears && z.took && z.last == z.mark) := rfl
      cases hb : z.bears with
      | false => exact iteEF (by rw [dec_b1]) (fin false (by rw [o, hb]; rfl))
      | true =>
        refine iteET (by rw [dec_b1]) ⟨_, rfl, p, C, dx, _, _, rfl, hp1, T.cl, T.n 9, at_wk 9 rfl rfl, by show scal (bV z.took) _ = true; rfl, _, rfl, ?_⟩
        cases ht : z.took with
        | false => exact iteEF (by rw [dec_b1]) (fin false (by rw [o, hb, ht]; rfl))
        | true =>
          refine iteET (by rw [dec_b1]) ⟨_, rfl, p, C, dx, _, _, rfl, hp1, T.cl, T.n 8, at_wk 8 rfl rfl, _, rfl, p, C, dx, _, _, rfl, hp1, T.cl, T.n 5, at_wk 5 rfl rfl, scal_nat _ _, ?_⟩
          rw [dec_nat]
          exact fin _ (by rw [o, hb, ht]; rfl)
    refine blk_one ⟨_, ps_ret (pe_lc (own := [("word", 2)]) (g := gName 2) (tt := tB (tNotN (tVar 2))) (te := tVar 2) rfl scUnder.nd (pi_tup (pe_tup (pa_cons (pe_fld (pv 0) rfl) (pa_cons (pe_ifExp (pt_val (pv 1)) pe_non (pe_fld (pv 0) rfl)) pa_nil)))) (blkOk_by (own := [("word", 2)]) (N := ["self", "is_over", "word"]) (sc := defScope sUnder) (by decide +kernel))
      (fun _ _ _ _ _ => pg_name (i := 2) scUnder.nd rfl (Or.inl rfl)) (fun _ _ _ _ _ => pts_one (pt_cmp (pc_notN (pv 2)))) (fun _ _ _ _ _ => pv 2)), ?_⟩
    rintro nx bk ct σ H' hn ⟨rfl, s1⟩
    have hp1 := s1 _ _ hp
    refine ⟨_, rfl, p, C, dx, _, _, rfl, hp1, T.cl, T.n 10, at_wk 10 rfl rfl, _, rfl, z.isOver, rfl, ?_⟩
    have main : ∀ (y : Option Int), y = (if z.isOver then none else z.slot) → 2 ≤ sizeLine ∧ ∀ t, H' t = none → ∃ a, V.ref t = .ref a ∧ (∃ xs, SqT K (upd H' t (.tup [wV z.box, wV y])) a xs) ∧ ∀ D, upd H' t (.tup [wV z.box, wV y]) D = none →
        ∃ W : Nat → Nat → Hp → Prop, (∃ m, W 0 m (upd (upd H' t (.tup [wV z.box, wV y])) D (.lst []))) ∧ ∀ i m H, W i m H →
          ((Itt K a).stop i H ∧ Q (.ref D) H) ∨ ((Itt K a).go i H ∧ ∃ Nx : Hp → Prop, (∀ H', Nx H' → ∃ m', m' < m ∧ W (i + 1) m' H') ∧ ∀ x H', (Itt K a).yld i H x H' → gName 2 x (wipe (σ3 (some (.bl z.isOver))) [2]) H' fun σ2 H2 => wipe σ2 [2] = wipe (σ3 (some (.bl z.isOver))) [2] ∧ tB (tNotN (tVar 2)) σ2 H2 fun c H3 =>
            if c = true then tVar 2 σ2 H3 fun z H4 => ∃ acc, H4 D = some (.lst acc) ∧ acc.length < sizeLine ∧ Nx (upd H4 D (.lst (acc ++ [z]))) else Nx H3) := by
      intro y hy
      refine ⟨by decide, fun t ht => ⟨t, rfl, ⟨_, SqT.of upd_same⟩, fun D hD => ?_⟩⟩
      have s2 : Same H (upd H' t (.tup [wV z.box, wV y])) := s1.trans (Same.new ht)
      have et : upd H' t (.tup [wV z.box, wV y]) t = some (.tup [wV z.box, wV y]) := upd_same
      generalize upd H' t (.tup [wV z.box, wV y]) = H2 at s2 et hD ⊢
      have two : ∀ (i : Nat) (x : V), [wV z.box, wV y][i]? = some x → ∃ o : Option Int, x = wV o ∧ ([z.box, y].take (i + 1)).filterMap id = ([z.box, y].take i).filterMap id ++ o.toList ∧ (([z.box, y].take i).filterMap id).length ≤ i := by
        intro i x hx
        match i, hx with
        | 0, hx => cases hx; exact ⟨z.box, rfl, by cases z.box <;> simp, by simp⟩
        | 1, hx => cases hx; exact ⟨y, rfl, by cases z.box <;> cases y <;> simp, by cases z.box <;> simp⟩
        | i + 2, hx => simp at hx
      refine lc_tup (K := K) (a := t) (xs := [wV z.box, wV y]) (fun i H3 => Same H2 H3 ∧ H3 D = some (.lst ((([z.box, y].take i).filterMap id).map V.int))) ⟨Same.new hD, upd_same⟩ (fun i H3 _ h => SqT.of (h.1 _ _ et)) ?_ ?_
      · rintro i x H3 hx ⟨s3, e3⟩
        obtain ⟨o, rfl, eo, le⟩ := two i x hx
        have hi : i < 2 := by
          have := (List.getElem?_eq_some_iff.mp hx).1
          simpa using this
        refine ⟨rfl, _, rfl, _, rfl, ?_⟩
        cases ho : o with
        | none =>
          refine iteEF (by simp [wV]) ⟨s3, ?_⟩
          rw [eo, ho, e3]; simp
        | some j =>
          have two' : (2 : Nat) < sizeLine := by decide
          refine iteET (by simp [wV]) ⟨_, rfl, _, e3, by rw [List.length_map]; omega, ?_, ?_⟩
          · intro q u e
            rw [upd_ne (ne_of_none e hD)]; exact s3 _ _ e
          · rw [upd_same, eo, ho, List.map_append]; rfl
      · rintro H3 ⟨s3, e3⟩
        refine k _ D (s2.free hD) (s2.trans s3) ?_
        rw [e3]
        have : ([z.box, y].take [wV z.box, wV y].length).filterMap id = Wy.uw z := by
          unfold Wy.uw
          rw [hy]
          cases z.box <;> cases z.isOver <;> cases z.slot <;> simp
        rw [this]
    cases ho : z.isOver with
    | true =>
      have := main none (by rw [ho]; rfl)
      rw [ho] at this
      exact iteT this
    | false =>
      have := main z.slot (by rw [ho]; rfl)
      rw [ho] at this
      exact iteF ⟨_, rfl, p, C, dx, _, _, rfl, hp1, T.cl, T.n 7, at_wk 7 rfl rfl, this⟩
end
end Wk
namespace Wk
open PySem L2 Ru
/-- the next attribute, set first -/
theorem put_next {n : Nat} {k : Str} {v : V} {vs : List V} (h : wk[n]? = some k) (hl : vs.length = n) : putF k v ((wk.take n).zip vs) = (wk.take (n + 1)).zip (vs ++ [v]) := by
  obtain ⟨hn, e⟩ := List.getElem?_eq_some_iff.mp h
  have hk : k ∉ ((wk.take n).zip vs).map (·.1) := by
    intro z
    obtain ⟨⟨a, b⟩, hm, ea⟩ := List.mem_map.mp z
    have ha : k ∈ wk.take n := by
      have := (List.of_mem_zip hm).1
      rw [← ea]; exact this
    obtain ⟨j, hj⟩ := List.mem_iff_getElem?.mp ha
    rw [List.getElem?_take] at hj
    split at hj
    · obtain ⟨hj1, ej⟩ := List.getElem?_eq_some_iff.mp hj
      have := (List.getElem_inj wk_nodup).mp (ej.trans e.symm)
      omega
    · cases hj
  rw [putF_new hk, List.take_add_one, h]
  rw [List.zip_append (by rw [List.length_take, hl]; omega)]
  rfl
theorem len_next {n : Nat} {vs : List V} (hl : vs.length = n) (h : n ≤ 13) : ((wk.take n).zip vs).length ≤ 13 := by
  rw [List.length_zip, hl]; omega
def s0 : Wy.S := ⟨0, false, none, [], 0, false, none, []⟩
theorem putAll_new (c : Cf) (lp ep : Addr) : putAll ((wk.take 5).zip [.int c.h, .int c.g, .int c.b, .int 0, .int 0]) (.int 0) (.int 0) .non (.int 0) (.int 0) .non (.ref lp) (.ref ep) = wk.zip (wv c 0 0 s0 lp ep) := by
  unfold putAll
  rw [put_next (n := 5) rfl rfl, put_next (n := 6) rfl rfl, put_next (n := 7) rfl rfl, put_next (n := 8) rfl rfl, put_next (n := 9) rfl rfl, put_next (n := 10) rfl rfl, put_next (n := 11) rfl rfl, put_next (n := 12) rfl rfl]
  rfl
section
variable {P : Program} {w : World} {K : PySem.W.Frag} {mg : Str → Option Value} {base : Heap} {C f : Addr} {fd : FuncData}
/-! ### a new way -/
def spInit (C : Addr) : Sp := fun vs H Q _ => ∃ (p dx : Addr) (c : Cf), vs = [.ref p, .int c.h, .int c.g, .int c.b] ∧ c.Ok ∧ H p = some (.ins C dx []) ∧
  ∀ (H' : Hp) (lp ep : Addr), H lp = none → H ep = none → Kept H H' (· = p) → WayAt C H' p c 0 0 s0 lp ep → Q .non H'
theorem scInit : FnScope ["self", "hold", "miss", "bound", "why", "thing", "most"] ["self", "hold", "miss", "bound"] (defScope sInit) := ⟨rfl, rfl, rfl, by decide +kernel, rfl, by decide +kernel, by decide +kernel⟩
theorem body_init {fw fp : Addr} {fdw fdp : FuncData} (T : Txt K mg C)
    (GW : FnOk P w K mg base CX0 1 fw fdw ["thing", "least", "most"] spWhole) (mW : mg "is_whole" = some (.ref fw)) (kW : PySem.W.keepIn K (.ref fw) = true) (bW : Binds K fdw ["thing", "least", "most"] [])
    (GP : FnOk P w K mg base CX0 1 fp fdp ["self", "store"] (spPut K C)) (mP : Meth K C "put_down" fp) (bP : Binds K fdp ["self", "store"] [])
    (cdv : Value) (A : Around) (outer : List Env) (s : Shared) (H : Hp) (vs : List V) (Q : VK) (E : XK) (hr : Room 1 (A.deeper (PyProof.Rows.envOfC "Way.__init__" (defScope sInit) s.heap.objs.size f cdv))) (h : spInit C vs H Q E) :
    ∃ t, PSs (cxOf CX0 P w K mg base ["self", "hold", "miss", "bound", "why", "thing", "most"] "Way.__init__" (defScope sInit) f cdv A outer s H E).nox (defBody sInit) t ∧ t { nx := fun _ H' => Q .non H', rt := Q } (start ["self", "hold", "miss", "bound", "why", "thing", "most"] vs) H := by
  obtain ⟨p, dx, c, rfl, ok, hp, k⟩ := h
  obtain ⟨t1, mh⟩ := T.mh
  obtain ⟨t2, mm⟩ := T.mm
  obtain ⟨t3, mb⟩ := T.mb
  obtain ⟨fF, e1, e2, mF, qF, q1, q2⟩ := T.fi
  have nt : NoTup H (· = p) := no_tup1 hp rfl
  refine blk_run (Pre := fun σ H' => σ = start ["self", "hold", "miss", "bound", "why", "thing", "most"] [.ref p, .int c.h, .int c.g, .int c.b] ∧ H' = H) (Post := fun σ H' => Q .non H') ?_ (fun _ _ z => z) ⟨rfl, rfl⟩
  let σ7 (a b d : Option V) : L2.St := [some (.ref p), some (.int c.h), some (.int c.g), some (.int c.b), a, b, d]
  -- the look at the three
  refine blk_cons (fun σ H' => (∃ a b d, σ = σ7 a b d) ∧ Same H H') ⟨_, ps_for PassesOwn.never rfl
    (pi_tup (pe_tup (pa_cons (pe_tup (pa_cons pe_str (pa_cons (pv 1) (pa_cons (pe_glob (v := .int 6) (by rfl) mh ⟨_, rfl⟩) pa_nil)))) (pa_cons (pe_tup (pa_cons pe_str (pa_cons (pv 2) (pa_cons (pe_glob (v := .int 4) (by rfl) mm ⟨_, rfl⟩) pa_nil)))) (pa_cons (pe_tup (pa_cons pe_str (pa_cons (pv 3) (pa_cons (pe_glob (v := .int 40) (by rfl) mb ⟨_, rfl⟩) pa_nil)))) pa_nil)))))
    (pg_tup rfl (pgs_cons (pg_name (i := 4) scInit.nd rfl (.inl rfl)) (pgs_cons (pg_name (i := 5) scInit.nd rfl (.inl rfl)) (pgs_cons (pg_name (i := 6) scInit.nd rfl (.inl rfl)) pgs_nil))))
    (pss_one (ps_if (pt_not (pt_val (pe_call GW hr rfl mW kW bW .nil pass0 (pa_cons (pv 5) (pa_cons pe_int (pa_cons (pv 6) pa_nil)))))) (pss_one ps_never) pss_nil)), ?_⟩ ?_
  · rintro nx bk ct σ H' hn ⟨rfl, rfl⟩
    have three : (3 : Nat) ≤ sizeLine := by decide
    refine ⟨_, rfl, three, fun a1 h1 => ⟨_, rfl, three, fun a2 h2 => ⟨_, rfl, three, fun a3 h3 => ⟨three, fun a4 h4 => ?_⟩⟩⟩⟩
    have sA := Same.new (o := .tup [.str "hold", .int c.h, .int 6]) h1
    have sB := Same.new (o := .tup [.str "miss", .int c.g, .int 4]) h2
    have sC := Same.new (o := .tup [.str "bound", .int c.b, .int 40]) h3
    have sD := Same.new (o := .tup [.ref a1, .ref a2, .ref a3]) h4
    have e1 := sD _ _ (sC _ _ (sB _ _ (upd_same (H := H') (a := a1) (o := .tup [.str "hold", .int c.h, .int 6]))))
    have e2 := sD _ _ (sC _ _ (upd_same (H := upd H' a1 (.tup [.str "hold", .int c.h, .int 6])) (a := a2) (o := .tup [.str "miss", .int c.g, .int 4])))
    have e3 := sD _ _ (upd_same (H := upd (upd H' a1 (.tup [.str "hold", .int c.h, .int 6])) a2 (.tup [.str "miss", .int c.g, .int 4])) (a := a3) (o := .tup [.str "bound", .int c.b, .int 40]))
    have e4 := upd_same (H := upd (upd (upd H' a1 (.tup [.str "hold", .int c.h, .int 6])) a2 (.tup [.str "miss", .int c.g, .int 4])) a3 (.tup [.str "bound", .int c.b, .int 40])) (a := a4) (o := .tup [.ref a1, .ref a2, .ref a3])
    have sE := ((sA.trans sB).trans sC).trans sD
    generalize upd (upd (upd (upd H' a1 (.tup [.str "hold", .int c.h, .int 6])) a2 (.tup [.str "miss", .int c.g, .int 4])) a3 (.tup [.str "bound", .int c.b, .int 40])) a4 (.tup [.ref a1, .ref a2, .ref a3]) = H1 at e1 e2 e3 e4 sE
    have e1 : H1 a1 = some (.tup [.str "hold", .int c.h, .int 6]) := e1
    have e2 : H1 a2 = some (.tup [.str "miss", .int c.g, .int 4]) := e2
    have e3 : H1 a3 = some (.tup [.str "bound", .int c.b, .int 40]) := e3
    refine ⟨a4, rfl, ⟨_, SqT.of e4⟩, ?_⟩
    refine for_tup (K := K) (a := a4) (xs := [.ref a1, .ref a2, .ref a3]) (fun i σ H2 => (∃ a b d, σ = σ7 a b d) ∧ Same H1 H2) ⟨⟨_, _, _, rfl⟩, Same.refl _⟩ (fun i σ H2 _ h => SqT.of (h.2 _ _ e4)) ?_ (fun σ H2 ⟨h1, h2⟩ => hn _ _ ⟨h1, sE.trans h2⟩)
    rintro i x σ H2 hx ⟨⟨a, b, d, rfl⟩, s2⟩
    have one : ∃ (r : Addr) (n : Str) (v m : Int), x = .ref r ∧ H2 r = some (.tup [.str n, .int v, .int m]) ∧ 1 ≤ v ∧ v ≤ m := by
      have o1 := ok.h1
      have o2 := ok.h2
      have o3 := ok.g1
      have o4 := ok.g2
      have o5 := ok.b1
      have o6 := ok.b2
      match i, hx with
      | 0, hx => cases hx; exact ⟨a1, _, _, _, rfl, s2 _ _ e1, by omega, by omega⟩
      | 1, hx => cases hx; exact ⟨a2, _, _, _, rfl, s2 _ _ e2, by omega, by omega⟩
      | 2, hx => cases hx; exact ⟨a3, _, _, _, rfl, s2 _ _ e3, by omega, by omega⟩
      | i + 3, hx => simp at hx
    obtain ⟨r, n, v, m, rfl, er, v1, v2⟩ := one
    refine ⟨r, _, rfl, SqT.of er, rfl, _, _, rfl, _, _, rfl, _, _, rfl, rfl, _, rfl, _, rfl, v, 1, m, rfl, ?_⟩
    rw [decide_eq_true v1, decide_eq_true v2]
    exact ⟨true, rfl, iteF ⟨⟨_, _, _, rfl⟩, s2⟩⟩
  -- self.hold, self.miss, self.bound = (hold, miss, bound)
  refine blk_cons (fun σ H' => (∃ a b d, σ = σ7 a b d) ∧ Kept H H' (· = p) ∧ H' p = some (.ins C dx ((wk.take 3).zip [.int c.h, .int c.g, .int c.b]))) ⟨_, ps_asg (pe_tup (pa_cons (pv 1) (pa_cons (pv 2) (pa_cons (pv 3) pa_nil)))) (pg_tup rfl (pgs_cons (pg_at (pv 0)) (pgs_cons (pg_at (pv 0)) (pgs_cons (pg_at (pv 0)) pgs_nil)))), ?_⟩ ?_
  · rintro nx bk ct σ H' hn ⟨⟨a, b, d, rfl⟩, s1⟩
    refine ⟨_, rfl, _, rfl, _, rfl, by show 3 ≤ sizeLine; decide, fun t ht => ?_⟩
    have npt : p ≠ t := ne_of_none (s1 _ _ hp) ht
    have s2 := s1.trans (Same.new (o := .tup [.int c.h, .int c.g, .int c.b]) ht)
    refine ⟨t, _, rfl, SqT.of upd_same, rfl, ?_⟩
    have e0 : ([] : List (Str × V)) = (wk.take 0).zip [] := rfl
    refine ⟨_, _, rfl, _, rfl, p, C, dx, _, rfl, s2 _ _ hp, T.cl, T.n 0, by decide, ?_⟩
    rw [e0, put_next (n := 0) rfl rfl]
    refine ⟨_, _, rfl, _, rfl, p, C, dx, _, rfl, upd_same, T.cl, T.n 1, Nat.lt_of_le_of_lt (len_next rfl (by decide)) (by decide), ?_⟩
    rw [put_next (n := 1) rfl rfl, upd_upd]
    refine ⟨_, _, rfl, _, rfl, p, C, dx, _, rfl, upd_same, T.cl, T.n 2, Nat.lt_of_le_of_lt (len_next rfl (by decide)) (by decide), ?_⟩
    rw [put_next (n := 2) rfl rfl, upd_upd]
    exact ⟨rfl, hn _ _ ⟨⟨_, _, _, rfl⟩, (Kept.of s2).trans (Kept.upd rfl), upd_same⟩⟩
  -- self.lost_letters = self.lost_echoes = 0
  refine blk_cons (fun σ H' => (∃ a b d, σ = σ7 a b d) ∧ Kept H H' (· = p) ∧ H' p = some (.ins C dx ((wk.take 5).zip [.int c.h, .int c.g, .int c.b, .int 0, .int 0]))) ⟨_, ps_asg2 pe_int (pg_at (pv 0)) (pg_at (pv 0)), ?_⟩ ?_
  · rintro nx bk ct σ H' hn ⟨⟨a, b, d, rfl⟩, k1, hp1⟩
    refine ⟨_, rfl, p, C, dx, _, rfl, hp1, T.cl, T.n 3, Nat.lt_of_le_of_lt (len_next rfl (by decide)) (by decide), ?_⟩
    rw [put_next (n := 3) rfl rfl]
    refine ⟨_, rfl, p, C, dx, _, rfl, upd_same, T.cl, T.n 4, Nat.lt_of_le_of_lt (len_next rfl (by decide)) (by decide), ?_⟩
    rw [put_next (n := 4) rfl rfl, upd_upd]
    exact hn _ _ ⟨⟨_, _, _, rfl⟩, k1.trans (Kept.upd rfl), upd_same⟩
  -- self.put_down(FIRST)
  refine blk_one ⟨_, ps_expr (pe_meth (pv 0) T.cl mP GP hr bP .nil pass0 (pa_cons (pe_glob (v := .ref fF) (by rfl) mF rfl) pa_nil)), ?_⟩
  rintro nx bk ct σ H' hn ⟨⟨a, b, d, rfl⟩, k1, hp1⟩
  refine ⟨_, rfl, p, dx, _, rfl, hp1, lookup_no (by decide +kernel), p, dx, fF, e1, e2, _, .int 0, .int 0, .non, .int 0, .int 0, .non, [], [], rfl, hp1, Nat.le_trans (len_next rfl (by decide)) (by decide), qF _, q1 _, q2 _, fun H2 lp ep f1 f2 n1 k2 el ee e2' => ?_⟩
  rw [putAll_new] at e2'
  exact hn _ _ (k H2 lp ep (k1.free1 f1 hp1) (k1.free1 f2 hp1) (k1.trans k2) ⟨⟨dx, e2'⟩, ⟨[], el, .nil⟩, ⟨[], ee, .nil⟩, n1⟩)
end
end Wk
namespace Wk
open PySem L2 Ru
/-- a walk over a tuple that stands, whatever is done at each item -/
theorem walk_tup {K : PySem.W.Frag} {a : Addr} {xs : List V} {B : V → Hp → (Hp → Prop) → Prop} {R : Hp → Prop} {H0 : Hp} (Pv : Nat → Hp → Prop) (h0 : Pv 0 H0) (hl : ∀ i H, Pv i H → SqT K H a xs) (step : ∀ i x H, xs[i]? = some x → Pv i H → B x H (Pv (i + 1))) (hd : ∀ H, Pv xs.length H → R H) :
    ∃ W : Nat → Nat → Hp → Prop, (∃ m, W 0 m H0) ∧ ∀ i m H, W i m H → ((Itt K a).stop i H ∧ R H) ∨ ((Itt K a).go i H ∧ ∃ Nx : Hp → Prop, (∀ H', Nx H' → ∃ m', m' < m ∧ W (i + 1) m' H') ∧ ∀ x H', (Itt K a).yld i H x H' → B x H' Nx) := by
  refine ⟨fun i m H => m + i = xs.length ∧ Pv i H, ⟨_, rfl, h0⟩, ?_⟩
  rintro i m H ⟨e, p⟩
  have q := hl i H p
  cases m with
  | zero =>
    have e' : i = xs.length := by omega
    rw [e'] at p
    exact .inl ⟨⟨xs, q, by omega⟩, hd H p⟩
  | succ m =>
    have lt : i < xs.length := by omega
    refine .inr ⟨⟨xs, xs[i], q, List.getElem?_eq_getElem lt⟩, Pv (i + 1), fun H' p' => ⟨m, Nat.lt_succ_self _, by omega, p'⟩, ?_⟩
    rintro x H' ⟨rfl, y⟩
    exact step i x _ (y xs q) p
theorem walk_list {K : PySem.W.Frag} {a : Addr} {xs : List V} {B : V → Hp → (Hp → Prop) → Prop} {R : Hp → Prop} {H0 : Hp} (Pv : Nat → Hp → Prop) (h0 : Pv 0 H0) (hl : ∀ i H, Pv i H → SqL K H a xs) (step : ∀ i x H, xs[i]? = some x → Pv i H → B x H (Pv (i + 1))) (hd : ∀ H, Pv xs.length H → R H) :
    ∃ W : Nat → Nat → Hp → Prop, (∃ m, W 0 m H0) ∧ ∀ i m H, W i m H → ((Itl K a).stop i H ∧ R H) ∨ ((Itl K a).go i H ∧ ∃ Nx : Hp → Prop, (∀ H', Nx H' → ∃ m', m' < m ∧ W (i + 1) m' H') ∧ ∀ x H', (Itl K a).yld i H x H' → B x H' Nx) := by
  refine ⟨fun i m H => m + i = xs.length ∧ Pv i H, ⟨_, rfl, h0⟩, ?_⟩
  rintro i m H ⟨e, p⟩
  have q := hl i H p
  cases m with
  | zero =>
    have e' : i = xs.length := by omega
    rw [e'] at p
    exact .inl ⟨⟨xs, q, by omega⟩, hd H p⟩
  | succ m =>
    have lt : i < xs.length := by omega
    refine .inr ⟨⟨xs, xs[i], q, List.getElem?_eq_getElem lt⟩, Pv (i + 1), fun H' p' => ⟨m, Nat.lt_succ_self _, by omega, p'⟩, ?_⟩
    rintro x H' ⟨rfl, y⟩
    exact step i x _ (y xs q) p
/-- the list of truths so far -/
def Trues (H1 : Hp) (D : Addr) (i : Nat) (H : Hp) : Prop := Same H1 H ∧ H D = some (.lst ((List.replicate i true).map V.bl))
theorem Trues.start {H1 : Hp} {D : Addr} (h : H1 D = none) : Trues H1 D 0 (upd H1 D (.lst [])) := ⟨Same.new h, upd_same⟩
/-- one more -/
theorem Trues.next {H1 H H' : Hp} {D : Addr} {i : Nat} (h : Trues H1 D i H) (hD : H1 D = none) (s : Same H H') (hi : i < 100) : ∃ acc, H' D = some (.lst acc) ∧ acc.length < sizeLine ∧ Trues H1 D (i + 1) (upd H' D (.lst (acc ++ [V.bl true]))) := by
  have : (100 : Nat) < sizeLine := by decide
  refine ⟨_, s _ _ h.2, by rw [List.length_map, List.length_replicate]; omega, fun q o e => ?_, by rw [upd_same, rep_succ]⟩
  rw [upd_ne (ne_of_none e hD)]
  exact s _ _ (h.1 _ _ e)
/-- what a store keeps to -/
structure StOk (c : Cf) (z : Wy.S) : Prop where
  mk0 : z.mark ≤ 2 * c.h
  la : z.last ≤ 2 * c.h
  sl : wOk c.b z.slot
  bx : wOk c.b z.box
  nl : z.letters.length ≤ c.h
  ne : z.echoes.length ≤ c.h
  al : ∀ l ∈ z.letters, l.1 ≤ 2 * c.h ∧ wOk c.b l.2
  ae : ∀ e ∈ z.echoes, e.1 ≤ 2 * c.h
theorem bit_ok (b : Bool) : (decide ((0 : Int) ≤ (if b then 1 else 0)) && decide ((if b then (1 : Int) else 0) ≤ 1)) = true := by cases b <;> rfl
theorem nat_ok {n m : Nat} (h : n ≤ m) : (decide ((0 : Int) ≤ (n : Int)) && decide ((n : Int) ≤ (m : Int))) = true := by
  rw [decide_eq_true (by omega), decide_eq_true (by omega)]; rfl
theorem mark_ok {n h : Nat} (e : n ≤ 2 * h) : (decide ((0 : Int) ≤ (n : Int)) && decide ((n : Int) ≤ 2 * (h : Int))) = true := by
  rw [decide_eq_true (by omega), decide_eq_true (by omega)]; rfl
/-- len, by values -/
abbrev rLen (K : PySem.W.Frag) : List V → Hp → VK → Prop := fun xs H Q => ∃ p ys, xs = [.ref p] ∧ (SqL K H p ys ∨ SqT K H p ys) ∧ Q (.int ys.length) H
section
variable {P : Program} {w : World} {K : PySem.W.Frag} {mg : Str → Option Value} {base : Heap} {C f : Addr} {fd : FuncData}
/-! ### is_store -/
def spIsStore : Sp := fun vs H Q _ => ∃ (r : Addr) (c : Cf) (s : Wy.S), vs = [.ref r, .int c.h, .int c.b] ∧ c.Ok ∧ StoreAt H r s ∧ StOk c s ∧ ∀ H', Same H H' → Q (.bl true) H'
abbrev nStore : List Str := ["thing", "hold", "bound", "mark", "bears", "slot", "letters", "last", "took", "box", "echoes", "rows", "part", "row", "one", "other", "word", "t"]
theorem scIsStore : FnScope nStore ["thing", "hold", "bound"] (defScope sIsStore) := ⟨rfl, rfl, rfl, by decide +kernel, rfl, by decide +kernel, by decide +kernel⟩
theorem StoreAt.same {H H' : Hp} {r : Addr} {s : Wy.S} (h : StoreAt H r s) (k : Same H H') : StoreAt H' r s := by
  obtain ⟨la, ea, ts, us, h1, h2, h3, h4, h5⟩ := h
  exact ⟨la, ea, ts, us, k _ _ h1, k _ _ h2, k _ _ h3, h4.same k, h5.same k⟩
theorem ok_isstore (F : Fun K "is_store" "is_store" sIsStore f fd) (T : Txt K mg C) (W : Has P w K mg base 1 "is_whole" ["thing", "least", "most"] spWhole) (B : Has P w K mg base 2 "is_borne" ["thing", "bound"] spBorne) : FnOk P w K mg base CX0 3 f fd ["thing", "hold", "bound"] spIsStore := by
  obtain ⟨fw, fdw, GW, mW, kW, bW⟩ := W.ex
  obtain ⟨fb, fdb, GB, mB, kB, bB⟩ := B.ex
  obtain ⟨tp, mP⟩ := T.pa
  refine F.ok scIsStore (fun vs H Q E h => ?_) (fun cdv A outer s H vs Q E hr h => ?_)
  · obtain ⟨r, c, s, rfl, _⟩ := h
    rfl
  · obtain ⟨r, c, z, rfl, ok, st, so, k⟩ := h
    obtain ⟨la, ea, ts, us, hr0, hla, hea, tl, te⟩ := id st
    have hr1 : Room 1 _ := hr.mono (by decide)
    let σa : L2.St := [some (.ref r), some (.int c.h), some (.int c.b)] ++ List.replicate 15 none
    let σb (x : Option V) : L2.St := [some (.ref r), some (.int c.h), some (.int c.b), some (.int z.mark), some (bV z.bears), some (wV z.slot), some (.ref la), some (.int z.last), some (bV z.took), some (wV z.box), some (.ref ea), x, none, none, none, none, none, none]
    have h6 := ok.h2
    have nl := so.nl
    have n2 := so.ne
    refine blk_run (Pre := fun σ H' => σ = σa ∧ H' = H) (Post := fun _ _ => False) ?_ (fun _ _ z => z.elim) ⟨rfl, rfl⟩
    -- if not isinstance(thing, tuple) or len(thing) != PARTS: return False
    refine blk_cons (fun σ H' => σ = σa ∧ H' = H) ⟨_, ps_if (PW.pt (pw_or (pt_not (pt_val (pe_callB call_isi (by rfl) (T.b 0) (by decide +kernel) (pa_cons (pv 0) (pa_cons (pe_bltn (v := .ty "tuple") (by rfl) (T.b 7) (by decide +kernel) rfl) pa_nil))))) (pw_or1 (pt_cmpR op_ne (pe_callB call_len_seq (by rfl) (T.b 3) PySem.boot_len (pa_cons (pv 0) pa_nil)) (pe_glob (v := .int 8) (by rfl) mP ⟨_, rfl⟩) (nomark _))))) (pss_one (ps_ret pe_bl)) pss_nil, ?_⟩ ?_
    · rintro nx bk ct σ H' hn ⟨rfl, rfl⟩
      exact ⟨_, rfl, _, _, _, _, true, rfl, .ty "tuple", .base (.tup hr0), rfl, true, rfl, iteF ⟨_, rfl, r, _, rfl, .inr (SqT.of hr0), rfl, _, rfl, iteF (hn _ _ ⟨rfl, rfl⟩)⟩⟩
    -- mark, bears, .. = thing
    refine blk_cons (fun σ H' => σ = σb none ∧ H' = H) ⟨_, ps_asg (pv 0) (pg_tup rfl (pgs_cons (pg_name (i := 3) scIsStore.nd rfl (.inl rfl)) (pgs_cons (pg_name (i := 4) scIsStore.nd rfl (.inl rfl)) (pgs_cons (pg_name (i := 5) scIsStore.nd rfl (.inl rfl)) (pgs_cons (pg_name (i := 6) scIsStore.nd rfl (.inl rfl))
      (pgs_cons (pg_name (i := 7) scIsStore.nd rfl (.inl rfl)) (pgs_cons (pg_name (i := 8) scIsStore.nd rfl (.inl rfl)) (pgs_cons (pg_name (i := 9) scIsStore.nd rfl (.inl rfl)) (pgs_cons (pg_name (i := 10) scIsStore.nd rfl (.inl rfl)) pgs_nil))))))))), ?_⟩ ?_
    · rintro nx bk ct σ H' hn ⟨rfl, rfl⟩
      exact ⟨_, rfl, r, _, rfl, SqT.of hr0, rfl, _, _, rfl, _, _, rfl, _, _, rfl, _, _, rfl, _, _, rfl, _, _, rfl, _, _, rfl, _, _, rfl, rfl, hn _ _ ⟨rfl, rfl⟩⟩
    -- the marks
    refine blk_cons (fun σ H' => σ = σb none ∧ H' = H) ⟨_, ps_if (PW.pt (pw_or (pt_not (pt_val (pe_call GW hr1 rfl mW kW bW .nil pass0 (pa_cons (pv 3) (pa_cons pe_int (pa_cons (pe_op op_mul pe_int (pv 1)) pa_nil)))))) (pw_or1 (pt_not (pt_val (pe_call GW hr1 rfl mW kW bW .nil pass0 (pa_cons (pv 7) (pa_cons pe_int (pa_cons (pe_op op_mul pe_int (pv 1)) pa_nil))))))))) (pss_one (ps_ret pe_bl)) pss_nil, ?_⟩ ?_
    · rintro nx bk ct σ H' hn ⟨rfl, rfl⟩
      refine ⟨_, rfl, _, rfl, _, _, rfl, rfl, .inl ⟨by decide, by decide⟩, _, _, _, rfl, ?_⟩
      rw [mark_ok so.mk0]
      refine ⟨true, rfl, iteF ⟨_, rfl, _, rfl, _, _, rfl, rfl, .inl ⟨by decide, by decide⟩, _, _, _, rfl, ?_⟩⟩
      rw [mark_ok so.la]
      exact ⟨true, rfl, iteF (hn _ _ ⟨rfl, rfl⟩)⟩
    -- the bits, slot and box
    refine blk_cons (fun σ H' => σ = σb none ∧ Same H H') ⟨_, ps_if (pt_not (pt_val (pe_callB (cr_all rfl) (by rfl) (T.b 4) (by decide +kernel) (pa_cons (pe_op op_cat
        (pe_lc (own := [("part", 12)]) (g := gName 12) (tt := tYes) rfl scIsStore.nd (pi_tup (pe_tup (pa_cons (pv 4) (pa_cons (pv 8) pa_nil)))) (blkOk_by (own := [("part", 12)]) (N := nStore) (sc := defScope sIsStore) (by decide +kernel)) (fun _ _ _ _ _ => pg_name (i := 12) scIsStore.nd rfl (Or.inl rfl)) (fun _ _ _ _ _ => pts_nil) (fun _ _ _ _ _ => pe_call GW hr1 rfl mW kW bW .nil pass0 (pa_cons (pv 12) (pa_cons pe_int (pa_cons pe_int pa_nil)))))
        (pe_lc (own := [("part", 12)]) (g := gName 12) (tt := tYes) rfl scIsStore.nd (pi_tup (pe_tup (pa_cons (pv 5) (pa_cons (pv 9) pa_nil)))) (blkOk_by (own := [("part", 12)]) (N := nStore) (sc := defScope sIsStore) (by decide +kernel)) (fun _ _ _ _ _ => pg_name (i := 12) scIsStore.nd rfl (Or.inl rfl)) (fun _ _ _ _ _ => pts_nil) (fun _ _ _ _ _ => pe_call GB hr rfl mB kB bB .nil pass0 (pa_cons (pv 12) (pa_cons (pv 2) pa_nil))))) pa_nil)))) (pss_one (ps_ret pe_bl)) pss_nil, ?_⟩ ?_
    · rintro nx bk ct σ H' hn ⟨rfl, rfl⟩
      have two : (2 : Nat) ≤ sizeLine := by decide
      refine ⟨_, rfl, _, rfl, two, fun t1 h1 => ⟨t1, rfl, ⟨_, SqT.of upd_same⟩, fun D hD => ?_⟩⟩
      have s1 : Same H' (upd H' t1 (.tup [bV z.bears, bV z.took])) := Same.new h1
      have e1 : upd H' t1 (.tup [bV z.bears, bV z.took]) t1 = some (.tup [bV z.bears, bV z.took]) := upd_same
      generalize upd H' t1 (.tup [bV z.bears, bV z.took]) = H1 at s1 e1 hD ⊢
      refine walk_tup (K := K) (a := t1) (xs := [bV z.bears, bV z.took]) (Trues H1 D) (Trues.start hD) (fun i H2 h => SqT.of (h.1 _ _ e1)) ?_ ?_
      · rintro i x H2 hx h2
        have hb : ∃ b : Bool, x = .int (if b then 1 else 0) := by
          match i, hx with
          | 0, hx => cases hx; exact ⟨_, rfl⟩
          | 1, hx => cases hx; exact ⟨_, rfl⟩
          | i + 2, hx => simp at hx
        have hi : i < 2 := by simpa using (List.getElem?_eq_some_iff.mp hx).1
        obtain ⟨b, rfl⟩ := hb
        refine ⟨rfl, _, rfl, _, 0, 1, rfl, ?_⟩
        rw [bit_ok]
        exact h2.next hD (Same.refl _) (by omega)
      · rintro H2 ⟨s2, e2⟩
        refine ⟨_, rfl, _, rfl, two, fun t2 h3 => ⟨t2, rfl, ⟨_, SqT.of upd_same⟩, fun D2 hD2 => ?_⟩⟩
        have s3 : Same H2 (upd H2 t2 (.tup [wV z.slot, wV z.box])) := Same.new h3
        have e3 : upd H2 t2 (.tup [wV z.slot, wV z.box]) t2 = some (.tup [wV z.slot, wV z.box]) := upd_same
        generalize upd H2 t2 (.tup [wV z.slot, wV z.box]) = H3 at s3 e3 hD2 ⊢
        refine walk_tup (K := K) (a := t2) (xs := [wV z.slot, wV z.box]) (Trues H3 D2) (Trues.start hD2) (fun i H4 h => SqT.of (h.1 _ _ e3)) ?_ ?_
        · rintro i x H4 hx h4
          have hb : ∃ o : Option Int, x = wV o ∧ wOk c.b o := by
            match i, hx with
            | 0, hx => cases hx; exact ⟨_, rfl, so.sl⟩
            | 1, hx => cases hx; exact ⟨_, rfl, so.bx⟩
            | i + 2, hx => simp at hx
          have hi : i < 2 := by simpa using (List.getElem?_eq_some_iff.mp hx).1
          obtain ⟨o, rfl, ho⟩ := hb
          exact ⟨rfl, _, rfl, _, rfl, o, c.b, rfl, ho, h4.next hD2 (Same.refl _) (by omega)⟩
        · rintro H4 ⟨s4, e4⟩
          refine ⟨D, D2, _, _, rfl, rfl, s4 _ _ (s3 _ _ e2), e4, by simp; decide, fun L hL => ?_⟩
          rw [← List.map_append]
          refine ⟨L, _, rfl, SqL.of upd_same, true, ?_, iteF (hn _ _ ⟨rfl, (((s1.trans s2).trans s3).trans s4).trans (Same.new hL)⟩)⟩
          rw [List.replicate_append_replicate, all_true]
    -- the rows are tuples
    refine blk_cons (fun σ H' => σ = σb none ∧ Same H H') ⟨_, ps_if (pt_not (pt_val (pe_callB (cr_all rfl) (by rfl) (T.b 4) (by decide +kernel) (pa_cons
        (pe_lc (own := [("row", 13)]) (g := gName 13) (tt := tYes) rfl scIsStore.nd (pi_tup (pe_tup (pa_cons (pv 6) (pa_cons (pv 10) pa_nil)))) (blkOk_by (own := [("row", 13)]) (N := nStore) (sc := defScope sIsStore) (by decide +kernel)) (fun _ _ _ _ _ => pg_name (i := 13) scIsStore.nd rfl (Or.inl rfl)) (fun _ _ _ _ _ => pts_nil)
          (fun _ _ _ _ _ => pe_and (pe_callB (r := rIsi K) call_isi (by rfl) (T.b 0) (by decide +kernel) (pa_cons (pv 13) (pa_cons (pe_bltn (v := .ty "tuple") (by rfl) (T.b 7) (by decide +kernel) rfl) pa_nil))) (pe_one (pe_cmpR op_le (pe_callB (r := rLen K) call_len_seq (by rfl) (T.b 3) PySem.boot_len (pa_cons (pv 13) pa_nil)) (pv 1) (nomark _))))) pa_nil)))) (pss_one (ps_ret pe_bl)) pss_nil, ?_⟩ ?_
    · rintro nx bk ct σ H' hn ⟨rfl, s0⟩
      have two : (2 : Nat) ≤ sizeLine := by decide
      refine ⟨_, rfl, _, rfl, two, fun t1 h1 => ⟨t1, rfl, ⟨_, SqT.of upd_same⟩, fun D hD => ?_⟩⟩
      have s1 : Same H (upd H' t1 (.tup [.ref la, .ref ea])) := s0.trans (Same.new h1)
      have e1 : upd H' t1 (.tup [.ref la, .ref ea]) t1 = some (.tup [.ref la, .ref ea]) := upd_same
      generalize upd H' t1 (.tup [.ref la, .ref ea]) = H1 at s1 e1 hD ⊢
      refine walk_tup (K := K) (a := t1) (xs := [.ref la, .ref ea]) (Trues H1 D) (Trues.start hD) (fun i H2 h => SqT.of (h.1 _ _ e1)) ?_ ?_
      · rintro i x H2 hx h2
        have hb : ∃ (b : Addr) (ys : List V), x = .ref b ∧ H2 b = some (.tup ys) ∧ ys.length ≤ c.h := by
          match i, hx with
          | 0, hx => cases hx; exact ⟨la, ts, rfl, h2.1 _ _ (s1 _ _ hla), by rw [tl.length]; exact nl⟩
          | 1, hx => cases hx; exact ⟨ea, us, rfl, h2.1 _ _ (s1 _ _ hea), by rw [te.length]; exact n2⟩
          | i + 2, hx => simp at hx
        have hi : i < 2 := by simpa using (List.getElem?_eq_some_iff.mp hx).1
        obtain ⟨b, ys, rfl, hb, hy⟩ := hb
        refine ⟨rfl, _, rfl, _, _, _, _, true, rfl, .ty "tuple", .base (.tup hb), rfl, true, rfl, iteT ⟨_, rfl, b, ys, rfl, .inr (SqT.of hb), _, rfl, _, _, rfl, rfl, ?_⟩⟩
        dsimp only
        rw [decide_eq_true (show ((ys.length : Nat) : Int) ≤ (c.h : Int) by omega)]
        exact h2.next hD (Same.refl _) (by omega)
      · rintro H2 ⟨s2, e2⟩
        refine ⟨D, _, rfl, SqL.of e2, true, ?_, iteF (hn _ _ ⟨rfl, s1.trans s2⟩)⟩
        rw [all_true]
    -- rows = [one for row in (letters, echoes) for one in row]
    refine blk_cons (fun σ H' => ∃ ra, σ = σb (some (.ref ra)) ∧ Same H H' ∧ H' ra = some (.lst (ts ++ us)))
      ⟨_, ps_setLc2 (i := 11) (own := [("row", 13), ("one", 14)]) (vs1 := [14]) (g := gName 13) (tt := tYes) (wi1 := iTup K (tVar 13)) (g1 := gName 14) (tt1 := tYes) (te := tVar 14) rfl scIsStore.nd rfl rfl (sw_true rfl rfl rfl (by decide +kernel)) (pi_tup (pe_tup (pa_cons (pv 6) (pa_cons (pv 10) pa_nil)))) (blkOk_by (own := [("row", 13), ("one", 14)]) (N := nStore) (sc := defScope sIsStore) (by decide +kernel)) (by decide)
        (fun _ _ _ _ _ => pg_name (i := 13) scIsStore.nd rfl (Or.inl rfl)) (fun _ _ _ _ _ => pts_nil) (fun _ _ _ _ _ => pi_tup (pv 13)) (fun _ _ _ _ _ => pg_name (i := 14) scIsStore.nd rfl (Or.inl rfl)) (fun _ _ _ _ _ => pts_nil) (fun _ _ _ _ _ => pv 14), ?_⟩ ?_
    · rintro nx bk ct σ H' hn ⟨rfl, s0⟩
      have two : (2 : Nat) ≤ sizeLine := by decide
      refine ⟨_, rfl, _, rfl, two, fun t1 h1 => ⟨t1, rfl, ⟨_, SqT.of upd_same⟩, fun D hD => ?_⟩⟩
      have s1 : Same H (upd H' t1 (.tup [.ref la, .ref ea])) := s0.trans (Same.new h1)
      have e1 : upd H' t1 (.tup [.ref la, .ref ea]) t1 = some (.tup [.ref la, .ref ea]) := upd_same
      generalize upd H' t1 (.tup [.ref la, .ref ea]) = H1 at s1 e1 hD ⊢
      have tsz : ts.length ≤ 6 := by rw [tl.length]; omega
      have usz : us.length ≤ 6 := by rw [te.length]; omega
      refine walk_tup (K := K) (a := t1) (xs := [.ref la, .ref ea]) (fun i H2 => Same H1 H2 ∧ H2 D = some (.lst (if i = 0 then [] else if i = 1 then ts else ts ++ us))) ⟨Same.new hD, upd_same⟩ (fun i H2 h => SqT.of (h.1 _ _ e1)) ?_ ?_
      · rintro i x H2 hx ⟨s2, e2⟩
        have hb : ∃ (b : Addr) (pre ys : List V), x = .ref b ∧ H2 b = some (.tup ys) ∧ ys.length ≤ 6 ∧ pre.length ≤ 6 ∧ (if i = 0 then [] else if i = 1 then ts else ts ++ us) = pre ∧ (if i + 1 = 0 then [] else if i + 1 = 1 then ts else ts ++ us) = pre ++ ys := by
          match i, hx with
          | 0, hx => cases hx; exact ⟨la, [], ts, rfl, s2 _ _ (s1 _ _ hla), tsz, by simp, rfl, rfl⟩
          | 1, hx => cases hx; exact ⟨ea, ts, us, rfl, s2 _ _ (s1 _ _ hea), usz, tsz, rfl, rfl⟩
          | i + 2, hx => simp at hx
        obtain ⟨b, pre, ys, rfl, hb, hy, hp, ep1, ep2⟩ := hb
        rw [ep1] at e2
        refine ⟨rfl, _, rfl, b, rfl, ⟨_, SqT.of hb⟩, ?_⟩
        refine walk_tup (K := K) (a := b) (xs := ys) (fun j H3 => Same H1 H3 ∧ Same H1 H2 ∧ H3 D = some (.lst (pre ++ ys.take j)) ∧ H3 b = some (.tup ys)) ⟨s2, s2, by rw [e2]; simp, hb⟩ (fun j H3 h => SqT.of h.2.2.2) ?_ ?_
        · rintro j y H3 hy1 ⟨s3, _, e3, hb3⟩
          have hj : j < 6 := by
            have := (List.getElem?_eq_some_iff.mp hy1).1
            omega
          have nDb : b ≠ D := ne_of hb3 e3 (by intro z; cases z)
          have l12 : (12 : Nat) < sizeLine := by decide
          refine ⟨rfl, _, rfl, _, e3, ?_, ?_, s2, ?_, ?_⟩
          · rw [List.length_append, List.length_take]; omega
          · intro q o e
            rw [upd_ne (ne_of_none e hD)]; exact s3 _ _ e
          · rw [upd_same, List.append_assoc, List.take_add_one, hy1]; rfl
          · rw [upd_ne nDb]; exact hb3
        · rintro H3 ⟨s3, _, e3, _⟩
          exact ⟨s3, by rw [e3, ep2, List.take_length]⟩
      · rintro H2 ⟨s2, e2⟩
        exact hn _ _ ⟨D, rfl, s1.trans s2, e2⟩
    -- each of them is a pair
    refine blk_cons (fun σ H' => ∃ ra, σ = σb (some (.ref ra)) ∧ Same H H') ⟨_, ps_if (pt_not (pt_val (pe_callB (cr_all rfl) (by rfl) (T.b 4) (by decide +kernel) (pa_cons
        (pe_lc (own := [("one", 14)]) (g := gName 14) (tt := tYes) rfl scIsStore.nd (pi_list (pv 11)) (blkOk_by (own := [("one", 14)]) (N := nStore) (sc := defScope sIsStore) (by decide +kernel)) (fun _ _ _ _ _ => pg_name (i := 14) scIsStore.nd rfl (Or.inl rfl)) (fun _ _ _ _ _ => pts_nil)
          (fun _ _ _ _ _ => pe_and (pe_callB (r := rIsi K) call_isi (by rfl) (T.b 0) (by decide +kernel) (pa_cons (pv 14) (pa_cons (pe_bltn (v := .ty "tuple") (by rfl) (T.b 7) (by decide +kernel) rfl) pa_nil))) (pe_and (pe_cmpR op_eq (pe_callB (r := rLen K) call_len_seq (by rfl) (T.b 3) PySem.boot_len (pa_cons (pv 14) pa_nil)) pe_int (nomark _))
            (pe_one (pe_call GW hr1 rfl mW kW bW .nil pass0 (pa_cons (pe_ix (r := rIxT K) ix_tup (pv 14) pe_int (fun _ _ => rfl)) (pa_cons pe_int (pa_cons (pe_op op_mul pe_int (pv 1)) pa_nil)))))))) pa_nil)))) (pss_one (ps_ret pe_bl)) pss_nil, ?_⟩ ?_
    · rintro nx bk ct σ H1 hn ⟨ra, rfl, s1, e1⟩
      have tsz : ts.length ≤ 6 := by rw [tl.length]; omega
      have usz : us.length ≤ 6 := by rw [te.length]; omega
      refine ⟨_, rfl, ra, rfl, ⟨_, SqL.of e1⟩, fun D hD => ?_⟩
      refine walk_list (K := K) (a := ra) (xs := ts ++ us) (Trues H1 D) (Trues.start hD) (fun i H2 h => SqL.of (h.1 _ _ e1)) ?_ ?_
      · rintro i x H2 hx h2
        have hi : i < 12 := by
          have := (List.getElem?_eq_some_iff.mp hx).1
          rw [List.length_append] at this
          omega
        have hb : ∃ (b : Addr) (n : Nat) (v : V), x = .ref b ∧ H2 b = some (.tup [.int n, v]) ∧ n ≤ 2 * c.h := by
          have sH := s1.trans h2.1
          by_cases hlt : i < ts.length
          · rw [List.getElem?_append_left hlt] at hx
            obtain ⟨l, hl, a, rfl, ea⟩ := tl.get hx
            exact ⟨a, l.1, _, rfl, sH _ _ ea, (so.al l (List.mem_of_getElem? hl)).1⟩
          · rw [List.getElem?_append_right (by omega)] at hx
            obtain ⟨l, hl, a, rfl, ea⟩ := te.get hx
            exact ⟨a, l.1, _, rfl, sH _ _ ea, so.ae l (List.mem_of_getElem? hl)⟩
        obtain ⟨b, n, v, rfl, hb, hm⟩ := hb
        refine ⟨rfl, _, rfl, _, _, _, _, true, rfl, .ty "tuple", .base (.tup hb), rfl, true, rfl, iteT ⟨_, rfl, b, _, rfl, .inr (SqT.of hb), rfl, true, rfl, iteT ⟨_, rfl, b, _, 0, _, rfl, rfl, SqT.of hb, atI_nat (j := 0) rfl, _, rfl, _, _, rfl, rfl, .inl ⟨by decide, by decide⟩, _, _, _, rfl, ?_⟩⟩⟩
        rw [mark_ok hm]
        exact h2.next hD (Same.refl _) (by omega)
      · rintro H2 ⟨s2, e2⟩
        refine ⟨D, _, rfl, SqL.of e2, true, ?_, iteF (hn _ _ ⟨ra, rfl, s1.trans s2⟩)⟩
        rw [all_true]
    -- return all([is_borne(word, bound) ..] + [is_whole(t, 0, 1) ..])
    refine blk_one ⟨_, ps_ret (pe_callB (cr_all rfl) (by rfl) (T.b 4) (by decide +kernel) (pa_cons (pe_op op_cat
        (pe_lc (own := [("other", 15), ("word", 16)]) (g := gTup K 2 (gCons (gName 15) (gCons (gName 16) gNil))) (tt := tYes) rfl scIsStore.nd (pi_tup (pv 6)) (blkOk_by (own := [("other", 15), ("word", 16)]) (N := nStore) (sc := defScope sIsStore) (by decide +kernel)) (fun _ _ _ _ _ => pg_tup rfl (pgs_cons (pg_name (i := 15) scIsStore.nd rfl (Or.inl rfl)) (pgs_cons (pg_name (i := 16) scIsStore.nd rfl (Or.inl rfl)) pgs_nil))) (fun _ _ _ _ _ => pts_nil) (fun _ _ _ _ _ => pe_call GB hr rfl mB kB bB .nil pass0 (pa_cons (pv 16) (pa_cons (pv 2) pa_nil))))
        (pe_lc (own := [("other", 15), ("t", 17)]) (g := gTup K 2 (gCons (gName 15) (gCons (gName 17) gNil))) (tt := tYes) rfl scIsStore.nd (pi_tup (pv 10)) (blkOk_by (own := [("other", 15), ("t", 17)]) (N := nStore) (sc := defScope sIsStore) (by decide +kernel)) (fun _ _ _ _ _ => pg_tup rfl (pgs_cons (pg_name (i := 15) scIsStore.nd rfl (Or.inl rfl)) (pgs_cons (pg_name (i := 17) scIsStore.nd rfl (Or.inl rfl)) pgs_nil))) (fun _ _ _ _ _ => pts_nil) (fun _ _ _ _ _ => pe_call GW hr1 rfl mW kW bW .nil pass0 (pa_cons (pv 17) (pa_cons pe_int (pa_cons pe_int pa_nil)))))) pa_nil)), ?_⟩
    rintro nx bk ct σ H1 hn ⟨ra, rfl, s1⟩
    have tsz : ts.length ≤ 6 := by rw [tl.length]; omega
    have usz : us.length ≤ 6 := by rw [te.length]; omega
    refine ⟨_, rfl, la, rfl, ⟨_, SqT.of (s1 _ _ hla)⟩, fun D hD => ?_⟩
    refine walk_tup (K := K) (a := la) (xs := ts) (Trues H1 D) (Trues.start hD) (fun i H2 h => SqT.of (h.1 _ _ (s1 _ _ hla))) ?_ ?_
    · rintro i x H2 hx h2
      obtain ⟨l, hl, a, rfl, ea⟩ := tl.get hx
      have hi : i < 6 := by
        have := (List.getElem?_eq_some_iff.mp hx).1
        omega
      refine ⟨a, _, rfl, SqT.of (h2.1 _ _ (s1 _ _ ea)), rfl, _, _, rfl, _, _, rfl, rfl, rfl, _, rfl, _, rfl, l.2, c.b, rfl, (so.al l (List.mem_of_getElem? hl)).2, ?_⟩
      exact h2.next hD (Same.refl _) (by omega)
    · rintro H2 ⟨s2, e2⟩
      refine ⟨_, rfl, ea, rfl, ⟨_, SqT.of (s2 _ _ (s1 _ _ hea))⟩, fun D2 hD2 => ?_⟩
      refine walk_tup (K := K) (a := ea) (xs := us) (Trues H2 D2) (Trues.start hD2) (fun i H3 h => SqT.of (h.1 _ _ (s2 _ _ (s1 _ _ hea)))) ?_ ?_
      · rintro i x H3 hx h3
        obtain ⟨l, hl, a, rfl, ea'⟩ := te.get hx
        have hi : i < 6 := by
          have := (List.getElem?_eq_some_iff.mp hx).1
          omega
        refine ⟨a, _, rfl, SqT.of (h3.1 _ _ (s2 _ _ (s1 _ _ ea'))), rfl, _, _, rfl, _, _, rfl, rfl, rfl, _, rfl, _, 0, 1, rfl, ?_⟩
        rw [bit_ok]
        exact h3.next hD2 (Same.refl _) (by omega)
      · rintro H3 ⟨s3, e3⟩
        have l12 : (12 : Nat) < sizeLine := by decide
        refine ⟨D, D2, _, _, rfl, rfl, s3 _ _ e2, e3, by simp; omega, fun L hL => ?_⟩
        rw [← List.map_append]
        refine ⟨L, _, rfl, SqL.of upd_same, ?_⟩
        rw [List.replicate_append_replicate, all_true]
        exact k _ (((s1.trans s2).trans s3).trans (Same.new hL))
/-! ### spoil -/
def spSpoil (C : Addr) : Sp := fun vs H Q _ => ∃ (p r : Addr) (c : Cf) (fl fe : Nat) (s s' : Wy.S) (lp ep : Addr), vs = [.ref p, .ref r] ∧ c.Ok ∧ WayAt C H p c fl fe s lp ep ∧ StoreAt H r s' ∧ StOk c s' ∧
  ∀ (H' : Hp) (lp' ep' : Addr), H lp' = none → H ep' = none → Kept H H' (· = p) → WayAt C H' p c 0 0 s' lp' ep' → Q .non H'
theorem scSpoil : FnScope ["self", "store"] ["self", "store"] (defScope sSpoil) := ⟨rfl, rfl, rfl, by decide +kernel, rfl, by decide +kernel, by decide +kernel⟩
theorem ok_spoil (F : Fun K "spoil" "Way.spoil" sSpoil f fd) (T : Txt K mg C) (I : Has P w K mg base 3 "is_store" ["thing", "hold", "bound"] spIsStore) (M : HasM P w K mg base C 1 "put_down" ["self", "store"] (spPut K C)) : FnOk P w K mg base CX0 4 f fd ["self", "store"] (spSpoil C) := by
  obtain ⟨fi, fdi, GI, mI, kI, bI⟩ := I.ex
  obtain ⟨fp, fdp, GP, mP, bP⟩ := M.ex
  refine F.ok scSpoil (fun vs H Q E h => ?_) (fun cdv A outer s H vs Q E hr h => ?_)
  · obtain ⟨p, r, c, fl, fe, s, s', lp, ep, rfl, _⟩ := h
    rfl
  · obtain ⟨p, r, c, fl, fe, z, z', lp, ep, rfl, ok, W, st, so, k⟩ := h
    obtain ⟨⟨dx, hp⟩, _⟩ := id W
    have hr1 : Room 1 _ := hr.mono (by decide)
    refine blk_run (Pre := fun σ H' => σ = [some (.ref p), some (.ref r)] ∧ H' = H) (Post := fun _ H' => Q .non H') ?_ (fun _ _ z => z) ⟨rfl, rfl⟩
    refine blk_cons (fun σ H' => σ = [some (.ref p), some (.ref r)] ∧ Same H H') ⟨_, ps_if (pt_not (pt_val (pe_call GI hr rfl mI kI bI .nil pass0 (pa_cons (pv 1) (pa_cons (pe_fld (pv 0) rfl) (pa_cons (pe_fld (pv 0) rfl) pa_nil)))))) (pss_one ps_never) pss_nil, ?_⟩ ?_
    · rintro nx bk ct σ H' hn ⟨rfl, rfl⟩
      exact ⟨_, rfl, _, rfl, p, C, dx, _, _, rfl, hp, T.cl, T.n 0, at_wk 0 rfl rfl, _, rfl, p, C, dx, _, _, rfl, hp, T.cl, T.n 2, at_wk 2 rfl rfl, r, c, z', rfl, ok, st, so, fun H2 s2 => ⟨true, rfl, iteF (hn _ _ ⟨rfl, s2⟩)⟩⟩
    refine blk_cons (fun σ H' => σ = [some (.ref p), some (.ref r)] ∧ ∃ lp' ep', H lp' = none ∧ H ep' = none ∧ Kept H H' (· = p) ∧ WayAt C H' p c fl fe z' lp' ep') ⟨_, ps_expr (pe_meth (pv 0) T.cl mP GP hr1 bP .nil pass0 (pa_cons (pv 1) pa_nil)), ?_⟩ ?_
    · rintro nx bk ct σ H1 hn ⟨rfl, s1⟩
      obtain ⟨la, ea, ts, us, e1, e2, e3, e4, e5⟩ := st.same s1
      have nt : NoTup H1 (· = p) := no_tup1 (s1 _ _ hp) rfl
      refine ⟨_, rfl, p, dx, _, rfl, s1 _ _ hp, lookup_no (by decide +kernel), _, rfl, p, dx, r, la, ea, _, .int z'.mark, bV z'.bears, wV z'.slot, .int z'.last, bV z'.took, wV z'.box, ts, us, rfl, s1 _ _ hp, by rw [List.length_zip]; exact Nat.le_trans (Nat.min_le_left _ _) (by decide), SqT.of e1, SqT.of e2, SqT.of e3, fun H2 lp' ep' f1 f2 n1 k2 el ee ep => ?_⟩
      rw [putAll_full (ls := z'.letters) (es := z'.echoes)] at ep
      exact hn _ _ ⟨rfl, lp', ep', s1.free f1, s1.free f2, (Kept.of s1).trans k2, ⟨⟨dx, ep⟩, ⟨ts, el, e4.kept k2 nt⟩, ⟨us, ee, e5.kept k2 nt⟩, n1⟩⟩
    refine blk_one ⟨_, ps_asg2 pe_int (pg_at (pv 0)) (pg_at (pv 0)), ?_⟩
    rintro nx bk ct σ H1 hn ⟨rfl, lp', ep', f1, f2, k1, W1⟩
    obtain ⟨⟨dy, hp1⟩, _⟩ := id W1
    refine ⟨_, rfl, p, C, dy, _, rfl, hp1, T.cl, T.n 3, len_wk rfl, ?_⟩
    rw [put_wk 3 rfl rfl]
    refine ⟨_, rfl, p, C, dy, _, rfl, upd_same, T.cl, T.n 4, len_wk rfl, ?_⟩
    rw [put_wk 4 rfl rfl, upd_upd]
    exact hn _ _ (k _ lp' ep' f1 f2 (k1.trans (Kept.upd rfl)) (WayAt.set (s' := z') W1 rfl rfl))
end
end Wk
namespace Wk
open PySem L2 Ru
/-! ### the draws -/
/-- a bag at B from which at most n draws were made -/
def Bag (H : Hp) (B : Addr) (n : Nat) : Prop := ∃ a b k : Int, H B = some (.lst [.int a, .int b, .int k]) ∧ 0 ≤ b ∧ b < 2 ^ 61 ∧ 0 ≤ k ∧ k ≤ n
theorem Bag.mono {H : Hp} {B : Addr} {n m : Nat} (h : Bag H B n) (l : n ≤ m) : Bag H B m := by
  obtain ⟨a, b, k, e, h1, h2, h3, h4⟩ := h
  exact ⟨a, b, k, e, h1, h2, h3, by omega⟩
theorem Bag.kept {H H' : Hp} {D : Addr → Prop} {B : Addr} {n : Nat} (h : Bag H B n) (k : Kept H H' D) (d : ¬ D B) : Bag H' B n := by
  obtain ⟨a, b, j, e, h1⟩ := h
  exact ⟨a, b, j, k _ _ e d, h1⟩
theorem Bag.soft {H : Hp} {B : Addr} {n : Nat} (h : Bag H B n) : NoTup H (· = B) := by
  obtain ⟨a, b, j, e, h1⟩ := h
  exact no_tup1 e rfl
def primes : List V := [.int 2147483647, .int 2147483629, .int 2147483587, .int 2147483579, .int 2147483563, .int 2147483549, .int 2147483543]
theorem prime_at {i : Int} (h0 : 0 ≤ i) (h7 : i < 7) : ∃ q : Int, atI primes i = some (.int q) ∧ 0 < q ∧ q < 2 ^ 31 := by
  have : i = 0 ∨ i = 1 ∨ i = 2 ∨ i = 3 ∨ i = 4 ∨ i = 5 ∨ i = 6 := by omega
  rcases this with rfl | rfl | rfl | rfl | rfl | rfl | rfl <;> exact ⟨_, rfl, by decide, by decide⟩
section
variable {P : Program} {w : World} {K : PySem.W.Frag} {mg : Str → Option Value} {base : Heap} {C f : Addr} {fd : FuncData}
def spTake : Sp := fun vs H Q _ => ∃ (B : Addr) (m : Int) (n : Nat), vs = [.ref B, .int m] ∧ 0 < m ∧ m ≤ 64 ∧ Bag H B n ∧ n ≤ 100000 ∧ ∀ (H' : Hp) (r : Int), 0 ≤ r → r < m → Kept H H' (· = B) → Bag H' B (n + 1) → Q (.int r) H'
abbrev nTake : List Str := ["_law_bag_here", "_law_many", "_law_digit", "_law_primes", "_law_turn", "_law_base", "_law_mixed"]
theorem scTake : FnScope nTake ["_law_bag_here", "_law_many"] (defScope sTake) := ⟨rfl, rfl, rfl, by decide +kernel, rfl, by decide +kernel, by decide +kernel⟩
theorem ok_take (F : Fun K "_law_take" "_law_take" sTake f fd) : FnOk P w K mg base CX0 1 f fd ["_law_bag_here", "_law_many"] spTake := by
  refine F.ok scTake (fun vs H Q E h => ?_) (fun cdv A outer s H vs Q E hr h => ?_)
  · obtain ⟨B, m, n, rfl, _⟩ := h
    rfl
  · obtain ⟨B, m, n, rfl, m0, m64, ⟨a, b, j, hB, b0, b61, j0, jn⟩, hn5, k⟩ := h
    let σ7 (x y z u : Option V) : L2.St := [some (.ref B), some (.int m), none, x, y, z, u]
    refine blk_run (Pre := fun σ H' => σ = σ7 none none none none ∧ H' = H) (Post := fun _ _ => False) ?_ (fun _ _ z => z.elim) ⟨rfl, rfl⟩
    -- the digits of a great cell
    refine blk_cons (fun σ H' => σ = σ7 none none none none ∧ H' = H) ⟨_, ps_if (pt_cmpR op_gt (pe_ix ix_list (pv 0) pe_int (fun _ _ => rfl)) pe_int (nomark _))
      (pss_cons (ps_set (i := 2) scTake.nd rfl (.inl rfl) (pe_op op_mod (pe_ix ix_list (pv 0) pe_int (fun _ _ => rfl)) (pv 1))) (pss_cons (ps_asg (pe_op op_fdiv (pe_ix ix_list (pv 0) pe_int (fun _ _ => rfl)) (pv 1)) (pg_sub (pv 0) pe_int set_list)) (pss_one (ps_ret (pv 2))))) pss_nil, ?_⟩ ?_
    · rintro nx bk ct σ H' hn ⟨rfl, rfl⟩
      refine ⟨_, rfl, B, _, 0, _, rfl, rfl, SqL.of hB, atI_nat (j := 0) rfl, _, _, rfl, rfl, _, rfl, ?_⟩
      refine ite2 (fun _ => ?_) fun _ => hn _ _ ⟨rfl, rfl⟩
      refine ⟨_, rfl, B, _, 0, _, rfl, rfl, SqL.of hB, atI_nat (j := 0) rfl, _, rfl, _, _, rfl, rfl, m0, ?_⟩
      refine ⟨_, rfl, B, _, 0, _, rfl, rfl, SqL.of hB, atI_nat (j := 0) rfl, _, rfl, _, _, rfl, rfl, ⟨m0, by omega⟩, ?_⟩
      refine ⟨_, rfl, B, _, 0, 0, rfl, rfl, hB, rfl, _, rfl, ?_⟩
      exact k _ _ (Int.emod_nonneg _ (by omega)) (Int.emod_lt_of_pos _ m0) (Kept.upd rfl) ⟨_, b, j, upd_same, b0, b61, j0, by omega⟩
    -- the primes
    refine blk_cons (fun σ H' => ∃ t, σ = σ7 (some (.ref t)) none none none ∧ Same H H' ∧ H' t = some (.tup primes)) ⟨_, ps_set (i := 3) scTake.nd rfl (.inl rfl) (pe_tup (pa_cons pe_int (pa_cons pe_int (pa_cons pe_int (pa_cons pe_int (pa_cons pe_int (pa_cons pe_int (pa_cons pe_int pa_nil)))))))), ?_⟩ ?_
    · rintro nx bk ct σ H' hn ⟨rfl, rfl⟩
      exact ⟨by show 7 ≤ sizeLine; decide, fun t ht => hn _ _ ⟨t, rfl, Same.new ht, upd_same⟩⟩
    -- one draw more
    refine blk_cons (fun σ H' => ∃ t, σ = σ7 (some (.ref t)) none none none ∧ Kept H H' (· = B) ∧ H' t = some (.tup primes) ∧ H' B = some (.lst [.int a, .int b, .int (j + 1)])) ⟨_, ps_asg (pe_op op_add (pe_ix ix_list (pv 0) pe_int (fun _ _ => rfl)) pe_int) (pg_sub (pv 0) pe_int set_list), ?_⟩ ?_
    · rintro nx bk ct σ H' hn ⟨t, rfl, s1, et⟩
      have nBt : t ≠ B := ne_of et (s1 _ _ hB) (by intro z; cases z)
      refine ⟨_, rfl, B, _, 2, _, rfl, rfl, SqL.of (s1 _ _ hB), atI_nat (j := 2) rfl, _, _, rfl, rfl, _, rfl, B, _, 2, 2, rfl, rfl, s1 _ _ hB, rfl, ?_⟩
      exact hn _ _ ⟨t, rfl, (Kept.of s1).trans (Kept.upd rfl), by rw [upd_ne nBt]; exact et, upd_same⟩
    refine blk_cons (fun σ H' => ∃ t, σ = σ7 (some (.ref t)) (some (.int (j + 1))) none none ∧ Kept H H' (· = B) ∧ H' t = some (.tup primes) ∧ H' B = some (.lst [.int a, .int b, .int (j + 1)])) ⟨_, ps_set (i := 4) scTake.nd rfl (.inl rfl) (pe_ix ix_list (pv 0) pe_int (fun _ _ => rfl)), ?_⟩ ?_
    · rintro nx bk ct σ H' hn ⟨t, rfl, k1, et, eB⟩
      exact ⟨_, rfl, B, _, 2, _, rfl, rfl, SqL.of eB, atI_nat (j := 2) rfl, hn _ _ ⟨t, rfl, k1, et, eB⟩⟩
    refine blk_cons (fun σ H' => ∃ t x, σ = σ7 (some (.ref t)) (some (.int (j + 1))) (some (.int x)) none ∧ 0 ≤ x ∧ x < 2 ^ 100 ∧ Kept H H' (· = B) ∧ H' t = some (.tup primes) ∧ H' B = some (.lst [.int a, .int b, .int (j + 1)]))
      ⟨_, ps_set (i := 5) scTake.nd rfl (.inl rfl) (pe_op op_add (pe_op op_add (pe_op op_mul (pe_ix ix_list (pv 0) pe_int (fun _ _ => rfl)) (pe_op op_add (pe_op op_mul pe_int (pv 4)) pe_int)) (pe_op op_mul (pe_op op_mul pe_int (pv 4)) (pv 4))) pe_int), ?_⟩ ?_
    · rintro nx bk ct σ H' hn ⟨t, rfl, k1, et, eB⟩
      refine ⟨_, rfl, B, _, 1, _, rfl, rfl, SqL.of eB, atI_nat (j := 1) rfl, _, rfl, _, _, rfl, rfl, .inl ⟨by decide, by decide⟩, _, _, rfl, rfl, _, _, rfl, rfl, .inl ⟨by omega, by omega⟩, ?_⟩
      refine ⟨_, rfl, _, _, rfl, rfl, .inl ⟨by decide, by decide⟩, _, rfl, _, _, rfl, rfl, .inl ⟨by omega, by omega⟩, _, _, rfl, rfl, _, _, rfl, rfl, hn _ _ ⟨t, _, rfl, ?_, ?_, k1, et, eB⟩⟩
      · have h1 : 0 ≤ b * (2 * (j + 1) + 1) := Int.mul_nonneg b0 (by omega)
        have h2 : 0 ≤ 4567 * (j + 1) * (j + 1) := Int.mul_nonneg (by omega) (by omega)
        omega
      · have h1 : b * (2 * (j + 1) + 1) ≤ 2 ^ 61 * 300000 := Int.mul_le_mul (by omega) (by omega) (by omega) (by decide)
        have h2 : 4567 * (j + 1) * (j + 1) ≤ 1000000000 * 100001 := Int.mul_le_mul (by omega) (by omega) (by omega) (by decide)
        omega
    refine blk_cons (fun σ H' => ∃ t x y, σ = σ7 (some (.ref t)) (some (.int (j + 1))) (some (.int x)) (some (.int y)) ∧ 0 ≤ y ∧ y < 2 ^ 31 ∧ Kept H H' (· = B) ∧ H' t = some (.tup primes) ∧ H' B = some (.lst [.int a, .int b, .int (j + 1)]))
      ⟨_, ps_set (i := 6) scTake.nd rfl (.inl rfl) (pe_op op_mod (pe_op op_powB (pv 5) pe_int) (pe_ix ix_tup (pv 3) (pe_op op_mod (pv 4) pe_int) (fun _ _ => rfl))), ?_⟩ ?_
    · rintro nx bk ct σ H' hn ⟨t, x, rfl, x0, x1, k1, et, eB⟩
      obtain ⟨q, eq, q0, q1⟩ := prime_at (Int.emod_nonneg (j + 1) (by decide : (7 : Int) ≠ 0)) (Int.emod_lt_of_pos (j + 1) (by decide : (0 : Int) < 7))
      have hb : Builtin.Int.intBits x ≤ 100 := PyProof.Rows.intBits_le (by omega)
      refine ⟨_, rfl, _, _, rfl, rfl, ⟨by decide, ?_⟩, _, rfl, _, rfl, _, _, rfl, rfl, (by show (0 : Int) < 7; decide), t, primes, _, _, rfl, rfl, SqT.of et, eq, _, _, rfl, rfl, q0, hn _ _ ⟨t, x, _, rfl, Int.emod_nonneg _ (by omega), ?_, k1, et, eB⟩⟩
      · have : (Builtin.Int.intBits x : Int) * 3 ≤ 100 * 3 := Int.mul_le_mul_of_nonneg_right (by omega) (by decide)
        exact Int.le_trans this (by decide)
      · exact Int.lt_trans (Int.emod_lt_of_pos _ q0) q1
    refine blk_one ⟨_, ps_ret (pe_op op_mod (pe_op op_fdiv (pe_op op_mod (pe_op op_mul (pv 6) (pe_op op_add (pe_op op_add (pe_op op_fdiv (pv 6) pe_int) (pe_op op_mul pe_int (pv 4))) pe_int)) (pe_ix ix_tup (pv 3) (pe_op op_mod (pe_op op_add (pv 4) pe_int) pe_int) (fun _ _ => rfl))) pe_int) (pv 1)), ?_⟩
    rintro nx bk ct σ H' hn ⟨t, x, y, rfl, y0, y1, k1, et, eB⟩
    obtain ⟨q, eq, q0, q1⟩ := prime_at (Int.emod_nonneg (j + 1 + 4) (by decide : (7 : Int) ≠ 0)) (Int.emod_lt_of_pos (j + 1 + 4) (by decide : (0 : Int) < 7))
    refine ⟨_, rfl, _, rfl, _, _, rfl, rfl, ⟨by decide, by decide⟩, _, rfl, _, _, rfl, rfl, .inl ⟨by decide, by decide⟩, _, _, rfl, rfl, _, _, rfl, rfl, _, _, rfl, rfl, .inl ⟨by omega, by omega⟩, ?_⟩
    refine ⟨_, rfl, _, rfl, _, _, rfl, rfl, _, _, rfl, rfl, (by show (0 : Int) < 7; decide), t, primes, _, _, rfl, rfl, SqT.of et, eq, _, _, rfl, rfl, q0, _, _, rfl, rfl, ⟨by decide, by decide⟩, _, rfl, _, _, rfl, rfl, m0, ?_⟩
    exact k _ _ (Int.emod_nonneg _ (by omega)) (Int.emod_lt_of_pos _ m0) k1 ⟨a, b, j + 1, eB, b0, b61, by omega, by omega⟩
/-! ### the bag -/
def spBag (K : PySem.W.Frag) : Sp := fun vs H Q _ => ∃ (a : Addr) (n : Nat) (ns : List Int), vs = [.ref a, .int n] ∧ n ≤ 2 ∧ SqL K H a (ns.map V.int) ∧ ns.length ≤ 63 ∧ ∀ (H' : Hp) (B : Addr), H B = none → Same H H' → Bag H' B 0 → Q (.ref B) H'
theorem scBag : FnScope ["_law_script", "_law_at", "_law_cell", "_law_far"] ["_law_script", "_law_at"] (defScope sBag) := ⟨rfl, rfl, rfl, by decide +kernel, rfl, by decide +kernel, by decide +kernel⟩
theorem ok_bag (F : Fun K "_law_bag" "_law_bag" sBag f fd) (T : Txt K mg C) : FnOk P w K mg base CX0 1 f fd ["_law_script", "_law_at"] (spBag K) := by
  refine F.ok scBag (fun vs H Q E h => ?_) (fun cdv A outer s H vs Q E hr h => ?_)
  · obtain ⟨a, n, ns, rfl, _⟩ := h
    rfl
  · obtain ⟨a, n, ns, rfl, n2, hS, h63, k⟩ := h
    let σ4 (x y : Option V) : L2.St := [some (.ref a), some (.int n), x, y]
    refine blk_run (Pre := fun σ H' => σ = σ4 none none ∧ H' = H) (Post := fun _ _ => False) ?_ (fun _ _ z => z.elim) ⟨rfl, rfl⟩
    refine blk_cons (fun σ H' => σ = σ4 (some (.int 0)) none ∧ H' = H) ⟨_, ps_set (i := 2) scBag.nd rfl (.inl rfl) pe_int, ?_⟩ ?_
    · rintro nx bk ct σ H' hn ⟨rfl, rfl⟩
      exact hn _ _ ⟨rfl, rfl⟩
    refine blk_cons (fun σ H' => ∃ x, σ = σ4 (some (.int x)) none ∧ H' = H) ⟨_, ps_if (pt_cmpR op_lt (pv 1) (pe_callB call_len_seq (by rfl) (T.b 3) PySem.boot_len (pa_cons (pv 0) pa_nil)) (nomark _)) (pss_one (ps_set (i := 2) scBag.nd rfl (.inl rfl) (pe_ix ix_list (pv 0) (pv 1) (fun _ _ => rfl)))) pss_nil, ?_⟩ ?_
    · rintro nx bk ct σ H' hn ⟨rfl, rfl⟩
      refine ⟨_, rfl, _, rfl, a, _, rfl, .inl hS, _, _, rfl, rfl, _, rfl, ?_⟩
      have el : ((ns.map V.int).length : Int) = ns.length := by rw [List.length_map]
      by_cases h : (n : Int) < ((ns.map V.int).length : Int)
      · have hlt : n < ns.length := by omega
        refine iteET (decide_eq_true h) ⟨_, rfl, _, rfl, a, _, n, .int ns[n], rfl, rfl, hS, atI_nat (j := n) ?_, hn _ _ ⟨_, rfl, rfl⟩⟩
        rw [List.getElem?_map, List.getElem?_eq_getElem hlt]; rfl
      · exact iteEF (decide_eq_false h) (hn _ _ ⟨_, rfl, rfl⟩)
    refine blk_cons (fun σ H' => ∃ x y, σ = σ4 (some (.int x)) (some (.int y)) ∧ H' = H) ⟨_, ps_set (i := 3) scBag.nd rfl (.inl rfl) (pe_callB call_abs (by rfl) (T.b 9) (by decide +kernel) (pa_cons (pv 2) pa_nil)), ?_⟩ ?_
    · rintro nx bk ct σ H' hn ⟨x, rfl, rfl⟩
      exact ⟨_, rfl, x, rfl, hn _ _ ⟨x, _, rfl, rfl⟩⟩
    refine blk_one ⟨_, ps_ret (pe_lst (pa_cons (pe_op op_mul (pv 3) (pe_callTy call_int1 (by rfl) (T.b 1) (by decide +kernel) (pa_cons (pe_cmpR op_ge (pv 3) (pe_op op_pow pe_int pe_int) (nomark _)) pa_nil)))
      (pa_cons (pe_op op_add (pe_op op_add (pe_op op_add (pe_op op_mod (pv 2) pe_int) (pe_op op_mul (pe_op op_mul pe_int (pv 1)) (pv 1))) (pe_op op_mul pe_int (pv 1))) pe_int) (pa_cons pe_int pa_nil)))), ?_⟩
    rintro nx bk ct σ H' hn ⟨x, y, rfl, rfl⟩
    refine ⟨_, rfl, _, rfl, _, _, rfl, rfl, ⟨by decide, by decide, by decide⟩, _, _, rfl, rfl, .inr ⟨_, rfl, _, _, rfl, rfl, .inr ?_, ?_⟩⟩
    · split <;> exact ⟨by decide, by decide⟩
    refine ⟨_, rfl, _, _, rfl, rfl, (by show (0 : Int) < 1000000000000000003; decide), _, rfl, _, _, rfl, rfl, .inl ⟨by decide, by decide⟩, _, rfl, _, _, rfl, rfl, .inl ⟨by omega, by omega⟩, _, _, rfl, rfl, _, rfl, _, _, rfl, rfl, .inl ⟨by decide, by decide⟩, _, _, rfl, rfl, _, _, rfl, rfl, by show 3 ≤ sizeLine; decide, fun B hB => ?_⟩
    have e0 := Int.emod_nonneg x (by decide : (1000000000000000003 : Int) ≠ 0)
    have e1 := Int.emod_lt_of_pos x (by decide : (0 : Int) < 1000000000000000003)
    have n0 : (0 : Int) ≤ 4057 * (n : Int) * (n : Int) := Int.mul_nonneg (by omega) (by omega)
    have n1 : 4057 * (n : Int) * (n : Int) ≤ 10000 * 2 := Int.mul_le_mul (by omega) (by omega) (by omega) (by decide)
    exact k _ B hB (Same.new hB) ⟨_, _, 0, upd_same, by omega, by omega, by decide, by omega⟩
end
end Wk
namespace Wk
open PySem L2 Ru
theorem walk_range {lo : Int} {n : Nat} {B : V → Hp → (Hp → Prop) → Prop} {R : Hp → Prop} {H0 : Hp} (Pv : Nat → Hp → Prop) (h0 : Pv 0 H0) (step : ∀ (i : Nat) H, i < n → Pv i H → B (.int (lo + i)) H (Pv (i + 1))) (hd : ∀ H, Pv n H → R H) :
    ∃ W : Nat → Nat → Hp → Prop, (∃ m, W 0 m H0) ∧ ∀ i m H, W i m H → ((Itr lo n).stop i H ∧ R H) ∨ ((Itr lo n).go i H ∧ ∃ Nx : Hp → Prop, (∀ H', Nx H' → ∃ m', m' < m ∧ W (i + 1) m' H') ∧ ∀ x H', (Itr lo n).yld i H x H' → B x H' Nx) := by
  refine ⟨fun i m H => m + i = n ∧ Pv i H, ⟨_, rfl, h0⟩, ?_⟩
  rintro i m H ⟨e, p⟩
  cases m with
  | zero =>
    have e' : i = n := by omega
    rw [e'] at p
    exact .inl ⟨by show n ≤ i; omega, hd H p⟩
  | succ m =>
    have lt : i < n := by omega
    refine .inr ⟨lt, Pv (i + 1), fun H' p' => ⟨m, Nat.lt_succ_self _, by omega, p'⟩, ?_⟩
    rintro x H' ⟨rfl, rfl⟩
    exact step i _ lt p
theorem two_at {r : Int} {v : V} (h0 : 0 ≤ r) (h2 : r < 2) : atI [V.non, v] r = some (if r = 0 then V.non else v) := by
  have : r = 0 ∨ r = 1 := by omega
  rcases this with rfl | rfl <;> rfl
theorem bit_of {r : Int} (h0 : 0 ≤ r) (h2 : r < 2) : V.int r = bV (decide (r = 1)) := by
  have : r = 0 ∨ r = 1 := by omega
  rcases this with rfl | rfl <;> rfl
/-- a drawn word -/
def drawn (r v : Int) : Option Int := if r = 0 then none else some v
theorem drawn_V (r v : Int) : (if r = 0 then V.non else V.int v) = wV (drawn r v) := by
  unfold drawn; split <;> rfl
theorem drawn_ok {r v : Int} {b : Nat} (h0 : 0 ≤ v) (h1 : v < b) : wOk b (drawn r v) := by
  unfold drawn; split
  · trivial
  · exact ⟨h0, h1⟩
theorem Kept.new {H H' : Hp} {D : Addr → Prop} {p : Addr} {o : HO} (k : Kept H H' D) (h : H' p = none) : Kept H (L2.upd H' p o) D := k.trans (Kept.of (Same.new h))
section
variable {P : Program} {w : World} {K : PySem.W.Frag} {mg : Str → Option Value} {base : Heap} {C f : Addr} {fd : FuncData}
/-! ### any store -/
def spLStore : Sp := fun vs H Q _ => ∃ (B : Addr) (c : Cf) (n : Nat), vs = [.ref B, .int c.h, .int c.b] ∧ c.Ok ∧ Bag H B n ∧ n ≤ 50000 ∧ ∀ (H' : Hp) (r : Addr) (s : Wy.S), Kept H H' (· = B) → Bag H' B (n + 50) → StoreAt H' r s → StOk c s → Q (.ref r) H'
abbrev nLStore : List Str := ["_law_bag_here", "_law_size", "_law_top", "_law_marking", "_law_some", "_law_turn", "_law_echoing", "_law_two", "_law_front"]
theorem scLStore : FnScope nLStore ["_law_bag_here", "_law_size", "_law_top"] (defScope sLStore) := ⟨rfl, rfl, rfl, by decide +kernel, rfl, by decide +kernel, by decide +kernel⟩
theorem ok_lstore (F : Fun K "_law_store" "_law_store" sLStore f fd) (T : Txt K mg C) (W : Has P w K mg base 1 "_law_take" ["_law_bag_here", "_law_many"] spTake) : FnOk P w K mg base CX0 2 f fd ["_law_bag_here", "_law_size", "_law_top"] spLStore := by
  obtain ⟨fw, fdw, GW, mW, kW, bW⟩ := W.ex
  refine F.ok scLStore (fun vs H Q E h => ?_) (fun cdv A outer s H vs Q E hr h => ?_)
  · obtain ⟨B, c, n, rfl, _⟩ := h
    rfl
  · obtain ⟨B, c, n, rfl, ok, hB, hn, k⟩ := h
    have h1 := ok.h1
    have h6 := ok.h2
    have b1 := ok.b1
    have b40 := ok.b2
    have nonB : ∀ o, H B = some o → True := fun _ _ => trivial
    have l100 : (100 : Nat) < sizeLine := by decide
    obtain ⟨hB1, hB2, hB3, eB0, _⟩ := id hB
    let σ9 (x y z u v t : Option V) : L2.St := [some (.ref B), some (.int c.h), some (.int c.b), x, y, z, u, v, t]
    let mk : Option V := some (.int (2 * c.h + 1))
    refine blk_run (Pre := fun σ H' => σ = σ9 none none none none none none ∧ H' = H) (Post := fun _ _ => False) ?_ (fun _ _ z => z.elim) ⟨rfl, rfl⟩
    -- marking, some = 2 * size + 1, []
    refine blk_cons (fun σ H' => ∃ L, σ = σ9 mk (some (.ref L)) none none none none ∧ Same H H' ∧ H L = none ∧ H' L = some (.lst []))
      ⟨_, ps_asg (pe_tup (pa_cons (pe_op op_add (pe_op op_mul pe_int (pv 1)) pe_int) (pa_cons (pe_lst pa_nil) pa_nil))) (pg_tup rfl (pgs_cons (pg_name (i := 3) scLStore.nd rfl (.inr rfl)) (pgs_cons (pg_name (i := 4) scLStore.nd rfl (.inl rfl)) pgs_nil))), ?_⟩ ?_
    · rintro nx bk ct σ H' hnx ⟨rfl, rfl⟩
      refine ⟨_, rfl, _, _, rfl, rfl, .inl ⟨by decide, by decide⟩, _, _, rfl, rfl, Nat.zero_le _, fun L hL => ⟨by show 2 ≤ sizeLine; decide, fun t ht => ?_⟩⟩
      refine ⟨t, _, rfl, SqT.of upd_same, rfl, _, _, rfl, _, _, rfl, rfl, hnx _ _ ⟨L, rfl, (Same.new hL).trans (Same.new ht), hL, ?_⟩⟩
      rw [upd_ne (ne_of_none upd_same ht), upd_same]
    -- the letters
    refine blk_cons (fun σ H' => ∃ L v5 ls ts, σ = σ9 mk (some (.ref L)) v5 none none none ∧ L ≠ B ∧ Kept H H' (· = B) ∧ Bag H' B (n + 19) ∧ H' L = some (.lst ts) ∧ RowAt wV H' ts ls ∧ ls.length ≤ c.h ∧ ∀ l ∈ ls, l.1 ≤ 2 * c.h ∧ wOk c.b l.2)
      ⟨_, ps_for PassesOwn.never rfl (pi_range1 (by rfl) (T.b 8) (pa_cons (pe_call GW hr rfl mW kW bW .nil pass0 (pa_cons (pv 0) (pa_cons (pe_op op_add (pv 1) pe_int) pa_nil))) pa_nil)) (pg_name (i := 5) scLStore.nd rfl (.inl rfl))
        (pss_one (ps_expr (pe_bm PySem.F.plainAttrs_list PySem.F.slot_list_append PySem.F.type_list_append mt_append (pv 4) (pa_cons (pe_tup (pa_cons (pe_call GW hr rfl mW kW bW .nil pass0 (pa_cons (pv 0) (pa_cons (pv 3) pa_nil)))
          (pa_cons (pe_ix ix_list (pe_lst (pa_cons pe_non (pa_cons (pe_call GW hr rfl mW kW bW .nil pass0 (pa_cons (pv 0) (pa_cons (pv 2) pa_nil))) pa_nil))) (pe_call GW hr rfl mW kW bW .nil pass0 (pa_cons (pv 0) (pa_cons pe_int pa_nil))) (fun _ _ => rfl)) pa_nil))) pa_nil)))), ?_⟩ ?_
    · rintro nx bk ct σ H1 hnx ⟨L, rfl, s1, hL0, hL1⟩
      have nLB : L ≠ B := (ne_of_none eB0 hL0).symm
      refine ⟨_, rfl, _, rfl, _, _, rfl, rfl, B, _, n, rfl, by omega, by omega, hB.kept (D := fun _ => False) (Kept.of s1) (fun z => z), by omega, fun H2 r r0 r1 k2 hB2 => ?_⟩
      refine ⟨r, rfl, by omega, by omega, ?_⟩
      refine for_range (lo := 0) (n := r.toNat) (fun i σ H' => ∃ v5 ls ts, σ = σ9 mk (some (.ref L)) v5 none none none ∧ Kept H H' (· = B) ∧ Bag H' B (n + 1 + 3 * i) ∧ H' L = some (.lst ts) ∧ RowAt wV H' ts ls ∧ ls.length = i ∧ ∀ l ∈ ls, l.1 ≤ 2 * c.h ∧ wOk c.b l.2)
        ⟨_, [], [], rfl, (Kept.of s1).trans k2, hB2, k2 _ _ hL1 nLB, .nil, rfl, (fun _ z => by cases z)⟩ ?_ ?_
      · rintro i σ H3 hi ⟨v5, ls, ts, rfl, k3, hB3, e3, t3, len3, al3⟩
        have hi6 : i < 7 := by omega
        refine ⟨_, rfl, .inl ⟨rfl, _, SqL.of e3⟩, _, rfl, _, rfl, B, _, _, rfl, by omega, by omega, hB3, by omega, fun H4 m m0 m1 k4 hB4 => ?_⟩
        refine ⟨_, rfl, _, rfl, B, _, _, rfl, by omega, by omega, hB4, by omega, fun H5 v v0 v1 k5 hB5 => ⟨by show 2 ≤ sizeLine; decide, fun q hq => ?_⟩⟩
        obtain ⟨_, _, _, eB5, _⟩ := id hB5
        have nqB : q ≠ B := (ne_of_none eB5 hq).symm
        refine ⟨_, rfl, B, 2, _, rfl, by decide, by decide, hB5.kept (D := fun _ => False) (Kept.of (Same.new hq)) (fun z => z), by omega, fun H6 d d0 d1 k6 hB6 => ?_⟩
        have eq6 := k6 _ _ (upd_same (H := H5) (a := q) (o := .lst [V.non, V.int v])) nqB
        refine ⟨q, _, d, _, rfl, rfl, SqL.of eq6, two_at d0 d1, by show 2 ≤ sizeLine; decide, fun t ht => ?_⟩
        rw [drawn_V]
        have kk : Kept H3 H6 (· = B) := ((k4.trans k5).trans (Kept.of (Same.new hq))).trans k6
        have nt3 : NoTup H3 (· = B) := hB3.soft
        have e6 := kk _ _ e3 nLB
        have s7 : Same H6 (upd H6 t (.tup [.int m, wV (drawn d v)])) := Same.new ht
        have k7 : Kept H (upd H6 t (.tup [.int m, wV (drawn d v)])) (· = B) := (k3.trans kk).trans (Kept.of s7)
        have e7 := s7 _ _ e6
        have t7 := (t3.kept kk nt3).same s7
        have hB7 := hB6.kept (D := fun _ => False) (Kept.of s7) (fun z => z)
        have et : upd H6 t (.tup [.int m, wV (drawn d v)]) t = some (.tup [.int m, wV (drawn d v)]) := upd_same
        generalize upd H6 t (.tup [.int m, wV (drawn d v)]) = H7 at k7 e7 t7 hB7 et ⊢
        obtain ⟨mn, rfl⟩ : ∃ mn : Nat, m = mn := ⟨m.toNat, by omega⟩
        have nt7 : NoTup H7 (· = L) := no_tup1 e7 rfl
        refine ⟨L, _, _, rfl, rfl, e7, ?_, ?_⟩
        · rw [t7.length]; omega
        · refine ⟨_, ls ++ [(mn, drawn d v)], _, rfl, k7.updO (.inr hL0), (hB7.kept (D := (· = L)) (Kept.upd rfl) nLB.symm).mono (by omega), upd_same, (t7.append (.cons ⟨t, rfl, et⟩ .nil)).kept (D := (· = L)) (Kept.upd rfl) nt7, by rw [List.length_append, len3]; rfl, fun l hl => ?_⟩
          rcases List.mem_append.mp hl with hl | hl
          · exact al3 l hl
          · rw [List.mem_singleton.mp hl]
            exact ⟨by show mn ≤ 2 * c.h; omega, drawn_ok v0 v1⟩
      · rintro σ H3 ⟨v5, ls, ts, rfl, k3, hB3, e3, t3, len3, al3⟩
        exact hnx _ _ ⟨L, v5, ls, ts, rfl, nLB, k3, hB3.mono (by omega), e3, t3, by omega, al3⟩
    -- the echoes
    refine blk_cons (fun σ H' => ∃ L v5 ls ts M es us, σ = σ9 mk (some (.ref L)) v5 (some (.ref M)) none none ∧ L ≠ B ∧ M ≠ B ∧ Kept H H' (· = B) ∧ Bag H' B (n + 32) ∧ H' L = some (.lst ts) ∧ RowAt wV H' ts ls ∧ ls.length ≤ c.h ∧ (∀ l ∈ ls, l.1 ≤ 2 * c.h ∧ wOk c.b l.2) ∧
        H' M = some (.lst us) ∧ RowAt bV H' us es ∧ es.length ≤ c.h ∧ ∀ e ∈ es, e.1 ≤ 2 * c.h)
      ⟨_, ps_setLc (i := 6) (own := [("_law_turn", 5)]) (g := gName 5) (tt := tYes) rfl scLStore.nd rfl rfl (sw_true rfl rfl rfl (by decide +kernel)) (pi_range1 (by rfl) (T.b 8) (pa_cons (pe_call GW hr rfl mW kW bW .nil pass0 (pa_cons (pv 0) (pa_cons (pe_op op_add (pv 1) pe_int) pa_nil))) pa_nil)) (blkOk_by (own := [("_law_turn", 5)]) (N := nLStore) (sc := defScope sLStore) (by decide +kernel))
        (fun _ _ _ _ _ => pg_name (i := 5) scLStore.nd rfl (Or.inl rfl)) (fun _ _ _ _ _ => pts_nil) (fun _ _ _ _ _ => pe_tup (pa_cons (pe_call GW hr rfl mW kW bW .nil pass0 (pa_cons (pv 0) (pa_cons (pv 3) pa_nil))) (pa_cons (pe_call GW hr rfl mW kW bW .nil pass0 (pa_cons (pv 0) (pa_cons pe_int pa_nil))) pa_nil))), ?_⟩ ?_
    · rintro nx bk ct σ H1 hnx ⟨L, v5, ls, ts, rfl, nLB, k1, hB1', e1, t1, len1, al1⟩
      have nt1 : NoTup H1 (· = B) := hB1'.soft
      refine ⟨_, rfl, _, rfl, _, _, rfl, rfl, B, _, _, rfl, by omega, by omega, hB1', by omega, fun H2 r r0 r1 k2 hB2 => ?_⟩
      refine ⟨r, rfl, by omega, by omega, fun D hD => ?_⟩
      obtain ⟨_, _, _, eB2, _⟩ := id hB2
      have nDB : D ≠ B := (ne_of_none eB2 hD).symm
      have nDL : D ≠ L := (ne_of_none (k2 _ _ e1 nLB) hD).symm
      have hD1 : H1 D = none := k2.free hD fun o z => absurd z nDB
      refine walk_range (fun i H3 => Kept H1 H3 (· = B) ∧ Bag H3 B (n + 20 + 2 * i) ∧ ∃ es us, H3 D = some (.lst us) ∧ RowAt bV H3 us es ∧ es.length = i ∧ ∀ e ∈ es, e.1 ≤ 2 * c.h)
        ⟨k2.new hD, (hB2.kept (D := fun _ => False) (Kept.of (Same.new hD)) (fun z => z)).mono (by omega), [], [], upd_same, .nil, rfl, (fun _ z => by cases z)⟩ ?_ ?_
      · rintro i H3 hi ⟨k3, hB3, es, us, e3, t3, len3, al3⟩
        have hi6 : i < 7 := by omega
        refine ⟨rfl, _, rfl, _, rfl, B, _, _, rfl, by omega, by omega, hB3, by omega, fun H4 m m0 m1 k4 hB4 => ?_⟩
        refine ⟨_, rfl, B, 2, _, rfl, by decide, by decide, hB4, by omega, fun H5 d d0 d1 k5 hB5 => ⟨by show 2 ≤ sizeLine; decide, fun t ht => ?_⟩⟩
        rw [bit_of d0 d1]
        obtain ⟨mn, rfl⟩ : ∃ mn : Nat, m = mn := ⟨m.toNat, by omega⟩
        have kk : Kept H3 H5 (· = B) := k4.trans k5
        have s6 : Same H5 (upd H5 t (.tup [.int mn, bV (decide (d = 1))])) := Same.new ht
        have e6 := s6 _ _ (kk _ _ e3 nDB)
        have t6 := (t3.kept kk hB3.soft).same s6
        have k6 := (k3.trans kk).trans (Kept.of s6)
        have hB6 := hB5.kept (D := fun _ => False) (Kept.of s6) (fun z => z)
        have et : upd H5 t (.tup [.int mn, bV (decide (d = 1))]) t = some (.tup [.int mn, bV (decide (d = 1))]) := upd_same
        generalize upd H5 t (.tup [.int mn, bV (decide (d = 1))]) = H6 at e6 t6 k6 hB6 et ⊢
        have nt6 : NoTup H6 (· = D) := no_tup1 e6 rfl
        refine ⟨_, e6, by rw [t6.length]; omega, k6.updO (.inr hD1), (hB6.kept (D := (· = D)) (Kept.upd rfl) nDB.symm).mono (by omega), es ++ [(mn, decide (d = 1))], _, upd_same, (t6.append (.cons ⟨t, rfl, et⟩ .nil)).kept (D := (· = D)) (Kept.upd rfl) nt6, by rw [List.length_append, len3]; rfl, fun e he => ?_⟩
        rcases List.mem_append.mp he with he | he
        · exact al3 e he
        · rw [List.mem_singleton.mp he]
          show mn ≤ 2 * c.h
          omega
      · rintro H3 ⟨k3, hB3, es, us, e3, t3, len3, al3⟩
        exact hnx _ _ ⟨L, v5, ls, ts, D, es, us, rfl, nLB, nDB, k1.trans k3, hB3.mono (by omega), k3 _ _ e1 nLB, t1.kept k3 nt1, len1, al1, e3, t3, by omega, al3⟩
    -- the two words
    refine blk_cons (fun σ H' => ∃ L v5 ls ts M es us N x y, σ = σ9 mk (some (.ref L)) v5 (some (.ref M)) (some (.ref N)) none ∧ L ≠ B ∧ M ≠ B ∧ N ≠ B ∧ Kept H H' (· = B) ∧ Bag H' B (n + 36) ∧ H' L = some (.lst ts) ∧ RowAt wV H' ts ls ∧ ls.length ≤ c.h ∧ (∀ l ∈ ls, l.1 ≤ 2 * c.h ∧ wOk c.b l.2) ∧
        H' M = some (.lst us) ∧ RowAt bV H' us es ∧ es.length ≤ c.h ∧ (∀ e ∈ es, e.1 ≤ 2 * c.h) ∧ H' N = some (.lst [wV x, wV y]) ∧ wOk c.b x ∧ wOk c.b y)
      ⟨_, ps_setLc (i := 7) (own := [("_law_turn", 5)]) (g := gName 5) (tt := tYes) rfl scLStore.nd rfl rfl (sw_true rfl rfl rfl (by decide +kernel)) (pi_range1 (by rfl) (T.b 8) (pa_cons pe_int pa_nil)) (blkOk_by (own := [("_law_turn", 5)]) (N := nLStore) (sc := defScope sLStore) (by decide +kernel))
        (fun _ _ _ _ _ => pg_name (i := 5) scLStore.nd rfl (Or.inl rfl)) (fun _ _ _ _ _ => pts_nil) (fun _ _ _ _ _ => pe_ix (r := rIxL K) ix_list (pe_lst (pa_cons pe_non (pa_cons (pe_call GW hr rfl mW kW bW .nil pass0 (pa_cons (pv 0) (pa_cons (pv 2) pa_nil))) pa_nil))) (pe_call GW hr rfl mW kW bW .nil pass0 (pa_cons (pv 0) (pa_cons pe_int pa_nil))) (fun _ _ => rfl)), ?_⟩ ?_
    · rintro nx bk ct σ H1 hnx ⟨L, v5, ls, ts, M, es, us, rfl, nLB, nMB, k1, hB1', e1, t1, len1, al1, f1, u1, len2, al2⟩
      have nt1 : NoTup H1 (· = B) := hB1'.soft
      refine ⟨2, rfl, by decide, by decide, fun D hD => ?_⟩
      obtain ⟨_, _, _, eB1, _⟩ := id hB1'
      have nDB : D ≠ B := (ne_of_none eB1 hD).symm
      refine walk_range (n := 2) (fun i H3 => Kept H1 H3 (· = B) ∧ Bag H3 B (n + 32 + 2 * i) ∧ ∃ xs : List (Option Int), H3 D = some (.lst (xs.map wV)) ∧ xs.length = i ∧ ∀ x ∈ xs, wOk c.b x)
        ⟨(Kept.of (Same.new hD)), hB1'.kept (D := fun _ => False) (Kept.of (Same.new hD)) (fun z => z), [], upd_same, rfl, (fun _ z => by cases z)⟩ ?_ ?_
      · rintro i H3 hi ⟨k3, hB3, xs, e3, len3, al3⟩
        refine ⟨rfl, _, rfl, _, rfl, B, _, _, rfl, by omega, by omega, hB3, by omega, fun H4 v v0 v1 k4 hB4 => ⟨by show 2 ≤ sizeLine; decide, fun q hq => ?_⟩⟩
        obtain ⟨_, _, _, eB4, _⟩ := id hB4
        have nqB : q ≠ B := (ne_of_none eB4 hq).symm
        refine ⟨_, rfl, B, 2, _, rfl, by decide, by decide, hB4.kept (D := fun _ => False) (Kept.of (Same.new hq)) (fun z => z), by omega, fun H5 d d0 d1 k5 hB5 => ?_⟩
        have eq5 := k5 _ _ (upd_same (H := H4) (a := q) (o := .lst [V.non, V.int v])) nqB
        refine ⟨q, _, d, _, rfl, rfl, SqL.of eq5, two_at d0 d1, ?_⟩
        rw [drawn_V]
        have kk : Kept H3 H5 (· = B) := (k4.new hq).trans k5
        refine ⟨_, kk _ _ e3 nDB, by rw [List.length_map]; omega, (k3.trans kk).updO (.inr hD), (hB5.kept (D := (· = D)) (Kept.upd rfl) nDB.symm).mono (by omega), xs ++ [drawn d v], by rw [upd_same, List.map_append]; rfl, by rw [List.length_append, len3]; rfl, fun x hx => ?_⟩
        rcases List.mem_append.mp hx with hx | hx
        · exact al3 x hx
        · rw [List.mem_singleton.mp hx]; exact drawn_ok v0 v1
      · rintro H3 ⟨k3, hB3, xs, e3, len3, al3⟩
        obtain ⟨x, y, rfl⟩ : ∃ x y, xs = [x, y] := by
          match xs, len3 with
          | [x, y], _ => exact ⟨x, y, rfl⟩
        exact hnx _ _ ⟨L, v5, ls, ts, M, es, us, D, x, y, rfl, nLB, nMB, nDB, k1.trans k3, hB3.mono (by omega), k3 _ _ e1 nLB, t1.kept k3 nt1, len1, al1, k3 _ _ f1 nMB, u1.kept k3 nt1, len2, al2, e3, al3 x (by simp), al3 y (by simp)⟩
    -- the front half
    refine blk_cons (fun σ H' => ∃ L v5 ls ts M es us N x y F2 m0 m1 la, σ = σ9 mk (some (.ref L)) v5 (some (.ref M)) (some (.ref N)) (some (.ref F2)) ∧ M ≠ B ∧ N ≠ B ∧ Kept H H' (· = B) ∧ Bag H' B (n + 38) ∧ H' la = some (.tup ts) ∧ RowAt wV H' ts ls ∧ ls.length ≤ c.h ∧ (∀ l ∈ ls, l.1 ≤ 2 * c.h ∧ wOk c.b l.2) ∧
        H' M = some (.lst us) ∧ RowAt bV H' us es ∧ es.length ≤ c.h ∧ (∀ e ∈ es, e.1 ≤ 2 * c.h) ∧ H' N = some (.lst [wV x, wV y]) ∧ wOk c.b x ∧ wOk c.b y ∧ m0 ≤ 2 * c.h ∧ H' F2 = some (.tup [.int (m0 : Nat), bV m1, wV x, .ref la]))
      ⟨_, ps_set (i := 8) scLStore.nd rfl (.inl rfl) (pe_tup (pa_cons (pe_call GW hr rfl mW kW bW .nil pass0 (pa_cons (pv 0) (pa_cons (pv 3) pa_nil))) (pa_cons (pe_call GW hr rfl mW kW bW .nil pass0 (pa_cons (pv 0) (pa_cons pe_int pa_nil))) (pa_cons (pe_ix ix_list (pv 7) pe_int (fun _ _ => rfl)) (pa_cons (pe_callTy call_tuple_of (by rfl) (T.b 7) (by decide +kernel) (pa_cons (pv 4) pa_nil)) pa_nil))))), ?_⟩ ?_
    · rintro nx bk ct σ H1 hnx ⟨L, v5, ls, ts, M, es, us, N, x, y, rfl, nLB, nMB, nNB, k1, hB1', e1, t1, len1, al1, f1, u1, len2, al2, g1, wx, wy⟩
      refine ⟨_, rfl, _, rfl, B, _, _, rfl, by omega, by omega, hB1', by omega, fun H2 m m0 m1 k2 hB2 => ?_⟩
      refine ⟨_, rfl, B, 2, _, rfl, by decide, by decide, hB2, by omega, fun H3 d d0 d1 k3 hB3 => ?_⟩
      have kk := k2.trans k3
      have nt1 : NoTup H1 (· = B) := hB1'.soft
      refine ⟨_, rfl, N, _, 0, _, rfl, rfl, SqL.of (kk _ _ g1 nNB), atI_nat (j := 0) rfl, _, rfl, L, ts, rfl, .inl ⟨SqL.of (kk _ _ e1 nLB), fun la hla => ⟨by show 4 ≤ sizeLine; decide, fun t ht => ?_⟩⟩⟩
      rw [bit_of d0 d1]
      obtain ⟨mn, rfl⟩ : ∃ mn : Nat, m = mn := ⟨m.toNat, by omega⟩
      have s4 : Same H3 (upd (upd H3 la (.tup ts)) t (.tup [.int mn, bV (decide (d = 1)), wV x, .ref la])) := (Same.new hla).trans (Same.new ht)
      refine hnx _ _ ⟨L, v5, ls, ts, M, es, us, N, x, y, t, mn, decide (d = 1), la, rfl, nMB, nNB, (k1.trans kk).trans (Kept.of s4), (hB3.kept (D := fun _ => False) (Kept.of s4) (fun z => z)).mono (by omega), ?_, (t1.kept kk nt1).same s4, len1, al1, s4 _ _ (kk _ _ f1 nMB), (u1.kept kk nt1).same s4, len2, al2, s4 _ _ (kk _ _ g1 nNB), wx, wy, by omega, upd_same⟩
      rw [upd_ne (ne_of_none upd_same ht), upd_same]
    -- the whole
    refine blk_one ⟨_, ps_ret (pe_op op_catT (pv 8) (pe_tup (pa_cons (pe_call GW hr rfl mW kW bW .nil pass0 (pa_cons (pv 0) (pa_cons (pv 3) pa_nil))) (pa_cons (pe_call GW hr rfl mW kW bW .nil pass0 (pa_cons (pv 0) (pa_cons pe_int pa_nil))) (pa_cons (pe_ix ix_list (pv 7) pe_int (fun _ _ => rfl)) (pa_cons (pe_callTy call_tuple_of (by rfl) (T.b 7) (by decide +kernel) (pa_cons (pv 6) pa_nil)) pa_nil)))))), ?_⟩
    rintro nx bk ct σ H1 hnx ⟨L, v5, ls, ts, M, es, us, N, x, y, F2, m0, m1, la, rfl, nMB, nNB, k1, hB1', e1, t1, len1, al1, f1, u1, len2, al2, g1, wx, wy, hm0, eF⟩
    refine ⟨_, rfl, _, rfl, _, rfl, B, _, _, rfl, by omega, by omega, hB1', by omega, fun H2 m p0 p1 k2 hB2 => ?_⟩
    refine ⟨_, rfl, B, 2, _, rfl, by decide, by decide, hB2, by omega, fun H3 d d0 d1 k3 hB3 => ?_⟩
    have kk := k2.trans k3
    have nt1 : NoTup H1 (· = B) := hB1'.soft
    have noTB : ∀ {q : Addr} {xs : List V}, H1 q = some (.tup xs) → H3 q = some (.tup xs) := fun {q xs} e => kk _ _ e fun z => by cases nt1 _ _ z e
    refine ⟨_, rfl, N, _, 1, _, rfl, rfl, SqL.of (kk _ _ g1 nNB), atI_nat (j := 1) rfl, _, rfl, M, us, rfl, .inl ⟨SqL.of (kk _ _ f1 nMB), fun ea hea => ⟨by show 4 ≤ sizeLine; decide, fun t ht => ?_⟩⟩⟩
    rw [bit_of d0 d1]
    obtain ⟨mn, rfl⟩ : ∃ mn : Nat, m = mn := ⟨m.toNat, by omega⟩
    have s4 : Same H3 (upd (upd H3 ea (.tup us)) t (.tup [.int mn, bV (decide (d = 1)), wV y, .ref ea])) := (Same.new hea).trans (Same.new ht)
    refine ⟨F2, t, _, _, rfl, rfl, SqT.of (s4 _ _ (noTB eF)), SqT.of upd_same, by simp, by show 4 + 4 ≤ sizeLine; decide, (by intro z; cases z), fun _ r hr' => ?_⟩
    have s5 := s4.trans (Same.new (o := .tup ([.int m0, bV m1, wV x, .ref la] ++ [.int mn, bV (decide (d = 1)), wV y, .ref ea])) hr')
    refine k _ r ⟨m0, m1, x, ls, mn, decide (d = 1), y, es⟩ ((k1.trans kk).trans (Kept.of s5)) ((hB3.kept (D := fun _ => False) (Kept.of s5) (fun z => z)).mono (by omega)) ⟨la, ea, ts, us, upd_same, s5 _ _ (noTB e1), ?_, (t1.kept kk nt1).same s5, (u1.kept kk nt1).same s5⟩ ⟨hm0, by show mn ≤ 2 * c.h; omega, wx, wy, len1, len2, al1, al2⟩
    exact Same.new hr' _ _ (by rw [upd_ne (ne_of_none upd_same ht), upd_same])
end
end Wk
namespace Wk
open PySem L2 Ru
/-! ### blocks by an index (a loop's body) -/
def BlkI {ι : Type} (X : Cx) (Q : VK) (B : List Stmt) (Pre Post : ι → L2.St → Hp → Prop) : Prop := ∃ t, PSs X B t ∧ ∀ (i : ι) (nx bk ct : L2.St → Hp → Prop) (σ : L2.St) (H : Hp), (∀ σ' H', Post i σ' H' → nx σ' H') → Pre i σ H → t { nx := nx, rt := Q, bk := bk, ct := ct } σ H
def StpI {ι : Type} (X : Cx) (Q : VK) (st : Stmt) (Pre Post : ι → L2.St → Hp → Prop) : Prop := ∃ t, PS X st t ∧ ∀ (i : ι) (nx bk ct : L2.St → Hp → Prop) (σ : L2.St) (H : Hp), (∀ σ' H', Post i σ' H' → nx σ' H') → Pre i σ H → t { nx := nx, rt := Q, bk := bk, ct := ct } σ H
theorem blkI_cons {ι : Type} {X : Cx} {Q : VK} {st : Stmt} {rest : List Stmt} {Pre Post : ι → L2.St → Hp → Prop} (Mid : ι → L2.St → Hp → Prop) (h1 : StpI X Q st Pre Mid) (h2 : BlkI X Q rest Mid Post) : BlkI X Q (st :: rest) Pre Post := by
  obtain ⟨t, p1, r1⟩ := h1
  obtain ⟨u, p2, r2⟩ := h2
  exact ⟨tSeq t u, pss_cons p1 p2, fun i nx bk ct σ H hn hp => r1 i _ bk ct σ H (fun σ' H' m => r2 i nx bk ct σ' H' hn m) hp⟩
theorem blkI_one {ι : Type} {X : Cx} {Q : VK} {st : Stmt} {Pre Post : ι → L2.St → Hp → Prop} (h1 : StpI X Q st Pre Post) : BlkI X Q [st] Pre Post := by
  obtain ⟨t, p1, r1⟩ := h1
  exact ⟨t, pss_one p1, r1⟩
/-- the i-th statement of a block; a loop's body -/
def stAt (b : List Stmt) (i : Nat) : Stmt := b.getD i (.Pass ⟨0, 0, 0, 0⟩)
def loopBody (s : Stmt) : List Stmt := match s with
  | .For _ _ b _ _ => b
  | _ => []
/-- two numbers -/
abbrev two (a b : Nat) : HO := .lst [.int a, .int b]
theorem two_get {a b i : Nat} (h : i < 2) : atI [V.int (a : Int), V.int (b : Int)] (i : Int) = some (.int ((if i = 0 then a else b : Nat) : Int)) := by
  have : i = 0 ∨ i = 1 := by omega
  rcases this with rfl | rfl <;> rfl
/-- what B or R -/
def BR (B R : Addr) (q : Addr) : Prop := q = B ∨ q = R
section
variable {P : Program} {w : World} {K : PySem.W.Frag} {mg : Str → Option Value} {base : Heap} {C f : Addr} {fd : FuncData}
/-! ### what is lost, drawn -/
def spGone : Sp := fun vs H Q _ => ∃ (B R : Addr) (g fl fe n : Nat) (ans : Bool), vs = [.ref B, .ref R, .int g, .bl ans] ∧ Bag H B n ∧ n ≤ 90000 ∧ B ≠ R ∧ H R = some (two fl fe) ∧
  ∀ (H' : Hp) (r : Addr) (l1 l2 : Bool), (l1 = true → fl + 1 < g) → (l2 = true → fe + 1 < g) → Kept H H' (BR B R) → Bag H' B (n + 2) → H' R = some (two (if l1 then fl + 1 else 0) (if ans then (if l2 then fe + 1 else 0) else fe)) → H' r = some (.tup [.bl l1, .bl l2]) → Q (.ref r) H'
abbrev nGone : List Str := ["_law_bag_here", "_law_runs", "_law_gap", "_law_is_answered", "_law_found", "_law_k", "_law_is_less"]
theorem scGone : FnScope nGone ["_law_bag_here", "_law_runs", "_law_gap", "_law_is_answered"] (defScope sGone) := ⟨rfl, rfl, rfl, by decide +kernel, rfl, by decide +kernel, by decide +kernel⟩
theorem ok_gone (F : Fun K "_law_gone" "_law_gone" sGone f fd) (T : Txt K mg C) (W : Has P w K mg base 1 "_law_take" ["_law_bag_here", "_law_many"] spTake) : FnOk P w K mg base CX0 2 f fd ["_law_bag_here", "_law_runs", "_law_gap", "_law_is_answered"] spGone := by
  obtain ⟨fw, fdw, GW, mW, kW, bW⟩ := W.ex
  refine F.ok scGone (fun vs H Q E h => ?_) (fun cdv A outer s H vs Q E hr h => ?_)
  · obtain ⟨B, R, g, fl, fe, n, ans, rfl, _⟩ := h
    rfl
  · obtain ⟨B, R, g, fl, fe, n, ans, rfl, hB, hn, nBR, hR, k⟩ := h
    obtain ⟨_, _, _, eB0, _⟩ := id hB
    let σ7 (x y z : Option V) : L2.St := [some (.ref B), some (.ref R), some (.int g), some (.bl ans), x, y, z]
    refine blk_run (Pre := fun σ H' => σ = σ7 none none none ∧ H' = H) (Post := fun _ _ => False) ?_ (fun _ _ z => z.elim) ⟨rfl, rfl⟩
    refine blk_cons (fun σ H' => ∃ L, σ = σ7 (some (.ref L)) none none ∧ Same H H' ∧ H L = none ∧ H' L = some (.lst [])) ⟨_, ps_set (i := 4) scGone.nd rfl (.inl rfl) (pe_lst pa_nil), ?_⟩ ?_
    · rintro nx bk ct σ H' hnx ⟨rfl, rfl⟩
      exact ⟨Nat.zero_le _, fun L hL => hnx _ _ ⟨L, rfl, Same.new hL, hL, upd_same⟩⟩
    -- the body of the loop, at turn i with the numbers a, b and the truths bs so far
    have body : BlkI (ι := Addr × Nat × Nat × Nat × List Bool) (cxOf CX0 P w K mg base nGone "_law_gone" (defScope sGone) f cdv A outer s H E).nox Q (loopBody (stAt (defBody sGone) 1))
        (fun ix σ H' => ix.2.1 < 2 ∧ ix.2.2.2.2.length = ix.2.1 ∧ H ix.1 = none ∧ Kept H H' (BR B R) ∧ Bag H' B (n + ix.2.1) ∧ H' ix.1 = some (.lst (ix.2.2.2.2.map V.bl)) ∧ H' R = some (two ix.2.2.1 ix.2.2.2.1) ∧ ∃ v6, σ = σ7 (some (.ref ix.1)) (some (.int ix.2.1)) v6)
        (fun ix σ H' => ∃ l : Bool, (l = true → (if ix.2.1 = 0 then ix.2.2.1 else ix.2.2.2.1) + 1 < g) ∧ Kept H H' (BR B R) ∧ Bag H' B (n + ix.2.1 + 1) ∧ H' ix.1 = some (.lst ((ix.2.2.2.2 ++ [l]).map V.bl)) ∧
          H' R = some (if ix.2.1 = 0 then two (if l then ix.2.2.1 + 1 else 0) ix.2.2.2.1 else if ans then two ix.2.2.1 (if l then ix.2.2.2.1 + 1 else 0) else two ix.2.2.1 ix.2.2.2.1) ∧ ∃ v5 v6, σ = σ7 (some (.ref ix.1)) v5 v6) := by
      refine blkI_cons (fun ix σ H' => ∃ l : Bool, (l = true → (if ix.2.1 = 0 then ix.2.2.1 else ix.2.2.2.1) + 1 < g) ∧ ix.2.1 < 2 ∧ ix.2.2.2.2.length = ix.2.1 ∧ H ix.1 = none ∧ Kept H H' (BR B R) ∧ Bag H' B (n + ix.2.1 + 1) ∧ H' ix.1 = some (.lst (ix.2.2.2.2.map V.bl)) ∧ H' R = some (two ix.2.2.1 ix.2.2.2.1) ∧ σ = σ7 (some (.ref ix.1)) (some (.int ix.2.1)) (some (.bl l)))
        ⟨_, ps_set (i := 6) scGone.nd rfl (.inl rfl) (pe_and (pe_cmpR op_lt (pe_op op_add (pe_ix ix_list (pv 1) (pv 5) (fun _ _ => rfl)) pe_int) (pv 2) (nomark _)) (pe_one (pe_cmpR op_gt (pe_call GW hr rfl mW kW bW .nil pass0 (pa_cons (pv 0) (pa_cons pe_int pa_nil))) pe_int (nomark _)))), ?_⟩ ?_
      · rintro ⟨L, i, a, b, bs⟩ nx bk ct σ H' hnx ⟨hi, hlen, hL, k1, hB1, e1, eR, v6, rfl⟩
        refine ⟨_, rfl, _, rfl, R, _, _, _, rfl, rfl, SqL.of eR, two_get hi, _, _, rfl, rfl, _, rfl, _, _, rfl, rfl, _, rfl, ?_⟩
        by_cases hlt : (((if i = 0 then a else b : Nat) : Int) + 1 < (g : Int))
        · refine iteET (decide_eq_true hlt) ⟨_, rfl, B, 3, _, rfl, by decide, by decide, hB1, by omega, fun H2 r r0 r1 k2 hB2 => ⟨_, _, rfl, rfl, ?_⟩⟩
          obtain ⟨_, _, _, eB1, _⟩ := id hB1
          have nLB : L ≠ B := (ne_of_none eB0 hL).symm
          exact hnx _ _ ⟨_, fun _ => by show (if i = 0 then a else b) + 1 < g; omega, hi, hlen, hL, k1.trans (k2.mono fun q e => .inl e), hB2, k2 _ _ e1 nLB, k2 _ _ eR nBR.symm, rfl⟩
        · exact iteEF (decide_eq_false hlt) (hnx _ _ ⟨false, fun z => (by cases z), hi, hlen, hL, k1, hB1.mono (by show n + i ≤ n + i + 1; omega), e1, eR, rfl⟩)
      refine blkI_cons (fun ix σ H' => ∃ l : Bool, (l = true → (if ix.2.1 = 0 then ix.2.2.1 else ix.2.2.2.1) + 1 < g) ∧ ix.2.1 < 2 ∧ H ix.1 = none ∧ Kept H H' (BR B R) ∧ Bag H' B (n + ix.2.1 + 1) ∧ H' ix.1 = some (.lst ((ix.2.2.2.2 ++ [l]).map V.bl)) ∧ H' R = some (two ix.2.2.1 ix.2.2.2.1) ∧ σ = σ7 (some (.ref ix.1)) (some (.int ix.2.1)) (some (.bl l)))
        ⟨_, ps_expr (pe_bm PySem.F.plainAttrs_list PySem.F.slot_list_append PySem.F.type_list_append mt_append (pv 4) (pa_cons (pv 6) pa_nil)), ?_⟩ ?_
      · rintro ⟨L, i, a, b, bs⟩ nx bk ct σ H' hnx ⟨l, hl, hi, hlen, hL, k1, hB1, e1, eR, rfl⟩
        have nLB : L ≠ B := (ne_of_none eB0 hL).symm
        have nLR : L ≠ R := (ne_of_none hR hL).symm
        have l9 : (9 : Nat) < sizeLine := by decide
        have hlen' : bs.length = i := hlen
        have hi' : i < 2 := hi
        refine ⟨_, rfl, .inl ⟨rfl, _, SqL.of e1⟩, _, rfl, L, _, _, rfl, rfl, e1, ?_, hnx _ _ ⟨l, hl, hi, hL, k1.updO (.inr hL), hB1.kept (D := (· = L)) (Kept.upd rfl) nLB.symm, ?_, ?_, rfl⟩⟩
        · rw [List.length_map]; show bs.length < sizeLine; omega
        · rw [upd_same, List.map_append]; rfl
        · rw [upd_ne nLR.symm]; exact eR
      refine blkI_one ⟨_, ps_if (PW.pt (pw_or (pt_cmpR op_eq (pv 5) pe_int (nomark _)) (pw_or1 (pt_val (pv 3))))) (pss_one (ps_asg (pe_ifExp (pt_val (pv 6)) (pe_op op_add (pe_ix ix_list (pv 1) (pv 5) (fun _ _ => rfl)) pe_int) pe_int) (pg_sub (pv 1) (pv 5) set_list))) pss_nil, ?_⟩
      rintro ⟨L, i, a, b, bs⟩ nx bk ct σ H' hnx ⟨l, hl, hi, hL, k1, hB1, e1, eR, rfl⟩
      have nLR : L ≠ R := (ne_of_none hR hL).symm
      -- the store
      have put : ∀ (v : Nat), (if l then (if i = 0 then a else b) + 1 else 0) = v → ∃ p xs k j, V.ref R = .ref p ∧ V.int (i : Int) = .int k ∧ H' p = some (.lst xs) ∧ ixN xs.length k = some j ∧ ((i = 0 ∨ ans = true) → nx (σ7 (some (.ref L)) (some (.int i)) (some (.bl l))) (upd H' p (.lst (xs.set j (.int v))))) := by
        intro v hv
        have hi' : i = 0 ∨ i = 1 := by have : i < 2 := hi; omega
        refine ⟨R, _, i, i, rfl, rfl, eR, by rcases hi' with rfl | rfl <;> rfl, fun ha => hnx _ _ ⟨l, hl, k1.updO (.inl (.inr rfl)), hB1.kept (D := (· = R)) (Kept.upd rfl) nBR, by rw [upd_ne nLR]; exact e1, ?_, _, _, rfl⟩⟩
        rw [upd_same]
        rcases hi' with rfl | rfl
        · rw [← hv]; rfl
        · rcases ha with z | z
          · cases z
          · rw [z, ← hv]; rfl
      have store : ∀ (c1 : i = 0 ∨ ans = true), tAsg (tIf (tB (tVar 6)) (tOp (rI0 fun i j => .int (i + j)) (tOp (rIxL K) (tVar 1) (tVar 5)) (tC (.int 1))) (tC (.int 0))) (gSub (tVar 1) (tVar 5) rSetL) { nx := nx, rt := Q, bk := bk, ct := ct } (σ7 (some (.ref L)) (some (.int i)) (some (.bl l))) H' := by
        intro c1
        refine ⟨_, rfl, l, rfl, ?_⟩
        cases l with
        | true =>
          obtain ⟨p, xs, q, j, h1, h2, h3, h4, h5⟩ := put ((if i = 0 then a else b) + 1) rfl
          exact iteT ⟨_, rfl, _, rfl, R, _, _, _, rfl, rfl, SqL.of eR, two_get hi, _, _, rfl, rfl, _, rfl, _, rfl, p, xs, q, j, h1, h2, h3, h4, h5 c1⟩
        | false =>
          obtain ⟨p, xs, q, j, h1, h2, h3, h4, h5⟩ := put 0 rfl
          exact iteF ⟨_, rfl, _, rfl, p, xs, q, j, h1, h2, h3, h4, h5 c1⟩
      refine ⟨_, rfl, scal_nat _ _, _, rfl, ?_⟩
      rw [show decide (V.int (i : Int) = V.int 0) = (i == 0) from dec_nat i 0]
      cases hi0 : (i == 0) with
      | true => exact iteT (iteT (store (.inl (by simpa using hi0))))
      | false =>
        have ni : ¬ i = 0 := by simpa using hi0
        refine iteF ⟨_, rfl, ans, rfl, ?_⟩
        cases ha : (id ans : Bool) with
        | true => exact iteET ha (store (.inr ha))
        | false =>
          have ha' : ans = false := ha
          refine iteEF ha (hnx _ _ ⟨l, hl, k1, hB1, e1, ?_, _, _, rfl⟩)
          rw [eR]
          show _ = some (if i = 0 then _ else if ans = true then _ else _)
          rw [if_neg ni, ha']; rfl
    obtain ⟨tb, pb, rb⟩ := body
    refine blk_cons (fun σ H' => ∃ L l1 l2 v5 v6, (l1 = true → fl + 1 < g) ∧ (l2 = true → fe + 1 < g) ∧ σ = σ7 (some (.ref L)) v5 v6 ∧ Kept H H' (BR B R) ∧ Bag H' B (n + 2) ∧ H' L = some (.lst [.bl l1, .bl l2]) ∧ H' R = some (two (if l1 then fl + 1 else 0) (if ans then (if l2 then fe + 1 else 0) else fe)))
      ⟨_, ps_for PassesOwn.never rfl (pi_range1 (by rfl) (T.b 8) (pa_cons pe_int pa_nil)) (pg_name (i := 5) scGone.nd rfl (.inl rfl)) pb, ?_⟩ ?_
    · rintro nx bk ct σ H' hnx ⟨L, rfl, s1, hL, e1⟩
      refine ⟨2, rfl, by decide, by decide, ?_⟩
      refine for_range (lo := 0) (n := 2) (fun i σ H' => (∃ v5 v6, σ = σ7 (some (.ref L)) v5 v6) ∧ Kept H H' (BR B R) ∧ Bag H' B (n + i) ∧
          ((i = 0 ∧ H' L = some (.lst []) ∧ H' R = some (two fl fe)) ∨ (i = 1 ∧ ∃ l1, (l1 = true → fl + 1 < g) ∧ H' L = some (.lst [.bl l1]) ∧ H' R = some (two (if l1 then fl + 1 else 0) fe)) ∨
            (i = 2 ∧ ∃ l1 l2, (l1 = true → fl + 1 < g) ∧ (l2 = true → fe + 1 < g) ∧ H' L = some (.lst [.bl l1, .bl l2]) ∧ H' R = some (two (if l1 then fl + 1 else 0) (if ans then (if l2 then fe + 1 else 0) else fe)))))
        ⟨⟨_, _, rfl⟩, Kept.of s1, hB.kept (D := fun _ => False) (Kept.of s1) (fun z => z), .inl ⟨rfl, e1, s1 _ _ hR⟩⟩ ?_ ?_
      · rintro i σ H2 hi ⟨⟨v5, v6, rfl⟩, k2, hB2, h⟩
        show tb _ (σ7 (some (.ref L)) (some (.int (0 + (i : Int)))) v6) H2
        rw [Int.zero_add]
        rcases h with ⟨rfl, e2, eR⟩ | ⟨rfl, l1, h1, e2, eR⟩ | ⟨rfl, _⟩
        · refine rb (L, 0, fl, fe, []) _ _ _ _ _ ?_ ⟨Nat.zero_lt_two, rfl, hL, k2, hB2, e2, eR, v6, rfl⟩
          rintro σ' H3 ⟨l, hl, k3, hB3, e3, eR3, v5', v6', rfl⟩
          exact ⟨⟨_, _, rfl⟩, k3, hB3, .inr (.inl ⟨rfl, l, hl, e3, eR3⟩)⟩
        · refine rb (L, 1, _, fe, [l1]) _ _ _ _ _ ?_ ⟨Nat.one_lt_two, rfl, hL, k2, hB2, e2, eR, v6, rfl⟩
          rintro σ' H3 ⟨l, hl, k3, hB3, e3, eR3, v5', v6', rfl⟩
          refine ⟨⟨_, _, rfl⟩, k3, hB3, .inr (.inr ⟨rfl, l1, l, h1, hl, e3, ?_⟩)⟩
          rw [eR3]
          cases ans <;> rfl
        · omega
      · rintro σ H2 ⟨⟨v5, v6, rfl⟩, k2, hB2, h⟩
        rcases h with ⟨z, _⟩ | ⟨z, _⟩ | ⟨_, l1, l2, h1, h2, e2, eR⟩
        · cases z
        · cases z
        · exact hnx _ _ ⟨L, l1, l2, _, _, h1, h2, rfl, k2, hB2, e2, eR⟩
    refine blk_one ⟨_, ps_ret (pe_tup (pa_cons (pe_ix ix_list (pv 4) pe_int (fun _ _ => rfl)) (pa_cons (pe_ix ix_list (pv 4) pe_int (fun _ _ => rfl)) pa_nil))), ?_⟩
    rintro nx bk ct σ H1 hnx ⟨L, l1, l2, v5, v6, h1, h2, rfl, k1, hB1, e1, eR⟩
    refine ⟨_, rfl, L, _, 0, _, rfl, rfl, SqL.of e1, atI_nat (j := 0) rfl, _, rfl, L, _, 1, _, rfl, rfl, SqL.of e1, atI_nat (j := 1) rfl, by show 2 ≤ sizeLine; decide, fun r hr' => ?_⟩
    have s2 := Same.new (o := .tup [.bl l1, .bl l2]) hr'
    exact k _ r l1 l2 h1 h2 (k1.trans (Kept.of s2)) (hB1.kept (D := fun _ => False) (Kept.of s2) (fun z => z)) (s2 _ _ eR) upd_same
/-! ### a habit -/
def spHabit : Sp := fun vs H Q _ => ∃ (B : Addr) (i h : Int) (n : Nat), vs = [.ref B, .int i, .int h] ∧ Bag H B n ∧ n ≤ 90000 ∧ ∀ (H' : Hp) (b : Bool), Kept H H' (· = B) → Bag H' B (n + 1) → Q (.bl b) H'
theorem scHabit : FnScope ["_law_bag_here", "_law_turn", "_law_habit_here"] ["_law_bag_here", "_law_turn", "_law_habit_here"] (defScope sHabit) := ⟨rfl, rfl, rfl, by decide +kernel, rfl, by decide +kernel, by decide +kernel⟩
theorem ok_habit (F : Fun K "_law_habit" "_law_habit" sHabit f fd) (W : Has P w K mg base 1 "_law_take" ["_law_bag_here", "_law_many"] spTake) : FnOk P w K mg base CX0 2 f fd ["_law_bag_here", "_law_turn", "_law_habit_here"] spHabit := by
  obtain ⟨fw, fdw, GW, mW, kW, bW⟩ := W.ex
  refine F.ok scHabit (fun vs H Q E h => ?_) (fun cdv A outer s H vs Q E hr h => ?_)
  · obtain ⟨B, i, h, n, rfl, _⟩ := h
    rfl
  · obtain ⟨B, i, h, n, rfl, hB, hn, k⟩ := h
    have same : ∀ b, Q (.bl b) H := fun b => k H b (fun q o e _ => e) (hB.mono (Nat.le_succ _))
    refine blk_run (Pre := fun σ H' => σ = [some (.ref B), some (.int i), some (.int h)] ∧ H' = H) (Post := fun _ _ => False) ?_ (fun _ _ z => z.elim) ⟨rfl, rfl⟩
    refine blk_cons (fun σ H' => σ = [some (.ref B), some (.int i), some (.int h)] ∧ H' = H) ⟨_, ps_if (pt_cmpR op_eq (pv 2) pe_int (nomark _)) (pss_one (ps_ret pe_bl)) pss_nil, ?_⟩ ?_
    · rintro nx bk ct σ H' hnx ⟨rfl, rfl⟩
      refine ⟨_, rfl, rfl, _, rfl, ite2 (fun _ => same _) fun _ => hnx _ _ ⟨rfl, rfl⟩⟩
    refine blk_cons (fun σ H' => σ = [some (.ref B), some (.int i), some (.int h)] ∧ H' = H) ⟨_, ps_if (pt_cmpR op_eq (pv 2) pe_int (nomark _)) (pss_one (ps_ret (pe_cmpR op_eq (pe_call GW hr rfl mW kW bW .nil pass0 (pa_cons (pv 0) (pa_cons pe_int pa_nil))) pe_int (nomark _)))) pss_nil, ?_⟩ ?_
    · rintro nx bk ct σ H' hnx ⟨rfl, rfl⟩
      refine ⟨_, rfl, rfl, _, rfl, ite2 (fun _ => ?_) fun _ => hnx _ _ ⟨rfl, rfl⟩⟩
      exact ⟨_, rfl, B, 9, n, rfl, by decide, by decide, hB, by omega, fun H2 r r0 r1 k2 hB2 => ⟨rfl, k _ _ k2 hB2⟩⟩
    refine blk_one ⟨_, ps_ret (pe_ifExp (pt_cmpR op_eq (pv 2) pe_int (nomark _)) (pe_cmpR op_eq (pe_op op_mod (pe_op op_fdiv (pv 1) pe_int) pe_int) pe_int (nomark _)) (pe_cmpR op_eq (pe_call GW hr rfl mW kW bW .nil pass0 (pa_cons (pv 0) (pa_cons pe_int pa_nil))) pe_int (nomark _))), ?_⟩
    rintro nx bk ct σ H' hnx ⟨rfl, rfl⟩
    refine ⟨_, rfl, rfl, _, rfl, ite2 (fun _ => ?_) fun _ => ?_⟩
    · exact ⟨_, rfl, _, _, rfl, rfl, ⟨by decide, by decide⟩, _, _, rfl, rfl, (by show (0 : Int) < 2; decide), rfl, same _⟩
    · exact ⟨_, rfl, B, 2, n, rfl, by decide, by decide, hB, by omega, fun H2 r r0 r1 k2 hB2 => ⟨rfl, k _ _ k2 hB2⟩⟩
/-! ### what is lost at a beat -/
def spLost (C : Addr) : Sp := fun vs H Q _ => ∃ (B R p : Addr) (c : Cf) (fl fe n : Nat) (hb : Int) (s : Wy.S) (lp ep : Addr), vs = [.ref B, .ref p, .ref R, .int c.g, .int hb] ∧ Bag H B n ∧ n ≤ 90000 ∧ B ≠ R ∧ H R = some (two fl fe) ∧ WayAt C H p c fl fe s lp ep ∧ lp ≠ B ∧ lp ≠ R ∧ ep ≠ B ∧ ep ≠ R ∧ c.Ok ∧ fl < c.g ∧ fe < c.g ∧
  ∀ (H' : Hp) (r : Addr) (l1 l2 : Bool), (Wy.loses s fl fe (l1, l2)).1 < c.g → (Wy.loses s fl fe (l1, l2)).2 < c.g → Kept H H' (BR B R) → Bag H' B (n + 2) → H' R = some (two (Wy.loses s fl fe (l1, l2)).1 (Wy.loses s fl fe (l1, l2)).2) → WayAt C H' p c fl fe s lp ep → H' r = some (.tup [.bl l1, .bl l2]) → Q (.ref r) H'
abbrev nLost : List Str := ["_law_bag_here", "_law_way", "_law_runs", "_law_gap", "_law_habit_here", "_law_is_answered", "_law_gone_here"]
theorem scLost : FnScope nLost ["_law_bag_here", "_law_way", "_law_runs", "_law_gap", "_law_habit_here"] (defScope sLost) := ⟨rfl, rfl, rfl, by decide +kernel, rfl, by decide +kernel, by decide +kernel⟩
theorem loses_lt {s : Wy.S} {fl fe g : Nat} {l1 l2 : Bool} (g1 : 1 ≤ g) (hf : fe < g) (h1 : l1 = true → fl + 1 < g) (h2 : l2 = true → fe + 1 < g) : (Wy.loses s fl fe (l1, l2)).1 < g ∧ (Wy.loses s fl fe (l1, l2)).2 < g := by
  unfold Wy.loses
  constructor
  · cases l1 with
    | true => exact h1 rfl
    | false => exact g1
  · show (if s.letters.isEmpty = true then fe else if l2 = true then fe + 1 else 0) < g
    split
    · exact hf
    · cases l2 with
      | true => exact h2 rfl
      | false => exact g1
theorem br_no {H : Hp} {B R : Addr} {n fl fe : Nat} (hB : Bag H B n) (hR : H R = some (two fl fe)) : NoTup H (BR B R) := fun q o d e => by
  rcases d with d | d
  · exact hB.soft q o d e
  · rw [d, hR] at e
    rw [← Option.some.inj e]; rfl
theorem ok_lost (F : Fun K "_law_lost_by" "_law_lost_by" sLost f fd) (T : Txt K mg C) (S : HasM P w K mg base C 1 "store" ["self"] (spStore C)) (G : Has P w K mg base 2 "_law_gone" ["_law_bag_here", "_law_runs", "_law_gap", "_law_is_answered"] spGone) : FnOk P w K mg base CX0 3 f fd ["_law_bag_here", "_law_way", "_law_runs", "_law_gap", "_law_habit_here"] (spLost C) := by
  obtain ⟨fs, fds, GS, mS, bS⟩ := S.ex
  obtain ⟨fg, fdg, GG, mG, kG, bG⟩ := G.ex
  refine F.ok scLost (fun vs H Q E h => ?_) (fun cdv A outer s H vs Q E hr h => ?_)
  · obtain ⟨B, R, p, c, fl, fe, n, hb, s, lp, ep, rfl, _⟩ := h
    rfl
  · obtain ⟨B, R, p, c, fl, fe, n, hb, z, lp, ep, rfl, hB, hn, nBR, hR, W, d1, d2, d3, d4, ok, f1, f2, k⟩ := h
    have hr1 : Room 1 _ := hr.mono (by decide)
    obtain ⟨⟨dx, hp⟩, _⟩ := id W
    have npB : p ≠ B := by
      obtain ⟨_, _, _, eB, _⟩ := hB
      exact ne_of hp eB (by intro z; cases z)
    have npR : p ≠ R := ne_of hp hR (by intro z; cases z)
    have nt : NoTup H (BR B R) := br_no hB hR
    have wk' : ∀ {H' : Hp}, Kept H H' (BR B R) → WayAt C H' p c fl fe z lp ep := fun {H'} kk => W.kept kk nt fun q o d => by
      rcases o with o | o | o <;> rcases d with d | d <;> rw [o] at d
      · exact npB d
      · exact npR d
      · exact d1 d
      · exact d2 d
      · exact d3 d
      · exact d4 d
    let σ7 (x y : Option V) : L2.St := [some (.ref B), some (.ref p), some (.ref R), some (.int c.g), some (.int hb), x, y]
    have hg1 := ok.g1
    refine blk_run (Pre := fun σ H' => σ = σ7 none none ∧ H' = H) (Post := fun _ _ => False) ?_ (fun _ _ z => z.elim) ⟨rfl, rfl⟩
    -- is_answered = way.store()[3] != ()
    refine blk_cons (fun σ H' => σ = σ7 (some (.bl (!z.letters.isEmpty))) none ∧ Same H H') ⟨_, ps_set (i := 5) scLost.nd rfl (.inl rfl) (pe_cmpR (op_neD hr.units) (pe_ix ix_tup (pe_meth0 (pv 1) T.cl mS GS hr1 bS .nil pass0) pe_int (fun _ _ => rfl)) (pe_tup pa_nil) (nomark _)), ?_⟩ ?_
    · rintro nx bk ct σ H' hnx ⟨rfl, rfl⟩
      refine ⟨_, rfl, p, dx, _, rfl, hp, lookup_no (by decide +kernel), p, c, fl, fe, z, lp, ep, rfl, W, fun H2 r f2 s2 ⟨la, ea, ts, us, e1, e2, e3, e4, e5⟩ => ?_⟩
      refine ⟨r, _, 3, _, rfl, rfl, SqT.of e1, atI_nat (j := 3) rfl, Nat.zero_le _, fun t ht => ?_⟩
      have s3 := Same.new (o := .tup []) ht
      refine ⟨_, _, .tup (SqT.of (s3 _ _ e2)) (dp_row (g := dW) dp_w (e4.same s3)), .tup (SqT.of upd_same) .nil, shaped_tup lay_w _, shaped_nilT, ?_⟩
      rw [eqv_nilT, show (List.map (fun l : Nat × Option Int => PyData.tuple [PyData.int l.1, dW l.2]) z.letters).isEmpty = z.letters.isEmpty by cases z.letters <;> rfl]
      exact hnx _ _ ⟨rfl, s2.trans s3⟩
    -- drawn, or none
    refine blk_cons (fun σ H' => σ = σ7 (some (.bl (!z.letters.isEmpty))) none ∧ Same H H') ⟨_, ps_if (pt_cmpR op_gt (pv 4) pe_int (nomark _)) (pss_one (ps_ret (pe_call GG hr rfl mG kG bG .nil pass0 (pa_cons (pv 0) (pa_cons (pv 2) (pa_cons (pe_ifExp (pt_cmpR op_eq (pv 4) pe_int (nomark _)) (pv 3) pe_int) (pa_cons (pv 5) pa_nil))))))) pss_nil, ?_⟩ ?_
    · rintro nx bk ct σ H1 hnx ⟨rfl, s1⟩
      have go : ∀ g' : Nat, g' ≤ c.g → spGone [.ref B, .ref R, .int g', .bl (!z.letters.isEmpty)] H1 Q E0 := by
        intro g' hg'
        refine ⟨B, R, g', fl, fe, n, _, rfl, hB.kept (D := fun _ => False) (Kept.of s1) (fun z => z), hn, nBR, s1 _ _ hR, fun H2 r l1 l2 h1 h2 k2 hB2 eR er => ?_⟩
        have kk : Kept H H2 (BR B R) := (Kept.of s1).trans k2
        obtain ⟨b1, b2⟩ := loses_lt (s := z) hg1 f2 (fun z => Nat.lt_of_lt_of_le (h1 z) hg') (fun z => Nat.lt_of_lt_of_le (h2 z) hg')
        refine k H2 r l1 l2 b1 b2 kk hB2 ?_ (wk' kk) er
        rw [eR]
        unfold Wy.loses
        cases z.letters <;> rfl
      refine ⟨_, rfl, _, _, rfl, rfl, _, rfl, ite2 (fun _ => ?_) fun _ => hnx _ _ ⟨rfl, s1⟩⟩
      refine ⟨_, rfl, _, rfl, _, rfl, rfl, _, rfl, ite2 (fun _ => ?_) fun _ => ?_⟩
      · exact ⟨_, rfl, _, rfl, go c.g (Nat.le_refl _)⟩
      · exact ⟨_, rfl, go 1 hg1⟩
    -- as much as may be
    refine blk_cons (fun σ H' => ∃ r, σ = σ7 (some (.bl (!z.letters.isEmpty))) (some (.ref r)) ∧ Same H H' ∧ H' r = some (.tup [.bl (decide (fl + 1 < c.g)), .bl (decide (fe + 1 < c.g))]))
      ⟨_, ps_set (i := 6) scLost.nd rfl (.inl rfl) (pe_tup (pa_cons (pe_cmpR op_lt (pe_op op_add (pe_ix ix_list (pv 2) pe_int (fun _ _ => rfl)) pe_int) (pv 3) (nomark _)) (pa_cons (pe_cmpR op_lt (pe_op op_add (pe_ix ix_list (pv 2) pe_int (fun _ _ => rfl)) pe_int) (pv 3) (nomark _)) pa_nil))), ?_⟩ ?_
    · rintro nx bk ct σ H1 hnx ⟨rfl, s1⟩
      have hR1 := s1 _ _ hR
      refine ⟨_, rfl, R, _, 0, _, rfl, rfl, SqL.of hR1, atI_nat (j := 0) rfl, _, _, rfl, rfl, _, rfl, _, _, rfl, rfl, _, rfl, R, _, 1, _, rfl, rfl, SqL.of hR1, atI_nat (j := 1) rfl, _, _, rfl, rfl, _, rfl, _, _, rfl, rfl, by show 2 ≤ sizeLine; decide, fun r hr' => ?_⟩
      refine hnx _ _ ⟨r, rfl, s1.trans (Same.new hr'), ?_⟩
      rw [upd_same]
      have q1 : decide ((fl : Int) + 1 < (c.g : Int)) = decide (fl + 1 < c.g) := decide_eq_decide.mpr (by omega)
      have q2 : decide ((fe : Int) + 1 < (c.g : Int)) = decide (fe + 1 < c.g) := decide_eq_decide.mpr (by omega)
      rw [← q1, ← q2]
    -- runs[0] = ..
    refine blk_cons (fun σ H' => ∃ r, σ = σ7 (some (.bl (!z.letters.isEmpty))) (some (.ref r)) ∧ Kept H H' (BR B R) ∧ Bag H' B n ∧ H' r = some (.tup [.bl (decide (fl + 1 < c.g)), .bl (decide (fe + 1 < c.g))]) ∧ H' R = some (two (if decide (fl + 1 < c.g) then fl + 1 else 0) fe))
      ⟨_, ps_asg (pe_ifExp (pt_val (pe_ix ix_tup (pv 6) pe_int (fun _ _ => rfl))) (pe_op op_add (pe_ix ix_list (pv 2) pe_int (fun _ _ => rfl)) pe_int) pe_int) (pg_sub (pv 2) pe_int set_list), ?_⟩ ?_
    · rintro nx bk ct σ H1 hnx ⟨r, rfl, s1, er⟩
      have hR1 := s1 _ _ hR
      have nrR : r ≠ R := ne_of er hR1 (by intro z; cases z)
      have fin : ∀ v : Nat, (if decide (fl + 1 < c.g) then fl + 1 else 0) = v → nx (σ7 (some (.bl (!z.letters.isEmpty))) (some (.ref r))) (upd H1 R (.lst ([V.int fl, V.int fe].set 0 (.int v)))) := fun v hv => by
        refine hnx _ _ ⟨r, rfl, (Kept.of s1).updO (.inl (.inr rfl)), (hB.kept (D := fun _ => False) (Kept.of s1) (fun z => z)).kept (D := (· = R)) (Kept.upd rfl) nBR, by rw [upd_ne nrR]; exact er, ?_⟩
        rw [upd_same, hv]; rfl
      refine ⟨_, rfl, r, _, 0, _, rfl, rfl, SqT.of er, atI_nat (j := 0) rfl, _, rfl, ?_⟩
      cases hd : decide (fl + 1 < c.g) with
      | true => exact iteT ⟨_, rfl, R, _, 0, _, rfl, rfl, SqL.of hR1, atI_nat (j := 0) rfl, _, _, rfl, rfl, _, rfl, R, _, 0, 0, rfl, rfl, hR1, rfl, fin (fl + 1) (by rw [hd]; rfl)⟩
      | false => exact iteF ⟨_, rfl, R, _, 0, 0, rfl, rfl, hR1, rfl, fin 0 (by rw [hd]; rfl)⟩
    refine blk_cons (fun σ H' => ∃ r, σ = σ7 (some (.bl (!z.letters.isEmpty))) (some (.ref r)) ∧ Kept H H' (BR B R) ∧ Bag H' B n ∧ H' r = some (.tup [.bl (decide (fl + 1 < c.g)), .bl (decide (fe + 1 < c.g))]) ∧ H' R = some (two (Wy.loses z fl fe (decide (fl + 1 < c.g), decide (fe + 1 < c.g))).1 (Wy.loses z fl fe (decide (fl + 1 < c.g), decide (fe + 1 < c.g))).2))
      ⟨_, ps_if (pt_val (pv 5)) (pss_one (ps_asg (pe_ifExp (pt_val (pe_ix ix_tup (pv 6) pe_int (fun _ _ => rfl))) (pe_op op_add (pe_ix ix_list (pv 2) pe_int (fun _ _ => rfl)) pe_int) pe_int) (pg_sub (pv 2) pe_int set_list))) pss_nil, ?_⟩ ?_
    · rintro nx bk ct σ H1 hnx ⟨r, rfl, k1, hB1, er, eR⟩
      have nrR : r ≠ R := ne_of er eR (by intro z; cases z)
      refine ⟨_, rfl, _, rfl, ?_⟩
      cases he : z.letters.isEmpty with
      | true =>
        refine iteF ?_
        have := hnx (σ7 (some (.bl (!z.letters.isEmpty))) (some (.ref r))) H1 ⟨r, rfl, k1, hB1, er, by rw [eR]; unfold Wy.loses; rw [he]; rfl⟩
        rw [he] at this; exact this
      | false =>
        have fin : ∀ v : Nat, (if decide (fe + 1 < c.g) then fe + 1 else 0) = v → nx (σ7 (some (.bl (!z.letters.isEmpty))) (some (.ref r))) (upd H1 R (.lst ([V.int (if decide (fl + 1 < c.g) then fl + 1 else 0 : Nat), V.int fe].set 1 (.int v)))) := fun v hv => by
          refine hnx _ _ ⟨r, rfl, k1.updO (.inl (.inr rfl)), hB1.kept (D := (· = R)) (Kept.upd rfl) nBR, by rw [upd_ne nrR]; exact er, ?_⟩
          rw [upd_same, ← hv]
          unfold Wy.loses
          rw [he]; rfl
        rw [he] at fin
        refine iteT ⟨_, rfl, r, _, 1, _, rfl, rfl, SqT.of er, atI_nat (j := 1) rfl, _, rfl, ?_⟩
        cases hd : decide (fe + 1 < c.g) with
        | true => exact iteT ⟨_, rfl, R, _, 1, _, rfl, rfl, SqL.of eR, atI_nat (j := 1) rfl, _, _, rfl, rfl, _, rfl, R, _, 1, 1, rfl, rfl, eR, rfl, fin (fe + 1) (by rw [hd]; rfl)⟩
        | false => exact iteF ⟨_, rfl, R, _, 1, 1, rfl, rfl, eR, rfl, fin 0 (by rw [hd]; rfl)⟩
    refine blk_one ⟨_, ps_ret (pv 6), ?_⟩
    rintro nx bk ct σ H1 hnx ⟨r, rfl, k1, hB1, er, eR⟩
    obtain ⟨b1, b2⟩ := loses_lt (s := z) (l1 := decide (fl + 1 < c.g)) (l2 := decide (fe + 1 < c.g)) hg1 f2 of_decide_eq_true of_decide_eq_true
    exact ⟨_, rfl, k H1 r _ _ b1 b2 k1 (hB1.mono (by omega)) eR (wk' k1) er⟩
end
end Wk
namespace Wk
open PySem L2 Ru
/-- what is known to the object stands -/
def Frz (H H' : Hp) : Prop := ∀ q o u, H q = some (.frz o u) → H' q = some (.frz o u)
theorem Frz.refl (H : Hp) : Frz H H := fun _ _ _ e => e
theorem Frz.trans {H H1 H2 : Hp} (a : Frz H H1) (b : Frz H1 H2) : Frz H H2 := fun q o u e => b q o u (a q o u e)
theorem Frz.of {H H' : Hp} {D : Addr → Prop} (k : Kept H H' D) (n : NoTup H D) : Frz H H' := fun q o u e => k q _ e fun d => by cases n q _ d e
theorem Frz.same {H H' : Hp} (k : Same H H') : Frz H H' := fun q o u e => k q _ e
/-- a way, its bag and its runs, and other lists (Z) that stand apart -/
structure Scn (Z : Addr → Prop) (C : Addr) (H0 H : Hp) (B R p : Addr) (c : Cf) (fl fe rl re : Nat) (s : Wy.S) (lp ep : Addr) (n : Nat) : Prop where
  bag : Bag H B n
  run : H R = some (two rl re)
  way : WayAt C H p c fl fe s lp ep
  br : B ≠ R
  apart : ∀ q, Z q ∨ BR B R q → (∃ xs, H q = some (.lst xs)) ∧ q ≠ lp ∧ q ≠ ep ∧ q ≠ p
  zbr : ∀ q, Z q → q ≠ B ∧ q ≠ R
  f1 : fl < c.g
  f2 : fe < c.g
  nl : s.letters.length ≤ c.h
  ne : s.echoes.length ≤ c.h
  fz : Frz H0 H
section
variable {Z : Addr → Prop} {C : Addr} {H0 H H' : Hp} {B R p : Addr} {c : Cf} {fl fe rl re : Nat} {s : Wy.S} {lp ep : Addr} {n m : Nat}
theorem Scn.notOwn (S : Scn Z C H0 H B R p c fl fe rl re s lp ep n) {q : Addr} (h : Z q ∨ BR B R q) : ¬ Own p lp ep q := fun o => by
  obtain ⟨_, h1, h2, h3⟩ := S.apart q h
  rcases o with o | o | o
  · exact h3 o
  · exact h1 o
  · exact h2 o
/-- the lists, where D left them -/
theorem Scn.lists (S : Scn Z C H0 H B R p c fl fe rl re s lp ep n) {D : Addr → Prop} (k : Kept H H' D) (hD : ∀ q, Z q ∨ BR B R q → D q → ∃ xs, H' q = some (.lst xs)) : ∀ q, Z q ∨ BR B R q → (∃ xs, H' q = some (.lst xs)) ∧ q ≠ lp ∧ q ≠ ep ∧ q ≠ p := fun q h => by
  obtain ⟨⟨xs, e⟩, h1, h2, h3⟩ := S.apart q h
  refine ⟨?_, h1, h2, h3⟩
  by_cases d : D q
  · exact hD q h d
  · exact ⟨xs, k _ _ e d⟩
theorem Scn.same (S : Scn Z C H0 H B R p c fl fe rl re s lp ep n) (k : Same H H') : Scn Z C H0 H' B R p c fl fe rl re s lp ep n :=
  ⟨S.bag.kept (D := fun _ => False) (Kept.of k) (fun z => z), k _ _ S.run, S.way.same k, S.br, S.lists (D := fun _ => False) (Kept.of k) (fun _ _ z => z.elim), S.zbr, S.f1, S.f2, S.nl, S.ne, S.fz.trans (Frz.same k)⟩
/-- behind a draw -/
theorem Scn.drew (S : Scn Z C H0 H B R p c fl fe rl re s lp ep n) (k : Kept H H' (· = B)) (b : Bag H' B m) : Scn Z C H0 H' B R p c fl fe rl re s lp ep m := by
  have nt := S.bag.soft
  refine ⟨b, k _ _ S.run S.br.symm, S.way.kept k nt fun q o d => S.notOwn (.inr (.inl d)) o, S.br, S.lists k fun q _ d => ?_, S.zbr, S.f1, S.f2, S.nl, S.ne, S.fz.trans (Frz.of k nt)⟩
  obtain ⟨_, _, _, e, _⟩ := b
  rw [d]; exact ⟨_, e⟩
/-- behind the draw of what is lost -/
theorem Scn.lost (S : Scn Z C H0 H B R p c fl fe rl re s lp ep n) {rl' re' : Nat} (k : Kept H H' (BR B R)) (b : Bag H' B m) (r : H' R = some (two rl' re')) : Scn Z C H0 H' B R p c fl fe rl' re' s lp ep m := by
  have nt := br_no S.bag S.run
  refine ⟨b, r, S.way.kept k nt fun q o d => S.notOwn (.inr d) o, S.br, S.lists k fun q _ d => ?_, S.zbr, S.f1, S.f2, S.nl, S.ne, S.fz.trans (Frz.of k nt)⟩
  rcases d with d | d
  · obtain ⟨_, _, _, e, _⟩ := b
    rw [d]; exact ⟨_, e⟩
  · rw [d]; exact ⟨_, r⟩
/-- behind a beat -/
theorem Scn.beat (S : Scn Z C H0 H B R p c fl fe rl re s lp ep n) {s' : Wy.S} {lp' ep' : Addr} (k : Kept H H' (Own p lp ep)) (w : WayAt C H' p c rl re s' lp' ep') (h1 : lp' = lp ∨ H lp' = none) (h2 : H ep' = none) (g1 : rl < c.g) (g2 : re < c.g) (n1 : s'.letters.length ≤ c.h) (n2 : s'.echoes.length ≤ c.h) :
    Scn Z C H0 H' B R p c rl re rl re s' lp' ep' n := by
  refine ⟨S.bag.kept k (S.notOwn (.inr (.inl rfl))), k _ _ S.run (S.notOwn (.inr (.inr rfl))), w, S.br, fun q h => ?_, S.zbr, g1, g2, n1, n2, S.fz.trans (Frz.of k (no_own S.way))⟩
  obtain ⟨⟨xs, e⟩, a1, a2, a3⟩ := S.apart q h
  refine ⟨⟨xs, k _ _ e (S.notOwn h)⟩, ?_, fun z => ?_, a3⟩
  · rcases h1 with h1 | h1
    · rw [h1]; exact a1
    · exact ne_of_none e h1
  · rw [z, h2] at e; cases e
/-- behind a change of one of the other lists -/
theorem Scn.other (S : Scn Z C H0 H B R p c fl fe rl re s lp ep n) {q : Addr} {xs : List V} (hq : Z q) : Scn Z C H0 (upd H q (.lst xs)) B R p c fl fe rl re s lp ep n := by
  have k : Kept H (upd H q (.lst xs)) (· = q) := Kept.upd rfl
  obtain ⟨⟨ys, e⟩, _⟩ := S.apart q (.inl hq)
  have nt : NoTup H (· = q) := no_tup1 e rfl
  obtain ⟨nB, nR⟩ := S.zbr q hq
  refine ⟨S.bag.kept k fun d => nB d.symm, k _ _ S.run fun d => nR d.symm, S.way.kept k nt fun u o d => S.notOwn (.inl hq) (by rw [← d]; exact o), S.br, S.lists k fun u _ d => ?_, S.zbr, S.f1, S.f2, S.nl, S.ne, S.fz.trans (Frz.of k nt)⟩
  rw [d]; exact ⟨_, upd_same⟩
end
section
variable (P : Program) (w : World) (K : PySem.W.Frag) (mg : Str → Option Value) (base : Heap)
/-- the beat, called by keywords -/
structure HasBeat (C : Addr) : Prop where
  ex : ∃ (f : Addr) (fd : FuncData), FnOk P w K mg base CX0 4 f fd ["self", "word", "taking", "lost"] (spBeat K C) ∧ Meth K C "beat" f ∧
    (∃ g, KBn K fd ["self", "word", "taking", "lost"] 1 ["taking", "lost"] g (fun vs zs => vs ++ [.non] ++ zs)) ∧ ∃ g, KBn K fd ["self", "word", "taking", "lost"] 1 ["word", "taking", "lost"] g (fun vs zs => vs ++ zs)
end
section
variable {P : Program} {w : World} {K : PySem.W.Frag} {mg : Str → Option Value} {base : Heap} {C f : Addr} {fd : FuncData}
theorem uw_len (s : Wy.S) : (Wy.uw s).length ≤ 2 := by
  unfold Wy.uw
  rw [List.length_append]
  have h1 : s.box.toList.length ≤ 1 := by cases s.box <;> simp
  have h2 : (if s.isOver then [] else s.slot.toList).length ≤ 1 := by
    split
    · simp
    · cases s.slot <;> simp
  omega
/-! ### all comes -/
def spAll (C : Addr) : Sp := fun vs H Q _ => ∃ (B R p U : Addr) (c : Cf) (fl fe n : Nat) (s : Wy.S) (lp ep : Addr), vs = [.ref B, .ref p, .ref R, .int c.g, .ref U] ∧ c.Ok ∧ Scn (· = U) C H H B R p c fl fe fl fe s lp ep n ∧ Wy.Plain c.h s ∧ n ≤ 50000 ∧ H U = some (.lst ((Wy.uw s).map V.int)) ∧
  ∀ (H' : Hp), Frz H H' → Bag H' B (n + 240) → Q (.bl true) H'
abbrev nAll : List Str := ["_law_bag_here", "_law_way", "_law_runs", "_law_gap", "_law_due", "_law_found", "_law_turn", "_law_put", "_law_out"]
theorem scAll : FnScope nAll ["_law_bag_here", "_law_way", "_law_runs", "_law_gap", "_law_due"] (defScope sAll) := ⟨rfl, rfl, rfl, by decide +kernel, rfl, by decide +kernel, by decide +kernel⟩
theorem ok_all (F : Fun K "_law_all_come" "_law_all_come" sAll f fd) (T : Txt K mg C) (BT : HasBeat P w K mg base C) (LB : Has P w K mg base 3 "_law_lost_by" ["_law_bag_here", "_law_way", "_law_runs", "_law_gap", "_law_habit_here"] (spLost C)) (UW : HasM P w K mg base C 3 "under_way" ["self"] (spUnder C)) :
    FnOk P w K mg base CX0 5 f fd ["_law_bag_here", "_law_way", "_law_runs", "_law_gap", "_law_due"] (spAll C) := by
  obtain ⟨fB, fdB, GB, mB, ⟨g2, KB2⟩, _⟩ := BT.ex
  obtain ⟨fL, fdL, GL, mL, kL, bL⟩ := LB.ex
  obtain ⟨fU, fdU, GU, mU, bU⟩ := UW.ex
  refine F.ok scAll (fun vs H Q E h => ?_) (fun cdv A outer s H vs Q E hr h => ?_)
  · obtain ⟨B, R, p, U, c, fl, fe, n, s, lp, ep, rfl, _⟩ := h
    rfl
  · obtain ⟨B, R, p, U, c, fl0, fe0, n, z0, lp0, ep0, rfl, ok, S0, pl0, hn, hU, k⟩ := h
    have hr3 : Room 3 _ := hr.mono (by decide)
    have h1 := ok.h1
    have g1 := ok.g1
    have gg : 1 ≤ c.g ∧ c.g ≤ 4 := ⟨ok.g1, ok.g2⟩
    generalize hdue : Wy.uw z0 = due at hU
    have hdl : due.length ≤ 2 := by rw [← hdue]; exact uw_len z0
    let σ9 (x y u v : Option V) : L2.St := [some (.ref B), some (.ref p), some (.ref R), some (.int c.g), some (.ref U), x, y, u, v]
    -- what stands at turn i, what is found at L
    let Inv (L : Addr) (i : Nat) (H' : Hp) : Prop := ∃ fl fe z lp ep fs, Scn (fun q => q = U ∨ q = L) C H H' B R p c fl fe fl fe z lp ep (n + 2 * i) ∧ Wy.Live c.h c.g z fl fe (120 - i) ∧ H' U = some (.lst (due.map V.int)) ∧ H' L = some (.lst (fs.map V.int)) ∧ due = fs ++ Wy.uw z
    refine blk_run (Pre := fun σ H' => σ = σ9 none none none none ∧ H' = H) (Post := fun _ _ => False) ?_ (fun _ _ z => z.elim) ⟨rfl, rfl⟩
    refine blk_cons (fun σ H' => ∃ L, L ≠ U ∧ σ = σ9 (some (.ref L)) none none none ∧ Inv L 0 H') ⟨_, ps_set (i := 5) scAll.nd rfl (.inl rfl) (pe_lst pa_nil), ?_⟩ ?_
    · rintro nx bk ct σ H' hnx ⟨rfl, rfl⟩
      refine ⟨Nat.zero_le _, fun L hL => hnx _ _ ⟨L, (ne_of_none hU hL).symm, rfl, fl0, fe0, z0, lp0, ep0, [], ?_, Wy.live_start ok.h2 ok.g2 pl0, Same.new hL _ _ hU, upd_same, by rw [hdue]; rfl⟩⟩
      have S1 := S0.same (Same.new (o := .lst []) hL)
      obtain ⟨⟨dx, ip⟩, ⟨ts, il, _⟩, ⟨us, ie, _⟩, _⟩ := S0.way
      obtain ⟨_, _, _, eB, _⟩ := S0.bag
      refine ⟨S1.bag, S1.run, S1.way, S1.br, fun q h => ?_, fun q h => ?_, S1.f1, S1.f2, S1.nl, S1.ne, S1.fz⟩
      · rcases h with (h | h) | h
        · exact S1.apart q (.inl h)
        · rw [h]
          exact ⟨⟨_, upd_same⟩, (ne_of_none il hL).symm, (ne_of_none ie hL).symm, (ne_of_none ip hL).symm⟩
        · exact S1.apart q (.inr h)
      · rcases h with h | h
        · exact S1.zbr q h
        · rw [h]
          exact ⟨(ne_of_none eB hL).symm, (ne_of_none S0.run hL).symm⟩
    -- a turn
    have body : BlkI (ι := Addr × Nat) (cxOf CX0 P w K mg base nAll "_law_all_come" (defScope sAll) f cdv A outer s H E).nox Q (loopBody (stAt (defBody sAll) 1))
        (fun ix σ H' => ix.1 ≠ U ∧ ix.2 < 120 ∧ (∃ v6 v7 v8, σ = σ9 (some (.ref ix.1)) v6 v7 v8) ∧ Inv ix.1 ix.2 H') (fun ix σ H' => (∃ v6 v7 v8, σ = σ9 (some (.ref ix.1)) v6 v7 v8) ∧ Inv ix.1 (ix.2 + 1) H') := by
      refine blkI_cons (fun ix σ H' => ∃ fl fe z z' lp ep fs v6, ix.1 ≠ U ∧ σ = σ9 (some (.ref ix.1)) v6 (some .non) (some (wV (Wy.gives z true))) ∧ Scn (fun q => q = U ∨ q = ix.1) C H H' B R p c fl fe fl fe z' lp ep (n + 2 * (ix.2 + 1)) ∧ Wy.Live c.h c.g z' fl fe (120 - (ix.2 + 1)) ∧
          H' U = some (.lst (due.map V.int)) ∧ H' ix.1 = some (.lst (fs.map V.int)) ∧ due = fs ++ ((Wy.gives z true).toList ++ Wy.uw z'))
        ⟨_, ps_asg (pe_methK (pv 1) T.cl mB GB hr KB2 pass0 (pk_cons pe_bl (pk_cons (pe_call GL hr3 rfl mL kL bL .nil pass0 (pa_cons (pv 0) (pa_cons (pv 1) (pa_cons (pv 2) (pa_cons (pv 3) (pa_cons pe_int pa_nil)))))) pk_nil))) (pg_tup rfl (pgs_cons (pg_name (i := 7) scAll.nd rfl (.inl rfl)) (pgs_cons (pg_name (i := 8) scAll.nd rfl (.inl rfl)) pgs_nil))), ?_⟩ ?_
      · rintro ⟨L, i⟩ nx bk ct σ H1 hnx ⟨nLU, hi, ⟨v6, v7, v8, rfl⟩, fl, fe, z, lp, ep, fs, S, lv, eU, eL, ed⟩
        have hi' : i < 120 := hi
        obtain ⟨⟨dx, hp⟩, _⟩ := id S.way
        have aB := S.apart B (.inr (.inl rfl))
        have aR := S.apart R (.inr (.inr rfl))
        refine ⟨_, rfl, p, dx, _, rfl, hp, lookup_no (by decide +kernel), _, rfl, _, rfl, _, rfl, _, rfl, B, R, p, c, fl, fe, _, 0, z, lp, ep, rfl, S.bag, by show n + 2 * i ≤ 90000; omega, S.br, S.run, S.way, aB.2.1.symm, aR.2.1.symm, aB.2.2.1.symm, aR.2.2.1.symm, ok, S.f1, S.f2, fun H2 r l1 l2 b1 b2 k2 hB2 eR W2 er => ?_⟩
        have S2 := S.lost k2 hB2 eR
        have nU := S.zbr U (.inl rfl)
        have nL := S.zbr L (.inr rfl)
        have eU2 := k2 _ _ eU fun d => d.elim nU.1 nU.2
        have eL2 := k2 _ _ eL fun d => d.elim nL.1 nL.2
        refine ⟨rfl, p, r, c, fl, fe, z, lp, ep, none, true, (l1, l2), rfl, W2, ok, trivial, SqT.of er, b1, b2, S.nl, S.ne, fun H3 t lp' ep' f1 f2 k3 W3 et => ?_⟩
        have S3 := S2.beat k3 W3 f1 f2 b1 b2 (Wy.len_letters h1 S.nl) (Wy.len_echoes h1 S.ne)
        have lv' : Wy.Live c.h c.g z fl fe (120 - (i + 1) + 1) := by rw [show 120 - (i + 1) + 1 = 120 - i by omega]; exact lv
        have lv2 := Wy.live_beat (lost := (l1, l2)) h1 gg S.nl S.ne S.f1 S.f2 b1 b2 lv'
        have su := Wy.uw_beat (w := none) (t := true) (lost := (l1, l2)) h1 lv.1
        refine ⟨t, _, rfl, SqT.of et, rfl, _, _, rfl, _, _, rfl, rfl, hnx _ _ ⟨_, _, z, _, lp', ep', fs, v6, nLU, rfl, ?_, lv2, k3 _ _ eU2 (S2.notOwn (.inl (.inl rfl))), k3 _ _ eL2 (S2.notOwn (.inl (.inr rfl))), ?_⟩⟩
        · have : n + 2 * i + 2 = n + 2 * (i + 1) := by omega
          rw [this] at S3; exact S3
        · rw [ed, ← su]
          unfold Wy.puts
          simp
      refine blkI_cons (fun ix σ H' => ∃ fl fe z z' lp ep fs v6, ix.1 ≠ U ∧ σ = σ9 (some (.ref ix.1)) v6 (some .non) (some (wV (Wy.gives z true))) ∧ Scn (fun q => q = U ∨ q = ix.1) C H H' B R p c fl fe fl fe z' lp ep (n + 2 * (ix.2 + 1)) ∧ Wy.Live c.h c.g z' fl fe (120 - (ix.2 + 1)) ∧
          H' U = some (.lst (due.map V.int)) ∧ H' ix.1 = some (.lst (fs.map V.int)) ∧ due = fs ++ ((Wy.gives z true).toList ++ Wy.uw z'))
        ⟨_, ps_if (pt_cmp (pc_notN (pv 7))) (pss_one (ps_ret pe_bl)) pss_nil, ?_⟩ ?_
      · rintro ⟨L, i⟩ nx bk ct σ H1 hnx ⟨fl, fe, z, z', lp, ep, fs, v6, a0, rfl, a1⟩
        exact ⟨_, rfl, _, rfl, iteF (hnx _ _ ⟨fl, fe, z, z', lp, ep, fs, v6, a0, rfl, a1⟩)⟩
      refine blkI_one ⟨_, ps_if (pt_cmp (pc_notN (pv 8))) (pss_one (ps_expr (pe_bm PySem.F.plainAttrs_list PySem.F.slot_list_append PySem.F.type_list_append mt_append (pv 5) (pa_cons (pv 8) pa_nil)))) pss_nil, ?_⟩
      rintro ⟨L, i⟩ nx bk ct σ H1 hnx ⟨fl, fe, z, z', lp, ep, fs, v6, nLU, rfl, S, lv, eU, eL, ed⟩
      refine ⟨_, rfl, _, rfl, ?_⟩
      cases hg : Wy.gives z true with
      | none =>
        refine iteEF (by simp [wV]) ?_
        have := hnx (σ9 (some (.ref L)) v6 (some .non) (some (wV (Wy.gives z true)))) H1 ⟨⟨_, _, _, rfl⟩, fl, fe, z', lp, ep, fs, S, lv, eU, eL, by rw [ed, hg]; rfl⟩
        rw [hg] at this; exact this
      | some y =>
        have hfl : fs.length ≤ 2 := by
          have := congrArg List.length ed
          rw [List.length_append] at this
          omega
        have l9 : (9 : Nat) < sizeLine := by decide
        refine iteET (by simp [wV]) ⟨_, rfl, .inl ⟨rfl, _, SqL.of eL⟩, _, rfl, L, _, _, rfl, rfl, eL, by rw [List.length_map]; omega, ?_⟩
        have := hnx (σ9 (some (.ref L)) v6 (some .non) (some (wV (Wy.gives z true)))) (upd H1 L (.lst (fs.map V.int ++ [V.int y]))) ⟨⟨_, _, _, rfl⟩, fl, fe, z', lp, ep, fs ++ [y], S.other (.inr rfl), lv, by rw [upd_ne (Ne.symm nLU)]; exact eU, by rw [upd_same, List.map_append]; rfl, by rw [ed, hg, List.append_assoc]; rfl⟩
        rw [hg] at this; exact this
    obtain ⟨tb, pb, rb⟩ := body
    refine blk_cons (fun σ H' => ∃ L v6 v7 v8, L ≠ U ∧ σ = σ9 (some (.ref L)) v6 v7 v8 ∧ Inv L 120 H') ⟨_, ps_for PassesOwn.never rfl (pi_range1 (by rfl) (T.b 8) (pa_cons pe_int pa_nil)) (pg_name (i := 6) scAll.nd rfl (.inl rfl)) pb, ?_⟩ ?_
    · rintro nx bk ct σ H1 hnx ⟨L, nLU, rfl, I0⟩
      refine ⟨120, rfl, by decide, by decide, ?_⟩
      refine for_range (lo := 0) (n := 120) (fun i σ H' => (∃ v6 v7 v8, σ = σ9 (some (.ref L)) v6 v7 v8) ∧ Inv L i H') ⟨⟨_, _, _, rfl⟩, I0⟩ ?_ fun σ H2 ⟨⟨v6, v7, v8, e⟩, I2⟩ => hnx _ _ ⟨L, v6, v7, v8, nLU, e, I2⟩
      rintro i σ H2 hi ⟨⟨v6, v7, v8, rfl⟩, I2⟩
      exact rb (L, i) _ _ _ _ _ (fun σ' H3 h => h) ⟨nLU, hi, ⟨_, _, _, rfl⟩, I2⟩
    -- found == due and way.under_way() == []
    refine blk_one ⟨_, ps_ret (pe_and (pe_cmpR (op_eqD hr.units) (pv 5) (pv 4) (nomark _)) (pe_one (pe_cmpR (op_eqD hr.units) (pe_meth0 (pv 1) T.cl mU GU hr3 bU .nil pass0) (pe_lst pa_nil) (nomark _)))), ?_⟩
    rintro nx bk ct σ H1 hnx ⟨L, v6, v7, v8, nLU, rfl, fl, fe, z, lp, ep, fs, S, lv, eU, eL, ed⟩
    have u0 := Wy.live_end h1 lv
    obtain ⟨⟨dx, hp⟩, _⟩ := id S.way
    have ef : fs = due := by rw [ed, u0, List.append_nil]
    refine ⟨_, rfl, _, rfl, _, _, .lst (SqL.of eL) (dp_ints fs), .lst (SqL.of eU) (dp_ints due), shaped_ints _, shaped_ints _, _, rfl, ?_⟩
    refine iteET (by rw [eqv_lists, decide_eq_true ef]) ⟨_, rfl, p, dx, _, rfl, hp, lookup_no (by decide +kernel), p, c, fl, fe, z, lp, ep, rfl, S.way, ok, lv.1, S.nl, S.ne, fun H2 r f2 s2 er => ⟨Nat.zero_le _, fun t ht => ?_⟩⟩
    rw [u0] at er
    have s3 := Same.new (o := .lst []) ht
    refine ⟨_, _, .lst (SqL.of (s3 _ _ er)) (dp_ints []), .lst (SqL.of upd_same) .nil, shaped_ints [], shaped_nilL, ?_⟩
    have e1 : PyData.eqv (.list (([] : List Int).map PyData.int)) (.list []) = true := by rw [eqv_nilL]; rfl
    rw [e1]
    exact k _ (S.fz.trans ((Frz.same s2).trans (Frz.same s3))) ((S.bag.kept (D := fun _ => False) (Kept.of (s2.trans s3)) (fun z => z)).mono (by omega))
end
end Wk
namespace Wk
open PySem L2 Ru
theorem cutV_take {α : Type} (f : α → V) (l : List α) (n : Nat) (h : n ≤ l.length) : cutV (l.map f) none (some (n : Int)) = (l.take n).map f := by
  unfold cutV
  rw [HT.sIx_none, HT.sIx_nat, List.drop_zero, List.length_map, Nat.min_eq_left h, Nat.sub_zero, List.map_take]
theorem cutV_drop {α : Type} (f : α → V) (l : List α) (n : Nat) (h : n ≤ l.length) : cutV (l.map f) (some (n : Int)) none = (l.drop n).map f := by
  unfold cutV
  rw [HT.sIx_none, HT.sIx_nat, List.length_map, Nat.min_eq_left h, ← List.map_drop, ← List.map_take]
  rw [List.take_of_length_le (by rw [List.length_drop]; exact Nat.le_refl _)]
section
variable {P : Program} {w : World} {K : PySem.W.Frag} {mg : Str → Option Value} {base : Heap} {C f : Addr} {fd : FuncData}
/-! ### a way brings all -/
def spBrings (C : Addr) : Sp := fun vs H Q _ => ∃ (B R p : Addr) (c : Cf) (fl fe n : Nat) (s : Wy.S) (lp ep : Addr), vs = [.ref B, .ref p, .ref R, .int c.g, .int c.b] ∧ c.Ok ∧ Scn (fun _ => False) C H H B R p c fl fe fl fe s lp ep n ∧ Wy.Plain c.h s ∧ n ≤ 30000 ∧
  ∀ (H' : Hp), Frz H H' → Bag H' B (n + 1300) → Q (.bl true) H'
abbrev nBrings : List Str := ["_law_bag_here", "_law_way", "_law_runs", "_law_gap", "_law_top", "_law_due", "_law_found", "_law_habits", "_law_turn", "_law_given", "_law_gone_here", "_law_put", "_law_out"]
theorem scBrings : FnScope nBrings ["_law_bag_here", "_law_way", "_law_runs", "_law_gap", "_law_top"] (defScope sBrings) := ⟨rfl, rfl, rfl, by decide +kernel, rfl, by decide +kernel, by decide +kernel⟩
/-- U: the due, L: the found, N: the habits -/
def ZB (U L N : Addr) (q : Addr) : Prop := q = U ∨ q = L ∨ q = N
/-- what stands between two turns -/
structure BI (C : Addr) (H H' : Hp) (B R p : Addr) (c : Cf) (U L N : Addr) (n i : Nat) : Prop where
  ex : ∃ fl fe z lp ep fs ds, Scn (ZB U L N) C H H' B R p c fl fe fl fe z lp ep (n + 3 + 5 * i) ∧ Wy.Plain c.h z ∧ H' U = some (.lst (ds.map V.int)) ∧ H' L = some (.lst (fs.map V.int)) ∧ ds = fs ++ Wy.uw z ∧ ds.length ≤ 2 + i
  hn : ∃ a b d : Int, H' N = some (.lst [.int a, .int b, .int d])
theorem ok_brings (F : Fun K "_law_brings" "_law_brings" sBrings f fd) (T : Txt K mg C) (BT : HasBeat P w K mg base C) (LB : Has P w K mg base 3 "_law_lost_by" ["_law_bag_here", "_law_way", "_law_runs", "_law_gap", "_law_habit_here"] (spLost C)) (UW : HasM P w K mg base C 3 "under_way" ["self"] (spUnder C))
    (W : Has P w K mg base 1 "_law_take" ["_law_bag_here", "_law_many"] spTake) (HB : Has P w K mg base 2 "_law_habit" ["_law_bag_here", "_law_turn", "_law_habit_here"] spHabit) (AL : Has P w K mg base 5 "_law_all_come" ["_law_bag_here", "_law_way", "_law_runs", "_law_gap", "_law_due"] (spAll C)) :
    FnOk P w K mg base CX0 6 f fd ["_law_bag_here", "_law_way", "_law_runs", "_law_gap", "_law_top"] (spBrings C) := by
  obtain ⟨fB, fdB, GB, mB, _, ⟨g3, KB3⟩⟩ := BT.ex
  obtain ⟨fL, fdL, GL, mL, kL, bL⟩ := LB.ex
  obtain ⟨fU, fdU, GU, mU, bU⟩ := UW.ex
  obtain ⟨fw, fdw, GW, mW, kW, bW⟩ := W.ex
  obtain ⟨fh, fdh, GH, mH, kH, bH⟩ := HB.ex
  obtain ⟨fa, fda, GA, mA, kA, bA⟩ := AL.ex
  refine F.ok scBrings (fun vs H Q E h => ?_) (fun cdv A outer s H vs Q E hr h => ?_)
  · obtain ⟨B, R, p, c, fl, fe, n, s, lp, ep, rfl, _⟩ := h
    rfl
  · obtain ⟨B, R, p, c, fl0, fe0, n, z0, lp0, ep0, rfl, ok, S0, pl0, hn, k⟩ := h
    have hr1 : Room 1 _ := hr.mono (by decide)
    have hr2 : Room 2 _ := hr.mono (by decide)
    have hr3 : Room 3 _ := hr.mono (by decide)
    have hr4 : Room 4 _ := hr.mono (by decide)
    have h1 := ok.h1
    have g1 := ok.g1
    have b1 := ok.b1
    have b40 := ok.b2
    have l300 : (300 : Nat) < sizeLine := by decide
    let σD (a b d e g u v t : Option V) : L2.St := [some (.ref B), some (.ref p), some (.ref R), some (.int c.g), some (.int c.b), a, b, d, e, g, u, v, t]
    refine blk_run (Pre := fun σ H' => σ = σD none none none none none none none none ∧ H' = H) (Post := fun _ _ => False) ?_ (fun _ _ z => z.elim) ⟨rfl, rfl⟩
    -- due, found = (way.under_way(), [])
    refine blk_cons (fun σ H' => ∃ U L, U ≠ L ∧ σ = σD (some (.ref U)) (some (.ref L)) none none none none none none ∧ H U = none ∧ H L = none ∧ Same H H' ∧ H' U = some (.lst ((Wy.uw z0).map V.int)) ∧ H' L = some (.lst []))
      ⟨_, ps_par (i := 5) (j := 6) rfl scBrings.nd rfl rfl (by decide) rfl rfl (pa_cons (pe_meth0 (pv 1) T.cl mU GU hr3 bU .nil pass0) (pa_cons (pe_lst pa_nil) pa_nil)) (by rfl), ?_⟩ ?_
    · rintro nx bk ct σ H' hnx ⟨rfl, rfl⟩
      obtain ⟨⟨dx, hp⟩, _⟩ := id S0.way
      refine ⟨_, rfl, p, dx, _, rfl, hp, lookup_no (by decide +kernel), p, c, fl0, fe0, z0, lp0, ep0, rfl, S0.way, ok, pl0, S0.nl, S0.ne, fun H2 U fU0 s2 eU => ⟨Nat.zero_le _, fun L hL => ⟨_, _, rfl, ?_⟩⟩⟩
      exact hnx _ _ ⟨U, L, ne_of_none eU hL, rfl, fU0, s2.free hL, s2.trans (Same.new hL), Same.new hL _ _ eU, upd_same⟩
    -- habits = [..]
    refine blk_cons (fun σ H' => ∃ U L N, U ≠ L ∧ U ≠ N ∧ L ≠ N ∧ σ = σD (some (.ref U)) (some (.ref L)) (some (.ref N)) none none none none none ∧ BI C H H' B R p c U L N n 0)
      ⟨_, ps_set (i := 7) scBrings.nd rfl (.inl rfl) (pe_lst (pa_cons (pe_call GW hr1 rfl mW kW bW .nil pass0 (pa_cons (pv 0) (pa_cons pe_int pa_nil))) (pa_cons (pe_call GW hr1 rfl mW kW bW .nil pass0 (pa_cons (pv 0) (pa_cons pe_int pa_nil))) (pa_cons (pe_call GW hr1 rfl mW kW bW .nil pass0 (pa_cons (pv 0) (pa_cons pe_int pa_nil))) pa_nil)))), ?_⟩ ?_
    · rintro nx bk ct σ H1 hnx ⟨U, L, nUL, rfl, fU0, fL0, s1, eU, eL⟩
      have S1 := S0.same s1
      obtain ⟨_, _, _, eB0, _⟩ := id S0.bag
      obtain ⟨⟨dx0, ip⟩, ⟨ts, il, _⟩, ⟨us, ie, _⟩, _⟩ := S0.way
      have nUB : U ≠ B := (ne_of_none eB0 fU0).symm
      have nLB : L ≠ B := (ne_of_none eB0 fL0).symm
      refine ⟨_, rfl, B, 4, _, rfl, by decide, by decide, S1.bag, by omega, fun H2 r1 _ _ k2 hB2 => ?_⟩
      have S2 := S1.drew k2 hB2
      refine ⟨_, rfl, B, 4, _, rfl, by decide, by decide, S2.bag, by omega, fun H3 r2 _ _ k3 hB3 => ?_⟩
      have S3 := S2.drew k3 hB3
      refine ⟨_, rfl, B, 3, _, rfl, by decide, by decide, S3.bag, by omega, fun H4 r3 _ _ k4 hB4 => ⟨by show 3 ≤ sizeLine; decide, fun N hN => ?_⟩⟩
      have S4 := S3.drew k4 hB4
      have kk := (k2.trans k3).trans k4
      have eU4 := kk _ _ eU nUB
      have eL4 := kk _ _ eL nLB
      have sN : Same H4 (upd H4 N (.lst [.int r1, .int r2, .int r3])) := Same.new hN
      have S5 := S4.same sN
      have KN : Kept H (upd H4 N (.lst [.int r1, .int r2, .int r3])) (· = B) := ((Kept.of s1).trans kk).trans (Kept.of sN)
      have fN0 : H N = none := by
        cases e : H N with
        | none => rfl
        | some o =>
          by_cases d : N = B
          · obtain ⟨_, _, _, e4, _⟩ := id hB4
            rw [d, e4] at hN; cases hN
          · have := ((Kept.of s1).trans kk) N o e d
            rw [hN] at this; cases this
      refine hnx _ _ ⟨U, L, N, nUL, ne_of_none eU4 hN, ne_of_none eL4 hN, rfl, ⟨fl0, fe0, z0, lp0, ep0, [], Wy.uw z0, ?_, pl0, sN _ _ eU4, sN _ _ eL4, rfl, uw_len z0⟩, ⟨r1, r2, r3, upd_same⟩⟩
      have new : ∀ q, H q = none → q ≠ lp0 ∧ q ≠ ep0 ∧ q ≠ p := fun q e => ⟨(ne_of_none il e).symm, (ne_of_none ie e).symm, (ne_of_none ip e).symm⟩
      refine ⟨S5.bag, S5.run, S5.way, S5.br, fun q h => ?_, fun q h => ?_, S5.f1, S5.f2, S5.nl, S5.ne, S5.fz⟩
      · rcases h with (h | h | h) | h
        · rw [h]; exact ⟨⟨_, sN _ _ eU4⟩, new U fU0⟩
        · rw [h]; exact ⟨⟨_, sN _ _ eL4⟩, new L fL0⟩
        · rw [h]; exact ⟨⟨_, upd_same⟩, new N fN0⟩
        · exact S5.apart q (.inr h)
      · have hR0 := S0.run
        rcases h with h | h | h
        · rw [h]; exact ⟨nUB, (ne_of_none hR0 fU0).symm⟩
        · rw [h]; exact ⟨nLB, (ne_of_none hR0 fL0).symm⟩
        · rw [h]; exact ⟨(ne_of_none eB0 fN0).symm, (ne_of_none hR0 fN0).symm⟩
    -- a turn
    have body : BlkI (ι := Addr × Addr × Addr × Nat) (cxOf CX0 P w K mg base nBrings "_law_brings" (defScope sBrings) f cdv A outer s H E).nox Q (loopBody (stAt (defBody sBrings) 2))
        (fun ⟨U, L, N, i⟩ σ H' => U ≠ L ∧ U ≠ N ∧ L ≠ N ∧ i < 200 ∧ (∃ a b d e, σ = σD (some (.ref U)) (some (.ref L)) (some (.ref N)) (some (.int (i : Nat))) a b d e) ∧ BI C H H' B R p c U L N n i)
        (fun ⟨U, L, N, i⟩ σ H' => (∃ t a b d e, σ = σD (some (.ref U)) (some (.ref L)) (some (.ref N)) t a b d e) ∧ BI C H H' B R p c U L N n (i + 1)) := by
      -- given
      refine blkI_cons (fun ⟨U, L, N, i⟩ σ H' => ∃ fl fe z lp ep fs ds x a b d, U ≠ L ∧ U ≠ N ∧ L ≠ N ∧ i < 200 ∧ wOk c.b x ∧ σ = σD (some (.ref U)) (some (.ref L)) (some (.ref N)) (some (.int (i : Nat))) (some (wV x)) a b d ∧ Scn (ZB U L N) C H H' B R p c fl fe fl fe z lp ep (n + 3 + 5 * i + 2) ∧ Wy.Plain c.h z ∧
          H' U = some (.lst (ds.map V.int)) ∧ H' L = some (.lst (fs.map V.int)) ∧ ds = fs ++ Wy.uw z ∧ ds.length ≤ 2 + i ∧ ∃ u v t : Int, H' N = some (.lst [.int u, .int v, .int t]))
        ⟨_, ps_set (i := 9) scBrings.nd rfl (.inl rfl) (pe_ifExp (pt_val (pe_call GH hr2 rfl mH kH bH .nil pass0 (pa_cons (pv 0) (pa_cons (pv 8) (pa_cons (pe_ix ix_list (pv 7) pe_int (fun _ _ => rfl)) pa_nil))))) (pe_call GW hr1 rfl mW kW bW .nil pass0 (pa_cons (pv 0) (pa_cons (pv 4) pa_nil))) pe_non), ?_⟩ ?_
      · rintro ⟨U, L, N, i⟩ nx bk ct σ H1 hnx ⟨nUL, nUN, nLN, hi, ⟨a, b, d, e, rfl⟩, ⟨fl, fe, z, lp, ep, fs, ds, S, pl, eU, eL, ed, dl⟩, ⟨u, v, t, eN⟩⟩
        have hi' : i < 200 := hi
        refine ⟨_, rfl, _, rfl, _, rfl, N, _, 0, _, rfl, rfl, SqL.of eN, atI_nat (j := 0) rfl, B, i, u, _, rfl, S.bag, by omega, fun H2 hb k2 hB2 => ⟨hb, rfl, ?_⟩⟩
        have S2 := S.drew k2 hB2
        have nU := (S.zbr U (.inl rfl)).1
        have nL := (S.zbr L (.inr (.inl rfl))).1
        have nN := (S.zbr N (.inr (.inr rfl))).1
        have eU2 := k2 _ _ eU nU
        have eL2 := k2 _ _ eL nL
        have eN2 := k2 _ _ eN nN
        cases hb with
        | true =>
          refine iteT ⟨_, rfl, _, rfl, B, _, _, rfl, by omega, by omega, S2.bag, by omega, fun H3 r r0 r1 k3 hB3 => ?_⟩
          exact hnx _ _ ⟨fl, fe, z, lp, ep, fs, ds, some r, _, _, _, nUL, nUN, nLN, hi, ⟨r0, r1⟩, rfl, S2.drew k3 hB3, pl, k3 _ _ eU2 nU, k3 _ _ eL2 nL, ed, dl, u, v, t, k3 _ _ eN2 nN⟩
        | false =>
          exact iteF (hnx _ _ ⟨fl, fe, z, lp, ep, fs, ds, none, _, _, _, nUL, nUN, nLN, hi, trivial, rfl, S2.drew (fun q o e _ => e) (S2.bag.mono (Nat.le_succ _)), pl, eU2, eL2, ed, dl, u, v, t, eN2⟩)
      -- gone_here
      refine blkI_cons (fun ⟨U, L, N, i⟩ σ H' => ∃ fl fe z lp ep fs ds x r l1 l2 b d, U ≠ L ∧ U ≠ N ∧ L ≠ N ∧ i < 200 ∧ wOk c.b x ∧ σ = σD (some (.ref U)) (some (.ref L)) (some (.ref N)) (some (.int (i : Nat))) (some (wV x)) (some (.ref r)) b d ∧
          H' r = some (.tup [.bl l1, .bl l2]) ∧ (Wy.loses z fl fe (l1, l2)).1 < c.g ∧ (Wy.loses z fl fe (l1, l2)).2 < c.g ∧ Scn (ZB U L N) C H H' B R p c fl fe (Wy.loses z fl fe (l1, l2)).1 (Wy.loses z fl fe (l1, l2)).2 z lp ep (n + 3 + 5 * i + 4) ∧ Wy.Plain c.h z ∧
          H' U = some (.lst (ds.map V.int)) ∧ H' L = some (.lst (fs.map V.int)) ∧ ds = fs ++ Wy.uw z ∧ ds.length ≤ 2 + i ∧ ∃ u v t : Int, H' N = some (.lst [.int u, .int v, .int t]))
        ⟨_, ps_set (i := 10) scBrings.nd rfl (.inl rfl) (pe_call GL hr3 rfl mL kL bL .nil pass0 (pa_cons (pv 0) (pa_cons (pv 1) (pa_cons (pv 2) (pa_cons (pv 3) (pa_cons (pe_ix ix_list (pv 7) pe_int (fun _ _ => rfl)) pa_nil)))))), ?_⟩ ?_
      · rintro ⟨U, L, N, i⟩ nx bk ct σ H1 hnx ⟨fl, fe, z, lp, ep, fs, ds, x, a, b, d, nUL, nUN, nLN, hi, wx, rfl, S, pl, eU, eL, ed, dl, u, v, t, eN⟩
        have hi' : i < 200 := hi
        have aB := S.apart B (.inr (.inl rfl))
        have aR := S.apart R (.inr (.inr rfl))
        refine ⟨_, rfl, _, rfl, _, rfl, _, rfl, _, rfl, N, _, 2, _, rfl, rfl, SqL.of eN, atI_nat (j := 2) rfl, B, R, p, c, fl, fe, _, t, z, lp, ep, rfl, S.bag, by omega, S.br, S.run, S.way, aB.2.1.symm, aR.2.1.symm, aB.2.2.1.symm, aR.2.2.1.symm, ok, S.f1, S.f2, fun H2 r l1 l2 q1 q2 k2 hB2 eR W2 er => ?_⟩
        have nU := S.zbr U (.inl rfl)
        have nL := S.zbr L (.inr (.inl rfl))
        have nN := S.zbr N (.inr (.inr rfl))
        exact hnx _ _ ⟨fl, fe, z, lp, ep, fs, ds, x, r, l1, l2, _, _, nUL, nUN, nLN, hi, wx, rfl, er, q1, q2, S.lost k2 hB2 eR, pl, k2 _ _ eU fun d => d.elim nU.1 nU.2, k2 _ _ eL fun d => d.elim nL.1 nL.2, ed, dl, u, v, t, k2 _ _ eN fun d => d.elim nN.1 nN.2⟩
      -- put, out = way.beat(..)
      refine blkI_cons (fun ⟨U, L, N, i⟩ σ H' => ∃ fl fe z z' lp ep fs ds x y a, U ≠ L ∧ U ≠ N ∧ L ≠ N ∧ i < 200 ∧ σ = σD (some (.ref U)) (some (.ref L)) (some (.ref N)) (some (.int (i : Nat))) (some (wV x)) a (some (putV x z)) (some (wV y)) ∧
          Scn (ZB U L N) C H H' B R p c fl fe fl fe z' lp ep (n + 3 + 5 * (i + 1)) ∧ Wy.Plain c.h z' ∧
          H' U = some (.lst (ds.map V.int)) ∧ H' L = some (.lst (fs.map V.int)) ∧ ds ++ (if Wy.puts z x then x.toList else []) = fs ++ (y.toList ++ Wy.uw z') ∧ ds.length ≤ 2 + i ∧ fs.length ≤ ds.length ∧ ∃ u v t : Int, H' N = some (.lst [.int u, .int v, .int t]))
        ⟨_, ps_asg (pe_methK (pv 1) T.cl mB GB hr4 KB3 pass0 (pk_cons (pv 9) (pk_cons (pe_call GH hr2 rfl mH kH bH .nil pass0 (pa_cons (pv 0) (pa_cons (pv 8) (pa_cons (pe_ix ix_list (pv 7) pe_int (fun _ _ => rfl)) pa_nil)))) (pk_cons (pv 10) pk_nil)))) (pg_tup rfl (pgs_cons (pg_name (i := 11) scBrings.nd rfl (.inl rfl)) (pgs_cons (pg_name (i := 12) scBrings.nd rfl (.inl rfl)) pgs_nil))), ?_⟩ ?_
      · rintro ⟨U, L, N, i⟩ nx bk ct σ H1 hnx ⟨fl, fe, z, lp, ep, fs, ds, x, r, l1, l2, b, d, nUL, nUN, nLN, hi, wx, rfl, er, q1, q2, S, pl, eU, eL, ed, dl, u, v, t, eN⟩
        have hi' : i < 200 := hi
        obtain ⟨⟨dx, hp⟩, _⟩ := id S.way
        have nU := (S.zbr U (.inl rfl)).1
        have nL := (S.zbr L (.inr (.inl rfl))).1
        have nN := (S.zbr N (.inr (.inr rfl))).1
        refine ⟨_, rfl, p, dx, _, rfl, hp, lookup_no (by decide +kernel), _, rfl, _, rfl, _, rfl, _, rfl, N, _, 1, _, rfl, rfl, SqL.of eN, atI_nat (j := 1) rfl, B, i, v, _, rfl, S.bag, by omega, fun H2 tk k2 hB2 => ?_⟩
        have S2 := S.drew k2 hB2
        have er2 := k2 _ _ er fun d => by cases S.bag.soft _ _ d er
        refine ⟨_, rfl, rfl, p, r, c, fl, fe, z, lp, ep, x, tk, (l1, l2), rfl, S2.way, ok, wx, SqT.of er2, q1, q2, S.nl, S.ne, fun H3 tt lp' ep' f1 f2 k3 W3 et => ?_⟩
        have S3 := S2.beat k3 W3 f1 f2 q1 q2 (Wy.len_letters h1 S.nl) (Wy.len_echoes h1 S.ne)
        have su := Wy.uw_beat (w := x) (t := tk) (lost := (l1, l2)) h1 pl
        refine ⟨tt, _, rfl, SqT.of et, rfl, _, _, rfl, _, _, rfl, rfl, hnx _ _ ⟨(Wy.loses z fl fe (l1, l2)).1, (Wy.loses z fl fe (l1, l2)).2, z, Wy.beat c.h z x tk (l1, l2), lp', ep', fs, ds, x, Wy.gives z tk, _, nUL, nUN, nLN, hi, rfl, ?_, Wy.plain_beat h1 pl, k3 _ _ (k2 _ _ eU nU) (S2.notOwn (.inl (.inl rfl))), k3 _ _ (k2 _ _ eL nL) (S2.notOwn (.inl (.inr (.inl rfl)))), ?_, dl, ?_, u, v, t, k3 _ _ (k2 _ _ eN nN) (S2.notOwn (.inl (.inr (.inr rfl))))⟩⟩
        · have : n + 3 + 5 * i + 4 + 1 = n + 3 + 5 * (i + 1) := by omega
          rw [this] at S3; exact S3
        · rw [ed, List.append_assoc, su]
        · rw [ed, List.length_append]; omega
      -- if put is True: due.append(given)
      refine blkI_cons (fun ⟨U, L, N, i⟩ σ H' => ∃ fl fe z z' lp ep fs ds x y a, U ≠ L ∧ U ≠ N ∧ L ≠ N ∧ i < 200 ∧ σ = σD (some (.ref U)) (some (.ref L)) (some (.ref N)) (some (.int (i : Nat))) (some (wV x)) a (some (putV x z)) (some (wV y)) ∧
          Scn (ZB U L N) C H H' B R p c fl fe fl fe z' lp ep (n + 3 + 5 * (i + 1)) ∧ Wy.Plain c.h z' ∧
          H' U = some (.lst (ds.map V.int)) ∧ H' L = some (.lst (fs.map V.int)) ∧ ds = fs ++ (y.toList ++ Wy.uw z') ∧ ds.length ≤ 2 + (i + 1) ∧ ∃ u v t : Int, H' N = some (.lst [.int u, .int v, .int t]))
        ⟨_, ps_if (pt_cmpR op_isNB (pv 11) pe_bl (nomark _)) (pss_one (ps_expr (pe_bm PySem.F.plainAttrs_list PySem.F.slot_list_append PySem.F.type_list_append mt_append (pv 5) (pa_cons (pv 9) pa_nil)))) pss_nil, ?_⟩ ?_
      · rintro ⟨U, L, N, i⟩ nx bk ct σ H1 hnx ⟨fl, fe, z, z', lp, ep, fs, ds, x, y, a, nUL, nUN, nLN, hi, rfl, S, pl, eU, eL, ed, dl, _, u, v, t, eN⟩
        have hi' : i < 200 := hi
        refine ⟨_, rfl, by cases x <;> rfl, rfl, _, rfl, ?_⟩
        have stay : Wy.puts z x = false → nx (σD (some (.ref U)) (some (.ref L)) (some (.ref N)) (some (.int (i : Nat))) (some (wV x)) a (some (putV x z)) (some (wV y))) H1 := fun e => by
          rw [e] at ed
          have ed' : ds = fs ++ (y.toList ++ Wy.uw z') := by rw [← ed]; simp
          exact hnx _ _ ⟨fl, fe, z, z', lp, ep, fs, ds, x, y, a, nUL, nUN, nLN, hi, rfl, S, pl, eU, eL, ed', Nat.le_succ_of_le dl, u, v, t, eN⟩
        cases x with
        | none => exact iteEF (by simp [putV]) (stay (by simp [Wy.puts]))
        | some j =>
          cases hs : z.slot.isNone with
          | false => exact iteEF (by simp [putV, hs]) (stay (by simp [Wy.puts, hs]))
          | true =>
            refine iteET (by simp [putV, hs]) ⟨_, rfl, .inl ⟨rfl, _, SqL.of eU⟩, _, rfl, U, _, _, rfl, rfl, eU, by rw [List.length_map]; omega, ?_⟩
            have e1 : Wy.puts z (some j) = true := by simp [Wy.puts, hs]
            rw [e1] at ed
            refine hnx _ _ ⟨fl, fe, z, z', lp, ep, fs, ds ++ [j], some j, y, a, nUL, nUN, nLN, hi, rfl, S.other (.inl rfl), pl, by rw [upd_same, List.map_append]; rfl, by rw [upd_ne nUL.symm]; exact eL, ed, ?_, u, v, t, by rw [upd_ne nUN.symm]; exact eN⟩
            rw [List.length_append]
            show ds.length + 1 ≤ 2 + (i + 1)
            omega
      -- if out is not None: found.append(out)
      refine blkI_cons (fun ⟨U, L, N, i⟩ σ H' => ∃ fl fe z z' lp ep fs ds x y a, U ≠ L ∧ i < 200 ∧ σ = σD (some (.ref U)) (some (.ref L)) (some (.ref N)) (some (.int (i : Nat))) (some (wV x)) a (some (putV x z)) (some (wV y)) ∧
          Scn (ZB U L N) C H H' B R p c fl fe fl fe z' lp ep (n + 3 + 5 * (i + 1)) ∧ Wy.Plain c.h z' ∧
          H' U = some (.lst (ds.map V.int)) ∧ H' L = some (.lst (fs.map V.int)) ∧ ds = fs ++ Wy.uw z' ∧ ds.length ≤ 2 + (i + 1) ∧ ∃ u v t : Int, H' N = some (.lst [.int u, .int v, .int t]))
        ⟨_, ps_if (pt_cmp (pc_notN (pv 12))) (pss_one (ps_expr (pe_bm PySem.F.plainAttrs_list PySem.F.slot_list_append PySem.F.type_list_append mt_append (pv 6) (pa_cons (pv 12) pa_nil)))) pss_nil, ?_⟩ ?_
      · rintro ⟨U, L, N, i⟩ nx bk ct σ H1 hnx ⟨fl, fe, z, z', lp, ep, fs, ds, x, y, a, nUL, nUN, nLN, hi, rfl, S, pl, eU, eL, ed, dl, u, v, t, eN⟩
        have hi' : i < 200 := hi
        refine ⟨_, rfl, _, rfl, ?_⟩
        cases y with
        | none => exact iteEF (by simp [wV]) (hnx _ _ ⟨fl, fe, z, z', lp, ep, fs, ds, x, none, a, nUL, hi, rfl, S, pl, eU, eL, by rw [ed]; rfl, dl, u, v, t, eN⟩)
        | some j =>
          have fl2 : fs.length ≤ 300 := by
            have := congrArg List.length ed
            rw [List.length_append] at this
            have dl' : ds.length ≤ 2 + (i + 1) := dl
            omega
          refine iteET (by simp [wV]) ⟨_, rfl, .inl ⟨rfl, _, SqL.of eL⟩, _, rfl, L, _, _, rfl, rfl, eL, by rw [List.length_map]; omega, ?_⟩
          exact hnx _ _ ⟨fl, fe, z, z', lp, ep, fs ++ [j], ds, x, some j, a, nUL, hi, rfl, S.other (.inr (.inl rfl)), pl, by rw [upd_ne nUL]; exact eU, by rw [upd_same, List.map_append]; rfl, by rw [ed, List.append_assoc]; rfl, dl, u, v, t, by rw [upd_ne nLN.symm]; exact eN⟩
      -- the check
      refine blkI_one ⟨_, ps_if (PW.pt (pw_or (pt_cmpR (op_neD hr.units) (pv 6) (pe_slice sl_list (pv 5) po_none (po_some (pe_callB call_len_seq (by rfl) (T.b 3) PySem.boot_len (pa_cons (pv 6) pa_nil)))) (nomark _)) (pw_or (pt_cmpR (op_neD hr.units) (pe_meth0 (pv 1) T.cl mU GU hr3 bU .nil pass0) (pe_slice sl_list (pv 5) (po_some (pe_callB call_len_seq (by rfl) (T.b 3) PySem.boot_len (pa_cons (pv 6) pa_nil))) po_none) (nomark _))
          (pw_or1 (PW.pt (pw_and (pt_cmp (pc_isN (pv 11))) (pw_and1 (pt_cmp (pc_notN (pv 9)))))))))) (pss_one (ps_ret pe_bl)) pss_nil, ?_⟩
      rintro ⟨U, L, N, i⟩ nx bk ct σ H1 hnx ⟨fl, fe, z, z', lp, ep, fs, ds, x, y, a, nUL, hi, rfl, S, pl, eU, eL, ed, dl, u, v, t, eN⟩
      have lfs : fs.length ≤ ds.length := by rw [ed, List.length_append]; omega
      have tk : ds.take fs.length = fs := by rw [ed, List.take_left]
      have dr : ds.drop fs.length = Wy.uw z' := by rw [ed, List.drop_left]
      obtain ⟨⟨dx, hp⟩, _⟩ := id S.way
      refine ⟨_, rfl, _, rfl, _, rfl, L, _, rfl, .inl (SqL.of eL), _, rfl, U, _, rfl, SqL.of eU, fun q hq => ?_⟩
      have hq' : H1 q = none := hq
      rw [List.length_map, cutV_take _ _ _ lfs, tk]
      have s2 : Same H1 (upd H1 q (.lst (fs.map V.int))) := Same.new hq'
      refine ⟨_, _, .lst (SqL.of (s2 _ _ eL)) (dp_ints fs), .lst (SqL.of upd_same) (dp_ints fs), shaped_ints _, shaped_ints _, _, rfl, ?_⟩
      rw [eqv_lists, decide_eq_true (rfl : fs = fs)]
      refine iteF ⟨_, rfl, p, dx, _, rfl, s2 _ _ hp, lookup_no (by decide +kernel), p, c, fl, fe, z', lp, ep, rfl, S.way.same s2, ok, pl, S.nl, S.ne, fun H3 r f3 s3 er => ?_⟩
      have s23 := s2.trans s3
      refine ⟨_, rfl, _, rfl, L, _, rfl, .inl (SqL.of (s23 _ _ eL)), _, rfl, U, _, rfl, SqL.of (s23 _ _ eU), fun q2 hq2 => ?_⟩
      rw [List.length_map, cutV_drop _ _ _ lfs, dr]
      have s4 : Same H3 (upd H3 q2 (.lst ((Wy.uw z').map V.int))) := Same.new hq2
      refine ⟨_, _, .lst (SqL.of (s4 _ _ er)) (dp_ints _), .lst (SqL.of upd_same) (dp_ints (Wy.uw z')), shaped_ints _, shaped_ints _, _, rfl, ?_⟩
      rw [eqv_lists, decide_eq_true (rfl : Wy.uw z' = Wy.uw z')]
      have s5 := s23.trans s4
      have fin : nx (σD (some (.ref U)) (some (.ref L)) (some (.ref N)) (some (.int (i : Nat))) (some (wV x)) a (some (putV x z)) (some (wV y))) (upd H3 q2 (.lst ((Wy.uw z').map V.int))) :=
        hnx _ _ ⟨⟨_, _, _, _, _, rfl⟩, ⟨fl, fe, z', lp, ep, fs, ds, S.same s5, pl, s5 _ _ eU, s5 _ _ eL, ed, dl⟩, ⟨u, v, t, s5 _ _ eN⟩⟩
      refine iteF ⟨_, rfl, _, rfl, ?_⟩
      cases x with
      | none => exact iteET (by simp [putV]) ⟨_, rfl, _, rfl, iteEF (by simp [wV]) fin⟩
      | some j => exact iteEF (by simp [putV]) (iteF fin)
    obtain ⟨tb, pb, rb⟩ := body
    refine blk_cons (fun σ H' => ∃ U L N t a b d e, U ≠ L ∧ σ = σD (some (.ref U)) (some (.ref L)) (some (.ref N)) t a b d e ∧ BI C H H' B R p c U L N n 200) ⟨_, ps_for PassesOwn.never rfl (pi_range1 (by rfl) (T.b 8) (pa_cons pe_int pa_nil)) (pg_name (i := 8) scBrings.nd rfl (.inl rfl)) pb, ?_⟩ ?_
    · rintro nx bk ct σ H1 hnx ⟨U, L, N, nUL, nUN, nLN, rfl, I0⟩
      refine ⟨200, rfl, by decide, by decide, ?_⟩
      refine for_range (lo := 0) (n := 200) (fun i σ H' => (∃ t a b d e, σ = σD (some (.ref U)) (some (.ref L)) (some (.ref N)) t a b d e) ∧ BI C H H' B R p c U L N n i) ⟨⟨_, _, _, _, _, rfl⟩, I0⟩ ?_ fun σ H2 ⟨⟨t, a, b, d, e, eσ⟩, I2⟩ => hnx _ _ ⟨U, L, N, t, a, b, d, e, nUL, eσ, I2⟩
      rintro i σ H2 hi ⟨⟨t, a, b, d, e, rfl⟩, I2⟩
      show tb _ (σD (some (.ref U)) (some (.ref L)) (some (.ref N)) (some (.int (0 + (i : Int)))) a b d e) H2
      rw [Int.zero_add]
      exact rb (U, L, N, i) _ _ _ _ _ (fun σ' H3 h => h) ⟨nUL, nUN, nLN, hi, ⟨_, _, _, _, rfl⟩, I2⟩
    -- return all_come(.., due[len(found):])
    refine blk_one ⟨_, ps_ret (pe_call GA hr rfl mA kA bA .nil pass0 (pa_cons (pv 0) (pa_cons (pv 1) (pa_cons (pv 2) (pa_cons (pv 3) (pa_cons (pe_slice sl_list (pv 5) (po_some (pe_callB call_len_seq (by rfl) (T.b 3) PySem.boot_len (pa_cons (pv 6) pa_nil))) po_none) pa_nil)))))), ?_⟩
    rintro nx bk ct σ H1 hnx ⟨U, L, N, t, a, b, d, e, nUL, rfl, ⟨fl, fe, z, lp, ep, fs, ds, S, pl, eU, eL, ed, dl⟩, _⟩
    have lfs : fs.length ≤ ds.length := by rw [ed, List.length_append]; omega
    have dr : ds.drop fs.length = Wy.uw z := by rw [ed, List.drop_left]
    refine ⟨_, rfl, _, rfl, _, rfl, _, rfl, _, rfl, _, rfl, L, _, rfl, .inl (SqL.of eL), _, rfl, U, _, rfl, SqL.of eU, fun q hq => ?_⟩
    have hq' : H1 q = none := hq
    rw [List.length_map, cutV_drop _ _ _ lfs, dr]
    have s2 : Same H1 (upd H1 q (.lst ((Wy.uw z).map V.int))) := Same.new hq'
    have S2 := S.same s2
    obtain ⟨⟨dx, ip⟩, ⟨ts, il, _⟩, ⟨us, ie, _⟩, _⟩ := S.way
    obtain ⟨_, _, _, eB, _⟩ := S.bag
    refine ⟨B, R, p, q, c, fl, fe, _, z, lp, ep, rfl, ok, ⟨S2.bag, S2.run, S2.way, S2.br, fun q' h => ?_, fun q' h => ?_, S2.f1, S2.f2, S2.nl, S2.ne, Frz.refl _⟩, pl, by omega, upd_same, fun H3 f3 hB3 => k H3 (S2.fz.trans f3) (hB3.mono (by omega))⟩
    · rcases h with h | h
      · rw [h]; exact ⟨⟨_, upd_same⟩, (ne_of_none il hq').symm, (ne_of_none ie hq').symm, (ne_of_none ip hq').symm⟩
      · exact S2.apart q' (.inr h)
    · rw [h]; exact ⟨(ne_of_none eB hq').symm, (ne_of_none S.run hq').symm⟩
end
end Wk
namespace Wk
open PySem L2 Ru
def ifBody (s : Stmt) : List Stmt := match s with
  | .If _ b _ _ => b
  | _ => []
/-- the script: a list that nobody writes at -/
def Scr (K : PySem.W.Frag) (H : Hp) (a : Addr) (xs : List V) : Prop := (∃ o, H a = some (.frz o (.lst xs))) ∨ ∀ H' : Hp, SqL K H' a xs
theorem Scr.of {K : PySem.W.Frag} {H : Hp} {a : Addr} {xs : List V} (o : Only H) (h : SqL K H a xs) : Scr K H a xs := by
  rcases h with h | h
  · rcases h with h | h
    · rcases o a with e | ⟨u, ys, e⟩
      · rw [e] at h; cases h
      · rw [e] at h; cases h
    · exact .inl h
  · exact .inr fun _ => .inr h
theorem Scr.sq {K : PySem.W.Frag} {H H' : Hp} {a : Addr} {xs : List V} (h : Scr K H a xs) (f : Frz H H') : SqL K H' a xs := by
  rcases h with ⟨o, h⟩ | h
  · exact .inl (.inr ⟨o, f a o _ h⟩)
  · exact h H'
section
variable {Z : Addr → Prop} {C : Addr} {H0 H H' : Hp} {B R p : Addr} {c : Cf} {s s' : Wy.S} {lp ep lp' ep' : Addr} {n m : Nat}
/-- behind a spoiling -/
theorem Scn.spoilt {fl fe : Nat} (S : Scn Z C H0 H B R p c fl fe 0 0 s lp ep n) (k : Kept H H' (· = p)) (w : WayAt C H' p c 0 0 s' lp' ep') (h1 : H lp' = none) (h2 : H ep' = none) (g1 : 0 < c.g) (n1 : s'.letters.length ≤ c.h) (n2 : s'.echoes.length ≤ c.h) :
    Scn Z C H0 H' B R p c 0 0 0 0 s' lp' ep' n := by
  obtain ⟨⟨dx, hp⟩, _⟩ := id S.way
  refine ⟨S.bag.kept k fun d => S.notOwn (.inr (.inl rfl)) (.inl d), k _ _ S.run fun d => S.notOwn (.inr (.inr rfl)) (.inl d), w, S.br, fun q h => ?_, S.zbr, g1, g1, n1, n2, S.fz.trans (Frz.of k (no_tup1 hp rfl))⟩
  obtain ⟨⟨xs, e⟩, _, _, h3⟩ := S.apart q h
  exact ⟨⟨xs, k _ _ e h3⟩, ne_of_none e h1, ne_of_none e h2, h3⟩
theorem Scn.from {fl fe : Nat} (S : Scn Z C H0 H B R p c fl fe fl fe s lp ep n) : Scn Z C H H B R p c fl fe fl fe s lp ep n :=
  ⟨S.bag, S.run, S.way, S.br, S.apart, S.zbr, S.f1, S.f2, S.nl, S.ne, Frz.refl _⟩
end
section
variable {P : Program} {w : World} {K : PySem.W.Frag} {mg : Str → Option Value} {base : Heap} {C f : Addr} {fd : FuncData}
theorem plain0 (h : Nat) : Wy.Plain h s0 :=
  ⟨Nat.zero_le _, fun e => (by cases e), .inl rfl, ⟨[], [], rfl, (fun _ z => nomatch z), (fun _ z => nomatch z), fun _ => rfl⟩, ⟨[], [], rfl, (fun _ z => nomatch z), (fun _ z => nomatch z), fun _ => rfl⟩⟩
abbrev nLaw : List Str := ["_law_script", "_law_at", "_law_bag_here", "_law_turn", "_law_size", "_law_gap", "_law_top", "_law_way", "_law_runs", "_law_habit_here", "_law_k", "_law_gone_here"]
theorem scLaw : FnScope nLaw ["_law_script"] (defScope sLaw) := ⟨rfl, rfl, rfl, by decide +kernel, rfl, by decide +kernel, by decide +kernel⟩
/-- a new way, made by keywords -/
structure HasInit (P : Program) (w : World) (K : PySem.W.Frag) (mg : Str → Option Value) (base : Heap) (C : Addr) : Prop where
  ex : ∃ (f : Addr) (fd : FuncData), FnOk P w K mg base CX0 2 f fd ["self", "hold", "miss", "bound"] (spInit C) ∧ Mk K C f ∧ ∃ g, KBn K fd ["self", "hold", "miss", "bound"] 2 ["miss", "bound"] g (fun vs zs => vs ++ zs)
/-- a way that is to come right in n beats -/
def KI (C : Addr) (H H' : Hp) (B R p : Addr) (c : Cf) (n m : Nat) : Prop := ∃ fl fe s lp ep, Scn (fun _ => False) C H H' B R p c fl fe fl fe s lp ep m ∧ Wy.Conv c.h c.g s fl fe n
theorem nat_of {r m : Int} (h0 : 0 ≤ r) (h1 : r < m) : ∃ n : Nat, r = n ∧ (n : Int) < m := ⟨r.toNat, (Int.toNat_of_nonneg h0).symm, by omega⟩
def spLaw (K : PySem.W.Frag) : Sp := fun vs H Q _ => ∃ (a : Addr) (ns : List Int), vs = [.ref a] ∧ Scr K H a (ns.map V.int) ∧ ns.length ≤ 63 ∧ ∀ H', Q (.bl true) H'
theorem ok_law (F : Fun K "law" "law" sLaw f fd) (T : Txt K mg C) (BT : HasBeat P w K mg base C) (IN : HasInit P w K mg base C) (LB : Has P w K mg base 3 "_law_lost_by" ["_law_bag_here", "_law_way", "_law_runs", "_law_gap", "_law_habit_here"] (spLost C))
    (W : Has P w K mg base 1 "_law_take" ["_law_bag_here", "_law_many"] spTake) (BG : Has P w K mg base 1 "_law_bag" ["_law_script", "_law_at"] (spBag K)) (LS : Has P w K mg base 2 "_law_store" ["_law_bag_here", "_law_size", "_law_top"] spLStore)
    (SP : HasM P w K mg base C 4 "spoil" ["self", "store"] (spSpoil C)) (PL : HasM P w K mg base C 2 "is_plain" ["self"] (spPlain C)) (BR' : Has P w K mg base 6 "_law_brings" ["_law_bag_here", "_law_way", "_law_runs", "_law_gap", "_law_top"] (spBrings C)) :
    FnOk P w K mg base CX0 7 f fd ["_law_script"] (spLaw K) := by
  obtain ⟨fB, fdB, GB, mB, ⟨g3, KB3⟩, ⟨g2, KB2⟩⟩ := BT.ex
  obtain ⟨fI, fdI, GI, mI, ⟨gI, KI'⟩⟩ := IN.ex
  obtain ⟨fL, fdL, GL, mL, kL, bL⟩ := LB.ex
  obtain ⟨fw, fdw, GW, mW, kW, bW⟩ := W.ex
  obtain ⟨fg, fdg, GG, mG, kG, bG⟩ := BG.ex
  obtain ⟨fs, fds, GS, mS, kS, bS⟩ := LS.ex
  obtain ⟨fp, fdp, GP, mP, bP⟩ := SP.ex
  obtain ⟨fl, fdl, GPl, mPl, bPl⟩ := PL.ex
  obtain ⟨fr, fdr, GR, mR, kR, bR⟩ := BR'.ex
  refine F.ok scLaw (fun vs H Q E h => ?_) (fun cdv A outer s H vs Q E hr h => ?_)
  · obtain ⟨a, ns, rfl, _⟩ := h
    rfl
  · obtain ⟨a, ns, rfl, hS, h63, k⟩ := h
    have hr1 : Room 1 _ := hr.mono (by decide)
    have hr2 : Room 2 _ := hr.mono (by decide)
    have hr3 : Room 3 _ := hr.mono (by decide)
    have hr4 : Room 4 _ := hr.mono (by decide)
    let σL (v1 v2 v3 v4 v5 v6 v7 v8 v9 v10 v11 : Option V) : L2.St := [some (.ref a), v1, v2, v3, v4, v5, v6, v7, v8, v9, v10, v11]
    let σK (vat vt : V) (B R p : Addr) (c : Cf) (v9 v10 v11 : Option V) : L2.St := σL (some vat) (some (.ref B)) (some vt) (some (.int c.h)) (some (.int c.g)) (some (.int c.b)) (some (.ref p)) (some (.ref R)) v9 v10 v11
    -- a beat of the coming right
    have kbody : BlkI (ι := Addr × Addr × Addr × Cf × V × V × Int × Nat × Nat) (cxOf CX0 P w K mg base nLaw "law" (defScope sLaw) f cdv A outer s H E).nox Q (loopBody (stAt (ifBody (stAt (loopBody (stAt (loopBody (stAt (defBody sLaw) 0)) 1)) 2)) 2))
        (fun ⟨B, R, p, c, vat, vt, hb, i, m⟩ σ H' => c.Ok ∧ m ≤ 40000 ∧ i < c.g * c.g + 4 * c.h ∧ (∃ v, σ = σK vat vt B R p c (some (.int hb)) (some (.int (i : Nat))) v) ∧ KI C H H' B R p c (c.g * c.g + 4 * c.h - i) (m + 4 * i))
        (fun ⟨B, R, p, c, vat, vt, hb, i, m⟩ σ H' => (∃ u v, σ = σK vat vt B R p c (some (.int hb)) u v) ∧ KI C H H' B R p c (c.g * c.g + 4 * c.h - (i + 1)) (m + 4 * (i + 1))) := by
      refine blkI_cons (fun ⟨B, R, p, c, vat, vt, hb, i, m⟩ σ H' => c.Ok ∧ m ≤ 40000 ∧ i < c.g * c.g + 4 * c.h ∧ ∃ r fl fe z lp ep l1 l2, σ = σK vat vt B R p c (some (.int hb)) (some (.int (i : Nat))) (some (.ref r)) ∧ H' r = some (.tup [.bl l1, .bl l2]) ∧ (Wy.loses z fl fe (l1, l2)).1 < c.g ∧ (Wy.loses z fl fe (l1, l2)).2 < c.g ∧
          Scn (fun _ => False) C H H' B R p c fl fe (Wy.loses z fl fe (l1, l2)).1 (Wy.loses z fl fe (l1, l2)).2 z lp ep (m + 4 * i + 2) ∧ Wy.Conv c.h c.g z fl fe (c.g * c.g + 4 * c.h - i))
        ⟨_, ps_set (i := 11) scLaw.nd rfl (.inl rfl) (pe_call GL hr3 rfl mL kL bL .nil pass0 (pa_cons (pv 2) (pa_cons (pv 7) (pa_cons (pv 8) (pa_cons (pv 5) (pa_cons (pv 9) pa_nil)))))), ?_⟩ ?_
      · rintro ⟨B, R, p, c, vat, vt, hb, i, m⟩ nx bk ct σ H1 hnx ⟨ok, hm, hi, ⟨v, rfl⟩, ⟨fl, fe, z, lp, ep, S, cv⟩⟩
        have hm' : m ≤ 40000 := hm
        have hi' : i < c.g * c.g + 4 * c.h := hi
        have gg : c.g * c.g ≤ 4 * 4 := Nat.mul_le_mul ok.g2 ok.g2
        have h6 := ok.h2
        have aB := S.apart B (.inr (.inl rfl))
        have aR := S.apart R (.inr (.inr rfl))
        refine ⟨_, rfl, _, rfl, _, rfl, _, rfl, _, rfl, B, R, p, c, fl, fe, _, hb, z, lp, ep, rfl, S.bag, by omega, S.br, S.run, S.way, aB.2.1.symm, aR.2.1.symm, aB.2.2.1.symm, aR.2.2.1.symm, ok, S.f1, S.f2, fun H2 r l1 l2 q1 q2 k2 hB2 eR W2 er => ?_⟩
        exact hnx _ _ ⟨ok, hm, hi, r, fl, fe, z, lp, ep, l1, l2, rfl, er, q1, q2, S.lost k2 hB2 eR, cv⟩
      refine blkI_one ⟨_, ps_expr (pe_methK (pv 7) T.cl mB GB hr4 KB2 pass0 (pk_cons (pe_call GW hr1 rfl mW kW bW .nil pass0 (pa_cons (pv 2) (pa_cons (pv 6) pa_nil))) (pk_cons (pe_cmpR op_eq (pe_call GW hr1 rfl mW kW bW .nil pass0 (pa_cons (pv 2) (pa_cons pe_int pa_nil))) pe_int (nomark _)) (pk_cons (pv 11) pk_nil)))), ?_⟩
      rintro ⟨B, R, p, c, vat, vt, hb, i, m⟩ nx bk ct σ H1 hnx ⟨ok, hm, hi, r, fl, fe, z, lp, ep, l1, l2, rfl, er, q1, q2, S, cv⟩
      have hm' : m ≤ 40000 := hm
      have hi' : i < c.g * c.g + 4 * c.h := hi
      have gg : c.g * c.g ≤ 4 * 4 := Nat.mul_le_mul ok.g2 ok.g2
      have h6 := ok.h2
      have h1 := ok.h1
      have b1 := ok.b1
      have b40 := ok.b2
      obtain ⟨⟨dx, hp⟩, _⟩ := id S.way
      refine ⟨_, rfl, p, dx, _, rfl, hp, lookup_no (by decide +kernel), _, rfl, _, rfl, B, c.b, _, rfl, by omega, by omega, S.bag, by omega, fun H2 x x0 x1 k2 hB2 => ?_⟩
      have S2 := S.drew k2 hB2
      have er2 := k2 _ _ er fun d => by cases S.bag.soft _ _ d er
      refine ⟨_, rfl, B, 2, _, rfl, by decide, by decide, S2.bag, by omega, fun H3 t t0 t1 k3 hB3 => ⟨rfl, _, rfl, ?_⟩⟩
      have S3 := S2.drew k3 hB3
      have er3 := k3 _ _ er2 fun d => by cases S2.bag.soft _ _ d er2
      refine ⟨rfl, p, r, c, fl, fe, z, lp, ep, some x, _, (l1, l2), rfl, S3.way, ok, ⟨x0, x1⟩, SqT.of er3, q1, q2, S.nl, S.ne, fun H4 tt lp' ep' f1 f2 k4 W4 et => ?_⟩
      have S4 := S3.beat k4 W4 f1 f2 q1 q2 (Wy.len_letters h1 S.nl) (Wy.len_echoes h1 S.ne)
      have e1 : c.g * c.g + 4 * c.h - i = c.g * c.g + 4 * c.h - (i + 1) + 1 := by omega
      rw [e1] at cv
      have e2 : m + 4 * i + 2 + 1 + 1 = m + 4 * (i + 1) := by omega
      rw [e2] at S4
      exact hnx _ _ ⟨⟨_, _, rfl⟩, _, _, _, _, _, S4, Wy.conv_beat h1 ⟨ok.g1, ok.g2⟩ S.nl S.ne S.f1 S.f2 q1 q2 cv⟩
    obtain ⟨tk, pk, rk⟩ := kbody
    -- a turn
    have tbody : BlkI (ι := Addr × V × Nat) (cxOf CX0 P w K mg base nLaw "law" (defScope sLaw) f cdv A outer s H E).nox Q (loopBody (stAt (loopBody (stAt (defBody sLaw) 0)) 1))
        (fun ⟨B, vat, i⟩ σ H' => i < 4 ∧ (∃ v4 v5 v6 v7 v8 v9 v10 v11, σ = σL (some vat) (some (.ref B)) (some (.int (i : Nat))) v4 v5 v6 v7 v8 v9 v10 v11) ∧ Bag H' B (1600 * i) ∧ Frz H H')
        (fun ⟨B, vat, i⟩ σ H' => (∃ v3 v4 v5 v6 v7 v8 v9 v10 v11, σ = σL (some vat) (some (.ref B)) v3 v4 v5 v6 v7 v8 v9 v10 v11) ∧ Bag H' B (1600 * (i + 1)) ∧ Frz H H') := by
      -- size, gap, top
      refine blkI_cons (fun ⟨B, vat, i⟩ σ H' => i < 4 ∧ ∃ (c : Cf) (v7 v8 v9 v10 v11 : Option V), c.Ok ∧ σ = σL (some vat) (some (.ref B)) (some (.int (i : Nat))) (some (.int c.h)) (some (.int c.g)) (some (.int c.b)) v7 v8 v9 v10 v11 ∧ Bag H' B (1600 * i + 3) ∧ Frz H H')
        ⟨_, ps_par3 (i := 4) (j := 5) (l := 6) rfl scLaw.nd rfl rfl rfl (by decide) (by decide) (by decide) rfl rfl rfl (pa_cons (pe_op op_add pe_int (pe_call GW hr1 rfl mW kW bW .nil pass0 (pa_cons (pv 2) (pa_cons pe_int pa_nil)))) (pa_cons (pe_op op_add pe_int (pe_call GW hr1 rfl mW kW bW .nil pass0 (pa_cons (pv 2) (pa_cons pe_int pa_nil)))) (pa_cons (pe_op op_add pe_int (pe_call GW hr1 rfl mW kW bW .nil pass0 (pa_cons (pv 2) (pa_cons pe_int pa_nil)))) pa_nil))) (by rfl), ?_⟩ ?_
      · rintro ⟨B, vat, i⟩ nx bk ct σ H1 hnx ⟨hi, ⟨v4, v5, v6, v7, v8, v9, v10, v11, rfl⟩, hB, fz⟩
        have hi' : i < 4 := hi
        refine ⟨_, rfl, B, 6, _, rfl, by decide, by decide, hB, by omega, fun H2 r1 p0 p1 k2 hB2 => ⟨_, _, rfl, rfl, ?_⟩⟩
        refine ⟨_, rfl, B, 4, _, rfl, by decide, by decide, hB2, by omega, fun H3 r2 p2 p3 k3 hB3 => ⟨_, _, rfl, rfl, ?_⟩⟩
        refine ⟨_, rfl, B, 40, _, rfl, by decide, by decide, hB3, by omega, fun H4 r3 p4 p5 k4 hB4 => ⟨_, _, rfl, rfl, _, _, _, rfl, ?_⟩⟩
        obtain ⟨n1, rfl, l1⟩ := nat_of p0 p1
        obtain ⟨n2, rfl, l2⟩ := nat_of p2 p3
        obtain ⟨n3, rfl, l3⟩ := nat_of p4 p5
        have f2 := fz.trans (Frz.of k2 hB.soft)
        have f3 := f2.trans (Frz.of k3 hB2.soft)
        have f4 := f3.trans (Frz.of k4 hB3.soft)
        exact hnx _ _ ⟨hi, ⟨1 + n1, 1 + n2, 1 + n3⟩, _, _, _, _, _, ⟨by show 1 ≤ 1 + n1; omega, by show 1 + n1 ≤ 6; omega, by show 1 ≤ 1 + n2; omega, by show 1 + n2 ≤ 4; omega, by show 1 ≤ 1 + n3; omega, by show 1 + n3 ≤ 40; omega⟩, by rw [Int.natCast_add, Int.natCast_add, Int.natCast_add]; rfl, hB4, f4⟩
      -- way, runs
      refine blkI_cons (fun ⟨B, vat, i⟩ σ H' => i < 4 ∧ ∃ (c : Cf) (R p lp ep : Addr) (v9 v10 v11 : Option V), c.Ok ∧ σ = σK vat (.int (i : Nat)) B R p c v9 v10 v11 ∧ Scn (fun _ => False) C H H' B R p c 0 0 0 0 s0 lp ep (1600 * i + 3))
        ⟨_, ps_par (i := 7) (j := 8) rfl scLaw.nd rfl rfl (by decide) rfl rfl (pa_cons (pe_makeK mI GI hr3 rfl T.mgC KI' pass0 (pa_cons (pv 4) pa_nil) (pk_cons (pv 5) (pk_cons (pv 6) pk_nil))) (pa_cons (pe_lst (pa_cons pe_int (pa_cons pe_int pa_nil))) pa_nil)) (by rfl), ?_⟩ ?_
      · rintro ⟨B, vat, i⟩ nx bk ct σ H1 hnx ⟨hi, c, v7, v8, v9, v10, v11, ok, rfl, hB, fz⟩
        refine ⟨_, rfl, _, rfl, _, rfl, rfl, rfl, fun x dx nx0 ndx nex => ?_⟩
        have s1 : Same H1 (upd (upd H1 dx (.own x)) x (.ins C dx [])) := fun b o e => by
          rw [upd_ne (ne_of_none e nx0), upd_ne (ne_of_none e ndx)]
          exact e
        refine ⟨x, dx, c, rfl, ok, upd_same, fun H2 lp ep fl0 fe0 k2 W2 => ⟨rfl, by show 2 ≤ sizeLine; decide, fun R hR => ?_⟩⟩
        obtain ⟨_, _, _, eB, _⟩ := id hB
        have nBx : B ≠ x := ne_of_none eB nx0
        have hB1 := hB.kept (D := (· = x)) (Kept.of s1) nBx
        have hB2 := hB1.kept k2 nBx
        obtain ⟨_, _, _, eB2, _⟩ := id hB2
        have sR : Same H2 (upd H2 R (two 0 0)) := Same.new hR
        have W3 := W2.same sR
        obtain ⟨⟨dx3, ip⟩, ⟨ts, il, _⟩, ⟨us, ie, _⟩, _⟩ := id W2
        have nBR : B ≠ R := ne_of_none eB2 hR
        refine ⟨_, _, rfl, hnx _ _ ⟨hi, c, R, x, lp, ep, _, _, _, ok, rfl, hB2.kept (D := fun _ => False) (Kept.of sR) (fun z => z), upd_same, W3, nBR, fun q h => ?_, fun _ z => z.elim, ok.g1, ok.g1, Nat.zero_le _, Nat.zero_le _, ?_⟩⟩
        · rcases h with h | h | h
          · exact h.elim
          · rw [h]; exact ⟨⟨_, sR _ _ eB2⟩, ne_of_none (s1 _ _ eB) fl0, ne_of_none (s1 _ _ eB) fe0, nBx⟩
          · rw [h]; exact ⟨⟨_, upd_same⟩, (ne_of_none il hR).symm, (ne_of_none ie hR).symm, (ne_of_none ip hR).symm⟩
        · exact ((fz.trans (Frz.same s1)).trans (Frz.of k2 (no_tup1 upd_same rfl))).trans (Frz.same sR)
      -- the spoiling
      refine blkI_cons (fun ⟨B, vat, i⟩ σ H' => i < 4 ∧ ∃ (c : Cf) (R p : Addr) (fl fe : Nat) (z : Wy.S) (lp ep : Addr) (v9 v10 v11 : Option V), c.Ok ∧ σ = σK vat (.int (i : Nat)) B R p c v9 v10 v11 ∧ Scn (fun _ => False) C H H' B R p c fl fe fl fe z lp ep (1600 * i + 220) ∧ Wy.Plain c.h z)
        ⟨_, ps_if (pt_cmpR op_gt (pv 3) pe_int (nomark _)) (pss_cons (ps_expr (pe_meth (pv 7) T.cl mP GP hr4 bP .nil pass0 (pa_cons (pe_call GS hr2 rfl mS kS bS .nil pass0 (pa_cons (pv 2) (pa_cons (pv 4) (pa_cons (pv 6) pa_nil)))) pa_nil))) (pss_cons (ps_set (i := 9) scLaw.nd rfl (.inl rfl) (pe_call GW hr1 rfl mW kW bW .nil pass0 (pa_cons (pv 2) (pa_cons pe_int pa_nil))))
          (pss_one (ps_for PassesOwn.never rfl (pi_range1 (by rfl) (T.b 8) (pa_cons (pe_op op_add (pe_op op_mul (pv 5) (pv 5)) (pe_op op_mul pe_int (pv 4))) pa_nil)) (pg_name (i := 10) scLaw.nd rfl (.inl rfl)) pk)))) pss_nil, ?_⟩ ?_
      · rintro ⟨B, vat, i⟩ nx bk ct σ H1 hnx ⟨hi, c, R, p, lp, ep, v9, v10, v11, ok, rfl, S⟩
        have hi' : i < 4 := hi
        have h1 := ok.h1
        have h6 := ok.h2
        have gg : c.g * c.g ≤ 4 * 4 := Nat.mul_le_mul ok.g2 ok.g2
        refine ⟨_, rfl, _, _, rfl, rfl, _, rfl, ?_⟩
        by_cases hz : (0 : Int) < (i : Nat)
        · refine iteET (decide_eq_true hz) ?_
          obtain ⟨⟨dx, hp⟩, _⟩ := id S.way
          refine ⟨_, rfl, p, dx, _, rfl, hp, lookup_no (by decide +kernel), _, rfl, _, rfl, _, rfl, B, c, _, rfl, ok, S.bag, by omega, fun H2 r z k2 hB2 st so => ?_⟩
          have S2 := S.drew k2 hB2
          refine ⟨p, r, c, 0, 0, s0, z, lp, ep, rfl, ok, S2.way, st, so, fun H3 lp' ep' n1 n2 k3 W3 => ?_⟩
          have S3 := S2.spoilt k3 W3 n1 n2 ok.g1 so.nl so.ne
          refine ⟨_, rfl, B, 3, _, rfl, by decide, by decide, S3.bag, by omega, fun H4 hb b0 b1 k4 hB4 => ?_⟩
          have S4 := S3.drew k4 hB4
          have g4 := ok.g2
          refine ⟨_, rfl, _, rfl, _, _, rfl, rfl, .inl ⟨by omega, by omega⟩, _, rfl, _, _, rfl, rfl, .inl ⟨by decide, by omega⟩, _, _, rfl, rfl, _, rfl, ?_⟩
          have eN : (c.g : Int) * c.g + 4 * c.h = ((c.g * c.g + 4 * c.h : Nat) : Int) := by rw [Int.natCast_add, Int.natCast_mul, Int.natCast_mul]; rfl
          rw [eN, Int.toNat_natCast]
          refine ⟨by omega, by omega, ?_⟩
          refine for_range (lo := 0) (n := c.g * c.g + 4 * c.h) (fun j σ H' => (∃ u v, σ = σK vat (.int (i : Nat)) B R p c (some (.int hb)) u v) ∧ KI C H H' B R p c (c.g * c.g + 4 * c.h - j) (1600 * i + 3 + 50 + 1 + 4 * j)) ⟨⟨_, _, rfl⟩, 0, 0, z, lp', ep', S4, Wy.conv_any so.mk0 so.nl so.ne⟩ ?_ fun σ H5 ⟨⟨u, v, eσ⟩, ⟨fl, fe, z', lq, eq, S5, cv⟩⟩ => ?_
          · rintro j σ H5 hj ⟨⟨u, v, rfl⟩, I5⟩
            show tk _ (σK vat (.int (i : Nat)) B R p c (some (.int hb)) (some (.int (0 + (j : Int)))) v) H5
            rw [Int.zero_add]
            exact rk (B, R, p, c, vat, .int (i : Nat), hb, j, 1600 * i + 3 + 50 + 1) _ _ _ _ _ (fun σ' H3 h => h) ⟨ok, by show 1600 * i + 3 + 50 + 1 ≤ 40000; omega, hj, ⟨_, rfl⟩, I5⟩
          · rw [Nat.sub_self] at cv
            exact hnx _ _ ⟨hi, c, R, p, fl, fe, z', lq, eq, _, _, _, ok, eσ, S5.drew (fun q o e _ => e) (S5.bag.mono (by omega)), Wy.conv_end h1 cv⟩
        · refine iteEF (decide_eq_false hz) (hnx _ _ ⟨hi, c, R, p, 0, 0, s0, lp, ep, _, _, _, ok, rfl, S.drew (fun q o e _ => e) (S.bag.mono (by omega)), plain0 _⟩)
      -- the check
      refine blkI_one ⟨_, ps_if (PW.pt (pw_or (pt_cmpR op_notBl (pe_meth0 (pv 7) T.cl mPl GPl hr2 bPl .nil pass0) pe_bl (nomark _)) (pw_or1 (pt_not (pt_val (pe_call GR hr rfl mR kR bR .nil pass0 (pa_cons (pv 2) (pa_cons (pv 7) (pa_cons (pv 8) (pa_cons (pv 5) (pa_cons (pv 6) pa_nil))))))))))) (pss_one (ps_ret pe_bl)) pss_nil, ?_⟩
      rintro ⟨B, vat, i⟩ nx bk ct σ H1 hnx ⟨hi, c, R, p, fl, fe, z, lp, ep, v9, v10, v11, ok, rfl, S, pl⟩
      have hi' : i < 4 := hi
      obtain ⟨⟨dx, hp⟩, _⟩ := id S.way
      refine ⟨_, rfl, p, dx, _, rfl, hp, lookup_no (by decide +kernel), p, c, fl, fe, z, lp, ep, rfl, S.way, ok, pl, S.nl, S.ne, fun H2 s2 => ⟨_, _, rfl, rfl, _, rfl, ?_⟩⟩
      have S2 := S.same s2
      refine iteF ⟨_, rfl, _, rfl, _, rfl, _, rfl, _, rfl, B, R, p, c, fl, fe, _, z, lp, ep, rfl, ok, S2.from, pl, by omega, fun H3 f3 hB3 => ?_⟩
      refine ⟨_, rfl, iteF (hnx _ _ ⟨⟨_, _, _, _, _, _, _, _, _, rfl⟩, hB3.mono (by omega), S2.fz.trans f3⟩)⟩
    obtain ⟨tt, pt, rt⟩ := tbody
    -- a cell
    have abody : BlkI (ι := Nat) (cxOf CX0 P w K mg base nLaw "law" (defScope sLaw) f cdv A outer s H E).nox Q (loopBody (stAt (defBody sLaw) 0))
        (fun i σ H' => i ≤ 2 ∧ (∃ v2 v3 v4 v5 v6 v7 v8 v9 v10 v11, σ = σL (some (.int (i : Nat))) v2 v3 v4 v5 v6 v7 v8 v9 v10 v11) ∧ Frz H H')
        (fun i σ H' => (∃ v1 v2 v3 v4 v5 v6 v7 v8 v9 v10 v11, σ = σL v1 v2 v3 v4 v5 v6 v7 v8 v9 v10 v11) ∧ Frz H H') := by
      refine blkI_cons (fun i σ H' => ∃ B v3 v4 v5 v6 v7 v8 v9 v10 v11, σ = σL (some (.int (i : Nat))) (some (.ref B)) v3 v4 v5 v6 v7 v8 v9 v10 v11 ∧ Bag H' B 0 ∧ Frz H H') ⟨_, ps_set (i := 2) scLaw.nd rfl (.inl rfl) (pe_call GG hr1 rfl mG kG bG .nil pass0 (pa_cons (pv 0) (pa_cons (pv 1) pa_nil))), ?_⟩ ?_
      · rintro i nx bk ct σ H1 hnx ⟨hi, ⟨v2, v3, v4, v5, v6, v7, v8, v9, v10, v11, rfl⟩, fz⟩
        exact ⟨_, rfl, _, rfl, a, i, ns, rfl, hi, hS.sq fz, h63, fun H2 B fB s2 hB => hnx _ _ ⟨B, _, _, _, _, _, _, _, _, _, rfl, hB, fz.trans (Frz.same s2)⟩⟩
      refine blkI_one ⟨_, ps_for PassesOwn.never rfl (pi_range1 (by rfl) (T.b 8) (pa_cons pe_int pa_nil)) (pg_name (i := 3) scLaw.nd rfl (.inl rfl)) pt, ?_⟩
      rintro i nx bk ct σ H1 hnx ⟨B, v3, v4, v5, v6, v7, v8, v9, v10, v11, rfl, hB, fz⟩
      refine ⟨4, rfl, by decide, by decide, ?_⟩
      refine for_range (lo := 0) (n := 4) (fun j σ H' => (∃ v3 v4 v5 v6 v7 v8 v9 v10 v11, σ = σL (some (.int (i : Nat))) (some (.ref B)) v3 v4 v5 v6 v7 v8 v9 v10 v11) ∧ Bag H' B (1600 * j) ∧ Frz H H') ⟨⟨_, _, _, _, _, _, _, _, _, rfl⟩, hB, fz⟩ ?_ fun σ H2 ⟨⟨v3, v4, v5, v6, v7, v8, v9, v10, v11, eσ⟩, _, f2⟩ => hnx _ _ ⟨⟨_, _, _, _, _, _, _, _, _, _, _, eσ⟩, f2⟩
      rintro j σ H2 hj ⟨⟨v3, v4, v5, v6, v7, v8, v9, v10, v11, rfl⟩, hB2, f2⟩
      show tt _ (σL (some (.int (i : Nat))) (some (.ref B)) (some (.int (0 + (j : Int)))) v4 v5 v6 v7 v8 v9 v10 v11) H2
      rw [Int.zero_add]
      exact rt (B, .int (i : Nat), j) _ _ _ _ _ (fun σ' H3 h => h) ⟨hj, ⟨_, _, _, _, _, _, _, _, rfl⟩, hB2, f2⟩
    obtain ⟨ta, pa, ra⟩ := abody
    refine blk_run (Pre := fun σ H' => σ = σL none none none none none none none none none none none ∧ H' = H) (Post := fun _ _ => False) ?_ (fun _ _ z => z.elim) ⟨rfl, rfl⟩
    refine blk_cons (fun σ H' => True) ⟨_, ps_for PassesOwn.never rfl (pi_range1 (by rfl) (T.b 8) (pa_cons (pe_callB (call_max2 rfl) (by rfl) (T.b 10) (by decide +kernel) (pa_cons pe_int (pa_cons (pe_callB (call_min2 rfl) (by rfl) (T.b 11) (by decide +kernel) (pa_cons pe_int (pa_cons (pe_callB call_len_seq (by rfl) (T.b 3) PySem.boot_len (pa_cons (pv 0) pa_nil)) pa_nil))) pa_nil))) pa_nil)) (pg_name (i := 1) scLaw.nd rfl (.inl rfl)) pa, ?_⟩ ?_
    · rintro nx bk ct σ H1 hnx ⟨rfl, rfl⟩
      refine ⟨_, rfl, a, _, rfl, .inl (hS.sq (Frz.refl _)), _, _, rfl, _, _, rfl, _, rfl, ?_⟩
      have hN : ∀ l : Int, 1 ≤ (if (if l < 3 then l else 3) > 1 then (if l < 3 then l else 3) else 1) ∧ (if (if l < 3 then l else 3) > 1 then (if l < 3 then l else 3) else 1) ≤ 3 := fun l => by
        split <;> split <;> omega
      obtain ⟨n1, n3⟩ := hN ((ns.map V.int).length : Int)
      generalize (if (if ((ns.map V.int).length : Int) < 3 then ((ns.map V.int).length : Int) else 3) > 1 then (if ((ns.map V.int).length : Int) < 3 then ((ns.map V.int).length : Int) else 3) else 1) = N at n1 n3
      refine ⟨by omega, by omega, ?_⟩
      refine for_range (lo := 0) (n := N.toNat) (fun i σ H' => (∃ v1 v2 v3 v4 v5 v6 v7 v8 v9 v10 v11, σ = σL v1 v2 v3 v4 v5 v6 v7 v8 v9 v10 v11) ∧ Frz H1 H') ⟨⟨_, _, _, _, _, _, _, _, _, _, _, rfl⟩, Frz.refl _⟩ ?_ fun σ H2 _ => hnx _ _ trivial
      rintro i σ H2 hi ⟨⟨v1, v2, v3, v4, v5, v6, v7, v8, v9, v10, v11, rfl⟩, f2⟩
      show ta _ (σL (some (.int (0 + (i : Int)))) v2 v3 v4 v5 v6 v7 v8 v9 v10 v11) H2
      rw [Int.zero_add]
      exact ra i _ _ _ _ _ (fun σ' H3 h => h) ⟨by omega, ⟨_, _, _, _, _, _, _, _, _, _, rfl⟩, f2⟩
    refine blk_one ⟨_, ps_ret pe_bl, ?_⟩
    rintro nx bk ct σ H1 hnx _
    exact k H1
end
end Wk
namespace Wk
open PySem L2 Ru
/-! ### the two defs that are called by keywords -/
abbrev FunK (K : PySem.W.Frag) (x qual : Str) (st : Stmt) (kws : List (Str × V)) (f : Addr) (fd : FuncData) : Prop := FunD K x qual (defArgs st) (defBody st) (defScope st) [] kws f fd
theorem funK_mk {K : PySem.W.Frag} {x qual k : Str} {st : Stmt} {v : V} {u : Value} {f D : Addr} {oc : Value} {od an : Option Addr} {osl : Array (Option Value)} {doc pm cdv ct : Value} (l : K.lookup f = some ⟨oc, od, .func (PySem.W.fnOf x qual (defArgs st) (defBody st) (defScope st) .none (.ref D) doc pm an cdv ct), osl⟩)
    (c : PySem.W.codeIn K cdv qual = true) (h : PySem.W.keepIn K (.ref f) = true) (d : PySem.W.nsIn K D k = some (some u)) (r : RelV v u) : FunK K x qual st [(k, v)] f (PySem.W.fnOf x qual (defArgs st) (defBody st) (defScope st) .none (.ref D) doc pm an cdv ct) :=
  ⟨⟨oc, od, .none, .ref D, doc, pm, an, cdv, ct, osl, rfl, l, c, .inl ⟨rfl, rfl⟩, .inr ⟨D, rfl, fun q hq => by
    rcases List.mem_cons.mp hq with e | e
    · rw [e]; exact ⟨u, d, r⟩
    · cases e⟩⟩, h⟩
section
variable {P : Program} {w : World} {K : PySem.W.Frag} {mg : Str → Option Value} {base : Heap} {C f : Addr} {fd : FuncData}
theorem ok_init (F : FunK K "__init__" "Way.__init__" sInit [("miss", .int 1)] f fd) (T : Txt K mg C) (W : Has P w K mg base 1 "is_whole" ["thing", "least", "most"] spWhole) (M : HasM P w K mg base C 1 "put_down" ["self", "store"] (spPut K C)) :
    FnOk P w K mg base CX0 2 f fd ["self", "hold", "miss", "bound"] (spInit C) := by
  obtain ⟨fw, fdw, GW, mW, kW, bW⟩ := W.ex
  obtain ⟨fp, fdp, GP, mP, bP⟩ := M.ex
  refine F.ok scInit (fun vs H Q E h => ?_) (fun cdv A outer s H vs Q E hr h => ?_)
  · obtain ⟨p, dx, c, rfl, _⟩ := h
    rfl
  · obtain ⟨t, h1, h2⟩ := body_init T GW mW kW bW GP mP bP cdv A outer s H vs Q E hr h
    exact ⟨t, h1.nox, h2⟩
theorem kb_init (F : FunK K "__init__" "Way.__init__" sInit [("miss", .int 1)] f fd) : ∃ g, KBn K fd ["self", "hold", "miss", "bound"] 2 ["miss", "bound"] g (fun vs zs => vs ++ zs) := by
  obtain ⟨mv, h⟩ := FunD.kbinds0 F 2 ["miss", "bound"] [] (fun us _ ws => us ++ ws) (by simp) (fun _ z => by cases z) (fun r1 _ r3 => r1.append r3) (ps := ["self", "hold", "miss", "bound"]) fun D doc pm an cdv ct us mv ws l1 l2 l3 => match us, l1, mv, l2, ws, l3 with | [_, _], _, [], _, [_, _], _ => rfl
  exact ⟨_, h⟩
theorem ok_beat (F : FunK K "beat" "Way.beat" sBeat [("word", .non)] f fd) (T : Txt K mg C) (B : Has P w K mg base 2 "is_borne" ["thing", "bound"] spBorne) (M : HasM P w K mg base C 2 "must_bear" ["self", "lost"] (spMust K C)) (W : HasM P w K mg base C 1 "would_lose" ["self", "lost"] (spWould K C))
    (TU : HasM P w K mg base C 1 "taken_up" ["self"] (spTaken C)) (HE : HasM P w K mg base C 3 "heard" ["self"] (spHeard C)) : FnOk P w K mg base CX0 4 f fd ["self", "word", "taking", "lost"] (spBeat K C) := by
  obtain ⟨fb, fdb, GB, mB, kB, bB⟩ := B.ex
  obtain ⟨fm, fdm, GM, mM, bM⟩ := M.ex
  obtain ⟨fw, fdw, GW, mW, bW⟩ := W.ex
  obtain ⟨ft, fdt, GT, mT, bT⟩ := TU.ex
  obtain ⟨fh, fdh, GH, mH, bH⟩ := HE.ex
  refine F.ok scBeat (fun vs H Q E h => ?_) (fun cdv A outer s H vs Q E hr h => ?_)
  · obtain ⟨p, q, c, fl, fe, s, lp, ep, x, t, lost, rfl, _⟩ := h
    rfl
  · obtain ⟨t, h1, h2⟩ := body_beat T GB mB kB bB GM mM bM GW mW bW GT mT bT GH mH bH cdv A outer s H vs Q E hr h
    exact ⟨t, h1.nox, h2⟩
theorem kb_beat3 (F : FunK K "beat" "Way.beat" sBeat [("word", .non)] f fd) : ∃ g, KBn K fd ["self", "word", "taking", "lost"] 1 ["word", "taking", "lost"] g (fun vs zs => vs ++ zs) := by
  obtain ⟨mv, h⟩ := FunD.kbinds0 F 1 ["word", "taking", "lost"] [] (fun us _ ws => us ++ ws) (by simp) (fun _ z => by cases z) (fun r1 _ r3 => r1.append r3) (ps := ["self", "word", "taking", "lost"]) fun D doc pm an cdv ct us mv ws l1 l2 l3 => match us, l1, mv, l2, ws, l3 with | [_], _, [], _, [_, _, _], _ => rfl
  exact ⟨_, h⟩
theorem kb_beat2 (F : FunK K "beat" "Way.beat" sBeat [("word", .non)] f fd) : ∃ g, KBn K fd ["self", "word", "taking", "lost"] 1 ["taking", "lost"] g (fun vs zs => vs ++ [.non] ++ zs) := by
  obtain ⟨mv, h⟩ := FunD.kbinds0 F 1 ["taking", "lost"] [("word", .non)] (fun us mv ws => us ++ mv ++ ws) (by simp) (fun _ z => z) (fun r1 r2 r3 => (r1.append r2).append r3) (ps := ["self", "word", "taking", "lost"]) fun D doc pm an cdv ct us mv ws l1 l2 l3 => match us, l1, mv, l2, ws, l3 with | [_], _, [_], _, [_, _], _ => ⟨_, _, _, _, _, _, rfl, rfl, rfl⟩
  exact ⟨_, h⟩
end
end Wk
namespace Wk
open PySem L2 Ru
theorem sqT_in {K : PySem.W.Frag} {a n : Nat} {its : Array Value} {xs : List V} {o : Option Addr} {sl : Array (Option Value)} (l : K.lookup a = some ⟨.type "tuple", o, .seq its n, sl⟩) (z : its.size ≤ sizeLine) (v : Vals xs its.toList) : ∀ H, SqT K H a xs := fun _ => .inr ⟨_, its, n, l, rfl, rfl, z, v⟩
theorem all_mk {P : Program} {w : World} {K : PySem.W.Frag} {h : Heap} {mg : Str → Option Value} {fa : Addr} (X : K.In h) (G : h.Ns mainGlobals mg) (hfa : mg "law" = some (.ref fa))
    {C : Addr}
    {f1 : Addr} {oc1 kV1 dc1 pm1 cd1 ct1 : Value} {od1 an1 : Option Addr} {sl1 : Array (Option Value)}
    {f2 : Addr} {oc2 kV2 dc2 pm2 cd2 ct2 : Value} {od2 an2 : Option Addr} {sl2 : Array (Option Value)}
    {f3 : Addr} {oc3 kV3 dc3 pm3 cd3 ct3 : Value} {od3 an3 : Option Addr} {sl3 : Array (Option Value)}
    {f4 : Addr} {oc4 kV4 dc4 pm4 cd4 ct4 : Value} {od4 an4 : Option Addr} {sl4 : Array (Option Value)}
    {f5 : Addr} {oc5 kV5 dc5 pm5 cd5 ct5 : Value} {od5 an5 : Option Addr} {sl5 : Array (Option Value)}
    {f6 : Addr} {oc6 kV6 dc6 pm6 cd6 ct6 : Value} {od6 an6 : Option Addr} {sl6 : Array (Option Value)}
    {f7 : Addr} {oc7 kV7 dc7 pm7 cd7 ct7 : Value} {od7 an7 : Option Addr} {sl7 : Array (Option Value)}
    {f8 : Addr} {oc8 kV8 dc8 pm8 cd8 ct8 : Value} {od8 an8 : Option Addr} {sl8 : Array (Option Value)}
    {f9 : Addr} {oc9 kV9 dc9 pm9 cd9 ct9 : Value} {od9 an9 : Option Addr} {sl9 : Array (Option Value)}
    {f10 : Addr} {oc10 kV10 dc10 pm10 cd10 ct10 : Value} {od10 an10 : Option Addr} {sl10 : Array (Option Value)}
    {f11 : Addr} {oc11 kV11 dc11 pm11 cd11 ct11 : Value} {od11 an11 : Option Addr} {sl11 : Array (Option Value)}
    {f12 : Addr} {oc12 kV12 dc12 pm12 cd12 ct12 : Value} {od12 an12 : Option Addr} {sl12 : Array (Option Value)}
    {f13 : Addr} {oc13 kV13 dc13 pm13 cd13 ct13 : Value} {od13 an13 : Option Addr} {sl13 : Array (Option Value)}
    {f14 : Addr} {oc14 kV14 dc14 pm14 cd14 ct14 : Value} {od14 an14 : Option Addr} {sl14 : Array (Option Value)}
    {D15 : Addr}
    {f15 : Addr} {oc15 dc15 pm15 cd15 ct15 : Value} {od15 an15 : Option Addr} {sl15 : Array (Option Value)}
    {f16 : Addr} {oc16 kV16 dc16 pm16 cd16 ct16 : Value} {od16 an16 : Option Addr} {sl16 : Array (Option Value)}
    {f17 : Addr} {oc17 kV17 dc17 pm17 cd17 ct17 : Value} {od17 an17 : Option Addr} {sl17 : Array (Option Value)}
    {f18 : Addr} {oc18 kV18 dc18 pm18 cd18 ct18 : Value} {od18 an18 : Option Addr} {sl18 : Array (Option Value)}
    {f19 : Addr} {oc19 kV19 dc19 pm19 cd19 ct19 : Value} {od19 an19 : Option Addr} {sl19 : Array (Option Value)}
    {f20 : Addr} {oc20 kV20 dc20 pm20 cd20 ct20 : Value} {od20 an20 : Option Addr} {sl20 : Array (Option Value)}
    {f21 : Addr} {oc21 kV21 dc21 pm21 cd21 ct21 : Value} {od21 an21 : Option Addr} {sl21 : Array (Option Value)}
    {f22 : Addr} {oc22 kV22 dc22 pm22 cd22 ct22 : Value} {od22 an22 : Option Addr} {sl22 : Array (Option Value)}
    {f23 : Addr} {oc23 kV23 dc23 pm23 cd23 ct23 : Value} {od23 an23 : Option Addr} {sl23 : Array (Option Value)}
    {D24 : Addr}
    {f24 : Addr} {oc24 dc24 pm24 cd24 ct24 : Value} {od24 an24 : Option Addr} {sl24 : Array (Option Value)}
    {f25 : Addr} {oc25 kV25 dc25 pm25 cd25 ct25 : Value} {od25 an25 : Option Addr} {sl25 : Array (Option Value)}
    {f26 : Addr} {oc26 kV26 dc26 pm26 cd26 ct26 : Value} {od26 an26 : Option Addr} {sl26 : Array (Option Value)}
    {ti t1 t2 t3 t4 : Nat}
    {fF e1 e2 : Addr} {u1 u2 u3 u4 : Nat} {oF oE oG : Option Addr} {nF nE nG : Nat} {sF sE sG : Array (Option Value)}
    (aC : PySem.W.nsIn K mainGlobals "Way" = some (some (.ref C)))
    (a1 : PySem.W.nsIn K mainGlobals "is_whole" = some (some (.ref f1)))
    (l1 : K.lookup f1 = some ⟨oc1, od1, .func (PySem.W.fnOf "is_whole" "is_whole" (defArgs sWhole) (defBody sWhole) (defScope sWhole) .none kV1 dc1 pm1 an1 cd1 ct1), sl1⟩)
    (c1 : PySem.W.codeIn K cd1 "is_whole" = true)
    (k1 : PySem.W.keepIn K (.ref f1) = true)
    (a2 : PySem.W.nsIn K mainGlobals "marks" = some (some (.ref f2)))
    (l2 : K.lookup f2 = some ⟨oc2, od2, .func (PySem.W.fnOf "marks" "marks" (defArgs sMarks) (defBody sMarks) (defScope sMarks) .none kV2 dc2 pm2 an2 cd2 ct2), sl2⟩)
    (c2 : PySem.W.codeIn K cd2 "marks" = true)
    (k2 : PySem.W.keepIn K (.ref f2) = true)
    (a3 : PySem.W.nsIn K mainGlobals "is_borne" = some (some (.ref f3)))
    (l3 : K.lookup f3 = some ⟨oc3, od3, .func (PySem.W.fnOf "is_borne" "is_borne" (defArgs sBorne) (defBody sBorne) (defScope sBorne) .none kV3 dc3 pm3 an3 cd3 ct3), sl3⟩)
    (c3 : PySem.W.codeIn K cd3 "is_borne" = true)
    (k3 : PySem.W.keepIn K (.ref f3) = true)
    (a4 : PySem.W.nsIn K mainGlobals "is_store" = some (some (.ref f4)))
    (l4 : K.lookup f4 = some ⟨oc4, od4, .func (PySem.W.fnOf "is_store" "is_store" (defArgs sIsStore) (defBody sIsStore) (defScope sIsStore) .none kV4 dc4 pm4 an4 cd4 ct4), sl4⟩)
    (c4 : PySem.W.codeIn K cd4 "is_store" = true)
    (k4 : PySem.W.keepIn K (.ref f4) = true)
    (a5 : PySem.W.nsIn K mainGlobals "is_in_turn" = some (some (.ref f5)))
    (l5 : K.lookup f5 = some ⟨oc5, od5, .func (PySem.W.fnOf "is_in_turn" "is_in_turn" (defArgs sTurn) (defBody sTurn) (defScope sTurn) .none kV5 dc5 pm5 an5 cd5 ct5), sl5⟩)
    (c5 : PySem.W.codeIn K cd5 "is_in_turn" = true)
    (k5 : PySem.W.keepIn K (.ref f5) = true)
    (a6 : PySem.W.nsIn K mainGlobals "_law_bag" = some (some (.ref f6)))
    (l6 : K.lookup f6 = some ⟨oc6, od6, .func (PySem.W.fnOf "_law_bag" "_law_bag" (defArgs sBag) (defBody sBag) (defScope sBag) .none kV6 dc6 pm6 an6 cd6 ct6), sl6⟩)
    (c6 : PySem.W.codeIn K cd6 "_law_bag" = true)
    (k6 : PySem.W.keepIn K (.ref f6) = true)
    (a7 : PySem.W.nsIn K mainGlobals "_law_take" = some (some (.ref f7)))
    (l7 : K.lookup f7 = some ⟨oc7, od7, .func (PySem.W.fnOf "_law_take" "_law_take" (defArgs sTake) (defBody sTake) (defScope sTake) .none kV7 dc7 pm7 an7 cd7 ct7), sl7⟩)
    (c7 : PySem.W.codeIn K cd7 "_law_take" = true)
    (k7 : PySem.W.keepIn K (.ref f7) = true)
    (a8 : PySem.W.nsIn K mainGlobals "_law_store" = some (some (.ref f8)))
    (l8 : K.lookup f8 = some ⟨oc8, od8, .func (PySem.W.fnOf "_law_store" "_law_store" (defArgs sLStore) (defBody sLStore) (defScope sLStore) .none kV8 dc8 pm8 an8 cd8 ct8), sl8⟩)
    (c8 : PySem.W.codeIn K cd8 "_law_store" = true)
    (k8 : PySem.W.keepIn K (.ref f8) = true)
    (a9 : PySem.W.nsIn K mainGlobals "_law_gone" = some (some (.ref f9)))
    (l9 : K.lookup f9 = some ⟨oc9, od9, .func (PySem.W.fnOf "_law_gone" "_law_gone" (defArgs sGone) (defBody sGone) (defScope sGone) .none kV9 dc9 pm9 an9 cd9 ct9), sl9⟩)
    (c9 : PySem.W.codeIn K cd9 "_law_gone" = true)
    (k9 : PySem.W.keepIn K (.ref f9) = true)
    (a10 : PySem.W.nsIn K mainGlobals "_law_habit" = some (some (.ref f10)))
    (l10 : K.lookup f10 = some ⟨oc10, od10, .func (PySem.W.fnOf "_law_habit" "_law_habit" (defArgs sHabit) (defBody sHabit) (defScope sHabit) .none kV10 dc10 pm10 an10 cd10 ct10), sl10⟩)
    (c10 : PySem.W.codeIn K cd10 "_law_habit" = true)
    (k10 : PySem.W.keepIn K (.ref f10) = true)
    (a11 : PySem.W.nsIn K mainGlobals "_law_lost_by" = some (some (.ref f11)))
    (l11 : K.lookup f11 = some ⟨oc11, od11, .func (PySem.W.fnOf "_law_lost_by" "_law_lost_by" (defArgs sLost) (defBody sLost) (defScope sLost) .none kV11 dc11 pm11 an11 cd11 ct11), sl11⟩)
    (c11 : PySem.W.codeIn K cd11 "_law_lost_by" = true)
    (k11 : PySem.W.keepIn K (.ref f11) = true)
    (a12 : PySem.W.nsIn K mainGlobals "_law_brings" = some (some (.ref f12)))
    (l12 : K.lookup f12 = some ⟨oc12, od12, .func (PySem.W.fnOf "_law_brings" "_law_brings" (defArgs sBrings) (defBody sBrings) (defScope sBrings) .none kV12 dc12 pm12 an12 cd12 ct12), sl12⟩)
    (c12 : PySem.W.codeIn K cd12 "_law_brings" = true)
    (k12 : PySem.W.keepIn K (.ref f12) = true)
    (a13 : PySem.W.nsIn K mainGlobals "_law_all_come" = some (some (.ref f13)))
    (l13 : K.lookup f13 = some ⟨oc13, od13, .func (PySem.W.fnOf "_law_all_come" "_law_all_come" (defArgs sAll) (defBody sAll) (defScope sAll) .none kV13 dc13 pm13 an13 cd13 ct13), sl13⟩)
    (c13 : PySem.W.codeIn K cd13 "_law_all_come" = true)
    (k13 : PySem.W.keepIn K (.ref f13) = true)
    (a14 : PySem.W.nsIn K mainGlobals "law" = some (some (.ref f14)))
    (l14 : K.lookup f14 = some ⟨oc14, od14, .func (PySem.W.fnOf "law" "law" (defArgs sLaw) (defBody sLaw) (defScope sLaw) .none kV14 dc14 pm14 an14 cd14 ct14), sl14⟩)
    (c14 : PySem.W.codeIn K cd14 "law" = true)
    (k14 : PySem.W.keepIn K (.ref f14) = true)
    (a15 : PySem.W.findIn K (.ref C) "__init__" = some (some (.ref f15)))
    (i15 : PySem.W.isFn K (.ref f15) = true)
    (l15 : K.lookup f15 = some ⟨oc15, od15, .func (PySem.W.fnOf "__init__" "Way.__init__" (defArgs sInit) (defBody sInit) (defScope sInit) .none (.ref D15) dc15 pm15 an15 cd15 ct15), sl15⟩)
    (c15 : PySem.W.codeIn K cd15 "Way.__init__" = true)
    (k15 : PySem.W.keepIn K (.ref f15) = true)
    (d15 : PySem.W.nsIn K D15 "miss" = some (some (.int 1 ti)))
    (a16 : PySem.W.findIn K (.ref C) "put_down" = some (some (.ref f16)))
    (i16 : PySem.W.isFn K (.ref f16) = true)
    (l16 : K.lookup f16 = some ⟨oc16, od16, .func (PySem.W.fnOf "put_down" "Way.put_down" (defArgs sPut) (defBody sPut) (defScope sPut) .none kV16 dc16 pm16 an16 cd16 ct16), sl16⟩)
    (c16 : PySem.W.codeIn K cd16 "Way.put_down" = true)
    (k16 : PySem.W.keepIn K (.ref f16) = true)
    (a17 : PySem.W.findIn K (.ref C) "store" = some (some (.ref f17)))
    (i17 : PySem.W.isFn K (.ref f17) = true)
    (l17 : K.lookup f17 = some ⟨oc17, od17, .func (PySem.W.fnOf "store" "Way.store" (defArgs sStore) (defBody sStore) (defScope sStore) .none kV17 dc17 pm17 an17 cd17 ct17), sl17⟩)
    (c17 : PySem.W.codeIn K cd17 "Way.store" = true)
    (k17 : PySem.W.keepIn K (.ref f17) = true)
    (a18 : PySem.W.findIn K (.ref C) "spoil" = some (some (.ref f18)))
    (i18 : PySem.W.isFn K (.ref f18) = true)
    (l18 : K.lookup f18 = some ⟨oc18, od18, .func (PySem.W.fnOf "spoil" "Way.spoil" (defArgs sSpoil) (defBody sSpoil) (defScope sSpoil) .none kV18 dc18 pm18 an18 cd18 ct18), sl18⟩)
    (c18 : PySem.W.codeIn K cd18 "Way.spoil" = true)
    (k18 : PySem.W.keepIn K (.ref f18) = true)
    (a19 : PySem.W.findIn K (.ref C) "would_lose" = some (some (.ref f19)))
    (i19 : PySem.W.isFn K (.ref f19) = true)
    (l19 : K.lookup f19 = some ⟨oc19, od19, .func (PySem.W.fnOf "would_lose" "Way.would_lose" (defArgs sWould) (defBody sWould) (defScope sWould) .none kV19 dc19 pm19 an19 cd19 ct19), sl19⟩)
    (c19 : PySem.W.codeIn K cd19 "Way.would_lose" = true)
    (k19 : PySem.W.keepIn K (.ref f19) = true)
    (a20 : PySem.W.findIn K (.ref C) "must_bear" = some (some (.ref f20)))
    (i20 : PySem.W.isFn K (.ref f20) = true)
    (l20 : K.lookup f20 = some ⟨oc20, od20, .func (PySem.W.fnOf "must_bear" "Way.must_bear" (defArgs sMust) (defBody sMust) (defScope sMust) .none kV20 dc20 pm20 an20 cd20 ct20), sl20⟩)
    (c20 : PySem.W.codeIn K cd20 "Way.must_bear" = true)
    (k20 : PySem.W.keepIn K (.ref f20) = true)
    (a21 : PySem.W.findIn K (.ref C) "taken_up" = some (some (.ref f21)))
    (i21 : PySem.W.isFn K (.ref f21) = true)
    (l21 : K.lookup f21 = some ⟨oc21, od21, .func (PySem.W.fnOf "taken_up" "Way.taken_up" (defArgs sTaken) (defBody sTaken) (defScope sTaken) .none kV21 dc21 pm21 an21 cd21 ct21), sl21⟩)
    (c21 : PySem.W.codeIn K cd21 "Way.taken_up" = true)
    (k21 : PySem.W.keepIn K (.ref f21) = true)
    (a22 : PySem.W.findIn K (.ref C) "heard" = some (some (.ref f22)))
    (i22 : PySem.W.isFn K (.ref f22) = true)
    (l22 : K.lookup f22 = some ⟨oc22, od22, .func (PySem.W.fnOf "heard" "Way.heard" (defArgs sHeard) (defBody sHeard) (defScope sHeard) .none kV22 dc22 pm22 an22 cd22 ct22), sl22⟩)
    (c22 : PySem.W.codeIn K cd22 "Way.heard" = true)
    (k22 : PySem.W.keepIn K (.ref f22) = true)
    (a23 : PySem.W.findIn K (.ref C) "end_round" = some (some (.ref f23)))
    (i23 : PySem.W.isFn K (.ref f23) = true)
    (l23 : K.lookup f23 = some ⟨oc23, od23, .func (PySem.W.fnOf "end_round" "Way.end_round" (defArgs sEnd) (defBody sEnd) (defScope sEnd) .none kV23 dc23 pm23 an23 cd23 ct23), sl23⟩)
    (c23 : PySem.W.codeIn K cd23 "Way.end_round" = true)
    (k23 : PySem.W.keepIn K (.ref f23) = true)
    (a24 : PySem.W.findIn K (.ref C) "beat" = some (some (.ref f24)))
    (i24 : PySem.W.isFn K (.ref f24) = true)
    (l24 : K.lookup f24 = some ⟨oc24, od24, .func (PySem.W.fnOf "beat" "Way.beat" (defArgs sBeat) (defBody sBeat) (defScope sBeat) .none (.ref D24) dc24 pm24 an24 cd24 ct24), sl24⟩)
    (c24 : PySem.W.codeIn K cd24 "Way.beat" = true)
    (k24 : PySem.W.keepIn K (.ref f24) = true)
    (d24 : PySem.W.nsIn K D24 "word" = some (some .none))
    (a25 : PySem.W.findIn K (.ref C) "is_plain" = some (some (.ref f25)))
    (i25 : PySem.W.isFn K (.ref f25) = true)
    (l25 : K.lookup f25 = some ⟨oc25, od25, .func (PySem.W.fnOf "is_plain" "Way.is_plain" (defArgs sPlain) (defBody sPlain) (defScope sPlain) .none kV25 dc25 pm25 an25 cd25 ct25), sl25⟩)
    (c25 : PySem.W.codeIn K cd25 "Way.is_plain" = true)
    (k25 : PySem.W.keepIn K (.ref f25) = true)
    (a26 : PySem.W.findIn K (.ref C) "under_way" = some (some (.ref f26)))
    (i26 : PySem.W.isFn K (.ref f26) = true)
    (l26 : K.lookup f26 = some ⟨oc26, od26, .func (PySem.W.fnOf "under_way" "Way.under_way" (defArgs sUnder) (defBody sUnder) (defScope sUnder) .none kV26 dc26 pm26 an26 cd26 ct26), sl26⟩)
    (c26 : PySem.W.codeIn K cd26 "Way.under_way" = true)
    (k26 : PySem.W.keepIn K (.ref f26) = true)
    (pg : PySem.W.plainGet K C Str.empty = true)
    (hd : PySem.W.hasDictIn K C = true)
    (po : PySem.W.plainOver K C = true)
    (sa : PySem.W.findIn K (.ref C) "__setattr__" = some (some (.builtin "object.__setattr__")))
    (mk : PySem.W.makesIn K C = true)
    (kc : PySem.W.keepIn K (.ref C) = true)
    (n0 : PySem.W.findIn K (.ref C) "hold" = some none)
    (n1 : PySem.W.findIn K (.ref C) "miss" = some none)
    (n2 : PySem.W.findIn K (.ref C) "bound" = some none)
    (n3 : PySem.W.findIn K (.ref C) "lost_letters" = some none)
    (n4 : PySem.W.findIn K (.ref C) "lost_echoes" = some none)
    (n5 : PySem.W.findIn K (.ref C) "mark" = some none)
    (n6 : PySem.W.findIn K (.ref C) "bears" = some none)
    (n7 : PySem.W.findIn K (.ref C) "slot" = some none)
    (n8 : PySem.W.findIn K (.ref C) "last" = some none)
    (n9 : PySem.W.findIn K (.ref C) "took" = some none)
    (n10 : PySem.W.findIn K (.ref C) "box" = some none)
    (n11 : PySem.W.findIn K (.ref C) "letters" = some none)
    (n12 : PySem.W.findIn K (.ref C) "echoes" = some none)
    (b0 : PySem.W.nsIn K mainGlobals "isinstance" = some none)
    (b1 : PySem.W.nsIn K mainGlobals "int" = some none)
    (b2 : PySem.W.nsIn K mainGlobals "bool" = some none)
    (b3 : PySem.W.nsIn K mainGlobals "len" = some none)
    (b4 : PySem.W.nsIn K mainGlobals "all" = some none)
    (b5 : PySem.W.nsIn K mainGlobals "zip" = some none)
    (b6 : PySem.W.nsIn K mainGlobals "list" = some none)
    (b7 : PySem.W.nsIn K mainGlobals "tuple" = some none)
    (b8 : PySem.W.nsIn K mainGlobals "range" = some none)
    (b9 : PySem.W.nsIn K mainGlobals "abs" = some none)
    (b10 : PySem.W.nsIn K mainGlobals "max" = some none)
    (b11 : PySem.W.nsIn K mainGlobals "min" = some none)
    (m0 : PySem.W.nsIn K mainGlobals "MOST_HOLD" = some (some (.int 6 t1)))
    (m1 : PySem.W.nsIn K mainGlobals "MOST_MISS" = some (some (.int 4 t2)))
    (m2 : PySem.W.nsIn K mainGlobals "MOST_BOUND" = some (some (.int 40 t3)))
    (m3 : PySem.W.nsIn K mainGlobals "PARTS" = some (some (.int 8 t4)))
    (aF : PySem.W.nsIn K mainGlobals "FIRST" = some (some (.ref fF)))
    (lF : K.lookup fF = some ⟨.type "tuple", oF, .seq #[.int 0 u1, .int 0 u2, .none, .ref e1, .int 0 u3, .int 0 u4, .none, .ref e2] nF, sF⟩)
    (lE : K.lookup e1 = some ⟨.type "tuple", oE, .seq #[] nE, sE⟩)
    (lG : K.lookup e2 = some ⟨.type "tuple", oG, .seq #[] nG, sG⟩) :
    ∃ fd : FuncData, (∀ (s : Shared) (v : Value), BindsTo s fd ⟨[v], []⟩ [("_law_script", v)]) ∧ ∀ base : Heap, K.In base → base.Ns mainGlobals mg → FnOk P w K mg base CX0 7 fa fd ["_law_script"] (spLaw K) := by
  have e := hfa.symm.trans (PySem.W.mg_of X G a14)
  cases e
  have T : Txt K mg C := ⟨⟨pg, hd, po, sa⟩, (by
      intro x hx
      simp only [wk, List.mem_cons, List.not_mem_nil, or_false] at hx
      rcases hx with rfl | rfl | rfl | rfl | rfl | rfl | rfl | rfl | rfl | rfl | rfl | rfl | rfl
      · exact n0
      · exact n1
      · exact n2
      · exact n3
      · exact n4
      · exact n5
      · exact n6
      · exact n7
      · exact n8
      · exact n9
      · exact n10
      · exact n11
      · exact n12), PySem.W.mg_of X G aC, (by
      intro x hx
      simp only [blt, List.mem_cons, List.not_mem_nil, or_false] at hx
      rcases hx with rfl | rfl | rfl | rfl | rfl | rfl | rfl | rfl | rfl | rfl | rfl | rfl
      · exact PySem.W.mg_none_of X G b0
      · exact PySem.W.mg_none_of X G b1
      · exact PySem.W.mg_none_of X G b2
      · exact PySem.W.mg_none_of X G b3
      · exact PySem.W.mg_none_of X G b4
      · exact PySem.W.mg_none_of X G b5
      · exact PySem.W.mg_none_of X G b6
      · exact PySem.W.mg_none_of X G b7
      · exact PySem.W.mg_none_of X G b8
      · exact PySem.W.mg_none_of X G b9
      · exact PySem.W.mg_none_of X G b10
      · exact PySem.W.mg_none_of X G b11), ⟨_, PySem.W.mg_of X G m0⟩, ⟨_, PySem.W.mg_of X G m1⟩, ⟨_, PySem.W.mg_of X G m2⟩, ⟨_, PySem.W.mg_of X G m3⟩, fF, e1, e2, PySem.W.mg_of X G aF, sqT_in lF (by show 8 ≤ sizeLine; decide) (.cons ⟨_, rfl⟩ (.cons ⟨_, rfl⟩ (.cons rfl (.cons rfl (.cons ⟨_, rfl⟩ (.cons ⟨_, rfl⟩ (.cons rfl (.cons rfl .nil)))))))), sqT_in lE (Nat.zero_le _) .nil, sqT_in lG (Nat.zero_le _) .nil⟩
  refine ⟨PySem.W.fnOf "law" "law" (defArgs sLaw) (defBody sLaw) (defScope sLaw) .none kV14 dc14 pm14 an14 cd14 ct14, fun s v => .of_eq rfl, fun base _ _ => ?_⟩
  have H1 : Has P w K mg base 1 "is_whole" ["thing", "least", "most"] spWhole := ⟨f1, _, ok_whole (fun_mk (st := sWhole) l1 c1 k1) T, PySem.W.mg_of X G a1, k1, (fun_mk (st := sWhole) l1 c1 k1).binds (ps := ["thing", "least", "most"]) fun _ _ _ _ _ _ us hl => match us, hl with | [_, _, _], _ => rfl⟩
  have H2 : Has P w K mg base 1 "marks" ["hold"] spMarks := ⟨f2, _, ok_marks (fun_mk (st := sMarks) l2 c2 k2), PySem.W.mg_of X G a2, k2, (fun_mk (st := sMarks) l2 c2 k2).binds (ps := ["hold"]) fun _ _ _ _ _ _ us hl => match us, hl with | [_], _ => rfl⟩
  have H3 : Has P w K mg base 2 "is_borne" ["thing", "bound"] spBorne := ⟨f3, _, ok_borne (fun_mk (st := sBorne) l3 c3 k3) H1, PySem.W.mg_of X G a3, k3, (fun_mk (st := sBorne) l3 c3 k3).binds (ps := ["thing", "bound"]) fun _ _ _ _ _ _ us hl => match us, hl with | [_, _], _ => rfl⟩
  have H4 : Has P w K mg base 3 "is_store" ["thing", "hold", "bound"] spIsStore := ⟨f4, _, ok_isstore (fun_mk (st := sIsStore) l4 c4 k4) T H1 H3, PySem.W.mg_of X G a4, k4, (fun_mk (st := sIsStore) l4 c4 k4).binds (ps := ["thing", "hold", "bound"]) fun _ _ _ _ _ _ us hl => match us, hl with | [_, _, _], _ => rfl⟩
  have H5 : Has P w K mg base 1 "is_in_turn" ["row", "own", "ahead"] spTurn := ⟨f5, _, ok_turn (fun_mk (st := sTurn) l5 c5 k5) T, PySem.W.mg_of X G a5, k5, (fun_mk (st := sTurn) l5 c5 k5).binds (ps := ["row", "own", "ahead"]) fun _ _ _ _ _ _ us hl => match us, hl with | [_, _, _], _ => rfl⟩
  have H16 : HasM P w K mg base C 1 "put_down" ["self", "store"] (spPut K C) := ⟨f16, _, ok_put (fun_mk (st := sPut) l16 c16 k16) T, ⟨a16, i16, k16⟩, (fun_mk (st := sPut) l16 c16 k16).binds (ps := ["self", "store"]) fun _ _ _ _ _ _ us hl => match us, hl with | [_, _], _ => rfl⟩
  have H17 : HasM P w K mg base C 1 "store" ["self"] (spStore C) := ⟨f17, _, ok_store (fun_mk (st := sStore) l17 c17 k17) T, ⟨a17, i17, k17⟩, (fun_mk (st := sStore) l17 c17 k17).binds (ps := ["self"]) fun _ _ _ _ _ _ us hl => match us, hl with | [_], _ => rfl⟩
  have H18 : HasM P w K mg base C 4 "spoil" ["self", "store"] (spSpoil C) := ⟨f18, _, ok_spoil (fun_mk (st := sSpoil) l18 c18 k18) T H4 H16, ⟨a18, i18, k18⟩, (fun_mk (st := sSpoil) l18 c18 k18).binds (ps := ["self", "store"]) fun _ _ _ _ _ _ us hl => match us, hl with | [_, _], _ => rfl⟩
  have H19 : HasM P w K mg base C 1 "would_lose" ["self", "lost"] (spWould K C) := ⟨f19, _, ok_would (fun_mk (st := sWould) l19 c19 k19) T, ⟨a19, i19, k19⟩, (fun_mk (st := sWould) l19 c19 k19).binds (ps := ["self", "lost"]) fun _ _ _ _ _ _ us hl => match us, hl with | [_, _], _ => rfl⟩
  have H20 : HasM P w K mg base C 2 "must_bear" ["self", "lost"] (spMust K C) := ⟨f20, _, ok_must (fun_mk (st := sMust) l20 c20 k20) T H19, ⟨a20, i20, k20⟩, (fun_mk (st := sMust) l20 c20 k20).binds (ps := ["self", "lost"]) fun _ _ _ _ _ _ us hl => match us, hl with | [_, _], _ => rfl⟩
  have H21 : HasM P w K mg base C 1 "taken_up" ["self"] (spTaken C) := ⟨f21, _, ok_taken (fun_mk (st := sTaken) l21 c21 k21) T, ⟨a21, i21, k21⟩, (fun_mk (st := sTaken) l21 c21 k21).binds (ps := ["self"]) fun _ _ _ _ _ _ us hl => match us, hl with | [_], _ => rfl⟩
  have H23 : HasM P w K mg base C 2 "end_round" ["self", "bears", "slot"] (spEnd C) := ⟨f23, _, ok_end (fun_mk (st := sEnd) l23 c23 k23) T H2, ⟨a23, i23, k23⟩, (fun_mk (st := sEnd) l23 c23 k23).binds (ps := ["self", "bears", "slot"]) fun _ _ _ _ _ _ us hl => match us, hl with | [_, _, _], _ => rfl⟩
  have H22 : HasM P w K mg base C 3 "heard" ["self"] (spHeard C) := ⟨f22, _, ok_heard (fun_mk (st := sHeard) l22 c22 k22) T H23, ⟨a22, i22, k22⟩, (fun_mk (st := sHeard) l22 c22 k22).binds (ps := ["self"]) fun _ _ _ _ _ _ us hl => match us, hl with | [_], _ => rfl⟩
  have H25 : HasM P w K mg base C 2 "is_plain" ["self"] (spPlain C) := ⟨f25, _, ok_plain (fun_mk (st := sPlain) l25 c25 k25) T H2 H5, ⟨a25, i25, k25⟩, (fun_mk (st := sPlain) l25 c25 k25).binds (ps := ["self"]) fun _ _ _ _ _ _ us hl => match us, hl with | [_], _ => rfl⟩
  have H26 : HasM P w K mg base C 3 "under_way" ["self"] (spUnder C) := ⟨f26, _, ok_under (fun_mk (st := sUnder) l26 c26 k26) T H25, ⟨a26, i26, k26⟩, (fun_mk (st := sUnder) l26 c26 k26).binds (ps := ["self"]) fun _ _ _ _ _ _ us hl => match us, hl with | [_], _ => rfl⟩
  have FB := funK_mk (st := sBeat) (v := .non) l24 c24 k24 d24 rfl
  have FI := funK_mk (st := sInit) (v := .int 1) l15 c15 k15 d15 ⟨_, rfl⟩
  have BT : HasBeat P w K mg base C := ⟨f24, _, ok_beat FB T H3 H20 H19 H21 H22, ⟨a24, i24, k24⟩, kb_beat2 FB, kb_beat3 FB⟩
  have IN : HasInit P w K mg base C := ⟨f15, _, ok_init FI T H1 H16, ⟨mk, a15, i15, kc⟩, kb_init FI⟩
  have H7 : Has P w K mg base 1 "_law_take" ["_law_bag_here", "_law_many"] spTake := ⟨f7, _, ok_take (fun_mk (st := sTake) l7 c7 k7), PySem.W.mg_of X G a7, k7, (fun_mk (st := sTake) l7 c7 k7).binds (ps := ["_law_bag_here", "_law_many"]) fun _ _ _ _ _ _ us hl => match us, hl with | [_, _], _ => rfl⟩
  have H6 : Has P w K mg base 1 "_law_bag" ["_law_script", "_law_at"] (spBag K) := ⟨f6, _, ok_bag (fun_mk (st := sBag) l6 c6 k6) T, PySem.W.mg_of X G a6, k6, (fun_mk (st := sBag) l6 c6 k6).binds (ps := ["_law_script", "_law_at"]) fun _ _ _ _ _ _ us hl => match us, hl with | [_, _], _ => rfl⟩
  have H8 : Has P w K mg base 2 "_law_store" ["_law_bag_here", "_law_size", "_law_top"] spLStore := ⟨f8, _, ok_lstore (fun_mk (st := sLStore) l8 c8 k8) T H7, PySem.W.mg_of X G a8, k8, (fun_mk (st := sLStore) l8 c8 k8).binds (ps := ["_law_bag_here", "_law_size", "_law_top"]) fun _ _ _ _ _ _ us hl => match us, hl with | [_, _, _], _ => rfl⟩
  have H9 : Has P w K mg base 2 "_law_gone" ["_law_bag_here", "_law_runs", "_law_gap", "_law_is_answered"] spGone := ⟨f9, _, ok_gone (fun_mk (st := sGone) l9 c9 k9) T H7, PySem.W.mg_of X G a9, k9, (fun_mk (st := sGone) l9 c9 k9).binds (ps := ["_law_bag_here", "_law_runs", "_law_gap", "_law_is_answered"]) fun _ _ _ _ _ _ us hl => match us, hl with | [_, _, _, _], _ => rfl⟩
  have H10 : Has P w K mg base 2 "_law_habit" ["_law_bag_here", "_law_turn", "_law_habit_here"] spHabit := ⟨f10, _, ok_habit (fun_mk (st := sHabit) l10 c10 k10) H7, PySem.W.mg_of X G a10, k10, (fun_mk (st := sHabit) l10 c10 k10).binds (ps := ["_law_bag_here", "_law_turn", "_law_habit_here"]) fun _ _ _ _ _ _ us hl => match us, hl with | [_, _, _], _ => rfl⟩
  have H11 : Has P w K mg base 3 "_law_lost_by" ["_law_bag_here", "_law_way", "_law_runs", "_law_gap", "_law_habit_here"] (spLost C) := ⟨f11, _, ok_lost (fun_mk (st := sLost) l11 c11 k11) T H17 H9, PySem.W.mg_of X G a11, k11, (fun_mk (st := sLost) l11 c11 k11).binds (ps := ["_law_bag_here", "_law_way", "_law_runs", "_law_gap", "_law_habit_here"]) fun _ _ _ _ _ _ us hl => match us, hl with | [_, _, _, _, _], _ => rfl⟩
  have H13 : Has P w K mg base 5 "_law_all_come" ["_law_bag_here", "_law_way", "_law_runs", "_law_gap", "_law_due"] (spAll C) := ⟨f13, _, ok_all (fun_mk (st := sAll) l13 c13 k13) T BT H11 H26, PySem.W.mg_of X G a13, k13, (fun_mk (st := sAll) l13 c13 k13).binds (ps := ["_law_bag_here", "_law_way", "_law_runs", "_law_gap", "_law_due"]) fun _ _ _ _ _ _ us hl => match us, hl with | [_, _, _, _, _], _ => rfl⟩
  have H12 : Has P w K mg base 6 "_law_brings" ["_law_bag_here", "_law_way", "_law_runs", "_law_gap", "_law_top"] (spBrings C) := ⟨f12, _, ok_brings (fun_mk (st := sBrings) l12 c12 k12) T BT H11 H26 H7 H10 H13, PySem.W.mg_of X G a12, k12, (fun_mk (st := sBrings) l12 c12 k12).binds (ps := ["_law_bag_here", "_law_way", "_law_runs", "_law_gap", "_law_top"]) fun _ _ _ _ _ _ us hl => match us, hl with | [_, _, _, _, _], _ => rfl⟩
  exact ok_law (fun_mk (st := sLaw) l14 c14 k14) T BT IN H11 H7 H6 H8 H18 H25 H12
theorem walk {l : PySem.W.OpenLaw} {q : Program} {loose : List Str} {XP : (Str → Option Value) → Heap → Prop} {YP : World → Heap → Prop} {d : DefRec} {K : Params → PySem.W.Frag} (hn : l.most = some 63) (hdf : d.params.defaults = [])
    (hY : ∀ (w : World) (h : Heap), YP w h → (K w.params).In h)
    (F : ∀ (w : World) (mg : Str → Option Value) (fa : Addr) (h : Heap), (K w.params).In h → h.Ns mainGlobals mg → mg d.name = some (.ref fa) →
      ∃ fd : FuncData, (∀ (s : Shared) (u : Value), BindsTo s fd ⟨[u], []⟩ [("_law_script", u)]) ∧ ∀ base : Heap, (K w.params).In base → base.Ns mainGlobals mg → FnOk l.prog w (K w.params) mg base CX0 7 fa fd ["_law_script"] (spLaw (K w.params))) :
    PySem.W.WalkO q loose XP YP l.row.toRowW d [] (fun f vs => PySem.call f vs) :=
  L2.walk_of (n := 63) (k := 7) (x := "_law_script") (CX := fun _ => CX0) (sp := fun w => spLaw (K w.params)) hn (by decide) hdf ⟨rfl, by decide, by decide⟩ hY F (fun _ _ a ns hl hO hS => ⟨a, ns, rfl, .of hO hS, hl, fun _ => rfl⟩) fun _ _ _ _ _ z => z
end Wk
open PySem PySem.W PyProof.Rows in
set_option maxRecDepth 100000 in
set_option maxHeartbeats 0 in
theorem PySem.Challenge.cw_anystore_k61_whole_words_once_in_order_holds : PySem.Challenge.rw_anystore_k61_whole_words_once_in_order.Holds := by
  w_on; o_law; k_head; (case hw => w_witness2)
  k_fill
  refine Wk.walk (l := PySem.Challenge.rw_anystore_k61_whole_words_once_in_order) rfl rfl (fun w h Y => PySem.W.kIn_of Y) ?F
  case F =>
    intro w mg fa h KX G hmg
    refine' Wk.all_mk KX G hmg ?aC ?a1 ?l1 ?c1 ?k1 ?a2 ?l2 ?c2 ?k2 ?a3 ?l3 ?c3 ?k3 ?a4 ?l4 ?c4 ?k4 ?a5 ?l5 ?c5 ?k5 ?a6 ?l6 ?c6 ?k6 ?a7 ?l7 ?c7 ?k7 ?a8 ?l8 ?c8 ?k8 ?a9 ?l9 ?c9 ?k9 ?a10 ?l10 ?c10 ?k10 ?a11 ?l11 ?c11 ?k11 ?a12 ?l12 ?c12 ?k12 ?a13 ?l13 ?c13 ?k13 ?a14 ?l14 ?c14 ?k14 ?a15 ?i15 ?l15 ?c15 ?k15 ?d15 ?a16 ?i16 ?l16 ?c16 ?k16 ?a17 ?i17 ?l17 ?c17 ?k17 ?a18 ?i18 ?l18 ?c18 ?k18 ?a19 ?i19 ?l19 ?c19 ?k19 ?a20 ?i20 ?l20 ?c20 ?k20 ?a21 ?i21 ?l21 ?c21 ?k21 ?a22 ?i22 ?l22 ?c22 ?k22 ?a23 ?i23 ?l23 ?c23 ?k23 ?a24 ?i24 ?l24 ?c24 ?k24 ?d24 ?a25 ?i25 ?l25 ?c25 ?k25 ?a26 ?i26 ?l26 ?c26 ?k26 ?pg ?hd ?po ?sa ?mk ?kc ?n0 ?n1 ?n2 ?n3 ?n4 ?n5 ?n6 ?n7 ?n8 ?n9 ?n10 ?n11 ?n12 ?b0 ?b1 ?b2 ?b3 ?b4 ?b5 ?b6 ?b7 ?b8 ?b9 ?b10 ?b11 ?m0 ?m1 ?m2 ?m3 ?aF ?lF ?lE ?lG
    (case aC => k_is)
    (case a1 => k_is)
    (case l1 => k_is)
    (case c1 => k_is)
    (case k1 => k_is)
    (case a2 => k_is)
    (case l2 => k_is)
    (case c2 => k_is)
    (case k2 => k_is)
    (case a3 => k_is)
    (case l3 => k_is)
    (case c3 => k_is)
    (case k3 => k_is)
    (case a4 => k_is)
    (case l4 => k_is)
    (case c4 => k_is)
    (case k4 => k_is)
    (case a5 => k_is)
    (case l5 => k_is)
    (case c5 => k_is)
    (case k5 => k_is)
    (case a6 => k_is)
    (case l6 => k_is)
    (case c6 => k_is)
    (case k6 => k_is)
    (case a7 => k_is)
    (case l7 => k_is)
    (case c7 => k_is)
    (case k7 => k_is)
    (case a8 => k_is)
    (case l8 => k_is)
    (case c8 => k_is)
    (case k8 => k_is)
    (case a9 => k_is)
    (case l9 => k_is)
    (case c9 => k_is)
    (case k9 => k_is)
    (case a10 => k_is)
    (case l10 => k_is)
    (case c10 => k_is)
    (case k10 => k_is)
    (case a11 => k_is)
    (case l11 => k_is)
    (case c11 => k_is)
    (case k11 => k_is)
    (case a12 => k_is)
    (case l12 => k_is)
    (case c12 => k_is)
    (case k12 => k_is)
    (case a13 => k_is)
    (case l13 => k_is)
    (case c13 => k_is)
    (case k13 => k_is)
    (case a14 => k_is)
    (case l14 => k_is)
    (case c14 => k_is)
    (case k14 => k_is)
    (case a15 => k_is)
    (case i15 => k_is)
    (case l15 => k_is)
    (case c15 => k_is)
    (case k15 => k_is)
    (case d15 => k_is)
    (case a16 => k_is)
    (case i16 => k_is)
    (case l16 => k_is)
    (case c16 => k_is)
    (case k16 => k_is)
    (case a17 => k_is)
    (case i17 => k_is)
    (case l17 => k_is)
    (case c17 => k_is)
    (case k17 => k_is)
    (case a18 => k_is)
    (case i18 => k_is)
    (case l18 => k_is)
    (case c18 => k_is)
    (case k18 => k_is)
    (case a19 => k_is)
    (case i19 => k_is)
    (case l19 => k_is)
    (case c19 => k_is)
    (case k19 => k_is)
    (case a20 => k_is)
    (case i20 => k_is)
    (case l20 => k_is)
    (case c20 => k_is)
    (case k20 => k_is)
    (case a21 => k_is)
    (case i21 => k_is)
    (case l21 => k_is)
    (case c21 => k_is)
    (case k21 => k_is)
    (case a22 => k_is)
    (case i22 => k_is)
    (case l22 => k_is)
    (case c22 => k_is)
    (case k22 => k_is)
    (case a23 => k_is)
    (case i23 => k_is)
    (case l23 => k_is)
    (case c23 => k_is)
    (case k23 => k_is)
    (case a24 => k_is)
    (case i24 => k_is)
    (case l24 => k_is)
    (case c24 => k_is)
    (case k24 => k_is)
    (case d24 => k_is)
    (case a25 => k_is)
    (case i25 => k_is)
    (case l25 => k_is)
    (case c25 => k_is)
    (case k25 => k_is)
    (case a26 => k_is)
    (case i26 => k_is)
    (case l26 => k_is)
    (case c26 => k_is)
    (case k26 => k_is)
    (case pg => k_is)
    (case hd => k_is)
    (case po => k_is)
    (case sa => k_is)
    (case mk => k_is)
    (case kc => k_is)
    (case n0 => k_is)
    (case n1 => k_is)
    (case n2 => k_is)
    (case n3 => k_is)
    (case n4 => k_is)
    (case n5 => k_is)
    (case n6 => k_is)
    (case n7 => k_is)
    (case n8 => k_is)
    (case n9 => k_is)
    (case n10 => k_is)
    (case n11 => k_is)
    (case n12 => k_is)
    (case b0 => k_is)
    (case b1 => k_is)
    (case b2 => k_is)
    (case b3 => k_is)
    (case b4 => k_is)
    (case b5 => k_is)
    (case b6 => k_is)
    (case b7 => k_is)
    (case b8 => k_is)
    (case b9 => k_is)
    (case b10 => k_is)
    (case b11 => k_is)
    (case m0 => k_is)
    (case m1 => k_is)
    (case m2 => k_is)
    (case m3 => k_is)
    (case aF => k_is)
    (case lF => k_is)
    (case lE => k_is)
    (case lG => k_is)
#print axioms PySem.Challenge.cw_anystore_k61_whole_words_once_in_order_holds
