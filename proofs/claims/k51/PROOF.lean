import PyProof.Rows.All
import Wide.All
import OpenK.AllK
import Wide.FinOn
import HandS.ForMost
import HandS.Flow
import HandS.Codes
import HandS.Property
import HandS.SetKeys
import HandS.IsInst
import HandS.ClsMeth
import HandS.Wide
import HandS.More
import HandS.Deep
import HandS.Zip
import HandS.SortOrd
import HandS.SortRule
import KE.OsRunLaw
import PySem.Challenge.RW_neverrounds_k51_whole_house
set_option Elab.async false
set_option linter.all false
set_option maxRecDepth 100000
set_option maxHeartbeats 8000000
/-! The waiting house in plain Lean: states, moves, the invariant. No program in sight. -/
namespace K51
variable {R : Type} [DecidableEq R]

structure Row (R : Type) where
  room : R
  come : Int
  enter : Int
  leave : Int

structure HS (R : Type) where
  rows : Nat → List (Row R)
  due : Nat → Option Int
  occ : R → Option Nat
  keys : List R
  q : R → List (Int × Nat)

def fset {α β : Type} [DecidableEq α] (f : α → β) (a : α) (b : β) : α → β := fun x => if x = a then b else f x
theorem fset_eq {α β : Type} [DecidableEq α] {f : α → β} {a : α} {b : β} : fset f a b a = b := by simp [fset]
theorem fset_ne {α β : Type} [DecidableEq α] {f : α → β} {a x : α} {b : β} (h : x ≠ a) : fset f a b x = f x := by simp [fset, h]

/-- (c, p) before (d, q) -/
def Lex (a b : Int × Nat) : Prop := a.1 < b.1 ∨ (a.1 = b.1 ∧ a.2 < b.2)

structure Cfg (R : Type) where
  hall : R
  ps : Nat → List (R × Int)
  start : Nat → Int
  n : Nat

variable (C : Cfg R)

def HS.leave (st : HS R) (p : Nat) : HS R :=
  { st with
    due := fset st.due p none
    occ := match (st.rows p).getLast? with
      | none => st.occ
      | some row => if row.room = C.hall then st.occ else fset st.occ row.room none }
def HS.enter (st : HS R) (p : Nat) (come now : Int) : HS R :=
  match (C.ps p)[(st.rows p).length]? with
  | none => st
  | some (room, len) =>
    { st with
      rows := fset st.rows p (st.rows p ++ [⟨room, come, now, now + len⟩])
      due := fset st.due p (some (now + len))
      occ := if room = C.hall then st.occ else fset st.occ room (some p) }
def HS.join (st : HS R) (room : R) (e : Int × Nat) : HS R :=
  { st with
    keys := if room ∈ st.keys then st.keys else st.keys ++ [room]
    q := fset st.q room (st.q room ++ [e]) }
def HS.come (now : Int) (st : HS R) (p : Nat) : HS R :=
  match (C.ps p)[(st.rows p).length]? with
  | none => st
  | some (room, _) => if room = C.hall then st.enter C p now now else st.join room (now, p)
def HS.serve (now : Int) (st : HS R) (room : R) : HS R :=
  match st.q room with
  | [] => st
  | (c, p) :: rest => if st.occ room = none then HS.enter C { st with q := fset st.q room rest } p c now else st
def HS.comers (st : HS R) (now : Int) : List Nat := (List.range C.n).filter fun p => decide (st.due p = some now)
def HS.happen (st : HS R) (now : Int) (order : List R) : HS R :=
  order.foldl (HS.serve C now) ((st.comers C now).foldl (HS.come C now) ((st.comers C now).foldl (HS.leave C) st))

def IsRow (st : HS R) (p i : Nat) (row : Row R) : Prop := (st.rows p)[i]? = some row
def arr (st : HS R) (p : Nat) : Int := match (st.rows p).getLast? with | none => C.start p | some row => row.leave

structure Inv (st : HS R) (lv tr : List Nat) (now : Int) : Prop where
  len : ∀ p, (st.rows p).length ≤ (C.ps p).length
  room : ∀ p i row, IsRow st p i row → ∃ l, (C.ps p)[i]? = some (row.room, l) ∧ row.leave = row.enter + l
  come0 : ∀ p row, IsRow st p 0 row → row.come = C.start p
  come1 : ∀ p i row row', IsRow st p i row → IsRow st p (i + 1) row' → row'.come = row.leave
  ce : ∀ p i row, IsRow st p i row → row.come ≤ row.enter
  hallE : ∀ p i row, IsRow st p i row → row.room = C.hall → row.enter = row.come
  ent : ∀ p i row, IsRow st p i row → row.enter ≤ now
  noLap : ∀ p i row p' i' row', IsRow st p i row → IsRow st p' i' row' → ¬ (p = p' ∧ i = i') → row.room = row'.room → row.room ≠ C.hall → row.leave ≤ row'.enter ∨ row'.leave ≤ row.enter
  fifo : ∀ p i row p' i' row', IsRow st p i row → IsRow st p' i' row' → row.room = row'.room → row.room ≠ C.hall → Lex (row.come, p) (row'.come, p') → row.enter ≤ row'.enter
  served : ∀ p i row, IsRow st p i row → row.room ≠ C.hall → row.come < row.enter → ∃ p' i' row', IsRow st p' i' row' ∧ row'.room = row.room ∧ row'.leave = row.enter
  cur : ∀ p i row, IsRow st p i row → row.room ≠ C.hall → row.leave ≤ now ∨ (st.occ row.room = some p ∧ i + 1 = (st.rows p).length)
  occIn : ∀ r p, st.occ r = some p → (∃ d, st.due p = some d) ∧ r ≠ C.hall ∧ ∃ row, (st.rows p).getLast? = some row ∧ row.room = r
  inOcc : ∀ p i row d, st.due p = some d → IsRow st p i row → i + 1 = (st.rows p).length → row.room ≠ C.hall → st.occ row.room = some p
  due : ∀ p d, st.due p = some d → now ≤ d ∧ (d = now → p ∈ lv) ∧ d = arr C st p ∧ p < C.n
  lvD : ∀ p, p ∈ lv → st.due p = some now
  trD : ∀ p, p ∈ tr → st.due p = none ∧ arr C st p ≤ now
  idle : ∀ p, st.due p = none → p ∈ tr ∨ (st.rows p).length = (C.ps p).length ∨ ∃ r c, (c, p) ∈ st.q r
  que : ∀ r c p, (c, p) ∈ st.q r → st.due p = none ∧ c = arr C st p ∧ c ≤ now ∧ r ≠ C.hall ∧ p ∉ tr ∧ ∃ l, (C.ps p)[(st.rows p).length]? = some (r, l)
  qsort : ∀ r, (st.q r).Pairwise Lex
  qrow : ∀ r c p p' i' row', (c, p) ∈ st.q r → IsRow st p' i' row' → row'.room = r → Lex (row'.come, p') (c, p)
  qkey : ∀ r, st.q r ≠ [] → r ∈ st.keys
  wait : ∀ r c p, (c, p) ∈ st.q r → c < now → st.occ r ≠ none ∨ ∃ p' i' row', IsRow st p' i' row' ∧ row'.room = r ∧ row'.leave = now

/-- what is given of the plans -/
structure Cfg.Ok : Prop where
  pos : ∀ (p i : Nat) (r : R) (l : Int), (C.ps p)[i]? = some (r, l) → 1 ≤ l
  out : ∀ p : Nat, C.n ≤ p → C.ps p = []

/-- in the come phase: nobody came to a room in this very moment but those of the queues, earlier in the list than who is to come -/
structure Fresh (st : HS R) (tr : List Nat) (now : Int) : Prop where
  arrT : ∀ p, p ∈ tr → arr C st p = now
  row : ∀ p i row, IsRow st p i row → row.room ≠ C.hall → row.come < now
  que : ∀ r c p, (c, p) ∈ st.q r → c < now ∨ ∀ t ∈ tr, p < t

/-- between two events -/
def Calm (st : HS R) : Prop := ∀ r, st.q r ≠ [] → st.occ r ≠ none

variable {C}
theorem isRow_snoc {st : HS R} {p : Nat} {new : Row R} {x i : Nat} {r : Row R} {st' : HS R} (e : st'.rows = fset st.rows p (st.rows p ++ [new])) :
    IsRow st' x i r ↔ IsRow st x i r ∨ (x = p ∧ i = (st.rows p).length ∧ r = new) := by
  unfold IsRow
  rw [e]
  by_cases h : x = p
  · subst h
    rw [fset_eq]
    by_cases hi : i < (st.rows x).length
    · rw [List.getElem?_append_left hi]
      constructor
      · exact Or.inl
      · rintro (h | ⟨_, h, _⟩)
        · exact h
        · omega
    · rw [List.getElem?_append_right (by omega)]
      have e0 : (st.rows x)[i]? = none := List.getElem?_eq_none_iff.mpr (by omega)
      rw [e0]
      by_cases hi2 : i = (st.rows x).length
      · subst hi2
        simp [eq_comm]
      · have : i - (st.rows x).length ≠ 0 := by omega
        cases hj : i - (st.rows x).length with
        | zero => omega
        | succ j => simp [hi2]
  · rw [fset_ne h]
    simp [h]

theorem isRow_lt {st : HS R} {p i : Nat} {r : Row R} (h : IsRow st p i r) : i < (st.rows p).length := (List.getElem?_eq_some_iff.mp h).1
theorem getLast_row {st : HS R} {p : Nat} {r : Row R} (h : (st.rows p).getLast? = some r) : IsRow st p ((st.rows p).length - 1) r ∧ 0 < (st.rows p).length := by
  rw [List.getLast?_eq_getElem?] at h
  refine ⟨h, ?_⟩
  have := (List.getElem?_eq_some_iff.mp h).1
  omega
theorem row_getLast {st : HS R} {p i : Nat} {r : Row R} (h : IsRow st p i r) (hi : i + 1 = (st.rows p).length) : (st.rows p).getLast? = some r := by
  rw [List.getLast?_eq_getElem?, show (st.rows p).length - 1 = i by omega]
  exact h

theorem arr_eq {st st' : HS R} (p : Nat) (h : st'.rows p = st.rows p) : arr C st' p = arr C st p := by
  unfold arr
  rw [h]

/-- entering -/
theorem Inv.enter {st : HS R} {lv tr tr' : List Nat} {now : Int} (ok : C.Ok) (I : Inv C st lv tr now) {p : Nat} {c : Int} {r : R} {l : Int}
    (hs : (C.ps p)[(st.rows p).length]? = some (r, l)) (hd : st.due p = none) (hc : c = arr C st p) (hcn : c ≤ now) (htr : ∀ x, x ∈ tr' ↔ x ∈ tr ∧ x ≠ p) (hq : ∀ r' c', (c', p) ∉ st.q r')
    (hh : r = C.hall → c = now)
    (ho : r ≠ C.hall → st.occ r = none) (hrow : ∀ p' i' row', IsRow st p' i' row' → row'.room = r → r ≠ C.hall → Lex (row'.come, p') (c, p))
    (hque : ∀ c' p', (c', p') ∈ st.q r → r ≠ C.hall → Lex (c, p) (c', p'))
    (hsv : r ≠ C.hall → c < now → ∃ p' i' row', IsRow st p' i' row' ∧ row'.room = r ∧ row'.leave = now) : Inv C (st.enter C p c now) lv tr' now := by
  have hl := ok.pos _ _ _ _ hs
  have e : st.enter C p c now = { st with rows := fset st.rows p (st.rows p ++ [⟨r, c, now, now + l⟩]), due := fset st.due p (some (now + l)), occ := if r = C.hall then st.occ else fset st.occ r (some p) } := by
    unfold HS.enter
    rw [hs]
  rw [e]
  have hlt : (st.rows p).length < (C.ps p).length := (List.getElem?_eq_some_iff.mp hs).1
  have key : ∀ {x i : Nat} {w : Row R}, IsRow { st with rows := fset st.rows p (st.rows p ++ [⟨r, c, now, now + l⟩]), due := fset st.due p (some (now + l)), occ := if r = C.hall then st.occ else fset st.occ r (some p) } x i w ↔ IsRow st x i w ∨ (x = p ∧ i = (st.rows p).length ∧ w = ⟨r, c, now, now + l⟩) := isRow_snoc rfl
  have arrO : ∀ x, x ≠ p → arr C { st with rows := fset st.rows p (st.rows p ++ [⟨r, c, now, now + l⟩]), due := fset st.due p (some (now + l)), occ := if r = C.hall then st.occ else fset st.occ r (some p) } x = arr C st x := fun x hx => arr_eq x (fset_ne hx)
  have arrP : arr C { st with rows := fset st.rows p (st.rows p ++ [⟨r, c, now, now + l⟩]), due := fset st.due p (some (now + l)), occ := if r = C.hall then st.occ else fset st.occ r (some p) } p = now + l := by
    unfold arr
    simp [fset_eq]
  refine ⟨?_, ?_, ?_, ?_, ?_, ?_, ?_, ?_, ?_, ?_, ?_, ?_, ?_, ?_, ?_, ?_, ?_, ?_, ?_, ?_, ?_, ?_⟩
  · -- len
    intro x
    show (fset st.rows p _ x).length ≤ _
    by_cases hx : x = p
    · subst hx
      rw [fset_eq]
      simp
      omega
    · rw [fset_ne hx]
      exact I.len x
  · -- room
    intro x i w h
    rcases key.mp h with h | ⟨rfl, rfl, rfl⟩
    · exact I.room _ _ _ h
    · exact ⟨l, hs, rfl⟩
  · -- come0
    intro x w h
    rcases key.mp h with h | ⟨rfl, h0, rfl⟩
    · exact I.come0 _ _ h
    · have : st.rows x = [] := List.length_eq_zero_iff.mp h0.symm
      rw [hc]
      unfold arr
      rw [this]
      rfl
  · -- come1
    intro x i w w' h h'
    rcases key.mp h with hA | ⟨rfl, hi, rfl⟩
    · rcases key.mp h' with h' | ⟨rfl, hi, rfl⟩
      · exact I.come1 _ _ _ _ hA h'
      · show c = w.leave
        rw [hc]
        unfold arr
        rw [row_getLast hA hi]
    · rcases key.mp h' with h' | ⟨_, hi', rfl⟩
      · have := isRow_lt h'
        omega
      · omega
  · -- ce
    intro x i w h
    rcases key.mp h with h | ⟨rfl, rfl, rfl⟩
    · exact I.ce _ _ _ h
    · exact hcn
  · -- hallE
    intro x i w h hw
    rcases key.mp h with h | ⟨rfl, rfl, rfl⟩
    · exact I.hallE _ _ _ h hw
    · exact (hh hw).symm
  · -- ent
    intro x i w h
    rcases key.mp h with h | ⟨rfl, rfl, rfl⟩
    · exact I.ent _ _ _ h
    · exact Int.le_refl _
  · -- noLap
    intro x i w x' i' w' h h' hne hr hh'
    have old : ∀ y j u, IsRow st y j u → u.room = r → r ≠ C.hall → u.leave ≤ now := fun y j u hu hur hrh => by
      rcases I.cur y j u hu (by rw [hur]; exact hrh) with q | ⟨q, _⟩
      · exact q
      · rw [hur, ho hrh] at q
        cases q
    rcases key.mp h with hA | ⟨rfl, rfl, rfl⟩
    · rcases key.mp h' with hB | ⟨rfl, rfl, rfl⟩
      · exact I.noLap _ _ _ _ _ _ hA hB hne hr hh'
      · exact .inl (old _ _ _ hA hr (by rw [← show w.room = r from hr]; exact hh'))
    · rcases key.mp h' with hB | ⟨rfl, rfl, rfl⟩
      · exact .inr (old _ _ _ hB hr.symm hh')
      · exact absurd ⟨rfl, rfl⟩ hne
  · -- fifo
    intro x i w x' i' w' h h' hr hh' hlx
    rcases key.mp h with hA | ⟨rfl, rfl, rfl⟩
    · rcases key.mp h' with hB | ⟨rfl, rfl, rfl⟩
      · exact I.fifo _ _ _ _ _ _ hA hB hr hh' hlx
      · exact I.ent _ _ _ hA
    · rcases key.mp h' with hB | ⟨rfl, rfl, rfl⟩
      · have := hrow _ _ _ hB hr.symm hh'
        unfold Lex at this hlx
        simp only at this hlx
        omega
      · exact Int.le_refl _
  · -- served
    intro x i w h hw hlt'
    rcases key.mp h with h | ⟨rfl, rfl, rfl⟩
    · obtain ⟨p', i', row', h1, h2, h3⟩ := I.served _ _ _ h hw hlt'
      exact ⟨p', i', row', key.mpr (.inl h1), h2, h3⟩
    · obtain ⟨p', i', row', h1, h2, h3⟩ := hsv hw hlt'
      exact ⟨p', i', row', key.mpr (.inl h1), h2, h3⟩
  · -- cur
    intro x i w h hw
    show w.leave ≤ now ∨ ((if r = C.hall then st.occ else fset st.occ r (some p)) w.room = some x ∧ i + 1 = (fset st.rows p (st.rows p ++ [⟨r, c, now, now + l⟩]) x).length)
    rcases key.mp h with h | ⟨rfl, rfl, rfl⟩
    · rcases I.cur _ _ _ h hw with q | ⟨q, q2⟩
      · exact .inl q
      · have hx : x ≠ p := fun z => by
          obtain ⟨⟨d, e⟩, _⟩ := I.occIn _ _ q
          rw [z, hd] at e
          cases e
        rw [fset_ne hx]
        by_cases hrh : r = C.hall
        · rw [if_pos hrh]
          exact .inr ⟨q, q2⟩
        · rw [if_neg hrh]
          by_cases hwr : w.room = r
          · rw [hwr, ho hrh] at q
            cases q
          · rw [fset_ne hwr]
            exact .inr ⟨q, q2⟩
    · rw [if_neg hw, fset_eq, fset_eq]
      exact .inr ⟨rfl, by simp⟩
  · -- occIn
    intro r' x h
    have h : (if r = C.hall then st.occ else fset st.occ r (some p)) r' = some x := h
    show (∃ d, fset st.due p (some (now + l)) x = some d) ∧ r' ≠ C.hall ∧ ∃ row, (fset st.rows p (st.rows p ++ [⟨r, c, now, now + l⟩]) x).getLast? = some row ∧ row.room = r'
    have old : st.occ r' = some x → x ≠ p := fun q z => by
      obtain ⟨⟨d, e⟩, _⟩ := I.occIn _ _ q
      rw [z, hd] at e
      cases e
    by_cases hrh : r = C.hall
    · rw [if_pos hrh] at h
      rw [fset_ne (old h), fset_ne (old h)]
      exact I.occIn _ _ h
    · rw [if_neg hrh] at h
      by_cases hr' : r' = r
      · subst hr'
        rw [fset_eq] at h
        cases h
        rw [fset_eq, fset_eq]
        exact ⟨⟨_, rfl⟩, hrh, _, List.getLast?_concat, rfl⟩
      · rw [fset_ne hr'] at h
        rw [fset_ne (old h), fset_ne (old h)]
        exact I.occIn _ _ h
  · -- inOcc
    intro x i w d h1 h2 h3 h4
    show (if r = C.hall then st.occ else fset st.occ r (some p)) w.room = some x
    have h3 : i + 1 = (fset st.rows p (st.rows p ++ [⟨r, c, now, now + l⟩]) x).length := h3
    have h1 : fset st.due p (some (now + l)) x = some d := h1
    by_cases hx : x = p
    · subst hx
      rw [fset_eq] at h3
      simp at h3
      rcases key.mp h2 with h | ⟨_, _, rfl⟩
      · have := isRow_lt h
        omega
      · rw [if_neg h4]
        exact fset_eq
    · rw [fset_ne hx] at h3 h1
      rcases key.mp h2 with h | ⟨h, _, _⟩
      · have q := I.inOcc _ _ _ _ h1 h h3 h4
        by_cases hrh : r = C.hall
        · rw [if_pos hrh]
          exact q
        · rw [if_neg hrh]
          by_cases hwr : w.room = r
          · rw [hwr, ho hrh] at q
            cases q
          · rw [fset_ne hwr]
            exact q
      · exact absurd h hx
  · -- due
    intro x d h
    have h : fset st.due p (some (now + l)) x = some d := h
    by_cases hx : x = p
    · subst hx
      rw [fset_eq] at h
      cases h
      refine ⟨by omega, fun z => by omega, arrP.symm, ?_⟩
      rcases Nat.lt_or_ge x C.n with q | q
      · exact q
      · rw [ok.out x q] at hlt
        simp at hlt
    · rw [fset_ne hx] at h
      rw [arrO x hx]
      exact I.due _ _ h
  · -- lvD
    intro x hx
    show fset st.due p _ x = _
    have q := I.lvD x hx
    have : x ≠ p := fun z => by rw [z, hd] at q; cases q
    rw [fset_ne this]
    exact q
  · -- trD
    intro x hx
    obtain ⟨hx, this⟩ := (htr x).mp hx
    rw [arrO x this]
    refine ⟨?_, (I.trD x hx).2⟩
    show fset st.due p _ x = _
    rw [fset_ne this]
    exact (I.trD x hx).1
  · -- idle
    intro x h
    have h : fset st.due p (some (now + l)) x = none := h
    have hx : x ≠ p := fun z => by
      subst z
      rw [fset_eq] at h
      cases h
    rw [fset_ne hx] at h
    show x ∈ tr' ∨ (fset st.rows p (st.rows p ++ [⟨r, c, now, now + l⟩]) x).length = _ ∨ _
    rw [fset_ne hx]
    rcases I.idle x h with q | q
    · exact .inl ((htr x).mpr ⟨q, hx⟩)
    · exact .inr q
  · -- que
    intro r' c' x h
    have hx : x ≠ p := fun z => hq r' c' (z ▸ h)
    rw [arrO x hx]
    show fset st.due p (some (now + l)) x = none ∧ _ ∧ _ ∧ _ ∧ _ ∧ ∃ l', (C.ps x)[(fset st.rows p (st.rows p ++ [⟨r, c, now, now + l⟩]) x).length]? = some (r', l')
    rw [fset_ne hx, fset_ne hx]
    obtain ⟨q1, q2, q3, q4, q5, q6⟩ := I.que _ _ _ h
    exact ⟨q1, q2, q3, q4, fun z => q5 ((htr x).mp z).1, q6⟩
  · exact I.qsort
  · -- qrow
    intro r' c' x p' i' w h h' hr
    rcases key.mp h' with h' | ⟨rfl, rfl, rfl⟩
    · exact I.qrow _ _ _ _ _ _ h h' hr
    · have hr : r = r' := hr
      subst hr
      exact hque _ _ h (I.que _ _ _ h).2.2.2.1
  · exact I.qkey
  · -- wait
    intro r' c' x h hlt'
    show (if r = C.hall then st.occ else fset st.occ r (some p)) r' ≠ none ∨ _
    rcases I.wait _ _ _ h hlt' with q | ⟨p', i', row', h1, h2, h3⟩
    · refine .inl ?_
      by_cases hrh : r = C.hall
      · rw [if_pos hrh]
        exact q
      · rw [if_neg hrh]
        by_cases hr' : r' = r
        · subst hr'
          rw [fset_eq]
          exact fun z => nomatch z
        · rw [fset_ne hr']
          exact q
    · exact .inr ⟨p', i', row', key.mpr (.inl h1), h2, h3⟩
/-- leaving -/
theorem Inv.leave {st : HS R} {lv tr : List Nat} {now : Int} {p : Nat} (I : Inv C st (p :: lv) tr now) (hn : p ∉ lv) : Inv C (st.leave C p) lv (p :: tr) now := by
  have hd : st.due p = some now := I.lvD p List.mem_cons_self
  have ha : arr C st p = now := (I.due p now hd).2.2.1.symm
  have he : (st.leave C p).rows = st.rows := rfl
  have hq : (st.leave C p).q = st.q := rfl
  have hk : (st.leave C p).keys = st.keys := rfl
  have hdu : (st.leave C p).due = fset st.due p none := rfl
  have har : ∀ x, arr C (st.leave C p) x = arr C st x := fun x => rfl
  have hrow : ∀ x i w, IsRow (st.leave C p) x i w ↔ IsRow st x i w := fun x i w => Iff.rfl
  -- what becomes of the occupants
  have hocc : ∀ r, ((st.leave C p).occ r = st.occ r ∧ st.occ r ≠ some p) ∨ ((st.leave C p).occ r = none ∧ st.occ r = some p ∧ ∃ row, (st.rows p).getLast? = some row ∧ row.room = r) := fun r => by
    have e : (st.leave C p).occ = match (st.rows p).getLast? with
      | none => st.occ
      | some row => if row.room = C.hall then st.occ else fset st.occ row.room none := rfl
    rw [e]
    by_cases h : st.occ r = some p
    · obtain ⟨_, h1, row, h2, h3⟩ := I.occIn _ _ h
      rw [h2]
      refine .inr ⟨?_, h, row, rfl, h3⟩
      simp only
      rw [if_neg (by rw [h3]; exact h1), h3]
      exact fset_eq
    · refine .inl ⟨?_, h⟩
      cases hl : (st.rows p).getLast? with
      | none => rfl
      | some row =>
        simp only
        by_cases hh : row.room = C.hall
        · rw [if_pos hh]
        · rw [if_neg hh]
          by_cases hr : r = row.room
          · obtain ⟨h5, h6⟩ := getLast_row hl
            have := I.inOcc p _ row now hd h5 (by omega) hh
            rw [← hr] at this
            exact absurd this h
          · exact fset_ne hr
  refine ⟨I.len, I.room, I.come0, I.come1, I.ce, I.hallE, I.ent, I.noLap, I.fifo, I.served, ?_, ?_, ?_, ?_, ?_, ?_, ?_, ?_, I.qsort, I.qrow, I.qkey, ?_⟩
  · intro x i w h hw
    rcases I.cur x i w h hw with q | ⟨q, q2⟩
    · exact .inl q
    · rcases hocc w.room with ⟨e, _⟩ | ⟨e, e2, row, e3, e4⟩
      · exact .inr ⟨e.trans q, q2⟩
      · rw [q] at e2
        cases e2
        have this : (st.rows p).getLast? = some w := row_getLast h q2
        rw [this] at e3
        cases e3
        refine .inl ?_
        unfold arr at ha
        rw [this] at ha
        exact Int.le_of_eq ha
  · intro r x h
    rcases hocc r with ⟨e, hne⟩ | ⟨e, _⟩
    · rw [e] at h
      have hx : x ≠ p := fun z => hne (z ▸ h)
      rw [hdu, fset_ne hx]
      exact I.occIn _ _ h
    · rw [e] at h
      cases h
  · intro x i w d h1 h2 h3 h4
    have hx : x ≠ p := fun z => by
      rw [hdu, z, fset_eq] at h1
      cases h1
    rw [hdu, fset_ne hx] at h1
    have q := I.inOcc x i w d h1 h2 h3 h4
    rcases hocc w.room with ⟨e, _⟩ | ⟨_, e, _⟩
    · exact e.trans q
    · rw [q] at e
      cases e
      exact absurd rfl hx
  · intro x d h
    have hx : x ≠ p := fun z => by
      rw [hdu, z, fset_eq] at h
      cases h
    rw [hdu, fset_ne hx] at h
    obtain ⟨h1, h2, h3, h4⟩ := I.due x d h
    refine ⟨h1, fun z => ?_, h3, h4⟩
    rcases List.mem_cons.mp (h2 z) with q | q
    · exact absurd q hx
    · exact q
  · intro x hx
    have : x ≠ p := fun z => hn (z ▸ hx)
    rw [hdu, fset_ne this]
    exact I.lvD x (List.mem_cons_of_mem _ hx)
  · intro x hx
    rw [hdu, har]
    rcases List.mem_cons.mp hx with rfl | hx
    · exact ⟨fset_eq, Int.le_of_eq ha⟩
    · obtain ⟨h1, h2⟩ := I.trD x hx
      have : x ≠ p := fun z => by rw [z, hd] at h1; cases h1
      rw [fset_ne this]
      exact ⟨h1, h2⟩
  · intro x h
    by_cases hx : x = p
    · exact .inl (by rw [hx]; exact List.mem_cons_self)
    · rw [hdu, fset_ne hx] at h
      rcases I.idle x h with q | q
      · exact .inl (List.mem_cons_of_mem _ q)
      · exact .inr q
  · intro r c x h
    obtain ⟨h1, h2, h3, h4, h5, h6⟩ := I.que r c x h
    have hx : x ≠ p := fun z => by rw [z, hd] at h1; cases h1
    rw [hdu, fset_ne hx]
    refine ⟨h1, h2, h3, h4, fun z => ?_, h6⟩
    rcases List.mem_cons.mp z with q | q
    · exact hx q
    · exact h5 q
  · intro r c x h hlt
    rcases I.wait r c x h hlt with q | q
    · rcases hocc r with ⟨e, _⟩ | ⟨_, _, row, e3, e4⟩
      · exact .inl (by rw [e]; exact q)
      · obtain ⟨h5, h6⟩ := getLast_row e3
        refine .inr ⟨p, _, row, h5, e4, ?_⟩
        unfold arr at ha
        rw [e3] at ha
        exact ha
    · exact .inr q

/-- who has no stay left goes home -/
theorem Inv.home {st : HS R} {lv tr tr' : List Nat} {now : Int} {p : Nat} (I : Inv C st lv tr now) (htr : ∀ x, x ∈ tr' ↔ x ∈ tr ∧ x ≠ p) (hf : (st.rows p).length = (C.ps p).length) : Inv C st lv tr' now :=
  { I with
    trD := fun x hx => I.trD x ((htr x).mp hx).1
    idle := fun x h => by
      by_cases hx : x = p
      · exact .inr (.inl (by rw [hx]; exact hf))
      · rcases I.idle x h with q | q
        · exact .inl ((htr x).mpr ⟨q, hx⟩)
        · exact .inr q
    que := fun r c x h => by
      obtain ⟨h1, h2, h3, h4, h5, h6⟩ := I.que r c x h
      exact ⟨h1, h2, h3, h4, fun z => h5 ((htr x).mp z).1, h6⟩ }

/-- joining a queue -/
theorem Inv.join {st : HS R} {lv tr tr' : List Nat} {now : Int} {p : Nat} {r : R} {l : Int} (I : Inv C st lv tr now) (F : Fresh C st tr now) (htr : ∀ x, x ∈ tr' ↔ x ∈ tr ∧ x ≠ p) (hp : p ∈ tr) (hr : r ≠ C.hall)
    (hs : (C.ps p)[(st.rows p).length]? = some (r, l)) : Inv C (st.join r (now, p)) lv tr' now := by
  have hq : (st.join r (now, p)).q = fset st.q r (st.q r ++ [(now, p)]) := rfl
  have mem : ∀ r' e, e ∈ (st.join r (now, p)).q r' ↔ e ∈ st.q r' ∨ (r' = r ∧ e = (now, p)) := fun r' e => by
    rw [hq]
    by_cases h : r' = r
    · subst h
      rw [fset_eq]
      simp
    · rw [fset_ne h]
      simp [h]
  refine ⟨I.len, I.room, I.come0, I.come1, I.ce, I.hallE, I.ent, I.noLap, I.fifo, I.served, I.cur, I.occIn, I.inOcc, I.due, I.lvD, fun x hx => I.trD x ((htr x).mp hx).1, ?_, ?_, ?_, ?_, ?_, ?_⟩
  · intro x h
    by_cases hx : x = p
    · exact .inr (.inr ⟨r, now, (mem _ _).mpr (.inr ⟨rfl, by rw [hx]⟩)⟩)
    · rcases I.idle x h with q | q | ⟨r', c, q⟩
      · exact .inl ((htr x).mpr ⟨q, hx⟩)
      · exact .inr (.inl q)
      · exact .inr (.inr ⟨r', c, (mem _ _).mpr (.inl q)⟩)
  · intro r' c x h
    rcases (mem _ _).mp h with h | ⟨rfl, e⟩
    · obtain ⟨h1, h2, h3, h4, h5, h6⟩ := I.que r' c x h
      exact ⟨h1, h2, h3, h4, fun z => h5 ((htr x).mp z).1, h6⟩
    · cases e
      exact ⟨(I.trD _ hp).1, (F.arrT _ hp).symm, Int.le_refl _, hr, fun z => ((htr _).mp z).2 rfl, l, hs⟩
  · intro r'
    rw [hq]
    by_cases h : r' = r
    · subst h
      rw [fset_eq]
      refine List.pairwise_append.mpr ⟨I.qsort r', List.pairwise_singleton _ _, ?_⟩
      intro a ha b hb
      obtain ⟨c, x⟩ := a
      rw [List.mem_singleton.mp hb]
      have h3 := (I.que r' c x ha).2.2.1
      rcases F.que r' c x ha with q | q
      · exact .inl q
      · have := q p hp
        unfold Lex
        simp only
        omega
    · rw [fset_ne h]
      exact I.qsort r'
  · intro r' c x p' i' w h h' hw
    rcases (mem _ _).mp h with h | ⟨rfl, e⟩
    · exact I.qrow _ _ _ _ _ _ h h' hw
    · cases e
      exact .inl (F.row _ _ _ h' (by rw [hw]; exact hr))
  · intro r' h
    show r' ∈ if r ∈ st.keys then st.keys else st.keys ++ [r]
    by_cases e : r' = r
    · rw [e]
      split
      · assumption
      · simp
    · rw [hq, fset_ne e] at h
      have := I.qkey r' h
      split
      · exact this
      · exact List.mem_append_left _ this
  · intro r' c x h hlt
    rcases (mem _ _).mp h with h | ⟨rfl, e⟩
    · exact I.wait _ _ _ h hlt
    · cases e
      exact absurd hlt (Int.lt_irrefl _)

theorem mem_cons_iff {p : Nat} {tr : List Nat} (h : p ∉ tr) (x : Nat) : x ∈ tr ↔ x ∈ p :: tr ∧ x ≠ p := by
  constructor
  · intro hx
    exact ⟨List.mem_cons_of_mem _ hx, fun z => h (z ▸ hx)⟩
  · rintro ⟨hx, hn⟩
    rcases List.mem_cons.mp hx with q | q
    · exact absurd q hn
    · exact q

/-- coming -/
theorem Inv.come {st : HS R} {lv tr : List Nat} {now : Int} {p : Nat} (ok : C.Ok) (I : Inv C st lv (p :: tr) now) (F : Fresh C st (p :: tr) now) (hs : (p :: tr).Pairwise (· < ·)) :
    Inv C (HS.come C now st p) lv tr now ∧ Fresh C (HS.come C now st p) tr now := by
  have hn : p ∉ tr := fun h => Nat.lt_irrefl _ ((List.pairwise_cons.mp hs).1 p h)
  have htr := mem_cons_iff hn
  have hp : p ∈ p :: tr := List.mem_cons_self
  unfold HS.come
  cases e : (C.ps p)[(st.rows p).length]? with
  | none =>
    have h1 := List.getElem?_eq_none_iff.mp e
    have h2 := I.len p
    exact ⟨I.home htr (by omega), ⟨fun x hx => F.arrT x (List.mem_cons_of_mem _ hx), F.row, fun r c x h => (F.que r c x h).imp id fun q t ht => q t (List.mem_cons_of_mem _ ht)⟩⟩
  | some rl =>
    obtain ⟨r, l⟩ := rl
    simp only
    by_cases hr : r = C.hall
    · rw [if_pos hr]
      refine ⟨I.enter ok e (I.trD p hp).1 (F.arrT p hp).symm (Int.le_refl _) htr (fun r' c' h => (I.que _ _ _ h).2.2.2.2.1 hp) (fun _ => rfl) (fun h => absurd hr h) (fun _ _ _ _ _ h => absurd hr h) (fun _ _ _ h => absurd hr h) (fun h => absurd hr h), ?_⟩
      have ee : st.enter C p now now = { st with rows := fset st.rows p (st.rows p ++ [⟨r, now, now, now + l⟩]), due := fset st.due p (some (now + l)), occ := if r = C.hall then st.occ else fset st.occ r (some p) } := by
        unfold HS.enter
        rw [e]
      rw [ee]
      refine ⟨fun x hx => ?_, fun x i w h hw => ?_, fun r' c x h => (F.que r' c x h).imp id fun q t ht => q t (List.mem_cons_of_mem _ ht)⟩
      · have hxp : x ≠ p := fun z => by rw [z] at hx; exact hn hx
        rw [arr_eq (C := C) (st := st) x (fset_ne hxp)]
        exact F.arrT x (List.mem_cons_of_mem _ hx)
      · rcases (isRow_snoc (st := st) rfl).mp h with h | ⟨_, _, rfl⟩
        · exact F.row _ _ _ h hw
        · exact absurd hr hw
    · rw [if_neg hr]
      refine ⟨I.join F htr hp hr e, ⟨fun x hx => F.arrT x (List.mem_cons_of_mem _ hx), F.row, fun r' c x h => ?_⟩⟩
      have h : (c, x) ∈ fset st.q r (st.q r ++ [(now, p)]) r' := h
      by_cases hr' : r' = r
      · rw [hr', fset_eq] at h
        rcases List.mem_append.mp h with h | h
        · exact (F.que _ c x h).imp id fun q t ht => q t (List.mem_cons_of_mem _ ht)
        · cases List.mem_singleton.mp h
          exact .inr fun t ht => (List.pairwise_cons.mp hs).1 t ht
      · rw [fset_ne hr'] at h
        exact (F.que _ c x h).imp id fun q t ht => q t (List.mem_cons_of_mem _ ht)

/-- the first of a queue is taken out of it -/
theorem Inv.pop {st : HS R} {lv : List Nat} {now : Int} {r : R} {c : Int} {p : Nat} {rest : List (Int × Nat)} (I : Inv C st lv [] now) (hq : st.q r = (c, p) :: rest) :
    Inv C { st with q := fset st.q r rest } lv [p] now ∧ (∀ r' c', (c', p) ∉ fset st.q r rest r') ∧ ∀ r' e, e ∈ fset st.q r rest r' → e ∈ st.q r' := by
  have sub : ∀ r' e, e ∈ fset st.q r rest r' → e ∈ st.q r' := fun r' e h => by
    by_cases hr : r' = r
    · rw [hr, fset_eq] at h
      rw [hr, hq]
      exact List.mem_cons_of_mem _ h
    · rw [fset_ne hr] at h
      exact h
  have h0 : (c, p) ∈ st.q r := by rw [hq]; exact List.mem_cons_self
  obtain ⟨a1, a2, a3, a4, a5, l, a6⟩ := I.que r c p h0
  have sorted := I.qsort r
  rw [hq] at sorted
  have no : ∀ r' c', (c', p) ∉ fset st.q r rest r' := fun r' c' h => by
    obtain ⟨b1, b2, b3, b4, b5, l', b6⟩ := I.que r' c' p (sub _ _ h)
    rw [a6] at b6
    cases b6
    rw [fset_eq] at h
    have := (List.pairwise_cons.mp sorted).1 _ h
    unfold Lex at this
    simp only at this
    omega
  refine ⟨⟨I.len, I.room, I.come0, I.come1, I.ce, I.hallE, I.ent, I.noLap, I.fifo, I.served, I.cur, I.occIn, I.inOcc, I.due, I.lvD, fun x hx => ?_, fun x h => ?_, fun r' c' x h => ?_, fun r' => ?_, fun r' c' x p' i' w h => I.qrow r' c' x p' i' w (sub _ _ h), fun r' h => ?_, fun r' c' x h => I.wait r' c' x (sub _ _ h)⟩, no, sub⟩
  · cases List.mem_singleton.mp hx
    exact ⟨a1, by rw [arr_eq (C := C) (st := st) (st' := { st with q := fset st.q r rest }) p rfl]; omega⟩
  · by_cases hx : x = p
    · exact .inl (by rw [hx]; exact List.mem_cons_self)
    · rcases I.idle x h with q | q | ⟨r', c', q⟩
      · cases q
      · exact .inr (.inl q)
      · refine .inr (.inr ⟨r', c', ?_⟩)
        show (c', x) ∈ fset st.q r rest r'
        by_cases hr : r' = r
        · rw [hr, fset_eq]
          rw [hr, hq] at q
          rcases List.mem_cons.mp q with q | q
          · cases q
            exact absurd rfl hx
          · exact q
        · rw [fset_ne hr]
          exact q
  · obtain ⟨b1, b2, b3, b4, b5, b6⟩ := I.que r' c' x (sub _ _ h)
    exact ⟨b1, b2, b3, b4, fun z => no r' c' (by rw [← List.mem_singleton.mp z]; exact h), b6⟩
  · show (fset st.q r rest r').Pairwise Lex
    by_cases hr : r' = r
    · rw [hr, fset_eq]
      exact (List.pairwise_cons.mp sorted).2
    · rw [fset_ne hr]
      exact I.qsort r'
  · refine I.qkey r' fun z => h ?_
    show fset st.q r rest r' = []
    cases e : fset st.q r rest r' with
    | nil => rfl
    | cons a b =>
      have := sub r' a (by rw [e]; exact List.mem_cons_self)
      rw [z] at this
      cases this

theorem Inv.serve {st : HS R} {now : Int} (ok : C.Ok) (I : Inv C st [] [] now) (r : R) : Inv C (HS.serve C now st r) [] [] now := by
  unfold HS.serve
  cases hq : st.q r with
  | nil => exact I
  | cons e rest =>
    obtain ⟨c, p⟩ := e
    simp only
    by_cases ho : st.occ r = none
    · rw [if_pos ho]
      have h0 : (c, p) ∈ st.q r := by rw [hq]; exact List.mem_cons_self
      obtain ⟨a1, a2, a3, a4, a5, l, a6⟩ := I.que r c p h0
      obtain ⟨J, no, sub⟩ := I.pop hq
      have sorted := I.qsort r
      rw [hq] at sorted
      refine J.enter (st := { st with q := fset st.q r rest }) (tr' := []) ok a6 a1 a2 a3 (fun x => by simp) no (fun h => absurd h a4) (fun _ => ho) (fun p' i' row' h1 h2 _ => I.qrow _ _ _ _ _ _ h0 h1 h2) (fun c' p' h _ => ?_) (fun _ hlt => ?_)
      · have h : (c', p') ∈ fset st.q r rest r := h
        rw [fset_eq] at h
        exact (List.pairwise_cons.mp sorted).1 _ h
      · rcases I.wait r c p h0 hlt with q | q
        · exact absurd ho q
        · exact q
    · rw [if_neg ho]
      exact I

/-! ### a whole moment -/
theorem Inv.advance {st : HS R} {T now : Int} (I : Inv C st [] [] T) (calm : Calm st) (hT : T < now) (hmin : ∀ p d, st.due p = some d → now ≤ d) : Inv C st (st.comers C now) [] now :=
  { I with
    ent := fun p i row h => Int.le_trans (I.ent p i row h) (Int.le_of_lt hT)
    cur := fun p i row h hw => (I.cur p i row h hw).imp (fun q => Int.le_trans q (Int.le_of_lt hT)) id
    due := fun p d h => by
      obtain ⟨h1, h2, h3, h4⟩ := I.due p d h
      refine ⟨hmin p d h, fun z => ?_, h3, h4⟩
      unfold HS.comers
      rw [List.mem_filter, List.mem_range]
      exact ⟨h4, by rw [h, z]; exact decide_eq_true rfl⟩
    lvD := fun p hp => by
      unfold HS.comers at hp
      exact of_decide_eq_true (List.mem_filter.mp hp).2
    trD := fun p hp => nomatch hp
    que := fun r c p h => by
      obtain ⟨h1, h2, h3, h4, h5, h6⟩ := I.que r c p h
      exact ⟨h1, h2, by omega, h4, h5, h6⟩
    wait := fun r c p h _ => .inl (calm r fun z => by rw [z] at h; cases h) }

theorem leave_rows (l : List Nat) : ∀ st : HS R, (l.foldl (HS.leave C) st).rows = st.rows ∧ (l.foldl (HS.leave C) st).q = st.q ∧ (l.foldl (HS.leave C) st).keys = st.keys := by
  induction l with
  | nil => intro st; exact ⟨rfl, rfl, rfl⟩
  | cons p l ih => intro st; exact ih (st.leave C p)
theorem Inv.leaves {now : Int} : ∀ (l : List Nat) (tr : List Nat) (st : HS R), Inv C st l tr now → l.Nodup → Inv C (l.foldl (HS.leave C) st) [] (l.reverse ++ tr) now
  | [], tr, st, I, _ => I
  | p :: l, tr, st, I, h => by
    obtain ⟨h1, h2⟩ := List.nodup_cons.mp h
    have := Inv.leaves l (p :: tr) (st.leave C p) (I.leave h1) h2
    rw [List.reverse_cons, List.append_assoc]
    exact this
theorem Inv.trMem {st : HS R} {lv tr tr' : List Nat} {now : Int} (I : Inv C st lv tr now) (h : ∀ x, x ∈ tr' ↔ x ∈ tr) : Inv C st lv tr' now :=
  { I with
    trD := fun x hx => I.trD x ((h x).mp hx)
    idle := fun x hx => (I.idle x hx).imp (fun z => (h x).mpr z) id
    que := fun r c x hx => by
      obtain ⟨h1, h2, h3, h4, h5, h6⟩ := I.que r c x hx
      exact ⟨h1, h2, h3, h4, fun z => h5 ((h x).mp z), h6⟩ }
theorem Inv.comes {now : Int} (ok : C.Ok) : ∀ (l : List Nat) (st : HS R), Inv C st [] l now → Fresh C st l now → l.Pairwise (· < ·) → Inv C (l.foldl (HS.come C now) st) [] [] now
  | [], st, I, _, _ => I
  | p :: l, st, I, F, h => by
    obtain ⟨J, G⟩ := I.come ok F h
    exact Inv.comes ok l _ J G (List.pairwise_cons.mp h).2
theorem Inv.serves {now : Int} (ok : C.Ok) : ∀ (l : List R) (st : HS R), Inv C st [] [] now → Inv C (l.foldl (HS.serve C now) st) [] [] now
  | [], st, I => I
  | r :: l, st, I => Inv.serves ok l _ (I.serve ok r)

/-- done with a room: nobody waits for it, or it is held -/
def Done (st : HS R) (r : R) : Prop := st.q r = [] ∨ st.occ r ≠ none
theorem serve_is {st : HS R} {now : Int} (I : Inv C st [] [] now) (r : R) : (HS.serve C now st r = st ∧ Done st r) ∨
    ∃ c p rest l, st.q r = (c, p) :: rest ∧ st.occ r = none ∧ st.due p = none ∧ (C.ps p)[(st.rows p).length]? = some (r, l) ∧ r ≠ C.hall ∧
      HS.serve C now st r = { st with q := fset st.q r rest, rows := fset st.rows p (st.rows p ++ [⟨r, c, now, now + l⟩]), due := fset st.due p (some (now + l)), occ := fset st.occ r (some p) } := by
  unfold HS.serve
  cases hq : st.q r with
  | nil => exact .inl ⟨rfl, .inl hq⟩
  | cons e rest =>
    obtain ⟨c, p⟩ := e
    simp only
    by_cases ho : st.occ r = none
    · rw [if_pos ho]
      have h0 : (c, p) ∈ st.q r := by rw [hq]; exact List.mem_cons_self
      obtain ⟨a1, a2, a3, a4, a5, l, a6⟩ := I.que r c p h0
      refine .inr ⟨c, p, rest, l, rfl, ho, a1, a6, a4, ?_⟩
      unfold HS.enter
      simp only [a6, if_neg a4]
    · rw [if_neg ho]
      exact .inl ⟨rfl, .inr ho⟩
theorem serve_done {st : HS R} {now : Int} (I : Inv C st [] [] now) (r r' : R) (h : r' = r ∨ Done st r') : Done (HS.serve C now st r) r' := by
  rcases serve_is I r with ⟨e, d⟩ | ⟨c, p, rest, l, h1, h2, h3, h4, h5, e⟩
  · rw [e]
    rcases h with rfl | h
    · exact d
    · exact h
  · rw [e]
    unfold Done
    simp only
    by_cases hr : r' = r
    · rw [hr, fset_eq, fset_eq]
      exact .inr fun z => nomatch z
    · rw [fset_ne hr, fset_ne hr]
      rcases h with h | h
      · exact absurd h hr
      · exact h
theorem serves_done {now : Int} (ok : C.Ok) : ∀ (l : List R) (st : HS R), Inv C st [] [] now → ∀ r', r' ∈ l ∨ Done st r' → Done (l.foldl (HS.serve C now) st) r'
  | [], st, I, r', h => by
    rcases h with h | h
    · cases h
    · exact h
  | r :: l, st, I, r', h => by
    refine serves_done ok l _ (I.serve ok r) r' ?_
    rcases h with h | h
    · rcases List.mem_cons.mp h with h | h
      · exact .inr (serve_done I r r' (.inl h))
      · exact .inl h
    · exact .inr (serve_done I r r' (.inr h))
theorem serve_keys {st : HS R} {now : Int} (I : Inv C st [] [] now) (r : R) : (HS.serve C now st r).keys = st.keys := by
  rcases serve_is I r with ⟨e, _⟩ | ⟨c, p, rest, l, _, _, _, _, _, e⟩
  · rw [e]
  · rw [e]
theorem pairwise_range' : ∀ n : Nat, (List.range n).Pairwise (· < ·) := fun n => List.pairwise_lt_range
/-- the state behind the coming of all who come now -/
def HS.came (C : Cfg R) (st : HS R) (now : Int) : HS R := (st.comers C now).foldl (HS.come C now) ((st.comers C now).foldl (HS.leave C) st)
theorem left_ok {st : HS R} {T now : Int} (ok : C.Ok) (I : Inv C st [] [] T) (calm : Calm st) (hT : T < now) (hmin : ∀ p d, st.due p = some d → now ≤ d) :
    Inv C ((st.comers C now).foldl (HS.leave C) st) [] (st.comers C now) now ∧ Fresh C ((st.comers C now).foldl (HS.leave C) st) (st.comers C now) now ∧ (st.comers C now).Pairwise (· < ·) := by
  have hs : (st.comers C now).Pairwise (· < ·) := (pairwise_range' C.n).filter _
  have hnd : (st.comers C now).Nodup := hs.imp fun h => Nat.ne_of_lt h
  have J := (I.advance calm hT hmin)
  have L := (Inv.leaves _ _ _ J hnd).trMem (tr' := st.comers C now) (by simp)
  obtain ⟨e1, e2, e3⟩ := leave_rows (C := C) (st.comers C now) st
  refine ⟨L, ⟨fun p hp => ?_, fun p i row h hw => ?_, fun r c p h => .inl ?_⟩, hs⟩
  · have ea : arr C ((st.comers C now).foldl (HS.leave C) st) p = arr C st p := arr_eq p (congrFun e1 p)
    rw [ea]
    exact (J.due p now (J.lvD p hp)).2.2.1.symm
  · unfold IsRow at h
    rw [e1] at h
    have := I.ce p i row h
    have := I.ent p i row h
    omega
  · rw [e2] at h
    have := (I.que r c p h).2.2.1
    omega
theorem came_inv {st : HS R} {T now : Int} (ok : C.Ok) (I : Inv C st [] [] T) (calm : Calm st) (hT : T < now) (hmin : ∀ p d, st.due p = some d → now ≤ d) : Inv C (st.came C now) [] [] now := by
  obtain ⟨L, F, hs⟩ := left_ok ok I calm hT hmin
  exact Inv.comes ok _ _ L F hs
theorem happen_ok {st : HS R} {T now : Int} (ok : C.Ok) (I : Inv C st [] [] T) (calm : Calm st) (hT : T < now) (hmin : ∀ p d, st.due p = some d → now ≤ d) (order : List R) (ho : ∀ r, r ∈ (st.came C now).keys → r ∈ order) :
    Inv C (st.happen C now order) [] [] now ∧ Calm (st.happen C now order) := by
  have J := came_inv ok I calm hT hmin
  refine ⟨Inv.serves ok order _ J, fun r h => ?_⟩
  have D : Done (st.happen C now order) r := serves_done ok order _ J r (by
    cases e : (st.came C now).q r with
    | nil => exact .inr (.inl e)
    | cons a b => exact .inl (ho r (J.qkey r (by rw [e]; exact fun z => nomatch z))))
  rcases D with d | d
  · exact absurd d h
  · exact d

/-! ### what falls -/
def wt (C : Cfg R) (st : HS R) (p : Nat) : Nat := 2 * ((C.ps p).length - (st.rows p).length) + if st.due p = none then 0 else 1
theorem leave_wt {st : HS R} (p x : Nat) : wt C (st.leave C p) x ≤ wt C st x ∧ (x = p → st.due p ≠ none → wt C (st.leave C p) x < wt C st x) := by
  unfold wt
  show 2 * ((C.ps x).length - (st.rows x).length) + (if fset st.due p none x = none then 0 else 1) ≤ _ ∧ (_ → _ → 2 * ((C.ps x).length - (st.rows x).length) + (if fset st.due p none x = none then 0 else 1) < _)
  by_cases h : x = p
  · rw [h, fset_eq, if_pos rfl]
    refine ⟨by omega, fun _ hd => ?_⟩
    rw [if_neg hd]
    omega
  · rw [fset_ne h]
    exact ⟨Nat.le_refl _, fun z => absurd z h⟩
theorem enter_wt {rows : Nat → List (Row R)} {due : Nat → Option Int} {st st' : HS R} {p : Nat} {w : Row R} {d : Int} (hr : st'.rows = fset st.rows p (st.rows p ++ [w])) (hd : st'.due = fset st.due p (some d))
    (hl : (st.rows p).length < (C.ps p).length) (x : Nat) : wt C st' x ≤ wt C st x := by
  unfold wt
  rw [hr, hd]
  by_cases h : x = p
  · rw [h, fset_eq, fset_eq, if_neg (fun z => nomatch z), List.length_append, List.length_singleton]
    split <;> omega
  · rw [fset_ne h, fset_ne h]
    exact Nat.le_refl _
theorem come_wt {st : HS R} {now : Int} (p x : Nat) : wt C (HS.come C now st p) x ≤ wt C st x := by
  unfold HS.come
  cases e : (C.ps p)[(st.rows p).length]? with
  | none => exact Nat.le_refl _
  | some rl =>
    obtain ⟨r, l⟩ := rl
    simp only
    by_cases h : r = C.hall
    · rw [if_pos h]
      have hl := (List.getElem?_eq_some_iff.mp e).1
      refine enter_wt (rows := st.rows) (due := st.due) (st := st) (p := p) (w := ⟨r, now, now, now + l⟩) (d := now + l) ?_ ?_ hl x
      · unfold HS.enter
        rw [e]
      · unfold HS.enter
        rw [e]
    · rw [if_neg h]
      exact Nat.le_refl _
theorem serve_wt {st : HS R} {now : Int} (I : Inv C st [] [] now) (r : R) (x : Nat) : wt C (HS.serve C now st r) x ≤ wt C st x := by
  rcases serve_is I r with ⟨e, d⟩ | ⟨c, p, rest, l, h1, h2, h3, h4, h5, e⟩
  · rw [e]
    exact Nat.le_refl _
  · rw [e]
    exact enter_wt (rows := st.rows) (due := st.due) (st := st) (p := p) rfl rfl (List.getElem?_eq_some_iff.mp h4).1 x
theorem leaves_wt : ∀ (l : List Nat) (st : HS R) (x : Nat), l.Nodup → wt C (l.foldl (HS.leave C) st) x ≤ wt C st x ∧ (x ∈ l → st.due x ≠ none → wt C (l.foldl (HS.leave C) st) x < wt C st x)
  | [], st, x, _ => ⟨Nat.le_refl _, fun h => nomatch h⟩
  | p :: l, st, x, h => by
    obtain ⟨h1, h2⟩ := List.nodup_cons.mp h
    obtain ⟨a1, a2⟩ := leave_wt (C := C) (st := st) p x
    obtain ⟨b1, b2⟩ := leaves_wt l (st.leave C p) x h2
    rw [List.foldl_cons]
    refine ⟨Nat.le_trans b1 a1, fun hx hd => ?_⟩
    by_cases e : x = p
    · exact Nat.lt_of_le_of_lt b1 (a2 e (e ▸ hd))
    · have hx : x ∈ l := (List.mem_cons.mp hx).resolve_left e
      have hd' : (st.leave C p).due x ≠ none := by
        show fset st.due p none x ≠ none
        rw [fset_ne e]
        exact hd
      exact Nat.lt_of_lt_of_le (b2 hx hd') a1
theorem comes_wt {now : Int} : ∀ (l : List Nat) (st : HS R) (x : Nat), wt C (l.foldl (HS.come C now) st) x ≤ wt C st x
  | [], st, x => Nat.le_refl _
  | p :: l, st, x => Nat.le_trans (comes_wt l _ x) (come_wt p x)
theorem serves_wt {now : Int} (ok : C.Ok) : ∀ (l : List R) (st : HS R) (x : Nat), Inv C st [] [] now → wt C (l.foldl (HS.serve C now) st) x ≤ wt C st x
  | [], st, x, _ => Nat.le_refl _
  | r :: l, st, x, I => Nat.le_trans (serves_wt ok l _ x (I.serve ok r)) (serve_wt I r x)
def mu (C : Cfg R) (st : HS R) : Nat := ((List.range C.n).map (wt C st)).sum
theorem sum_le {f g : Nat → Nat} (h : ∀ x, f x ≤ g x) : ∀ l : List Nat, (l.map f).sum ≤ (l.map g).sum
  | [] => Nat.le_refl _
  | a :: l => by
    have := sum_le h l
    have := h a
    simp only [List.map_cons, List.sum_cons]
    omega
theorem sum_lt {f g : Nat → Nat} (h : ∀ x, f x ≤ g x) {p : Nat} (hp : f p < g p) : ∀ l : List Nat, p ∈ l → (l.map f).sum < (l.map g).sum
  | a :: l, hm => by
    have h1 := sum_le h l
    have h2 := h a
    simp only [List.map_cons, List.sum_cons]
    rcases List.mem_cons.mp hm with rfl | hm
    · omega
    · have := sum_lt h hp l hm
      omega
theorem happen_mu {st : HS R} {T now : Int} (ok : C.Ok) (I : Inv C st [] [] T) (calm : Calm st) (hT : T < now) (hmin : ∀ p d, st.due p = some d → now ≤ d) (order : List R) (hex : ∃ p, st.due p = some now) :
    mu C (st.happen C now order) < mu C st := by
  obtain ⟨p, hp⟩ := hex
  have J := came_inv ok I calm hT hmin
  have hs : (st.comers C now).Pairwise (· < ·) := (pairwise_range' C.n).filter _
  have hnd : (st.comers C now).Nodup := hs.imp fun h => Nat.ne_of_lt h
  have hm : p ∈ st.comers C now := ((I.advance calm hT hmin).due p now hp).2.1 rfl
  have hn : p ∈ List.range C.n := (List.mem_filter.mp hm).1
  refine sum_lt (fun x => ?_) (p := p) ?_ _ hn
  · exact Nat.le_trans (serves_wt ok order _ x J) (Nat.le_trans (comes_wt _ _ x) (leaves_wt _ _ x hnd).1)
  · exact Nat.lt_of_le_of_lt (serves_wt ok order _ p J) (Nat.lt_of_le_of_lt (comes_wt _ _ p) ((leaves_wt _ _ p hnd).2 hm (by rw [hp]; exact fun z => nomatch z)))

/-! ### the start, the end -/
def HS.init (C : Cfg R) : HS R := ⟨fun _ => [], fun p => if p < C.n then some (C.start p) else none, fun _ => none, [], fun _ => []⟩
theorem below (f : Nat → Int) : ∀ n : Nat, ∃ T : Int, ∀ p, p < n → T < f p
  | 0 => ⟨0, fun p h => absurd h (Nat.not_lt_zero p)⟩
  | n + 1 => by
    obtain ⟨T, h⟩ := below f n
    refine ⟨min T (f n - 1), fun p hp => ?_⟩
    by_cases e : p = n
    · subst e
      omega
    · have := h p (by omega)
      omega
theorem init_inv (ok : C.Ok) : ∃ T, Inv C (HS.init C) [] [] T ∧ Calm (HS.init C) := by
  obtain ⟨T, hT⟩ := below C.start C.n
  have no : ∀ {p i : Nat} {w : Row R}, ¬ IsRow (HS.init C) p i w := fun h => by
    unfold IsRow HS.init at h
    simp at h
  refine ⟨T, ⟨fun p => Nat.zero_le _, fun p i w h => (no h).elim, fun p w h => (no h).elim, fun p i w w' h => (no h).elim, fun p i w h => (no h).elim, fun p i w h => (no h).elim, fun p i w h => (no h).elim,
    fun p i w p' i' w' h => (no h).elim, fun p i w p' i' w' h => (no h).elim, fun p i w h => (no h).elim, fun p i w h => (no h).elim, fun r p h => (nomatch h), fun p i w d _ h => (no h).elim, fun p d h => ?_, fun p h => (nomatch h), fun p h => (nomatch h), fun p h => ?_, fun r c p h => (nomatch h), fun r => .nil, fun r c p _ _ _ h => (nomatch h), fun r h => absurd rfl h, fun r c p h => (nomatch h)⟩, fun r h => absurd rfl h⟩
  · have h : (if p < C.n then some (C.start p) else none) = some d := h
    split at h
    · rename_i hp
      cases h
      have := hT p hp
      exact ⟨by omega, fun z => by omega, rfl, hp⟩
    · cases h
  · have h : (if p < C.n then some (C.start p) else none) = none := h
    split at h
    · cases h
    · rename_i hp
      refine .inr (.inl ?_)
      rw [ok.out p (by omega)]
      rfl

/-- what the law asks of the walks -/
structure Good (C : Cfg R) (rows : Nat → List (Row R)) : Prop where
  len : ∀ p : Nat, (rows p).length = (C.ps p).length
  room : ∀ (p i : Nat) (row : Row R), (rows p)[i]? = some row → ∃ l, (C.ps p)[i]? = some (row.room, l) ∧ row.leave = row.enter + l
  come0 : ∀ (p : Nat) (row : Row R), (rows p)[0]? = some row → row.come = C.start p
  come1 : ∀ (p i : Nat) (row row' : Row R), (rows p)[i]? = some row → (rows p)[i + 1]? = some row' → row'.come = row.leave
  ce : ∀ (p i : Nat) (row : Row R), (rows p)[i]? = some row → row.come ≤ row.enter
  hallE : ∀ (p i : Nat) (row : Row R), (rows p)[i]? = some row → row.room = C.hall → row.enter = row.come
  noLap : ∀ (p i : Nat) (row : Row R) (p' i' : Nat) (row' : Row R), (rows p)[i]? = some row → (rows p')[i']? = some row' → ¬ (p = p' ∧ i = i') → row.room = row'.room → row.room ≠ C.hall → row.leave ≤ row'.enter ∨ row'.leave ≤ row.enter
  fifo : ∀ (p i : Nat) (row : Row R) (p' i' : Nat) (row' : Row R), (rows p)[i]? = some row → (rows p')[i']? = some row' → row.room = row'.room → row.room ≠ C.hall → Lex (row.come, p) (row'.come, p') → row.enter ≤ row'.enter
  served : ∀ (p i : Nat) (row : Row R), (rows p)[i]? = some row → row.room ≠ C.hall → row.come < row.enter → ∃ (p' i' : Nat) (row' : Row R), (rows p')[i']? = some row' ∧ row'.room = row.room ∧ row'.leave = row.enter
theorem good_of {st : HS R} {T : Int} (I : Inv C st [] [] T) (calm : Calm st) (h : ∀ p, st.due p = none) : Good C st.rows := by
  refine ⟨fun p => ?_, I.room, I.come0, I.come1, I.ce, I.hallE, I.noLap, I.fifo, I.served⟩
  rcases I.idle p (h p) with q | q | ⟨r, c, q⟩
  · cases q
  · exact q
  · have hq : st.q r ≠ [] := fun z => by rw [z] at q; cases q
    cases e : st.occ r with
    | none => exact absurd e (calm r hq)
    | some p' =>
      obtain ⟨⟨d, e2⟩, _⟩ := I.occIn r p' e
      rw [h p'] at e2
      cases e2
end K51
/-! The text by places; short words for heaps and data. -/
namespace H5
open PySem L2
open C8 (Cal Met Mak Def cal0 met0 mak0 pe_c pe_mk pe_mt pe_mt0 fnScope_by scC pe_gc InsC call_isC pss_cut tCut fnScope fnArgs fnBody)

def top (i : Nat) : Stmt := PySem.Challenge.pw_neverrounds_k51_whole_house.main.body.getD i (.Pass ⟨0, 0, 0, 0⟩)
abbrev sIsName : Stmt := top 17
abbrev sRInit : Stmt := inClass (top 28) 1
abbrev sRStays : Stmt := inClass (top 28) 3
abbrev sRLen : Stmt := inClass (top 28) 14
abbrev sWalk : Stmt := top 30
abbrev sRunInit : Stmt := inClass (top 33) 0
abbrev sHInit : Stmt := inClass (top 34) 0
abbrev sLeave : Stmt := inClass (top 34) 1
abbrev sEnter : Stmt := inClass (top 34) 2
abbrev sCome : Stmt := inClass (top 34) 3
abbrev sHappen : Stmt := inClass (top 34) 4
abbrev sRun : Stmt := top 35
abbrev sState : Stmt := top 37
abbrev sMixed : Stmt := top 38
abbrev sDraw : Stmt := top 39
abbrev sLimit : Stmt := top 40
abbrev sSigned : Stmt := top 41
abbrev sIsInt : Stmt := top 42
abbrev sName : Stmt := top 43
abbrev sNames : Stmt := top 44
abbrev sStays : Stmt := top 45
abbrev sLengths : Stmt := top 46
abbrev sIsRows : Stmt := top 47
abbrev sGroups : Stmt := top 48
abbrev sWaits : Stmt := top 49
abbrev sLines : Stmt := top 50
abbrev sOrderly : Stmt := top 51
abbrev sLaw : Stmt := top 52

/-- the built-in names are still the built-in ones -/
structure Blt (mg : Str → Option Value) : Prop where
  len : mg "len" = none
  int : mg "int" = none
  range : mg "range" = none
  zip : mg "zip" = none
  isinstance : mg "isinstance" = none
  list : mg "list" = none
  tuple : mg "tuple" = none
  str : mg "str" = none
  bool : mg "bool" = none
  max : mg "max" = none
  min : mg "min" = none
  sorted : mg "sorted" = none

/-! ### heaps but for some addresses -/
open Classical in
/-- the part of a heap at the addresses of φ -/
noncomputable def R (φ : Addr → Prop) (H : Hp) : Hp := fun b => if φ b then H b else none
noncomputable abbrev hid (S : List Addr) (H : Hp) : Hp := R (fun b => b ∉ S) H
/-- what is new in H' -/
noncomputable abbrev newer (H H' : Hp) : Hp := R (fun b => H b = none) H'
def Keep (S : List Addr) (H H' : Hp) : Prop := ∀ b o, H b = some o → b ∉ S → H' b = some o
section
variable {S : List Addr} {H H' H1 H2 : Hp} {p : Addr} {o : HO} {φ ψ : Addr → Prop}
theorem R_of (n : φ p) (h : H p = some o) : R φ H p = some o := by
  unfold R
  rw [if_pos n]
  exact h
theorem R_inv (h : R φ H p = some o) : φ p ∧ H p = some o := by
  unfold R at h
  split at h
  · exact ⟨by assumption, h⟩
  · cases h
theorem R_same (h : ∀ b o, φ b → H b = some o → ψ b ∧ H' b = some o) : Same (R φ H) (R ψ H') := fun b o e => by
  obtain ⟨h1, h2⟩ := R_inv e
  obtain ⟨h3, h4⟩ := h b o h1 h2
  exact R_of h3 h4
theorem R_le : Same (R φ H) H := fun b o e => (R_inv e).2
theorem R_to (h : ∀ b o, φ b → H b = some o → H' b = some o) : Same (R φ H) H' := fun b o e => by
  obtain ⟨h1, h2⟩ := R_inv e
  exact h b o h1 h2
theorem Keep.refl : Keep S H H := fun _ _ h _ => h
theorem Keep.of_same (h : Same H H') : Keep S H H' := fun b o e _ => h b o e
theorem Keep.trans (a : Keep S H H1) (b : Keep S H1 H2) : Keep S H H2 := fun c o h n => b c o (a c o h n) n
theorem Keep.same (k : Keep S H H') : Same (hid S H) (hid S H') := R_same fun b o n e => ⟨n, k b o e n⟩
theorem Keep.new (h : H p = none) : Keep S H (upd H p o) := fun b u e _ => by rw [upd_ne (ne_of_none e h)]; exact e
theorem Keep.put (h : p ∈ S) : Keep S H (upd H p o) := fun b u e n => by rw [upd_ne (fun z => n (by rw [z]; exact h))]; exact e
theorem Keep.back (k : Keep S H H') (t : ∀ s ∈ S, H' s ≠ none) {b : Addr} (h : H' b = none) : H b = none := by
  cases e : H b with
  | none => rfl
  | some u =>
    by_cases m : b ∈ S
    · exact absurd h (t b m)
    · rw [k b u e m] at h
      cases h
theorem Same.new (h : H p = none) : Same H (upd H p o) := fun b u e => by rw [upd_ne (ne_of_none e h)]; exact e
end

/-! ### data -/
section
variable {K : PySem.W.Frag} {H H' : Hp}
theorem sqT_same {a : Addr} {xs : List V} (e : Same H H') (h : SqT K H a xs) : SqT K H' a xs := by
  rcases h with (h | ⟨o, h⟩) | h
  · exact .inl (.inl (e _ _ h))
  · exact .inl (.inr ⟨o, e _ _ h⟩)
  · exact .inr h
mutual
theorem Dp.same (e : Same H H') : ∀ {v : V} {d : PyData}, Dp K H v d → Dp K H' v d
  | _, _, .non => .non
  | _, _, .bl b => .bl b
  | _, _, .int i => .int i
  | _, _, .str x => .str x
  | _, _, .lst h1 h2 => .lst (e.seq h1) (DpAll.same e h2)
  | _, _, .tup h1 h2 => .tup (sqT_same e h1) (DpAll.same e h2)
theorem DpAll.same (e : Same H H') : ∀ {vs : List V} {ds : List PyData}, DpAll K H vs ds → DpAll K H' vs ds
  | _, _, .nil => .nil
  | _, _, .cons h1 h2 => .cons (Dp.same e h1) (DpAll.same e h2)
end
theorem Dp.lstE {v : V} {ds : List PyData} (h : Dp K H v (.list ds)) : ∃ a xs, v = .ref a ∧ SqL K H a xs ∧ DpAll K H xs ds := by
  cases h with
  | lst h1 h2 => exact ⟨_, _, rfl, h1, h2⟩
theorem Dp.tupE {v : V} {ds : List PyData} (h : Dp K H v (.tuple ds)) : ∃ a xs, v = .ref a ∧ SqT K H a xs ∧ DpAll K H xs ds := by
  cases h with
  | tup h1 h2 => exact ⟨_, _, rfl, h1, h2⟩
theorem Dp.intE {v : V} {i : Int} (h : Dp K H v (.int i)) : v = .int i := by cases h; rfl
theorem Dp.strE {v : V} {i : Str} (h : Dp K H v (.str i)) : v = .str i := by cases h; rfl
theorem DpAll.len {vs : List V} {ds : List PyData} (h : DpAll K H vs ds) : vs.length = ds.length := by
  induction vs generalizing ds with
  | nil => cases h; rfl
  | cons v vs ih =>
    cases h with
    | cons h1 h2 => rw [List.length_cons, List.length_cons, ih h2]
theorem DpAll.get {vs : List V} {ds : List PyData} (h : DpAll K H vs ds) {i : Nat} {d : PyData} (hd : ds[i]? = some d) : ∃ v, vs[i]? = some v ∧ Dp K H v d := by
  induction vs generalizing ds i with
  | nil => cases h; simp at hd
  | cons v vs ih =>
    cases h with
    | cons h1 h2 =>
      cases i with
      | zero =>
        cases hd
        exact ⟨v, rfl, h1⟩
      | succ i => exact ih h2 hd
theorem DpAll.getV {vs : List V} {ds : List PyData} (h : DpAll K H vs ds) {i : Nat} {v : V} (hv : vs[i]? = some v) : ∃ d, ds[i]? = some d ∧ Dp K H v d := by
  induction vs generalizing ds i with
  | nil => simp at hv
  | cons w vs ih =>
    cases h with
    | cons h1 h2 =>
      cases i with
      | zero =>
        cases hv
        exact ⟨_, rfl, h1⟩
      | succ i => exact ih h2 hv
theorem DpAll.snoc {vs : List V} {ds : List PyData} (h : DpAll K H vs ds) {v : V} {d : PyData} (hd : Dp K H v d) : DpAll K H (vs ++ [v]) (ds ++ [d]) := by
  induction vs generalizing ds with
  | nil => cases h; exact .cons hd .nil
  | cons w vs ih =>
    cases h with
    | cons h1 h2 => exact .cons h1 (ih h2)
theorem DpAll.nilE {vs : List V} (h : DpAll K H vs []) : vs = [] := by cases h; rfl
theorem DpAll.consE {vs : List V} {d : PyData} {ds : List PyData} (h : DpAll K H vs (d :: ds)) : ∃ v r, vs = v :: r ∧ Dp K H v d ∧ DpAll K H r ds := by
  cases h with
  | cons h1 h2 => exact ⟨_, _, rfl, h1, h2⟩
theorem dpInts : ∀ ns : List Int, DpAll K H (ns.map V.int) (ns.map PyData.int)
  | [] => .nil
  | n :: ns => .cons (.int n) (dpInts ns)
theorem dpStrs : ∀ ns : List Str, DpAll K H (ns.map V.str) (ns.map PyData.str)
  | [] => .nil
  | n :: ns => .cons (.str n) (dpStrs ns)
theorem DpAll.ints : ∀ {vs : List V} {ns : List Int}, DpAll K H vs (ns.map PyData.int) → vs = ns.map V.int
  | _, [], .nil => rfl
  | _, n :: ns, .cons h1 h2 => by
    rw [Dp.intE h1, DpAll.ints h2]
    rfl
theorem DpAll.strs : ∀ {vs : List V} {ns : List Str}, DpAll K H vs (ns.map PyData.str) → vs = ns.map V.str
  | _, [], .nil => rfl
  | _, n :: ns, .cons h1 h2 => by
    rw [Dp.strE h1, DpAll.strs h2]
    rfl
end

/-! ### the draws' state: [digits, later, turn, cells] -/
structure StAt (H : Hp) (a l c : Addr) (n : Int) : Prop where
  at_ : ∃ (x t : Int), H a = some (.lst [.int x, .ref l, .int t, .ref c]) ∧ 0 ≤ t ∧ t ≤ n
  later : ∃ ls : List Int, H l = some (.lst (ls.map V.int))
  cells : ∃ cs : List Int, H c = some (.lst (cs.map V.int))
  al : a ≠ l
  ac : a ≠ c
  lc : l ≠ c
abbrev own (a l c : Addr) : List Addr := [a, l, c]
theorem StAt.mono {H : Hp} {a l c : Addr} {n m : Int} (s : StAt H a l c n) (h : n ≤ m) : StAt H a l c m :=
  ⟨let ⟨x, t, h1, h2, h3⟩ := s.at_; ⟨x, t, h1, h2, Int.le_trans h3 h⟩, s.later, s.cells, s.al, s.ac, s.lc⟩
/-- a new thing is none of the state's -/
theorem StAt.fresh {H : Hp} {a l c p : Addr} {n : Int} (s : StAt H a l c n) (h : H p = none) : p ∉ own a l c := fun m => by
  obtain ⟨x, t, h1, _⟩ := s.at_
  obtain ⟨ls, h2⟩ := s.later
  obtain ⟨cs, h3⟩ := s.cells
  rcases List.mem_cons.mp m with e | m
  · rw [e, h1] at h; cases h
  rcases List.mem_cons.mp m with e | m
  · rw [e, h2] at h; cases h
  rcases List.mem_cons.mp m with e | m
  · rw [e, h3] at h; cases h
  · cases m
theorem StAt.new {H : Hp} {a l c p : Addr} {n : Int} {o : HO} (s : StAt H a l c n) (h : H p = none) : StAt (upd H p o) a l c n := by
  obtain ⟨x, t, h1, h2, h3⟩ := s.at_
  obtain ⟨ls, h4⟩ := s.later
  obtain ⟨cs, h5⟩ := s.cells
  exact ⟨⟨x, t, Same.new h _ _ h1, h2, h3⟩, ⟨ls, Same.new h _ _ h4⟩, ⟨cs, Same.new h _ _ h5⟩, s.al, s.ac, s.lc⟩
theorem StAt.put {H : Hp} {a l c p : Addr} {n : Int} {o : HO} (s : StAt H a l c n) (h : p ∉ own a l c) : StAt (upd H p o) a l c n := by
  obtain ⟨x, t, h1, h2, h3⟩ := s.at_
  obtain ⟨ls, h4⟩ := s.later
  obtain ⟨cs, h5⟩ := s.cells
  have na : a ≠ p := fun e => h (by rw [← e]; simp [own])
  have nl : l ≠ p := fun e => h (by rw [← e]; simp [own])
  have nc : c ≠ p := fun e => h (by rw [← e]; simp [own])
  exact ⟨⟨x, t, by rw [upd_ne na]; exact h1, h2, h3⟩, ⟨ls, by rw [upd_ne nl]; exact h4⟩, ⟨cs, by rw [upd_ne nc]; exact h5⟩, s.al, s.ac, s.lc⟩
/-- a new thing is written -/
theorem Keep.putNew {S : List Addr} {H H1 : Hp} {p : Addr} {o : HO} (k : Keep S H H1) (h : H p = none) : Keep S H (upd H1 p o) := fun b u e nb => by
  rw [upd_ne (ne_of_none e h)]
  exact k b u e nb
theorem Same.putNew {H H1 : Hp} {p : Addr} {o : HO} (k : Same H H1) (h : H p = none) : Same H (upd H1 p o) := fun b u e => by
  rw [upd_ne (ne_of_none e h)]
  exact k b u e
theorem StAt.tr {H : Hp} {a l c : Addr} {n : Int} (s : StAt H a l c n) : ∀ b ∈ own a l c, H b ≠ none := fun b m e => s.fresh e m
end H5
/-! The draws: _law_state, _law_mixed, _law_draw, _law_limit, _law_signed. -/
namespace H5
open PySem L2
open C8 (Cal Met Mak Def cal0 met0 mak0 pe_c pe_mk pe_mt pe_mt0 fnScope_by scC pe_gc InsC call_isC pss_cut tCut fnScope fnArgs fnBody)

def spDraw : Sp := fun vs H Q _ => ∃ (a l c : Addr) (n many : Int), vs = [.ref a, .int many] ∧ StAt H a l c n ∧ n ≤ 2 ^ 60 ∧ 0 < many ∧ many < 2 ^ 200 ∧
  ∀ (r : Int) (H' : Hp), 0 ≤ r → r < many → StAt H' a l c (n + 1) → Keep (own a l c) H H' → Q (.int r) H'
section
variable {P : Program} {w : World} {K : PySem.W.Frag} {mg : Str → Option Value} {base : Heap}
abbrev nMixed : List Str := ["_law_state_here", "_law_many", "_law_cells", "_law_turn", "_law_cell", "_law_one", "_law_two", "_law_three"]
theorem sc_mixed : FnScope nMixed ["_law_state_here", "_law_many"] (fnScope sMixed) := fnScope_by (by decide +kernel)
theorem ok_mixed (B : Blt mg) {f : Addr} {fd : FuncData} (F : Def K mg "_law_mixed" sMixed f fd) (b : Binds K fd ["_law_state_here", "_law_many"] []) : Cal P w K mg base 1 "_law_mixed" spDraw [] := by
  refine cal0 F b .nil sc_mixed (fun vs H Q E h => ?_) (fun cdv A outer s H vs Q E hr h => ?_)
  · obtain ⟨a, l, c, n, many, rfl, _⟩ := h
    rfl
  · obtain ⟨a, l, c, n, many, rfl, S, hn, hm, _, k⟩ := h
    obtain ⟨⟨x, t, h1, ht0, htn⟩, ⟨ls, h2⟩, ⟨cs, h3⟩, al, ac, lc⟩ := id S
    refine ⟨_, pss_cons (ps_set (i := 2) sc_mixed.nd rfl (Or.inl rfl) (pe_ix ix_list (pv 0) pe_int (fun _ _ => rfl)))
      (pss_cons (ps_set (i := 3) sc_mixed.nd rfl (Or.inl rfl) (pe_ix ix_list (pv 0) pe_int (fun _ _ => rfl)))
      (pss_cons (ps_asg (pe_op op_add (pv 3) pe_int) (pg_sub (pv 0) pe_int set_list))
      (pss_cons (ps_set (i := 4) sc_mixed.nd rfl (Or.inl rfl) pe_int)
      (pss_cut (ps_if (pt_cmpR op_gt (pe_callB call_len_seq (by rfl) B.len (by decide +kernel) (pa_cons (pv 2) pa_nil)) pe_int (nomark _)) (pss_one (ps_set (i := 4) sc_mixed.nd rfl (Or.inl rfl) (pe_ix ix_list (pv 2) (pe_op op_mod (pe_callTy call_int1 (by rfl) B.int (by decide +kernel) (pa_cons (pv 3) pa_nil)) (pe_callB call_len_seq (by rfl) B.len (by decide +kernel) (pa_cons (pv 2) pa_nil))) (fun _ _ => rfl)))) pss_nil)
      (pss_cons (ps_set (i := 5) sc_mixed.nd rfl (Or.inl rfl) (pe_op op_mod (pe_callTy call_int1 (by rfl) B.int (by decide +kernel) (pa_cons (pe_op op_add (pe_op op_add (pe_op op_mul (pv 4) pe_int) (pe_op op_mul (pv 3) pe_int)) pe_int) pa_nil)) pe_int))
      (pss_cons (ps_set (i := 6) sc_mixed.nd rfl (Or.inl rfl) (pe_op op_mod (pe_callTy call_int1 (by rfl) B.int (by decide +kernel) (pa_cons (pe_op op_add (pe_op op_add (pe_op op_add (pe_op op_mul (pv 5) pe_int) (pe_op op_mul (pe_op op_mul (pv 3) (pv 3)) pe_int)) (pe_op op_mul (pv 4) pe_int)) pe_int) pa_nil)) pe_int))
      (pss_cons (ps_set (i := 7) sc_mixed.nd rfl (Or.inl rfl) (pe_op op_mod (pe_callTy call_int1 (by rfl) B.int (by decide +kernel) (pa_cons (pe_op op_add (pe_op op_add (pe_op op_mul (pv 6) pe_int) (pv 5)) (pe_op op_mul (pv 3) pe_int)) pa_nil)) pe_int))
      (pss_one (ps_ret (pe_op op_mod (pe_callTy call_int1 (by rfl) B.int (by decide +kernel) (pa_cons (pe_op op_add (pe_op op_mul (pv 6) pe_int) (pv 7)) pa_nil)) (pv 1))))))))))), ?_⟩
    -- cells = state[3]; turn = state[2]; state[2] = turn + 1; cell = 0
    refine ⟨_, rfl, a, _, _, _, rfl, rfl, SqL.of h1, at_of (j := 3) rfl rfl, ?_⟩
    refine ⟨_, rfl, a, _, _, _, rfl, rfl, SqL.of h1, at_of (j := 2) rfl rfl, ?_⟩
    refine ⟨_, rfl, _, _, rfl, rfl, _, rfl, a, _, _, 2, rfl, rfl, h1, rfl, ?_⟩
    have h1' : upd H a (.lst [.int x, .ref l, .int (t + 1), .ref c]) a = some (.lst [.int x, .ref l, .int (t + 1), .ref c]) := upd_same
    have S' : StAt (upd H a (.lst [.int x, .ref l, .int (t + 1), .ref c])) a l c (n + 1) :=
      ⟨⟨x, t + 1, h1', by omega, by omega⟩, ⟨ls, by rw [upd_ne al.symm]; exact h2⟩, ⟨cs, by rw [upd_ne ac.symm]; exact h3⟩, al, ac, lc⟩
    have hc' : SqL K (upd H a (.lst [.int x, .ref l, .int (t + 1), .ref c])) c (cs.map V.int) := SqL.of (by rw [upd_ne ac.symm]; exact h3)
    -- if len(cells) > 0: cell = cells[int(turn) % len(cells)]
    refine ⟨fun σ H1 => ∃ z : Int, H1 = upd H a (.lst [.int x, .ref l, .int (t + 1), .ref c]) ∧ σ = [some (.ref a), some (.int many), some (.ref c), some (.int t), some (.int z), none, none, none], ?_, ?_⟩
    · refine ⟨_, rfl, c, _, rfl, .inl hc', _, _, rfl, rfl, _, rfl, ?_⟩
      refine ite2 (fun hlen => ?_) (fun _ => ⟨0, rfl, rfl⟩)
      have hlen : (0 : Int) < ((cs.map V.int).length : Int) := of_decide_eq_true hlen
      rw [List.length_map] at hlen
      refine ⟨_, rfl, _, rfl, .inl ⟨_, rfl, _, rfl, c, _, rfl, .inl hc', _, _, rfl, rfl, by rw [List.length_map]; exact hlen, ?_⟩⟩
      have e0 := Int.emod_nonneg t (show (cs.length : Int) ≠ 0 by omega)
      have e1 := Int.emod_lt_of_pos t hlen
      have hj : (t % (cs.length : Int)).toNat < cs.length := by omega
      refine ⟨c, _, _, _, rfl, rfl, hc', at_of (j := (t % (cs.length : Int)).toNat) (v := V.int (cs[(t % (cs.length : Int)).toNat]'hj)) ?_ ?_, ?_⟩
      · rw [List.length_map]
        omega
      · rw [List.getElem?_map, List.getElem?_eq_getElem hj]
        rfl
      · exact ⟨_, rfl, rfl⟩
    · rintro σ H1 ⟨z, rfl, rfl⟩
      -- one, two, three
      refine ⟨_, rfl, _, _, rfl, rfl, .inr ⟨by decide, by decide⟩, _, rfl, _, _, rfl, rfl, .inr ⟨by decide, by decide⟩, _, _, rfl, rfl, _, _, rfl, rfl, .inl ⟨_, rfl, _, _, rfl, rfl, (by show (0 : Int) < 2147483647; decide), ?_⟩⟩
      have o0 := Int.emod_nonneg (z * 48271 + t * 69621 + 12345) (show (2147483647 : Int) ≠ 0 by decide)
      have o1 := Int.emod_lt_of_pos (z * 48271 + t * 69621 + 12345) (show (0 : Int) < 2147483647 by decide)
      refine ⟨_, rfl, _, _, rfl, rfl, .inr ⟨by decide, by decide⟩, _, rfl, _, rfl, _, _, rfl, rfl, .inl ⟨by omega, by omega⟩, _, _, rfl, rfl, .inr ⟨by decide, by decide⟩, _, _, rfl, rfl, _, rfl, _, _, rfl, rfl, .inr ⟨by decide, by decide⟩, _, _, rfl, rfl, _, _, rfl, rfl, .inl ⟨_, rfl, _, _, rfl, rfl, (by show (0 : Int) < 2147483399; decide), ?_⟩⟩
      refine ⟨_, rfl, _, _, rfl, rfl, .inr ⟨by decide, by decide⟩, _, rfl, _, _, rfl, rfl, _, rfl, _, _, rfl, rfl, .inr ⟨by decide, by decide⟩, _, _, rfl, rfl, .inl ⟨_, rfl, _, _, rfl, rfl, (by show (0 : Int) < 2147483563; decide), ?_⟩⟩
      refine ⟨_, rfl, _, _, rfl, rfl, .inr ⟨by decide, by decide⟩, _, rfl, _, _, rfl, rfl, .inl ⟨_, rfl, _, rfl, _, _, rfl, rfl, hm, ?_⟩⟩
      exact k _ _ (Int.emod_nonneg _ (by omega)) (Int.emod_lt_of_pos _ hm) S' (Keep.put List.mem_cons_self)

abbrev nDraw : List Str := ["_law_state_here", "_law_many", "_law_later", "_law_digit"]
theorem sc_draw : FnScope nDraw ["_law_state_here", "_law_many"] (fnScope sDraw) := fnScope_by (by decide +kernel)
theorem ok_draw (B : Blt mg) (c__law_mixed : Cal P w K mg base 1 "_law_mixed" spDraw []) {f : Addr} {fd : FuncData} (F : Def K mg "_law_draw" sDraw f fd) (b : Binds K fd ["_law_state_here", "_law_many"] []) : Cal P w K mg base 2 "_law_draw" spDraw [] := by
  refine cal0 F b .nil sc_draw (fun vs H Q E h => ?_) (fun cdv A outer s H vs Q E hr h => ?_)
  · obtain ⟨a, l, c, n, many, rfl, _⟩ := h
    rfl
  · obtain ⟨a, l, c, n, many, rfl, S, hn, hm, hm2, k⟩ := h
    refine ⟨_, pss_cut (ps_if (PW.pt (pw_and (pt_cmpR op_le (pe_ix ix_list (pv 0) pe_int (fun _ _ => rfl)) pe_int (nomark _)) (pw_and1 (pt_cmpR op_gt (pe_callB call_len_seq (by rfl) B.len (by decide +kernel) (pa_cons (pe_ix ix_list (pv 0) pe_int (fun _ _ => rfl)) pa_nil)) pe_int (nomark _))))) (pss_cons (ps_set (i := 2) sc_draw.nd rfl (Or.inl rfl) (pe_ix ix_list (pv 0) pe_int (fun _ _ => rfl)))
      (pss_one (ps_asg (pe_bm PySem.F.plainAttrs_list PySem.F.slot_list_pop PySem.F.type_list_pop mt_popAt (pv 2) (pa_cons pe_int pa_nil)) (pg_sub (pv 0) pe_int set_list)))) pss_nil)
      (pss_cons (ps_if (pt_cmpR op_gt (pe_ix ix_list (pv 0) pe_int (fun _ _ => rfl)) pe_int (nomark _)) (pss_cons (ps_set (i := 3) sc_draw.nd rfl (Or.inl rfl) (pe_op op_mod (pe_callTy call_int1 (by rfl) B.int (by decide +kernel) (pa_cons (pe_ix ix_list (pv 0) pe_int (fun _ _ => rfl)) pa_nil)) (pv 1)))
      (pss_cons (ps_asg (pe_op op_fdivW (pe_ix ix_list (pv 0) pe_int (fun _ _ => rfl)) (pv 1)) (pg_sub (pv 0) pe_int set_list))
      (pss_one (ps_ret (pv 3))))) pss_nil)
      (pss_one (ps_ret (pe_c c__law_mixed hr (by decide) (by rfl) (pa_cons (pv 0) (pa_cons (pv 1) pa_nil)))))), ?_⟩
    refine ⟨fun σ H1 => ∃ v, StAt H1 a l c n ∧ Keep (own a l c) H H1 ∧ σ = [some (.ref a), some (.int many), v, none], ?_, ?_⟩
    · obtain ⟨⟨x, t, h1, ht0, htn⟩, ⟨ls, h2⟩, ⟨cs, h3⟩, al, ac, lc⟩ := id S
      refine ⟨_, rfl, a, _, _, _, rfl, rfl, SqL.of h1, at_of (j := 0) rfl rfl, _, _, rfl, rfl, _, rfl, ?_⟩
      refine ite2 (fun _ => ?_) (fun _ => iteF ⟨none, S, Keep.refl, rfl⟩)
      refine ⟨_, rfl, a, _, _, _, rfl, rfl, SqL.of h1, at_of (j := 1) rfl rfl, l, _, rfl, .inl (SqL.of h2), _, _, rfl, rfl, _, rfl, ?_⟩
      refine ite2 (fun hl => ?_) (fun _ => ⟨none, S, Keep.refl, rfl⟩)
      have hl : (0 : Int) < ((ls.map V.int).length : Int) := of_decide_eq_true hl
      rw [List.length_map] at hl
      cases ls with
      | nil => exact absurd hl (by decide)
      | cons y ys =>
        refine ⟨_, rfl, a, _, _, _, rfl, rfl, SqL.of h1, at_of (j := 1) rfl rfl, ?_⟩
        refine ⟨_, rfl, .inl ⟨rfl, _, SqL.of h2⟩, l, _, 0, 0, V.int y, rfl, rfl, h2, by decide, by decide, ?_, rfl, ?_⟩
        · simp [seqIndex?]
        · have h1' : upd H l (.lst (ys.map V.int)) a = some (.lst [.int x, .ref l, .int t, .ref c]) := by rw [upd_ne al]; exact h1
          refine ⟨_, rfl, a, _, _, 0, rfl, rfl, h1', rfl, some (.ref l), ⟨⟨y, t, upd_same, ht0, htn⟩, ⟨ys, ?_⟩, ⟨cs, ?_⟩, al, ac, lc⟩, ?_, rfl⟩
          · rw [upd_ne al.symm]
            exact upd_same
          · rw [upd_ne ac.symm, upd_ne lc.symm]
            exact h3
          · exact (Keep.put (by simp [own])).trans (Keep.put (by simp [own]))
    · rintro σ H1 ⟨v, S1, k1, rfl⟩
      obtain ⟨⟨x, t, h1, ht0, htn⟩, ⟨ls, h2⟩, ⟨cs, h3⟩, al, ac, lc⟩ := id S1
      refine ⟨_, rfl, a, _, _, _, rfl, rfl, SqL.of h1, at_of (j := 0) rfl rfl, _, _, rfl, rfl, _, rfl, ?_⟩
      refine ite2 (fun _ => ?_) (fun _ => ?_)
      · refine ⟨_, rfl, a, _, _, _, rfl, rfl, SqL.of h1, at_of (j := 0) rfl rfl, .inl ⟨_, rfl, _, rfl, _, _, rfl, rfl, hm, ?_⟩⟩
        refine ⟨_, rfl, a, _, _, _, rfl, rfl, SqL.of h1, at_of (j := 0) rfl rfl, _, rfl, _, _, rfl, rfl, wide_div hm (b := 200) (by omega) (by decide) (by decide), _, rfl, a, _, _, 0, rfl, rfl, h1, rfl, _, rfl, ?_⟩
        refine k _ _ (Int.emod_nonneg _ (by omega)) (Int.emod_lt_of_pos _ hm) ⟨⟨x / many, t, upd_same, ht0, by omega⟩, ⟨ls, ?_⟩, ⟨cs, ?_⟩, al, ac, lc⟩ (k1.trans (Keep.put (by simp [own])))
        · rw [upd_ne al.symm]
          exact h2
        · rw [upd_ne ac.symm]
          exact h3
      · refine ⟨_, rfl, _, rfl, a, l, c, n, many, rfl, S1, hn, hm, hm2, fun r H' r0 r1 S' k' => ?_⟩
        exact k r H' r0 r1 S' (k1.trans k')

/-- _law_limit: one of six limits, between 2 and 10 ** 40 -/
def spLimit : Sp := fun vs H Q _ => ∃ (a l c : Addr) (n : Int), vs = [.ref a] ∧ StAt H a l c n ∧ n ≤ 2 ^ 60 ∧
  ∀ (r : Int) (H' : Hp), 2 ≤ r → r ≤ 10 ^ 40 → StAt H' a l c (n + 1) → Keep (own a l c) H H' → Q (.int r) H'
abbrev nLimit : List Str := ["_law_state_here", "_law_limits"]
theorem sc_limit : FnScope nLimit ["_law_state_here"] (fnScope sLimit) := fnScope_by (by decide +kernel)
theorem ok_limit (c__law_draw : Cal P w K mg base 2 "_law_draw" spDraw []) {f : Addr} {fd : FuncData} (F : Def K mg "_law_limit" sLimit f fd) (b : Binds K fd ["_law_state_here"] []) : Cal P w K mg base 3 "_law_limit" spLimit [] := by
  refine cal0 F b .nil sc_limit (fun vs H Q E h => ?_) (fun cdv A outer s H vs Q E hr h => ?_)
  · obtain ⟨a, l, c, n, rfl, _⟩ := h
    rfl
  · obtain ⟨a, l, c, n, rfl, S, hn, k⟩ := h
    refine ⟨_, pss_cons (ps_set (i := 1) sc_limit.nd rfl (Or.inl rfl) (pe_lst (pa_cons pe_int (pa_cons pe_int (pa_cons pe_int (pa_cons pe_int (pa_cons (pe_op op_pow pe_int pe_int) (pa_cons (pe_op op_pow pe_int pe_int) pa_nil))))))))
      (pss_one (ps_ret (pe_ix ix_list (pv 1) (pe_c c__law_draw hr (by decide) (by rfl) (pa_cons (pv 0) (pa_cons pe_int pa_nil))) (fun _ _ => rfl)))), ?_⟩
    refine ⟨_, _, rfl, rfl, ⟨by decide, by decide, by decide⟩, _, _, rfl, rfl, ⟨by decide, by decide, by decide⟩, (by show 6 ≤ sizeLine; decide), fun p hp => ?_⟩
    refine ⟨_, rfl, _, rfl, a, l, c, n, 6, rfl, S.new hp, hn, by decide, by decide, fun r H' r0 r1 S' k' => ?_⟩
    have hL := k' p _ upd_same (S.fresh hp)
    have key : ∀ j : Nat, j < 6 → ∃ z : Int, ([V.int 2, V.int 4, V.int 12, V.int 60, V.int (10 ^ (6 : Int).toNat), V.int (10 ^ (40 : Int).toNat)] : List V)[j]? = some (.int z) ∧ 2 ≤ z ∧ z ≤ 10 ^ 40 := fun j hj => by
      match j, hj with
      | 0, _ => exact ⟨2, rfl, by decide, by decide⟩
      | 1, _ => exact ⟨4, rfl, by decide, by decide⟩
      | 2, _ => exact ⟨12, rfl, by decide, by decide⟩
      | 3, _ => exact ⟨60, rfl, by decide, by decide⟩
      | 4, _ => exact ⟨10 ^ (6 : Int).toNat, rfl, by decide, by decide⟩
      | 5, _ => exact ⟨10 ^ (40 : Int).toNat, rfl, by decide, by decide⟩
    obtain ⟨z, hz, z0, z1⟩ := key r.toNat (by omega)
    exact ⟨p, _, _, _, rfl, rfl, SqL.of hL, at_of (j := r.toNat) (by omega) hz, k z H' z0 z1 S' ((Keep.new hp).trans k')⟩

/-- _law_signed -/
def spSigned : Sp := fun vs H Q _ => ∃ (a l c : Addr) (n many : Int), vs = [.ref a, .int many] ∧ StAt H a l c n ∧ n ≤ 2 ^ 60 ∧ 0 < many ∧ many < 2 ^ 190 ∧
  ∀ (r : Int) (H' : Hp), StAt H' a l c (n + 1) → Keep (own a l c) H H' → Q (.int r) H'
abbrev nSigned : List Str := ["_law_state_here", "_law_many", "_law_number"]
theorem sc_signed : FnScope nSigned ["_law_state_here", "_law_many"] (fnScope sSigned) := fnScope_by (by decide +kernel)
theorem ok_signed (B : Blt mg) (c__law_draw : Cal P w K mg base 2 "_law_draw" spDraw []) {f : Addr} {fd : FuncData} (F : Def K mg "_law_signed" sSigned f fd) (b : Binds K fd ["_law_state_here", "_law_many"] []) : Cal P w K mg base 3 "_law_signed" spSigned [] := by
  refine cal0 F b .nil sc_signed (fun vs H Q E h => ?_) (fun cdv A outer s H vs Q E hr h => ?_)
  · obtain ⟨a, l, c, n, many, rfl, _⟩ := h
    rfl
  · obtain ⟨a, l, c, n, many, rfl, S, hn, hm, hm2, k⟩ := h
    refine ⟨_, pss_cons (ps_set (i := 2) sc_signed.nd rfl (Or.inl rfl) (pe_c c__law_draw hr (by decide) (by rfl) (pa_cons (pv 0) (pa_cons (pe_op op_add (pe_op op_mul pe_int (pv 1)) pe_int) pa_nil))))
      (pss_cons (ps_if (pt_cmpR op_eq (pe_op op_mod (pe_callTy call_int1 (by rfl) B.int (by decide +kernel) (pa_cons (pv 2) pa_nil)) pe_int) pe_int (nomark _)) (pss_one (ps_ret (pe_un un_neg (pe_op op_fdivW (pe_op op_add (pv 2) pe_int) pe_int)))) pss_nil)
      (pss_one (ps_ret (pe_op op_fdivW (pv 2) pe_int)))), ?_⟩
    refine ⟨_, rfl, _, rfl, _, _, rfl, rfl, .inl ⟨by decide, by decide⟩, _, _, rfl, rfl, a, l, c, n, 2 * many + 1, rfl, S, hn, by omega, by omega, fun r H' r0 r1 S' k' => ?_⟩
    refine ⟨_, rfl, .inl ⟨_, rfl, _, _, rfl, rfl, (by show (0 : Int) < 2; decide), rfl, _, rfl, ?_⟩⟩
    refine ite2 (fun _ => ?_) (fun _ => ?_)
    · refine ⟨_, rfl, _, _, rfl, rfl, _, _, rfl, rfl, wide_div (by decide) (b := 200) (by decide) (by decide) (by decide), _, rfl, ?_⟩
      exact k _ _ S' k'
    · refine ⟨_, rfl, _, _, rfl, rfl, wide_div (by decide) (b := 200) (by decide) (by decide) (by decide), ?_⟩
      exact k _ _ S' k'
end
end H5
/-! The law's input: _law_state, _law_name, _law_names. -/
namespace H5
open PySem L2 SX
open C8 (Cal Met Mak Def cal0 met0 mak0 pe_c pe_mk pe_mt pe_mt0 fnScope_by scC pe_gc InsC call_isC pss_cut tCut fnScope fnArgs fnBody)

abbrev Ltr (c : Nat) : Prop := 97 ≤ c ∧ c ≤ 122
abbrev LtrDig (c : Nat) : Prop := (97 ≤ c ∧ c ≤ 122) ∨ (48 ≤ c ∧ c ≤ 57)
def NmL (l : List Nat) : Prop := l.length ≤ 12 ∧ ∃ c r, l = c :: r ∧ Ltr c ∧ ∀ d ∈ r, LtrDig d
def NameOk (z : Str) : Prop := ∃ l, z = S l ∧ NmL l
theorem NmL.snoc {l : List Nat} {d : Nat} (h : NmL l) (hl : l.length < 12) (hd : LtrDig d) : NmL (l ++ [d]) := by
  obtain ⟨_, c, r, rfl, hc, hr⟩ := h
  refine ⟨by simp at hl ⊢; omega, c, r ++ [d], rfl, hc, fun x hx => ?_⟩
  rcases List.mem_append.mp hx with q | q
  · exact hr x q
  · rw [List.mem_singleton.mp q]
    exact hd
theorem NmL.swap {l : List Nat} {d i : Nat} (h : NmL l) (hi : i < l.length) (hd : Ltr d) : NmL (l.take i ++ [d] ++ l.drop (i + 1)) := by
  obtain ⟨h12, c, r, rfl, hc, hr⟩ := h
  refine ⟨by simp at hi h12 ⊢; omega, ?_⟩
  cases i with
  | zero => exact ⟨d, r, by simp, hd, hr⟩
  | succ i =>
    refine ⟨c, r.take i ++ [d] ++ r.drop (i + 1), by simp, hc, fun x hx => ?_⟩
    rcases List.mem_append.mp hx with q | q
    · rcases List.mem_append.mp q with q | q
      · exact hr x (List.mem_of_mem_take q)
      · rw [List.mem_singleton.mp q]
        exact .inl hd
    · exact hr x (List.mem_of_mem_drop q)
theorem q_num {t : Nat} (h : t < 60) : NmL (113 :: TL.numL t) := by
  have hl := TL.numL_len (n := t) (k := 2) (by decide) (by omega)
  refine ⟨by simp; omega, 113, TL.numL t, rfl, by decide, fun d hd => .inr ?_⟩
  exact TL.numL_digits t d hd
def signs : Str := Str.ofString "abcdefghijklmnopqrstuvwxyz0123456789"
def letters : Str := Str.ofString "abcdefghijklmnopqrstuvwxyz"
theorem signs_l : signs.cps.toList = [97, 98, 99, 100, 101, 102, 103, 104, 105, 106, 107, 108, 109, 110, 111, 112, 113, 114, 115, 116, 117, 118, 119, 120, 121, 122, 48, 49, 50, 51, 52, 53, 54, 55, 56, 57] := by decide +kernel
theorem letters_l : letters.cps.toList = [97, 98, 99, 100, 101, 102, 103, 104, 105, 106, 107, 108, 109, 110, 111, 112, 113, 114, 115, 116, 117, 118, 119, 120, 121, 122] := by decide +kernel
theorem len_tl (z : Str) : z.length = z.cps.toList.length := by simp [Str.length]
theorem sign_at {r : Int} (h0 : 0 ≤ r) (h1 : r < 36) : ∃ d, atI signs.cps.toList r = some d ∧ LtrDig d ∧ (r < 26 → Ltr d) := by
  obtain ⟨j, rfl⟩ : ∃ j : Nat, r = (j : Int) := ⟨r.toNat, by omega⟩
  rw [signs_l]
  have hj : j < 36 := by omega
  refine ⟨_, atI_nat (List.getElem?_eq_getElem (show j < ([97, 98, 99, 100, 101, 102, 103, 104, 105, 106, 107, 108, 109, 110, 111, 112, 113, 114, 115, 116, 117, 118, 119, 120, 121, 122, 48, 49, 50, 51, 52, 53, 54, 55, 56, 57] : List Nat).length from hj)), ?_⟩
  have key : ∀ j, (h : j < 36) → LtrDig ([97, 98, 99, 100, 101, 102, 103, 104, 105, 106, 107, 108, 109, 110, 111, 112, 113, 114, 115, 116, 117, 118, 119, 120, 121, 122, 48, 49, 50, 51, 52, 53, 54, 55, 56, 57].get ⟨j, h⟩) ∧ (j < 26 → Ltr ([97, 98, 99, 100, 101, 102, 103, 104, 105, 106, 107, 108, 109, 110, 111, 112, 113, 114, 115, 116, 117, 118, 119, 120, 121, 122, 48, 49, 50, 51, 52, 53, 54, 55, 56, 57].get ⟨j, h⟩)) := by decide
  exact ⟨(key j hj).1, fun h => (key j hj).2 (by omega)⟩
theorem letter_at {r : Int} (h0 : 0 ≤ r) (h1 : r < 26) : ∃ d, atI letters.cps.toList r = some d ∧ Ltr d := by
  obtain ⟨j, rfl⟩ : ∃ j : Nat, r = (j : Int) := ⟨r.toNat, by omega⟩
  rw [letters_l]
  have hj : j < 26 := by omega
  refine ⟨_, atI_nat (List.getElem?_eq_getElem (show j < ([97, 98, 99, 100, 101, 102, 103, 104, 105, 106, 107, 108, 109, 110, 111, 112, 113, 114, 115, 116, 117, 118, 119, 120, 121, 122] : List Nat).length from hj)), ?_⟩
  have key : ∀ j, (h : j < 26) → Ltr ([97, 98, 99, 100, 101, 102, 103, 104, 105, 106, 107, 108, 109, 110, 111, 112, 113, 114, 115, 116, 117, 118, 119, 120, 121, 122].get ⟨j, h⟩) := by decide
  exact key j hj
theorem line12 {l : List Nat} (h : l.length ≤ 12) : (S l).length ≤ sizeLine := by
  rw [S_len]
  exact Nat.le_trans h (by decide)

def spState (K : PySem.W.Frag) : Sp := fun vs H Q _ => ∃ (sc : Addr) (ns : List Int), vs = [.ref sc] ∧ SqL K H sc (ns.map V.int) ∧ ns.length ≤ 63 ∧ ∀ (a l c : Addr) (H' : Hp), StAt H' a l c 0 → Same H H' → Q (.ref a) H'
def spName : Sp := fun vs H Q _ => ∃ (a l c : Addr) (n : Int), vs = [.ref a] ∧ StAt H a l c n ∧ n ≤ 2 ^ 59 ∧
  ∀ (z : Str) (H' : Hp), NameOk z → StAt H' a l c (n + 14) → Keep (own a l c) H H' → Q (.str z) H'
section
variable {P : Program} {w : World} {K : PySem.W.Frag} {mg : Str → Option Value} {base : Heap}
abbrev nState : List Str := ["_law_script", "_law_cell"]
theorem sc_state : FnScope nState ["_law_script"] (fnScope sState) := fnScope_by (by decide +kernel)
theorem ok_state (B : Blt mg) {f : Addr} {fd : FuncData} (F : Def K mg "_law_state" sState f fd) (b : Binds K fd ["_law_script"] []) : Cal P w K mg base 1 "_law_state" (spState K) [] := by
  refine cal0 F b .nil sc_state (fun vs H Q E h => ?_) (fun cdv A outer s H vs Q E hr h => ?_)
  · obtain ⟨sc, ns, rfl, _⟩ := h
    rfl
  · obtain ⟨sc, ns, rfl, hS, hlen, k⟩ := h
    refine ⟨_, pss_one (ps_ret (pe_lst (pa_cons pe_int (pa_cons (pe_lc (own := [("_law_cell", 1)]) rfl sc_state.nd (pi_list (pv 0)) (blkOk_by (N := nState) (sc := fnScope sState) (by decide +kernel)) (fun _ _ _ _ _ => (pg_name (i := 1) sc_state.nd rfl (Or.inl rfl))) (fun _ _ _ _ _ => (pts_one (pt_cmpR op_ge (pv 1) (pe_op op_pow pe_int pe_int) (nomark _)))) (fun _ _ _ _ _ => (pv 1))) (pa_cons pe_int (pa_cons (pe_callTy call_list_of (by rfl) B.list (by decide +kernel) (pa_cons (pv 0) pa_nil)) pa_nil)))))), ?_⟩
    refine ⟨_, rfl, sc, rfl, ⟨_, hS⟩, fun D hD => lc_list (K := K) (a := sc) (xs := ns.map V.int) (fun i H1 => ∃ ls : List Int, H1 = upd H D (.lst (ls.map V.int)) ∧ ls.length ≤ i) ⟨[], rfl, Nat.le_refl _⟩ (fun i H1 _ ⟨ls, e, _⟩ => by rw [e]; exact (Same.new hD).seq hS) ?_ ?_⟩
    · rintro i x H1 hx ⟨ls, rfl, hl⟩
      have hi := (List.getElem?_eq_some_iff.mp hx).1
      rw [List.length_map] at hi
      rw [List.getElem?_map] at hx
      obtain ⟨y, _, rfl⟩ := Option.map_eq_some_iff.mp hx
      refine ⟨rfl, _, rfl, _, _, rfl, rfl, ⟨by decide, by decide, by decide⟩, _, _, rfl, rfl, _, rfl, ?_⟩
      refine ite2 (fun _ => ?_) (fun _ => ⟨ls, rfl, by omega⟩)
      refine ⟨_, rfl, _, upd_same, small1000 (by rw [List.length_map]; omega), ls ++ [y], ?_, ?_⟩
      · rw [upd_upd, List.map_append]
        rfl
      · rw [List.length_append, List.length_singleton]
        omega
    · rintro H1 ⟨ls, rfl, hl⟩
      have s1 : Same H (upd H D (.lst (ls.map V.int))) := Same.new hD
      refine ⟨_, rfl, sc, _, rfl, .inl (s1.seq hS), fun c hc => ⟨(by show 4 ≤ sizeLine; decide), fun a ha => ?_⟩⟩
      have s2 : Same (upd H D (.lst (ls.map V.int))) (upd (upd H D (.lst (ls.map V.int))) c (.lst (ns.map V.int))) := Same.new hc
      have s3 := Same.new (o := .lst [.int 1, .ref D, .int 0, .ref c]) ha
      have eD : upd H D (.lst (ls.map V.int)) D = some (.lst (ls.map V.int)) := upd_same
      have ec : upd (upd H D (.lst (ls.map V.int))) c (.lst (ns.map V.int)) c = some (.lst (ns.map V.int)) := upd_same
      refine k a D c _ ⟨⟨1, 0, upd_same, Int.le_refl _, Int.le_refl _⟩, ⟨ls, s3 _ _ (s2 _ _ eD)⟩, ⟨ns, s3 _ _ ec⟩, (ne_of_none (s2 _ _ eD) ha).symm, (ne_of_none ec ha).symm, ne_of_none eD hc⟩ ((s1.trans s2).trans s3)
abbrev nName : List Str := ["_law_state_here", "_law_signs", "_law_name_here", "_law_k"]
theorem sc_name : FnScope nName ["_law_state_here"] (fnScope sName) := fnScope_by (by decide +kernel)
theorem ok_name (B : Blt mg) (c__law_draw : Cal P w K mg base 2 "_law_draw" spDraw []) {f : Addr} {fd : FuncData} (F : Def K mg "_law_name" sName f fd) (b : Binds K fd ["_law_state_here"] []) : Cal P w K mg base 3 "_law_name" spName [] := by
  refine cal0 F b .nil sc_name (fun vs H Q E h => ?_) (fun cdv A outer s H vs Q E hr h => ?_)
  · obtain ⟨a, l, c, n, rfl, _⟩ := h
    rfl
  · obtain ⟨a, l, c, n, rfl, S0, hn, k⟩ := h
    refine ⟨_, pss_cons (ps_set (i := 1) sc_name.nd rfl (Or.inl rfl) pe_str)
      (pss_cons (ps_set (i := 2) sc_name.nd rfl (Or.inl rfl) (pe_ix ix_str (pv 1) (pe_c c__law_draw hr (by decide) (by rfl) (pa_cons (pv 0) (pa_cons pe_int pa_nil))) (fun _ _ => rfl)))
      (pss_cons (ps_for PassesOwn.never rfl (pi_range1 (by rfl) B.range (pa_cons (pe_c c__law_draw hr (by decide) (by rfl) (pa_cons (pv 0) (pa_cons pe_int pa_nil))) pa_nil)) (pg_name (i := 3) sc_name.nd rfl (Or.inl rfl)) (pss_one (ps_set (i := 2) sc_name.nd rfl (Or.inl rfl) (pe_op op_add_str (pv 2) (pe_ix ix_str (pv 1) (pe_c c__law_draw hr (by decide) (by rfl) (pa_cons (pv 0) (pa_cons pe_int pa_nil))) (fun _ _ => rfl))))))
      (pss_one (ps_ret (pv 2))))), ?_⟩
    refine ⟨_, rfl, _, rfl, a, l, c, n, 26, rfl, S0, by omega, by decide, by decide, fun r H1 r0 r1 S1 k1 => ?_⟩
    obtain ⟨d, hd, _, hL⟩ := sign_at r0 (by omega)
    refine ⟨signs, r, d, rfl, rfl, by decide +kernel, hd, ?_⟩
    refine ⟨_, rfl, a, l, c, n + 1, 12, rfl, S1, by omega, by decide, by decide, fun r2 H2 r20 r21 S2 k2 => ?_⟩
    refine ⟨r2, rfl, by omega, by omega, for_range (lo := 0) (n := r2.toNat) (fun i σ H3 => ∃ (u : List Nat) (v : Option V), σ = [some (.ref a), some (.str signs), some (.str (S u)), v] ∧ NmL u ∧ u.length = 1 + i ∧ StAt H3 a l c (n + 2 + i) ∧ Keep (own a l c) H H3) ?_ ?_ ?_⟩
    · refine ⟨[d], none, rfl, ⟨by simp, d, [], rfl, hL r1, fun _ h => nomatch h⟩, rfl, ?_, k1.trans k2⟩
      exact S2.mono (by omega)
    · rintro i σ H3 hi ⟨u, v, rfl, hu, hul, S3, k3⟩
      refine ⟨_, rfl, _, rfl, _, rfl, a, l, c, n + 2 + i, 36, rfl, S3, by omega, by decide, by decide, fun r4 H4 r40 r41 S4 k4 => ?_⟩
      obtain ⟨e, he, hed, _⟩ := sign_at r40 r41
      refine ⟨signs, r4, e, rfl, rfl, by decide +kernel, he, S u, S [e], rfl, rfl, ?_, ?_⟩
      · rw [S_len, S_len]
        exact Nat.le_trans (show u.length + 1 ≤ 20 by omega) (by decide)
      · refine ⟨u ++ [e], some (.int (0 + i)), ?_, hu.snoc (by omega) hed, by rw [List.length_append, List.length_singleton]; omega, ?_, k3.trans k4⟩
        · rw [S_cat]
          rfl
        · exact S4.mono (by omega)
    · rintro σ H3 ⟨u, v, rfl, hu, hul, S3, k3⟩
      exact ⟨_, rfl, k (S u) H3 ⟨u, rfl, hu⟩ (S3.mono (by omega)) k3⟩

/-- _law_names -/
def spNames : Sp := fun vs H Q _ => ∃ (a l c : Addr) (n count : Int), vs = [.ref a, .int count] ∧ StAt H a l c n ∧ n ≤ 2 ^ 58 ∧ 1 ≤ count ∧ count ≤ 8 ∧
  ∀ (p : Addr) (zs : List Str) (H' : Hp), (∀ z ∈ zs, NameOk z) → (zs.length : Int) = count → H' p = some (.lst (zs.map V.str)) → p ∉ own a l c → StAt H' a l c (n + 200) → Keep (own a l c) H H' → Q (.ref p) H'
abbrev nNames : List Str := ["_law_state_here", "_law_count", "_law_names_here", "_law_base", "_law_alike", "_law_k", "_law_name_here", "_law_place", "_law_turn"]
theorem sc_names : FnScope nNames ["_law_state_here", "_law_count"] (fnScope sNames) := fnScope_by (by decide +kernel)
theorem ok_names (B : Blt mg) (c__law_draw : Cal P w K mg base 2 "_law_draw" spDraw []) (c__law_name : Cal P w K mg base 3 "_law_name" spName []) {f : Addr} {fd : FuncData} (F : Def K mg "_law_names" sNames f fd) (b : Binds K fd ["_law_state_here", "_law_count"] []) : Cal P w K mg base 4 "_law_names" spNames [] := by
  refine cal0 F b .nil sc_names (fun vs H Q E h => ?_) (fun cdv A outer s H vs Q E hr h => ?_)
  · obtain ⟨a, l, c, n, count, rfl, _⟩ := h
    rfl
  · obtain ⟨a, l, c, n, count, rfl, S0, hn, hc1, hc8, k⟩ := h
    refine ⟨_, pss_cons (ps_set (i := 2) sc_names.nd rfl (Or.inl rfl) (pe_lst pa_nil))
      (pss_cons (ps_set (i := 3) sc_names.nd rfl (Or.inl rfl) (pe_c c__law_name hr (by decide) (by rfl) (pa_cons (pv 0) pa_nil)))
      (pss_cons (ps_set (i := 4) sc_names.nd rfl (Or.inl rfl) (pe_c c__law_draw hr (by decide) (by rfl) (pa_cons (pv 0) (pa_cons pe_int pa_nil))))
      (pss_cons (ps_for PassesOwn.never rfl (pi_range1 (by rfl) B.range (pa_cons (pv 1) pa_nil)) (pg_name (i := 5) sc_names.nd rfl (Or.inl rfl)) (pss_cons (ps_set (i := 6) sc_names.nd rfl (Or.inl rfl) (pv 3))
      (pss_cut (ps_if (PW.pt (pw_and (pt_cmpR op_gt (pv 5) pe_int (nomark _)) (pw_and1 (pt_cmpR op_eq (pv 4) pe_int (nomark _))))) (pss_one (ps_set (i := 6) sc_names.nd rfl (Or.inl rfl) (pe_c c__law_name hr (by decide) (by rfl) (pa_cons (pv 0) pa_nil)))) pss_nil)
      (pss_cut (ps_if (PW.pt (pw_and (pt_cmpR op_gt (pv 5) pe_int (nomark _)) (pw_and1 (pt_cmpR op_eq (pv 4) pe_int (nomark _))))) (pss_cons (ps_set (i := 7) sc_names.nd rfl (Or.inl rfl) (pe_c c__law_draw hr (by decide) (by rfl) (pa_cons (pv 0) (pa_cons (pe_callB call_len_str (by rfl) B.len (by decide +kernel) (pa_cons (pv 3) pa_nil)) pa_nil))))
      (pss_one (ps_set (i := 6) sc_names.nd rfl (Or.inl rfl) (pe_op op_add_str (pe_op op_add_str (pe_slice C8.sl_txt (pv 3) po_none (po_some (pv 7))) (pe_ix ix_str pe_str (pe_c c__law_draw hr (by decide) (by rfl) (pa_cons (pv 0) (pa_cons pe_int pa_nil))) (fun _ _ => rfl))) (pe_slice C8.sl_txt (pv 3) (po_some (pe_op op_add (pv 7) pe_int)) po_none))))) pss_nil)
      (pss_cons (ps_for PassesOwn.never rfl (pi_range1 (by rfl) B.range (pa_cons pe_int pa_nil)) (pg_name (i := 8) sc_names.nd rfl (Or.inl rfl)) (pss_one (ps_if (PW.pt (pw_or (pt_cmpR op_in_seq (pv 6) (pv 2) (by rfl)) (pw_or1 (pt_cmpR op_eq (pv 6) pe_str (nomark _))))) (pss_one (ps_set (i := 6) sc_names.nd rfl (Or.inl rfl) (pe_op op_add_str pe_str (pe_callTy call_str_int (by rfl) B.str (by decide +kernel) (pa_cons (pv 8) pa_nil))))) pss_nil)))
      (pss_one (ps_expr (pe_bm PySem.F.plainAttrs_list PySem.F.slot_list_append PySem.F.type_list_append mt_append (pv 2) (pa_cons (pv 6) pa_nil)))))))))
      (pss_one (ps_ret (pv 2)))))), ?_⟩
    refine ⟨(by show 0 ≤ sizeLine; decide), fun p hp => ?_⟩
    have pn := S0.fresh hp
    refine ⟨_, rfl, a, l, c, n, rfl, S0.new hp, by omega, fun base H1 hb S1 k1 => ?_⟩
    have hp1 := k1 _ _ upd_same pn
    obtain ⟨bl, rfl, hbl⟩ := hb
    have hb12 := hbl.1
    have hb1 : 1 ≤ bl.length := by
      obtain ⟨_, x, r, rfl, _⟩ := hbl
      simp
    refine ⟨_, rfl, a, l, c, n + 14, 2, rfl, S1, by omega, by decide, by decide, fun al H2 al0 al1 S2 k2 => ?_⟩
    have hp2 := k2 _ _ hp1 pn
    have k02 : Keep (own a l c) H H2 := ((Keep.new hp).trans k1).trans k2
    refine ⟨_, rfl, count, rfl, by omega, by omega, for_range (lo := 0) (n := count.toNat) (fun i σ H3 => ∃ (zs : List Str) (v5 v6 v7 v8 : Option V), σ = [some (.ref a), some (.int count), some (.ref p), some (.str (S bl)), some (.int al), v5, v6, v7, v8] ∧
      H3 p = some (.lst (zs.map V.str)) ∧ zs.length = i ∧ (∀ z ∈ zs, NameOk z) ∧ StAt H3 a l c (n + 15 + 20 * i) ∧ Keep (own a l c) H H3) ?_ ?_ ?_⟩
    · exact ⟨[], none, none, none, none, rfl, hp2, rfl, (fun z hz => nomatch hz), S2.mono (by omega), k02⟩
    · rintro i σ H3 hi ⟨zs, v5, v6, v7, v8, rfl, hp3, hzl, hz, S3, k3⟩
      refine ⟨_, rfl, ?_⟩
      -- if k > 0 and alike == 0: name = _law_name(state)
      refine ⟨fun σ H4 => ∃ z : Str, NameOk z ∧ σ = [some (.ref a), some (.int count), some (.ref p), some (.str (S bl)), some (.int al), some (.int (0 + i)), some (.str z), v7, v8] ∧ H4 p = some (.lst (zs.map V.str)) ∧ StAt H4 a l c (n + 29 + 20 * i) ∧ Keep (own a l c) H H4, ?_, ?_⟩
      · have no : ∃ z : Str, NameOk z ∧ ([some (.ref a), some (.int count), some (.ref p), some (.str (S bl)), some (.int al), some (.int (0 + i)), some (.str (S bl)), v7, v8] : List (Option V)) = [some (.ref a), some (.int count), some (.ref p), some (.str (S bl)), some (.int al), some (.int (0 + i)), some (.str z), v7, v8] ∧ H3 p = some (.lst (zs.map V.str)) ∧ StAt H3 a l c (n + 29 + 20 * i) ∧ Keep (own a l c) H H3 :=
          ⟨_, ⟨bl, rfl, hbl⟩, rfl, hp3, S3.mono (by omega), k3⟩
        refine ⟨_, rfl, _, _, rfl, rfl, _, rfl, ?_⟩
        refine ite2 (fun _ => ?_) (fun _ => iteF no)
        refine ⟨_, rfl, rfl, _, rfl, ?_⟩
        refine ite2 (fun _ => ?_) (fun _ => no)
        refine ⟨_, rfl, a, l, c, n + 15 + 20 * i, rfl, S3, by omega, fun z H4 hz4 S4 k4 => ?_⟩
        exact ⟨z, hz4, rfl, k4 _ _ hp3 pn, S4.mono (by omega), k3.trans k4⟩
      · rintro σ H4 ⟨z, hz4, rfl, hp4, S4, k4⟩
        -- if k > 0 and alike == 1: ..
        refine ⟨fun σ H5 => ∃ (z : Str) (v7 : Option V), NameOk z ∧ σ = [some (.ref a), some (.int count), some (.ref p), some (.str (S bl)), some (.int al), some (.int (0 + i)), some (.str z), v7, v8] ∧ H5 p = some (.lst (zs.map V.str)) ∧ StAt H5 a l c (n + 31 + 20 * i) ∧ Keep (own a l c) H H5, ?_, ?_⟩
        · have no : ∃ (z' : Str) (v7' : Option V), NameOk z' ∧ ([some (.ref a), some (.int count), some (.ref p), some (.str (S bl)), some (.int al), some (.int (0 + i)), some (.str z), v7, v8] : List (Option V)) = [some (.ref a), some (.int count), some (.ref p), some (.str (S bl)), some (.int al), some (.int (0 + i)), some (.str z'), v7', v8] ∧ H4 p = some (.lst (zs.map V.str)) ∧ StAt H4 a l c (n + 31 + 20 * i) ∧ Keep (own a l c) H H4 :=
            ⟨z, v7, hz4, rfl, hp4, S4.mono (by omega), k4⟩
          refine ⟨_, rfl, _, _, rfl, rfl, _, rfl, ?_⟩
          refine ite2 (fun _ => ?_) (fun _ => iteF no)
          refine ⟨_, rfl, rfl, _, rfl, ?_⟩
          refine ite2 (fun _ => ?_) (fun _ => no)
          refine ⟨_, rfl, _, rfl, _, rfl, line12 hb12, a, l, c, n + 29 + 20 * i, _, rfl, S4, by omega, by rw [S_len]; omega, by rw [S_len]; omega, fun r5 H5 r50 r51 S5 k5 => ?_⟩
          rw [S_len] at r51
          refine ⟨_, rfl, _, rfl, _, rfl, _, rfl, line12 hb12, _, rfl, a, l, c, n + 29 + 20 * i + 1, 26, rfl, S5, by omega, by decide, by decide, fun r6 H6 r60 r61 S6 k6 => ?_⟩
          obtain ⟨d, hd, hdL⟩ := letter_at r60 r61
          refine ⟨letters, r6, d, rfl, rfl, by decide +kernel, hd, _, _, rfl, rfl, ?_, _, rfl, _, rfl, _, _, rfl, rfl, _, rfl, _, rfl, line12 hb12, _, _, rfl, rfl, ?_, ?_⟩
          · rw [slice_to r50, S_len, S_len]
            exact Nat.le_trans (show (bl.take r5.toNat).length + 1 ≤ 20 by rw [List.length_take]; omega) (by decide)
          · rw [slice_to r50, slice_from (by omega), S_cat, S_len, S_len]
            refine Nat.le_trans (show (bl.take r5.toNat ++ [d]).length + (bl.drop (r5 + 1).toNat).length ≤ 40 from ?_) (by decide)
            rw [List.length_append, List.length_take, List.length_drop, List.length_singleton]
            omega
          · refine ⟨_, _, ?_, rfl, k6 _ _ (k5 _ _ hp4 pn) pn, S6.mono (by omega), (k4.trans k5).trans k6⟩
            refine ⟨bl.take r5.toNat ++ [d] ++ bl.drop (r5.toNat + 1), ?_, hbl.swap (by omega) hdL⟩
            rw [slice_to r50, slice_from (by omega), S_cat, S_cat, show (r5 + 1).toNat = r5.toNat + 1 by omega]
        · rintro σ H5 ⟨z5, v7', hz5, rfl, hp5, S5, k5⟩
          -- for turn in range(60): ..
          refine ⟨60, rfl, by decide, by decide, for_range (lo := 0) (n := 60) (fun j σ H6 => ∃ (z : Str) (v8 : Option V), NameOk z ∧ σ = [some (.ref a), some (.int count), some (.ref p), some (.str (S bl)), some (.int al), some (.int (0 + i)), some (.str z), v7', v8] ∧ H6 = H5) ⟨z5, v8, hz5, rfl, rfl⟩ ?_ ?_⟩
          · rintro j σ H6 hj ⟨z, v8, hz6, rfl, rfl⟩
            have yes : ∃ (x : Option V), ∃ (v : V), x = some v ∧ True := ⟨some .non, .non, rfl, trivial⟩
            have fin : ∃ (z' : Str) (v8' : Option V), NameOk z' ∧ ([some (.ref a), some (.int count), some (.ref p), some (.str (S bl)), some (.int al), some (.int (0 + i)), some (.str (Str.ofString "q" ++ toString ((0 + j : Int)))), v7', some (.int (0 + j))] : List (Option V)) = [some (.ref a), some (.int count), some (.ref p), some (.str (S bl)), some (.int al), some (.int (0 + i)), some (.str z'), v7', v8'] ∧ H6 = H6 := by
              refine ⟨_, _, ⟨113 :: TL.numL j, ?_, q_num hj⟩, rfl, rfl⟩
              have e1 : (Str.ofString "q") = S [113] := by decide +kernel
              have e2 : (toString ((0 + j : Int)) : String) = toString ((j : Nat) : Int) := by rw [Int.zero_add]
              rw [e2, e1]
              show S [113] ++ Str.ofString (toString ((j : Nat) : Int)) = _
              rw [num_S, S_cat]
              rfl
            have st : (0 + (j : Int)).natAbs.log2 < 1920 := by
              refine Nat.lt_of_le_of_lt (Nat.log2_le_self _) ?_
              omega
            have sz : (Str.ofString "q").length + (Str.ofString (toString ((0 + j : Int)))).length ≤ sizeLine := by
              have e1 : (Str.ofString "q") = S [113] := by decide +kernel
              have e2 : (toString ((0 + j : Int)) : String) = toString ((j : Nat) : Int) := by rw [Int.zero_add]
              rw [e2, e1, num_S, S_len, S_len]
              have := TL.numL_len (n := j) (k := 2) (by decide) (by omega)
              exact Nat.le_trans (show 1 + _ ≤ 20 by omega) (by decide)
            refine ⟨_, rfl, _, rfl, p, _, rfl, .inl (SqL.of hp5), rfl, by simp [List.all_map, flatV], _, rfl, ?_⟩
            refine ite2 (fun _ => ?_) (fun _ => ?_)
            · refine iteT ⟨_, rfl, _, rfl, st, _, _, rfl, rfl, sz, fin⟩
            · refine ⟨_, rfl, rfl, _, rfl, ?_⟩
              refine ite2 (fun _ => ⟨_, rfl, _, rfl, st, _, _, rfl, rfl, sz, fin⟩) (fun _ => ⟨z, _, hz6, rfl, rfl⟩)
          · rintro σ H6 ⟨z, v8, hz6, rfl, rfl⟩
            -- names.append(name)
            refine ⟨_, rfl, .inl ⟨rfl, _, SqL.of hp5⟩, _, rfl, p, _, _, rfl, rfl, hp5, small1000 (by rw [List.length_map]; omega), ?_⟩
            refine ⟨zs ++ [z], _, _, _, _, rfl, ?_, by rw [List.length_append, List.length_singleton, hzl], ?_, (S5.mono (by omega)).put pn, k5.putNew hp⟩
            · rw [upd_same, List.map_append]
              rfl
            · intro y hy
              rcases List.mem_append.mp hy with q | q
              · exact hz y q
              · rw [List.mem_singleton.mp q]
                exact hz6
    · rintro σ H3 ⟨zs, v5, v6, v7, v8, rfl, hp3, hzl, hz, S3, k3⟩
      exact ⟨_, rfl, k p zs H3 hz (by omega) hp3 pn (S3.mono (by omega)) k3⟩
end
end H5
/-! The law's input: _law_stays, _law_lengths, _law_groups. -/
namespace H5
open PySem L2 SX
open C8 (Cal Met Mak Def cal0 met0 mak0 pe_c pe_mk pe_mt pe_mt0 fnScope_by scC pe_gc InsC call_isC pss_cut tCut fnScope fnArgs fnBody)

def hallS : Str := Str.ofString "hall"
abbrev Stay := Str × Int × Int
def encStay (s : Stay) : PyData := .tuple [.str s.1, .int s.2.1, .int s.2.2]
structure Plan where
  name : Str
  stays : List Stay
  start : Int
  lens : List Int
def encPlan (p : Plan) : PyData := .tuple [.str p.name, .list (p.stays.map encStay), .int p.start, .list (p.lens.map PyData.int)]
def StayOk (L : List Str) (s : Stay) : Prop := (s.1 ∈ L ∨ s.1 = hallS) ∧ 1 ≤ s.2.1 ∧ s.2.1 ≤ s.2.2 ∧ s.2.2 - s.2.1 ≤ 10 ^ 40
def StaysOk (L : List Str) (ss : List Stay) : Prop := 1 ≤ ss.length ∧ ss.length ≤ 6 ∧ ∀ s ∈ ss, StayOk L s
def Fits (ss : List Stay) (lens : List Int) : Prop := lens.length = ss.length ∧ ∀ (i : Nat) (s : Stay) (x : Int), ss[i]? = some s → lens[i]? = some x → s.2.1 ≤ x ∧ x ≤ s.2.2
def PlanOk (L : List Str) (p : Plan) : Prop := StaysOk L p.stays ∧ Fits p.stays p.lens

theorem SqL.le {K : PySem.W.Frag} {φ : Addr → Prop} {H : Hp} {a : Addr} {xs : List V} (h : SqL K (R φ H) a xs) : SqL K H a xs := R_le.seq h
theorem SqT.le {K : PySem.W.Frag} {φ : Addr → Prop} {H : Hp} {a : Addr} {xs : List V} (h : SqT K (R φ H) a xs) : SqT K H a xs := sqT_same R_le h

def spStays (K : PySem.W.Frag) : Sp := fun vs H Q _ => ∃ (a l c rm : Addr) (n steps many lag : Int) (zs : List Str), vs = [.ref a, .ref rm, .int steps, .int many, .int lag] ∧ StAt H a l c n ∧ n ≤ 2 ^ 58 ∧
  SqL K (hid (own a l c) H) rm (zs.map V.str) ∧ zs.length ≤ 8 ∧ 1 ≤ steps ∧ steps ≤ 6 ∧ 1 ≤ many ∧ many ≤ 10 ^ 40 ∧ 1 ≤ lag ∧ lag ≤ 10 ^ 40 ∧
  ∀ (v : V) (ss : List Stay) (H' : Hp), StaysOk zs ss → Dp K (newer H H') v (.list (ss.map encStay)) → StAt H' a l c (n + 30) → Keep (own a l c) H H' → Q v H'
def spLengths (K : PySem.W.Frag) : Sp := fun vs H Q _ => ∃ (a l c : Addr) (n : Int) (v : V) (L : List Str) (ss : List Stay), vs = [.ref a, v] ∧ StAt H a l c n ∧ n ≤ 2 ^ 58 ∧
  Dp K (hid (own a l c) H) v (.list (ss.map encStay)) ∧ StaysOk L ss ∧
  ∀ (u : V) (lens : List Int) (H' : Hp), Fits ss lens → Dp K (newer H H') u (.list (lens.map PyData.int)) → StAt H' a l c (n + 20) → Keep (own a l c) H H' → Q u H'
section
variable {P : Program} {w : World} {K : PySem.W.Frag} {mg : Str → Option Value} {base : Heap}

abbrev nStays : List Str := ["_law_state_here", "_law_rooms", "_law_steps", "_law_many", "_law_lag", "_law_stays_here", "_law_k", "_law_place", "_law_room", "_law_least"]
theorem sc_stays : FnScope nStays ["_law_state_here", "_law_rooms", "_law_steps", "_law_many", "_law_lag"] (fnScope sStays) := fnScope_by (by decide +kernel)
theorem ok_stays (B : Blt mg) (c__law_draw : Cal P w K mg base 2 "_law_draw" spDraw []) {f : Addr} {fd : FuncData} (F : Def K mg "_law_stays" sStays f fd) (b : Binds K fd ["_law_state_here", "_law_rooms", "_law_steps", "_law_many", "_law_lag"] []) : Cal P w K mg base 3 "_law_stays" (spStays K) [] := by
  refine cal0 F b .nil sc_stays (fun vs H Q E h => ?_) (fun cdv A outer s H vs Q E hr h => ?_)
  · obtain ⟨a, l, c, rm, n, steps, many, lag, zs, rfl, _⟩ := h
    rfl
  · obtain ⟨a, l, c, rm, n, steps, many, lag, zs, rfl, S0, hn, hR, hz8, st1, st6, m1, m2, l1, l2, k⟩ := h
    refine ⟨_, pss_cons (ps_set (i := 5) sc_stays.nd rfl (Or.inl rfl) (pe_lst pa_nil))
      (pss_cons (ps_for PassesOwn.never rfl (pi_range1 (by rfl) B.range (pa_cons (pe_op op_add pe_int (pe_c c__law_draw hr (by decide) (by rfl) (pa_cons (pv 0) (pa_cons (pv 2) pa_nil)))) pa_nil)) (pg_name (i := 6) sc_stays.nd rfl (Or.inl rfl)) (pss_cons (ps_set (i := 7) sc_stays.nd rfl (Or.inl rfl) (pe_c c__law_draw hr (by decide) (by rfl) (pa_cons (pv 0) (pa_cons (pe_op op_add (pe_callB call_len_seq (by rfl) B.len (by decide +kernel) (pa_cons (pv 1) pa_nil)) pe_int) pa_nil))))
      (pss_cons (ps_set (i := 8) sc_stays.nd rfl (Or.inl rfl) pe_str)
      (pss_cut (ps_if (pt_cmpR op_lt (pv 7) (pe_callB call_len_seq (by rfl) B.len (by decide +kernel) (pa_cons (pv 1) pa_nil)) (nomark _)) (pss_one (ps_set (i := 8) sc_stays.nd rfl (Or.inl rfl) (pe_ix ix_list (pv 1) (pv 7) (fun _ _ => rfl)))) pss_nil)
      (pss_cons (ps_set (i := 9) sc_stays.nd rfl (Or.inl rfl) (pe_op op_add pe_int (pe_c c__law_draw hr (by decide) (by rfl) (pa_cons (pv 0) (pa_cons (pv 3) pa_nil)))))
      (pss_one (ps_expr (pe_bm PySem.F.plainAttrs_list PySem.F.slot_list_append PySem.F.type_list_append mt_append (pv 5) (pa_cons (pe_tup (pa_cons (pv 8) (pa_cons (pv 9) (pa_cons (pe_op op_add (pv 9) (pe_c c__law_draw hr (by decide) (by rfl) (pa_cons (pv 0) (pa_cons (pv 4) pa_nil)))) pa_nil)))) pa_nil)))))))))
      (pss_one (ps_ret (pv 5)))), ?_⟩
    refine ⟨(by show 0 ≤ sizeLine; decide), fun p hp => ?_⟩
    have pn := S0.fresh hp
    refine ⟨_, rfl, _, rfl, a, l, c, n, steps, rfl, S0.new hp, by omega, by omega, by omega, fun r H1 r0 r1 S1 k1 => ?_⟩
    have hp1 := k1 _ _ upd_same pn
    have k01 : Keep (own a l c) H H1 := (Keep.new hp).trans k1
    refine ⟨_, _, rfl, rfl, _, rfl, by omega, by omega, for_range (lo := 0) (n := (1 + r).toNat) (fun i σ H3 => ∃ (ss : List Stay) (xs : List V) (v6 v7 v8 v9 : Option V), σ = [some (.ref a), some (.ref rm), some (.int steps), some (.int many), some (.int lag), some (.ref p), v6, v7, v8, v9] ∧
      H3 p = some (.lst xs) ∧ DpAll K (R (fun b => H b = none ∧ b ≠ p) H3) xs (ss.map encStay) ∧ ss.length = i ∧ (∀ s ∈ ss, StayOk zs s) ∧ StAt H3 a l c (n + 1 + 3 * i) ∧ Keep (own a l c) H H3) ?_ ?_ ?_⟩
    · exact ⟨[], [], none, none, none, none, rfl, hp1, .nil, rfl, (fun s hs => nomatch hs), S1.mono (by omega), k01⟩
    · rintro i σ H3 hi ⟨ss, xs, v6, v7, v8, v9, rfl, hp3, hD, hl, hs, S3, k3⟩
      have hR3 : SqL K H3 rm (zs.map V.str) := SqL.le (k3.same.seq hR)
      refine ⟨_, rfl, _, rfl, rm, _, rfl, .inl hR3, _, _, rfl, rfl, a, l, c, n + 1 + 3 * i, _, rfl, S3, by omega, by rw [List.length_map]; omega, by rw [List.length_map]; omega, fun r4 H4 r40 r41 S4 k4 => ?_⟩
      rw [List.length_map] at r41
      have k34 := k3.trans k4
      have hR4 : SqL K H4 rm (zs.map V.str) := SqL.le (k34.same.seq hR)
      -- room = hall, or one of the rooms
      refine ⟨fun σ H5 => H5 = H4 ∧ ∃ z : Str, (z ∈ zs ∨ z = hallS) ∧ σ = [some (.ref a), some (.ref rm), some (.int steps), some (.int many), some (.int lag), some (.ref p), some (.int (0 + i)), some (.int r4), some (.str z), v9], ?_, ?_⟩
      · refine ⟨_, rfl, _, rfl, rm, _, rfl, .inl hR4, _, _, rfl, rfl, _, rfl, ?_⟩
        refine ite2 (fun hlt => ?_) (fun _ => ⟨rfl, _, .inr rfl, rfl⟩)
        have hlt : r4 < ((zs.map V.str).length : Int) := of_decide_eq_true hlt
        rw [List.length_map] at hlt
        have hj : r4.toNat < zs.length := by omega
        refine ⟨_, rfl, _, rfl, rm, _, _, V.str zs[r4.toNat], rfl, rfl, hR4, at_of (j := r4.toNat) (by omega) ?_, rfl, zs[r4.toNat], .inl (List.getElem_mem hj), rfl⟩
        rw [List.getElem?_map, List.getElem?_eq_getElem hj]
        rfl
      · rintro σ H5 ⟨rfl, z, hzz, rfl⟩
        refine ⟨_, rfl, _, rfl, a, l, c, n + 1 + 3 * i + 1, many, rfl, S4, by omega, by omega, by omega, fun r6 H6 r60 r61 S6 k6 => ⟨_, _, rfl, rfl, ?_⟩⟩
        have hp6 := k6 _ _ (k4 _ _ hp3 pn) pn
        refine ⟨_, rfl, .inl ⟨rfl, _, SqL.of hp6⟩, _, rfl, _, rfl, _, rfl, _, rfl, _, rfl, a, l, c, n + 1 + 3 * i + 1 + 1, lag, rfl, S6, by omega, by omega, by omega, fun r7 H7 r70 r71 S7 k7 => ⟨_, _, rfl, rfl, (by show 3 ≤ sizeLine; decide), fun t ht => ?_⟩⟩
        have hp7 := k7 _ _ hp6 pn
        have k37 : Keep (own a l c) H3 H7 := (k4.trans k6).trans k7
        have k07 := k3.trans k37
        have pt : p ≠ t := ne_of_none hp7 ht
        have hD7 : DpAll K (R (fun b => H b = none ∧ b ≠ p) H7) xs (ss.map encStay) := DpAll.same (R_same fun b o q e => ⟨q, k37 b o e (S0.fresh q.1)⟩) hD
        refine ⟨p, _, _, rfl, rfl, by rw [upd_ne pt]; exact hp7, ?_, ?_⟩
        · have := DpAll.len hD7
          rw [this, List.length_map]
          refine small1000 ?_
          omega
        refine ⟨ss ++ [(z, 1 + r6, 1 + r6 + r7)], _, _, _, _, _, rfl, upd_same, ?_, by rw [List.length_append, List.length_singleton, hl], ?_, ?_, (k07.putNew (k07.back S7.tr ht)).putNew hp⟩
        · rw [List.map_append]
          have tH : H t = none := k07.back S7.tr ht
          refine DpAll.snoc (DpAll.same (R_same fun b o q e => ⟨q, ?_⟩) hD7) (Dp.tup (SqT.of (R_of ⟨tH, pt.symm⟩ ?_)) (.cons (.str z) (.cons (.int _) (.cons (.int _) .nil))))
          · rw [upd_ne q.2, upd_ne (ne_of_none e ht)]
            exact e
          · rw [upd_ne pt.symm]
            exact upd_same
        · intro s hs'
          rcases List.mem_append.mp hs' with q | q
          · exact hs s q
          · rw [List.mem_singleton.mp q]
            exact ⟨hzz, by show 1 ≤ 1 + r6; omega, by show 1 + r6 ≤ 1 + r6 + r7; omega, by show 1 + r6 + r7 - (1 + r6) ≤ 10 ^ 40; omega⟩
        · exact ((S7.new ht).put pn).mono (by omega)
    · rintro σ H3 ⟨ss, xs, v6, v7, v8, v9, rfl, hp3, hD, hl, hs, S3, k3⟩
      refine ⟨_, rfl, k (.ref p) ss H3 ⟨by omega, by omega, hs⟩ (Dp.lst (SqL.of (R_of hp hp3)) (DpAll.same (R_same fun b o q e => ⟨q.1, e⟩) hD)) (S3.mono (by omega)) k3⟩

theorem stay_at {H : Hp} {x : V} {s : Stay} (h : Dp K H x (encStay s)) : ∃ t, x = .ref t ∧ SqT K H t [.str s.1, .int s.2.1, .int s.2.2] := by
  obtain ⟨t, xs, rfl, h1, h2⟩ := Dp.tupE h
  obtain ⟨v1, r1, rfl, d1, h2⟩ := DpAll.consE h2
  obtain ⟨v2, r2, rfl, d2, h2⟩ := DpAll.consE h2
  obtain ⟨v3, r3, rfl, d3, h2⟩ := DpAll.consE h2
  rw [Dp.strE d1, Dp.intE d2, Dp.intE d3, DpAll.nilE h2] at h1
  exact ⟨t, rfl, h1⟩
abbrev nLengths : List Str := ["_law_state_here", "_law_stays_here", "_law_lengths_here", "_law_stay", "_law_way", "_law_length"]
theorem sc_lengths : FnScope nLengths ["_law_state_here", "_law_stays_here"] (fnScope sLengths) := fnScope_by (by decide +kernel)
theorem ok_lengths (B : Blt mg) (c__law_draw : Cal P w K mg base 2 "_law_draw" spDraw []) {f : Addr} {fd : FuncData} (F : Def K mg "_law_lengths" sLengths f fd) (b : Binds K fd ["_law_state_here", "_law_stays_here"] []) : Cal P w K mg base 3 "_law_lengths" (spLengths K) [] := by
  refine cal0 F b .nil sc_lengths (fun vs H Q E h => ?_) (fun cdv A outer s H vs Q E hr h => ?_)
  · obtain ⟨a, l, c, n, v, L, ss, rfl, _⟩ := h
    rfl
  · obtain ⟨a, l, c, n, v, L, ss, rfl, S0, hn, hv, hss, k⟩ := h
    obtain ⟨sa, xs, rfl, hx, hd⟩ := Dp.lstE hv
    have hxl : xs.length = ss.length := by rw [DpAll.len hd, List.length_map]
    refine ⟨_, pss_cons (ps_set (i := 2) sc_lengths.nd rfl (Or.inl rfl) (pe_lst pa_nil))
      (pss_cons (ps_for PassesOwn.never rfl (pi_list (pv 1)) (pg_name (i := 3) sc_lengths.nd rfl (Or.inl rfl)) (pss_cons (ps_set (i := 4) sc_lengths.nd rfl (Or.inl rfl) (pe_c c__law_draw hr (by decide) (by rfl) (pa_cons (pv 0) (pa_cons pe_int pa_nil))))
      (pss_cons (ps_set (i := 5) sc_lengths.nd rfl (Or.inl rfl) (pe_ix ix_tup (pv 3) pe_int (fun _ _ => rfl)))
      (pss_cut (ps_if (pt_cmpR op_eq (pv 4) pe_int (nomark _)) (pss_one (ps_set (i := 5) sc_lengths.nd rfl (Or.inl rfl) (pe_ix ix_tup (pv 3) pe_int (fun _ _ => rfl)))) pss_nil)
      (pss_cut (ps_if (pt_cmpR op_gt (pv 4) pe_int (nomark _)) (pss_one (ps_set (i := 5) sc_lengths.nd rfl (Or.inl rfl) (pe_op op_add (pe_ix ix_tup (pv 3) pe_int (fun _ _ => rfl)) (pe_c c__law_draw hr (by decide) (by rfl) (pa_cons (pv 0) (pa_cons (pe_op op_add (pe_op op_sub (pe_ix ix_tup (pv 3) pe_int (fun _ _ => rfl)) (pe_ix ix_tup (pv 3) pe_int (fun _ _ => rfl))) pe_int) pa_nil)))))) pss_nil)
      (pss_one (ps_expr (pe_bm PySem.F.plainAttrs_list PySem.F.slot_list_append PySem.F.type_list_append mt_append (pv 2) (pa_cons (pv 5) pa_nil)))))))))
      (pss_one (ps_ret (pv 2)))), ?_⟩
    refine ⟨(by show 0 ≤ sizeLine; decide), fun p hp => ?_⟩
    have pn := S0.fresh hp
    have kp : Keep (own a l c) H (upd H p (.lst [])) := Keep.new hp
    refine ⟨_, rfl, sa, rfl, ⟨_, SqL.le (kp.same.seq hx)⟩, for_list (K := K) (a := sa) (xs := xs) (fun i σ H3 => ∃ (lens : List Int) (v3 v4 v5 : Option V), σ = [some (.ref a), some (.ref sa), some (.ref p), v3, v4, v5] ∧
      H3 p = some (.lst (lens.map V.int)) ∧ lens.length = i ∧ (∀ (j : Nat) (s : Stay) (x : Int), ss[j]? = some s → lens[j]? = some x → s.2.1 ≤ x ∧ x ≤ s.2.2) ∧ StAt H3 a l c (n + 2 * i) ∧ Keep (own a l c) H H3) ?_ ?_ ?_ ?_⟩
    · exact ⟨[], none, none, none, rfl, upd_same, rfl, (fun j s x _ h => by simp at h), (S0.new hp).mono (by omega), kp⟩
    · rintro i σ H3 _ ⟨lens, v3, v4, v5, rfl, _, _, _, _, k3⟩
      exact SqL.le (k3.same.seq hx)
    · rintro i x σ H3 hxi ⟨lens, v3, v4, v5, rfl, hp3, hl, hF, S3, k3⟩
      have hi := (List.getElem?_eq_some_iff.mp hxi).1
      obtain ⟨d, hdi, hdx⟩ := DpAll.getV hd hxi
      rw [List.getElem?_map] at hdi
      obtain ⟨st, hsi, rfl⟩ := Option.map_eq_some_iff.mp hdi
      obtain ⟨t, rfl, ht⟩ := stay_at hdx
      obtain ⟨_, s1, s2, s3⟩ := hss.2.2 st (List.mem_of_getElem? hsi)
      have h6 := hss.2.1
      refine ⟨_, rfl, a, l, c, n + 2 * i, 4, rfl, S3, by omega, by decide, by decide, fun r H4 r0 r1 S4 k4 => ?_⟩
      have k04 := k3.trans k4
      have hp4 := k4 _ _ hp3 pn
      have ht4 : SqT K H4 t [.str st.1, .int st.2.1, .int st.2.2] := SqT.le (sqT_same k04.same ht)
      refine ⟨_, rfl, t, _, _, _, rfl, rfl, ht4, at_of (j := 1) rfl rfl, ?_⟩
      refine ⟨fun σ H5 => H5 = H4 ∧ ∃ z : Int, st.2.1 ≤ z ∧ z ≤ st.2.2 ∧ σ = [some (.ref a), some (.ref sa), some (.ref p), some (.ref t), some (.int r), some (.int z)], ?_, ?_⟩
      · refine ⟨_, rfl, rfl, _, rfl, ?_⟩
        refine ite2 (fun _ => ?_) (fun _ => ⟨rfl, _, Int.le_refl _, s2, rfl⟩)
        exact ⟨_, rfl, t, _, _, _, rfl, rfl, ht4, at_of (j := 2) rfl rfl, rfl, _, s2, Int.le_refl _, rfl⟩
      · rintro σ H5 ⟨rfl, z, z1, z2, rfl⟩
        refine ⟨fun σ H6 => ∃ z : Int, st.2.1 ≤ z ∧ z ≤ st.2.2 ∧ σ = [some (.ref a), some (.ref sa), some (.ref p), some (.ref t), some (.int r), some (.int z)] ∧ H6 p = some (.lst (lens.map V.int)) ∧ StAt H6 a l c (n + 2 * i + 2) ∧ Keep (own a l c) H H6, ?_, ?_⟩
        · refine ⟨_, rfl, _, _, rfl, rfl, _, rfl, ?_⟩
          refine ite2 (fun _ => ?_) (fun _ => ⟨z, z1, z2, rfl, hp4, S4.mono (by omega), k04⟩)
          refine ⟨_, rfl, t, _, _, _, rfl, rfl, ht4, at_of (j := 1) rfl rfl, _, rfl, _, rfl, t, _, _, _, rfl, rfl, ht4, at_of (j := 2) rfl rfl, _, rfl, t, _, _, _, rfl, rfl, ht4, at_of (j := 1) rfl rfl, _, _, rfl, rfl, _, _, rfl, rfl, a, l, c, n + 2 * i + 1, _, rfl, S4, by omega, by omega, by omega, fun r6 H6 r60 r61 S6 k6 => ?_⟩
          exact ⟨_, _, rfl, rfl, _, by omega, by omega, rfl, k6 _ _ hp4 pn, S6.mono (by omega), k04.trans k6⟩
        · rintro σ H6 ⟨z, z1, z2, rfl, hp6, S6, k6⟩
          refine ⟨_, rfl, .inl ⟨rfl, _, SqL.of hp6⟩, _, rfl, p, _, _, rfl, rfl, hp6, small1000 (by rw [List.length_map]; omega), ?_⟩
          refine ⟨lens ++ [z], _, _, _, rfl, ?_, by rw [List.length_append, List.length_singleton, hl], ?_, (S6.put pn).mono (by omega), k6.putNew hp⟩
          · rw [upd_same, List.map_append]
            rfl
          · intro j s x hs hx
            by_cases hj : j < lens.length
            · rw [List.getElem?_append_left hj] at hx
              exact hF j s x hs hx
            · have hj2 := (List.getElem?_eq_some_iff.mp hx).1
              rw [List.length_append, List.length_singleton] at hj2
              have ej : j = i := by omega
              subst ej
              rw [List.getElem?_append_right (by omega), hl, Nat.sub_self] at hx
              cases hx
              rw [hsi] at hs
              cases hs
              exact ⟨z1, z2⟩
    · rintro σ H3 ⟨lens, v3, v4, v5, rfl, hp3, hl, hF, S3, k3⟩
      have h6 := hss.2.1
      refine ⟨_, rfl, k (.ref p) lens H3 ⟨by omega, hF⟩ (Dp.lst (SqL.of (R_of hp hp3)) (dpInts lens)) (S3.mono (by omega)) k3⟩

/-- _law_groups -/
def spGroups (K : PySem.W.Frag) : Sp := fun vs H Q _ => ∃ (a l c : Addr) (n count steps : Int), vs = [.ref a, .int count, .int steps] ∧ StAt H a l c n ∧ n ≤ 2 ^ 57 ∧ 1 ≤ count ∧ count ≤ 14 ∧ 1 ≤ steps ∧ steps ≤ 6 ∧
  ∀ (v : V) (ps : List Plan) (L : List Str) (H' : Hp), (∀ z ∈ L, NameOk z) → L.length ≤ 8 → (ps.length : Int) = count → (∀ p ∈ ps, PlanOk L p) → Dp K (newer H H') v (.list (ps.map encPlan)) → StAt H' a l c (n + 1200) → Keep (own a l c) H H' → Q v H'
abbrev nGroups : List Str := ["_law_state_here", "_law_count", "_law_steps", "_law_names_here", "_law_many", "_law_lag", "_law_near", "_law_base", "_law_way", "_law_plans", "_law_k", "_law_stays_here", "_law_start", "_law_name_here"]
theorem sc_groups : FnScope nGroups ["_law_state_here", "_law_count", "_law_steps"] (fnScope sGroups) := fnScope_by (by decide +kernel)
theorem ok_groups (B : Blt mg) (c__law_draw : Cal P w K mg base 2 "_law_draw" spDraw []) (c__law_names : Cal P w K mg base 4 "_law_names" spNames []) (c__law_limit : Cal P w K mg base 3 "_law_limit" spLimit []) (c__law_signed : Cal P w K mg base 3 "_law_signed" spSigned [])
    (c__law_stays : Cal P w K mg base 3 "_law_stays" (spStays K) []) (c__law_lengths : Cal P w K mg base 3 "_law_lengths" (spLengths K) [])
    {f : Addr} {fd : FuncData} (F : Def K mg "_law_groups" sGroups f fd) (b : Binds K fd ["_law_state_here", "_law_count", "_law_steps"] []) : Cal P w K mg base 5 "_law_groups" (spGroups K) [] := by
  refine cal0 F b .nil sc_groups (fun vs H Q E h => ?_) (fun cdv A outer s H vs Q E hr h => ?_)
  · obtain ⟨a, l, c, n, count, steps, rfl, _⟩ := h
    rfl
  · obtain ⟨a, l, c, n, count, steps, rfl, S0, hn, c1, c14, st1, st6, k⟩ := h
    refine ⟨_, pss_cons (ps_set (i := 3) sc_groups.nd rfl (Or.inl rfl) (pe_c c__law_names hr (by decide) (by rfl) (pa_cons (pv 0) (pa_cons (pe_ix ix_list (pe_lst (pa_cons pe_int (pa_cons pe_int (pa_cons pe_int (pa_cons pe_int pa_nil))))) (pe_c c__law_draw hr (by decide) (by rfl) (pa_cons (pv 0) (pa_cons pe_int pa_nil))) (fun _ _ => rfl)) pa_nil))))
      (pss_cons (ps_set (i := 4) sc_groups.nd rfl (Or.inl rfl) (pe_c c__law_limit hr (by decide) (by rfl) (pa_cons (pv 0) pa_nil)))
      (pss_cons (ps_set (i := 5) sc_groups.nd rfl (Or.inl rfl) (pe_c c__law_limit hr (by decide) (by rfl) (pa_cons (pv 0) pa_nil)))
      (pss_cons (ps_set (i := 6) sc_groups.nd rfl (Or.inl rfl) (pe_ix ix_list (pe_lst (pa_cons pe_int (pa_cons pe_int (pa_cons (pe_op op_add (pv 4) (pv 5)) (pa_cons (pe_op op_pow pe_int pe_int) pa_nil))))) (pe_c c__law_draw hr (by decide) (by rfl) (pa_cons (pv 0) (pa_cons pe_int pa_nil))) (fun _ _ => rfl)))
      (pss_cons (ps_set (i := 7) sc_groups.nd rfl (Or.inl rfl) pe_int)
      (pss_cons (ps_set (i := 8) sc_groups.nd rfl (Or.inl rfl) (pe_c c__law_draw hr (by decide) (by rfl) (pa_cons (pv 0) (pa_cons pe_int pa_nil))))
      (pss_cut (ps_if (pt_cmpR op_eq (pv 8) pe_int (nomark _)) (pss_one (ps_set (i := 7) sc_groups.nd rfl (Or.inl rfl) (pe_c c__law_signed hr (by decide) (by rfl) (pa_cons (pv 0) (pa_cons (pe_op op_pow pe_int pe_int) pa_nil))))) pss_nil)
      (pss_cut (ps_if (pt_cmpR op_eq (pv 8) pe_int (nomark _)) (pss_one (ps_set (i := 7) sc_groups.nd rfl (Or.inl rfl) (pe_un un_neg (pe_c c__law_draw hr (by decide) (by rfl) (pa_cons (pv 0) (pa_cons (pv 6) pa_nil)))))) pss_nil)
      (pss_cons (ps_set (i := 9) sc_groups.nd rfl (Or.inl rfl) (pe_lst pa_nil))
      (pss_cons (ps_for PassesOwn.never rfl (pi_range1 (by rfl) B.range (pa_cons (pv 1) pa_nil)) (pg_name (i := 10) sc_groups.nd rfl (Or.inl rfl)) (pss_cons (ps_set (i := 11) sc_groups.nd rfl (Or.inl rfl) (pe_c c__law_stays hr (by decide) (by rfl) (pa_cons (pv 0) (pa_cons (pv 3) (pa_cons (pv 2) (pa_cons (pv 4) (pa_cons (pv 5) pa_nil)))))))
      (pss_cons (ps_set (i := 12) sc_groups.nd rfl (Or.inl rfl) (pe_op op_add (pv 7) (pe_c c__law_draw hr (by decide) (by rfl) (pa_cons (pv 0) (pa_cons (pv 6) pa_nil)))))
      (pss_cons (ps_set (i := 13) sc_groups.nd rfl (Or.inl rfl) (pe_ix ix_list (pv 3) (pe_c c__law_draw hr (by decide) (by rfl) (pa_cons (pv 0) (pa_cons (pe_callB call_len_seq (by rfl) B.len (by decide +kernel) (pa_cons (pv 3) pa_nil)) pa_nil))) (fun _ _ => rfl)))
      (pss_cut (ps_if (pt_cmpR op_eq (pe_c c__law_draw hr (by decide) (by rfl) (pa_cons (pv 0) (pa_cons pe_int pa_nil))) pe_int (nomark _)) (pss_one (ps_set (i := 13) sc_groups.nd rfl (Or.inl rfl) (pe_ix ix_list (pe_lst (pa_cons pe_str (pa_cons pe_str (pa_cons pe_str (pa_cons pe_str (pa_cons pe_str pa_nil)))))) (pe_c c__law_draw hr (by decide) (by rfl) (pa_cons (pv 0) (pa_cons pe_int pa_nil))) (fun _ _ => rfl)))) pss_nil)
      (pss_one (ps_expr (pe_bm PySem.F.plainAttrs_list PySem.F.slot_list_append PySem.F.type_list_append mt_append (pv 9) (pa_cons (pe_tup (pa_cons (pv 13) (pa_cons (pv 11) (pa_cons (pv 12) (pa_cons (pe_c c__law_lengths hr (by decide) (by rfl) (pa_cons (pv 0) (pa_cons (pv 11) pa_nil))) pa_nil))))) pa_nil)))))))))
      (pss_one (ps_ret (pv 9)))))))))))), ?_⟩
    -- names
    refine ⟨_, rfl, (by show 4 ≤ sizeLine; decide), fun q hq => ⟨_, rfl, a, l, c, n, 4, rfl, S0.new hq, by omega, by decide, by decide, fun r1 H1 r10 r11 S1 k1 => ?_⟩⟩
    have key : ∀ j : Nat, j < 4 → ∃ z : Int, ([V.int 8, V.int 1, V.int 2, V.int 3] : List V)[j]? = some (.int z) ∧ 1 ≤ z ∧ z ≤ 8 := fun j hj => by
      match j, hj with
      | 0, _ => exact ⟨8, rfl, by decide, by decide⟩
      | 1, _ => exact ⟨1, rfl, by decide, by decide⟩
      | 2, _ => exact ⟨2, rfl, by decide, by decide⟩
      | 3, _ => exact ⟨3, rfl, by decide, by decide⟩
    obtain ⟨z, hz, z1, z8⟩ := key r1.toNat (by omega)
    refine ⟨q, _, _, _, rfl, rfl, SqL.of (k1 q _ upd_same (S0.fresh hq)), at_of (j := r1.toNat) (by omega) hz, a, l, c, n + 1, z, rfl, S1, by omega, z1, z8, fun pn zs H2 hzs hzl hpn pno S2 k2 => ?_⟩
    have k02 : Keep (own a l c) H H2 := ((Keep.new hq).trans k1).trans k2
    -- many, lag
    refine ⟨_, rfl, a, l, c, n + 201, rfl, S2.mono (by omega), by omega, fun many H3 m1 m2 S3 k3 => ?_⟩
    refine ⟨_, rfl, a, l, c, n + 202, rfl, S3.mono (by omega), by omega, fun lag H4 l1 l2 S4 k4 => ?_⟩
    -- near
    refine ⟨_, rfl, _, rfl, _, _, rfl, rfl, _, _, rfl, rfl, ⟨by decide, by decide, by decide⟩, (by show 4 ≤ sizeLine; decide), fun q5 hq5 => ⟨_, rfl, a, l, c, n + 203, 4, rfl, (S4.new hq5).mono (by omega), by omega, by decide, by decide, fun r5 H5 r50 r51 S5 k5 => ?_⟩⟩
    have key : ∀ j : Nat, j < 4 → ∃ z : Int, ([V.int 1, V.int 4, V.int (many + lag), V.int (10 ^ (40 : Int).toNat)] : List V)[j]? = some (.int z) ∧ 1 ≤ z ∧ z ≤ 2 * 10 ^ 40 := fun j hj => by
      match j, hj with
      | 0, _ => exact ⟨1, rfl, by decide, by decide⟩
      | 1, _ => exact ⟨4, rfl, by decide, by decide⟩
      | 2, _ => exact ⟨many + lag, rfl, by omega, by omega⟩
      | 3, _ => exact ⟨10 ^ (40 : Int).toNat, rfl, by decide, by decide⟩
    obtain ⟨near, hnear, near1, near2⟩ := key r5.toNat (by omega)
    refine ⟨q5, _, _, _, rfl, rfl, SqL.of (k5 q5 _ upd_same (S4.fresh hq5)), at_of (j := r5.toNat) (by omega) hnear, ?_⟩
    have k05 : Keep (own a l c) H H5 := ((((k02.trans k3).trans k4).trans (Keep.new hq5))).trans k5
    have hpn5 := k5 _ _ ((Keep.new hq5) _ _ (k4 _ _ (k3 _ _ hpn pno) pno) pno) pno
    -- base, way
    refine ⟨_, rfl, a, l, c, n + 204, 3, rfl, S5.mono (by omega), by omega, by decide, by decide, fun way H6 w0 w1 S6 k6 => ?_⟩
    have k06 := k05.trans k6
    have hpn6 := k6 _ _ hpn5 pno
    refine ⟨fun σ H7 => ∃ bs : Int, σ = [some (.ref a), some (.int count), some (.int steps), some (.ref pn), some (.int many), some (.int lag), some (.int near), some (.int bs), some (.int way), none, none, none, none, none] ∧
      H7 pn = some (.lst (zs.map V.str)) ∧ StAt H7 a l c (n + 206) ∧ Keep (own a l c) H H7, ?_, ?_⟩
    · refine ⟨_, rfl, rfl, _, rfl, ?_⟩
      refine ite2 (fun _ => ?_) (fun _ => ⟨0, rfl, hpn6, S6.mono (by omega), k06⟩)
      refine ⟨_, rfl, _, _, rfl, rfl, ⟨by decide, by decide, by decide⟩, a, l, c, n + 205, 10 ^ (40 : Int).toNat, rfl, S6.mono (by omega), by omega, by decide, by decide, fun r7 H7 S7 k7 => ?_⟩
      exact ⟨r7, rfl, k7 _ _ hpn6 pno, S7.mono (by omega), k06.trans k7⟩
    · rintro σ H7 ⟨bs, rfl, hpn7, S7, k07⟩
      refine ⟨fun σ H8 => ∃ bs : Int, σ = [some (.ref a), some (.int count), some (.int steps), some (.ref pn), some (.int many), some (.int lag), some (.int near), some (.int bs), some (.int way), none, none, none, none, none] ∧
        H8 pn = some (.lst (zs.map V.str)) ∧ StAt H8 a l c (n + 207) ∧ Keep (own a l c) H H8, ?_, ?_⟩
      · refine ⟨_, rfl, rfl, _, rfl, ?_⟩
        refine ite2 (fun _ => ?_) (fun _ => ⟨bs, rfl, hpn7, S7.mono (by omega), k07⟩)
        refine ⟨_, rfl, _, rfl, a, l, c, n + 206, near, rfl, S7, by omega, by omega, by omega, fun r8 H8 r80 r81 S8 k8 => ⟨_, rfl, ?_⟩⟩
        exact ⟨-r8, rfl, k8 _ _ hpn7 pno, S8.mono (by omega), k07.trans k8⟩
      · rintro σ H8 ⟨bs, rfl, hpn8, S8, k08⟩
        -- plans = []
        refine ⟨(by show 0 ≤ sizeLine; decide), fun p hp => ?_⟩
        have hp0 : H p = none := k08.back S8.tr hp
        have pno2 := S8.fresh hp
        have pnp : pn ≠ p := ne_of_none hpn8 hp
        refine ⟨_, rfl, count, rfl, by omega, by omega, for_range (lo := 0) (n := count.toNat) (fun i σ H9 => ∃ (ps : List Plan) (xs : List V) (v10 v11 v12 v13 : Option V),
          σ = [some (.ref a), some (.int count), some (.int steps), some (.ref pn), some (.int many), some (.int lag), some (.int near), some (.int bs), some (.int way), some (.ref p), v10, v11, v12, v13] ∧
          H9 pn = some (.lst (zs.map V.str)) ∧ H9 p = some (.lst xs) ∧ DpAll K (R (fun b => H b = none ∧ b ≠ p) H9) xs (ps.map encPlan) ∧ ps.length = i ∧ (∀ p ∈ ps, PlanOk zs p) ∧ StAt H9 a l c (n + 207 + 60 * i) ∧ Keep (own a l c) H H9) ?_ ?_ ?_⟩
        · exact ⟨[], [], none, none, none, none, rfl, by rw [upd_ne pnp]; exact hpn8, upd_same, .nil, rfl, (fun p hp => nomatch hp), (S8.new hp).mono (by omega), k08.putNew hp0⟩
        · rintro i σ H9 hi ⟨ps, xs, v10, v11, v12, v13, rfl, hpn9, hp9, hD, hl, hok, S9, k9⟩
          -- stays
          refine ⟨_, rfl, _, rfl, _, rfl, _, rfl, _, rfl, a, l, c, pn, n + 207 + 60 * i, steps, many, lag, zs, rfl, S9, by omega, SqL.of (R_of pno hpn9), by omega, st1, st6, by omega, by omega, by omega, by omega, fun vst ss Ha hss hDa Sa ka => ?_⟩
          -- start
          refine ⟨_, rfl, _, rfl, _, rfl, a, l, c, n + 207 + 60 * i + 30, near, rfl, Sa, by omega, by omega, by omega, fun rb Hb rb0 rb1 Sb kb => ⟨_, _, rfl, rfl, ?_⟩⟩
          -- name
          have hpnb := kb _ _ (ka _ _ hpn9 pno) pno
          refine ⟨_, rfl, _, rfl, _, rfl, pn, _, rfl, .inl (SqL.of hpnb), a, l, c, n + 207 + 60 * i + 31, _, rfl, Sb.mono (by omega), by omega, by rw [List.length_map]; omega, by rw [List.length_map]; omega, fun rc Hc rc0 rc1 Sc kc => ?_⟩
          rw [List.length_map] at rc1
          have hpnc := kc _ _ hpnb pno
          have hj : rc.toNat < zs.length := by omega
          refine ⟨pn, _, _, V.str zs[rc.toNat], rfl, rfl, SqL.of hpnc, at_of (j := rc.toNat) (by omega) (by rw [List.getElem?_map, List.getElem?_eq_getElem hj]; rfl), ?_⟩
          -- another name
          have k9c : Keep (own a l c) H9 Hc := (ka.trans kb).trans kc
          refine ⟨fun σ Hd => ∃ nm : Str, σ = [some (.ref a), some (.int count), some (.int steps), some (.ref pn), some (.int many), some (.int lag), some (.int near), some (.int bs), some (.int way), some (.ref p), some (.int (0 + i)), some vst, some (.int (bs + rb)), some (.str nm)] ∧
            StAt Hd a l c (n + 207 + 60 * i + 35) ∧ Keep (own a l c) H9 Hd ∧ Keep (own a l c) Ha Hd, ?_, ?_⟩
          · refine ⟨_, rfl, a, l, c, n + 207 + 60 * i + 32, 6, rfl, Sc.mono (by omega), by omega, by decide, by decide, fun rd Hd rd0 rd1 Sd kd => ⟨rfl, _, rfl, ?_⟩⟩
            refine ite2 (fun _ => ?_) (fun _ => ⟨_, rfl, Sd.mono (by omega), k9c.trans kd, (kb.trans kc).trans kd⟩)
            refine ⟨(by show 5 ≤ sizeLine; decide), fun qe hqe => ⟨_, rfl, a, l, c, n + 207 + 60 * i + 33, 5, rfl, (Sd.new hqe).mono (by omega), by omega, by decide, by decide, fun re He re0 re1 Se ke => ?_⟩⟩
            have key : ∀ j : Nat, j < 5 → ∃ z : Str, ([V.str "", V.str "Guide 7", V.str "hall", V.str "closing", V.str "-"] : List V)[j]? = some (.str z) := fun j hj => by
              match j, hj with
              | 0, _ => exact ⟨_, rfl⟩
              | 1, _ => exact ⟨_, rfl⟩
              | 2, _ => exact ⟨_, rfl⟩
              | 3, _ => exact ⟨_, rfl⟩
              | 4, _ => exact ⟨_, rfl⟩
            obtain ⟨nm, hnm⟩ := key re.toNat (by omega)
            exact ⟨qe, _, _, _, rfl, rfl, SqL.of (ke qe _ upd_same (Sd.fresh hqe)), at_of (j := re.toNat) (by omega) hnm, nm, rfl, Se.mono (by omega), ((k9c.trans kd).trans (Keep.new hqe)).trans ke, (((kb.trans kc).trans kd).trans (Keep.new hqe)).trans ke⟩
          · rintro σ Hd ⟨nm, rfl, Sd, k9d, kad⟩
            have hDd : Dp K (hid (own a l c) Hd) vst (.list (ss.map encStay)) := Dp.same (R_same fun b o q e => ⟨S9.fresh q, kad b o e (S9.fresh q)⟩) hDa
            have hpd := k9d _ _ hp9 pno2
            have hpnd := k9d _ _ hpn9 pno
            refine ⟨_, rfl, .inl ⟨rfl, _, SqL.of hpd⟩, _, rfl, _, rfl, _, rfl, _, rfl, _, rfl, a, l, c, n + 207 + 60 * i + 35, vst, zs, ss, rfl, Sd, by omega, hDd, hss, fun u lens He hfit hDe Se ke => ⟨(by show 4 ≤ sizeLine; decide), fun t ht => ?_⟩⟩
            have k9e := k9d.trans ke
            have kae := kad.trans ke
            have k0e := k9.trans k9e
            have hpe := ke _ _ hpd pno2
            have hpne := ke _ _ hpnd pno
            have pt : p ≠ t := ne_of_none hpe ht
            have tH : H t = none := k0e.back Se.tr ht
            have st2 : ∀ {b : Addr} {o : HO}, He b = some o → b ≠ p → (upd (upd He t (.tup [.str nm, vst, .int (bs + rb), u])) p (.lst (xs ++ [.ref t]))) b = some o := fun {b o} e hb => by
              rw [upd_ne hb, upd_ne (ne_of_none e ht)]
              exact e
            have hD2 : DpAll K (R (fun b => H b = none ∧ b ≠ p) (upd (upd He t (.tup [.str nm, vst, .int (bs + rb), u])) p (.lst (xs ++ [.ref t])))) xs (ps.map encPlan) :=
              DpAll.same (R_same fun b o q e => ⟨q, st2 (k9e b o e (S0.fresh q.1)) q.2⟩) hD
            have hDs : Dp K (R (fun b => H b = none ∧ b ≠ p) (upd (upd He t (.tup [.str nm, vst, .int (bs + rb), u])) p (.lst (xs ++ [.ref t])))) vst (.list (ss.map encStay)) :=
              Dp.same (R_same fun b o q e => ⟨⟨k9.back S9.tr q, fun z => by rw [z, hp9] at q; cases q⟩, st2 (kae b o e (S9.fresh q)) (fun z => by rw [z, hp9] at q; cases q)⟩) hDa
            have hDu : Dp K (R (fun b => H b = none ∧ b ≠ p) (upd (upd He t (.tup [.str nm, vst, .int (bs + rb), u])) p (.lst (xs ++ [.ref t])))) u (.list (lens.map PyData.int)) :=
              Dp.same (R_same fun b o q e => ⟨⟨(k9.trans k9d).back Sd.tr q, fun z => by rw [z, hpd] at q; cases q⟩, st2 e (fun z => by rw [z, hpd] at q; cases q)⟩) hDe
            refine ⟨p, _, _, rfl, rfl, by rw [upd_ne pt]; exact hpe, ?_, ?_⟩
            · rw [DpAll.len hD2, List.length_map]
              refine small1000 ?_
              omega
            refine ⟨ps ++ [⟨nm, ss, bs + rb, lens⟩], _, _, _, _, _, rfl, st2 hpne pnp, upd_same, ?_, by rw [List.length_append, List.length_singleton, hl], ?_, ((Se.new ht).put pno2).mono (by omega), (k0e.putNew tH).putNew hp0⟩
            · rw [List.map_append]
              refine DpAll.snoc hD2 (Dp.tup (SqT.of (R_of ⟨tH, pt.symm⟩ ?_)) (.cons (.str nm) (.cons hDs (.cons (.int _) (.cons hDu .nil)))))
              rw [upd_ne pt.symm]
              exact upd_same
            · intro x hx
              rcases List.mem_append.mp hx with q | q
              · exact hok x q
              · rw [List.mem_singleton.mp q]
                exact ⟨hss, hfit⟩
        · rintro σ H9 ⟨ps, xs, v10, v11, v12, v13, rfl, hpn9, hp9, hD, hl, hok, S9, k9⟩
          refine ⟨_, rfl, k (.ref p) ps zs H9 hzs (by omega) (by omega) hok (Dp.lst (SqL.of (R_of hp0 hp9)) (DpAll.same (R_same fun b o q e => ⟨q.1, e⟩) hD)) (S9.mono (by omega)) k9⟩
end
end H5
/-! is_name, Round (its __init__, stays, __len__), walk. -/
namespace H5
open PySem L2 SX
open C8 (Cal Met Mak Def cal0 met0 mak0 pe_c pe_mk pe_mt pe_mt0 fnScope_by scC pe_gc InsC call_isC pss_cut tCut fnScope fnArgs fnBody)

/-! ### rules of our own: a text walked, len of an own instance -/
theorem for_str {x : Str} {g : TG} {tb : TS} {D : Ends} {σ : L2.St} {H : Hp} (Pv : Nat → L2.St → Hp → Prop) (h0 : Pv 0 σ H)
    (hs : ∀ i c σ H, x.cps[i]? = some c → Pv i σ H → g (.str ⟨#[c]⟩) σ H fun σ2 H2 => tb { D with nx := Pv (i + 1), ct := Pv (i + 1), bk := D.nx } σ2 H2) (hd : ∀ σ H, Pv x.cps.size σ H → D.nx σ H) :
    ∃ W : Nat → Nat → L2.St → Hp → Prop, (∃ m, W 0 m σ H) ∧ ∀ i m σ H, W i m σ H →
      ((Its x).stop i H ∧ D.nx σ H) ∨ ((Its x).go i H ∧ ∃ N : L2.St → Hp → Prop, (∀ σ' H', N σ' H' → ∃ m', m' < m ∧ W (i + 1) m' σ' H') ∧ ∀ v H', (Its x).yld i H v H' → g v σ H' fun σ2 H2 => tb { D with nx := N, ct := N, bk := D.nx } σ2 H2) := by
  refine ⟨fun i m σ H => m = x.cps.size - i ∧ i ≤ x.cps.size ∧ Pv i σ H, ⟨x.cps.size, by simp, Nat.zero_le _, h0⟩, ?_⟩
  rintro i m σ H ⟨rfl, hi, p⟩
  by_cases hlt : i < x.cps.size
  · refine .inr ⟨hlt, Pv (i + 1), fun σ' H' p' => ⟨x.cps.size - (i + 1), by omega, rfl, hlt, p'⟩, fun v H' y => ?_⟩
    obtain ⟨e, c, hc, rfl⟩ := y
    subst e
    exact hs i c σ _ hc p
  · have e : i = x.cps.size := by omega
    subst e
    exact .inl ⟨Nat.le_refl _, hd σ H p⟩

section
variable {X : Cx} {CX : CXT} {k : Nat} {C f : Addr} {fd : FuncData} {ps : List Str} {sp : Sp} {E : XK}
theorem call_lenOwn (hs : PySem.W.findIn X.K (.ref C) "__len__" = some (some (.ref f))) (hf : PySem.W.isFn X.K (.ref f) = true) (F : FnOk X.prog X.w X.K X.mg X.base CX k f fd ps sp) (hb : Binds X.K fd ps []) (hr : Room (k + 1) X.A) (hx : Passes CX X E) :
    CallR X (.builtin "len") (fun xs H Q => ∃ a dx fs, xs = [.ref a] ∧ H a = some (.ins C dx fs) ∧ sp [.ref a] H (fun v H' => ∃ n : Nat, v = .int n ∧ n < 2 ^ 62 ∧ Q (.int n) H') E) := by
  intro pins s σ H xs us Q I r h
  obtain ⟨a, dx, fs, rfl, ea, h⟩ := h
  obtain ⟨u, rfl, ru⟩ := vals1 r
  obtain rfl : u = Value.ref a := ru
  obtain ⟨mA, O, _, _, _, _⟩ := ins_get I.hok ea
  obtain ⟨od, J, _⟩ := O.look
  obtain ⟨m, hF⟩ := I.fr
  have hl : ([Value.ref a] : List Value).length = ps.length := F.len _ _ _ _ h
  refine PySem.W.len_K hF I.ok.mod.kin J hs hf (wpAny_call ?_)
  refine codeAny_mono (F.run X.A.in1 X.stack s H ⟨[.ref a], []⟩ [.ref a] [.ref a] _ E hr.in1 I.env0.in1 (by have := hb s [.ref a] I.kIn (by simpa using hl); simpa using this) (.cons rfl .nil) h) fun r s' hq => ?_
  cases r with
  | error er => exact hx pins σ H s er s' I hq
  | ok fl =>
    cases fl with
    | ret u =>
      obtain ⟨v, H', I3, rv, n, rfl, hn, q3⟩ := I.after hq
      obtain ⟨t, rfl⟩ := rv
      exact ⟨⟨by omega, by omega⟩, .int n, H', I3.tok _, ⟨_, rfl⟩, q3⟩
    | next => exact False.elim hq
    | brk => exact False.elim hq
    | cont => exact False.elim hq
end

def digitsS : Str := Str.ofString "0123456789"
theorem digits_l : digitsS.cps.toList = [48, 49, 50, 51, 52, 53, 54, 55, 56, 57] := by decide +kernel
theorem ltr_in {c : Nat} (h : Ltr c) : c ∈ letters.cps.toList := by
  rw [letters_l]
  obtain ⟨h1, h2⟩ := h
  obtain ⟨d, rfl⟩ : ∃ d, c = 97 + d := ⟨c - 97, by omega⟩
  have key : ∀ d, d < 26 → 97 + d ∈ ([97, 98, 99, 100, 101, 102, 103, 104, 105, 106, 107, 108, 109, 110, 111, 112, 113, 114, 115, 116, 117, 118, 119, 120, 121, 122] : List Nat) := by decide
  exact key d (by omega)
theorem dig_in {c : Nat} (h : 48 ≤ c ∧ c ≤ 57) : c ∈ digitsS.cps.toList := by
  rw [digits_l]
  obtain ⟨h1, h2⟩ := h
  obtain ⟨d, rfl⟩ : ∃ d, c = 48 + d := ⟨c - 48, by omega⟩
  have key : ∀ d, d < 10 → 48 + d ∈ ([48, 49, 50, 51, 52, 53, 54, 55, 56, 57] : List Nat) := by decide
  exact key d (by omega)
theorem hall_ok : NameOk hallS := ⟨[104, 97, 108, 108], by decide +kernel, by decide, 104, [97, 108, 108], rfl, by decide, by decide⟩

def spIsName : Sp := fun vs H Q _ => ∃ z : Str, vs = [.str z] ∧ NameOk z ∧ Q (.bl true) H

/-- what stands in a Round -/
def RoundAt (K : PySem.W.Frag) (C : Addr) (H : Hp) (p : Addr) (ss : List Stay) : Prop := ∃ dx fs q, H p = some (.ins C dx fs) ∧ fs.lookup ("_stays" : Str) = some (.ref q) ∧ Dp K H (.ref q) (.list (ss.map encStay))
theorem RoundAt.same {K : PySem.W.Frag} {C : Addr} {H H' : Hp} {p : Addr} {ss : List Stay} (r : RoundAt K C H p ss) (s : Same H H') : RoundAt K C H' p ss := by
  obtain ⟨dx, fs, q, h1, h2, h3⟩ := r
  exact ⟨dx, fs, q, s _ _ h1, h2, Dp.same s h3⟩
def spRInit (K : PySem.W.Frag) (C : Addr) : Sp := fun vs H Q _ => ∃ (p dx : Addr) (v : V) (L : List Str) (ss : List Stay), vs = [.ref p, v] ∧ H p = some (.ins C dx []) ∧ Dp K (R (fun b => b ≠ p) H) v (.list (ss.map encStay)) ∧ StaysOk L ss ∧ (∀ z ∈ L, NameOk z) ∧
  ∀ H', RoundAt K C (R (fun b => H b = none ∨ b = p) H') p ss → (∀ b o, H b = some o → b ≠ p → H' b = some o) → Q .non H'
def spRStays (K : PySem.W.Frag) (C : Addr) : Sp := fun vs H Q _ => ∃ (p : Addr) (ss : List Stay) (H0 : Hp), vs = [.ref p] ∧ RoundAt K C H0 p ss ∧ Same H0 H ∧ ∀ (q : Addr) (xs : List V), H q = none → DpAll K H0 xs (ss.map encStay) → Q (.ref q) (upd H q (.lst xs))
def spRLen (K : PySem.W.Frag) (C : Addr) : Sp := fun vs H Q _ => ∃ (p : Addr) (ss : List Stay), vs = [.ref p] ∧ RoundAt K C H p ss ∧ Q (.int ss.length) H
/-- what the walk asks of the class Round -/
structure RTxt (K : PySem.W.Frag) (mg : Str → Option Value) (C : Addr) : Prop where
  cl : Cls K C
  nS : NoAttr K C "_stays"
  nL : NoAttr K C "_least"
  nM : NoAttr K C "_most"
  mgR : mg "Round" = some (.ref C)
  most : ∃ mc u, ClX.CRead K C mc ∧ ClX.CVal K C mc "MOST_STAYS" (.int 6) u
/-- the rows of a plain walk: rooms and lengths -/
def WalkRows (ss : List Stay) (lens : List Int) (rs : List Stay) : Prop := rs.length = ss.length ∧ ∀ (j : Nat) (r : Stay), rs[j]? = some r → ∃ s x, ss[j]? = some s ∧ lens[j]? = some x ∧ r.1 = s.1 ∧ r.2.2 - r.2.1 = x
def spWalk (K : PySem.W.Frag) (C : Addr) : Sp := fun vs H Q _ => ∃ (t : Addr) (start : Int) (lv : V) (L : List Str) (ss : List Stay) (lens : List Int), vs = [.ref t, .int start, lv] ∧ RoundAt K C H t ss ∧ StaysOk L ss ∧ Dp K H lv (.list (lens.map PyData.int)) ∧ Fits ss lens ∧
  ∀ (v : V) (rs : List Stay) (H' : Hp), WalkRows ss lens rs → Dp K (newer H H') v (.list (rs.map encStay)) → Same H H' → Q v H'
section
variable {P : Program} {w : World} {K : PySem.W.Frag} {mg : Str → Option Value} {base : Heap}

abbrev nIsName : List Str := ["text", "sign"]
theorem sc_isname : FnScope nIsName ["text"] (fnScope sIsName) := fnScope_by (by decide +kernel)
theorem ok_isname (B : Blt mg) (g_LETTERS : ∃ u, mg "LETTERS" = some u ∧ RelV (.str letters) u) (g_DIGITS : ∃ u, mg "DIGITS" = some u ∧ RelV (.str digitsS) u) (g_MOST_SIGNS : ∃ u, mg "MOST_SIGNS" = some u ∧ RelV (.int 12) u)
    {f : Addr} {fd : FuncData} (F : Def K mg "is_name" sIsName f fd) (b : Binds K fd ["text"] []) : Cal P w K mg base 1 "is_name" spIsName [] := by
  refine cal0 F b .nil sc_isname (fun vs H Q E h => ?_) (fun cdv A outer s H vs Q E hr h => ?_)
  · obtain ⟨z, rfl, _⟩ := h
    rfl
  · obtain ⟨z, rfl, ⟨u, rfl, hu⟩, k⟩ := h
    refine ⟨_, pss_cons (ps_if (PW.pt (pw_or (pt_not (pt_chain op_le op_le pe_int (pe_callB call_len_str (by rfl) B.len (by decide +kernel) (pa_cons (pv 0) pa_nil)) (pe_gc (by rfl) g_MOST_SIGNS))) (pw_or1 (pt_cmpR op_notIn_sign (pe_ix ix_str (pv 0) pe_int (fun _ _ => rfl)) (pe_gc (by rfl) g_LETTERS) (by rfl))))) (pss_one (ps_ret pe_bl)) pss_nil)
      (pss_cons (ps_for PassesOwn.never rfl (pi_str (pv 0)) (pg_name (i := 1) sc_isname.nd rfl (Or.inl rfl)) (pss_one (ps_if (PW.pt (pw_and (pt_cmpR op_notIn_sign (pv 1) (pe_gc (by rfl) g_LETTERS) (by rfl)) (pw_and1 (pt_cmpR op_notIn_sign (pv 1) (pe_gc (by rfl) g_DIGITS) (by rfl))))) (pss_one (ps_ret pe_bl)) pss_nil)))
      (pss_one (ps_ret pe_bl))), ?_⟩
    have h12 := hu.1
    obtain ⟨_, c, r, rfl, hc, hrest⟩ := id hu
    have hcl := ltr_in hc
    refine ⟨_, rfl, _, rfl, line12 h12, _, _, rfl, rfl, _, rfl, ?_⟩
    rw [S_len]
    refine ite2 (fun _ => ?_) (fun hno => absurd (decide_eq_true (show (1 : Int) ≤ ((c :: r).length : Int) by rw [List.length_cons]; omega)) hno)
    refine ⟨_, _, rfl, rfl, _, rfl, ?_⟩
    refine iteNS (show (((c :: r).length : Nat) : Int) ≤ 12 by omega) ?_
    refine ⟨_, rfl, S (c :: r), 0, c, rfl, rfl, line12 h12, (by rw [show (S (c :: r)).cps.toList = c :: r from by simp [S]]; exact atI_nat (j := 0) rfl), c, letters, rfl, rfl, _, rfl, ?_⟩
    refine iteNS hcl ?_
    -- for sign in text
    refine ⟨_, rfl, _, rfl, for_str (x := S (c :: r)) (fun i σ H1 => H1 = H ∧ ∃ v, σ = [some (.str (S (c :: r))), v]) ⟨rfl, none, rfl⟩ ?_ ?_⟩
    · rintro i d σ H1 hd ⟨rfl, v, rfl⟩
      have hm : d ∈ c :: r := by
        have : (c :: r)[i]? = some d := by simpa [S] using hd
        exact List.mem_of_getElem? this
      have hld : LtrDig d := by
        rcases List.mem_cons.mp hm with q | q
        · rw [q]
          exact .inl hc
        · exact hrest d q
      refine ⟨_, rfl, d, letters, rfl, rfl, _, rfl, ?_⟩
      rcases hld with hl | hl
      · exact iteNS (ltr_in hl) ⟨rfl, _, rfl⟩
      · refine ite2 (fun _ => ?_) (fun _ => ⟨rfl, _, rfl⟩)
        refine ⟨_, rfl, d, digitsS, rfl, rfl, _, rfl, ?_⟩
        exact iteNS (dig_in hl) ⟨rfl, _, rfl⟩
    · rintro σ H1 ⟨rfl, v, rfl⟩
      exact k

abbrev nRInit : List Str := ["self", "stays", "kept", "least_sums", "most_sums", "room", "least", "most"]
theorem sc_rinit : FnScope nRInit ["self", "stays"] (fnScope sRInit) := fnScope_by (by decide +kernel)
theorem ok_rinit (B : Blt mg) {C : Addr} (T : RTxt K mg C) (c_is_name : Cal P w K mg base 1 "is_name" spIsName []) {f : Addr} {fd : FuncData} (F : C8.Fun K "__init__" "Round.__init__" sRInit f fd) : FnOk P w K mg base C8.CX0 2 f fd ["self", "stays"] (spRInit K C) := by
  have g_Round : ∃ u, mg "Round" = some u ∧ RelV (.ref C) u := ⟨_, T.mgR, rfl⟩
  refine C8.fn0 F sc_rinit (fun vs H Q E h => ?_) (fun cdv A outer s H vs Q E hr h => ?_)
  · obtain ⟨p, dx, v, L, ss, rfl, _⟩ := h
    rfl
  · obtain ⟨p, dx, v, L, ss, rfl, hp, hv, hss, hL, k⟩ := h
    obtain ⟨sa, xs, rfl, hx, hd⟩ := Dp.lstE hv
    have hxl : xs.length = ss.length := by rw [DpAll.len hd, List.length_map]
    have h1 := hss.1
    have h6 := hss.2.1
    refine ⟨_, pss_cons (ps_if (pt_not (pt_chain op_le op_le pe_int (pe_callB call_len_seq (by rfl) B.len (by decide +kernel) (pa_cons (pv 1) pa_nil)) (ClX.pe_cval (pe_gc (by rfl) g_Round)))) (pss_one ps_never) pss_nil)
      (pss_cons (ps_set (i := 2) sc_rinit.nd rfl (Or.inl rfl) (pe_lst pa_nil))
      (pss_cons (ps_set (i := 3) sc_rinit.nd rfl (Or.inl rfl) (pe_lst (pa_cons pe_int pa_nil)))
      (pss_cons (ps_set (i := 4) sc_rinit.nd rfl (Or.inl rfl) (pe_lst (pa_cons pe_int pa_nil)))
      (pss_cons (ps_for PassesOwn.never rfl (pi_list (pv 1)) (pg_tup rfl (pgs_cons (pg_name (i := 5) sc_rinit.nd rfl (Or.inl rfl)) (pgs_cons (pg_name (i := 6) sc_rinit.nd rfl (Or.inl rfl)) (pgs_cons (pg_name (i := 7) sc_rinit.nd rfl (Or.inl rfl)) pgs_nil)))) (pss_cons (ps_if (pt_not (pt_val (pe_c c_is_name hr (by decide) (by rfl) (pa_cons (pv 5) pa_nil)))) (pss_one ps_never) pss_nil)
      (pss_cons (ps_if (PW.pt (pw_or (pt_cmpR op_lt (pv 6) pe_int (nomark _)) (pw_or1 (pt_cmpR op_lt (pv 7) (pv 6) (nomark _))))) (pss_one ps_never) pss_nil)
      (pss_cons (ps_expr (pe_bm PySem.F.plainAttrs_list PySem.F.slot_list_append PySem.F.type_list_append mt_append (pv 2) (pa_cons (pe_tup (pa_cons (pv 5) (pa_cons (pv 6) (pa_cons (pv 7) pa_nil)))) pa_nil)))
      (pss_cons (ps_expr (pe_bm PySem.F.plainAttrs_list PySem.F.slot_list_append PySem.F.type_list_append mt_append (pv 3) (pa_cons (pe_op op_add (pe_ix ix_list (pv 3) (pe_un un_neg pe_int) (fun _ _ => rfl)) (pv 6)) pa_nil)))
      (pss_one (ps_expr (pe_bm PySem.F.plainAttrs_list PySem.F.slot_list_append PySem.F.type_list_append mt_append (pv 4) (pa_cons (pe_op op_add (pe_ix ix_list (pv 4) (pe_un un_neg pe_int) (fun _ _ => rfl)) (pv 7)) pa_nil)))))))))
      (pss_cons (ps_fld (pv 0) (pv 2) rfl)
      (pss_cons (ps_fld (pv 0) (pv 3) rfl)
      (pss_one (ps_fld (pv 0) (pv 4) rfl)))))))), ?_⟩
    obtain ⟨mc, u, cr, cv⟩ := T.most
    refine ⟨_, rfl, sa, _, rfl, .inl (SqL.le hx), _, _, rfl, rfl, _, rfl, ?_⟩
    rw [hxl]
    refine ite2 (fun _ => ?_) (fun hno => absurd (decide_eq_true (show (1 : Int) ≤ (ss.length : Int) by omega)) hno)
    refine ⟨C, mc, _, u, rfl, cr, cv, _, _, rfl, rfl, _, rfl, ?_⟩
    refine iteNS (show ((ss.length : Nat) : Int) ≤ 6 by omega) ?_
    -- kept = []; least_sums = [0]; most_sums = [0]
    refine ⟨(by show 0 ≤ sizeLine; decide), fun kp hkp => ⟨(by show 1 ≤ sizeLine; decide), fun ls hls => ⟨(by show 1 ≤ sizeLine; decide), fun ms hms => ?_⟩⟩⟩
    have s1 : Same H (upd H kp (.lst [])) := Same.new hkp
    have s2 : Same (upd H kp (.lst [])) (upd (upd H kp (.lst [])) ls (.lst [.int 0])) := Same.new hls
    have s3 := Same.new (o := HO.lst [.int 0]) hms
    have hl0 : H ls = none := s1.free hls
    have hm0 : H ms = none := (s1.trans s2).free hms
    have e1 : upd H kp (.lst []) kp = some (.lst []) := upd_same
    have e2 : upd (upd H kp (.lst [])) ls (.lst [.int 0]) ls = some (.lst [.int 0]) := upd_same
    have kl : kp ≠ ls := ne_of_none e1 hls
    have km : kp ≠ ms := ne_of_none (s2 _ _ e1) hms
    have lm : ls ≠ ms := ne_of_none e2 hms
    refine ⟨_, rfl, sa, rfl, ⟨_, (s1.trans (s2.trans s3)).seq (SqL.le hx)⟩, for_list (K := K) (a := sa) (xs := xs) (fun i σ H3 => ∃ (ys : List V) (ns : List Int) (z : Int) (ns' : List Int) (z' : Int) (v5 v6 v7 : Option V), σ = [some (.ref p), some (.ref sa), some (.ref kp), some (.ref ls), some (.ref ms), v5, v6, v7] ∧
      H3 kp = some (.lst ys) ∧ DpAll K (R (fun b => H b = none ∧ b ≠ p ∧ b ≠ kp ∧ b ≠ ls ∧ b ≠ ms) H3) ys ((ss.take i).map encStay) ∧ H3 ls = some (.lst (ns.map V.int ++ [V.int z])) ∧ H3 ms = some (.lst (ns'.map V.int ++ [V.int z'])) ∧ ns.length = i ∧ ns'.length = i ∧ ys.length = i ∧ Same H H3) ?_ ?_ ?_ ?_⟩
    · exact ⟨[], [], 0, [], 0, none, none, none, rfl, s3 _ _ (s2 _ _ e1), .nil, s3 _ _ e2, upd_same, rfl, rfl, rfl, (s1.trans s2).trans s3⟩
    · rintro i σ H3 _ ⟨ys, ns, z, ns', z', v5, v6, v7, rfl, _, _, _, _, _, _, _, s⟩
      exact s.seq (SqL.le hx)
    · rintro i x σ H3 hxi ⟨ys, ns, z, ns', z', v5, v6, v7, rfl, gk, gD, gl, gm, n1, n2, n3, s⟩
      have hi := (List.getElem?_eq_some_iff.mp hxi).1
      obtain ⟨d, hdi, hdx⟩ := DpAll.getV hd hxi
      rw [List.getElem?_map] at hdi
      obtain ⟨st, hsi, rfl⟩ := Option.map_eq_some_iff.mp hdi
      obtain ⟨t, rfl, ht⟩ := stay_at hdx
      obtain ⟨hroom, b1, b2, b3⟩ := hss.2.2 st (List.mem_of_getElem? hsi)
      have hnm : NameOk st.1 := by
        rcases hroom with q | q
        · exact hL _ q
        · rw [q]
          exact hall_ok
      have ht3 : SqT K H3 t [.str st.1, .int st.2.1, .int st.2.2] := sqT_same s (SqT.le ht)
      refine ⟨t, _, rfl, ht3, rfl, _, _, rfl, _, _, rfl, _, _, rfl, rfl, ?_⟩
      -- is_name(room); least < 1 or most < least
      refine ⟨_, rfl, st.1, rfl, hnm, _, rfl, iteF ?_⟩
      refine ⟨_, rfl, _, _, rfl, rfl, _, rfl, ?_⟩
      refine ite2 (fun hno => absurd (of_decide_eq_true hno) (by omega)) (fun _ => ?_)
      refine ⟨_, rfl, _, rfl, _, _, rfl, rfl, _, rfl, ?_⟩
      refine ite2 (fun hno => absurd (of_decide_eq_true hno) (by omega)) (fun _ => ?_)
      -- kept.append((room, least, most))
      refine ⟨_, rfl, .inl ⟨rfl, _, SqL.of gk⟩, _, rfl, _, rfl, _, rfl, (by show 3 ≤ sizeLine; decide), fun tt htt => ?_⟩
      have kt : kp ≠ tt := ne_of_none gk htt
      have lt' : ls ≠ tt := ne_of_none gl htt
      have mt' : ms ≠ tt := ne_of_none gm htt
      refine ⟨kp, _, _, rfl, rfl, by rw [upd_ne kt]; exact gk, small1000 (by omega), ?_⟩
      -- least_sums.append(least_sums[-1] + least)
      have gl2 : (upd (upd H3 tt (.tup [.str st.1, .int st.2.1, .int st.2.2])) kp (.lst (ys ++ [.ref tt]))) ls = some (.lst (ns.map V.int ++ [V.int z])) := by rw [upd_ne kl.symm, upd_ne lt']; exact gl
      refine ⟨_, rfl, .inl ⟨rfl, _, SqL.of gl2⟩, _, rfl, _, rfl, ls, _, _, _, rfl, rfl, SqL.of gl2, atI_last _ _, _, rfl, _, _, rfl, rfl, ls, _, _, rfl, rfl, gl2, small1000 (by simp; omega), ?_⟩
      have gm2 : (upd (upd (upd H3 tt (.tup [.str st.1, .int st.2.1, .int st.2.2])) kp (.lst (ys ++ [.ref tt]))) ls (.lst (ns.map V.int ++ [V.int z] ++ [V.int (z + st.2.1)]))) ms = some (.lst (ns'.map V.int ++ [V.int z'])) := by rw [upd_ne lm.symm, upd_ne km.symm, upd_ne mt']; exact gm
      refine ⟨_, rfl, .inl ⟨rfl, _, SqL.of gm2⟩, _, rfl, _, rfl, ms, _, _, _, rfl, rfl, SqL.of gm2, atI_last _ _, _, rfl, _, _, rfl, rfl, ms, _, _, rfl, rfl, gm2, small1000 (by simp; omega), ?_⟩
      have hpt : p ≠ tt := ne_of_none (s _ _ hp) htt
      refine ⟨ys ++ [.ref tt], ns ++ [z], z + st.2.1, ns' ++ [z'], z' + st.2.2, _, _, _, rfl, ?_, ?_, ?_, ?_, by simp [n1], by simp [n2], by simp [n3], ?_⟩
      · rw [upd_ne km, upd_ne kl, upd_same]
      · have e : (ss.take (i + 1)).map encStay = (ss.take i).map encStay ++ [encStay st] := by
          rw [List.take_add_one, hsi, List.map_append]
          rfl
        rw [e]
        refine DpAll.snoc (DpAll.same (R_same fun b o q e => ⟨q, ?_⟩) gD) (Dp.tup (SqT.of (R_of ⟨Same.free s htt, hpt.symm, kt.symm, lt'.symm, mt'.symm⟩ ?_)) (.cons (.str _) (.cons (.int _) (.cons (.int _) .nil))))
        · rw [upd_ne q.2.2.2.2, upd_ne q.2.2.2.1, upd_ne q.2.2.1, upd_ne (ne_of_none e htt)]
          exact e
        · rw [upd_ne mt'.symm, upd_ne lt'.symm, upd_ne kt.symm, upd_same]
      · rw [upd_ne lm, upd_same, List.map_append]
        rfl
      · rw [upd_same, List.map_append]
        rfl
      · exact Same.putNew (Same.putNew (Same.putNew (Same.putNew s (Same.free s htt)) hkp) hl0) hm0
    · rintro σ H3 ⟨ys, ns, z, ns', z', v5, v6, v7, rfl, gk, gD, gl, gm, n1, n2, n3, s⟩
      -- the fields
      have kpp : kp ≠ p := (ne_of_none hp hkp).symm
      refine ⟨_, rfl, _, rfl, p, C, dx, _, rfl, s _ _ hp, T.cl, T.nS, (by show 0 < 1000; decide), ?_⟩
      refine ⟨_, rfl, _, rfl, p, C, dx, _, rfl, upd_same, T.cl, T.nL, (by show 1 < 1000; decide), ?_⟩
      refine ⟨_, rfl, _, rfl, p, C, dx, _, rfl, upd_same, T.cl, T.nM, (by show 2 < 1000; decide), ?_⟩
      refine k _ ⟨dx, _, kp, R_of (.inr rfl) upd_same, ?_, ?_⟩ (fun b o e hb => ?_)
      · rw [lookup_putF, if_neg (by decide +kernel), lookup_putF, if_neg (by decide +kernel), lookup_putF, if_pos rfl]
      · rw [hxl, List.take_of_length_le (Nat.le_refl _)] at gD
        refine Dp.lst (SqL.of (R_of (.inl hkp) ?_)) (DpAll.same (R_same fun b o q e => ⟨.inl q.1, ?_⟩) gD)
        · rw [upd_ne kpp, upd_ne kpp, upd_ne kpp]
          exact gk
        · rw [upd_ne q.2.1, upd_ne q.2.1, upd_ne q.2.1]
          exact e
      · rw [upd_ne hb, upd_ne hb, upd_ne hb]
        exact s _ _ e

abbrev nRStays : List Str := ["self"]
theorem sc_rstays : FnScope nRStays ["self"] (fnScope sRStays) := fnScope_by (by decide +kernel)
theorem ok_rstays (B : Blt mg) {C : Addr} (T : RTxt K mg C) {f : Addr} {fd : FuncData} (F : C8.Fun K "stays" "Round.stays" sRStays f fd) : FnOk P w K mg base C8.CX0 1 f fd ["self"] (spRStays K C) := by
  refine C8.fn0 F sc_rstays (fun vs H Q E h => ?_) (fun cdv A outer s H vs Q E hr h => ?_)
  · obtain ⟨p, ss, H0, rfl, _⟩ := h
    rfl
  · obtain ⟨p, ss, H0, rfl, ⟨dx, fs, q, h1, h2, h3⟩, s0, k⟩ := h
    obtain ⟨sa, xs, e, hx, hd⟩ := Dp.lstE h3
    cases e
    refine ⟨_, pss_one (ps_ret (pe_callTy call_list_of (by rfl) B.list (by decide +kernel) (pa_cons (pe_fld (pv 0) rfl) pa_nil))), ?_⟩
    exact ⟨_, rfl, p, C, dx, fs, _, rfl, s0 _ _ h1, T.cl, T.nS, h2, q, xs, rfl, .inl (s0.seq hx), fun l hl => k l xs hl hd⟩
abbrev nRLen : List Str := ["self"]
theorem sc_rlen : FnScope nRLen ["self"] (fnScope sRLen) := fnScope_by (by decide +kernel)
theorem ok_rlen (B : Blt mg) {C : Addr} (T : RTxt K mg C) {f : Addr} {fd : FuncData} (F : C8.Fun K "__len__" "Round.__len__" sRLen f fd) : FnOk P w K mg base C8.CX0 1 f fd ["self"] (spRLen K C) := by
  refine C8.fn0 F sc_rlen (fun vs H Q E h => ?_) (fun cdv A outer s H vs Q E hr h => ?_)
  · obtain ⟨p, ss, rfl, _⟩ := h
    rfl
  · obtain ⟨p, ss, rfl, ⟨dx, fs, q, h1, h2, h3⟩, k⟩ := h
    obtain ⟨sa, xs, e, hx, hd⟩ := Dp.lstE h3
    cases e
    refine ⟨_, pss_one (ps_ret (pe_callB call_len_seq (by rfl) B.len (by decide +kernel) (pa_cons (pe_fld (pv 0) rfl) pa_nil))), ?_⟩
    refine ⟨_, rfl, p, C, dx, fs, _, rfl, h1, T.cl, T.nS, h2, q, xs, rfl, .inl hx, ?_⟩
    rw [DpAll.len hd, List.length_map]
    exact k

/-- walk -/
abbrev nWalk : List Str := ["tour", "start", "lengths", "rows", "moment", "room", "least", "most", "length"]
theorem sc_walk : FnScope nWalk ["tour", "start", "lengths"] (fnScope sWalk) := fnScope_by (by decide +kernel)
theorem ok_walk (B : Blt mg) {C : Addr} (T : RTxt K mg C) {pst fst flen : Addr} {fdst fdlen : FuncData} (hst : PropOf K C "stays" pst fst) (Fst : FnOk P w K mg base C8.CX0 1 fst fdst ["self"] (spRStays K C)) (bst : Binds K fdst ["self"] [])
    (hlen : PySem.W.findIn K (.ref C) "__len__" = some (some (.ref flen))) (hlf : PySem.W.isFn K (.ref flen) = true) (Flen : FnOk P w K mg base C8.CX0 1 flen fdlen ["self"] (spRLen K C)) (blen : Binds K fdlen ["self"] [])
    {f : Addr} {fd : FuncData} (F : Def K mg "walk" sWalk f fd) (b : Binds K fd ["tour", "start", "lengths"] []) : Cal P w K mg base 3 "walk" (spWalk K C) [] := by
  refine cal0 F b .nil sc_walk (fun vs H Q E h => ?_) (fun cdv A outer s H vs Q E hr h => ?_)
  · obtain ⟨t, start, lv, L, ss, lens, rfl, _⟩ := h
    rfl
  · obtain ⟨t, start, lv, L, ss, lens, rfl, hR, hss, hlv, hF, k⟩ := h
    obtain ⟨la, lxs, rfl, hlx, hld⟩ := Dp.lstE hlv
    have elx := DpAll.ints hld
    subst elx
    obtain ⟨dx, fs, q, g1, g2, g3⟩ := id hR
    have h6 := hss.2.1
    have hll : lens.length = ss.length := hF.1
    refine ⟨_, pss_cons (ps_if (pt_cmpR op_ne (pe_callB call_len_seq (by rfl) B.len (by decide +kernel) (pa_cons (pv 2) pa_nil)) (pe_callB (call_lenOwn hlen hlf Flen blen hr (C8.pass0 (E := E0))) (by rfl) B.len (by decide +kernel) (pa_cons (pv 0) pa_nil)) (nomark _)) (pss_one ps_never) pss_nil)
      (pss_cons (ps_set (i := 3) sc_walk.nd rfl (Or.inl rfl) (pe_lst pa_nil))
      (pss_cons (ps_set (i := 4) sc_walk.nd rfl (Or.inl rfl) (pv 1))
      (pss_cons (ps_for PassesOwn.never rfl (pi_zip (by rfl) B.zip (pa_cons (pe_prop (pv 0) T.cl hst Fst hr bst .nil (C8.pass0 (E := E0)) rfl) (pa_cons (pv 2) pa_nil))) (pg_tup rfl (pgs_cons (pg_tup rfl (pgs_cons (pg_name (i := 5) sc_walk.nd rfl (Or.inl rfl)) (pgs_cons (pg_name (i := 6) sc_walk.nd rfl (Or.inl rfl)) (pgs_cons (pg_name (i := 7) sc_walk.nd rfl (Or.inl rfl)) pgs_nil)))) (pgs_cons (pg_name (i := 8) sc_walk.nd rfl (Or.inl rfl)) pgs_nil))) (pss_cons (ps_if (pt_not (pt_chain op_le op_le (pv 6) (pv 8) (pv 7))) (pss_one ps_never) pss_nil)
      (pss_cons (ps_expr (pe_bm PySem.F.plainAttrs_list PySem.F.slot_list_append PySem.F.type_list_append mt_append (pv 3) (pa_cons (pe_tup (pa_cons (pv 5) (pa_cons (pv 4) (pa_cons (pe_op op_add (pv 4) (pv 8)) pa_nil)))) pa_nil)))
      (pss_one (ps_aug (i := 4) sc_walk.nd rfl (.inl rfl) (pv 8) ip_add)))))
      (pss_one (ps_ret (pv 3)))))), ?_⟩
    refine ⟨_, rfl, la, _, rfl, .inl hlx, _, rfl, t, dx, fs, rfl, g1, t, ss, rfl, hR, ss.length, rfl, by omega, rfl, _, rfl, ?_⟩
    rw [List.length_map, hll]
    refine iteNS rfl ?_
    -- rows = []; moment = start
    refine ⟨(by show 0 ≤ sizeLine; decide), fun p hp => ⟨_, rfl, ?_⟩⟩
    have s1 : Same H (upd H p (.lst [])) := Same.new hp
    refine ⟨_, rfl, t, dx, fs, rfl, s1 _ _ g1, t, ss, H, rfl, hR, s1, fun q' xs hq' hD0 => ⟨_, rfl, q', la, xs, lens.map V.int, rfl, SqL.of upd_same, (s1.trans (Same.new hq')).seq hlx, ?_⟩⟩
    have hxl : xs.length = ss.length := by rw [DpAll.len hD0, List.length_map]
    have s2 : Same (upd H p (.lst [])) (upd (upd H p (.lst [])) q' (.lst xs)) := Same.new hq'
    have ep : upd H p (.lst []) p = some (.lst []) := upd_same
    have pq : p ≠ q' := ne_of_none ep hq'
    have hq0 : H q' = none := s1.free hq'
    refine RZ.for_zipL (K := K) (a := q') (b := la) (xs := xs) (ys := lens.map V.int) (by rw [hxl, List.length_map, hll]) (fun i σ H3 => ∃ (ys : List V) (rs : List Stay) (m : Int) (v5 v6 v7 v8 : Option V), σ = [some (.ref t), some (.int start), some (.ref la), some (.ref p), some (.int m), v5, v6, v7, v8] ∧
      H3 p = some (.lst ys) ∧ DpAll K (R (fun b => H b = none ∧ b ≠ p) H3) ys (rs.map encStay) ∧ rs.length = i ∧ (∀ (j : Nat) (r : Stay), rs[j]? = some r → ∃ s x, ss[j]? = some s ∧ lens[j]? = some x ∧ r.1 = s.1 ∧ r.2.2 - r.2.1 = x) ∧
      H3 q' = some (.lst xs) ∧ Same H H3) ?_ ?_ ?_ ?_
    · exact ⟨[], [], start, none, none, none, none, rfl, s2 _ _ ep, .nil, rfl, (fun j r h => by simp at h), upd_same, s1.trans s2⟩
    · rintro i σ H3 ⟨ys, rs, m, v5, v6, v7, v8, rfl, _, _, _, _, gq, s⟩
      exact ⟨SqL.of gq, s.seq hlx⟩
    · rintro i x y T' σ H3 hxi hyi ⟨ys, rs, m, v5, v6, v7, v8, rfl, gp, gD, gl, gr, gq, s⟩ hT
      obtain ⟨d, hdi, hdx⟩ := DpAll.getV hD0 hxi
      rw [List.getElem?_map] at hdi
      obtain ⟨st, hsi, rfl⟩ := Option.map_eq_some_iff.mp hdi
      obtain ⟨tt, rfl, ht⟩ := stay_at hdx
      rw [List.getElem?_map] at hyi
      obtain ⟨ln, hli, rfl⟩ := Option.map_eq_some_iff.mp hyi
      obtain ⟨f1, f2⟩ := hF.2 i st ln hsi hli
      have sT : Same H3 (upd H3 T' (.tup [.ref tt, .int ln])) := Same.new hT
      have ht3 : SqT K (upd H3 T' (.tup [.ref tt, .int ln])) tt [.str st.1, .int st.2.1, .int st.2.2] := sqT_same sT (sqT_same s ht)
      have hi := (List.getElem?_eq_some_iff.mp hsi).1
      refine ⟨T', _, rfl, SqT.of upd_same, rfl, _, _, rfl, tt, _, rfl, ht3, rfl, _, _, rfl, _, _, rfl, _, _, rfl, rfl, _, _, rfl, rfl, ?_⟩
      refine ⟨_, rfl, _, rfl, _, _, rfl, rfl, _, rfl, ?_⟩
      refine ite2 (fun _ => ?_) (fun hno => absurd (decide_eq_true f1) hno)
      refine ⟨_, rfl, _, _, rfl, rfl, _, rfl, ?_⟩
      refine iteNS f2 ?_
      -- rows.append((room, moment, moment + length))
      have pT : p ≠ T' := ne_of_none gp hT
      have gp2 : upd H3 T' (.tup [.ref tt, .int ln]) p = some (.lst ys) := sT _ _ gp
      refine ⟨_, rfl, .inl ⟨rfl, _, SqL.of gp2⟩, _, rfl, _, rfl, _, rfl, _, rfl, _, _, rfl, rfl, (by show 3 ≤ sizeLine; decide), fun n hn => ?_⟩
      have pn : p ≠ n := ne_of_none gp2 hn
      have hnH : H n = none := s.free (sT.free hn)
      refine ⟨p, _, _, rfl, rfl, by rw [upd_ne pn]; exact gp2, small1000 (by rw [DpAll.len gD, List.length_map]; omega), ?_⟩
      -- moment += length
      refine ⟨_, rfl, _, rfl, _, _, rfl, rfl, ?_⟩
      refine ⟨ys ++ [.ref n], rs ++ [(st.1, m, m + ln)], m + ln, _, _, _, _, rfl, upd_same, ?_, by rw [List.length_append, List.length_singleton, gl], ?_, ?_, ?_⟩
      · rw [List.map_append]
        refine DpAll.snoc (DpAll.same (R_same fun b o q e => ⟨q, ?_⟩) gD) (Dp.tup (SqT.of (R_of ⟨hnH, pn.symm⟩ ?_)) (.cons (.str _) (.cons (.int _) (.cons (.int _) .nil))))
        · rw [upd_ne q.2, upd_ne (ne_of_none (sT _ _ e) hn)]
          exact sT _ _ e
        · rw [upd_ne pn.symm, upd_same]
      · intro j r hj
        by_cases hjl : j < rs.length
        · rw [List.getElem?_append_left hjl] at hj
          exact gr j r hj
        · have hj2 := (List.getElem?_eq_some_iff.mp hj).1
          rw [List.length_append, List.length_singleton] at hj2
          have ej : j = i := by omega
          subst ej
          rw [List.getElem?_append_right (by omega), gl, Nat.sub_self] at hj
          cases hj
          exact ⟨st, ln, hsi, hli, rfl, by show m + ln - m = ln; omega⟩
      · rw [upd_ne pq.symm, upd_ne (ne_of_none (sT _ _ gq) hn)]
        exact sT _ _ gq
      · exact Same.putNew (Same.putNew (s.trans sT) hnH) hp
    · rintro σ H3 ⟨ys, rs, m, v5, v6, v7, v8, rfl, gp, gD, gl, gr, gq, s⟩
      exact ⟨_, rfl, k (.ref p) rs H3 ⟨by omega, gr⟩ (Dp.lst (SqL.of (R_of hp gp)) (DpAll.same (R_same fun b o q e => ⟨q.1, e⟩) gD)) s⟩
end
end H5
/-! The house in the heap: its addresses by their roles, what a store makes of it. -/
namespace H5
open PySem L2 SX K51

inductive Role where
  | obj | rows | due | ins | qs
  | row (i : Nat)
  | que (r : Str)
/-- the addresses of a house -/
structure HA where
  dx : Addr
  pl : Addr
  rw : Addr
  du : Addr
  iq : Addr
  qq : Addr
  ra : Nat → Addr
  qa : Str → Addr
def hf (A : HA) : List (Str × V) := putF "queues" (.ref A.qq) (putF "inside" (.ref A.iq) (putF "due" (.ref A.du) (putF "rows" (.ref A.rw) (putF "plans" (.ref A.pl) []))))
theorem hf_queues (A : HA) : (hf A).lookup ("queues" : Str) = some (.ref A.qq) := by
  unfold hf
  rw [lookup_putF, if_pos rfl]
theorem hf_inside (A : HA) : (hf A).lookup ("inside" : Str) = some (.ref A.iq) := by
  unfold hf
  rw [lookup_putF, if_neg (by decide +kernel), lookup_putF, if_pos rfl]
theorem hf_due (A : HA) : (hf A).lookup ("due" : Str) = some (.ref A.du) := by
  unfold hf
  rw [lookup_putF, if_neg (by decide +kernel), lookup_putF, if_neg (by decide +kernel), lookup_putF, if_pos rfl]
theorem hf_rows (A : HA) : (hf A).lookup ("rows" : Str) = some (.ref A.rw) := by
  unfold hf
  rw [lookup_putF, if_neg (by decide +kernel), lookup_putF, if_neg (by decide +kernel), lookup_putF, if_neg (by decide +kernel), lookup_putF, if_pos rfl]
theorem hf_plans (A : HA) : (hf A).lookup ("plans" : Str) = some (.ref A.pl) := by
  unfold hf
  rw [lookup_putF, if_neg (by decide +kernel), lookup_putF, if_neg (by decide +kernel), lookup_putF, if_neg (by decide +kernel), lookup_putF, if_neg (by decide +kernel), lookup_putF, if_pos rfl]
theorem hf_no (A : HA) {m : Str} (h1 : ¬ m = "queues") (h2 : ¬ m = "inside") (h3 : ¬ m = "due") (h4 : ¬ m = "rows") (h5 : ¬ m = "plans") : (hf A).lookup m = none := by
  unfold hf
  rw [lookup_putF, if_neg h1, lookup_putF, if_neg h2, lookup_putF, if_neg h3, lookup_putF, if_neg h4, lookup_putF, if_neg h5]
  rfl

def optI : Option Int → V
  | none => .non
  | some i => .int i
def optN : Option Nat → V
  | none => .non
  | some i => .int i
def encRow (r : Row Str) : PyData := .tuple [.str r.room, .int r.come, .int r.enter, .int r.leave]
def encE (e : Int × Nat) : PyData := .tuple [.int e.1, .int (e.2 : Int)]
def encRL (e : Str × Int) : PyData := .tuple [.str e.1, .int e.2]
def encP (C : Cfg Str) (i : Nat) : PyData := .tuple [.int (C.start i), .list ((C.ps i).map encRL)]

/-- the plans' rooms stand in L -/
structure CfgL (C : Cfg Str) (L : List Str) : Prop where
  hall : C.hall = hallS
  rooms : ∀ (i : Nat) (r : Str) (l : Int), (r, l) ∈ C.ps i → r = hallS ∨ r ∈ L
  len : L.length ≤ 60
  n : C.n ≤ 14
  ps : ∀ i : Nat, (C.ps i).length ≤ 6
  ok : C.Ok

structure HouseAt (K : PySem.W.Frag) (D : Addr) (C : Cfg Str) (L : List Str) (H : Hp) (p : Addr) (A : HA) (ρ : Addr → Option Role) (st : HS Str) : Prop where
  ob : H p = some (.ins D A.dx (hf A))
  rows : H A.rw = some (.lst ((List.range C.n).map fun i => .ref (A.ra i)))
  row : ∀ i : Nat, i < C.n → ∃ ts, H (A.ra i) = some (.lst ts) ∧ DpAll K (R (fun b => ρ b = none) H) ts ((st.rows i).map encRow)
  due : H A.du = some (.lst ((List.range C.n).map fun i => optI (st.due i)))
  ins : ∃ kvs : List (Key × V), H A.iq = some (.dK kvs) ∧ (∀ r : Str, (valV kvs (Sum.inr r)).getD .non = optN (st.occ r)) ∧ (kvs.map (·.1)).Nodup ∧ ∀ k ∈ kvs.map (·.1), ∃ r ∈ L, k = Sum.inr r
  qs : H A.qq = some (.dK (st.keys.map fun r => (Sum.inr r, .ref (A.qa r))))
  que : ∀ r, r ∈ st.keys → ∃ ts, H (A.qa r) = some (.lst ts) ∧ DpAll K (R (fun b => ρ b = none) H) ts ((st.q r).map encE)
  kno : st.keys.Nodup
  kL : ∀ r, r ∈ st.keys → r ∈ L
  qno : ∀ r, r ∉ st.keys → st.q r = []
  plans : Dp K (R (fun b => ρ b = none) H) (.ref A.pl) (.list ((List.range C.n).map (encP C)))
  rl : ∀ i row, row ∈ st.rows i → row.room = hallS ∨ row.room ∈ L
  ro : ρ p = some .obj
  rrw : ρ A.rw = some .rows
  rdu : ρ A.du = some .due
  riq : ρ A.iq = some .ins
  rqq : ρ A.qq = some .qs
  rra : ∀ i : Nat, i < C.n → ρ (A.ra i) = some (.row i)
  rqa : ∀ r, r ∈ st.keys → ρ (A.qa r) = some (.que r)
  tr : ∀ b, ρ b ≠ none → H b ≠ none

theorem range_set {f : Nat → V} {n i : Nat} {v : V} : ((List.range n).map f).set i v = (List.range n).map (fset f i v) := by
  apply List.ext_getElem?
  intro j
  rw [List.getElem?_set]
  by_cases h : i = j
  · subst h
    rw [if_pos rfl]
    by_cases hn : i < n
    · simp [hn, fset]
    · simp [hn]
  · rw [if_neg h]
    by_cases hn : j < n
    · simp [hn, fset, Ne.symm h]
    · simp [hn]

section
variable {K : PySem.W.Frag} {D : Addr} {C : Cfg Str} {L : List Str} {H : Hp} {p : Addr} {A : HA} {ρ : Addr → Option Role} {st : HS Str}
theorem HouseAt.ne (h : HouseAt K D C L H p A ρ st) {a b : Addr} {x y : Role} (ha : ρ a = some x) (hb : ρ b = some y) (d : x ≠ y) : a ≠ b := fun e => by
  rw [e, hb] at ha
  exact d (Option.some.inj ha).symm
theorem HouseAt.fresh (h : HouseAt K D C L H p A ρ st) {a : Addr} (ha : H a = none) : ρ a = none := by
  cases e : ρ a with
  | none => rfl
  | some x => exact absurd ha (h.tr a (by rw [e]; exact fun z => nomatch z))
/-- what is no part of the house stays where a part is written -/
theorem data_put {a : Addr} {o : HO} (ha : ρ a ≠ none) : Same (R (fun b => ρ b = none) H) (R (fun b => ρ b = none) (upd H a o)) := R_same fun b u q e => ⟨q, by
  rw [upd_ne (fun z => ha (by rw [← z]; exact q))]
  exact e⟩
theorem data_new {a : Addr} {o : HO} (ha : H a = none) : Same (R (fun b => ρ b = none) H) (R (fun b => ρ b = none) (upd H a o)) := R_same fun b u q e => ⟨q, by
  rw [upd_ne (ne_of_none e ha)]
  exact e⟩
/-- a new thing -/
theorem HouseAt.new (h : HouseAt K D C L H p A ρ st) {a : Addr} {o : HO} (ha : H a = none) : HouseAt K D C L (upd H a o) p A ρ st := by
  have s : Same H (upd H a o) := Same.new ha
  have d := data_new (ρ := ρ) (o := o) ha
  refine ⟨s _ _ h.ob, s _ _ h.rows, fun i hi => ?_, s _ _ h.due, ?_, s _ _ h.qs, fun r hr => ?_, h.kno, h.kL, h.qno, Dp.same d h.plans, h.rl, h.ro, h.rrw, h.rdu, h.riq, h.rqq, h.rra, h.rqa, fun b hb => ?_⟩
  · obtain ⟨ts, h1, h2⟩ := h.row i hi
    exact ⟨ts, s _ _ h1, DpAll.same d h2⟩
  · obtain ⟨kvs, h1, h2⟩ := h.ins
    exact ⟨kvs, s _ _ h1, h2⟩
  · obtain ⟨ts, h1, h2⟩ := h.que r hr
    exact ⟨ts, s _ _ h1, DpAll.same d h2⟩
  · have := h.tr b hb
    cases e : H b with
    | none => exact absurd e this
    | some u =>
      rw [s _ _ e]
      exact fun z => nomatch z
theorem tr_put {a : Addr} {o : HO} (h : ∀ b, ρ b ≠ none → H b ≠ none) : ∀ b, ρ b ≠ none → upd H a o b ≠ none := fun b hb => by
  by_cases e : b = a
  · rw [e, upd_same]
    exact fun z => nomatch z
  · rw [upd_ne e]
    exact h b hb
/-- due[i] = x -/
theorem HouseAt.setDue (h : HouseAt K D C L H p A ρ st) {i : Nat} {x : Option Int} :
    HouseAt K D C L (upd H A.du (.lst (((List.range C.n).map fun i => optI (st.due i)).set i (optI x)))) p A ρ { st with due := fset st.due i x } := by
  have d := data_put (H := H) (ρ := ρ) (a := A.du) (o := .lst (((List.range C.n).map fun i => optI (st.due i)).set i (optI x))) (by rw [h.rdu]; exact fun z => nomatch z)
  refine ⟨?_, ?_, fun j hj => ?_, ?_, ?_, ?_, fun r hr => ?_, h.kno, h.kL, h.qno, Dp.same d h.plans, h.rl, h.ro, h.rrw, h.rdu, h.riq, h.rqq, h.rra, h.rqa, tr_put h.tr⟩
  · rw [upd_ne (h.ne h.ro h.rdu (fun z => nomatch z))]
    exact h.ob
  · rw [upd_ne (h.ne h.rrw h.rdu (fun z => nomatch z))]
    exact h.rows
  · obtain ⟨ts, h1, h2⟩ := h.row j hj
    refine ⟨ts, ?_, DpAll.same d h2⟩
    rw [upd_ne (h.ne (h.rra j hj) h.rdu (fun z => nomatch z))]
    exact h1
  · rw [upd_same, range_set]
    refine congrArg (fun l => some (HO.lst l)) (List.map_congr_left fun j _ => ?_)
    show fset (fun i => optI (st.due i)) i (optI x) j = optI (fset st.due i x j)
    unfold fset
    split <;> rfl
  · obtain ⟨kvs, h1, h2⟩ := h.ins
    refine ⟨kvs, ?_, h2⟩
    rw [upd_ne (h.ne h.riq h.rdu (fun z => nomatch z))]
    exact h1
  · rw [upd_ne (h.ne h.rqq h.rdu (fun z => nomatch z))]
    exact h.qs
  · obtain ⟨ts, h1, h2⟩ := h.que r hr
    refine ⟨ts, ?_, DpAll.same d h2⟩
    rw [upd_ne (h.ne (h.rqa r hr) h.rdu (fun z => nomatch z))]
    exact h1
theorem nodup_len {α : Type} [DecidableEq α] : ∀ {ks L : List α}, ks.Nodup → (∀ k ∈ ks, k ∈ L) → ks.length ≤ L.length
  | [], _, _, _ => Nat.zero_le _
  | k :: ks, L, hn, hL => by
    obtain ⟨h1, h2⟩ := List.nodup_cons.mp hn
    have hk := hL k List.mem_cons_self
    have ih := nodup_len (ks := ks) (L := L.erase k) h2 fun k' hk' => (List.mem_erase_of_ne (fun z => h1 (by rw [← z]; exact hk'))).mpr (hL k' (List.mem_cons_of_mem _ hk'))
    have := List.length_erase_of_mem hk
    have := List.length_pos_of_mem hk
    rw [List.length_cons]
    omega
theorem nodup_inr_len {ks : List Key} {L : List Str} (hn : ks.Nodup) (h : ∀ k ∈ ks, ∃ r ∈ L, k = Sum.inr r) : ks.length ≤ L.length := by
  have := nodup_len (ks := ks) (L := L.map Sum.inr) hn fun k hk => by
    obtain ⟨r, hr, rfl⟩ := h k hk
    exact List.mem_map.mpr ⟨r, hr, rfl⟩
  rw [List.length_map] at this
  exact this
/-- a queue holds every group at most once -/
theorem qlen {C : Cfg Str} {st : HS Str} {lv tr : List Nat} {now : Int} (ok : C.Ok) (I : K51.Inv C st lv tr now) (r : Str) : (st.q r).length ≤ C.n := by
  have h : ((st.q r).map (·.2)).Nodup := by
    unfold List.Nodup
    rw [List.pairwise_map]
    refine (I.qsort r).imp_of_mem fun {x y} hx hy hl e => ?_
    obtain ⟨c, p⟩ := x
    obtain ⟨d, q⟩ := y
    have e : p = q := e
    subst e
    have h1 := (I.que r c p hx).2.1
    have h2 := (I.que r d p hy).2.1
    unfold Lex at hl
    simp only at hl
    omega
  have := nodup_len (L := List.range C.n) h fun p hp => by
    obtain ⟨⟨c, p'⟩, hm, e⟩ := List.mem_map.mp hp
    have e : p' = p := e
    subst e
    obtain ⟨_, _, _, _, _, l, hl⟩ := I.que r c p' hm
    rw [List.mem_range]
    rcases Nat.lt_or_ge p' C.n with q | q
    · exact q
    · rw [ok.out p' q] at hl
      simp at hl
  rw [List.length_map, List.length_range] at this
  exact this
theorem nodup_putK {kvs : List (Key × V)} {k : Key} {v : V} (h : (kvs.map (·.1)).Nodup) : ((putK kvs k v).map (·.1)).Nodup := by
  cases e : valV kvs k with
  | none => exact nd_putK v h e
  | some y =>
    unfold putK
    rw [valV_any, e, if_pos (show (some y).isSome = true from rfl), List.map_map]
    have : ((fun x : Key × V => x.1) ∘ fun kv : Key × V => if kv.1 = k then (kv.1, v) else kv) = fun kv : Key × V => kv.1 := by
      funext kv
      simp only [Function.comp]
      split <;> rfl
    rw [this]
    exact h
theorem mem_putK {kvs : List (Key × V)} {k j : Key} {v : V} (h : j ∈ (putK kvs k v).map (·.1)) : j = k ∨ j ∈ kvs.map (·.1) := by
  unfold putK at h
  split at h
  · rw [List.map_map] at h
    have : ((fun x : Key × V => x.1) ∘ fun kv : Key × V => if kv.1 = k then (kv.1, v) else kv) = fun kv : Key × V => kv.1 := by
      funext kv
      simp only [Function.comp]
      split <;> rfl
    rw [this] at h
    exact .inr h
  · rw [List.map_append] at h
    rcases List.mem_append.mp h with q | q
    · exact .inr q
    · exact .inl (List.mem_singleton.mp q)
/-- inside[r] = x -/
theorem HouseAt.setIns (h : HouseAt K D C L H p A ρ st) {r : Str} (hr : r ∈ L) {x : Option Nat} {kvs : List (Key × V)} (hk : H A.iq = some (.dK kvs)) :
    HouseAt K D C L (upd H A.iq (.dK (putK kvs (Sum.inr r) (optN x)))) p A ρ { st with occ := fset st.occ r x } := by
  have d := data_put (H := H) (ρ := ρ) (a := A.iq) (o := .dK (putK kvs (Sum.inr r) (optN x))) (by rw [h.riq]; exact fun z => nomatch z)
  refine ⟨?_, ?_, fun j hj => ?_, ?_, ?_, ?_, fun r hr => ?_, h.kno, h.kL, h.qno, Dp.same d h.plans, h.rl, h.ro, h.rrw, h.rdu, h.riq, h.rqq, h.rra, h.rqa, tr_put h.tr⟩
  · rw [upd_ne (h.ne h.ro h.riq (fun z => nomatch z))]
    exact h.ob
  · rw [upd_ne (h.ne h.rrw h.riq (fun z => nomatch z))]
    exact h.rows
  · obtain ⟨ts, h1, h2⟩ := h.row j hj
    refine ⟨ts, ?_, DpAll.same d h2⟩
    rw [upd_ne (h.ne (h.rra j hj) h.riq (fun z => nomatch z))]
    exact h1
  · rw [upd_ne (h.ne h.rdu h.riq (fun z => nomatch z))]
    exact h.due
  · obtain ⟨kvs', h1, h2, h3, h4⟩ := h.ins
    rw [hk] at h1
    cases h1
    refine ⟨_, upd_same, fun r' => ?_, nodup_putK h3, fun k hk' => ?_⟩
    · rw [valV_put]
      show _ = optN (fset st.occ r x r')
      by_cases e : r' = r
      · subst e
        rw [if_pos rfl, fset_eq]
        rfl
      · rw [if_neg (fun z => e (Sum.inr.inj z)), fset_ne e]
        exact h2 r'
    · rcases mem_putK hk' with q | q
      · exact ⟨r, hr, q⟩
      · exact h4 k q
  · rw [upd_ne (h.ne h.rqq h.riq (fun z => nomatch z))]
    exact h.qs
  · obtain ⟨ts, h1, h2⟩ := h.que r hr
    refine ⟨ts, ?_, DpAll.same d h2⟩
    rw [upd_ne (h.ne (h.rqa r hr) h.riq (fun z => nomatch z))]
    exact h1
/-- rows[i].append(row) -/
theorem HouseAt.addRow (h : HouseAt K D C L H p A ρ st) {i : Nat} (hi : i < C.n) {row : Row Str} {t : Addr} {ts : List V} (hts : H (A.ra i) = some (.lst ts)) (ht : H t = some (.tup [.str row.room, .int row.come, .int row.enter, .int row.leave])) (hρ : ρ t = none)
    (hL : row.room = hallS ∨ row.room ∈ L) :
    HouseAt K D C L (upd H (A.ra i) (.lst (ts ++ [.ref t]))) p A ρ { st with rows := fset st.rows i (st.rows i ++ [row]) } := by
  have d := data_put (H := H) (ρ := ρ) (a := A.ra i) (o := .lst (ts ++ [.ref t])) (by rw [h.rra i hi]; exact fun z => nomatch z)
  refine ⟨?_, ?_, fun j hj => ?_, ?_, ?_, ?_, fun r hr => ?_, h.kno, h.kL, h.qno, Dp.same d h.plans, fun j row' hr => ?_, h.ro, h.rrw, h.rdu, h.riq, h.rqq, h.rra, h.rqa, tr_put h.tr⟩
  · rw [upd_ne (h.ne h.ro (h.rra i hi) (fun z => nomatch z))]
    exact h.ob
  · rw [upd_ne (h.ne h.rrw (h.rra i hi) (fun z => nomatch z))]
    exact h.rows
  · show ∃ ts', _ ∧ DpAll K _ ts' ((fset st.rows i (st.rows i ++ [row]) j).map encRow)
    by_cases e : j = i
    · subst e
      obtain ⟨ts', h1, h2⟩ := h.row j hj
      rw [hts] at h1
      cases h1
      rw [fset_eq, List.map_append]
      refine ⟨_, upd_same, DpAll.snoc (DpAll.same d h2) (Dp.same d (Dp.tup (SqT.of (R_of hρ ht)) (.cons (.str _) (.cons (.int _) (.cons (.int _) (.cons (.int _) .nil))))))⟩
    · rw [fset_ne e]
      obtain ⟨ts', h1, h2⟩ := h.row j hj
      refine ⟨ts', ?_, DpAll.same d h2⟩
      rw [upd_ne (h.ne (h.rra j hj) (h.rra i hi) (fun z => e (Role.row.inj z)))]
      exact h1
  · rw [upd_ne (h.ne h.rdu (h.rra i hi) (fun z => nomatch z))]
    exact h.due
  · obtain ⟨kvs, h1, h2⟩ := h.ins
    refine ⟨kvs, ?_, h2⟩
    rw [upd_ne (h.ne h.riq (h.rra i hi) (fun z => nomatch z))]
    exact h1
  · rw [upd_ne (h.ne h.rqq (h.rra i hi) (fun z => nomatch z))]
    exact h.qs
  · obtain ⟨ts, h1, h2⟩ := h.que r hr
    refine ⟨ts, ?_, DpAll.same d h2⟩
    rw [upd_ne (h.ne (h.rqa r hr) (h.rra i hi) (fun z => nomatch z))]
    exact h1
  · have hr : row' ∈ fset st.rows i (st.rows i ++ [row]) j := hr
    by_cases e : j = i
    · rw [e, fset_eq] at hr
      rcases List.mem_append.mp hr with q | q
      · exact h.rl i row' q
      · rw [List.mem_singleton.mp q]
        exact hL
    · rw [fset_ne e] at hr
      exact h.rl j row' hr
/-- a queue is changed -/
theorem HouseAt.setQue (h : HouseAt K D C L H p A ρ st) {r : Str} (hr : r ∈ st.keys) {us : List V} {es : List (Int × Nat)} (hD : DpAll K (R (fun b => ρ b = none) H) us (es.map encE)) :
    HouseAt K D C L (upd H (A.qa r) (.lst us)) p A ρ { st with q := fset st.q r es } := by
  have d := data_put (H := H) (ρ := ρ) (a := A.qa r) (o := .lst us) (by rw [h.rqa r hr]; exact fun z => nomatch z)
  refine ⟨?_, ?_, fun j hj => ?_, ?_, ?_, ?_, fun r' hr' => ?_, h.kno, h.kL, fun r' hr' => ?_, Dp.same d h.plans, h.rl, h.ro, h.rrw, h.rdu, h.riq, h.rqq, h.rra, h.rqa, tr_put h.tr⟩
  · rw [upd_ne (h.ne h.ro (h.rqa r hr) (fun z => nomatch z))]
    exact h.ob
  · rw [upd_ne (h.ne h.rrw (h.rqa r hr) (fun z => nomatch z))]
    exact h.rows
  · obtain ⟨ts', h1, h2⟩ := h.row j hj
    refine ⟨ts', ?_, DpAll.same d h2⟩
    rw [upd_ne (h.ne (h.rra j hj) (h.rqa r hr) (fun z => nomatch z))]
    exact h1
  · rw [upd_ne (h.ne h.rdu (h.rqa r hr) (fun z => nomatch z))]
    exact h.due
  · obtain ⟨kvs, h1, h2⟩ := h.ins
    refine ⟨kvs, ?_, h2⟩
    rw [upd_ne (h.ne h.riq (h.rqa r hr) (fun z => nomatch z))]
    exact h1
  · rw [upd_ne (h.ne h.rqq (h.rqa r hr) (fun z => nomatch z))]
    exact h.qs
  · show ∃ ts', _ ∧ DpAll K _ ts' ((fset st.q r es r').map encE)
    by_cases e : r' = r
    · subst e
      rw [fset_eq]
      exact ⟨us, upd_same, DpAll.same d hD⟩
    · rw [fset_ne e]
      obtain ⟨ts, h1, h2⟩ := h.que r' hr'
      refine ⟨ts, ?_, DpAll.same d h2⟩
      rw [upd_ne (h.ne (h.rqa r' hr') (h.rqa r hr) (fun z => e (Role.que.inj z)))]
      exact h1
  · show fset st.q r es r' = []
    rw [fset_ne (fun z => hr' (by rw [z]; exact hr))]
    exact h.qno r' hr'
/-- an entry joins a queue that stands -/
theorem HouseAt.addQue (h : HouseAt K D C L H p A ρ st) {r : Str} (hr : r ∈ st.keys) {t : Addr} (ht : H t = none) {c : Int} {i : Nat} {ts : List V} (hts : H (A.qa r) = some (.lst ts)) :
    HouseAt K D C L (upd (upd H t (.tup [.int c, .int i])) (A.qa r) (.lst (ts ++ [.ref t]))) p A ρ { st with q := fset st.q r (st.q r ++ [(c, i)]) } := by
  have h1 := h.new (o := .tup [.int c, .int i]) ht
  refine h1.setQue hr ?_
  obtain ⟨ts', g1, g2⟩ := h1.que r hr
  rw [Same.new ht _ _ hts] at g1
  cases g1
  rw [List.map_append]
  exact DpAll.snoc g2 (Dp.tup (SqT.of (R_of (h.fresh ht) upd_same)) (.cons (.int _) (.cons (.int _) .nil)))
theorem valV_keys {f : Str → Addr} : ∀ {ks : List Str} {r : Str}, valV (ks.map fun r => ((Sum.inr r : Key), V.ref (f r))) (Sum.inr r) = if r ∈ ks then some (.ref (f r)) else none
  | [], r => by simp [valV]
  | k :: ks, r => by
    rw [List.map_cons]
    by_cases e : k = r
    · subst e
      rw [valV_pos rfl, if_pos List.mem_cons_self]
    · rw [valV_neg (fun z => e (Sum.inr.inj z)), valV_keys]
      have : (r ∈ k :: ks) ↔ r ∈ ks := by simp [Ne.symm e]
      simp only [this]
/-- a new queue -/
theorem HouseAt.newQue (h : HouseAt K D C L H p A ρ st) {r : Str} (hr : r ∉ st.keys) (hL : r ∈ L) {a : Addr} (ha : H a = some (.lst [])) (hρ : ρ a = none)
    (hfree : DpAll K (R (fun b => fset ρ a (some (Role.que r)) b = none) H) [] []) (hpl : Dp K (R (fun b => fset ρ a (some (Role.que r)) b = none) H) (.ref A.pl) (.list ((List.range C.n).map (encP C))))
    (hrow : ∀ i : Nat, i < C.n → ∃ ts, H (A.ra i) = some (.lst ts) ∧ DpAll K (R (fun b => fset ρ a (some (Role.que r)) b = none) H) ts ((st.rows i).map encRow))
    (hque : ∀ r', r' ∈ st.keys → ∃ ts, H (A.qa r') = some (.lst ts) ∧ DpAll K (R (fun b => fset ρ a (some (Role.que r)) b = none) H) ts ((st.q r').map encE)) :
    HouseAt K D C L (upd H A.qq (.dK (putK (st.keys.map fun r => (Sum.inr r, .ref (A.qa r))) (Sum.inr r) (.ref a)))) p { A with qa := fset A.qa r a } (fset ρ a (some (Role.que r))) { st with keys := st.keys ++ [r] } := by
  have d := data_put (H := H) (ρ := fset ρ a (some (Role.que r))) (a := A.qq) (o := .dK (putK (st.keys.map fun r => (Sum.inr r, .ref (A.qa r))) (Sum.inr r) (.ref a))) (by
    rw [fset_ne (fun z => by rw [← z, h.rqq] at hρ; cases hρ), h.rqq]
    exact fun z => nomatch z)
  have rk : ∀ {b : Addr} {x : Role}, ρ b = some x → fset ρ a (some (Role.que r)) b = some x := fun {b x} e => by
    rw [fset_ne (fun z => by rw [z, hρ] at e; cases e)]
    exact e
  have aq : a ≠ A.qq := fun z => by rw [z, h.rqq] at hρ; cases hρ
  refine ⟨?_, ?_, fun j hj => ?_, ?_, ?_, ?_, fun r' hr' => ?_, nd_snoc h.kno hr, fun r' hr' => ?_, fun r' hr' => ?_, Dp.same d hpl, h.rl, rk h.ro, rk h.rrw, rk h.rdu, rk h.riq, rk h.rqq, fun i hi => rk (h.rra i hi), fun r' hr' => ?_, tr_put fun b hb => ?_⟩
  · rw [upd_ne (h.ne h.ro h.rqq (fun z => nomatch z))]
    exact h.ob
  · rw [upd_ne (h.ne h.rrw h.rqq (fun z => nomatch z))]
    exact h.rows
  · obtain ⟨ts', h1, h2⟩ := hrow j hj
    refine ⟨ts', ?_, DpAll.same d h2⟩
    show upd H A.qq _ (A.ra j) = _
    rw [upd_ne (h.ne (h.rra j hj) h.rqq (fun z => nomatch z))]
    exact h1
  · rw [upd_ne (h.ne h.rdu h.rqq (fun z => nomatch z))]
    exact h.due
  · obtain ⟨kvs, h1, h2⟩ := h.ins
    refine ⟨kvs, ?_, h2⟩
    rw [upd_ne (h.ne h.riq h.rqq (fun z => nomatch z))]
    exact h1
  · rw [upd_same, putK_new _ (by rw [valV_keys, if_neg hr]), List.map_append]
    refine congrArg (fun l => some (HO.dK l)) ?_
    refine congr (congrArg _ (List.map_congr_left fun r' hr' => ?_)) ?_
    · show (Sum.inr r', V.ref (A.qa r')) = (Sum.inr r', V.ref (fset A.qa r a r'))
      rw [fset_ne (fun z => hr (by rw [← z]; exact hr'))]
    · show [(Sum.inr r, V.ref a)] = [(Sum.inr r, V.ref (fset A.qa r a r))]
      rw [fset_eq]
  · show ∃ ts', upd H A.qq _ (fset A.qa r a r') = _ ∧ _
    rcases List.mem_append.mp hr' with q | q
    · have e : r' ≠ r := fun z => hr (by rw [← z]; exact q)
      rw [fset_ne e]
      obtain ⟨ts, h1, h2⟩ := hque r' q
      refine ⟨ts, ?_, DpAll.same d h2⟩
      rw [upd_ne (h.ne (h.rqa r' q) h.rqq (fun z => nomatch z))]
      exact h1
    · rw [List.mem_singleton.mp q, fset_eq]
      refine ⟨[], ?_, ?_⟩
      · rw [upd_ne aq]
        exact ha
      · rw [h.qno r hr]
        exact .nil
  · rcases List.mem_append.mp hr' with q | q
    · exact h.kL r' q
    · rw [List.mem_singleton.mp q]
      exact hL
  · exact h.qno r' fun z => hr' (List.mem_append_left _ z)
  · show fset ρ a (some (Role.que r)) (fset A.qa r a r') = _
    rcases List.mem_append.mp hr' with q | q
    · have e : r' ≠ r := fun z => hr (by rw [← z]; exact q)
      rw [fset_ne e]
      exact rk (h.rqa r' q)
    · rw [List.mem_singleton.mp q, fset_eq, fset_eq]
  · by_cases e : b = a
    · rw [e, ha]
      exact fun z => nomatch z
    · rw [fset_ne e] at hb
      exact h.tr b hb
end

/-- a house at p, all of H0 as it was and no part of it -/
def HouseIn (K : PySem.W.Frag) (D : Addr) (C : Cfg Str) (L : List Str) (H0 H : Hp) (p : Addr) (st : HS Str) : Prop := ∃ A ρ, HouseAt K D C L H p A ρ st ∧ ∀ b o, H0 b = some o → ρ b = none ∧ H b = some o
section
variable {K : PySem.W.Frag} {D : Addr} {C : Cfg Str} {L : List Str} {H0 H0' H : Hp} {p : Addr} {A : HA} {ρ : Addr → Option Role} {st : HS Str}
theorem HouseIn.mono (h : HouseIn K D C L H0' H p st) (s : Same H0 H0') : HouseIn K D C L H0 H p st := by
  obtain ⟨A, ρ, h1, h2⟩ := h
  exact ⟨A, ρ, h1, fun b o e => h2 b o (s b o e)⟩
theorem HouseIn.same (h : HouseIn K D C L H0 H p st) : Same H0 H := by
  obtain ⟨A, ρ, h1, h2⟩ := h
  exact fun b o e => (h2 b o e).2
/-- all that is no part of the house -/
theorem HouseAt.self (h : HouseAt K D C L H p A ρ st) : HouseIn K D C L (R (fun b => ρ b = none) H) H p st := ⟨A, ρ, h, fun b o e => R_inv e⟩
theorem frame_put {a : Addr} {o : HO} (h : ∀ b u, H0 b = some u → ρ b = none ∧ H b = some u) (ha : ρ a ≠ none) : ∀ b u, H0 b = some u → ρ b = none ∧ upd H a o b = some u := fun b u e => by
  obtain ⟨h1, h2⟩ := h b u e
  refine ⟨h1, ?_⟩
  rw [upd_ne (fun z => ha (by rw [← z]; exact h1))]
  exact h2
theorem frame_new {a : Addr} {o : HO} (h : ∀ b u, H0 b = some u → ρ b = none ∧ H b = some u) (ha : H a = none) : ∀ b u, H0 b = some u → ρ b = none ∧ upd H a o b = some u := fun b u e => by
  obtain ⟨h1, h2⟩ := h b u e
  refine ⟨h1, ?_⟩
  rw [upd_ne (ne_of_none h2 ha)]
  exact h2
end
end H5
/-! The house's methods: leave, enter, come. -/
namespace H5
open PySem L2 SX K51
open C8 (Cal Met Mak Def cal0 met0 mak0 pe_c pe_mk pe_mt pe_mt0 fnScope_by scC pe_gc InsC call_isC pss_cut tCut fnScope fnArgs fnBody)

structure HTxt (K : PySem.W.Frag) (mg : Str → Option Value) (D : Addr) : Prop where
  cl : Cls K D
  nP : NoAttr K D "plans"
  nR : NoAttr K D "rows"
  nD : NoAttr K D "due"
  nI : NoAttr K D "inside"
  nQ : NoAttr K D "queues"
  mgH : mg "House" = some (.ref D)
  hall : ∃ u, mg "HALL" = some u ∧ RelV (.str hallS) u

def spLeave (K : PySem.W.Frag) (D : Addr) : Sp := fun vs H Q _ => ∃ (p : Addr) (i : Nat) (C : Cfg Str) (L : List Str) (st : HS Str) (H0 : Hp), vs = [.ref p, .int i] ∧ HouseIn K D C L H0 H p st ∧ CfgL C L ∧ i < C.n ∧ ∀ H', HouseIn K D C L H0 H' p (st.leave C i) → Q .non H'
def spEnter (K : PySem.W.Frag) (D : Addr) : Sp := fun vs H Q _ => ∃ (p : Addr) (i : Nat) (come now : Int) (C : Cfg Str) (L : List Str) (st : HS Str) (H0 : Hp) (r : Str) (l : Int), vs = [.ref p, .int i, .int come, .int now] ∧ HouseIn K D C L H0 H p st ∧ CfgL C L ∧ i < C.n ∧
  (C.ps i)[(st.rows i).length]? = some (r, l) ∧ ∀ H', HouseIn K D C L H0 H' p (st.enter C i come now) → Q .non H'
def spCome (K : PySem.W.Frag) (D : Addr) : Sp := fun vs H Q _ => ∃ (p : Addr) (i : Nat) (now : Int) (C : Cfg Str) (L : List Str) (st : HS Str) (H0 : Hp), vs = [.ref p, .int i, .int now] ∧ HouseIn K D C L H0 H p st ∧ CfgL C L ∧ i < C.n ∧ (∀ r, (st.q r).length ≤ 14) ∧ ∀ H', HouseIn K D C L H0 H' p (HS.come C now st i) → Q .non H'

theorem get_range {f : Nat → V} {n i : Nat} (h : i < n) : ((List.range n).map f)[i]? = some (f i) := by simp [h]
theorem ixN_nat {n i : Nat} (h : i < n) : ixN n (i : Int) = some i := by
  unfold ixN
  rw [if_pos (by omega), if_pos (by omega)]
  rfl
section
variable {P : Program} {w : World} {K : PySem.W.Frag} {mg : Str → Option Value} {base : Heap}
abbrev nLeave : List Str := ["self", "place", "room"]
theorem sc_leave : FnScope nLeave ["self", "place"] (fnScope sLeave) := fnScope_by (by decide +kernel)
theorem ok_leave (B : Blt mg) {D : Addr} (T : HTxt K mg D) {f : Addr} {fd : FuncData} (F : C8.Fun K "leave" "House.leave" sLeave f fd) (me : Meth K D "leave" f) (b : Binds K fd ["self", "place"] []) : Met P w K mg base 1 D "leave" (spLeave K D) [] := by
  have g_HALL := T.hall
  refine met0 T.cl me F b sc_leave (fun vs H Q E h => ?_) (fun cdv A outer s H vs Q E hr h => ?_)
  · obtain ⟨p, i, C, L, st, H0, rfl, _⟩ := h
    rfl
  · obtain ⟨p, i, C, L, st, H0, rfl, ⟨A', ρ, HA1, fr⟩, hC, hi, k⟩ := h
    have hu := hu_of hr
    refine ⟨_, pss_cons (ps_asg pe_non (pg_sub (pe_fld (pv 0) rfl) (pv 1) set_list))
      (pss_one (ps_if (pt_cmpR op_gt (pe_callB call_len_seq (by rfl) B.len (by decide +kernel) (pa_cons (pe_ix ix_list (pe_fld (pv 0) rfl) (pv 1) (fun _ _ => rfl)) pa_nil)) pe_int (nomark _)) (pss_cons (ps_set (i := 2) sc_leave.nd rfl (Or.inl rfl) (pe_ix ix_tup (pe_ix ix_list (pe_ix ix_list (pe_fld (pv 0) rfl) (pv 1) (fun _ _ => rfl)) (pe_un un_neg pe_int) (fun _ _ => rfl)) pe_int (fun _ _ => rfl)))
      (pss_one (ps_if (pt_cmpR op_ne (pv 2) (pe_gc (by rfl) g_HALL) (nomark _)) (pss_one (ps_dput hu (pe_fld (pv 0) rfl) (pv 2) pe_non rfl)) pss_nil))) pss_nil)), ?_⟩
    -- self.due[place] = None
    refine ⟨_, rfl, p, D, A'.dx, _, _, rfl, HA1.ob, T.cl, T.nD, hf_due A', _, rfl, A'.du, _, _, i, rfl, rfl, HA1.due, (by rw [List.length_map, List.length_range]; exact ixN_nat hi), ?_⟩
    have HA2 := HA1.setDue (i := i) (x := none)
    have fr2 := frame_put (o := .lst (((List.range C.n).map fun i => optI (st.due i)).set i (optI none))) fr (show ρ A'.du ≠ none by rw [HA1.rdu]; exact fun z => nomatch z)
    -- if len(self.rows[place]) > 0
    obtain ⟨ts, g1, g2⟩ := HA2.row i hi
    have g2 : DpAll K _ ts ((st.rows i).map encRow) := g2
    have hll := DpAll.len g2
    rw [List.length_map] at hll
    refine ⟨_, rfl, p, D, A'.dx, _, _, rfl, HA2.ob, T.cl, T.nR, hf_rows A', _, rfl, A'.rw, _, _, _, rfl, rfl, SqL.of HA2.rows, at_of (j := i) rfl (get_range hi), A'.ra i, _, rfl, .inl (SqL.of g1), _, _, rfl, rfl, _, rfl, ?_⟩
    rw [hll]
    refine ite2 (fun hlt => ?_) (fun hno => ?_)
    · have hlt : (0 : Int) < ((st.rows i).length : Int) := of_decide_eq_true hlt
      obtain ⟨row, hrow⟩ : ∃ row, (st.rows i).getLast? = some row := by
        cases e : (st.rows i).getLast? with
        | none =>
          rw [List.getLast?_eq_none_iff] at e
          rw [e] at hlt
          exact absurd hlt (by decide)
        | some row => exact ⟨row, rfl⟩
      have hts : ts ≠ [] := fun z => by
        rw [z] at hll
        simp at hll
        omega
      have hsplit : ts = ts.dropLast ++ [ts.getLast hts] := (List.dropLast_concat_getLast hts).symm
      have hix : ts[(st.rows i).length - 1]? = some (ts.getLast hts) := by
        rw [← hll, ← List.getLast?_eq_getElem?, List.getLast?_eq_some_getLast hts]
      obtain ⟨d, hd1, hd2⟩ := DpAll.getV g2 hix
      rw [List.getElem?_map, ← List.getLast?_eq_getElem?, hrow] at hd1
      cases hd1
      obtain ⟨t, xs, et, ht, hxs⟩ := Dp.tupE hd2
      obtain ⟨v1, r1, e1, d1, hxs⟩ := DpAll.consE hxs
      have hv1 := Dp.strE d1
      subst e1
      subst hv1
      refine ⟨_, rfl, p, D, A'.dx, _, _, rfl, HA2.ob, T.cl, T.nR, hf_rows A', _, rfl, A'.rw, _, _, _, rfl, rfl, SqL.of HA2.rows, at_of (j := i) rfl (get_range hi), _, rfl, A'.ra i, _, _, _, rfl, rfl, SqL.of g1, ?_, t, _, _, _, et, rfl, SqT.le ht, at_of (j := 0) rfl rfl, ?_⟩
      · have := atI_last ts.dropLast (ts.getLast hts)
        rwa [← hsplit] at this
      refine ⟨_, rfl, rfl, _, rfl, ?_⟩
      have hmem : row ∈ st.rows i := List.mem_of_getLast? hrow
      refine ite2 (fun hne => ?_) (fun heq => ?_)
      · have hne : row.room ≠ hallS := fun z => by rw [z] at hne; simp at hne
        have hrL : row.room ∈ L := (HA1.rl i row hmem).resolve_left hne
        obtain ⟨kvs, hk1, hk2, hk3, hk4⟩ := HA2.ins
        have hkl := nodup_inr_len hk3 hk4
        rw [List.length_map] at hkl
        have h60 := hC.len
        refine ⟨_, rfl, p, D, A'.dx, _, _, rfl, HA2.ob, T.cl, T.nI, hf_inside A', _, rfl, A'.iq, _, rfl, DPut.k (k := .inr row.room) hk1 (small1000 (by omega)), ?_⟩
        have HA3 := HA2.setIns hrL (x := none) hk1
        refine k _ ⟨A', ρ, ?_, frame_put fr2 (by rw [HA2.riq]; exact fun z => nomatch z)⟩
        have e : st.leave C i = { st with due := fset st.due i none, occ := fset st.occ row.room none } := by
          unfold HS.leave
          simp only [hrow, if_neg (show ¬ row.room = C.hall by rw [hC.hall]; exact hne)]
        rw [e]
        exact HA3
      · have heq : row.room = hallS := by simpa using heq
        refine k _ ⟨A', ρ, ?_, fr2⟩
        have e : st.leave C i = { st with due := fset st.due i none } := by
          unfold HS.leave
          simp only [hrow, if_pos (show row.room = C.hall by rw [hC.hall]; exact heq)]
        rw [e]
        exact HA2
    · have h0 : st.rows i = [] := by
        cases e : st.rows i with
        | nil => rfl
        | cons x xs =>
          rw [e] at hno
          exact absurd (decide_eq_true (by rw [List.length_cons]; omega)) hno
      refine k _ ⟨A', ρ, ?_, fr2⟩
      have e : st.leave C i = { st with due := fset st.due i none } := by
        unfold HS.leave
        rw [h0]
        rfl
      rw [e]
      exact HA2

abbrev nEnter : List Str := ["self", "place", "come", "now", "room", "length"]
theorem sc_enter : FnScope nEnter ["self", "place", "come", "now"] (fnScope sEnter) := fnScope_by (by decide +kernel)
theorem ok_enter (B : Blt mg) {D : Addr} (T : HTxt K mg D) {f : Addr} {fd : FuncData} (F : C8.Fun K "enter" "House.enter" sEnter f fd) (me : Meth K D "enter" f) (b : Binds K fd ["self", "place", "come", "now"] []) : Met P w K mg base 1 D "enter" (spEnter K D) [] := by
  have g_HALL := T.hall
  refine met0 T.cl me F b sc_enter (fun vs H Q E h => ?_) (fun cdv A outer s H vs Q E hr h => ?_)
  · obtain ⟨p, i, come, now, C, L, st, H0, r, l, rfl, _⟩ := h
    rfl
  · obtain ⟨p, i, come, now, C, L, st, H0, r, l, rfl, ⟨A', ρ, HA1, fr⟩, hC, hi, hrl, k⟩ := h
    have hu := hu_of hr
    have ee : st.enter C i come now = { st with rows := fset st.rows i (st.rows i ++ [⟨r, come, now, now + l⟩]), due := fset st.due i (some (now + l)), occ := if r = C.hall then st.occ else fset st.occ r (some i) } := by
      unfold HS.enter
      rw [hrl]
    refine ⟨_, pss_cons (ps_asg (pe_ix ix_list (pe_ix ix_tup (pe_ix ix_list (pe_fld (pv 0) rfl) (pv 1) (fun _ _ => rfl)) pe_int (fun _ _ => rfl)) (pe_callB call_len_seq (by rfl) B.len (by decide +kernel) (pa_cons (pe_ix ix_list (pe_fld (pv 0) rfl) (pv 1) (fun _ _ => rfl)) pa_nil)) (fun _ _ => rfl)) (pg_tup rfl (pgs_cons (pg_name (i := 4) sc_enter.nd rfl (Or.inl rfl)) (pgs_cons (pg_name (i := 5) sc_enter.nd rfl (Or.inl rfl)) pgs_nil))))
      (pss_cons (ps_expr (pe_bm PySem.F.plainAttrs_list PySem.F.slot_list_append PySem.F.type_list_append mt_append (pe_ix ix_list (pe_fld (pv 0) rfl) (pv 1) (fun _ _ => rfl)) (pa_cons (pe_tup (pa_cons (pv 4) (pa_cons (pv 2) (pa_cons (pv 3) (pa_cons (pe_op op_add (pv 3) (pv 5)) pa_nil))))) pa_nil)))
      (pss_cons (ps_asg (pe_op op_add (pv 3) (pv 5)) (pg_sub (pe_fld (pv 0) rfl) (pv 1) set_list))
      (pss_one (ps_if (pt_cmpR op_ne (pv 4) (pe_gc (by rfl) g_HALL) (nomark _)) (pss_one (ps_dput hu (pe_fld (pv 0) rfl) (pv 4) (pv 1) rfl)) pss_nil)))), ?_⟩
    obtain ⟨pl, xs, epl, hx, hD⟩ := Dp.lstE HA1.plans
    cases epl
    obtain ⟨v, hv, hd⟩ := DpAll.get hD (i := i) (d := encP C i) (by simp [hi])
    obtain ⟨tp, ys, rfl, ht, hys⟩ := Dp.tupE hd
    obtain ⟨v1, r1, rfl, _, hys⟩ := DpAll.consE hys
    obtain ⟨v2, r2, rfl, d2, hys⟩ := DpAll.consE hys
    rw [DpAll.nilE hys] at ht
    obtain ⟨sl, zs, rfl, hz, hzs⟩ := Dp.lstE d2
    obtain ⟨u, hu1, hu2⟩ := DpAll.get hzs (i := (st.rows i).length) (d := encRL (r, l)) (by rw [List.getElem?_map, hrl]; rfl)
    obtain ⟨tu, ws, rfl, htu, hws⟩ := Dp.tupE hu2
    obtain ⟨w1, q1, rfl, e1, hws⟩ := DpAll.consE hws
    obtain ⟨w2, q2, rfl, e2, hws⟩ := DpAll.consE hws
    rw [Dp.strE e1, Dp.intE e2, DpAll.nilE hws] at htu
    obtain ⟨ts, g1, g2⟩ := HA1.row i hi
    have hll := DpAll.len g2
    rw [List.length_map] at hll
    have h6 := hC.ps i
    have hlt := (List.getElem?_eq_some_iff.mp hrl).1
    -- room, length = self.plans[place][1][len(self.rows[place])]
    refine ⟨_, rfl, p, D, A'.dx, _, _, rfl, HA1.ob, T.cl, T.nP, hf_plans A', _, rfl, A'.pl, _, _, _, rfl, rfl, SqL.le hx, at_of (j := i) rfl hv, tp, _, _, _, rfl, rfl, SqT.le ht, at_of (j := 1) rfl rfl, ?_⟩
    refine ⟨_, rfl, p, D, A'.dx, _, _, rfl, HA1.ob, T.cl, T.nR, hf_rows A', _, rfl, A'.rw, _, _, _, rfl, rfl, SqL.of HA1.rows, at_of (j := i) rfl (get_range hi), A'.ra i, _, rfl, .inl (SqL.of g1), sl, _, _, _, rfl, rfl, SqL.le hz, at_of (j := (st.rows i).length) (by rw [hll]) hu1, ?_⟩
    refine ⟨tu, _, rfl, SqT.le htu, rfl, _, _, rfl, _, _, rfl, rfl, ?_⟩
    -- self.rows[place].append((room, come, now, now + length))
    refine ⟨_, rfl, p, D, A'.dx, _, _, rfl, HA1.ob, T.cl, T.nR, hf_rows A', _, rfl, A'.rw, _, _, _, rfl, rfl, SqL.of HA1.rows, at_of (j := i) rfl (get_range hi), .inl ⟨rfl, _, SqL.of g1⟩, _, rfl, _, rfl, _, rfl, _, rfl, _, rfl, _, _, rfl, rfl, (by show 4 ≤ sizeLine; decide), fun t ht' => ?_⟩
    have HA2 := HA1.new (o := .tup [.str r, .int come, .int now, .int (now + l)]) ht'
    have fr2 := frame_new (o := .tup [.str r, .int come, .int now, .int (now + l)]) fr ht'
    have ng1 := Same.new (o := .tup [.str r, .int come, .int now, .int (now + l)]) ht' _ _ g1
    refine ⟨A'.ra i, _, _, rfl, rfl, ng1, small1000 (by omega), ?_⟩
    have hroom : r = hallS ∨ r ∈ L := hC.rooms i r l (List.mem_of_getElem? hrl)
    have HA3 := HA2.addRow hi (row := ⟨r, come, now, now + l⟩) ng1 upd_same (HA1.fresh ht') hroom
    have fr3 := frame_put (o := .lst (ts ++ [.ref t])) fr2 (show ρ (A'.ra i) ≠ none by rw [HA1.rra i hi]; exact fun z => nomatch z)
    -- self.due[place] = now + length
    refine ⟨_, rfl, _, rfl, _, _, rfl, rfl, _, rfl, p, D, A'.dx, _, _, rfl, HA3.ob, T.cl, T.nD, hf_due A', _, rfl, A'.du, _, _, i, rfl, rfl, HA3.due, (by rw [List.length_map, List.length_range]; exact ixN_nat hi), ?_⟩
    have HA4 := HA3.setDue (i := i) (x := some (now + l))
    have fr4 := frame_put (o := .lst (((List.range C.n).map fun i => optI (st.due i)).set i (optI (some (now + l))))) fr3 (show ρ A'.du ≠ none by rw [HA1.rdu]; exact fun z => nomatch z)
    -- if room != HALL: self.inside[room] = place
    refine ⟨_, rfl, rfl, _, rfl, ?_⟩
    refine ite2 (fun hne => ?_) (fun heq => ?_)
    · have hne : r ≠ hallS := fun z => by rw [z] at hne; simp at hne
      obtain ⟨kvs, hk1, hk2, hk3, hk4⟩ := HA4.ins
      have hkl := nodup_inr_len hk3 hk4
      rw [List.length_map] at hkl
      have h60 := hC.len
      refine ⟨_, rfl, _, rfl, p, D, A'.dx, _, _, rfl, HA4.ob, T.cl, T.nI, hf_inside A', _, rfl, A'.iq, _, rfl, DPut.k (k := .inr r) hk1 (small1000 (by omega)), ?_⟩
      have HA5 := HA4.setIns (hroom.resolve_left hne) (x := some i) hk1
      refine k _ ⟨A', ρ, ?_, frame_put fr4 (by rw [HA4.riq]; exact fun z => nomatch z)⟩
      rw [ee, if_neg (show ¬ r = C.hall by rw [hC.hall]; exact hne)]
      exact HA5
    · have heq : r = hallS := by simpa using heq
      refine k _ ⟨A', ρ, ?_, fr4⟩
      rw [ee, if_pos (show r = C.hall by rw [hC.hall]; exact heq)]
      exact HA4

abbrev nCome : List Str := ["self", "place", "now", "step", "room"]
theorem sc_come : FnScope nCome ["self", "place", "now"] (fnScope sCome) := fnScope_by (by decide +kernel)
theorem ok_come (B : Blt mg) {D : Addr} (T : HTxt K mg D) (m_enter : Met P w K mg base 1 D "enter" (spEnter K D) []) {f : Addr} {fd : FuncData} (F : C8.Fun K "come" "House.come" sCome f fd) (me : Meth K D "come" f) (b : Binds K fd ["self", "place", "now"] []) : Met P w K mg base 2 D "come" (spCome K D) [] := by
  have g_HALL := T.hall
  refine met0 T.cl me F b sc_come (fun vs H Q E h => ?_) (fun cdv A outer s H vs Q E hr h => ?_)
  · obtain ⟨p, i, now, C, L, st, H0, rfl, _⟩ := h
    rfl
  · obtain ⟨p, i, now, C, L, st, H0, rfl, ⟨A', ρ, HA1, fr⟩, hC, hi, hq14, k⟩ := h
    have hu := hu_of hr
    refine ⟨_, pss_cons (ps_set (i := 3) sc_come.nd rfl (Or.inl rfl) (pe_callB call_len_seq (by rfl) B.len (by decide +kernel) (pa_cons (pe_ix ix_list (pe_fld (pv 0) rfl) (pv 1) (fun _ _ => rfl)) pa_nil)))
      (pss_one (ps_if (pt_cmpR op_lt (pv 3) (pe_callB call_len_seq (by rfl) B.len (by decide +kernel) (pa_cons (pe_ix ix_tup (pe_ix ix_list (pe_fld (pv 0) rfl) (pv 1) (fun _ _ => rfl)) pe_int (fun _ _ => rfl)) pa_nil)) (nomark _)) (pss_cons (ps_set (i := 4) sc_come.nd rfl (Or.inl rfl) (pe_ix ix_tup (pe_ix ix_list (pe_ix ix_tup (pe_ix ix_list (pe_fld (pv 0) rfl) (pv 1) (fun _ _ => rfl)) pe_int (fun _ _ => rfl)) (pv 3) (fun _ _ => rfl)) pe_int (fun _ _ => rfl)))
      (pss_one (ps_if (pt_cmpR op_eq (pv 4) (pe_gc (by rfl) g_HALL) (nomark _)) (pss_one (ps_expr (pe_mt m_enter hr (by decide) (pv 0) (pa_cons (pv 1) (pa_cons (pv 2) (pa_cons (pv 2) pa_nil)))))) (pss_one (ps_expr (pe_bm PySem.F.plainAttrs_list PySem.F.slot_list_append PySem.F.type_list_append mt_append (pe_dsetd (pe_fld (pv 0) rfl) (pv 4) (pe_lst pa_nil) ⟨rfl, rfl, rfl, rfl⟩) (pa_cons (pe_tup (pa_cons (pv 2) (pa_cons (pv 1) pa_nil))) pa_nil))))))) pss_nil)), ?_⟩
    obtain ⟨pl, xs, epl, hx, hD⟩ := Dp.lstE HA1.plans
    cases epl
    obtain ⟨v, hv, hd⟩ := DpAll.get hD (i := i) (d := encP C i) (by simp [hi])
    obtain ⟨tp, ys, rfl, ht, hys⟩ := Dp.tupE hd
    obtain ⟨v1, r1, rfl, _, hys⟩ := DpAll.consE hys
    obtain ⟨v2, r2, rfl, d2, hys⟩ := DpAll.consE hys
    rw [DpAll.nilE hys] at ht
    obtain ⟨sl, zs, rfl, hz, hzs⟩ := Dp.lstE d2
    have hzl := DpAll.len hzs
    rw [List.length_map] at hzl
    obtain ⟨ts, g1, g2⟩ := HA1.row i hi
    have hll := DpAll.len g2
    rw [List.length_map] at hll
    -- step = len(self.rows[place])
    refine ⟨_, rfl, p, D, A'.dx, _, _, rfl, HA1.ob, T.cl, T.nR, hf_rows A', _, rfl, A'.rw, _, _, _, rfl, rfl, SqL.of HA1.rows, at_of (j := i) rfl (get_range hi), A'.ra i, _, rfl, .inl (SqL.of g1), ?_⟩
    rw [hll]
    -- if step < len(self.plans[place][1])
    refine ⟨_, rfl, _, rfl, p, D, A'.dx, _, _, rfl, HA1.ob, T.cl, T.nP, hf_plans A', _, rfl, A'.pl, _, _, _, rfl, rfl, SqL.le hx, at_of (j := i) rfl hv, tp, _, _, _, rfl, rfl, SqT.le ht, at_of (j := 1) rfl rfl, sl, _, rfl, .inl (SqL.le hz), _, _, rfl, rfl, _, rfl, ?_⟩
    rw [hzl]
    refine ite2 (fun hlt => ?_) (fun hno => ?_)
    · have hlt : ((st.rows i).length : Int) < ((C.ps i).length : Int) := of_decide_eq_true hlt
      obtain ⟨⟨r, l⟩, hrl⟩ : ∃ rl, (C.ps i)[(st.rows i).length]? = some rl := ⟨_, List.getElem?_eq_getElem (show (st.rows i).length < (C.ps i).length by omega)⟩
      obtain ⟨u, hu1, hu2⟩ := DpAll.get hzs (i := (st.rows i).length) (d := encRL (r, l)) (by rw [List.getElem?_map, hrl]; rfl)
      obtain ⟨tu, ws, rfl, htu, hws⟩ := Dp.tupE hu2
      obtain ⟨w1, q1, rfl, e1, hws⟩ := DpAll.consE hws
      rw [Dp.strE e1] at htu
      have ec : HS.come C now st i = if r = C.hall then st.enter C i now now else st.join r (now, i) := by
        unfold HS.come
        rw [hrl]
      have hroom : r = hallS ∨ r ∈ L := hC.rooms i r l (List.mem_of_getElem? hrl)
      -- room = self.plans[place][1][step][0]
      refine ⟨_, rfl, p, D, A'.dx, _, _, rfl, HA1.ob, T.cl, T.nP, hf_plans A', _, rfl, A'.pl, _, _, _, rfl, rfl, SqL.le hx, at_of (j := i) rfl hv, tp, _, _, _, rfl, rfl, SqT.le ht, at_of (j := 1) rfl rfl, _, rfl, sl, _, _, _, rfl, rfl, SqL.le hz, at_of (j := (st.rows i).length) rfl hu1, tu, _, _, _, rfl, rfl, SqT.le htu, at_of (j := 0) rfl rfl, ?_⟩
      refine ⟨_, rfl, rfl, _, rfl, ?_⟩
      refine ite2 (fun heq => ?_) (fun hne => ?_)
      · have heq : r = hallS := by simpa using heq
        refine ⟨_, rfl, p, A'.dx, _, rfl, HA1.ob, hf_no _ (by decide +kernel) (by decide +kernel) (by decide +kernel) (by decide +kernel) (by decide +kernel), _, rfl, _, rfl, _, rfl, p, i, now, now, C, L, st, H0, r, l, rfl, ⟨A', ρ, HA1, fr⟩, hC, hi, hrl, fun H' h' => ?_⟩
        refine k H' ?_
        rw [ec, if_pos (show r = C.hall by rw [hC.hall]; exact heq)]
        exact h'
      · have hne : r ≠ hallS := fun z => by rw [z] at hne; simp at hne
        have hrL := hroom.resolve_left hne
        rw [ec, if_neg (show ¬ r = C.hall by rw [hC.hall]; exact hne)] at k
        -- self.queues.setdefault(room, [])
        refine ⟨_, rfl, p, D, A'.dx, _, _, rfl, HA1.ob, T.cl, T.nQ, hf_queues A', A'.qq, rfl, .inl ⟨_, .inl HA1.qs⟩, _, rfl, (by show 0 ≤ sizeLine; decide), fun a ha => ⟨_, .inr r, Same.new ha _ _ HA1.qs, rfl, ?_, fun v hv' => ?_, fun hv' => ?_⟩⟩
        · have h60 := hC.len
          have := nodup_len HA1.kno HA1.kL
          exact small1000 (by rw [List.length_map]; omega)
        · rw [valV_keys] at hv'
          by_cases hin : r ∈ st.keys
          · rw [if_pos hin] at hv'
            cases hv'
            have HA2 := HA1.new (o := .lst []) ha
            have fr2 := frame_new (o := .lst []) fr ha
            obtain ⟨us, q1, q2⟩ := HA2.que r hin
            have hql := DpAll.len q2
            rw [List.length_map] at hql
            have h14 := hq14 r
            have hql : us.length = (st.q r).length := hql
            refine ⟨.inl ⟨rfl, _, SqL.of q1⟩, _, rfl, _, rfl, (by show 2 ≤ sizeLine; decide), fun t ht' => ⟨A'.qa r, us, .ref t, rfl, rfl, Same.new ht' _ _ q1, small1000 (by omega), ?_⟩⟩
            have HA3 := HA2.addQue hin (c := now) (i := i) ht' q1
            refine k _ ⟨A', ρ, ?_, frame_put (frame_new fr2 ht') (by rw [HA1.rqa r hin]; exact fun z => nomatch z)⟩
            have e : st.join r (now, i) = { st with q := fset st.q r (st.q r ++ [(now, i)]) } := by
              unfold HS.join
              rw [if_pos hin]
            rw [e]
            exact HA3
          · rw [if_neg hin] at hv'
            cases hv'
        · rw [valV_keys] at hv'
          have hin : r ∉ st.keys := fun z => by
            rw [if_pos z] at hv'
            cases hv'
          have hρa := HA1.fresh ha
          have HA2 := HA1.new (o := .lst []) ha
          have fr2 := frame_new (o := .lst []) fr ha
          have sub : Same (R (fun b => ρ b = none) H) (R (fun b => fset ρ a (some (Role.que r)) b = none) (upd H a (.lst []))) := R_same fun b o q e => by
            have nb := ne_of_none e ha
            exact ⟨by rw [fset_ne nb]; exact q, by rw [upd_ne nb]; exact e⟩
          have HA3 := HA2.newQue hin hrL (a := a) upd_same hρa .nil (Dp.same sub HA1.plans)
            (fun j hj => by
              obtain ⟨ts', h1, h2⟩ := HA1.row j hj
              exact ⟨ts', Same.new ha _ _ h1, DpAll.same sub h2⟩)
            (fun r' hr' => by
              obtain ⟨ts', h1, h2⟩ := HA1.que r' hr'
              exact ⟨ts', Same.new ha _ _ h1, DpAll.same sub h2⟩)
          have hin2 : r ∈ st.keys ++ [r] := by simp
          obtain ⟨us, q1, q2⟩ := HA3.que r hin2
          have eqa : (fset A'.qa r a) r = a := fset_eq
          have q1 : _ = some (HO.lst us) := q1
          simp only [eqa] at q1
          have q2 : DpAll K _ us ((st.q r).map encE) := q2
          rw [HA1.qno r hin] at q2
          have eu := DpAll.nilE q2
          subst eu
          refine ⟨.inl ⟨rfl, _, SqL.of q1⟩, _, rfl, _, rfl, (by show 2 ≤ sizeLine; decide), fun t ht' => ⟨a, [], .ref t, rfl, rfl, Same.new ht' _ _ q1, (by show 0 < sizeLine; decide), ?_⟩⟩
          have HA4 := HA3.addQue hin2 (c := now) (i := i) ht' (by simp only [eqa]; exact q1)
          simp only [eqa] at HA4
          refine k _ ⟨{ A' with qa := fset A'.qa r a }, fset ρ a (some (Role.que r)), ?_, fun b o e => ?_⟩
          · have e : st.join r (now, i) = { st with keys := st.keys ++ [r], q := fset st.q r (st.q r ++ [(now, i)]) } := by
              unfold HS.join
              rw [if_neg hin]
            rw [e]
            exact HA4
          · obtain ⟨f1, f2⟩ := fr b o e
            have nba : b ≠ a := ne_of_none f2 ha
            have nbq : b ≠ A'.qq := fun z => by rw [z, HA1.rqq] at f1; cases f1
            have f3 : (upd (upd H a (.lst [])) A'.qq (.dK (putK (st.keys.map fun r => (Sum.inr r, .ref (A'.qa r))) (Sum.inr r) (.ref a)))) b = some o := by
              rw [upd_ne nbq, upd_ne nba]
              exact f2
            refine ⟨by rw [fset_ne nba]; exact f1, ?_⟩
            show upd (upd _ t _) a _ b = some o
            rw [upd_ne nba, upd_ne (ne_of_none f3 ht')]
            exact f3
    · refine k _ ⟨A', ρ, ?_, fr⟩
      have e : HS.come C now st i = st := by
        unfold HS.come
        rw [List.getElem?_eq_none_iff.mpr (show (C.ps i).length ≤ (st.rows i).length from by
          have : ¬ ((st.rows i).length : Int) < ((C.ps i).length : Int) := fun z => hno (decide_eq_true z)
          omega)]
      rw [e]
      exact HA1
end
end H5
/-! The house's moment: happen. -/
namespace H5
open PySem L2 SX K51
open C8 (Cal Met Mak Def cal0 met0 mak0 pe_c pe_mk pe_mt pe_mt0 fnScope_by scC pe_gc InsC call_isC pss_cut tCut fnScope fnArgs fnBody)

def spHappen (K : PySem.W.Frag) (D : Addr) : Sp := fun vs H Q _ => ∃ (p : Addr) (now T : Int) (C : Cfg Str) (L : List Str) (st : HS Str) (H0 : Hp), vs = [.ref p, .int now] ∧ HouseIn K D C L H0 H p st ∧ CfgL C L ∧
  K51.Inv C st [] [] T ∧ Calm st ∧ T < now ∧ (∀ p d, st.due p = some d → now ≤ d) ∧ ∀ (H' : Hp) (order : List Str), (∀ r, r ∈ (st.came C now).keys → r ∈ order) → HouseIn K D C L H0 H' p (st.happen C now order) → Q .non H'

theorem no_meth (A : HA) {m : Str} (h : (decide (m = ("queues" : Str)) || decide (m = ("inside" : Str)) || decide (m = ("due" : Str)) || decide (m = ("rows" : Str)) || decide (m = ("plans" : Str))) = false) : (hf A).lookup m = none := by
  simp only [Bool.or_eq_false_iff, decide_eq_false_iff_not] at h
  exact hf_no A h.1.1.1.1 h.1.1.1.2 h.1.1.2 h.1.2 h.2
/-- the comers among the first i groups -/
def cm (st : HS Str) (now : Int) (i : Nat) : List Nat := (List.range i).filter fun p => decide (st.due p = some now)
theorem cm_succ (st : HS Str) (now : Int) (i : Nat) : cm st now (i + 1) = cm st now i ++ if st.due i = some now then [i] else [] := by
  unfold cm
  rw [List.range_succ, List.filter_append]
  refine congrArg _ ?_
  by_cases h : st.due i = some now
  · simp [h]
  · simp [h]
theorem cm_len (st : HS Str) (now : Int) (i : Nat) : (cm st now i).length ≤ i := by
  unfold cm
  exact Nat.le_trans (List.length_filter_le _ _) (by rw [List.length_range]; exact Nat.le_refl _)
section
variable {P : Program} {w : World} {K : PySem.W.Frag} {mg : Str → Option Value} {base : Heap}
abbrev nHappen : List Str := ["self", "now", "comers", "place", "room", "come"]
theorem sc_happen : FnScope nHappen ["self", "now"] (fnScope sHappen) := fnScope_by (by decide +kernel)
theorem ok_happen (B : Blt mg) {D : Addr} (T : HTxt K mg D) (m_leave : Met P w K mg base 1 D "leave" (spLeave K D) []) (m_come : Met P w K mg base 2 D "come" (spCome K D) []) (m_enter : Met P w K mg base 1 D "enter" (spEnter K D) [])
    {f : Addr} {fd : FuncData} (F : C8.Fun K "happen" "House.happen" sHappen f fd) (me : Meth K D "happen" f) (b : Binds K fd ["self", "now"] []) : Met P w K mg base 3 D "happen" (spHappen K D) [] := by
  refine met0 T.cl me F b sc_happen (fun vs H Q E h => ?_) (fun cdv A outer s H vs Q E hr h => ?_)
  · obtain ⟨p, now, T', C, L, st, H0, rfl, _⟩ := h
    rfl
  · obtain ⟨p, now, T', C, L, st, H0, rfl, ⟨A', ρ, HA1, fr⟩, hC, hI, hcalm, hT, hmin, k⟩ := h
    have hu := hu_of hr
    have h14 := hC.n
    refine ⟨_, pss_cons (ps_setLc (i := 2) (own := [("place", 3)]) (tt := tTest (tOp rEq (tOp (rIxL K) (tFld K (tVar 0) "due") (tVar 3)) (tVar 1))) rfl sc_happen.nd rfl rfl (sw_true rfl rfl rfl (by decide +kernel)) (pi_range1 (by rfl) B.range (pa_cons (pe_callB call_len_seq (by rfl) B.len (by decide +kernel) (pa_cons (pe_fld (pv 0) rfl) pa_nil)) pa_nil)) (blkOk_by (N := nHappen) (sc := fnScope sHappen) (by decide +kernel)) (fun _ _ _ _ _ => (pg_name (i := 3) sc_happen.nd rfl (Or.inl rfl))) (fun _ _ _ _ _ => (pts_one (pt_cmpR op_eq (pe_ix ix_list (pe_fld (pv 0) rfl) (pv 3) (fun _ _ => rfl)) (pv 1) (nomark _)))) (fun _ _ _ _ _ => (pv 3)))
      (pss_cons (ps_for PassesOwn.never rfl (pi_list (pv 2)) (pg_name (i := 3) sc_happen.nd rfl (Or.inl rfl)) (pss_one (ps_expr (pe_mt m_leave hr (by decide) (pv 0) (pa_cons (pv 3) pa_nil)))))
      (pss_cons (ps_for PassesOwn.never rfl (pi_list (pv 2)) (pg_name (i := 3) sc_happen.nd rfl (Or.inl rfl)) (pss_one (ps_expr (pe_mt m_come hr (by decide) (pv 0) (pa_cons (pv 3) (pa_cons (pv 1) pa_nil))))))
      (pss_one (ps_for PassesOwn.never rfl (pi_list (pe_callB (call_sortedD rfl) (by rfl) B.sorted (by decide +kernel) (pa_cons (pe_fld (pv 0) rfl) pa_nil))) (pg_name (i := 4) sc_happen.nd rfl (Or.inl rfl)) (pss_one (ps_if (PW.pt (pw_and (pt_cmpR op_gt (pe_callB call_len_seq (by rfl) B.len (by decide +kernel) (pa_cons (pe_dget hu (pe_fld (pv 0) rfl) (pv 4) (fun _ _ => rfl)) pa_nil)) pe_int (nomark _)) (pw_and1 (pt_cmpR op_isN (pe_dget1 hu (pe_fld (pv 0) rfl) (pv 4) ⟨rfl, rfl, rfl, rfl⟩) pe_non (nomark _))))) (pss_cons (ps_asg (pe_bm PySem.F.plainAttrs_list PySem.F.slot_list_pop PySem.F.type_list_pop mt_popAt (pe_dget hu (pe_fld (pv 0) rfl) (pv 4) (fun _ _ => rfl)) (pa_cons pe_int pa_nil)) (pg_tup rfl (pgs_cons (pg_name (i := 5) sc_happen.nd rfl (Or.inl rfl)) (pgs_cons (pg_name (i := 3) sc_happen.nd rfl (Or.inl rfl)) pgs_nil))))
      (pss_one (ps_expr (pe_mt m_enter hr (by decide) (pv 0) (pa_cons (pv 3) (pa_cons (pv 5) (pa_cons (pv 1) pa_nil))))))) pss_nil)))))), ?_⟩
    obtain ⟨pl, xs, epl, hx, hD⟩ := Dp.lstE HA1.plans
    cases epl
    have hxl := DpAll.len hD
    rw [List.length_map, List.length_range] at hxl
    -- comers
    refine ⟨_, rfl, p, D, A'.dx, _, _, rfl, HA1.ob, T.cl, T.nP, hf_plans A', A'.pl, _, rfl, .inl (SqL.le hx), _, rfl, by omega, by omega, fun Dl hDl => ?_⟩
    have hxn : ((xs.length : Nat) : Int).toNat = C.n := by omega
    rw [hxn]
    refine lc_range (lo := 0) (n := C.n) (fun i H1 => H1 = upd H Dl (.lst ((cm st now i).map fun j => V.int (j : Nat)))) rfl ?_ ?_
    · rintro i H1 hi rfl
      have HA2 := HA1.new (o := .lst ((cm st now i).map fun j => V.int (j : Nat))) hDl
      have hcl := cm_len st now i
      refine ⟨rfl, _, rfl, p, D, A'.dx, _, _, rfl, HA2.ob, T.cl, T.nD, hf_due A', _, rfl, A'.du, _, _, _, rfl, rfl, SqL.of HA2.due, at_of (j := i) (by omega) (get_range hi), _, rfl, (by cases st.due i <;> rfl), _, rfl, ?_⟩
      refine ite2 (fun hd => ?_) (fun hd => ?_)
      · have hd : st.due i = some now := by
          have := of_decide_eq_true hd
          cases e : st.due i with
          | none =>
            rw [e] at this
            cases this
          | some d =>
            rw [e] at this
            cases this
            rfl
        refine ⟨_, rfl, _, upd_same, small1000 (by rw [List.length_map]; omega), ?_⟩
        rw [upd_upd, cm_succ, if_pos hd, List.map_append]
        have e : V.int (0 + (i : Int)) = V.int ((i : Nat) : Int) := by rw [Int.zero_add]
        rw [e]
        rfl
      · have hd : ¬ st.due i = some now := fun z => hd (by rw [z]; exact decide_eq_true rfl)
        rw [cm_succ, if_neg hd, List.append_nil]
    · rintro H1 rfl
      have ecm : cm st now C.n = st.comers C now := rfl
      rw [ecm]
      generalize hcs : st.comers C now = cs
      have hcn : ∀ j ∈ cs, j < C.n := fun j hj => by
        rw [← hcs] at hj
        exact List.mem_range.mp (List.mem_filter.mp hj).1
      have HA2 := HA1.new (o := .lst (cs.map fun j => V.int (j : Nat))) hDl
      have fr2 := frame_new (o := .lst (cs.map fun j => V.int (j : Nat))) fr hDl
      have eDl : upd H Dl (.lst (cs.map fun j => V.int (j : Nat))) Dl = some (.lst (cs.map fun j => V.int (j : Nat))) := upd_same
      have hDb : R (fun b => ρ b = none) (upd H Dl (.lst (cs.map fun j => V.int (j : Nat)))) Dl = some (.lst (cs.map fun j => V.int (j : Nat))) := R_of (HA1.fresh hDl) eDl
      have hb0 : Same H0 (R (fun b => ρ b = none) (upd H Dl (.lst (cs.map fun j => V.int (j : Nat))))) := fun b o e => R_of (fr2 b o e).1 (fr2 b o e).2
      have hin := HA2.self
      generalize R (fun b => ρ b = none) (upd H Dl (.lst (cs.map fun j => V.int (j : Nat)))) = Hb at hDb hb0 hin
      obtain ⟨L1, F1, hs1⟩ := left_ok hC.ok hI hcalm hT hmin
      rw [hcs] at L1 F1 hs1
      -- for place in comers: self.leave(place)
      refine ⟨_, rfl, Dl, rfl, ⟨_, SqL.of eDl⟩, for_list (K := K) (a := Dl) (xs := cs.map fun j => V.int (j : Nat)) (fun i σ H3 => ∃ v : Option V, σ = [some (.ref p), some (.int now), some (.ref Dl), v, none, none] ∧ HouseIn K D C L Hb H3 p ((cs.take i).foldl (HS.leave C) st)) ⟨none, rfl, hin⟩ (fun i σ H3 _ ⟨v, _, h3⟩ => SqL.of (h3.same _ _ hDb)) ?_ ?_⟩
      · rintro i x σ H3 hxi ⟨v, rfl, h3⟩
        rw [List.getElem?_map] at hxi
        obtain ⟨j, hj, rfl⟩ := Option.map_eq_some_iff.mp hxi
        obtain ⟨A3, ρ3, a3, _⟩ := id h3
        refine ⟨_, rfl, p, A3.dx, _, rfl, a3.ob, no_meth A3 (by decide +kernel), _, rfl, p, j, C, L, _, Hb, rfl, h3, hC, hcn j (List.mem_of_getElem? hj), fun H' h' => ?_⟩
        refine ⟨_, rfl, ?_⟩
        rw [List.take_add_one, hj, List.foldl_append]
        exact h'
      · rintro σ H3 ⟨v, rfl, h3⟩
        rw [List.length_map, List.take_length] at h3
        -- for place in comers: self.come(place, now)
        refine ⟨_, rfl, Dl, rfl, ⟨_, SqL.of (h3.same _ _ hDb)⟩, for_list (K := K) (a := Dl) (xs := cs.map fun j => V.int (j : Nat)) (fun i σ H4 => ∃ v : Option V, σ = [some (.ref p), some (.int now), some (.ref Dl), v, none, none] ∧ HouseIn K D C L Hb H4 p ((cs.take i).foldl (HS.come C now) (cs.foldl (HS.leave C) st)) ∧
          K51.Inv C ((cs.take i).foldl (HS.come C now) (cs.foldl (HS.leave C) st)) [] (cs.drop i) now ∧ Fresh C ((cs.take i).foldl (HS.come C now) (cs.foldl (HS.leave C) st)) (cs.drop i) now) ⟨v, rfl, h3, L1, F1⟩ (fun i σ H4 _ ⟨v, _, h4, _⟩ => SqL.of (h4.same _ _ hDb)) ?_ ?_⟩
        · rintro i x σ H4 hxi ⟨v, rfl, h4, I4, F4⟩
          rw [List.getElem?_map] at hxi
          obtain ⟨j, hj, rfl⟩ := Option.map_eq_some_iff.mp hxi
          obtain ⟨hil, hj'⟩ := List.getElem?_eq_some_iff.mp hj
          obtain ⟨A4, ρ4, a4, _⟩ := id h4
          have hdrop : cs.drop i = j :: cs.drop (i + 1) := by rw [List.drop_eq_getElem_cons hil, hj']
          refine ⟨_, rfl, p, A4.dx, _, rfl, a4.ob, no_meth A4 (by decide +kernel), _, rfl, _, rfl, p, j, now, C, L, _, Hb, rfl, h4, hC, hcn j (List.mem_of_getElem? hj), fun r => Nat.le_trans (qlen hC.ok I4 r) h14, fun H' h' => ?_⟩
          rw [hdrop] at I4 F4
          have hpw : (j :: cs.drop (i + 1)).Pairwise (· < ·) := by
            rw [← hdrop]
            exact hs1.sublist (List.drop_sublist i cs)
          obtain ⟨I5, F5⟩ := I4.come hC.ok F4 hpw
          refine ⟨_, rfl, ?_⟩
          rw [List.take_add_one, hj, List.foldl_append]
          exact ⟨h', I5, F5⟩
        · rintro σ H4 ⟨v4, rfl, h4, I4, F4⟩
          rw [List.length_map, List.take_length] at h4 I4
          rw [List.drop_length] at I4
          have ecame : cs.foldl (HS.come C now) (cs.foldl (HS.leave C) st) = st.came C now := by
            rw [← hcs]
            rfl
          rw [ecame] at h4 I4
          obtain ⟨A4, ρ4, a4, f4⟩ := id h4
          have hkl := nodup_len a4.kno a4.kL
          have h60 := hC.len
          -- for room in sorted(self.queues)
          refine ⟨_, rfl, p, D, A4.dx, _, _, rfl, a4.ob, T.cl, T.nQ, hf_queues A4, A4.qq, _, (st.came C now).keys, rfl, .inl a4.qs, by rw [List.map_map]; rfl, by omega, fun ys q hperm _ hq => ?_⟩
          have a5 := a4.new (o := .lst (ys.map V.str)) hq
          have f5 := frame_new (o := .lst (ys.map V.str)) f4 hq
          have eq5 : upd H4 q (.lst (ys.map V.str)) q = some (.lst (ys.map V.str)) := upd_same
          have hqb : R (fun b => ρ4 b = none) (upd H4 q (.lst (ys.map V.str))) q = some (.lst (ys.map V.str)) := R_of (a4.fresh hq) eq5
          have hb5 : Same Hb (R (fun b => ρ4 b = none) (upd H4 q (.lst (ys.map V.str)))) := fun b o e => R_of (f5 b o e).1 (f5 b o e).2
          have hin5 := a5.self
          generalize R (fun b => ρ4 b = none) (upd H4 q (.lst (ys.map V.str))) = Hc at hqb hb5 hin5
          refine ⟨q, rfl, ⟨_, SqL.of eq5⟩, for_list (K := K) (a := q) (xs := ys.map V.str) (fun i σ H6 => ∃ v3 v4 v5 : Option V, σ = [some (.ref p), some (.int now), some (.ref Dl), v3, v4, v5] ∧ HouseIn K D C L Hc H6 p ((ys.take i).foldl (HS.serve C now) (st.came C now)) ∧
            K51.Inv C ((ys.take i).foldl (HS.serve C now) (st.came C now)) [] [] now ∧ ((ys.take i).foldl (HS.serve C now) (st.came C now)).keys = (st.came C now).keys) ⟨v4, none, none, rfl, hin5, I4, rfl⟩ (fun i σ H6 _ ⟨_, _, _, _, h6, _⟩ => SqL.of (h6.same _ _ hqb)) ?_ ?_⟩
          · rintro i x σ H6 hxi ⟨v3, v4, v5, rfl, h6, I6, k6⟩
            rw [List.getElem?_map] at hxi
            obtain ⟨r, hr6, rfl⟩ := Option.map_eq_some_iff.mp hxi
            have hrk : r ∈ ((ys.take i).foldl (HS.serve C now) (st.came C now)).keys := by
              rw [k6]
              exact hperm.mem_iff.mp (List.mem_of_getElem? hr6)
            have etake : (ys.take (i + 1)).foldl (HS.serve C now) (st.came C now) = HS.serve C now ((ys.take i).foldl (HS.serve C now) (st.came C now)) r := by
              rw [List.take_add_one, hr6, List.foldl_append]
              rfl
            have I7 := I6.serve hC.ok r
            have k7 := (serve_keys I6 r).trans k6
            rw [← etake] at I7 k7
            generalize hS : (ys.take i).foldl (HS.serve C now) (st.came C now) = S at h6 I6 k6 hrk etake
            obtain ⟨A6, ρ6, a6, f6⟩ := id h6
            obtain ⟨us, g1, g2⟩ := a6.que r hrk
            have hul := DpAll.len g2
            rw [List.length_map] at hul
            have hq14 := Nat.le_trans (qlen hC.ok I6 r) h14
            have hget : DGet H6 A6.qq (kV (Sum.inr r)) (some (.ref (A6.qa r))) := by
              have := DGet.k (k := Sum.inr r) a6.qs
              rw [valV_keys, if_pos hrk] at this
              exact this
            obtain ⟨kvs, hk1, hk2, hk3, hk4⟩ := a6.ins
            have stay : HS.serve C now S r = S → ∃ v3 v4 v5 : Option V, ([some (.ref p), some (.int now), some (.ref Dl), v3, some (.str r), v5] : List (Option V)) = [some (.ref p), some (.int now), some (.ref Dl), v3, v4, v5] ∧ True := fun _ => ⟨v3, _, v5, rfl, trivial⟩
            have done0 : HS.serve C now S r = S → ∃ w3 w4 w5 : Option V, ([some (.ref p), some (.int now), some (.ref Dl), v3, some (.str r), v5] : List (Option V)) = [some (.ref p), some (.int now), some (.ref Dl), w3, w4, w5] ∧ HouseIn K D C L Hc H6 p ((ys.take (i + 1)).foldl (HS.serve C now) (st.came C now)) ∧
              K51.Inv C ((ys.take (i + 1)).foldl (HS.serve C now) (st.came C now)) [] [] now ∧ ((ys.take (i + 1)).foldl (HS.serve C now) (st.came C now)).keys = (st.came C now).keys := fun e => by
              refine ⟨_, _, _, rfl, ?_, I7, k7⟩
              rw [etake, e]
              exact h6
            -- if len(self.queues[room]) > 0 and self.inside.get(room) is None
            refine ⟨_, rfl, p, D, A6.dx, _, _, rfl, a6.ob, T.cl, T.nQ, hf_queues A6, _, rfl, A6.qq, _, rfl, hget, A6.qa r, _, rfl, .inl (SqL.of g1), _, _, rfl, rfl, _, rfl, ?_⟩
            rw [hul]
            refine ite2 (fun hpos => ?_) (fun hno => iteF (done0 ?_))
            · have hpos : (0 : Int) < ((S.q r).length : Int) := of_decide_eq_true hpos
              refine ⟨_, rfl, p, D, A6.dx, _, _, rfl, a6.ob, T.cl, T.nI, hf_inside A6, A6.iq, rfl, .inl ⟨_, .inl hk1⟩, _, rfl, _, DGet.k (k := Sum.inr r) hk1, rfl, _, rfl, ?_⟩
              rw [hk2 r]
              refine ite2 (fun hnone => ?_) (fun hsome => done0 ?_)
              · have hocc : S.occ r = none := by
                  have := of_decide_eq_true hnone
                  cases e : S.occ r with
                  | none => rfl
                  | some z =>
                    rw [e] at this
                    cases this
                cases hqr : S.q r with
                | nil =>
                  rw [hqr] at hpos
                  exact absurd hpos (by decide)
                | cons e rest =>
                  obtain ⟨c, j⟩ := e
                  rw [hqr] at g2
                  obtain ⟨u, us', rfl, d1, d2⟩ := DpAll.consE g2
                  obtain ⟨t, zs, rfl, ht, hzs⟩ := Dp.tupE d1
                  obtain ⟨z1, q1, rfl, e1, hzs⟩ := DpAll.consE hzs
                  obtain ⟨z2, q2, rfl, e2, hzs⟩ := DpAll.consE hzs
                  rw [Dp.intE e1, Dp.intE e2, DpAll.nilE hzs] at ht
                  obtain ⟨_, _, _, _, _, l, hrl⟩ := I6.que r c j (by rw [hqr]; exact List.mem_cons_self)
                  have hjn : j < C.n := by
                    rcases Nat.lt_or_ge j C.n with q | q
                    · exact q
                    · rw [hC.ok.out j q] at hrl
                      simp at hrl
                  -- come, place = self.queues[room].pop(0)
                  refine ⟨_, rfl, p, D, A6.dx, _, _, rfl, a6.ob, T.cl, T.nQ, hf_queues A6, _, rfl, A6.qq, _, rfl, hget, .inl ⟨rfl, _, SqL.of g1⟩, A6.qa r, _, 0, 0, _, rfl, rfl, g1, by decide, by decide, by simp [seqIndex?], rfl, ?_⟩
                  have a7 := a6.setQue hrk (us := us') (es := rest) d2
                  have f7 := frame_put (o := .lst us') f6 (show ρ6 (A6.qa r) ≠ none by rw [a6.rqa r hrk]; exact fun z => nomatch z)
                  have h7 : HouseIn K D C L Hc (upd H6 (A6.qa r) (.lst us')) p { S with q := fset S.q r rest } := ⟨A6, ρ6, a7, f7⟩
                  have ht7 : SqT K (upd H6 (A6.qa r) (.lst us')) t [.int c, .int (j : Nat)] := SqT.le (sqT_same (data_put (by rw [a6.rqa r hrk]; exact fun z => nomatch z)) ht)
                  refine ⟨t, _, rfl, ht7, rfl, _, _, rfl, _, _, rfl, rfl, ?_⟩
                  -- self.enter(place, come, now)
                  refine ⟨_, rfl, p, A6.dx, _, rfl, a7.ob, no_meth A6 (by decide +kernel), _, rfl, _, rfl, _, rfl, p, j, c, now, C, L, _, Hc, r, l, rfl, h7, hC, hjn, hrl, fun H' h' => ?_⟩
                  refine ⟨_, _, _, rfl, ?_, I7, k7⟩
                  rw [etake]
                  have e : HS.serve C now S r = HS.enter C { S with q := fset S.q r rest } j c now := by
                    unfold HS.serve
                    rw [hqr]
                    simp only [if_pos hocc]
                  rw [e]
                  exact h'
              · have hocc : S.occ r ≠ none := fun z => by
                  rw [z] at hsome
                  exact hsome (decide_eq_true rfl)
                unfold HS.serve
                cases hqr : S.q r with
                | nil => rfl
                | cons e rest =>
                  obtain ⟨c, j⟩ := e
                  simp only [if_neg hocc]
            · unfold HS.serve
              cases hqr : S.q r with
              | nil => rfl
              | cons e rest =>
                rw [hqr] at hno
                exact absurd (decide_eq_true (by rw [List.length_cons]; omega)) hno
          · rintro σ H6 ⟨v3, v5, v6, rfl, h6, I6, k6⟩
            rw [List.length_map, List.take_length] at h6
            exact k H6 ys (fun r hr => hperm.mem_iff.mpr hr) (HouseIn.mono (HouseIn.mono h6 hb5) hb0)
end
end H5
/-! House.__init__, Run.__init__. -/
namespace H5
open PySem L2 SX K51
open C8 (Cal Met Mak Def cal0 met0 mak0 pe_c pe_mk pe_mt pe_mt0 fnScope_by scC pe_gc InsC call_isC pss_cut tCut fnScope fnArgs fnBody)

def spHInit (K : PySem.W.Frag) (D : Addr) : Sp := fun vs H Q _ => ∃ (p dx : Addr) (v : V) (C : Cfg Str) (L : List Str), vs = [.ref p, v] ∧ H p = some (.ins D dx []) ∧ Dp K (R (fun b => b ≠ p) H) v (.list ((List.range C.n).map (encP C))) ∧ CfgL C L ∧
  ∀ H', HouseIn K D C L (R (fun b => b ≠ p) H) H' p (HS.init C) → Q .non H'
/-- what the walk asks of the class Run -/
structure UTxt (K : PySem.W.Frag) (mg : Str → Option Value) (E : Addr) : Prop where
  cl : Cls K E
  nW : NoAttr K E "walks"
  nA : NoAttr K E "waits"
  mgU : mg "Run" = some (.ref E)
  ins : InsC K E
def uf (q1 q2 : Addr) : List (Str × V) := putF "waits" (.ref q2) (putF "walks" (.ref q1) [])
theorem uf_walks (q1 q2 : Addr) : (uf q1 q2).lookup ("walks" : Str) = some (.ref q1) := by
  unfold uf
  rw [lookup_putF, if_neg (by decide +kernel), lookup_putF, if_pos rfl]
theorem uf_waits (q1 q2 : Addr) : (uf q1 q2).lookup ("waits" : Str) = some (.ref q2) := by
  unfold uf
  rw [lookup_putF, if_pos rfl]
def spUInit (K : PySem.W.Frag) (E : Addr) : Sp := fun vs H Q _ => ∃ (p dx a b : Addr) (xs ys : List V), vs = [.ref p, .ref a, .ref b] ∧ H p = some (.ins E dx []) ∧ SqL K H a xs ∧ SqL K H b ys ∧
  ∀ (q1 q2 : Addr) (H' : Hp), H' p = some (.ins E dx (uf q1 q2)) → H' q1 = some (.lst xs) → H' q2 = some (.lst ys) → (∀ b o, H b = some o → b ≠ p → H' b = some o) → Q .non H'
section
variable {P : Program} {w : World} {K : PySem.W.Frag} {mg : Str → Option Value} {base : Heap}
abbrev nUInit : List Str := ["self", "walks", "waits"]
theorem sc_uinit : FnScope nUInit ["self", "walks", "waits"] (fnScope sRunInit) := fnScope_by (by decide +kernel)
theorem ok_uinit (B : Blt mg) {E : Addr} (T : UTxt K mg E) {f : Addr} {fd : FuncData} (F : C8.Fun K "__init__" "Run.__init__" sRunInit f fd) : FnOk P w K mg base C8.CX0 1 f fd ["self", "walks", "waits"] (spUInit K E) := by
  refine C8.fn0 F sc_uinit (fun vs H Q E h => ?_) (fun cdv A outer s H vs Q E' hr h => ?_)
  · obtain ⟨p, dx, a, b, xs, ys, rfl, _⟩ := h
    rfl
  · obtain ⟨p, dx, a, b, xs, ys, rfl, hp, hx, hy, k⟩ := h
    refine ⟨_, pss_cons (ps_fld (pv 0) (pe_callTy call_list_of (by rfl) B.list (by decide +kernel) (pa_cons (pv 1) pa_nil)) rfl)
      (pss_one (ps_fld (pv 0) (pe_callTy call_list_of (by rfl) B.list (by decide +kernel) (pa_cons (pv 2) pa_nil)) rfl)), ?_⟩
    refine ⟨_, rfl, a, xs, rfl, .inl hx, fun q1 h1 => ⟨_, rfl, p, E, dx, _, rfl, Same.new h1 _ _ hp, T.cl, T.nW, (by show 0 < 1000; decide), ?_⟩⟩
    have p1 : p ≠ q1 := ne_of_none hp h1
    have hyb : SqL K (upd (upd H q1 (.lst xs)) p (.ins E dx (putF "walks" (.ref q1) []))) b ys := by
      rcases hy with (g | ⟨o, g⟩) | g
      · refine .inl (.inl ?_)
        rw [upd_ne (ne_of g hp (fun z => nomatch z))]
        exact Same.new h1 _ _ g
      · refine .inl (.inr ⟨o, ?_⟩)
        rw [upd_ne (ne_of g hp (fun z => nomatch z))]
        exact Same.new h1 _ _ g
      · exact .inr g
    refine ⟨_, rfl, b, ys, rfl, .inl hyb, fun q2 h2 => ⟨_, rfl, p, E, dx, _, rfl, Same.new h2 _ _ upd_same, T.cl, T.nA, (by show 1 < 1000; decide), ?_⟩⟩
    have p2 : p ≠ q2 := ne_of_none upd_same h2
    have e1 : (upd (upd H q1 (.lst xs)) p (.ins E dx (putF "walks" (.ref q1) []))) q1 = some (.lst xs) := by rw [upd_ne p1.symm, upd_same]
    refine k q1 q2 _ upd_same ?_ ?_ fun c o e hc => ?_
    · rw [upd_ne p1.symm, upd_ne (ne_of_none e1 h2)]
      exact e1
    · rw [upd_ne p2.symm, upd_same]
    · have e2 : (upd (upd H q1 (.lst xs)) p (.ins E dx (putF "walks" (.ref q1) []))) c = some o := by
        rw [upd_ne hc]
        exact Same.new h1 _ _ e
      rw [upd_ne hc, upd_ne (ne_of_none e2 h2)]
      exact e2

abbrev nHInit : List Str := ["self", "plans", "_", "start"]
theorem sc_hinit : FnScope nHInit ["self", "plans"] (fnScope sHInit) := fnScope_by (by decide +kernel)
theorem ok_hinit (B : Blt mg) {D : Addr} (T : HTxt K mg D) {f : Addr} {fd : FuncData} (F : C8.Fun K "__init__" "House.__init__" sHInit f fd) : FnOk P w K mg base C8.CX0 1 f fd ["self", "plans"] (spHInit K D) := by
  refine C8.fn0 F sc_hinit (fun vs H Q E h => ?_) (fun cdv A outer s H vs Q E hr h => ?_)
  · obtain ⟨p, dx, v, C, L, rfl, _⟩ := h
    rfl
  · obtain ⟨p, dx, v, C, L, rfl, hp, hv, hC, k⟩ := h
    obtain ⟨pl, xs, rfl, hx, hD⟩ := Dp.lstE hv
    have hxl : xs.length = C.n := by rw [DpAll.len hD, List.length_map, List.length_range]
    have h14 := hC.n
    refine ⟨_, pss_cons (ps_fld (pv 0) (pv 1) rfl)
      (pss_cons (ps_fld (pv 0) (pe_lc (own := [("_", 2)]) rfl sc_hinit.nd (pi_list (pv 1)) (blkOk_by (N := nHInit) (sc := fnScope sHInit) (by decide +kernel)) (fun _ _ _ _ _ => (pg_name (i := 2) sc_hinit.nd rfl (Or.inl rfl))) (fun _ _ _ _ _ => pts_nil) (fun _ _ _ _ _ => (pe_lst pa_nil))) rfl)
      (pss_cons (ps_fld (pv 0) (pe_lc (own := [("start", 3), ("_", 2)]) (g := gTup K 2 (gCons (gName 3) (gCons (gName 2) gNil))) rfl sc_hinit.nd (pi_list (pv 1)) (blkOk_by (N := nHInit) (sc := fnScope sHInit) (by decide +kernel)) (fun _ _ _ _ _ => (pg_tup rfl (pgs_cons (pg_name (i := 3) sc_hinit.nd rfl (Or.inl rfl)) (pgs_cons (pg_name (i := 2) sc_hinit.nd rfl (Or.inl rfl)) pgs_nil)))) (fun _ _ _ _ _ => pts_nil) (fun _ _ _ _ _ => (pv 3))) rfl)
      (pss_cons (ps_fld (pv 0) pe_dnewK rfl)
      (pss_one (ps_fld (pv 0) pe_dnewK rfl))))), ?_⟩
    -- self.plans = plans
    refine ⟨_, rfl, _, rfl, p, D, dx, _, rfl, hp, T.cl, T.nP, (by show 0 < 1000; decide), ?_⟩
    generalize hH1 : upd H p (.ins D dx (putF "plans" (.ref pl) [])) = H1
    have e1 : H1 p = some (.ins D dx (putF "plans" (.ref pl) [])) := by rw [← hH1]; exact upd_same
    have s1 : Same (R (fun b => b ≠ p) H) H1 := R_to fun b o q e => by
      rw [← hH1, upd_ne q]
      exact e
    have f1 : ∀ {b : Addr}, H1 b = none → H b = none := fun {b} h => by
      rw [← hH1] at h
      by_cases e : b = p
      · rw [e, upd_same] at h
        cases h
      · rw [upd_ne e] at h
        exact h
    -- self.rows = [[] for _ in plans]
    refine ⟨_, rfl, pl, rfl, ⟨_, s1.seq hx⟩, fun Dl hDl => lc_list (K := K) (a := pl) (xs := xs) (fun i H2 => ∃ (ra : Nat → Addr) (μ : Addr → Option Nat), H2 Dl = some (.lst ((List.range i).map fun j => .ref (ra j))) ∧ (∀ j, j < i → H2 (ra j) = some (.lst []) ∧ μ (ra j) = some j) ∧
      (∀ b, μ b ≠ none → H1 b = none ∧ b ≠ Dl ∧ H2 b ≠ none) ∧ Same H1 H2) ⟨fun _ => 0, fun _ => none, upd_same, (fun j h => absurd h (Nat.not_lt_zero _)), (fun b h => absurd rfl h), Same.new hDl⟩ (fun i H2 _ ⟨_, _, _, _, _, s⟩ => (s1.trans s).seq hx) ?_ ?_⟩
    · rintro i x H2 hxi ⟨ra, μ, g1, g2, g3, s2⟩
      have hi := (List.getElem?_eq_some_iff.mp hxi).1
      refine ⟨rfl, (by show 0 ≤ sizeLine; decide), fun a ha => ⟨_, Same.new ha _ _ g1, small1000 (by rw [List.length_map, List.length_range]; omega), fset ra i a, fset μ a (some i), ?_, fun j hj => ?_, fun b hb => ?_, ?_⟩⟩
      · rw [upd_same, List.range_succ, List.map_append]
        refine congrArg (fun l => some (HO.lst l)) (congr (congrArg _ (List.map_congr_left fun j hj => ?_)) ?_)
        · have : j ≠ i := by
            have := List.mem_range.mp hj
            omega
          rw [fset_ne this]
        · show [V.ref a] = [V.ref (fset ra i a i)]
          rw [fset_eq]
      · have aD : a ≠ Dl := (ne_of_none g1 ha).symm
        by_cases e : j = i
        · subst e
          rw [fset_eq, fset_eq, upd_ne aD, upd_same]
          exact ⟨rfl, rfl⟩
        · obtain ⟨q1, q2⟩ := g2 j (by omega)
          have nj : ra j ≠ a := ne_of_none q1 ha
          have nD : ra j ≠ Dl := (g3 (ra j) (by rw [q2]; exact fun z => nomatch z)).2.1
          rw [fset_ne e, fset_ne nj, upd_ne nD, upd_ne nj]
          exact ⟨q1, q2⟩
      · by_cases e : b = a
        · subst e
          have aD : b ≠ Dl := (ne_of_none g1 ha).symm
          refine ⟨s2.free ha, aD, ?_⟩
          rw [upd_ne aD, upd_same]
          exact fun z => nomatch z
        · rw [fset_ne e] at hb
          obtain ⟨q1, q2, q3⟩ := g3 b hb
          refine ⟨q1, q2, ?_⟩
          rw [upd_ne q2, upd_ne e]
          exact q3
      · exact Same.putNew (Same.putNew s2 (Same.free s2 ha)) hDl
    · rintro H2 ⟨ra, μ, g1, g2, g3, s2⟩
      rw [hxl] at g1
      refine ⟨_, rfl, p, D, dx, _, rfl, s2 _ _ e1, T.cl, T.nR, (by show 1 < 1000; decide), ?_⟩
      generalize hH3 : upd H2 p (.ins D dx (putF "rows" (.ref Dl) (putF "plans" (.ref pl) []))) = H3
      have e3 : H3 p = some (.ins D dx (putF "rows" (.ref Dl) (putF "plans" (.ref pl) []))) := by rw [← hH3]; exact upd_same
      have pD : p ≠ Dl := ne_of_none e1 hDl
      have u3 : ∀ {b : Addr} {o : HO}, b ≠ p → H2 b = some o → H3 b = some o := fun {b o} n e => by
        rw [← hH3, upd_ne n]
        exact e
      have s3 : Same (R (fun b => b ≠ p) H) H3 := fun b o e => u3 (R_inv e).1 (s2 _ _ (s1 b o e))
      have f3 : ∀ {b : Addr}, H3 b = none → H2 b = none ∧ b ≠ p := fun {b} h => by
        rw [← hH3] at h
        by_cases e : b = p
        · rw [e, upd_same] at h
          cases h
        · rw [upd_ne e] at h
          exact ⟨h, e⟩
      have gD3 : H3 Dl = some (.lst ((List.range C.n).map fun j => .ref (ra j))) := u3 pD.symm g1
      -- self.due = [start for start, _ in plans]
      refine ⟨_, rfl, pl, rfl, ⟨_, s3.seq hx⟩, fun Dd hDd => lc_list (K := K) (a := pl) (xs := xs) (fun i H4 => H4 = upd H3 Dd (.lst ((List.range i).map fun j => .int (C.start j)))) rfl (fun i H4 _ e => by rw [e]; exact (s3.trans (Same.new hDd)).seq hx) ?_ ?_⟩
      · rintro i x H4 hxi rfl
        have hi := (List.getElem?_eq_some_iff.mp hxi).1
        obtain ⟨d, hdi, hdx⟩ := DpAll.getV hD hxi
        rw [List.getElem?_map, List.getElem?_range (by omega)] at hdi
        cases hdi
        obtain ⟨t, ys, rfl, ht, hys⟩ := Dp.tupE hdx
        obtain ⟨v1, r1, rfl, d1, hys⟩ := DpAll.consE hys
        obtain ⟨v2, r2, rfl, d2, hys⟩ := DpAll.consE hys
        rw [Dp.intE d1, DpAll.nilE hys] at ht
        refine ⟨t, _, rfl, sqT_same (s3.trans (Same.new hDd)) ht, rfl, _, _, rfl, _, _, rfl, rfl, rfl, _, rfl, _, upd_same, small1000 (by rw [List.length_map, List.length_range]; omega), ?_⟩
        rw [upd_upd, List.range_succ, List.map_append]
        rfl
      · rintro H4 rfl
        rw [hxl]
        have gDd : upd H3 Dd (.lst ((List.range C.n).map fun j => .int (C.start j))) Dd = some (.lst ((List.range C.n).map fun j => .int (C.start j))) := upd_same
        generalize hH4 : upd H3 Dd (.lst ((List.range C.n).map fun j => .int (C.start j))) = H4 at gDd
        have s34 : Same H3 H4 := by
          rw [← hH4]
          exact Same.new hDd
        refine ⟨_, rfl, p, D, dx, _, rfl, s34 _ _ e3, T.cl, T.nD, (by show 2 < 1000; decide), ?_⟩
        -- self.inside = {}; self.queues = {}
        intro iq hiq
        refine ⟨_, rfl, p, D, dx, _, rfl, Same.new hiq _ _ upd_same, T.cl, T.nI, (by show 3 < 1000; decide), ?_⟩
        intro qq hqq
        refine ⟨_, rfl, p, D, dx, _, rfl, Same.new hqq _ _ upd_same, T.cl, T.nQ, (by show 4 < 1000; decide), ?_⟩
        have pd : p ≠ Dd := ne_of_none e3 hDd
        have piq : p ≠ iq := ne_of_none upd_same hiq
        have pqq : p ≠ qq := ne_of_none upd_same hqq
        -- what stands apart from p
        have up : ∀ {b : Addr} {o : HO}, b ≠ p → H4 b = some o → ∀ {o1 o2 o3 o4 o5 : HO}, (upd (upd (upd (upd (upd H4 p o1) iq o2) p o3) qq o4) p o5) b = some o → True := fun _ _ _ _ _ _ _ _ => trivial
        have hiq4 : H4 iq = none := by
          rw [upd_ne piq.symm] at hiq
          exact hiq
        have e6 : (upd (upd (upd H4 p (.ins D dx (putF "due" (.ref Dd) (putF "rows" (.ref Dl) (putF "plans" (.ref pl) []))))) iq (.dK [])) p (.ins D dx (putF "inside" (.ref iq) (putF "due" (.ref Dd) (putF "rows" (.ref Dl) (putF "plans" (.ref pl) [])))))) iq = some (.dK []) := by
          rw [upd_ne piq.symm, upd_same]
        have iqq : iq ≠ qq := ne_of_none e6 hqq
        have hqq4 : H4 qq = none := by
          rw [upd_ne pqq.symm, upd_ne iqq.symm, upd_ne pqq.symm] at hqq
          exact hqq
        have fin : ∀ {b : Addr} {o : HO}, b ≠ p → H4 b = some o → (upd (upd (upd (upd (upd H4 p (.ins D dx (putF "due" (.ref Dd) (putF "rows" (.ref Dl) (putF "plans" (.ref pl) []))))) iq (.dK [])) p (.ins D dx (putF "inside" (.ref iq) (putF "due" (.ref Dd) (putF "rows" (.ref Dl) (putF "plans" (.ref pl) [])))))) qq (.dK [])) p
            (.ins D dx (putF "queues" (.ref qq) (putF "inside" (.ref iq) (putF "due" (.ref Dd) (putF "rows" (.ref Dl) (putF "plans" (.ref pl) []))))))) b = some o := fun {b o} n e => by
          rw [upd_ne n, upd_ne (ne_of_none e hqq4), upd_ne n, upd_ne (ne_of_none e hiq4), upd_ne n]
          exact e
        have gDl4 : H4 Dl = some (.lst ((List.range C.n).map fun j => .ref (ra j))) := s34 _ _ gD3
        have nlq : Dl ≠ iq := ne_of_none gDl4 hiq4
        have nlQ : Dl ≠ qq := ne_of_none gDl4 hqq4
        have ndq : Dd ≠ iq := ne_of_none gDd hiq4
        have ndQ : Dd ≠ qq := ne_of_none gDd hqq4
        have nld : Dl ≠ Dd := ne_of_none gD3 hDd
        -- the roles
        have ρd : ∃ ρ : Addr → Option Role, ρ = fun b => if b = p then some .obj else if b = Dl then some .rows else if b = Dd then some .due else if b = iq then some .ins else if b = qq then some .qs else (μ b).map Role.row := ⟨_, rfl⟩
        obtain ⟨ρ, hρ⟩ := ρd
        have old : ∀ {b : Addr} {o : HO}, b ≠ p → H b = some o → ρ b = none := fun {b o} n e => by
          have e1' : H1 b = some o := by
            rw [← hH1, upd_ne n]
            exact e
          have e3' : H3 b = some o := u3 n (s2 _ _ e1')
          have e4' : H4 b = some o := s34 _ _ e3'
          rw [hρ]
          simp only [if_neg n, if_neg (ne_of_none e1' hDl), if_neg (ne_of_none e3' hDd), if_neg (ne_of_none e4' hiq4), if_neg (ne_of_none e4' hqq4)]
          cases em : μ b with
          | none => rfl
          | some j =>
            have := (g3 b (by rw [em]; exact fun z => nomatch z)).1
            rw [this] at e1'
            cases e1'
        have oldH : ∀ {b : Addr} {o : HO}, b ≠ p → H b = some o → H4 b = some o := fun {b o} n e => s34 _ _ (u3 n (s2 _ _ (by rw [← hH1, upd_ne n]; exact e)))
        refine k _ ⟨⟨dx, pl, Dl, Dd, iq, qq, ra, fun _ => 0⟩, ρ, ⟨upd_same, fin pD.symm gDl4, fun i hi => ?_, ?_, ⟨[], ?_, (fun r => rfl), List.nodup_nil, (fun k hk => nomatch hk)⟩, ?_, (fun r hr => nomatch hr), List.nodup_nil, (fun r hr => nomatch hr), (fun r _ => rfl), ?_, (fun i row hr => nomatch hr), ?_, ?_, ?_, ?_, ?_, fun i hi => ?_, (fun r hr => nomatch hr), fun b hb => ?_⟩, fun b o e => ?_⟩
        · -- row
          obtain ⟨q1, q2⟩ := g2 i (by rw [hxl]; exact hi)
          obtain ⟨q3, q4, _⟩ := g3 (ra i) (by rw [q2]; exact fun z => nomatch z)
          have np : ra i ≠ p := fun z => by rw [z, e1] at q3; cases q3
          exact ⟨[], fin np (s34 _ _ (u3 np q1)), .nil⟩
        · -- due
          have : ((List.range C.n).map fun i => optI ((HS.init C).due i)) = (List.range C.n).map fun j => V.int (C.start j) := by
            refine List.map_congr_left fun j hj => ?_
            show optI (if j < C.n then some (C.start j) else none) = _
            rw [if_pos (List.mem_range.mp hj)]
            rfl
          rw [this]
          exact fin pd.symm gDd
        · -- inside
          rw [upd_ne piq.symm, upd_ne iqq]
          exact e6
        · -- queues
          rw [upd_ne pqq.symm, upd_same]
          rfl
        · -- plans
          exact Dp.lst (Same.seq (R_same fun b o n e => ⟨old n e, fin n (oldH n e)⟩) hx) (DpAll.same (R_same fun b o n e => ⟨old n e, fin n (oldH n e)⟩) hD)
        · rw [hρ]
          simp
        · rw [hρ]
          simp only [if_neg pD.symm, if_pos]
        · rw [hρ]
          simp only [if_neg pd.symm, if_neg nld.symm, if_pos]
        · rw [hρ]
          simp only [if_neg piq.symm, if_neg nlq.symm, if_neg ndq.symm, if_pos]
        · rw [hρ]
          simp only [if_neg pqq.symm, if_neg nlQ.symm, if_neg ndQ.symm, if_neg iqq.symm, if_pos]
        · obtain ⟨q1, q2⟩ := g2 i (by rw [hxl]; exact hi)
          obtain ⟨q3, q4, _⟩ := g3 (ra i) (by rw [q2]; exact fun z => nomatch z)
          have np : ra i ≠ p := fun z => by rw [z, e1] at q3; cases q3
          have q5 := u3 np q1
          have q6 := s34 _ _ q5
          rw [hρ]
          show (if ra i = p then _ else _) = _
          rw [if_neg np, if_neg q4, if_neg (ne_of_none q5 hDd), if_neg (ne_of_none q6 hiq4), if_neg (ne_of_none q6 hqq4), q2]
          rfl
        · -- tracked
          by_cases n : b = p
          · rw [n, upd_same]
            exact fun z => nomatch z
          · rw [hρ] at hb
            simp only [if_neg n] at hb
            by_cases n1 : b = Dl
            · rw [n1, fin pD.symm gDl4]
              exact fun z => nomatch z
            by_cases n2 : b = Dd
            · rw [n2, fin pd.symm gDd]
              exact fun z => nomatch z
            by_cases n3 : b = iq
            · rw [n3, upd_ne piq.symm, upd_ne iqq, e6]
              exact fun z => nomatch z
            by_cases n4 : b = qq
            · rw [n4, upd_ne pqq.symm, upd_same]
              exact fun z => nomatch z
            simp only [if_neg n1, if_neg n2, if_neg n3, if_neg n4] at hb
            have hm : μ b ≠ none := fun z => by
              rw [z] at hb
              exact hb rfl
            obtain ⟨_, _, q⟩ := g3 b hm
            cases e2 : H2 b with
            | none => exact absurd e2 q
            | some u =>
              rw [fin n (s34 _ _ (u3 n e2))]
              exact fun z => nomatch z
        · obtain ⟨n, e⟩ := R_inv e
          exact ⟨old n e, fin n (oldH n e)⟩
end
end H5
/-! sorted of tuples (int, int, x): by the first, then by the second; no two alike in both. -/
namespace SrtO
open PySem PySem.Spec PyProof.Rows Srt
def IsTrip (h : Heap) (v : Value) (x y : Int) : Prop := ∃ a o t u n c, v = .ref a ∧ h.get? a = some o ∧ o.cls = .type "tuple" ∧ o.data = .seq #[.int x t, .int y u, .ref c] n
theorem IsTrip.keeps {h h' : Heap} {v : Value} {x y : Int} (p : IsTrip h v x y) (k : ∀ b o, h.get? b = some o → o.cls = .type "tuple" → h'.get? b = some o) : IsTrip h' v x y := by
  obtain ⟨a, o, t, u, n, c, e, ho, hc, hd⟩ := p
  exact ⟨a, o, t, u, n, c, e, k _ _ ho hc, hc, hd⟩
section
variable {prog : Program} {w : World} {A : Around} {E : Value → Shared → Prop} {s : Shared}
theorem firsts_ofT {h : Heap} : ∀ {vs : List Value}, (∀ v ∈ vs, ∃ x y, IsTrip h v x y) → ∃ fs : List Value, PySem.W.KatTups h vs fs ∧ fs.length = vs.length ∧ ∀ f ∈ fs, ∃ x t, f = Value.int x t
  | [], _ => ⟨[], PySem.W.KatTups.nil, rfl, fun _ hm => by simp at hm⟩
  | v :: vs, hp => by
    obtain ⟨fs, h1, h2, h3⟩ := firsts_ofT (vs := vs) fun v' hm => hp v' (List.mem_cons_of_mem _ hm)
    obtain ⟨x, y, a, o, t, u, n, c, e, ho, hc, hd⟩ := hp v (List.mem_cons_self ..)
    subst e
    refine ⟨.int x t :: fs, PySem.W.KatTups.cons ho hc hd rfl h1, by rw [List.length_cons, List.length_cons, h2], fun f hm => ?_⟩
    rcases List.mem_cons.mp hm with rfl | hm
    · exact ⟨x, t, rfl⟩
    · exact h3 f hm
theorem trip_cmp {vs : List Value} {k : Value → Int × Int} (hp : ∀ v ∈ vs, IsTrip s.heap v (k v).1 (k v).2) (hi : ∀ v ∈ vs, ∀ u ∈ vs, k v = k u → v = u) : Cmp prog w A s (tuples' true) (fun p => p.1 ∈ vs) (lt2 fun v u => lexB (k v) (k u)) := by
  intro p q hm hm'
  have h1 := hp _ hm
  have h2 := hp _ hm'
  have h3 := hi _ hm _ hm'
  show wpAny (model prog w) A (keyLt' (tuples' true) p.1 q.1) (fun r s' => s' = s ∧ r = lexB (k p.1) (k q.1)) (fun _ _ => False) s
  unfold lexB
  have ep : k p.1 = ((k p.1).1, (k p.1).2) := rfl
  have eq' : k q.1 = ((k q.1).1, (k q.1).2) := rfl
  rw [ep, eq'] at h3
  generalize (k p.1).1 = x at h1 h3 ⊢
  generalize (k p.1).2 = y at h1 h3 ⊢
  generalize (k q.1).1 = x' at h2 h3 ⊢
  generalize (k q.1).2 = y' at h2 h3 ⊢
  obtain ⟨a, o, t, u, n, c, e, ho, hc, hd⟩ := h1
  obtain ⟨a', o', t', u', n', c', e', ho', hc', hd'⟩ := h2
  rw [e, e'] at h3
  rw [e, e']
  refine PySem.W.kat_lt ho hd ho' hd' ?_
  show PySem.W.KatLex prog w A true (decide (3 < 3)) _ [(.int x t, .int x' t'), (.int y u, .int y' u'), (.ref c, .ref c')] 0 s
  refine PySem.W.kat_cons (SeqAt.EqAt.int_int x t x' t' prog w _ _ ?_)
  refine PySem.W.kat_go (fun e1 => ?_) (fun e1 => ?_)
  · have ex : x = x' := by simpa using e1
    refine PySem.W.kat_yes (PySem.W.kat_cons (SeqAt.EqAt.int_int y u y' u' prog w _ _ ?_))
    refine PySem.W.kat_go (fun e2 => ?_) (fun e2 => ?_)
    · have ey : y = y' := by simpa using e2
      have e3 : (if x = x' then decide (y < y') else decide (x < x')) = false := by
        rw [if_pos ex, ey]
        exact decide_eq_false (Int.lt_irrefl _)
      have ea := h3 (by rw [ex, ey])
      cases ea
      rw [ho] at ho'
      cases ho'
      rw [hd] at hd'
      have ec : c = c' := by
        injection hd' with q1 q2
        have q3 := congrArg Array.toList q1
        simp at q3
        exact q3.2.2
      subst ec
      refine PySem.W.kat_yes (PySem.W.kat_cons (SeqAt.EqAt.same (A := A) (s := s) (.ref c) prog w _ _ ?_))
      exact PySem.W.kat_yes (PySem.W.kat_nil ⟨rfl, e3.symm⟩)
    · have e3 : (if x = x' then decide (y < y') else decide (x < x')) = decide (y < y') := if_pos ex
      refine PySem.W.kat_no (PySem.W.kat_one _ _ (PyProof.Rows.lt_int ?_))
      exact (show s = s ∧ decide (y < y') = (if x = x' then decide (y < y') else decide (x < x')) from ⟨rfl, e3.symm⟩)
  · have ex : ¬ x = x' := by simpa using e1
    have e3 : (if x = x' then decide (y < y') else decide (x < x')) = decide (x < x') := if_neg ex
    exact PySem.W.kat_no (oneLt_int ⟨rfl, e3.symm⟩)
theorem trips_sortableO {a : Addr} {vs : List Value} {k : Value → Int × Int} (h0 : 0 < vs.length) (hp : ∀ v ∈ vs, IsTrip s.heap v (k v).1 (k v).2) (hi : ∀ v ∈ vs, ∀ u ∈ vs, k v = k u → v = u) (ha : ∀ o, s.heap.get? a = some o → o.cls ≠ .type "tuple") : SortableO prog w A s a vs fun v u => lexB (k v) (k u) := by
  intro h' keep
  have hp' : ∀ v ∈ vs, IsTrip h' v (k v).1 (k v).2 := fun v hm => (hp v hm).keeps fun b o e c => keep b o (fun z => by subst z; exact ha o e c) e
  obtain ⟨fs, h1, h2, h3⟩ := firsts_ofT fun v hm => ⟨_, _, hp' v hm⟩
  refine ⟨tuples' true, fun Q E hq => ?_, trip_cmp hp' hi⟩
  refine PySem.W.kat_kind (T := .type "int") h1 (by omega) (fun f hm => ?_) (by rfl) ?_
  · obtain ⟨x, t, rfl⟩ := h3 f hm
    exact PySem.W.Looks.now
  · have e : (Value.type "int" != Value.type "tuple") = true := by first | decide +kernel | rfl | decide
    rw [e]
    exact hq
theorem sorted_tripsO {l : Addr} {vs : List Value} {k : Value → Int × Int} {Q : Value → Shared → Prop} (hl : s.heap.IsList l vs.toArray) (hz : vs.length ≤ sizeLine) (hp : ∀ v ∈ vs, IsTrip s.heap v (k v).1 (k v).2) (hi : ∀ v ∈ vs, ∀ u ∈ vs, k v = k u → v = u)
    (h : ∀ (h' : Heap) (d : Addr) (out : List Value), Srtd (fun v u => lexB (k v) (k u)) out → Stb (fun v u => lexB (k v) (k u)) out vs → (∀ b o, s.heap.get? b = some o → h'.get? b = some o) → s.heap.objs.size ≤ d → (∃ n, h'.get? d = some (seqObj "list" out.toArray n)) → Q (.ref d) { s with heap := h' }) :
    wpAny (model prog w) A (call (.builtin "sorted") [.ref l]) Q E s := by
  refine sorted_ord (swo_lex k) hl hz (fun h2 h₁ a ha kk => ?_) fun out hs hb => ?_
  · refine trips_sortableO (s := { s with heap := h₁ }) (by omega) (fun v hm => (hp v hm).keeps fun b o e _ => (kk b o e).2) hi fun o e => ?_
    have e' : some o = some (seqObj "list" vs.toArray 0) := e.symm.trans ha
    cases e'
    intro c
    exact absurd (Value.type.inj c) (by decide)
  · exact h _ _ out hs hb (fun b o e => sortedAll_old e) (Nat.le_succ _) (sortedAll_at s.heap vs out.toArray)
end
end SrtO
namespace H5
open PySem L2 PySem.Spec PyProof.Rows
/-- sorted(xs), xs a list of tuples (int, int, x), no two alike in the ints -/
def rSortedT3 (K : PySem.W.Frag) : List V → Hp → VK → Prop := fun vs H Q => ∃ (a : Addr) (xs : List V) (k : V → Int × Int), vs = [V.ref a] ∧ SqL K H a xs ∧ (∀ x ∈ xs, ∃ t c, x = V.ref t ∧ H t = some (.tup [.int (k x).1, .int (k x).2, .ref c])) ∧ (∀ x ∈ xs, ∀ y ∈ xs, k x = k y → x = y) ∧
  ∀ ys p, SrtO.Srtd (ltP k) ys → ys.Perm xs → H p = none → Q (.ref p) (upd H p (.lst ys))
section
variable {X : Cx}
theorem cr_sortedT3 : CallR X (.builtin "sorted") (rSortedT3 X.K) := by
  intro pins s σ H vs us Q I r h
  obtain ⟨a, xs, k, rfl, hs, hx, hi, q⟩ := h
  obtain ⟨its, rv, hl, hz⟩ := I.list hs
  obtain ⟨u, rfl, ru⟩ := vals1 r
  obtain rfl : u = Value.ref a := ru
  obtain ⟨e1, e2⟩ := refs_back rv fun x m => by
    obtain ⟨t, c, e, _⟩ := hx x m
    exact ⟨t, e⟩
  refine SrtO.sorted_tripsO (k := fun u => k (backV u)) hl.isList (by rw [← rv.length]; exact hz) (fun v hv => ?_) (fun v hv u hu e => ?_) fun h' d out h1 h2 kp hd hn => ?_
  · obtain ⟨t, rfl⟩ := e2 v hv
    have hm : V.ref t ∈ xs := by rw [e1]; exact List.mem_map.mpr ⟨_, hv, rfl⟩
    obtain ⟨t', c, e, ht⟩ := hx _ hm
    cases e
    obtain ⟨_, its2, r2, o, ho, hc, n, hd⟩ := I.hok _ _ ht
    cases r2 with
    | cons ri r2 =>
      cases r2 with
      | cons rj r2 =>
        cases r2 with
        | cons rc r2 =>
          cases r2
          obtain ⟨t1, rfl⟩ := ri
          obtain ⟨t2, rfl⟩ := rj
          cases rc
          exact ⟨t, o, t1, t2, n, c, rfl, ho, hc, hd⟩
  · obtain ⟨t, rfl⟩ := e2 v hv
    obtain ⟨t', rfl⟩ := e2 u hu
    have hm : V.ref t ∈ xs := by rw [e1]; exact List.mem_map.mpr ⟨_, hv, rfl⟩
    have hm' : V.ref t' ∈ xs := by rw [e1]; exact List.mem_map.mpr ⟨_, hu, rfl⟩
    have := hi _ hm _ hm' e
    cases this
    rfl
  · have h3 : ∀ u ∈ out, ∃ a, u = Value.ref a := fun u hu => e2 u (h2.perm.mem_iff.mp hu)
    obtain ⟨n, hn⟩ := hn
    have hb : SrtO.Stb (ltP k) (out.map backV) xs := by
      rw [e1]
      exact SrtO.Stb.map (ltP_swo k) backV h2
    refine ⟨.ref d, upd H d (.lst (out.map backV)), I.laid (t' := s.toks) kp hd ⟨?_, out, n, vals_back h3, hn⟩, rfl, q _ d (SrtO.srtd_map h1) hb.perm (I.hok.fresh hd)⟩
    rw [hb.len]
    exact hz
end
end H5
/-! run. -/
namespace H5
open PySem L2 SX K51
open C8 (Cal Met Mak Def cal0 met0 mak0 pe_c pe_mk pe_mt pe_mt0 fnScope_by scC pe_gc InsC call_isC pss_cut tCut fnScope fnArgs fnBody)

/-- the plans as the house has them -/
def cfgOf (ps : List Plan) : Cfg Str where
  hall := hallS
  ps := fun i => match ps[i]? with
    | some p => (p.stays.zip p.lens).map fun (q : Stay × Int) => (q.1.1, q.2)
    | none => []
  start := fun i => match ps[i]? with
    | some p => p.start
    | none => 0
  n := ps.length
theorem cfg_ok {ps : List Plan} {L : List Str} (h : ∀ p ∈ ps, PlanOk L p) : (cfgOf ps).Ok := by
  refine ⟨fun p i r l e => ?_, fun p hp => ?_⟩
  · show 1 ≤ l
    have e : (match ps[p]? with
      | some p => (p.stays.zip p.lens).map fun (q : Stay × Int) => (q.1.1, q.2)
      | none => [])[i]? = some (r, l) := e
    cases hp : ps[p]? with
    | none =>
      rw [hp] at e
      simp at e
    | some pl =>
      rw [hp] at e
      simp only [List.getElem?_map] at e
      obtain ⟨⟨s, x⟩, h1, h2⟩ := Option.map_eq_some_iff.mp e
      cases h2
      obtain ⟨h3, h4⟩ := List.getElem?_zip_eq_some.mp h1
      obtain ⟨hs, hf⟩ := h pl (List.mem_of_getElem? hp)
      have := hf.2 i s x h3 h4
      have := (hs.2.2 s (List.mem_of_getElem? h3)).2.1
      show 1 ≤ x
      omega
  · show (match ps[p]? with
      | some p => (p.stays.zip p.lens).map fun (q : Stay × Int) => (q.1.1, q.2)
      | none => []) = []
    rw [List.getElem?_eq_none_iff.mpr hp]
theorem cfgL {ps : List Plan} {L : List Str} (h : ∀ p ∈ ps, PlanOk L p) (hL : L.length ≤ 8) (hn : ps.length ≤ 14) : CfgL (cfgOf ps) L := by
  refine ⟨rfl, fun i r l e => ?_, by omega, hn, fun i => ?_, cfg_ok h⟩
  · have e : (r, l) ∈ (match ps[i]? with
      | some p => (p.stays.zip p.lens).map fun (q : Stay × Int) => (q.1.1, q.2)
      | none => []) := e
    cases hp : ps[i]? with
    | none =>
      rw [hp] at e
      cases e
    | some pl =>
      rw [hp] at e
      obtain ⟨⟨s, x⟩, h1, h2⟩ := List.mem_map.mp e
      cases h2
      obtain ⟨hs, hf⟩ := h pl (List.mem_of_getElem? hp)
      exact (hs.2.2 s (List.of_mem_zip h1).1).1.symm
  · show (match ps[i]? with
      | some p => (p.stays.zip p.lens).map fun (q : Stay × Int) => (q.1.1, q.2)
      | none => []).length ≤ 6
    cases hp : ps[i]? with
    | none => exact Nat.zero_le _
    | some pl =>
      obtain ⟨hs, hf⟩ := h pl (List.mem_of_getElem? hp)
      have := hs.2.1
      simp only [List.length_map, List.length_zip]
      omega
theorem walkRows_zip {ss rs : List Stay} {lens : List Int} (h : WalkRows ss lens rs) (hf : Fits ss lens) : rs.map (fun r => (r.1, r.2.2 - r.2.1)) = (ss.zip lens).map fun (q : Stay × Int) => (q.1.1, q.2) := by
  apply List.ext_getElem?
  intro i
  rw [List.getElem?_map, List.getElem?_map]
  cases hr : rs[i]? with
  | none =>
    have h1 := List.getElem?_eq_none_iff.mp hr
    have h2 := h.1
    have : (ss.zip lens)[i]? = none := List.getElem?_eq_none_iff.mpr (by rw [List.length_zip]; omega)
    rw [this]
    rfl
  | some r =>
    obtain ⟨s, x, h1, h2, h3, h4⟩ := h.2 i r hr
    have : (ss.zip lens)[i]? = some (s, x) := List.getElem?_zip_eq_some.mpr ⟨h1, h2⟩
    rw [this]
    show some (r.1, r.2.2 - r.2.1) = some (s.1, x)
    rw [h3, h4]

/-- a wait: (come, place, (name, step, room, come, enter)) -/
structure WE where
  come : Int
  place : Nat
  name : Str
  step : Int
  room : Str
  enter : Int
def WE.key (e : WE) : Int × Int := (e.come, (e.place : Int))
def encW (e : WE) : PyData := .tuple [.str e.name, .int e.step, .str e.room, .int e.come, .int e.enter]
def waitOf (i : Nat) (name : Str) (k : Nat) (r : Row Str) : List WE := if r.come < r.enter then [⟨r.come, i, name, (k : Int) + 1, r.room, r.enter⟩] else []
def waitsTo (i : Nat) (name : Str) (rows : List (Row Str)) (m : Nat) : List WE := (List.range m).flatMap fun k => match rows[k]? with
  | some r => waitOf i name k r
  | none => []
def nameOf (ps : List Plan) (i : Nat) : Str := match ps[i]? with
  | some p => p.name
  | none => hallS
def allWaits (ps : List Plan) (rows : Nat → List (Row Str)) (m : Nat) : List WE := (List.range m).flatMap fun i => waitsTo i (nameOf ps i) (rows i) (rows i).length
theorem waitsTo_succ {i : Nat} {name : Str} {rows : List (Row Str)} {m : Nat} {r : Row Str} (h : rows[m]? = some r) : waitsTo i name rows (m + 1) = waitsTo i name rows m ++ waitOf i name m r := by
  unfold waitsTo
  rw [List.range_succ, List.flatMap_append]
  simp [h]
theorem allWaits_succ {ps : List Plan} {rows : Nat → List (Row Str)} {m : Nat} : allWaits ps rows (m + 1) = allWaits ps rows m ++ waitsTo m (nameOf ps m) (rows m) (rows m).length := by
  unfold allWaits
  rw [List.range_succ, List.flatMap_append]
  simp
theorem mem_waitsTo {i : Nat} {name : Str} {rows : List (Row Str)} {m : Nat} {e : WE} (h : e ∈ waitsTo i name rows m) : ∃ k r, k < m ∧ rows[k]? = some r ∧ e = ⟨r.come, i, name, (k : Int) + 1, r.room, r.enter⟩ := by
  unfold waitsTo at h
  obtain ⟨k, hk, he⟩ := List.mem_flatMap.mp h
  cases hr : rows[k]? with
  | none =>
    rw [hr] at he
    cases he
  | some r =>
    rw [hr] at he
    unfold waitOf at he
    simp only at he
    split at he
    · exact ⟨k, r, List.mem_range.mp hk, hr, List.mem_singleton.mp he⟩
    · cases he
/-- the coming moments of a group rise -/
theorem come_lt {C : Cfg Str} {rows : Nat → List (Row Str)} (ok : C.Ok) (G : Good C rows) (p : Nat) : ∀ (d i : Nat) (r r' : Row Str), (rows p)[i]? = some r → (rows p)[i + 1 + d]? = some r' → r.come < r'.come
  | 0, i, r, r', h, h' => by
    have h1 := G.come1 p i r r' h h'
    have h2 := G.ce p i r h
    obtain ⟨l, h3, h4⟩ := G.room p i r h
    have := ok.pos p i _ _ h3
    omega
  | d + 1, i, r, r', h, h' => by
    have hlt := (List.getElem?_eq_some_iff.mp h').1
    obtain ⟨r2, h2⟩ : ∃ r2, (rows p)[i + 1 + d]? = some r2 := ⟨_, List.getElem?_eq_getElem (by omega)⟩
    have a := come_lt ok G p d i r r2 h h2
    have b := come_lt ok G p 0 (i + 1 + d) r2 r' h2 (by rw [← h']; congr 1)
    omega
theorem waits_lt {C : Cfg Str} {ps : List Plan} {rows : Nat → List (Row Str)} (ok : C.Ok) (G : Good C rows) : ∀ m, ((allWaits ps rows m).map WE.key).Nodup := by
  intro m
  induction m with
  | zero => exact List.nodup_nil
  | succ m ih =>
    rw [allWaits_succ, List.map_append]
    refine List.nodup_append.mpr ⟨ih, ?_, ?_⟩
    · have : ∀ j, j ≤ (rows m).length → ((waitsTo m (nameOf ps m) (rows m) j).map WE.key).Nodup := by
        intro j
        induction j with
        | zero => intro _; exact List.nodup_nil
        | succ j ih2 =>
          intro hj
          obtain ⟨r, hr⟩ : ∃ r, (rows m)[j]? = some r := ⟨_, List.getElem?_eq_getElem (by omega)⟩
          rw [waitsTo_succ hr, List.map_append]
          unfold waitOf
          split
          · refine List.nodup_append.mpr ⟨ih2 (by omega), by simp, fun a ha b hb e => ?_⟩
            obtain ⟨e1, he1, rfl⟩ := List.mem_map.mp ha
            obtain ⟨k, r', hk, hr', rfl⟩ := mem_waitsTo he1
            have hb : b = WE.key ⟨r.come, m, nameOf ps m, (j : Int) + 1, r.room, r.enter⟩ := by simpa using hb
            rw [hb] at e
            have := congrArg Prod.fst e
            have e2 : r'.come = r.come := this
            have := come_lt ok G m (j - k - 1) k r' r hr' (by rw [← hr]; congr 1; omega)
            omega
          · simpa using ih2 (by omega)
      exact this _ (Nat.le_refl _)
    · intro a ha b hb e
      obtain ⟨e1, he1, rfl⟩ := List.mem_map.mp ha
      obtain ⟨e2, he2, rfl⟩ := List.mem_map.mp hb
      obtain ⟨k, r, _, _, rfl⟩ := mem_waitsTo he2
      unfold allWaits at he1
      obtain ⟨i, hi, he1⟩ := List.mem_flatMap.mp he1
      obtain ⟨k', r', _, _, rfl⟩ := mem_waitsTo he1
      have := congrArg Prod.snd e
      have e3 : (i : Int) = (m : Int) := this
      have := List.mem_range.mp hi
      omega

/-- sorted by come and place -/
def WSorted (ws zs : List WE) : Prop := zs.Perm ws ∧ zs.Pairwise fun a b => SrtO.lexB b.key a.key = false
theorem key_inj : ∀ {ws : List WE}, (ws.map WE.key).Nodup → ∀ {a b : WE}, a ∈ ws → b ∈ ws → a.key = b.key → a = b
  | [], _, _, _, ha, _, _ => nomatch ha
  | x :: xs, hn, a, b, ha, hb, e => by
    rw [List.map_cons] at hn
    obtain ⟨h1, h2⟩ := List.nodup_cons.mp hn
    rcases List.mem_cons.mp ha with rfl | ha'
    · rcases List.mem_cons.mp hb with rfl | hb'
      · rfl
      · exact absurd (List.mem_map.mpr ⟨b, hb', e.symm⟩) h1
    · rcases List.mem_cons.mp hb with rfl | hb'
      · exact absurd (List.mem_map.mpr ⟨a, ha', e⟩) h1
      · exact key_inj h2 ha' hb' e
theorem wsorted_uniq {ws : List WE} (hn : (ws.map WE.key).Nodup) : ∀ {zs zs' : List WE}, WSorted ws zs → WSorted ws zs' → zs = zs' := by
  have inj := fun {a b : WE} => key_inj (a := a) (b := b) hn
  intro zs zs' ⟨p, s⟩ ⟨p', s'⟩
  have key : ∀ {l l' : List WE}, l.Perm l' → (∀ a ∈ l, a ∈ ws) → l.Pairwise (fun a b => SrtO.lexB b.key a.key = false) → l'.Pairwise (fun a b => SrtO.lexB b.key a.key = false) → l = l' := by
    intro l
    induction l with
    | nil => intro l' hp _ _ _; exact (List.Perm.nil_eq hp)
    | cons a l ih =>
      intro l' hp hm h1 h2
      cases l' with
      | nil => exact absurd hp.length_eq (by simp)
      | cons b l' =>
        have hab : a = b := by
          have ha : a ∈ b :: l' := hp.mem_iff.mp List.mem_cons_self
          have hb : b ∈ a :: l := hp.mem_iff.mpr List.mem_cons_self
          rcases List.mem_cons.mp ha with e | ha
          · exact e
          · rcases List.mem_cons.mp hb with e | hb
            · exact e.symm
            · have q1 := (List.pairwise_cons.mp h1).1 b hb
              have q2 := (List.pairwise_cons.mp h2).1 a ha
              refine inj (hm a List.mem_cons_self) (hm b (List.mem_cons_of_mem _ hb)) ?_
              have r1 := SrtO.lexB_no.mp q1
              have r2 := SrtO.lexB_no.mp q2
              refine Prod.ext ?_ ?_ <;> omega
        subst hab
        rw [ih hp.cons_inv (fun x hx => hm x (List.mem_cons_of_mem _ hx)) (List.pairwise_cons.mp h1).2 (List.pairwise_cons.mp h2).2]
  exact key (p.trans p'.symm) (fun a ha => p.mem_iff.mp ha) s s'
theorem exists_map {α β : Type} [DecidableEq α] [Inhabited β] : ∀ {xs : List α} {ws : List β}, xs.Nodup → xs.length = ws.length → ∃ f : α → β, xs.map f = ws
  | [], [], _, _ => ⟨fun _ => default, rfl⟩
  | [], _ :: _, _, h => by simp at h
  | _ :: _, [], _, h => by simp at h
  | x :: xs, w :: ws, hn, hl => by
    obtain ⟨h1, h2⟩ := List.nodup_cons.mp hn
    obtain ⟨f, hf⟩ := exists_map h2 (Nat.succ.inj hl)
    refine ⟨fun v => if v = x then w else f v, ?_⟩
    rw [List.map_cons, if_pos rfl]
    refine congrArg _ ?_
    rw [← hf]
    refine List.map_congr_left fun v hv => ?_
    rw [if_neg (fun z => h1 (by rw [← z]; exact hv))]
instance : Inhabited WE := ⟨⟨0, 0, hallS, 0, hallS, 0⟩⟩

/-- the list of the waits in the heap -/
def WAt (H : Hp) (xs : List V) (ws : List WE) : Prop := xs.length = ws.length ∧ ∀ (j : Nat) (e : WE), ws[j]? = some e → ∃ t c, xs[j]? = some (.ref t) ∧ H t = some (.tup [.int e.come, .int (e.place : Int), .ref c]) ∧ H c = some (.tup [.str e.name, .int e.step, .str e.room, .int e.come, .int e.enter])
theorem WAt.same {H H' : Hp} {xs : List V} {ws : List WE} (h : WAt H xs ws) (s : ∀ b o, H b = some o → (∃ ys, o = .tup ys) → H' b = some o) : WAt H' xs ws := by
  refine ⟨h.1, fun j e he => ?_⟩
  obtain ⟨t, c, h1, h2, h3⟩ := h.2 j e he
  exact ⟨t, c, h1, s _ _ h2 ⟨_, rfl⟩, s _ _ h3 ⟨_, rfl⟩⟩
theorem WAt.snoc {H : Hp} {xs : List V} {ws : List WE} (h : WAt H xs ws) {e : WE} {t c : Addr} (h2 : H t = some (.tup [.int e.come, .int (e.place : Int), .ref c])) (h3 : H c = some (.tup [.str e.name, .int e.step, .str e.room, .int e.come, .int e.enter])) : WAt H (xs ++ [.ref t]) (ws ++ [e]) := by
  refine ⟨by rw [List.length_append, List.length_append, h.1]; rfl, fun j e' he => ?_⟩
  by_cases hj : j < ws.length
  · rw [List.getElem?_append_left hj] at he
    rw [List.getElem?_append_left (by rw [h.1]; exact hj)]
    exact h.2 j e' he
  · have hj2 := (List.getElem?_eq_some_iff.mp he).1
    rw [List.length_append, List.length_singleton] at hj2
    have ej : j = ws.length := by omega
    subst ej
    rw [List.getElem?_append_right (Nat.le_refl _), Nat.sub_self] at he
    cases he
    refine ⟨t, c, ?_, h2, h3⟩
    rw [List.getElem?_append_right (by rw [h.1]; exact Nat.le_refl _), h.1, Nat.sub_self]
    rfl
/-- such a list is fit to be sorted -/
theorem WAt.fit {H : Hp} {xs : List V} {ws : List WE} (h : WAt H xs ws) (hn : (ws.map WE.key).Nodup) : ∃ f : V → WE, xs.map f = ws ∧ (∀ x ∈ xs, ∃ t c, x = .ref t ∧ H t = some (.tup [.int (f x).key.1, .int (f x).key.2, .ref c]) ∧ H c = some (.tup [.str (f x).name, .int (f x).step, .str (f x).room, .int (f x).come, .int (f x).enter])) ∧
    ∀ x ∈ xs, ∀ y ∈ xs, (f x).key = (f y).key → x = y := by
  have at_ : ∀ (j : Nat) (x : V), xs[j]? = some x → ∃ e, ws[j]? = some e := fun j x hx => by
    have := (List.getElem?_eq_some_iff.mp hx).1
    exact ⟨_, List.getElem?_eq_getElem (by rw [← h.1]; exact this)⟩
  have keyix : ∀ {i j : Nat} {a b : WE}, ws[i]? = some a → ws[j]? = some b → a.key = b.key → i = j := fun {i j a b} ha hb e => by
    refine nd_ix hn (i := i) (j := j) (x := a.key) ?_ ?_
    · rw [List.getElem?_map, ha]
      rfl
    · rw [List.getElem?_map, hb, e]
      rfl
  have hx : xs.Nodup := by
    refine List.pairwise_iff_getElem.mpr fun i j hi' hj' hij e => ?_
    have hi : xs[i]? = some xs[i] := List.getElem?_eq_getElem hi'
    have hj : xs[j]? = some xs[j] := List.getElem?_eq_getElem hj'
    obtain ⟨a, ha⟩ := at_ i _ hi
    obtain ⟨b, hb⟩ := at_ j _ hj
    obtain ⟨t, c, q1, q2, _⟩ := h.2 i a ha
    obtain ⟨t', c', r1, r2, _⟩ := h.2 j b hb
    rw [hi] at q1
    rw [hj] at r1
    have q1 := Option.some.inj q1
    have r1 := Option.some.inj r1
    rw [← e, q1] at r1
    cases r1
    rw [q2] at r2
    have : a.key = b.key := by
      injection r2 with r2
      injection r2 with r2
      simp at r2
      exact Prod.ext r2.1 r2.2.1
    have := keyix ha hb this
    omega
  obtain ⟨f, hf⟩ := exists_map (ws := ws) hx h.1
  have fat : ∀ {j : Nat} {x : V}, xs[j]? = some x → ws[j]? = some (f x) := fun {j x} hj => by
    rw [← hf, List.getElem?_map, hj]
    rfl
  refine ⟨f, hf, fun x hx => ?_, fun x hx y hy e => ?_⟩
  · obtain ⟨j, hj⟩ := List.getElem?_of_mem hx
    obtain ⟨t, c, q1, q2, q3⟩ := h.2 j _ (fat hj)
    rw [hj] at q1
    cases q1
    exact ⟨t, c, rfl, q2, q3⟩
  · obtain ⟨i, hi⟩ := List.getElem?_of_mem hx
    obtain ⟨j, hj⟩ := List.getElem?_of_mem hy
    have := keyix (fat hi) (fat hj) e
    subst this
    rw [hi] at hj
    exact Option.some.inj hj
end H5
/-! run. -/
namespace H5
open PySem L2 SX K51
open C8 (Cal Met Mak Def cal0 met0 mak0 pe_c pe_mk pe_mt pe_mt0 fnScope_by scC pe_gc InsC call_isC pss_cut tCut fnScope fnArgs fnBody)

def GroupsAt (K : PySem.W.Frag) (Cr : Addr) (H : Hp) (g : Addr) (ps : List Plan) : Prop := ∃ xs, SqL K H g xs ∧ xs.length = ps.length ∧ ∀ (i : Nat) (p : Plan), ps[i]? = some p → ∃ t r, xs[i]? = some (.ref t) ∧ SqT K H t [.str p.name, .ref r, .int p.start] ∧ RoundAt K Cr H r p.stays
def RunAt (K : PySem.W.Frag) (Er : Addr) (H : Hp) (v : V) (n : Nat) (rows : Nat → List (Row Str)) (zs : List WE) : Prop := ∃ u dx q1 q2, v = .ref u ∧ H u = some (.ins Er dx (uf q1 q2)) ∧ Dp K H (.ref q1) (.list ((List.range n).map fun i => .list ((rows i).map encRow))) ∧ Dp K H (.ref q2) (.list (zs.map encW))
def spRun (K : PySem.W.Frag) (Cr Er : Addr) : Sp := fun vs H Q _ => ∃ (g : Addr) (lv : V) (ps : List Plan) (L : List Str), vs = [.ref g, lv] ∧ GroupsAt K Cr H g ps ∧ Dp K H lv (.list (ps.map fun p => .list (p.lens.map PyData.int))) ∧ (∀ p ∈ ps, PlanOk L p) ∧ L.length ≤ 8 ∧ ps.length ≤ 14 ∧
  ∀ (v : V) (rows : Nat → List (Row Str)) (zs : List WE) (H' : Hp), Good (cfgOf ps) rows → WSorted (allWaits ps rows ps.length) zs → RunAt K Er H' v ps.length rows zs → Same H H' → Q v H'
theorem encP_at {ps : List Plan} {i : Nat} {p : Plan} (h : ps[i]? = some p) {rs : List Stay} (hw : WalkRows p.stays p.lens rs) (hf : Fits p.stays p.lens) :
    encP (cfgOf ps) i = .tuple [.int p.start, .list (rs.map fun r => encRL (r.1, r.2.2 - r.2.1))] := by
  have e := walkRows_zip hw hf
  unfold encP cfgOf
  simp only [h]
  rw [← e, List.map_map]
  rfl
theorem dpAll_of {K : PySem.W.Frag} {H : Hp} : ∀ {xs : List V} {ds : List PyData}, xs.length = ds.length → (∀ (i : Nat) (v : V) (d : PyData), xs[i]? = some v → ds[i]? = some d → Dp K H v d) → DpAll K H xs ds
  | [], [], _, _ => .nil
  | [], _ :: _, h, _ => by simp at h
  | _ :: _, [], h, _ => by simp at h
  | x :: xs, d :: ds, h, f => .cons (f 0 x d rfl rfl) (dpAll_of (Nat.succ.inj h) fun i v d h1 h2 => f (i + 1) v d h1 h2)
theorem waitOf_len {i k : Nat} {name : Str} {r : Row Str} : (waitOf i name k r).length ≤ 1 := by
  unfold waitOf
  split <;> simp
theorem waitsTo_len {i : Nat} {name : Str} {rows : List (Row Str)} : ∀ {m : Nat}, m ≤ rows.length → (waitsTo i name rows m).length ≤ m
  | 0, _ => Nat.zero_le _
  | m + 1, h => by
    obtain ⟨r, hr⟩ : ∃ r, rows[m]? = some r := ⟨_, List.getElem?_eq_getElem (by omega)⟩
    rw [waitsTo_succ hr, List.length_append]
    have := waitsTo_len (i := i) (name := name) (rows := rows) (m := m) (by omega)
    have := waitOf_len (i := i) (name := name) (k := m) (r := r)
    omega
theorem allWaits_len {ps : List Plan} {rows : Nat → List (Row Str)} (h : ∀ i, (rows i).length ≤ 6) : ∀ m, (allWaits ps rows m).length ≤ 6 * m
  | 0 => Nat.zero_le _
  | m + 1 => by
    rw [allWaits_succ, List.length_append]
    have := allWaits_len (ps := ps) h m
    have := waitsTo_len (i := m) (name := nameOf ps m) (rows := rows m) (Nat.le_refl _)
    have := h m
    omega
section
variable {P : Program} {w : World} {K : PySem.W.Frag} {mg : Str → Option Value} {base : Heap}
abbrev nRun : List Str := ["groups", "lengths", "plans", "_", "tour", "start", "row", "room", "enter", "leave", "house", "moments", "due", "waits", "place", "step", "come", "wait"]
theorem sc_run : FnScope nRun ["groups", "lengths"] (fnScope sRun) := fnScope_by (by decide +kernel)
theorem ok_run (B : Blt mg) {Cr Dh Er : Addr} (T : HTxt K mg Dh) (g_MOST_GROUPS : ∃ u, mg "MOST_GROUPS" = some u ∧ RelV (.int 14) u) (c_walk : Cal P w K mg base 3 "walk" (spWalk K Cr) []) (c_House : Mak P w K mg base 1 "House" Dh (spHInit K Dh) [])
    (m_happen : Met P w K mg base 3 Dh "happen" (spHappen K Dh) []) (c_Run : Mak P w K mg base 1 "Run" Er (spUInit K Er) [])
    {f : Addr} {fd : FuncData} (F : Def K mg "run" sRun f fd) (b : Binds K fd ["groups", "lengths"] []) : Cal P w K mg base 4 "run" (spRun K Cr Er) [] := by
  refine cal0 F b .nil sc_run (fun vs H Q E h => ?_) (fun cdv A outer s H vs Q E hr h => ?_)
  · obtain ⟨g, lv, ps, L, rfl, _⟩ := h
    rfl
  · obtain ⟨g, lv, ps, L, rfl, ⟨xs, hxs, hxl, hx⟩, hlv, hok, hL8, hn14, k⟩ := h
    obtain ⟨la, ls, rfl, hls, hld⟩ := Dp.lstE hlv
    have hll : ls.length = ps.length := by rw [DpAll.len hld, List.length_map]
    have hC := cfgL hok hL8 hn14
    refine ⟨_, pss_cons (ps_if (pt_cmpR op_gt (pe_callB call_len_seq (by rfl) B.len (by decide +kernel) (pa_cons (pv 0) pa_nil)) (pe_gc (by rfl) g_MOST_GROUPS) (nomark _)) (pss_one ps_never) pss_nil)
      (pss_cons (ps_if (pt_cmpR op_ne (pe_callB call_len_seq (by rfl) B.len (by decide +kernel) (pa_cons (pv 1) pa_nil)) (pe_callB call_len_seq (by rfl) B.len (by decide +kernel) (pa_cons (pv 0) pa_nil)) (nomark _)) (pss_one ps_never) pss_nil)
      (pss_cons (ps_set (i := 2) sc_run.nd rfl (Or.inl rfl) (pe_lst pa_nil))
      (pss_cons (ps_for PassesOwn.never rfl (pi_zip (by rfl) B.zip (pa_cons (pv 0) (pa_cons (pv 1) pa_nil))) (pg_tup rfl (pgs_cons (pg_tup rfl (pgs_cons (pg_name (i := 3) sc_run.nd rfl (Or.inl rfl)) (pgs_cons (pg_name (i := 4) sc_run.nd rfl (Or.inl rfl)) (pgs_cons (pg_name (i := 5) sc_run.nd rfl (Or.inl rfl)) pgs_nil)))) (pgs_cons (pg_name (i := 6) sc_run.nd rfl (Or.inl rfl)) pgs_nil))) (pss_one (ps_expr (pe_bm PySem.F.plainAttrs_list PySem.F.slot_list_append PySem.F.type_list_append mt_append (pv 2) (pa_cons (pe_tup (pa_cons (pv 5) (pa_cons (pe_lc (own := [("room", 7), ("enter", 8), ("leave", 9)]) (g := gTup K 3 (gCons (gName 7) (gCons (gName 8) (gCons (gName 9) gNil)))) rfl sc_run.nd (pi_list (pe_c c_walk hr (by decide) (by rfl) (pa_cons (pv 4) (pa_cons (pv 5) (pa_cons (pv 6) pa_nil))))) (blkOk_by (N := nRun) (sc := fnScope sRun) (by decide +kernel)) (fun _ _ _ _ _ => (pg_tup rfl (pgs_cons (pg_name (i := 7) sc_run.nd rfl (Or.inl rfl)) (pgs_cons (pg_name (i := 8) sc_run.nd rfl (Or.inl rfl)) (pgs_cons (pg_name (i := 9) sc_run.nd rfl (Or.inl rfl)) pgs_nil))))) (fun _ _ _ _ _ => pts_nil) (fun _ _ _ _ _ => (pe_tup (pa_cons (pv 7) (pa_cons (pe_op op_sub (pv 9) (pv 8)) pa_nil))))) pa_nil))) pa_nil)))))
      (pss_cons (ps_set (i := 10) sc_run.nd rfl (Or.inl rfl) (pe_mk c_House hr (by decide) (by rfl) (pa_cons (pv 2) pa_nil)))
      (pss_cons (ps_whileW PassesOwn.never (ptw_truth (pew_named (i := 11) sc_run.nd rfl (Or.inl rfl) (pew_of (pe_lc (own := [("due", 12)]) rfl sc_run.nd (pi_list (pe_fld (pv 10) rfl)) (blkOk_by (N := nRun) (sc := fnScope sRun) (by decide +kernel)) (fun _ _ _ _ _ => (pg_name (i := 12) sc_run.nd rfl (Or.inl rfl))) (fun _ _ _ _ _ => (pts_one (pt_cmpR op_notN (pv 12) pe_non (nomark _)))) (fun _ _ _ _ _ => (pv 12)))))) (pss_one (ps_expr (pe_mt m_happen hr (by decide) (pv 10) (pa_cons (pe_callB (cr_min rfl) (by rfl) B.min (by decide +kernel) (pa_cons (pv 11) pa_nil)) pa_nil)))) pss_nil)
      (pss_cons (ps_set (i := 13) sc_run.nd rfl (Or.inl rfl) (pe_lst pa_nil))
      (pss_cons (ps_for PassesOwn.never rfl (pi_range1 (by rfl) B.range (pa_cons (pe_callB call_len_seq (by rfl) B.len (by decide +kernel) (pa_cons (pv 0) pa_nil)) pa_nil)) (pg_name (i := 14) sc_run.nd rfl (Or.inl rfl)) (pss_cons (ps_set (i := 15) sc_run.nd rfl (Or.inl rfl) pe_int)
      (pss_one (ps_for PassesOwn.never rfl (pi_list (pe_ix ix_list (pe_fld (pv 10) rfl) (pv 14) (fun _ _ => rfl))) (pg_tup rfl (pgs_cons (pg_name (i := 7) sc_run.nd rfl (Or.inl rfl)) (pgs_cons (pg_name (i := 16) sc_run.nd rfl (Or.inl rfl)) (pgs_cons (pg_name (i := 8) sc_run.nd rfl (Or.inl rfl)) (pgs_cons (pg_name (i := 3) sc_run.nd rfl (Or.inl rfl)) pgs_nil))))) (pss_cons (ps_aug (i := 15) sc_run.nd rfl (.inl rfl) pe_int ip_add)
      (pss_one (ps_if (pt_cmpR op_lt (pv 16) (pv 8) (nomark _)) (pss_one (ps_expr (pe_bm PySem.F.plainAttrs_list PySem.F.slot_list_append PySem.F.type_list_append mt_append (pv 13) (pa_cons (pe_tup (pa_cons (pv 16) (pa_cons (pv 14) (pa_cons (pe_tup (pa_cons (pe_ix ix_tup (pe_ix ix_list (pv 0) (pv 14) (fun _ _ => rfl)) pe_int (fun _ _ => rfl)) (pa_cons (pv 15) (pa_cons (pv 7) (pa_cons (pv 16) (pa_cons (pv 8) pa_nil)))))) pa_nil)))) pa_nil)))) pss_nil)))))))
      (pss_one (ps_ret (pe_mk c_Run hr (by decide) (by rfl) (pa_cons (pe_fld (pv 10) rfl) (pa_cons (pe_lc (own := [("_", 3), ("wait", 17)]) (g := gTup K 3 (gCons (gName 3) (gCons (gName 3) (gCons (gName 17) gNil)))) rfl sc_run.nd (pi_list (pe_callB cr_sortedT3 (by rfl) B.sorted (by decide +kernel) (pa_cons (pv 13) pa_nil))) (blkOk_by (N := nRun) (sc := fnScope sRun) (by decide +kernel)) (fun _ _ _ _ _ => (pg_tup rfl (pgs_cons (pg_name (i := 3) sc_run.nd rfl (Or.inl rfl)) (pgs_cons (pg_name (i := 3) sc_run.nd rfl (Or.inl rfl)) (pgs_cons (pg_name (i := 17) sc_run.nd rfl (Or.inl rfl)) pgs_nil))))) (fun _ _ _ _ _ => pts_nil) (fun _ _ _ _ _ => (pv 17))) pa_nil)))))))))))), ?_⟩
    -- the counts
    refine ⟨_, rfl, g, _, rfl, .inl hxs, _, _, rfl, rfl, _, rfl, ?_⟩
    refine ite2 (fun hno => absurd (of_decide_eq_true hno) (by rw [hxl]; omega)) (fun _ => ?_)
    refine ⟨_, rfl, la, _, rfl, .inl hls, _, rfl, g, _, rfl, .inl hxs, rfl, _, rfl, ?_⟩
    rw [hll, hxl]
    refine iteNS rfl ?_
    -- plans = []
    refine ⟨(by show 0 ≤ sizeLine; decide), fun pp hpp => ?_⟩
    have s1 : Same H (upd H pp (.lst [])) := Same.new hpp
    refine ⟨_, rfl, _, rfl, g, la, xs, ls, rfl, s1.seq hxs, s1.seq hls, RZ.for_zipL (K := K) (a := g) (b := la) (xs := xs) (ys := ls) (by rw [hxl, hll]) (fun i σ H3 => ∃ (ys : List V) (v3 v4 v5 v6 v7 v8 v9 : Option V), σ = [some (.ref g), some (.ref la), some (.ref pp), v3, v4, v5, v6, v7, v8, v9, none, none, none, none, none, none, none, none] ∧
      H3 pp = some (.lst ys) ∧ DpAll K (R (fun b => H b = none ∧ b ≠ pp) H3) ys ((List.range i).map (encP (cfgOf ps))) ∧ Same H H3) ?_ ?_ ?_ ?_⟩
    · exact ⟨[], none, none, none, none, none, none, none, rfl, upd_same, .nil, s1⟩
    · rintro i σ H3 ⟨ys, v3, v4, v5, v6, v7, v8, v9, rfl, _, _, s3⟩
      exact ⟨s3.seq hxs, s3.seq hls⟩
    · rintro i x y Tt σ H3 hxi hyi ⟨ys, v3, v4, v5, v6, v7, v8, v9, rfl, g1, gD, s3⟩ hT
      have hi := (List.getElem?_eq_some_iff.mp hxi).1
      obtain ⟨p, hp⟩ : ∃ p, ps[i]? = some p := ⟨_, List.getElem?_eq_getElem (by omega)⟩
      obtain ⟨t, r, ht1, ht2, hr⟩ := hx i p hp
      rw [hxi] at ht1
      cases ht1
      obtain ⟨d, hd1, hd2⟩ := DpAll.getV hld hyi
      rw [List.getElem?_map, hp] at hd1
      cases hd1
      obtain ⟨hss, hfit⟩ := hok p (List.mem_of_getElem? hp)
      have sT : Same H3 (upd H3 Tt (.tup [.ref t, y])) := Same.new hT
      have s4 := s3.trans sT
      have g4 := sT _ _ g1
      refine ⟨Tt, _, rfl, SqT.of upd_same, rfl, _, _, rfl, t, _, rfl, sqT_same s4 ht2, rfl, _, _, rfl, _, _, rfl, _, _, rfl, rfl, _, _, rfl, rfl, ?_⟩
      -- plans.append((start, [..]))
      refine ⟨_, rfl, .inl ⟨rfl, _, SqL.of g4⟩, _, rfl, _, rfl, _, rfl, _, rfl, r, p.start, y, L, p.stays, p.lens, rfl, hr.same s4, hss, Dp.same s4 hd2, hfit, fun v rs H5 hw hDv s5 => ?_⟩
      obtain ⟨wa, us, rfl, hwa, hus⟩ := Dp.lstE hDv
      have hul : us.length = rs.length := by rw [DpAll.len hus, List.length_map]
      have hrl := hw.1
      have h6 := hss.2.1
      have g5 := s5 _ _ g4
      refine ⟨wa, rfl, ⟨_, SqL.le hwa⟩, fun Dc hDc => lc_list (K := K) (a := wa) (xs := us) (fun j H6 => ∃ zs, H6 Dc = some (.lst zs) ∧ DpAll K (R (fun b => H b = none ∧ b ≠ pp ∧ b ≠ Dc) H6) zs ((rs.take j).map fun r => encRL (r.1, r.2.2 - r.2.1)) ∧ Same H5 H6) ⟨[], upd_same, .nil, Same.new hDc⟩ (fun j H6 _ ⟨zs, _, _, s6⟩ => s6.seq (SqL.le hwa)) ?_ ?_⟩
      · rintro j x' H6 hxj ⟨zs, q1, q2, s6⟩
        have hj := (List.getElem?_eq_some_iff.mp hxj).1
        obtain ⟨d, hdj, hdx⟩ := DpAll.getV hus hxj
        rw [List.getElem?_map] at hdj
        obtain ⟨rr, hrj, rfl⟩ := Option.map_eq_some_iff.mp hdj
        obtain ⟨tt, rfl, htt⟩ := stay_at hdx
        have htt6 : SqT K H6 tt [.str rr.1, .int rr.2.1, .int rr.2.2] := sqT_same s6 (SqT.le htt)
        have hzl := DpAll.len q2
        rw [List.length_map, List.length_take] at hzl
        refine ⟨tt, _, rfl, htt6, rfl, _, _, rfl, _, _, rfl, _, _, rfl, rfl, rfl, _, rfl, _, rfl, _, rfl, _, _, rfl, rfl, (by show 2 ≤ sizeLine; decide), fun n hn => ?_⟩
        have nD : Dc ≠ n := ne_of_none q1 hn
        have np : pp ≠ n := ne_of_none (s6 _ _ g5) hn
        have hnH : H n = none := s4.free (s5.free (s6.free hn))
        refine ⟨zs, by rw [upd_ne nD]; exact q1, small1000 (by omega), zs ++ [.ref n], upd_same, ?_, ?_⟩
        · have e : (rs.take (j + 1)).map (fun r => encRL (r.1, r.2.2 - r.2.1)) = (rs.take j).map (fun r => encRL (r.1, r.2.2 - r.2.1)) ++ [encRL (rr.1, rr.2.2 - rr.2.1)] := by
            rw [List.take_add_one, hrj, List.map_append]
            rfl
          rw [e]
          refine DpAll.snoc (DpAll.same (R_same fun b o q e => ⟨q, ?_⟩) q2) (Dp.tup (SqT.of (R_of ⟨hnH, np.symm, nD.symm⟩ ?_)) (.cons (.str _) (.cons (.int _) .nil)))
          · rw [upd_ne q.2.2, upd_ne (ne_of_none e hn)]
            exact e
          · rw [upd_ne nD.symm, upd_same]
        · exact Same.putNew (Same.putNew s6 (s6.free hn)) hDc
      · rintro H6 ⟨zs, q1, q2, s6⟩
        rw [hul, List.take_length] at q2
        have g6 := s6 _ _ g5
        refine ⟨(by show 2 ≤ sizeLine; decide), fun n hn => ?_⟩
        have pn : pp ≠ n := ne_of_none g6 hn
        have pD : pp ≠ Dc := ne_of_none g5 hDc
        have nD : Dc ≠ n := ne_of_none q1 hn
        have s06 : Same H H6 := s4.trans (s5.trans s6)
        have hnH : H n = none := s06.free hn
        have hDH : H Dc = none := (s4.trans s5).free hDc
        have hyl := DpAll.len gD
        rw [List.length_map, List.length_range] at hyl
        refine ⟨pp, ys, .ref n, rfl, rfl, by rw [upd_ne pn]; exact g6, small1000 (by omega), ?_⟩
        have up : ∀ {b : Addr} {o o1 o2 : HO}, H6 b = some o → b ≠ pp → (upd (upd H6 n o1) pp o2) b = some o := fun {b o o1 o2} e hb => by
          rw [upd_ne hb, upd_ne (ne_of_none e hn)]
          exact e
        refine ⟨ys ++ [.ref n], _, _, _, _, _, _, _, rfl, upd_same, ?_, Same.putNew (Same.putNew s06 hnH) hpp⟩
        rw [List.range_succ, List.map_append]
        refine DpAll.snoc (DpAll.same (R_same fun b o q e => ⟨q, up (s6 _ _ (s5 _ _ (sT _ _ e))) q.2⟩) gD) ?_
        show Dp K _ _ (encP (cfgOf ps) i)
        rw [encP_at hp hw hfit]
        refine Dp.tup (SqT.of (R_of ⟨hnH, pn.symm⟩ ?_)) (.cons (.int _) (.cons (Dp.lst (SqL.of (R_of ⟨hDH, pD.symm⟩ (up q1 pD.symm))) (DpAll.same (R_same fun b o q e => ⟨⟨q.1, q.2.1⟩, up e q.2.1⟩) q2)) .nil))
        rw [upd_ne pn.symm, upd_same]
    · rintro σ H3 ⟨ys, v3, v4, v5, v6, v7, v8, v9, rfl, g1, gD, s3⟩
      rw [hxl] at gD
      -- house = House(plans)
      refine ⟨_, rfl, fun hp dx nx ndx nex => ?_⟩
      have npp : pp ≠ hp := ne_of_none g1 nx
      have u0 : ∀ {b : Addr} {o : HO}, H3 b = some o → b ≠ hp ∧ (upd (upd H3 dx (.own hp)) hp (.ins Dh dx [])) b = some o := fun {b o} e => by
        have n1 := ne_of_none e nx
        refine ⟨n1, ?_⟩
        rw [upd_ne n1, upd_ne (ne_of_none e ndx)]
        exact e
      have n1 := u0 g1
      refine ⟨hp, dx, .ref pp, cfgOf ps, L, rfl, upd_same, Dp.lst (SqL.of (R_of n1.1 n1.2)) (DpAll.same (R_same fun b o q e => u0 e) gD), hC, fun H4 h4 => ?_⟩
      have s34 : Same H3 (R (fun b => b ≠ hp) (upd (upd H3 dx (.own hp)) hp (.ins Dh dx []))) := fun b o e => R_of (u0 e).1 (u0 e).2
      have h4' := HouseIn.mono h4 s34
      obtain ⟨T0, I0, C0⟩ := init_inv hC.ok
      -- while (moments := ..)
      refine ⟨rfl, fun m σ H5 => ∃ (st : HS Str) (v11 v12 : Option V) (T1 : Int), m = mu (cfgOf ps) st ∧ σ = [some (.ref g), some (.ref la), some (.ref pp), v3, v4, v5, v6, v7, v8, v9, some (.ref hp), v11, v12, none, none, none, none, none] ∧ HouseIn K Dh (cfgOf ps) L H3 H5 hp st ∧ K51.Inv (cfgOf ps) st [] [] T1 ∧ Calm st,
        ⟨_, _, none, none, T0, rfl, rfl, h4', I0, C0⟩, ?_⟩
      rintro m σ H5 ⟨st, v11, v12, T1, rfl, rfl, h5, I5, C5⟩
      obtain ⟨A5, ρ5, a5, f5⟩ := id h5
      refine ⟨_, rfl, hp, Dh, A5.dx, _, _, rfl, a5.ob, T.cl, T.nD, hf_due A5, A5.du, rfl, ⟨_, SqL.of a5.due⟩, fun Dm hDm => lc_list (K := K) (a := A5.du) (xs := (List.range (cfgOf ps).n).map fun i => optI (st.due i)) (fun i H6 => H6 = upd H5 Dm (.lst (((List.range i).filterMap st.due).map V.int))) rfl (fun i H6 _ e => by rw [e]; exact (Same.new hDm).seq (SqL.of a5.due)) ?_ ?_⟩
      · rintro i x H6 hxi rfl
        have hi := (List.getElem?_eq_some_iff.mp hxi).1
        rw [List.length_map, List.length_range] at hi
        rw [get_range hi] at hxi
        cases hxi
        have hfl : ((List.range i).filterMap st.due).length ≤ i := Nat.le_trans (List.length_filterMap_le _ _) (by rw [List.length_range]; exact Nat.le_refl _)
        have hn := hC.n
        refine ⟨rfl, _, rfl, rfl, _, rfl, ?_⟩
        rw [List.range_succ, List.filterMap_append]
        cases hd : st.due i with
        | none =>
          refine iteF ?_
          simp [hd]
        | some d =>
          refine iteT ⟨_, rfl, _, upd_same, small1000 (by rw [List.length_map]; omega), ?_⟩
          rw [upd_upd]
          simp [hd, optI]
      · rintro H6 rfl
        rw [List.length_map, List.length_range]
        have a6 := a5.new (o := .lst (((List.range (cfgOf ps).n).filterMap st.due).map V.int)) hDm
        have f6 := frame_new (o := .lst (((List.range (cfgOf ps).n).filterMap st.due).map V.int)) f5 hDm
        have eDm : (upd H5 Dm (.lst (((List.range (cfgOf ps).n).filterMap st.due).map V.int))) Dm = some (.lst (((List.range (cfgOf ps).n).filterMap st.due).map V.int)) := upd_same
        refine ⟨_, .inl ⟨_, SqL.of eDm, rfl⟩, ?_⟩
        have hdn : ∀ (p : Nat) (d : Int), st.due p = some d → d ∈ (List.range (cfgOf ps).n).filterMap st.due := fun p d e => List.mem_filterMap.mpr ⟨p, List.mem_range.mpr (I5.due p d e).2.2.2, e⟩
        have hdn2 : ∀ d ∈ (List.range (cfgOf ps).n).filterMap st.due, ∃ p, st.due p = some d := fun d hd => by
          obtain ⟨p, _, e⟩ := List.mem_filterMap.mp hd
          exact ⟨p, e⟩
        have a6s := a6.self
        have hb6 : Same H3 (R (fun b => ρ5 b = none) (upd H5 Dm (.lst (((List.range (cfgOf ps).n).filterMap st.due).map V.int)))) := fun b o e => R_of (f6 b o e).1 (f6 b o e).2
        have s36 : Same H3 (upd H5 Dm (.lst (((List.range (cfgOf ps).n).filterMap st.due).map V.int))) := fun b o e => (f6 b o e).2
        generalize hH6 : upd H5 Dm (.lst (((List.range (cfgOf ps).n).filterMap st.due).map V.int)) = H6 at a6 f6 eDm a6s hb6 s36 ⊢
        generalize (List.range (cfgOf ps).n).filterMap st.due = ds at hdn hdn2 eDm
        clear hH6
        cases ds with
        | cons d0 ds' =>
          refine iteT ⟨fun σ' H' => ∃ (st' : HS Str) (v11 v12 : Option V) (T' : Int), mu (cfgOf ps) st' < mu (cfgOf ps) st ∧ σ' = [some (.ref g), some (.ref la), some (.ref pp), v3, v4, v5, v6, v7, v8, v9, some (.ref hp), v11, v12, none, none, none, none, none] ∧ HouseIn K Dh (cfgOf ps) L H3 H' hp st' ∧ K51.Inv (cfgOf ps) st' [] [] T' ∧ Calm st',
            fun σ' H' ⟨st', w11, w12, T', hmu, e1, e2, e3, e4⟩ => ⟨_, hmu, st', w11, w12, T', rfl, e1, e2, e3, e4⟩, ?_⟩
          -- house.happen(min(moments))
          refine ⟨_, rfl, hp, A5.dx, _, rfl, a6.ob, no_meth A5 (by decide +kernel), _, rfl, Dm, d0 :: ds', rfl, SqL.of eDm, by simp, fun m hm hmin => ?_⟩
          obtain ⟨pm, hpm⟩ := hdn2 m hm
          have hT1 : T1 < m := by
            obtain ⟨q1, q2, _⟩ := I5.due pm m hpm
            rcases Int.lt_or_eq_of_le q1 with q | q
            · exact q
            · exact absurd (q2 q.symm) (by simp)
          have hmin' : ∀ p d, st.due p = some d → m ≤ d := fun p d e => hmin d (hdn p d e)
          refine ⟨hp, m, T1, cfgOf ps, L, st, _, rfl, a6s, hC, I5, C5, hT1, hmin', fun H' order hord h' => ?_⟩
          obtain ⟨I7, C7⟩ := happen_ok hC.ok I5 C5 hT1 hmin' order hord
          exact ⟨_, _, _, m, happen_mu hC.ok I5 C5 hT1 hmin' order ⟨pm, hpm⟩, rfl, HouseIn.mono h' hb6, I7, C7⟩
        | nil =>
          refine iteF ?_
          have hnone : ∀ p, st.due p = none := fun p => by
            cases e : st.due p with
            | none => rfl
            | some d => exact absurd (hdn p d e) (by simp)
          have G := good_of I5 C5 hnone
          have hr6 : ∀ i, (st.rows i).length ≤ 6 := fun i => by
            rw [G.len i]
            exact hC.ps i
          have s06 : Same H H6 := s3.trans s36
          -- waits = []
          refine ⟨(by show 0 ≤ sizeLine; decide), fun wp hwp => ?_⟩
          refine ⟨_, rfl, g, _, rfl, .inl ((s06.trans (Same.new hwp)).seq hxs), _, rfl, by omega, by omega, ?_⟩
          have hxn : ((xs.length : Nat) : Int).toNat = ps.length := by omega
          rw [hxn]
          refine for_range (lo := 0) (n := ps.length) (fun i σ H7 => ∃ (wxs : List V) (u3 u7 u8 u14 u15 u16 : Option V), σ = [some (.ref g), some (.ref la), some (.ref pp), u3, v4, v5, v6, u7, u8, v9, some (.ref hp), some (.ref Dm), v12, some (.ref wp), u14, u15, u16, none] ∧
            H7 wp = some (.lst wxs) ∧ WAt H7 wxs (allWaits ps st.rows i) ∧ Same H6 H7) ?_ ?_ ?_
          · exact ⟨[], _, _, _, _, _, _, rfl, upd_same, ⟨rfl, fun j e h => by simp [allWaits] at h⟩, Same.new hwp⟩
          · rintro i σ H7 hi ⟨wxs, u3, u7, u8, u14, u15, u16, rfl, gw, hW, s7⟩
            have e0 : (0 : Int) + (i : Int) = (i : Int) := Int.zero_add _
            rw [e0]
            obtain ⟨p, hp'⟩ : ∃ p, ps[i]? = some p := ⟨_, List.getElem?_eq_getElem hi⟩
            obtain ⟨tg, rg, ht1, ht2, _⟩ := hx i p hp'
            have hnm : nameOf ps i = p.name := by
              unfold nameOf
              rw [hp']
            obtain ⟨ts, q1, q2⟩ := a6.row i hi
            have q2 : DpAll K _ ts ((st.rows i).map encRow) := q2
            have htl := DpAll.len q2
            rw [List.length_map] at htl
            -- step = 0
            refine ⟨_, rfl, hp, Dh, A5.dx, _, _, rfl, s7 _ _ a6.ob, T.cl, T.nR, hf_rows A5, _, rfl, A5.rw, _, _, _, rfl, rfl, SqL.of (s7 _ _ a6.rows), at_of (j := i) rfl (get_range hi), A5.ra i, rfl, ⟨_, SqL.of (s7 _ _ q1)⟩, for_list (K := K) (a := A5.ra i) (xs := ts) (fun j σ H8 => ∃ (wxs : List V) (u3 u7 u8 u16 : Option V), σ = [some (.ref g), some (.ref la), some (.ref pp), u3, v4, v5, v6, u7, u8, v9, some (.ref hp), some (.ref Dm), v12, some (.ref wp), some (.int i), some (.int j), u16, none] ∧
              H8 wp = some (.lst wxs) ∧ WAt H8 wxs (allWaits ps st.rows i ++ waitsTo i (nameOf ps i) (st.rows i) j) ∧ Same H6 H8) ?_ ?_ ?_ ?_⟩
            · exact ⟨wxs, _, _, _, _, rfl, gw, by simpa [waitsTo] using hW, s7⟩
            · rintro j σ H8 _ ⟨_, _, _, _, _, _, _, _, s8⟩
              exact SqL.of (s8 _ _ q1)
            · rintro j x σ H8 hxj ⟨wxs, u3, u7, u8, u16, rfl, gw, hW, s8⟩
              have hj := (List.getElem?_eq_some_iff.mp hxj).1
              obtain ⟨d, hdj, hdx⟩ := DpAll.getV q2 hxj
              rw [List.getElem?_map] at hdj
              obtain ⟨row, hrj, rfl⟩ := Option.map_eq_some_iff.mp hdj
              obtain ⟨t, zs, rfl, ht, hzs⟩ := Dp.tupE hdx
              obtain ⟨w1, r1, rfl, d1, hzs⟩ := DpAll.consE hzs
              obtain ⟨w2, r2, rfl, d2, hzs⟩ := DpAll.consE hzs
              obtain ⟨w3, r3, rfl, d3, hzs⟩ := DpAll.consE hzs
              obtain ⟨w4, r4, rfl, d4, hzs⟩ := DpAll.consE hzs
              rw [Dp.strE d1, Dp.intE d2, Dp.intE d3, Dp.intE d4, DpAll.nilE hzs] at ht
              have ht8 : SqT K H8 t [.str row.room, .int row.come, .int row.enter, .int row.leave] := sqT_same s8 (SqT.le ht)
              refine ⟨t, _, rfl, ht8, rfl, _, _, rfl, _, _, rfl, _, _, rfl, _, _, rfl, rfl, ?_⟩
              -- step += 1
              refine ⟨_, rfl, _, _, rfl, rfl, ?_⟩
              -- if come < enter
              refine ⟨_, rfl, _, rfl, _, _, rfl, rfl, _, rfl, ?_⟩
              rw [waitsTo_succ hrj, ← List.append_assoc]
              have hbound : wxs.length ≤ 100 := by
                rw [hW.1, List.length_append]
                have h1 := allWaits_len (ps := ps) hr6 i
                have h2 := waitsTo_len (i := i) (name := nameOf ps i) (rows := st.rows i) (m := j) (by omega)
                have h3 := hr6 i
                omega
              have ej : ((j : Nat) : Int) + 1 = ((j + 1 : Nat) : Int) := by omega
              refine ite2 (fun hlt => ?_) (fun hno => ?_)
              · have hlt : row.come < row.enter := of_decide_eq_true hlt
                refine ⟨_, rfl, .inl ⟨rfl, _, SqL.of gw⟩, _, rfl, _, rfl, _, rfl, _, rfl, g, _, _, _, rfl, rfl, (s06.trans s8).seq hxs, at_of (j := i) rfl ht1, tg, _, _, _, rfl, rfl, sqT_same (s06.trans s8) ht2, at_of (j := 0) rfl rfl, _, rfl, _, rfl, _, rfl, _, rfl, (by show 5 ≤ sizeLine; decide), fun c hc => ⟨(by show 3 ≤ sizeLine; decide), fun t2 ht2' => ?_⟩⟩
                have gw2 := Same.new (o := .tup [.str p.name, .int ((j : Int) + 1), .str row.room, .int row.come, .int row.enter]) hc _ _ gw
                have wc : wp ≠ c := ne_of_none gw hc
                have wt2 : wp ≠ t2 := ne_of_none gw2 ht2'
                refine ⟨wp, wxs, .ref t2, rfl, rfl, by rw [upd_ne wt2]; exact gw2, small1000 (by omega), ?_⟩
                have ec : (upd H8 c (.tup [.str p.name, .int ((j : Int) + 1), .str row.room, .int row.come, .int row.enter])) c = some (.tup [.str p.name, .int ((j : Int) + 1), .str row.room, .int row.come, .int row.enter]) := upd_same
                have ct2 : c ≠ t2 := ne_of_none ec ht2'
                refine ⟨wxs ++ [.ref t2], _, _, _, _, rfl, upd_same, ?_, ?_⟩
                · have ew : waitOf i (nameOf ps i) j row = [⟨row.come, i, p.name, (j : Int) + 1, row.room, row.enter⟩] := by
                    unfold waitOf
                    rw [if_pos hlt, hnm]
                  rw [ew]
                  refine WAt.snoc (t := t2) (c := c) (hW.same fun b o e ht => ?_) ?_ ?_
                  · have n1 : b ≠ wp := fun z => by
                      obtain ⟨ys', rfl⟩ := ht
                      rw [z, gw] at e
                      cases e
                    have n2 : b ≠ c := ne_of_none e hc
                    have e2 : (upd H8 c (.tup [.str p.name, .int ((j : Int) + 1), .str row.room, .int row.come, .int row.enter])) b = some o := by
                      rw [upd_ne n2]
                      exact e
                    rw [upd_ne n1, upd_ne (ne_of_none e2 ht2')]
                    exact e2
                  · rw [upd_ne wt2.symm, upd_same]
                  · rw [upd_ne wc.symm, upd_ne ct2]
                    exact ec
                · exact Same.putNew (Same.putNew (Same.putNew s8 (s8.free hc)) (s8.free ((Same.new hc).free ht2'))) hwp
              · have hno : ¬ row.come < row.enter := fun z => hno (decide_eq_true z)
                have ew : waitOf i (nameOf ps i) j row = [] := by
                  unfold waitOf
                  rw [if_neg hno]
                rw [ew, List.append_nil]
                exact ⟨wxs, _, _, _, _, rfl, gw, hW, s8⟩
            · rintro σ H8 ⟨wxs, u3, u7, u8, u16, rfl, gw, hW, s8⟩
              rw [htl, ← allWaits_succ] at hW
              exact ⟨wxs, _, _, _, _, _, _, rfl, gw, hW, s8⟩
          · rintro σ H8 ⟨wxs, u3, u7, u8, u14, u15, u16, rfl, gw, hW, s8⟩
            obtain ⟨ff, hf1, hf2, hf3⟩ := hW.fit (waits_lt hC.ok G ps.length)
            -- Run(house.rows, [wait for _, _, wait in sorted(waits)])
            refine ⟨_, rfl, hp, Dh, A5.dx, _, _, rfl, s8 _ _ a6.ob, T.cl, T.nR, hf_rows A5, _, rfl, wp, wxs, fun v => (ff v).key, rfl, SqL.of gw, (fun x hx => by
              obtain ⟨t, c, q1, q2, _⟩ := hf2 x hx
              exact ⟨t, c, q1, q2⟩), hf3, fun ys' q hsrt hperm hq => ?_⟩
            refine ⟨q, rfl, ⟨_, SqL.of upd_same⟩, fun Do hDo => lc_list (K := K) (a := q) (xs := ys') (fun j H9 => ∃ outs, H9 Do = some (.lst outs) ∧ DpAll K H8 outs ((ys'.take j).map fun v => encW (ff v)) ∧ Same (upd H8 q (.lst ys')) H9) ⟨[], upd_same, .nil, Same.new hDo⟩ (fun j H9 _ ⟨_, _, _, s9⟩ => SqL.of (s9 _ _ upd_same)) ?_ ?_⟩
            · rintro j x H9 hxj ⟨outs, o1, o2, s9⟩
              have hj := (List.getElem?_eq_some_iff.mp hxj).1
              have hm : x ∈ wxs := hperm.mem_iff.mp (List.mem_of_getElem? hxj)
              obtain ⟨t, c, rfl, q1, q2⟩ := hf2 x hm
              have s89 : Same H8 H9 := (Same.new hq).trans s9
              have hol := DpAll.len o2
              rw [List.length_map, List.length_take] at hol
              have hyl := hperm.length_eq
              have hbound : wxs.length ≤ 100 := by
                rw [hW.1]
                have h1 := allWaits_len (ps := ps) hr6 ps.length
                omega
              refine ⟨t, _, rfl, SqT.of (s89 _ _ q1), rfl, _, _, rfl, _, _, rfl, _, _, rfl, rfl, rfl, _, rfl, outs, o1, small1000 (by omega), outs ++ [.ref c], upd_same, ?_, Same.putNew s9 hDo⟩
              have e : (ys'.take (j + 1)).map (fun v => encW (ff v)) = (ys'.take j).map (fun v => encW (ff v)) ++ [encW (ff (.ref t))] := by
                rw [List.take_add_one, hxj, List.map_append]
                rfl
              rw [e]
              exact DpAll.snoc o2 (Dp.tup (SqT.of q2) (.cons (.str _) (.cons (.int _) (.cons (.str _) (.cons (.int _) (.cons (.int _) .nil))))))
            · rintro H9 ⟨outs, o1, o2, s9⟩
              rw [List.take_length] at o2
              have s89 : Same H8 H9 := (Same.new hq).trans s9
              intro u du nu ndu neu
              have u9 : ∀ {b : Addr} {o : HO}, H9 b = some o → b ≠ u ∧ (upd (upd H9 du (.own u)) u (.ins Er du [])) b = some o := fun {b o} e => by
                have n1 := ne_of_none e nu
                refine ⟨n1, ?_⟩
                rw [upd_ne n1, upd_ne (ne_of_none e ndu)]
                exact e
              refine ⟨u, du, A5.rw, Do, _, outs, rfl, upd_same, SqL.of (u9 (s89 _ _ (s8 _ _ a6.rows))).2, SqL.of (u9 o1).2, fun q1 q2 H' e1 e2 e3 e4 => ⟨rfl, ?_⟩⟩
              have s9' : Same H9 H' := fun b o e => e4 b o (u9 e).2 (u9 e).1
              have s8' : Same H8 H' := s89.trans s9'
              have s6' : Same H6 H' := s8.trans s8'
              refine k (.ref u) st.rows (ys'.map ff) H' G ⟨?_, ?_⟩ ⟨u, du, q1, q2, rfl, e1, Dp.lst (SqL.of e2) (dpAll_of (by rw [List.length_map, List.length_map]; rfl) fun i v d h1 h2 => ?_), Dp.lst (SqL.of e3) ?_⟩ (s06.trans s6')
              · have := hperm.map ff
                rw [hf1] at this
                exact this
              · exact List.pairwise_map.mpr hsrt
              · have hi : i < ps.length := by
                  have := (List.getElem?_eq_some_iff.mp h2).1
                  rw [List.length_map, List.length_range] at this
                  exact this
                rw [get_range (show i < (cfgOf ps).n from hi)] at h1
                cases h1
                rw [List.getElem?_map, List.getElem?_range hi] at h2
                cases h2
                obtain ⟨ts, q1, q2⟩ := a6.row i hi
                exact Dp.lst (SqL.of (s6' _ _ q1)) (DpAll.same s6' (DpAll.same R_le q2))
              · rw [List.map_map]
                exact DpAll.same s8' o2
end
end H5
/-! The law's looks: _law_is_int, _law_is_rows, _law_waits. -/
namespace H5
open PySem L2 SX K51
open C8 (Cal Met Mak Def cal0 met0 mak0 pe_c pe_mk pe_mt pe_mt0 fnScope_by scC pe_gc InsC call_isC pss_cut tCut fnScope fnArgs fnBody)

theorem tyL {K : PySem.W.Frag} {H : Hp} {a : Addr} {xs : List V} (h : SqL K H a xs) : TyX K H (.ref a) (.type "list") := by
  rcases h with (h | ⟨o, h⟩) | ⟨o, its, n, h, c, _⟩
  · exact .base (.lst h)
  · exact .base (.frz h)
  · exact .kList h c
theorem tyT {K : PySem.W.Frag} {H : Hp} {a : Addr} {xs : List V} (h : SqT K H a xs) : TyX K H (.ref a) (.type "tuple") := by
  rcases h with (h | ⟨o, h⟩) | ⟨o, its, n, h, c, _⟩
  · exact .base (.tup h)
  · exact .fTuple h
  · exact .kTuple h c
theorem kLL {K : PySem.W.Frag} : PySem.W.kitOne K (.type "list") (.type "list") = some true := kit_ty (by decide +kernel)
theorem kTT {K : PySem.W.Frag} : PySem.W.kitOne K (.type "tuple") (.type "tuple") = some true := kit_ty (by decide +kernel)
theorem kSS {K : PySem.W.Frag} : PySem.W.kitOne K (.type "str") (.type "str") = some true := kit_ty (by decide +kernel)
theorem kIS {K : PySem.W.Frag} : PySem.W.kitOne K (.type "int") (.type "str") = some false := kit_ty (by decide +kernel)
theorem kII {K : PySem.W.Frag} : PySem.W.kitOne K (.type "int") (.type "int") = some true := kit_ty (by decide +kernel)
theorem kIB {K : PySem.W.Frag} : PySem.W.kitOne K (.type "int") (.type "bool") = some false := kit_ty (by decide +kernel)

def spIsInt : Sp := fun vs H Q _ => ∃ i : Int, vs = [.int i] ∧ Q (.bl true) H
def FlatD (e : PyData) : Prop := (∃ s, e = .str s) ∨ ∃ i, e = .int i
def spIsRows (K : PySem.W.Frag) : Sp := fun vs H Q _ => ∃ (v u : V) (ds : List (List PyData)), vs = [v, u] ∧ Dp K H v (.list (ds.map PyData.tuple)) ∧ Dp K H u (.list (ds.map PyData.tuple)) ∧ (∀ d ∈ ds, (∀ e ∈ d, FlatD e) ∧ d.length ≤ 1000) ∧ ds.length ≤ 1000 ∧ Q (.bl true) H
def spWaits (K : PySem.W.Frag) : Sp := fun vs H Q _ => ∃ (v u : V) (ps : List Plan) (L : List Str) (rows : Nat → List (Row Str)), vs = [v, u] ∧ Dp K H v (.list (ps.map encPlan)) ∧ Dp K H u (.list ((List.range ps.length).map fun i => .list ((rows i).map encRow))) ∧ Good (cfgOf ps) rows ∧ CfgL (cfgOf ps) L ∧
  ∀ (v : V) (zs : List WE) (H' : Hp), WSorted (allWaits ps rows ps.length) zs → Dp K H' v (.list (zs.map encW)) → Same H H' → Q v H'
theorem plan_at {K : PySem.W.Frag} {H : Hp} {x : V} {p : Plan} (h : Dp K H x (encPlan p)) : ∃ t sa la, x = .ref t ∧ SqT K H t [.str p.name, .ref sa, .int p.start, .ref la] ∧ Dp K H (.ref sa) (.list (p.stays.map encStay)) ∧ Dp K H (.ref la) (.list (p.lens.map PyData.int)) := by
  obtain ⟨t, xs, rfl, h1, h2⟩ := Dp.tupE h
  obtain ⟨v1, r1, rfl, d1, h2⟩ := DpAll.consE h2
  obtain ⟨v2, r2, rfl, d2, h2⟩ := DpAll.consE h2
  obtain ⟨v3, r3, rfl, d3, h2⟩ := DpAll.consE h2
  obtain ⟨v4, r4, rfl, d4, h2⟩ := DpAll.consE h2
  have e4 := DpAll.nilE h2
  subst e4
  obtain ⟨sa, _, rfl, _⟩ := Dp.lstE d2
  obtain ⟨la, _, rfl, _⟩ := Dp.lstE d4
  rw [Dp.strE d1, Dp.intE d3] at h1
  exact ⟨t, sa, la, rfl, h1, d2, d4⟩
theorem row_at {K : PySem.W.Frag} {H : Hp} {x : V} {r : Row Str} (h : Dp K H x (encRow r)) : ∃ t, x = .ref t ∧ SqT K H t [.str r.room, .int r.come, .int r.enter, .int r.leave] := by
  obtain ⟨t, xs, rfl, h1, h2⟩ := Dp.tupE h
  obtain ⟨v1, r1, rfl, d1, h2⟩ := DpAll.consE h2
  obtain ⟨v2, r2, rfl, d2, h2⟩ := DpAll.consE h2
  obtain ⟨v3, r3, rfl, d3, h2⟩ := DpAll.consE h2
  obtain ⟨v4, r4, rfl, d4, h2⟩ := DpAll.consE h2
  rw [Dp.strE d1, Dp.intE d2, Dp.intE d3, Dp.intE d4, DpAll.nilE h2] at h1
  exact ⟨t, rfl, h1⟩
section
variable {P : Program} {w : World} {K : PySem.W.Frag} {mg : Str → Option Value} {base : Heap}
abbrev nIsInt : List Str := ["_law_value"]
theorem sc_isint : FnScope nIsInt ["_law_value"] (fnScope sIsInt) := fnScope_by (by decide +kernel)
theorem ok_isint (B : Blt mg) {f : Addr} {fd : FuncData} (F : Def K mg "_law_is_int" sIsInt f fd) (b : Binds K fd ["_law_value"] []) : Cal P w K mg base 1 "_law_is_int" spIsInt [] := by
  refine cal0 F b .nil sc_isint (fun vs H Q E h => ?_) (fun cdv A outer s H vs Q E hr h => ?_)
  · obtain ⟨i, rfl, _⟩ := h
    rfl
  · obtain ⟨i, rfl, k⟩ := h
    refine ⟨_, pss_one (ps_ret (pe_and (pe_callB call_isi (by rfl) B.isinstance (by decide +kernel) (pa_cons (pv 0) (pa_cons (pe_bltn (v := .ty "int") (by rfl) B.int (by decide +kernel) rfl) pa_nil))) (pe_one (pe_not (pe_callB call_isi (by rfl) B.isinstance (by decide +kernel) (pa_cons (pv 0) (pa_cons (pe_bltn (v := .ty "bool") (by rfl) B.bool (by decide +kernel) rfl) pa_nil))))))), ?_⟩
    refine ⟨_, rfl, _, _, _, _, _, rfl, .ty "int", .base (.int i), kII, _, rfl, iteT ?_⟩
    refine ⟨_, rfl, _, _, _, _, _, rfl, .ty "bool", .base (.int i), kIB, _, rfl, ?_⟩
    exact k

abbrev nIsRows : List Str := ["_law_value", "_law_due", "_law_k", "_law_row", "_law_n"]
theorem sc_isrows : FnScope nIsRows ["_law_value", "_law_due"] (fnScope sIsRows) := fnScope_by (by decide +kernel)
theorem ok_isrows (B : Blt mg) (c__law_is_int : Cal P w K mg base 1 "_law_is_int" spIsInt []) {f : Addr} {fd : FuncData} (F : Def K mg "_law_is_rows" sIsRows f fd) (b : Binds K fd ["_law_value", "_law_due"] []) : Cal P w K mg base 2 "_law_is_rows" (spIsRows K) [] := by
  refine cal0 F b .nil sc_isrows (fun vs H Q E h => ?_) (fun cdv A outer s H vs Q E hr h => ?_)
  · obtain ⟨v, u, ds, rfl, _⟩ := h
    rfl
  · obtain ⟨v, u, ds, rfl, hv, hu', hds, hdl, k⟩ := h
    obtain ⟨va, vxs, rfl, hva, hvd⟩ := Dp.lstE hv
    obtain ⟨ua, uxs, rfl, hua, hud⟩ := Dp.lstE hu'
    have hvl : vxs.length = ds.length := by rw [DpAll.len hvd, List.length_map]
    have hul : uxs.length = ds.length := by rw [DpAll.len hud, List.length_map]
    refine ⟨_, pss_cons (ps_if (PW.pt (pw_or (pt_not (pt_val (pe_callB call_isi (by rfl) B.isinstance (by decide +kernel) (pa_cons (pv 0) (pa_cons (pe_bltn (v := .ty "list") (by rfl) B.list (by decide +kernel) rfl) pa_nil))))) (pw_or1 (pt_cmpR op_ne (pe_callB call_len_seq (by rfl) B.len (by decide +kernel) (pa_cons (pv 0) pa_nil)) (pe_callB call_len_seq (by rfl) B.len (by decide +kernel) (pa_cons (pv 1) pa_nil)) (nomark _))))) (pss_one (ps_ret pe_bl)) pss_nil)
      (pss_cons (ps_for PassesOwn.never rfl (pi_range1 (by rfl) B.range (pa_cons (pe_callB call_len_seq (by rfl) B.len (by decide +kernel) (pa_cons (pv 1) pa_nil)) pa_nil)) (pg_name (i := 2) sc_isrows.nd rfl (Or.inl rfl)) (pss_cons (ps_set (i := 3) sc_isrows.nd rfl (Or.inl rfl) (pe_ix ix_list (pv 0) (pv 2) (fun _ _ => rfl)))
      (pss_cons (ps_if (PW.pt (pw_or (pt_not (pt_val (pe_callB call_isi (by rfl) B.isinstance (by decide +kernel) (pa_cons (pv 3) (pa_cons (pe_bltn (v := .ty "tuple") (by rfl) B.tuple (by decide +kernel) rfl) pa_nil))))) (pw_or1 (pt_cmpR op_ne (pe_callB call_len_seq (by rfl) B.len (by decide +kernel) (pa_cons (pv 3) pa_nil)) (pe_callB call_len_seq (by rfl) B.len (by decide +kernel) (pa_cons (pe_ix ix_list (pv 1) (pv 2) (fun _ _ => rfl)) pa_nil)) (nomark _))))) (pss_one (ps_ret pe_bl)) pss_nil)
      (pss_one (ps_for PassesOwn.never rfl (pi_range1 (by rfl) B.range (pa_cons (pe_callB call_len_seq (by rfl) B.len (by decide +kernel) (pa_cons (pv 3) pa_nil)) pa_nil)) (pg_name (i := 4) sc_isrows.nd rfl (Or.inl rfl)) (pss_one (ps_if (pt_val (pe_callB call_isi (by rfl) B.isinstance (by decide +kernel) (pa_cons (pe_ix ix_tup (pe_ix ix_list (pv 1) (pv 2) (fun _ _ => rfl)) (pv 4) (fun _ _ => rfl)) (pa_cons (pe_bltn (v := .ty "str") (by rfl) B.str (by decide +kernel) rfl) pa_nil)))) (pss_one (ps_if (PW.pt (pw_or (pt_not (pt_val (pe_callB call_isi (by rfl) B.isinstance (by decide +kernel) (pa_cons (pe_ix ix_tup (pv 3) (pv 4) (fun _ _ => rfl)) (pa_cons (pe_bltn (v := .ty "str") (by rfl) B.str (by decide +kernel) rfl) pa_nil))))) (pw_or1 (pt_cmpR op_ne (pe_ix ix_tup (pv 3) (pv 4) (fun _ _ => rfl)) (pe_ix ix_tup (pe_ix ix_list (pv 1) (pv 2) (fun _ _ => rfl)) (pv 4) (fun _ _ => rfl)) (nomark _))))) (pss_one (ps_ret pe_bl)) pss_nil)) (pss_one (ps_if (PW.pt (pw_or (pt_not (pt_val (pe_c c__law_is_int hr (by decide) (by rfl) (pa_cons (pe_ix ix_tup (pv 3) (pv 4) (fun _ _ => rfl)) pa_nil)))) (pw_or1 (pt_cmpR op_ne (pe_ix ix_tup (pv 3) (pv 4) (fun _ _ => rfl)) (pe_ix ix_tup (pe_ix ix_list (pv 1) (pv 2) (fun _ _ => rfl)) (pv 4) (fun _ _ => rfl)) (nomark _))))) (pss_one (ps_ret pe_bl)) pss_nil)))))))))
      (pss_one (ps_ret pe_bl))), ?_⟩
    refine ⟨_, rfl, _, _, _, _, _, rfl, .ty "list", tyL hva, kLL, _, rfl, iteF ?_⟩
    refine ⟨_, rfl, va, _, rfl, .inl hva, _, rfl, ua, _, rfl, .inl hua, rfl, _, rfl, ?_⟩
    rw [hvl, hul]
    refine iteNS rfl ?_
    refine ⟨_, rfl, ua, _, rfl, .inl hua, _, rfl, by omega, by omega, ?_⟩
    have hn : ((uxs.length : Nat) : Int).toNat = ds.length := by omega
    rw [hn]
    refine for_range (lo := 0) (n := ds.length) (fun i σ H1 => H1 = H ∧ ∃ v2 v3 v4 : Option V, σ = [some (.ref va), some (.ref ua), v2, v3, v4]) ⟨rfl, none, none, none, rfl⟩ ?_ ?_
    · rintro i σ H1 hi ⟨rfl, v2, v3, v4, rfl⟩
      rw [Int.zero_add]
      obtain ⟨d, hd⟩ : ∃ d, ds[i]? = some d := ⟨_, List.getElem?_eq_getElem hi⟩
      obtain ⟨hflat, hd1000⟩ := hds d (List.mem_of_getElem? hd)
      obtain ⟨x, hx1, hx2⟩ := DpAll.get hvd (i := i) (d := .tuple d) (by rw [List.getElem?_map, hd]; rfl)
      obtain ⟨y, hy1, hy2⟩ := DpAll.get hud (i := i) (d := .tuple d) (by rw [List.getElem?_map, hd]; rfl)
      obtain ⟨tx, xs, rfl, htx, hxs⟩ := Dp.tupE hx2
      obtain ⟨ty', ys, rfl, hty, hys⟩ := Dp.tupE hy2
      have hxl := DpAll.len hxs
      have hyl := DpAll.len hys
      refine ⟨_, rfl, _, rfl, va, _, _, _, rfl, rfl, hva, at_of (j := i) rfl hx1, ?_⟩
      refine ⟨_, rfl, _, _, _, _, _, rfl, .ty "tuple", tyT htx, kTT, _, rfl, iteF ?_⟩
      refine ⟨_, rfl, tx, _, rfl, .inr htx, _, rfl, _, rfl, ua, _, _, _, rfl, rfl, hua, at_of (j := i) rfl hy1, ty', _, rfl, .inr hty, rfl, _, rfl, ?_⟩
      rw [hxl, hyl]
      refine iteNS rfl ?_
      refine ⟨_, rfl, tx, _, rfl, .inr htx, _, rfl, by omega, by omega, ?_⟩
      have hn : ((xs.length : Nat) : Int).toNat = d.length := by omega
      rw [hn]
      refine for_range (lo := 0) (n := d.length) (fun j σ H2 => H2 = H1 ∧ ∃ v4 : Option V, σ = [some (.ref va), some (.ref ua), some (.int i), some (.ref tx), v4]) ⟨rfl, v4, rfl⟩ ?_ ?_
      · rintro j σ H2 hj ⟨rfl, v4, rfl⟩
        rw [Int.zero_add]
        obtain ⟨e, he⟩ : ∃ e, d[j]? = some e := ⟨_, List.getElem?_eq_getElem hj⟩
        obtain ⟨a, ha1, ha2⟩ := DpAll.get hxs he
        obtain ⟨c, hc1, hc2⟩ := DpAll.get hys he
        refine ⟨_, rfl, _, rfl, ua, _, _, _, rfl, rfl, hua, at_of (j := i) rfl hy1, _, rfl, ty', _, _, _, rfl, rfl, hty, at_of (j := j) rfl hc1, ?_⟩
        rcases hflat e (List.mem_of_getElem? he) with ⟨z, rfl⟩ | ⟨z, rfl⟩
        · rw [Dp.strE ha2] at ha1
          rw [Dp.strE hc2] at hc1 ⊢
          refine ⟨_, _, _, _, _, rfl, .ty "str", .base (.str z), kSS, _, rfl, iteT ?_⟩
          refine ⟨_, rfl, _, rfl, tx, _, _, _, rfl, rfl, htx, at_of (j := j) rfl ha1, _, _, _, _, _, rfl, .ty "str", .base (.str z), kSS, _, rfl, iteF ?_⟩
          refine ⟨_, rfl, _, rfl, tx, _, _, _, rfl, rfl, htx, at_of (j := j) rfl ha1, _, rfl, _, rfl, ua, _, _, _, rfl, rfl, hua, at_of (j := i) rfl hy1, _, rfl, ty', _, _, _, rfl, rfl, hty, at_of (j := j) rfl hc1, rfl, _, rfl, ?_⟩
          exact iteNS rfl ⟨rfl, _, rfl⟩
        · rw [Dp.intE ha2] at ha1
          rw [Dp.intE hc2] at hc1 ⊢
          refine ⟨_, _, _, _, _, rfl, .ty "str", .base (.int z), kIS, _, rfl, iteF ?_⟩
          refine ⟨_, rfl, _, rfl, tx, _, _, _, rfl, rfl, htx, at_of (j := j) rfl ha1, z, rfl, _, rfl, iteF ?_⟩
          refine ⟨_, rfl, _, rfl, tx, _, _, _, rfl, rfl, htx, at_of (j := j) rfl ha1, _, rfl, _, rfl, ua, _, _, _, rfl, rfl, hua, at_of (j := i) rfl hy1, _, rfl, ty', _, _, _, rfl, rfl, hty, at_of (j := j) rfl hc1, rfl, _, rfl, ?_⟩
          exact iteNS rfl ⟨rfl, _, rfl⟩
      · rintro σ H2 ⟨rfl, v4, rfl⟩
        exact ⟨rfl, _, _, _, rfl⟩
    · rintro σ H1 ⟨rfl, v2, v3, v4, rfl⟩
      exact k

/-- _law_waits -/
abbrev nWaits : List Str := ["_law_plans", "_law_rows", "_law_found", "_law_k", "_law_n", "_law_row", "_law_wait"]
theorem sc_waits : FnScope nWaits ["_law_plans", "_law_rows"] (fnScope sWaits) := fnScope_by (by decide +kernel)
theorem ok_waits (B : Blt mg) {f : Addr} {fd : FuncData} (F : Def K mg "_law_waits" sWaits f fd) (b : Binds K fd ["_law_plans", "_law_rows"] []) : Cal P w K mg base 1 "_law_waits" (spWaits K) [] := by
  refine cal0 F b .nil sc_waits (fun vs H Q E h => ?_) (fun cdv A outer s H vs Q E hr h => ?_)
  · obtain ⟨v, u, ps, L, rows, rfl, _⟩ := h
    rfl
  · obtain ⟨v, u, ps, L, rows, rfl, hv, hu', G, hC, k⟩ := h
    obtain ⟨pa, pxs, rfl, hpa, hpd⟩ := Dp.lstE hv
    obtain ⟨ra, rxs, rfl, hra, hrd⟩ := Dp.lstE hu'
    have hpl : pxs.length = ps.length := by rw [DpAll.len hpd, List.length_map]
    have hn14 : ps.length ≤ 14 := hC.n
    have hr6 : ∀ i, (rows i).length ≤ 6 := fun i => by
      rw [G.len i]
      exact hC.ps i
    refine ⟨_, pss_cons (ps_set (i := 2) sc_waits.nd rfl (Or.inl rfl) (pe_lst pa_nil))
      (pss_cons (ps_for PassesOwn.never rfl (pi_range1 (by rfl) B.range (pa_cons (pe_callB call_len_seq (by rfl) B.len (by decide +kernel) (pa_cons (pv 0) pa_nil)) pa_nil)) (pg_name (i := 3) sc_waits.nd rfl (Or.inl rfl)) (pss_one (ps_for PassesOwn.never rfl (pi_range1 (by rfl) B.range (pa_cons (pe_callB call_len_seq (by rfl) B.len (by decide +kernel) (pa_cons (pe_ix ix_list (pv 1) (pv 3) (fun _ _ => rfl)) pa_nil)) pa_nil)) (pg_name (i := 4) sc_waits.nd rfl (Or.inl rfl)) (pss_cons (ps_set (i := 5) sc_waits.nd rfl (Or.inl rfl) (pe_ix ix_list (pe_ix ix_list (pv 1) (pv 3) (fun _ _ => rfl)) (pv 4) (fun _ _ => rfl)))
      (pss_one (ps_if (pt_cmpR op_lt (pe_ix ix_tup (pv 5) pe_int (fun _ _ => rfl)) (pe_ix ix_tup (pv 5) pe_int (fun _ _ => rfl)) (nomark _)) (pss_one (ps_expr (pe_bm PySem.F.plainAttrs_list PySem.F.slot_list_append PySem.F.type_list_append mt_append (pv 2) (pa_cons (pe_tup (pa_cons (pe_ix ix_tup (pv 5) pe_int (fun _ _ => rfl)) (pa_cons (pv 3) (pa_cons (pe_tup (pa_cons (pe_ix ix_tup (pe_ix ix_list (pv 0) (pv 3) (fun _ _ => rfl)) pe_int (fun _ _ => rfl)) (pa_cons (pe_op op_add (pv 4) pe_int) (pa_cons (pe_ix ix_tup (pv 5) pe_int (fun _ _ => rfl)) (pa_cons (pe_ix ix_tup (pv 5) pe_int (fun _ _ => rfl)) (pa_cons (pe_ix ix_tup (pv 5) pe_int (fun _ _ => rfl)) pa_nil)))))) pa_nil)))) pa_nil)))) pss_nil))))))
      (pss_one (ps_ret (pe_lc (own := [("_law_wait", 6)]) (te := tOp (rIxT K) (tVar 6) (tC (.int 2))) rfl sc_waits.nd (pi_list (pe_callB cr_sortedT3 (by rfl) B.sorted (by decide +kernel) (pa_cons (pv 2) pa_nil))) (blkOk_by (N := nWaits) (sc := fnScope sWaits) (by decide +kernel)) (fun _ _ _ _ _ => (pg_name (i := 6) sc_waits.nd rfl (Or.inl rfl))) (fun _ _ _ _ _ => pts_nil) (fun _ _ _ _ _ => (pe_ix ix_tup (pv 6) pe_int (fun _ _ => rfl))))))), ?_⟩
    refine ⟨(by show 0 ≤ sizeLine; decide), fun wp hwp => ?_⟩
    refine ⟨_, rfl, pa, _, rfl, .inl ((Same.new hwp).seq hpa), _, rfl, by omega, by omega, ?_⟩
    have hn : ((pxs.length : Nat) : Int).toNat = ps.length := by omega
    rw [hn]
    refine for_range (lo := 0) (n := ps.length) (fun i σ H7 => ∃ (wxs : List V) (v3 v4 v5 : Option V), σ = [some (.ref pa), some (.ref ra), some (.ref wp), v3, v4, v5, none] ∧ H7 wp = some (.lst wxs) ∧ WAt H7 wxs (allWaits ps rows i) ∧ Same H H7) ?_ ?_ ?_
    · exact ⟨[], none, none, none, rfl, upd_same, ⟨rfl, fun j e h => by simp [allWaits] at h⟩, Same.new hwp⟩
    · rintro i σ H7 hi ⟨wxs, v3, v4, v5, rfl, gw, hW, s7⟩
      rw [Int.zero_add]
      obtain ⟨p, hp⟩ : ∃ p, ps[i]? = some p := ⟨_, List.getElem?_eq_getElem hi⟩
      have hnm : nameOf ps i = p.name := by
        unfold nameOf
        rw [hp]
      obtain ⟨x, hx1, hx2⟩ := DpAll.get hpd (i := i) (d := encPlan p) (by rw [List.getElem?_map, hp]; rfl)
      obtain ⟨tp, sa, la, rfl, htp, _, _⟩ := plan_at hx2
      obtain ⟨y, hy1, hy2⟩ := DpAll.get hrd (i := i) (d := .list ((rows i).map encRow)) (by simp [hi])
      obtain ⟨rl, ts, rfl, hrl, hts⟩ := Dp.lstE hy2
      have htl := DpAll.len hts
      rw [List.length_map] at htl
      have h6 := hr6 i
      refine ⟨_, rfl, _, rfl, ra, _, _, _, rfl, rfl, s7.seq hra, at_of (j := i) rfl hy1, rl, _, rfl, .inl (s7.seq hrl), _, rfl, by omega, by omega, ?_⟩
      have hn : ((ts.length : Nat) : Int).toNat = (rows i).length := by omega
      rw [hn]
      refine for_range (lo := 0) (n := (rows i).length) (fun j σ H8 => ∃ (wxs : List V) (v4 v5 : Option V), σ = [some (.ref pa), some (.ref ra), some (.ref wp), some (.int i), v4, v5, none] ∧ H8 wp = some (.lst wxs) ∧ WAt H8 wxs (allWaits ps rows i ++ waitsTo i (nameOf ps i) (rows i) j) ∧ Same H H8) ?_ ?_ ?_
      · exact ⟨wxs, _, _, rfl, gw, by simpa [waitsTo] using hW, s7⟩
      · rintro j σ H8 hj ⟨wxs, v4, v5, rfl, gw, hW, s8⟩
        rw [Int.zero_add]
        obtain ⟨row, hrow⟩ : ∃ row, (rows i)[j]? = some row := ⟨_, List.getElem?_eq_getElem hj⟩
        obtain ⟨z, hz1, hz2⟩ := DpAll.get hts (i := j) (d := encRow row) (by rw [List.getElem?_map, hrow]; rfl)
        obtain ⟨t, rfl, ht⟩ := row_at hz2
        have ht8 := sqT_same s8 ht
        refine ⟨_, rfl, _, rfl, ra, _, _, _, rfl, rfl, s8.seq hra, at_of (j := i) rfl hy1, _, rfl, rl, _, _, _, rfl, rfl, s8.seq hrl, at_of (j := j) rfl hz1, ?_⟩
        refine ⟨_, rfl, t, _, _, _, rfl, rfl, ht8, at_of (j := 1) rfl rfl, _, rfl, t, _, _, _, rfl, rfl, ht8, at_of (j := 2) rfl rfl, _, _, rfl, rfl, _, rfl, ?_⟩
        rw [waitsTo_succ hrow, ← List.append_assoc]
        have hbound : wxs.length ≤ 100 := by
          rw [hW.1, List.length_append]
          have h1 := allWaits_len (ps := ps) hr6 i
          have h2 := waitsTo_len (i := i) (name := nameOf ps i) (rows := rows i) (m := j) (by omega)
          omega
        refine ite2 (fun hlt => ?_) (fun hno => ?_)
        · have hlt : row.come < row.enter := of_decide_eq_true hlt
          refine ⟨_, rfl, .inl ⟨rfl, _, SqL.of gw⟩, _, rfl, t, _, _, _, rfl, rfl, ht8, at_of (j := 1) rfl rfl, _, rfl, _, rfl, _, rfl, pa, _, _, _, rfl, rfl, s8.seq hpa, at_of (j := i) rfl hx1, tp, _, _, _, rfl, rfl, sqT_same s8 htp, at_of (j := 0) rfl rfl, _, rfl, _, _, rfl, rfl,
            _, rfl, t, _, _, _, rfl, rfl, ht8, at_of (j := 0) rfl rfl, _, rfl, t, _, _, _, rfl, rfl, ht8, at_of (j := 1) rfl rfl, _, rfl, t, _, _, _, rfl, rfl, ht8, at_of (j := 2) rfl rfl, (by show 5 ≤ sizeLine; decide), fun c hc => ⟨(by show 3 ≤ sizeLine; decide), fun t2 ht2' => ?_⟩⟩
          have gw2 := Same.new (o := .tup [.str p.name, .int ((j : Int) + 1), .str row.room, .int row.come, .int row.enter]) hc _ _ gw
          have wc : wp ≠ c := ne_of_none gw hc
          have wt2 : wp ≠ t2 := ne_of_none gw2 ht2'
          refine ⟨wp, wxs, .ref t2, rfl, rfl, by rw [upd_ne wt2]; exact gw2, small1000 (by omega), ?_⟩
          have ec : (upd H8 c (.tup [.str p.name, .int ((j : Int) + 1), .str row.room, .int row.come, .int row.enter])) c = some (.tup [.str p.name, .int ((j : Int) + 1), .str row.room, .int row.come, .int row.enter]) := upd_same
          have ct2 : c ≠ t2 := ne_of_none ec ht2'
          refine ⟨wxs ++ [.ref t2], _, _, rfl, upd_same, ?_, ?_⟩
          · have ew : waitOf i (nameOf ps i) j row = [⟨row.come, i, p.name, (j : Int) + 1, row.room, row.enter⟩] := by
              unfold waitOf
              rw [if_pos hlt, hnm]
            rw [ew]
            refine WAt.snoc (t := t2) (c := c) (hW.same fun b o e ht => ?_) ?_ ?_
            · have n1 : b ≠ wp := fun z => by
                obtain ⟨ys', rfl⟩ := ht
                rw [z, gw] at e
                cases e
              have n2 : b ≠ c := ne_of_none e hc
              have e2 : (upd H8 c (.tup [.str p.name, .int ((j : Int) + 1), .str row.room, .int row.come, .int row.enter])) b = some o := by
                rw [upd_ne n2]
                exact e
              rw [upd_ne n1, upd_ne (ne_of_none e2 ht2')]
              exact e2
            · rw [upd_ne wt2.symm, upd_same]
            · rw [upd_ne wc.symm, upd_ne ct2]
              exact ec
          · exact Same.putNew (Same.putNew (Same.putNew s8 (s8.free hc)) (s8.free ((Same.new hc).free ht2'))) hwp
        · have hno : ¬ row.come < row.enter := fun z => hno (decide_eq_true z)
          have ew : waitOf i (nameOf ps i) j row = [] := by
            unfold waitOf
            rw [if_neg hno]
          rw [ew, List.append_nil]
          exact ⟨wxs, _, _, rfl, gw, hW, s8⟩
      · rintro σ H8 ⟨wxs, v4, v5, rfl, gw, hW, s8⟩
        rw [← allWaits_succ] at hW
        exact ⟨wxs, _, _, _, rfl, gw, hW, s8⟩
    · rintro σ H8 ⟨wxs, v3, v4, v5, rfl, gw, hW, s8⟩
      obtain ⟨ff, hf1, hf2, hf3⟩ := hW.fit (waits_lt hC.ok G ps.length)
      refine ⟨_, rfl, wp, wxs, fun v => (ff v).key, rfl, SqL.of gw, (fun x hx => by
        obtain ⟨t, c, q1, q2, _⟩ := hf2 x hx
        exact ⟨t, c, q1, q2⟩), hf3, fun ys' q hsrt hperm hq => ?_⟩
      refine ⟨q, rfl, ⟨_, SqL.of upd_same⟩, fun Do hDo => lc_list (K := K) (a := q) (xs := ys') (fun j H9 => ∃ outs, H9 Do = some (.lst outs) ∧ DpAll K H8 outs ((ys'.take j).map fun v => encW (ff v)) ∧ Same (upd H8 q (.lst ys')) H9) ⟨[], upd_same, .nil, Same.new hDo⟩ (fun j H9 _ ⟨_, _, _, s9⟩ => SqL.of (s9 _ _ upd_same)) ?_ ?_⟩
      · rintro j x H9 hxj ⟨outs, o1, o2, s9⟩
        have hj := (List.getElem?_eq_some_iff.mp hxj).1
        have hm : x ∈ wxs := hperm.mem_iff.mp (List.mem_of_getElem? hxj)
        obtain ⟨t, c, rfl, q1, q2⟩ := hf2 x hm
        have s89 : Same H8 H9 := (Same.new hq).trans s9
        have hol := DpAll.len o2
        rw [List.length_map, List.length_take] at hol
        have hyl := hperm.length_eq
        have hbound : wxs.length ≤ 100 := by
          rw [hW.1]
          have h1 := allWaits_len (ps := ps) hr6 ps.length
          omega
        refine ⟨rfl, _, rfl, t, _, _, _, rfl, rfl, SqT.of (s89 _ _ q1), at_of (j := 2) rfl rfl, outs, o1, small1000 (by omega), outs ++ [.ref c], upd_same, ?_, Same.putNew s9 hDo⟩
        have e : (ys'.take (j + 1)).map (fun v => encW (ff v)) = (ys'.take j).map (fun v => encW (ff v)) ++ [encW (ff (.ref t))] := by
          rw [List.take_add_one, hxj, List.map_append]
          rfl
        rw [e]
        exact DpAll.snoc o2 (Dp.tup (SqT.of q2) (.cons (.str _) (.cons (.int _) (.cons (.str _) (.cons (.int _) (.cons (.int _) .nil))))))
      · rintro H9 ⟨outs, o1, o2, s9⟩
        rw [List.take_length] at o2
        have s89 : Same H8 H9 := (Same.new hq).trans s9
        refine k (.ref Do) (ys'.map ff) H9 ⟨?_, ?_⟩ (Dp.lst (SqL.of o1) ?_) (s8.trans s89)
        · have := hperm.map ff
          rw [hf1] at this
          exact this
        · exact List.pairwise_map.mpr hsrt
        · rw [List.map_map]
          exact DpAll.same s89 o2
end
end H5
/-! The law's looks: _law_lines, _law_orderly. -/
namespace H5
open PySem L2 SX K51
open C8 (Cal Met Mak Def cal0 met0 mak0 pe_c pe_mk pe_mt pe_mt0 fnScope_by scC pe_gc InsC call_isC pss_cut tCut fnScope fnArgs fnBody)

/-- a line: the group's place and the row -/
def encL (e : Nat × Row Str) : PyData := .tuple [.str e.2.room, .int e.2.come, .int (e.1 : Int), .int e.2.enter, .int e.2.leave]
def linesTo (i : Nat) (rows : List (Row Str)) (m : Nat) : List (Nat × Row Str) := (rows.take m).map fun r => (i, r)
def allLines (rows : Nat → List (Row Str)) (m : Nat) : List (Nat × Row Str) := (List.range m).flatMap fun i => linesTo i (rows i) (rows i).length
theorem linesTo_succ {i : Nat} {rows : List (Row Str)} {m : Nat} {r : Row Str} (h : rows[m]? = some r) : linesTo i rows (m + 1) = linesTo i rows m ++ [(i, r)] := by
  unfold linesTo
  rw [List.take_add_one, h, List.map_append]
  rfl
theorem allLines_succ {rows : Nat → List (Row Str)} {m : Nat} : allLines rows (m + 1) = allLines rows m ++ linesTo m (rows m) (rows m).length := by
  unfold allLines
  rw [List.range_succ, List.flatMap_append]
  simp
theorem allLines_len {rows : Nat → List (Row Str)} (h : ∀ i, (rows i).length ≤ 6) : ∀ m, (allLines rows m).length ≤ 6 * m
  | 0 => Nat.zero_le _
  | m + 1 => by
    rw [allLines_succ, List.length_append]
    have := allLines_len h m
    have := h m
    unfold linesTo
    rw [List.length_map, List.length_take]
    omega
/-- every line is a row, two lines are two rows -/
theorem line_row {rows : Nat → List (Row Str)} : ∀ {m a : Nat} {e : Nat × Row Str}, (allLines rows m)[a]? = some e → e.1 < m ∧ ∃ k, (rows e.1)[k]? = some e.2 ∧ a = (allLines rows e.1).length + k
  | 0, a, e, h => by simp [allLines] at h
  | m + 1, a, e, h => by
    rw [allLines_succ] at h
    by_cases ha : a < (allLines rows m).length
    · rw [List.getElem?_append_left ha] at h
      obtain ⟨h1, k, h2, h3⟩ := line_row h
      exact ⟨by omega, k, h2, h3⟩
    · rw [List.getElem?_append_right (by omega)] at h
      unfold linesTo at h
      rw [List.take_length, List.getElem?_map] at h
      obtain ⟨r, hr, rfl⟩ := Option.map_eq_some_iff.mp h
      exact ⟨Nat.lt_succ_self m, _, hr, by show a = (allLines rows m).length + _; omega⟩
theorem row_line {rows : Nat → List (Row Str)} : ∀ {m p k : Nat} {r : Row Str}, p < m → (rows p)[k]? = some r → (allLines rows m)[(allLines rows p).length + k]? = some (p, r)
  | 0, p, k, r, h, _ => absurd h (Nat.not_lt_zero _)
  | m + 1, p, k, r, h, hr => by
    rw [allLines_succ]
    by_cases e : p = m
    · subst e
      rw [List.getElem?_append_right (by omega), Nat.add_sub_cancel_left]
      unfold linesTo
      rw [List.take_length, List.getElem?_map, hr]
      rfl
    · have q := row_line (m := m) (p := p) (k := k) (r := r) (by omega) hr
      rw [List.getElem?_append_left (List.getElem?_eq_some_iff.mp q).1]
      exact q

/-- what _law_orderly asks -/
structure LinesOk (ls : List (Nat × Row Str)) : Prop where
  noLap : ∀ (a b : Nat) (x y : Nat × Row Str), ls[a]? = some x → ls[b]? = some y → a ≠ b → y.2.room = x.2.room → x.2.room ≠ hallS → x.2.leave ≤ y.2.enter ∨ y.2.leave ≤ x.2.enter
  fifo : ∀ (a b : Nat) (x y : Nat × Row Str), ls[a]? = some x → ls[b]? = some y → y.2.room = x.2.room → x.2.room ≠ hallS → Lex (x.2.come, x.1) (y.2.come, y.1) → x.2.enter ≤ y.2.enter
  served : ∀ (a : Nat) (x : Nat × Row Str), ls[a]? = some x → x.2.room ≠ hallS → x.2.come = x.2.enter ∨ ∃ (b : Nat) (y : Nat × Row Str), ls[b]? = some y ∧ a ≠ b ∧ y.2.room = x.2.room ∧ y.2.leave = x.2.enter
theorem lines_ok {C : Cfg Str} {rows : Nat → List (Row Str)} (ok : C.Ok) (hh : C.hall = hallS) (G : Good C rows) : LinesOk (allLines rows C.n) := by
  refine ⟨fun a b x y hx hy hab hr hn => ?_, fun a b x y hx hy hr hn hl => ?_, fun a x hx hn => ?_⟩
  · obtain ⟨_, k, h1, h2⟩ := line_row hx
    obtain ⟨_, k', h3, h4⟩ := line_row hy
    refine G.noLap _ _ _ _ _ _ h1 h3 (fun z => hab ?_) hr.symm (by rw [hh]; exact hn)
    obtain ⟨z1, z2⟩ := z
    rw [h2, h4, z1, z2]
  · obtain ⟨_, k, h1, h2⟩ := line_row hx
    obtain ⟨_, k', h3, h4⟩ := line_row hy
    exact G.fifo _ _ _ _ _ _ h1 h3 hr.symm (by rw [hh]; exact hn) hl
  · obtain ⟨_, k, h1, h2⟩ := line_row hx
    have hce := G.ce _ _ _ h1
    by_cases e : x.2.come = x.2.enter
    · exact .inl e
    · obtain ⟨p', i', r', q1, q2, q3⟩ := G.served _ _ _ h1 (by rw [hh]; exact hn) (by omega)
      have hp : p' < C.n := by
        rcases Nat.lt_or_ge p' C.n with q | q
        · exact q
        · have h0 := G.len p'
          rw [ok.out p' q] at h0
          have h0 : (rows p').length = 0 := h0
          have h5 := (List.getElem?_eq_some_iff.mp q1).1
          omega
      refine .inr ⟨_, (p', r'), row_line hp q1, fun z => ?_, q2, q3⟩
      have hx2 := row_line (m := C.n) hp q1
      rw [← z, hx] at hx2
      have e2 : x = (p', r') := Option.some.inj hx2
      rw [e2] at q3
      obtain ⟨l, q4, q5⟩ := G.room _ _ _ q1
      have := ok.pos _ _ _ _ q4
      have q3 : r'.leave = r'.enter := q3
      omega

def spLines (K : PySem.W.Frag) : Sp := fun vs H Q _ => ∃ (v u : V) (ps : List Plan) (L : List Str) (rows : Nat → List (Row Str)), vs = [v, u] ∧ Dp K H v (.list ((List.range ps.length).map fun i => .list ((rows i).map encRow))) ∧ Dp K H u (.list (ps.map encPlan)) ∧ Good (cfgOf ps) rows ∧ CfgL (cfgOf ps) L ∧ (∀ p ∈ ps, PlanOk L p) ∧
  ∀ (p : Addr) (H' : Hp), Dp K H' (.ref p) (.list ((allLines rows ps.length).map encL)) → Same H H' → Q (.ref p) H'
def spOrderly (K : PySem.W.Frag) : Sp := fun vs H Q _ => ∃ (v : V) (ls : List (Nat × Row Str)), vs = [v] ∧ Dp K H v (.list (ls.map encL)) ∧ LinesOk ls ∧ ls.length ≤ 1000 ∧ ∀ H', Same H H' → Q (.bl true) H'
theorem line_at {K : PySem.W.Frag} {H : Hp} {x : V} {e : Nat × Row Str} (h : Dp K H x (encL e)) : ∃ t, x = .ref t ∧ SqT K H t [.str e.2.room, .int e.2.come, .int (e.1 : Int), .int e.2.enter, .int e.2.leave] := by
  obtain ⟨t, xs, rfl, h1, h2⟩ := Dp.tupE h
  obtain ⟨v1, r1, rfl, d1, h2⟩ := DpAll.consE h2
  obtain ⟨v2, r2, rfl, d2, h2⟩ := DpAll.consE h2
  obtain ⟨v3, r3, rfl, d3, h2⟩ := DpAll.consE h2
  obtain ⟨v4, r4, rfl, d4, h2⟩ := DpAll.consE h2
  obtain ⟨v5, r5, rfl, d5, h2⟩ := DpAll.consE h2
  rw [Dp.strE d1, Dp.intE d2, Dp.intE d3, Dp.intE d4, Dp.intE d5, DpAll.nilE h2] at h1
  exact ⟨t, rfl, h1⟩
section
variable {P : Program} {w : World} {K : PySem.W.Frag} {mg : Str → Option Value} {base : Heap}
abbrev nLines : List Str := ["_law_walks", "_law_plans", "_law_found", "_law_k", "_law_stays_here", "_law_moment", "_law_n", "_law_row"]
theorem sc_lines : FnScope nLines ["_law_walks", "_law_plans"] (fnScope sLines) := fnScope_by (by decide +kernel)
theorem ok_lines (B : Blt mg) (c__law_is_int : Cal P w K mg base 1 "_law_is_int" spIsInt []) {f : Addr} {fd : FuncData} (F : Def K mg "_law_lines" sLines f fd) (b : Binds K fd ["_law_walks", "_law_plans"] []) : Cal P w K mg base 2 "_law_lines" (spLines K) [] := by
  refine cal0 F b .nil sc_lines (fun vs H Q E h => ?_) (fun cdv A outer s H vs Q E hr h => ?_)
  · obtain ⟨v, u, ps, L, rows, rfl, _⟩ := h
    rfl
  · obtain ⟨v, u, ps, L, rows, rfl, hv, hu', G, hC, hok, k⟩ := h
    obtain ⟨ra, rxs, rfl, hra, hrd⟩ := Dp.lstE hv
    obtain ⟨pa, pxs, rfl, hpa, hpd⟩ := Dp.lstE hu'
    have hpl : pxs.length = ps.length := by rw [DpAll.len hpd, List.length_map]
    have hrl : rxs.length = ps.length := by rw [DpAll.len hrd, List.length_map, List.length_range]
    have hn14 : ps.length ≤ 14 := hC.n
    have hr6 : ∀ i, (rows i).length ≤ 6 := fun i => by
      rw [G.len i]
      exact hC.ps i
    refine ⟨_, pss_cons (ps_if (PW.pt (pw_or (pt_not (pt_val (pe_callB call_isi (by rfl) B.isinstance (by decide +kernel) (pa_cons (pv 0) (pa_cons (pe_bltn (v := .ty "list") (by rfl) B.list (by decide +kernel) rfl) pa_nil))))) (pw_or1 (pt_cmpR op_ne (pe_callB call_len_seq (by rfl) B.len (by decide +kernel) (pa_cons (pv 0) pa_nil)) (pe_callB call_len_seq (by rfl) B.len (by decide +kernel) (pa_cons (pv 1) pa_nil)) (nomark _))))) (pss_one (ps_ret pe_non)) pss_nil)
      (pss_cons (ps_set (i := 2) sc_lines.nd rfl (Or.inl rfl) (pe_lst pa_nil))
      (pss_cons (ps_for PassesOwn.never rfl (pi_range1 (by rfl) B.range (pa_cons (pe_callB call_len_seq (by rfl) B.len (by decide +kernel) (pa_cons (pv 1) pa_nil)) pa_nil)) (pg_name (i := 3) sc_lines.nd rfl (Or.inl rfl)) (pss_cons (ps_set (i := 4) sc_lines.nd rfl (Or.inl rfl) (pe_ix ix_tup (pe_ix ix_list (pv 1) (pv 3) (fun _ _ => rfl)) pe_int (fun _ _ => rfl)))
      (pss_cons (ps_set (i := 5) sc_lines.nd rfl (Or.inl rfl) (pe_ix ix_tup (pe_ix ix_list (pv 1) (pv 3) (fun _ _ => rfl)) pe_int (fun _ _ => rfl)))
      (pss_cons (ps_if (PW.pt (pw_or (pt_not (pt_val (pe_callB call_isi (by rfl) B.isinstance (by decide +kernel) (pa_cons (pe_ix ix_list (pv 0) (pv 3) (fun _ _ => rfl)) (pa_cons (pe_bltn (v := .ty "list") (by rfl) B.list (by decide +kernel) rfl) pa_nil))))) (pw_or1 (pt_cmpR op_ne (pe_callB call_len_seq (by rfl) B.len (by decide +kernel) (pa_cons (pe_ix ix_list (pv 0) (pv 3) (fun _ _ => rfl)) pa_nil)) (pe_callB call_len_seq (by rfl) B.len (by decide +kernel) (pa_cons (pv 4) pa_nil)) (nomark _))))) (pss_one (ps_ret pe_non)) pss_nil)
      (pss_one (ps_for PassesOwn.never rfl (pi_range1 (by rfl) B.range (pa_cons (pe_callB call_len_seq (by rfl) B.len (by decide +kernel) (pa_cons (pv 4) pa_nil)) pa_nil)) (pg_name (i := 6) sc_lines.nd rfl (Or.inl rfl)) (pss_cons (ps_set (i := 7) sc_lines.nd rfl (Or.inl rfl) (pe_ix ix_list (pe_ix ix_list (pv 0) (pv 3) (fun _ _ => rfl)) (pv 6) (fun _ _ => rfl)))
      (pss_cons (ps_if (PW.pt (pw_or (pt_not (pt_val (pe_callB call_isi (by rfl) B.isinstance (by decide +kernel) (pa_cons (pv 7) (pa_cons (pe_bltn (v := .ty "tuple") (by rfl) B.tuple (by decide +kernel) rfl) pa_nil))))) (pw_or (pt_cmpR op_ne (pe_callB call_len_seq (by rfl) B.len (by decide +kernel) (pa_cons (pv 7) pa_nil)) pe_int (nomark _)) (pw_or (pt_not (pt_val (pe_callB call_isi (by rfl) B.isinstance (by decide +kernel) (pa_cons (pe_ix ix_tup (pv 7) pe_int (fun _ _ => rfl)) (pa_cons (pe_bltn (v := .ty "str") (by rfl) B.str (by decide +kernel) rfl) pa_nil))))) (pw_or1 (pt_cmpR op_ne (pe_ix ix_tup (pv 7) pe_int (fun _ _ => rfl)) (pe_ix ix_tup (pe_ix ix_list (pv 4) (pv 6) (fun _ _ => rfl)) pe_int (fun _ _ => rfl)) (nomark _))))))) (pss_one (ps_ret pe_non)) pss_nil)
      (pss_cons (ps_if (PW.pt (pw_or (pt_not (pt_val (pe_c c__law_is_int hr (by decide) (by rfl) (pa_cons (pe_ix ix_tup (pv 7) pe_int (fun _ _ => rfl)) pa_nil)))) (pw_or (pt_not (pt_val (pe_c c__law_is_int hr (by decide) (by rfl) (pa_cons (pe_ix ix_tup (pv 7) pe_int (fun _ _ => rfl)) pa_nil)))) (pw_or1 (pt_not (pt_val (pe_c c__law_is_int hr (by decide) (by rfl) (pa_cons (pe_ix ix_tup (pv 7) pe_int (fun _ _ => rfl)) pa_nil)))))))) (pss_one (ps_ret pe_non)) pss_nil)
      (pss_cons (ps_if (PW.pt (pw_or (pt_cmpR op_ne (pe_ix ix_tup (pv 7) pe_int (fun _ _ => rfl)) (pv 5) (nomark _)) (pw_or (pt_cmpR op_lt (pe_ix ix_tup (pv 7) pe_int (fun _ _ => rfl)) (pv 5) (nomark _)) (pw_or1 (pt_cmpR op_ne (pe_ix ix_tup (pv 7) pe_int (fun _ _ => rfl)) (pe_op op_add (pe_ix ix_tup (pv 7) pe_int (fun _ _ => rfl)) (pe_ix ix_list (pe_ix ix_tup (pe_ix ix_list (pv 1) (pv 3) (fun _ _ => rfl)) pe_int (fun _ _ => rfl)) (pv 6) (fun _ _ => rfl))) (nomark _)))))) (pss_one (ps_ret pe_non)) pss_nil)
      (pss_cons (ps_if (PW.pt (pw_and (pt_cmpR op_eq (pe_ix ix_tup (pv 7) pe_int (fun _ _ => rfl)) pe_str (nomark _)) (pw_and1 (pt_cmpR op_ne (pe_ix ix_tup (pv 7) pe_int (fun _ _ => rfl)) (pv 5) (nomark _))))) (pss_one (ps_ret pe_non)) pss_nil)
      (pss_cons (ps_expr (pe_bm PySem.F.plainAttrs_list PySem.F.slot_list_append PySem.F.type_list_append mt_append (pv 2) (pa_cons (pe_tup (pa_cons (pe_ix ix_tup (pv 7) pe_int (fun _ _ => rfl)) (pa_cons (pe_ix ix_tup (pv 7) pe_int (fun _ _ => rfl)) (pa_cons (pv 3) (pa_cons (pe_ix ix_tup (pv 7) pe_int (fun _ _ => rfl)) (pa_cons (pe_ix ix_tup (pv 7) pe_int (fun _ _ => rfl)) pa_nil)))))) pa_nil)))
      (pss_one (ps_set (i := 5) sc_lines.nd rfl (Or.inl rfl) (pe_ix ix_tup (pv 7) pe_int (fun _ _ => rfl))))))))))))))))
      (pss_one (ps_ret (pv 2))))), ?_⟩
    refine ⟨_, rfl, _, _, _, _, _, rfl, .ty "list", tyL hra, kLL, _, rfl, iteF ?_⟩
    refine ⟨_, rfl, ra, _, rfl, .inl hra, _, rfl, pa, _, rfl, .inl hpa, rfl, _, rfl, ?_⟩
    rw [hrl, hpl]
    refine iteNS rfl ?_
    refine ⟨(by show 0 ≤ sizeLine; decide), fun fp hfp => ?_⟩
    refine ⟨_, rfl, pa, _, rfl, .inl ((Same.new hfp).seq hpa), _, rfl, by omega, by omega, ?_⟩
    have hn : ((pxs.length : Nat) : Int).toNat = ps.length := by omega
    rw [hn]
    refine for_range (lo := 0) (n := ps.length) (fun i σ H3 => ∃ (fxs : List V) (v3 v4 v5 v6 v7 : Option V), σ = [some (.ref ra), some (.ref pa), some (.ref fp), v3, v4, v5, v6, v7] ∧ H3 fp = some (.lst fxs) ∧ DpAll K (R (fun b => b ≠ fp) H3) fxs ((allLines rows i).map encL) ∧ Same H H3) ?_ ?_ ?_
    · exact ⟨[], none, none, none, none, none, rfl, upd_same, .nil, Same.new hfp⟩
    · rintro i σ H3 hi ⟨fxs, v3, v4, v5, v6, v7, rfl, gf, gD, s3⟩
      rw [Int.zero_add]
      obtain ⟨p, hp⟩ : ∃ p, ps[i]? = some p := ⟨_, List.getElem?_eq_getElem hi⟩
      obtain ⟨hss, hfit⟩ := hok p (List.mem_of_getElem? hp)
      obtain ⟨x, hx1, hx2⟩ := DpAll.get hpd (i := i) (d := encPlan p) (by rw [List.getElem?_map, hp]; rfl)
      obtain ⟨tp, sa, la, rfl, htp, hsa, hla⟩ := plan_at hx2
      obtain ⟨_, sxs, e, hsx, hsd⟩ := Dp.lstE hsa
      cases e
      obtain ⟨_, lxs, e, hlx, hld⟩ := Dp.lstE hla
      cases e
      have elx := DpAll.ints hld
      subst elx
      have hsl : sxs.length = p.stays.length := by rw [DpAll.len hsd, List.length_map]
      obtain ⟨y, hy1, hy2⟩ := DpAll.get hrd (i := i) (d := .list ((rows i).map encRow)) (by simp [hi])
      obtain ⟨rl, ts, rfl, hrl', hts⟩ := Dp.lstE hy2
      have htl := DpAll.len hts
      rw [List.length_map] at htl
      -- the plan's stays
      have hps : (cfgOf ps).ps i = (p.stays.zip p.lens).map fun (q : Stay × Int) => (q.1.1, q.2) := by
        show (match ps[i]? with
          | some p => (p.stays.zip p.lens).map fun (q : Stay × Int) => (q.1.1, q.2)
          | none => []) = _
        rw [hp]
      have hst : (cfgOf ps).start i = p.start := by
        show (match ps[i]? with
          | some p => p.start
          | none => 0) = _
        rw [hp]
      have hlen : (rows i).length = p.stays.length := by
        rw [G.len i, hps, List.length_map, List.length_zip, hfit.1, Nat.min_self]
      have h6 := hss.2.1
      -- stays_here = plans[k][1]; moment = plans[k][2]
      refine ⟨_, rfl, _, rfl, pa, _, _, _, rfl, rfl, s3.seq hpa, at_of (j := i) rfl hx1, tp, _, _, _, rfl, rfl, sqT_same s3 htp, at_of (j := 1) rfl rfl, ?_⟩
      refine ⟨_, rfl, _, rfl, pa, _, _, _, rfl, rfl, s3.seq hpa, at_of (j := i) rfl hx1, tp, _, _, _, rfl, rfl, sqT_same s3 htp, at_of (j := 2) rfl rfl, ?_⟩
      refine ⟨_, rfl, _, rfl, ra, _, _, _, rfl, rfl, s3.seq hra, at_of (j := i) rfl hy1, _, _, _, _, _, rfl, .ty "list", tyL (s3.seq hrl'), kLL, _, rfl, iteF ?_⟩
      refine ⟨_, rfl, _, rfl, ra, _, _, _, rfl, rfl, s3.seq hra, at_of (j := i) rfl hy1, rl, _, rfl, .inl (s3.seq hrl'), _, rfl, sa, _, rfl, .inl (s3.seq hsx), rfl, _, rfl, ?_⟩
      rw [htl, hsl, hlen]
      refine iteNS rfl ?_
      refine ⟨_, rfl, sa, _, rfl, .inl (s3.seq hsx), _, rfl, by omega, by omega, ?_⟩
      have hn : ((sxs.length : Nat) : Int).toNat = p.stays.length := by omega
      rw [hn]
      refine for_range (lo := 0) (n := p.stays.length) (fun j σ H4 => ∃ (fxs : List V) (m : Int) (v6 v7 : Option V), σ = [some (.ref ra), some (.ref pa), some (.ref fp), some (.int i), some (.ref sa), some (.int m), v6, v7] ∧ H4 fp = some (.lst fxs) ∧ DpAll K (R (fun b => b ≠ fp) H4) fxs ((allLines rows i ++ linesTo i (rows i) j).map encL) ∧ Same H H4 ∧
        ∀ row, (rows i)[j]? = some row → row.come = m) ?_ ?_ ?_
      · refine ⟨fxs, p.start, _, _, rfl, gf, by simpa [linesTo] using gD, s3, fun row hrow => ?_⟩
        rw [← hst]
        exact G.come0 i row hrow
      · rintro j σ H4 hj ⟨fxs, m, v6, v7, rfl, gf, gD, s4, hm⟩
        rw [Int.zero_add]
        obtain ⟨row, hrow⟩ : ∃ row, (rows i)[j]? = some row := ⟨_, List.getElem?_eq_getElem (by omega)⟩
        obtain ⟨st, hst'⟩ : ∃ st, p.stays[j]? = some st := ⟨_, List.getElem?_eq_getElem hj⟩
        obtain ⟨ln, hln⟩ : ∃ ln, p.lens[j]? = some ln := ⟨_, List.getElem?_eq_getElem (by rw [hfit.1]; exact hj)⟩
        obtain ⟨l, hl1, hl2⟩ := G.room i j row hrow
        rw [hps, List.getElem?_map] at hl1
        obtain ⟨⟨q1, q2⟩, hq, hq'⟩ := Option.map_eq_some_iff.mp hl1
        obtain ⟨hq1, hq2⟩ := List.getElem?_zip_eq_some.mp hq
        rw [hst'] at hq1
        rw [hln] at hq2
        have e1 := Option.some.inj hq1
        have e2 := Option.some.inj hq2
        subst e1
        subst e2
        have er : st.1 = row.room := congrArg Prod.fst hq'
        have el : ln = l := congrArg Prod.snd hq'
        subst el
        have hcm := hm row hrow
        have hce := G.ce i j row hrow
        obtain ⟨z, hz1, hz2⟩ := DpAll.get hts (i := j) (d := encRow row) (by rw [List.getElem?_map, hrow]; rfl)
        obtain ⟨t, rfl, ht⟩ := row_at hz2
        have ht4 := sqT_same s4 ht
        obtain ⟨y2, hs1, hs2⟩ := DpAll.get hsd (i := j) (d := encStay st) (by rw [List.getElem?_map, hst']; rfl)
        obtain ⟨tt, rfl, htt⟩ := stay_at hs2
        have htt4 := sqT_same s4 htt
        -- row = walks[k][n]
        refine ⟨_, rfl, _, rfl, ra, _, _, _, rfl, rfl, s4.seq hra, at_of (j := i) rfl hy1, _, rfl, rl, _, _, _, rfl, rfl, s4.seq hrl', at_of (j := j) rfl hz1, ?_⟩
        refine ⟨_, rfl, _, _, _, _, _, rfl, .ty "tuple", tyT ht4, kTT, _, rfl, iteF ?_⟩
        refine ⟨_, rfl, t, _, rfl, .inr ht4, rfl, _, rfl, iteNS rfl ?_⟩
        refine ⟨_, rfl, t, _, _, _, rfl, rfl, ht4, at_of (j := 0) rfl rfl, _, _, _, _, _, rfl, .ty "str", .base (.str row.room), kSS, _, rfl, iteF ?_⟩
        refine ⟨_, rfl, t, _, _, _, rfl, rfl, ht4, at_of (j := 0) rfl rfl, _, rfl, _, rfl, sa, _, _, _, rfl, rfl, s4.seq hsx, at_of (j := j) rfl hs1, tt, _, _, _, rfl, rfl, htt4, at_of (j := 0) rfl rfl, rfl, _, rfl, ?_⟩
        rw [er]
        refine iteNS rfl ?_
        refine ⟨_, rfl, t, _, _, _, rfl, rfl, ht4, at_of (j := 1) rfl rfl, _, rfl, _, rfl, iteF ?_⟩
        refine ⟨_, rfl, t, _, _, _, rfl, rfl, ht4, at_of (j := 2) rfl rfl, _, rfl, _, rfl, iteF ?_⟩
        refine ⟨_, rfl, t, _, _, _, rfl, rfl, ht4, at_of (j := 3) rfl rfl, _, rfl, _, rfl, iteF ?_⟩
        -- come, enter, leave
        refine ⟨_, rfl, t, _, _, _, rfl, rfl, ht4, at_of (j := 1) rfl rfl, _, rfl, rfl, _, rfl, ?_⟩
        rw [hcm]
        refine iteNS rfl ?_
        refine ⟨_, rfl, t, _, _, _, rfl, rfl, ht4, at_of (j := 2) rfl rfl, _, rfl, _, _, rfl, rfl, _, rfl, ?_⟩
        refine ite2 (fun hno => absurd (of_decide_eq_true hno) (by omega)) (fun _ => ?_)
        refine ⟨_, rfl, t, _, _, _, rfl, rfl, ht4, at_of (j := 3) rfl rfl, _, rfl, t, _, _, _, rfl, rfl, ht4, at_of (j := 2) rfl rfl, _, rfl, _, rfl, pa, _, _, _, rfl, rfl, s4.seq hpa, at_of (j := i) rfl hx1, tp, _, _, _, rfl, rfl, sqT_same s4 htp, at_of (j := 3) rfl rfl, _, rfl, la, _, _, _, rfl, rfl, s4.seq hlx, at_of (j := j) rfl (by rw [List.getElem?_map, hln]; rfl), _, _, rfl, rfl, rfl, _, rfl, ?_⟩
        rw [hl2]
        refine iteNS rfl ?_
        have gf4 := gf
        -- the hall
        have rest : ∀ {σ : L2.St}, True := fun {_} => trivial
        refine ⟨_, rfl, t, _, _, _, rfl, rfl, ht4, at_of (j := 0) rfl rfl, rfl, _, rfl, ?_⟩
        have hbound : fxs.length ≤ 100 := by
          rw [DpAll.len gD, List.length_map, List.length_append]
          have h1 := allLines_len hr6 i
          unfold linesTo
          rw [List.length_map, List.length_take]
          omega
        have fin : ∃ w6 w7 : Option V, ∀ (n : Addr), H4 n = none → ∃ (fxs' : List V) (m' : Int) (v6 v7 : Option V), ([some (.ref ra), some (.ref pa), some (.ref fp), some (.int i), some (.ref sa), some (.int row.leave), some (.int j), some (.ref t)] : List (Option V)) = [some (.ref ra), some (.ref pa), some (.ref fp), some (.int i), some (.ref sa), some (.int m'), v6, v7] ∧
            (upd (upd H4 n (.tup [.str row.room, .int row.come, .int i, .int row.enter, .int row.leave])) fp (.lst (fxs ++ [.ref n]))) fp = some (.lst fxs') ∧
            DpAll K (R (fun b => b ≠ fp) (upd (upd H4 n (.tup [.str row.room, .int row.come, .int i, .int row.enter, .int row.leave])) fp (.lst (fxs ++ [.ref n])))) fxs' ((allLines rows i ++ linesTo i (rows i) (j + 1)).map encL) ∧ Same H (upd (upd H4 n (.tup [.str row.room, .int row.come, .int i, .int row.enter, .int row.leave])) fp (.lst (fxs ++ [.ref n]))) ∧
            ∀ row', (rows i)[j + 1]? = some row' → row'.come = m' := by
          refine ⟨none, none, fun n hn' => ⟨fxs ++ [.ref n], row.leave, _, _, rfl, upd_same, ?_, ?_, fun row' hrow' => G.come1 i j row row' hrow hrow'⟩⟩
          · have fn : fp ≠ n := ne_of_none gf hn'
            rw [linesTo_succ hrow, ← List.append_assoc, List.map_append]
            refine DpAll.snoc (DpAll.same (R_same fun b o q e => ⟨q, ?_⟩) gD) (Dp.tup (SqT.of (R_of fn.symm ?_)) (.cons (.str _) (.cons (.int _) (.cons (.int _) (.cons (.int _) (.cons (.int _) .nil))))))
            · rw [upd_ne q, upd_ne (ne_of_none e hn')]
              exact e
            · rw [upd_ne fn.symm, upd_same]
          · exact Same.putNew (Same.putNew s4 (s4.free hn')) hfp
        obtain ⟨_, _, fin⟩ := fin
        have go : ∀ {Z : Prop}, ((∀ n, H4 n = none → True) → Z) → Z := fun h => h fun _ _ => trivial
        refine ite2 (fun hhall => ?_) (fun _ => ?_)
        · have hhall : row.room = hallS := V.str.inj (of_decide_eq_true hhall)
          have hee := G.hallE i j row hrow hhall
          refine ⟨_, rfl, t, _, _, _, rfl, rfl, ht4, at_of (j := 2) rfl rfl, _, rfl, rfl, _, rfl, ?_⟩
          rw [hee, hcm]
          refine iteNS rfl ?_
          refine ⟨_, rfl, .inl ⟨rfl, _, SqL.of gf⟩, _, rfl, t, _, _, _, rfl, rfl, ht4, at_of (j := 0) rfl rfl, _, rfl, t, _, _, _, rfl, rfl, ht4, at_of (j := 1) rfl rfl, _, rfl, _, rfl, t, _, _, _, rfl, rfl, ht4, at_of (j := 2) rfl rfl, _, rfl, t, _, _, _, rfl, rfl, ht4, at_of (j := 3) rfl rfl, (by show 5 ≤ sizeLine; decide), fun n hn' => ?_⟩
          have fn : fp ≠ n := ne_of_none gf hn'
          refine ⟨fp, fxs, .ref n, rfl, rfl, by rw [upd_ne fn]; exact gf, small1000 (by omega), ?_⟩
          have ht5 : SqT K (upd (upd H4 n (.tup [.str row.room, .int row.come, .int i, .int row.enter, .int row.leave])) fp (.lst (fxs ++ [.ref n]))) t [.str row.room, .int row.come, .int row.enter, .int row.leave] := sqT_same (Same.putNew (Same.putNew s4 (s4.free hn')) hfp) ht
          exact ⟨_, rfl, t, _, _, _, rfl, rfl, ht5, at_of (j := 3) rfl rfl, fin n hn'⟩
        · refine iteF ?_
          refine ⟨_, rfl, .inl ⟨rfl, _, SqL.of gf⟩, _, rfl, t, _, _, _, rfl, rfl, ht4, at_of (j := 0) rfl rfl, _, rfl, t, _, _, _, rfl, rfl, ht4, at_of (j := 1) rfl rfl, _, rfl, _, rfl, t, _, _, _, rfl, rfl, ht4, at_of (j := 2) rfl rfl, _, rfl, t, _, _, _, rfl, rfl, ht4, at_of (j := 3) rfl rfl, (by show 5 ≤ sizeLine; decide), fun n hn' => ?_⟩
          have fn : fp ≠ n := ne_of_none gf hn'
          refine ⟨fp, fxs, .ref n, rfl, rfl, by rw [upd_ne fn]; exact gf, small1000 (by omega), ?_⟩
          have ht5 : SqT K (upd (upd H4 n (.tup [.str row.room, .int row.come, .int i, .int row.enter, .int row.leave])) fp (.lst (fxs ++ [.ref n]))) t [.str row.room, .int row.come, .int row.enter, .int row.leave] := sqT_same (Same.putNew (Same.putNew s4 (s4.free hn')) hfp) ht
          exact ⟨_, rfl, t, _, _, _, rfl, rfl, ht5, at_of (j := 3) rfl rfl, fin n hn'⟩
      · rintro σ H4 ⟨fxs, m, v6, v7, rfl, gf, gD, s4, hm⟩
        rw [← hlen, ← allLines_succ] at gD
        exact ⟨fxs, _, _, _, _, _, rfl, gf, gD, s4⟩
    · rintro σ H3 ⟨fxs, v3, v4, v5, v6, v7, rfl, gf, gD, s3⟩
      exact ⟨_, rfl, k fp H3 (Dp.lst (SqL.of gf) (DpAll.same R_le gD)) s3⟩

/-- _law_orderly -/
abbrev nOrderly : List Str := ["_law_lines_here", "_law_a", "_law_room", "_law_come", "_law_place", "_law_enter", "_law_leave", "_law_served", "_law_b", "_law_other"]
theorem sc_orderly : FnScope nOrderly ["_law_lines_here"] (fnScope sOrderly) := fnScope_by (by decide +kernel)
theorem ok_orderly (B : Blt mg) {f : Addr} {fd : FuncData} (F : Def K mg "_law_orderly" sOrderly f fd) (b : Binds K fd ["_law_lines_here"] []) : Cal P w K mg base 1 "_law_orderly" (spOrderly K) [] := by
  refine cal0 F b .nil sc_orderly (fun vs H Q E h => ?_) (fun cdv A outer s H vs Q E hr h => ?_)
  · obtain ⟨v, ls, rfl, _⟩ := h
    rfl
  · obtain ⟨v, ls, rfl, hv, hG, h1000, k⟩ := h
    obtain ⟨va, xs, rfl, hva, hvd⟩ := Dp.lstE hv
    have hxl : xs.length = ls.length := by rw [DpAll.len hvd, List.length_map]
    have hu := hr.units0
    refine ⟨_, pss_cons (ps_for PassesOwn.never rfl (pi_range1 (by rfl) B.range (pa_cons (pe_callB call_len_seq (by rfl) B.len (by decide +kernel) (pa_cons (pv 0) pa_nil)) pa_nil)) (pg_name (i := 1) sc_orderly.nd rfl (Or.inl rfl)) (pss_cons (ps_asg (pe_ix ix_list (pv 0) (pv 1) (fun _ _ => rfl)) (pg_tup rfl (pgs_cons (pg_name (i := 2) sc_orderly.nd rfl (Or.inl rfl)) (pgs_cons (pg_name (i := 3) sc_orderly.nd rfl (Or.inl rfl)) (pgs_cons (pg_name (i := 4) sc_orderly.nd rfl (Or.inl rfl)) (pgs_cons (pg_name (i := 5) sc_orderly.nd rfl (Or.inl rfl)) (pgs_cons (pg_name (i := 6) sc_orderly.nd rfl (Or.inl rfl)) pgs_nil)))))))
      (pss_cons (ps_if (pt_cmpR op_eq (pv 2) pe_str (nomark _)) (pss_one ps_continue) pss_nil)
      (pss_cons (ps_set (i := 7) sc_orderly.nd rfl (Or.inl rfl) (pe_cmpR op_eq (pv 3) (pv 5) (nomark _)))
      (pss_cons (ps_for PassesOwn.never rfl (pi_range1 (by rfl) B.range (pa_cons (pe_callB call_len_seq (by rfl) B.len (by decide +kernel) (pa_cons (pv 0) pa_nil)) pa_nil)) (pg_name (i := 8) sc_orderly.nd rfl (Or.inl rfl)) (pss_cons (ps_set (i := 9) sc_orderly.nd rfl (Or.inl rfl) (pe_ix ix_list (pv 0) (pv 8) (fun _ _ => rfl)))
      (pss_one (ps_if (PW.pt (pw_and (pt_cmpR op_ne (pv 1) (pv 8) (nomark _)) (pw_and1 (pt_cmpR op_eq (pe_ix ix_tup (pv 9) pe_int (fun _ _ => rfl)) (pv 2) (nomark _))))) (pss_cons (ps_if (pt_cmpR op_lt (pe_callB (call_max2 rfl) (by rfl) B.max (by decide +kernel) (pa_cons (pv 5) (pa_cons (pe_ix ix_tup (pv 9) pe_int (fun _ _ => rfl)) pa_nil))) (pe_callB (call_min2 rfl) (by rfl) B.min (by decide +kernel) (pa_cons (pv 6) (pa_cons (pe_ix ix_tup (pv 9) pe_int (fun _ _ => rfl)) pa_nil))) (nomark _)) (pss_one (ps_ret pe_bl)) pss_nil)
      (pss_cons (ps_if (PW.pt (pw_and (pt_cmpR (op_ltT hu) (pe_tup (pa_cons (pv 3) (pa_cons (pv 4) pa_nil))) (pe_tup (pa_cons (pe_ix ix_tup (pv 9) pe_int (fun _ _ => rfl)) (pa_cons (pe_ix ix_tup (pv 9) pe_int (fun _ _ => rfl)) pa_nil))) (nomark _)) (pw_and1 (pt_cmpR op_gt (pv 5) (pe_ix ix_tup (pv 9) pe_int (fun _ _ => rfl)) (nomark _))))) (pss_one (ps_ret pe_bl)) pss_nil)
      (pss_one (ps_if (pt_cmpR op_eq (pe_ix ix_tup (pv 9) pe_int (fun _ _ => rfl)) (pv 5) (nomark _)) (pss_one (ps_set (i := 7) sc_orderly.nd rfl (Or.inl rfl) pe_bl)) pss_nil)))) pss_nil))))
      (pss_one (ps_if (pt_not (pt_val (pv 7))) (pss_one (ps_ret pe_bl)) pss_nil)))))))
      (pss_one (ps_ret pe_bl)), ?_⟩
    refine ⟨_, rfl, va, _, rfl, .inl hva, _, rfl, by omega, by omega, ?_⟩
    have hn : ((xs.length : Nat) : Int).toNat = ls.length := by omega
    rw [hn]
    refine for_range (lo := 0) (n := ls.length) (fun i σ H1 => Same H H1 ∧ ∃ v1 v2 v3 v4 v5 v6 v7 v8 v9 : Option V, σ = [some (.ref va), v1, v2, v3, v4, v5, v6, v7, v8, v9]) ⟨Same.refl _, none, none, none, none, none, none, none, none, none, rfl⟩ ?_ ?_
    · rintro a σ H1 ha ⟨s1, v1, v2, v3, v4, v5, v6, v7, v8, v9, rfl⟩
      rw [Int.zero_add]
      obtain ⟨x, hx⟩ : ∃ x, ls[a]? = some x := ⟨_, List.getElem?_eq_getElem ha⟩
      obtain ⟨y, hy1, hy2⟩ := DpAll.get hvd (i := a) (d := encL x) (by rw [List.getElem?_map, hx]; rfl)
      obtain ⟨t, rfl, ht⟩ := line_at hy2
      refine ⟨_, rfl, _, rfl, va, _, _, _, rfl, rfl, s1.seq hva, at_of (j := a) rfl hy1, ?_⟩
      refine ⟨t, _, rfl, sqT_same s1 ht, rfl, _, _, rfl, _, _, rfl, _, _, rfl, _, _, rfl, _, _, rfl, rfl, ?_⟩
      -- if room == hall: continue
      refine ⟨_, rfl, rfl, _, rfl, ?_⟩
      refine ite2 (fun _ => ⟨s1, _, _, _, _, _, _, _, _, _, rfl⟩) (fun hne => ?_)
      have hne : x.2.room ≠ hallS := fun z => hne (by rw [z]; exact decide_eq_true rfl)
      -- served = come == enter
      refine ⟨_, rfl, _, rfl, rfl, ?_⟩
      refine ⟨_, rfl, va, _, rfl, .inl (s1.seq hva), _, rfl, by omega, by omega, ?_⟩
      rw [hn]
      refine for_range (lo := 0) (n := ls.length) (fun j σ H2 => Same H H2 ∧ ∃ (sv : Bool) (v8 v9 : Option V), σ = [some (.ref va), some (.int a), some (.str x.2.room), some (.int x.2.come), some (.int (x.1 : Int)), some (.int x.2.enter), some (.int x.2.leave), some (.bl sv), v8, v9] ∧
        (x.2.come = x.2.enter → sv = true) ∧ ∀ (b : Nat) (y : Nat × Row Str), b < j → ls[b]? = some y → a ≠ b → y.2.room = x.2.room → y.2.leave = x.2.enter → sv = true) ?_ ?_ ?_
      · exact ⟨s1, _, _, _, rfl, fun e => decide_eq_true (by rw [e]), fun b y h => absurd h (Nat.not_lt_zero _)⟩
      · rintro j σ H2 hj ⟨s2, sv, v8, v9, rfl, hs1, hs2⟩
        rw [Int.zero_add]
        obtain ⟨y, hy⟩ : ∃ y, ls[j]? = some y := ⟨_, List.getElem?_eq_getElem hj⟩
        obtain ⟨z, hz1, hz2⟩ := DpAll.get hvd (i := j) (d := encL y) (by rw [List.getElem?_map, hy]; rfl)
        obtain ⟨u, rfl, hu'⟩ := line_at hz2
        have hu2 := sqT_same s2 hu'
        refine ⟨_, rfl, _, rfl, va, _, _, _, rfl, rfl, s2.seq hva, at_of (j := j) rfl hz1, ?_⟩
        have skip : ∀ {H3 : Hp}, Same H H3 → (¬ (a ≠ j ∧ y.2.room = x.2.room ∧ y.2.leave = x.2.enter)) → Same H H3 ∧ ∃ (sv' : Bool) (v8 v9 : Option V), ([some (.ref va), some (.int a), some (.str x.2.room), some (.int x.2.come), some (.int (x.1 : Int)), some (.int x.2.enter), some (.int x.2.leave), some (.bl sv), some (.int j), some (.ref u)] : List (Option V)) = [some (.ref va), some (.int a), some (.str x.2.room), some (.int x.2.come), some (.int (x.1 : Int)), some (.int x.2.enter), some (.int x.2.leave), some (.bl sv'), v8, v9] ∧
            (x.2.come = x.2.enter → sv' = true) ∧ ∀ (b : Nat) (y : Nat × Row Str), b < j + 1 → ls[b]? = some y → a ≠ b → y.2.room = x.2.room → y.2.leave = x.2.enter → sv' = true := fun s3 hno => by
          refine ⟨s3, sv, _, _, rfl, hs1, fun b y' hb hy' hab hr hl => ?_⟩
          by_cases e : b = j
          · subst e
            rw [hy] at hy'
            cases hy'
            exact absurd ⟨hab, hr, hl⟩ hno
          · exact hs2 b y' (by omega) hy' hab hr hl
        -- if a != b and other[0] == room
        refine ⟨_, rfl, _, rfl, rfl, _, rfl, ?_⟩
        refine ite2 (fun hab => ?_) (fun hab => iteF (skip s2 fun z => hab ?_))
        · have hab : a ≠ j := fun z => by rw [z] at hab; simp at hab
          refine ⟨_, rfl, u, _, _, _, rfl, rfl, hu2, at_of (j := 0) rfl rfl, _, rfl, rfl, _, rfl, ?_⟩
          refine ite2 (fun hr' => ?_) (fun hr' => skip s2 fun z => hr' ?_)
          · have hrm : y.2.room = x.2.room := V.str.inj (of_decide_eq_true hr')
            -- max(enter, other[3]) < min(leave, other[4])
            refine ⟨_, rfl, _, rfl, u, _, _, _, rfl, rfl, hu2, at_of (j := 3) rfl rfl, _, _, rfl, _, rfl, _, rfl, u, _, _, _, rfl, rfl, hu2, at_of (j := 4) rfl rfl, _, _, rfl, _, _, rfl, rfl, _, rfl, ?_⟩
            refine ite2 (fun hbad => absurd (of_decide_eq_true hbad) ?_) (fun _ => ?_)
            · have := hG.noLap a j x y hx hy hab hrm hne
              split <;> split <;> omega
            -- (come, place) < (other[1], other[2]) and enter > other[3]
            refine ⟨_, rfl, _, rfl, (by show 2 ≤ sizeLine; decide), fun c1 hc1 => ⟨_, rfl, u, _, _, _, rfl, rfl, sqT_same (Same.new hc1) hu2, at_of (j := 1) rfl rfl, _, rfl, u, _, _, _, rfl, rfl, sqT_same (Same.new hc1) hu2, at_of (j := 2) rfl rfl, (by show 2 ≤ sizeLine; decide), fun c2 hc2 => ?_⟩⟩
            have s3 : Same H (upd H2 c1 (.tup [.int x.2.come, .int (x.1 : Int)])) := s2.trans (Same.new hc1)
            have s4 : Same H (upd (upd H2 c1 (.tup [.int x.2.come, .int (x.1 : Int)])) c2 (.tup [.int y.2.come, .int (y.1 : Int)])) := s3.trans (Same.new hc2)
            have hu4 := sqT_same s4 hu'
            have e1 : (upd (upd H2 c1 (.tup [.int x.2.come, .int (x.1 : Int)])) c2 (.tup [.int y.2.come, .int (y.1 : Int)])) c1 = some (.tup ([x.2.come, (x.1 : Int)].map V.int)) := Same.new hc2 _ _ upd_same
            have e2 : (upd (upd H2 c1 (.tup [.int x.2.come, .int (x.1 : Int)])) c2 (.tup [.int y.2.come, .int (y.1 : Int)])) c2 = some (.tup ([y.2.come, (y.1 : Int)].map V.int)) := upd_same
            refine ⟨c1, c2, [x.2.come, (x.1 : Int)], [y.2.come, (y.1 : Int)], rfl, rfl, SqT.of e1, SqT.of e2, _, rfl, ?_⟩
            have last : ∀ {D : Prop}, D → D := fun d => d
            have tail : ∀ {ZZ : Prop}, ZZ → ZZ := fun d => d
            refine ite2 (fun hlex => ?_) (fun _ => ?_)
            · have hlex : Lex (x.2.come, x.1) (y.2.come, y.1) := by
                have q : HT.lexLt [x.2.come, (x.1 : Int)] [y.2.come, (y.1 : Int)] = true := hlex
                unfold HT.lexLt HT.lexLt HT.lexLt at q
                unfold Lex
                simp only
                by_cases e : x.2.come = y.2.come
                · rw [if_pos e] at q
                  by_cases e' : (x.1 : Int) = (y.1 : Int)
                  · rw [if_pos e'] at q
                    cases q
                  · rw [if_neg e'] at q
                    have := of_decide_eq_true q
                    exact .inr ⟨e, by omega⟩
                · rw [if_neg e] at q
                  exact .inl (of_decide_eq_true q)
              have hf := hG.fifo a j x y hx hy hrm hne hlex
              refine ⟨_, rfl, _, rfl, u, _, _, _, rfl, rfl, hu4, at_of (j := 3) rfl rfl, _, _, rfl, rfl, _, rfl, ?_⟩
              refine ite2 (fun hbad => absurd (of_decide_eq_true hbad) (by omega)) (fun _ => ?_)
              refine ⟨_, rfl, u, _, _, _, rfl, rfl, hu4, at_of (j := 4) rfl rfl, _, rfl, rfl, _, rfl, ?_⟩
              refine ite2 (fun hse => ?_) (fun hse => skip s4 fun z => hse (by rw [z.2.2]; exact decide_eq_true rfl))
              exact ⟨s4, true, _, _, rfl, fun _ => rfl, fun _ _ _ _ _ _ _ => rfl⟩
            · refine iteF ?_
              refine ⟨_, rfl, u, _, _, _, rfl, rfl, hu4, at_of (j := 4) rfl rfl, _, rfl, rfl, _, rfl, ?_⟩
              refine ite2 (fun hse => ?_) (fun hse => skip s4 fun z => hse (by rw [z.2.2]; exact decide_eq_true rfl))
              exact ⟨s4, true, _, _, rfl, fun _ => rfl, fun _ _ _ _ _ _ _ => rfl⟩
          · rw [z.2.1]
            exact decide_eq_true rfl
        · have hna : ¬ (V.int (a : Int) = V.int (j : Int)) := fun e => z.1 (by
            have := V.int.inj e
            omega)
          rw [decide_eq_false hna]
          rfl
      · rintro σ H2 ⟨s2, sv, v8, v9, rfl, hs1, hs2⟩
        have hsv : sv = true := by
          rcases hG.served a x hx hne with e | ⟨b, y, hb, hab, hr', hl⟩
          · exact hs1 e
          · exact hs2 b y (List.getElem?_eq_some_iff.mp hb).1 hb hab hr' hl
        subst hsv
        exact ⟨_, rfl, _, rfl, iteF ⟨s2, _, _, _, _, _, _, _, _, _, rfl⟩⟩
    · rintro σ H1 ⟨s1, v1, v2, v3, v4, v5, v6, v7, v8, v9, rfl⟩
      exact k H1 s1
end
end H5
/-! law itself. -/
namespace H5
open PySem L2 SX K51
open C8 (Cal Met Mak Def cal0 met0 mak0 pe_c pe_mk pe_mt pe_mt0 fnScope_by scC pe_gc InsC call_isC pss_cut tCut fnScope fnArgs fnBody)

theorem ints_plain : ∀ ns : List Int, PyData.canLayAll0 (ns.map PyData.int) = true ∧ PyData.depthAll (ns.map PyData.int) ≤ 1
  | [] => ⟨rfl, by simp [PyData.depthAll]⟩
  | n :: ns => by
    obtain ⟨h1, h2⟩ := ints_plain ns
    refine ⟨?_, ?_⟩
    · rw [List.map_cons]
      simp only [PyData.canLayAll0, PyData.canLay0, h1, Bool.and_self]
    · rw [List.map_cons]
      simp only [PyData.depthAll, PyData.depth]
      omega
abbrev lensD (ps : List Plan) : List PyData := ps.map fun p => .list (p.lens.map PyData.int)
theorem lens_plain : ∀ ps : List Plan, PyData.canLayAll0 (lensD ps) = true ∧ PyData.depthAll (lensD ps) ≤ 2
  | [] => ⟨rfl, by simp [lensD, PyData.depthAll]⟩
  | p :: ps => by
    obtain ⟨h1, h2⟩ := lens_plain ps
    obtain ⟨h3, h4⟩ := ints_plain p.lens
    refine ⟨?_, ?_⟩
    · unfold lensD at h1 ⊢
      rw [List.map_cons]
      simp only [PyData.canLayAll0, PyData.canLay0, h1, h3, Bool.and_self]
    · unfold lensD at h2 ⊢
      rw [List.map_cons]
      simp only [PyData.depthAll, PyData.depth]
      omega
theorem lens_shaped (ps : List Plan) : SeqAt.shaped (.list (lensD ps)) = true := by
  obtain ⟨h1, h2⟩ := lens_plain ps
  unfold SeqAt.shaped
  refine Bool.and_eq_true_iff.mpr ⟨?_, decide_eq_true ?_⟩
  · simp only [PyData.canLay0, h1]
  · simp only [PyData.depth]
    omega
theorem lens_eqv (ps : List Plan) : (!PyData.eqv (.list (lensD ps)) (.list (lensD ps))) = false := by
  have h : PyData.canLay0 (.list (lensD ps)) = true := by
    simp only [PyData.canLay0, (lens_plain ps).1]
  rw [SeqAt.eqv_refl _ h]
  rfl
theorem take_snoc {α : Type} {l : List α} {i : Nat} {x : α} (h : l[i]? = some x) (f : α → PyData) : (l.take (i + 1)).map f = (l.take i).map f ++ [f x] := by
  rw [List.take_add_one, h, List.map_append]
  rfl

theorem Same.toR {φ : Addr → Prop} {H H' : Hp} (h : ∀ b o, H b = some o → φ b ∧ H' b = some o) : Same H (R φ H') := fun b o e => R_of (h b o e).1 (h b o e).2
def spLaw (K : PySem.W.Frag) : Sp := fun vs H Q _ => ∃ (a : Addr) (ns : List Int), vs = [.ref a] ∧ SqL K H a (ns.map V.int) ∧ ns.length ≤ 63 ∧ ∀ H', Q (.bl true) H'
section
variable {P : Program} {w : World} {K : PySem.W.Frag} {mg : Str → Option Value} {base : Heap}
abbrev nLaw : List Str := ["_law_script", "_law_state_here", "_law_most", "_law_steps", "_law_count", "_law_alike", "_law_plans", "_law_stays_here", "_law_plan", "_law_lists", "_law_told", "_law_lines_here"]
theorem sc_law : FnScope nLaw ["_law_script"] (fnScope sLaw) := fnScope_by (by decide +kernel)
theorem ok_law (B : Blt mg) {Cr Er : Addr} (UT : UTxt K mg Er) (c__law_state : Cal P w K mg base 1 "_law_state" (spState K) []) (c__law_draw : Cal P w K mg base 2 "_law_draw" spDraw []) (c__law_groups : Cal P w K mg base 5 "_law_groups" (spGroups K) []) (c__law_lengths : Cal P w K mg base 3 "_law_lengths" (spLengths K) [])
    (c_Round : Mak P w K mg base 2 "Round" Cr (spRInit K Cr) []) (c_run : Cal P w K mg base 4 "run" (spRun K Cr Er) []) (c__law_lines : Cal P w K mg base 2 "_law_lines" (spLines K) []) (c__law_orderly : Cal P w K mg base 1 "_law_orderly" (spOrderly K) []) (c__law_waits : Cal P w K mg base 1 "_law_waits" (spWaits K) [])
    (c__law_is_rows : Cal P w K mg base 2 "_law_is_rows" (spIsRows K) []) {f : Addr} {fd : FuncData} (F : C8.Fun K "law" "law" sLaw f fd) : FnOk P w K mg base C8.CX0 6 f fd ["_law_script"] (spLaw K) := by
  have g_Run : ∃ u, mg "Run" = some u ∧ RelV (.ref Er) u := ⟨_, UT.mgU, rfl⟩
  refine C8.fn0 F sc_law (fun vs H Q E h => ?_) (fun cdv A outer s H vs Q E hr h => ?_)
  · obtain ⟨sc, ns, rfl, _⟩ := h
    rfl
  · obtain ⟨sc, ns, rfl, hS, hl, k⟩ := h
    refine ⟨_, pss_cons (ps_set (i := 1) sc_law.nd rfl (Or.inr rfl) (pe_c c__law_state hr (by decide) (by rfl) (pa_cons (pv 0) pa_nil)))
      (pss_cons (ps_set (i := 2) sc_law.nd rfl (Or.inl rfl) pe_int)
      (pss_cons (ps_set (i := 3) sc_law.nd rfl (Or.inl rfl) pe_int)
      (pss_cut (ps_if (pt_cmpR op_eq (pe_c c__law_draw hr (by decide) (by rfl) (pa_cons (pv 1) (pa_cons pe_int pa_nil))) pe_int (nomark _)) (pss_cons (ps_set (i := 2) sc_law.nd rfl (Or.inl rfl) pe_int)
      (pss_one (ps_set (i := 3) sc_law.nd rfl (Or.inl rfl) pe_int))) pss_nil)
      (pss_cut (ps_if (pt_cmpR op_eq (pe_c c__law_draw hr (by decide) (by rfl) (pa_cons (pv 1) (pa_cons pe_int pa_nil))) pe_int (nomark _)) (pss_cons (ps_set (i := 2) sc_law.nd rfl (Or.inl rfl) pe_int)
      (pss_one (ps_set (i := 3) sc_law.nd rfl (Or.inl rfl) pe_int))) pss_nil)
      (pss_cons (ps_set (i := 4) sc_law.nd rfl (Or.inl rfl) (pe_op op_sub (pv 2) (pe_c c__law_draw hr (by decide) (by rfl) (pa_cons (pv 1) (pa_cons (pv 2) pa_nil)))))
      (pss_cons (ps_set (i := 5) sc_law.nd rfl (Or.inl rfl) (pe_c c__law_draw hr (by decide) (by rfl) (pa_cons (pv 1) (pa_cons pe_int pa_nil))))
      (pss_cons (ps_set (i := 6) sc_law.nd rfl (Or.inl rfl) (pe_c c__law_groups hr (by decide) (by rfl) (pa_cons (pv 1) (pa_cons (pv 4) (pa_cons (pv 3) pa_nil)))))
      (pss_cut (ps_if (pt_cmpR op_eq (pv 5) pe_int (nomark _)) (pss_cons (ps_set (i := 7) sc_law.nd rfl (Or.inr rfl) (pe_ix ix_tup (pe_ix ix_list (pv 6) pe_int (fun _ _ => rfl)) pe_int (fun _ _ => rfl)))
      (pss_one (ps_setLc (i := 6) (own := [("_law_plan", 8)]) (te := tTup (tCons (tOp (rIxT K) (tVar 8) (tC (.int 0))) (tCons (tVar 7) (tCons (tOp (rIxT K) (tVar 8) (tC (.int 2))) (tCons (tCall (spLengths K) [] C8.E0 (tCons (tVar 1) (tCons (tVar 7) tNil))) tNil))))) rfl sc_law.nd rfl rfl (sw_true rfl rfl rfl (by decide +kernel)) (pi_list (pv 6)) (blkOk_by (N := nLaw) (sc := fnScope sLaw) (by decide +kernel)) (fun _ _ _ _ _ => (pg_name (i := 8) sc_law.nd rfl (Or.inl rfl))) (fun _ _ _ _ _ => pts_nil) (fun _ _ _ _ _ => (pe_tup (pa_cons (pe_ix ix_tup (pv 8) pe_int (fun _ _ => rfl)) (pa_cons (pv 7) (pa_cons (pe_ix ix_tup (pv 8) pe_int (fun _ _ => rfl)) (pa_cons (pe_c c__law_lengths hr (by decide) (by rfl) (pa_cons (pv 1) (pa_cons (pv 7) pa_nil))) pa_nil))))))))) pss_nil)
      (pss_cons (ps_setLc (i := 9) (own := [("_law_plan", 8)]) (te := tCB (fun xs H Q => ∃ p ys, xs = [.ref p] ∧ (SqL K H p ys ∨ SqT K H p ys) ∧ ∀ l, H l = none → Q (.ref l) (upd H l (.lst ys))) (tCons (tOp (rIxT K) (tVar 8) (tC (.int 3))) tNil)) rfl sc_law.nd rfl rfl (sw_true rfl rfl rfl (by decide +kernel)) (pi_list (pv 6)) (blkOk_by (N := nLaw) (sc := fnScope sLaw) (by decide +kernel)) (fun _ _ _ _ _ => (pg_name (i := 8) sc_law.nd rfl (Or.inl rfl))) (fun _ _ _ _ _ => pts_nil) (fun _ _ _ _ _ => (pe_callTy call_list_of (by rfl) B.list (by decide +kernel) (pa_cons (pe_ix ix_tup (pv 8) pe_int (fun _ _ => rfl)) pa_nil))))
      (pss_cons (ps_set (i := 10) sc_law.nd rfl (Or.inl rfl) (pe_c c_run hr (by decide) (by rfl) (pa_cons (pe_lc (own := [("_law_plan", 8)]) (te := tTup (tCons (tOp (rIxT K) (tVar 8) (tC (.int 0))) (tCons (tMake Cr (spRInit K Cr) [] C8.E0 (tCons (tCB (fun xs H Q => ∃ p ys, xs = [.ref p] ∧ (SqL K H p ys ∨ SqT K H p ys) ∧ ∀ l, H l = none → Q (.ref l) (upd H l (.lst ys))) (tCons (tOp (rIxT K) (tVar 8) (tC (.int 1))) tNil)) tNil)) (tCons (tOp (rIxT K) (tVar 8) (tC (.int 2))) tNil)))) rfl sc_law.nd (pi_list (pv 6)) (blkOk_by (N := nLaw) (sc := fnScope sLaw) (by decide +kernel)) (fun _ _ _ _ _ => (pg_name (i := 8) sc_law.nd rfl (Or.inl rfl))) (fun _ _ _ _ _ => pts_nil) (fun _ _ _ _ _ => (pe_tup (pa_cons (pe_ix ix_tup (pv 8) pe_int (fun _ _ => rfl)) (pa_cons (pe_mk c_Round hr (by decide) (by rfl) (pa_cons (pe_callTy call_list_of (by rfl) B.list (by decide +kernel) (pa_cons (pe_ix ix_tup (pv 8) pe_int (fun _ _ => rfl)) pa_nil)) pa_nil)) (pa_cons (pe_ix ix_tup (pv 8) pe_int (fun _ _ => rfl)) pa_nil)))))) (pa_cons (pv 9) pa_nil))))
      (pss_cons (ps_if (PW.pt (pw_or (pt_not (pt_val (pe_callB (call_isC UT.ins) (by rfl) B.isinstance (by decide +kernel) (pa_cons (pv 10) (pa_cons (pe_gc (by rfl) g_Run) pa_nil))))) (pw_or1 (pt_cmpR (op_neD hr.units) (pv 9) (pe_lc (own := [("_law_plan", 8)]) (te := tOp (rIxT K) (tVar 8) (tC (.int 3))) rfl sc_law.nd (pi_list (pv 6)) (blkOk_by (N := nLaw) (sc := fnScope sLaw) (by decide +kernel)) (fun _ _ _ _ _ => (pg_name (i := 8) sc_law.nd rfl (Or.inl rfl))) (fun _ _ _ _ _ => pts_nil) (fun _ _ _ _ _ => (pe_ix ix_tup (pv 8) pe_int (fun _ _ => rfl)))) (nomark _))))) (pss_one (ps_ret pe_bl)) pss_nil)
      (pss_cons (ps_set (i := 11) sc_law.nd rfl (Or.inl rfl) (pe_c c__law_lines hr (by decide) (by rfl) (pa_cons (pe_fld (pv 10) rfl) (pa_cons (pv 6) pa_nil))))
      (pss_cons (ps_if (PW.pt (pw_or (pt_cmpR op_isN (pv 11) pe_non (nomark _)) (pw_or1 (pt_not (pt_val (pe_c c__law_orderly hr (by decide) (by rfl) (pa_cons (pv 11) pa_nil))))))) (pss_one (ps_ret pe_bl)) pss_nil)
      (pss_one (ps_ret (pe_c c__law_is_rows hr (by decide) (by rfl) (pa_cons (pe_fld (pv 10) rfl) (pa_cons (pe_c c__law_waits hr (by decide) (by rfl) (pa_cons (pv 6) (pa_cons (pe_fld (pv 10) rfl) pa_nil))) pa_nil)))))))))))))))))), ?_⟩
    refine ⟨_, rfl, sc, ns, rfl, hS, hl, fun a l c H1 S1 s1 => ?_⟩
    -- most, steps
    refine ⟨fun σ H2 => ∃ most steps : Int, (most = 7 ∨ most = 14) ∧ (steps = 3 ∨ steps = 6) ∧ σ = [some (.ref sc), some (.ref a), some (.int most), some (.int steps), none, none, none, none, none, none, none, none] ∧ StAt H2 a l c 1, ?_, ?_⟩
    · refine ⟨_, rfl, a, l, c, 0, 4, rfl, S1, by decide, by decide, by decide, fun r H2 _ _ S2 _ => ⟨rfl, _, rfl, ?_⟩⟩
      exact ite2 (fun _ => ⟨7, 6, .inl rfl, .inr rfl, rfl, S2⟩) (fun _ => ⟨14, 3, .inr rfl, .inl rfl, rfl, S2⟩)
    rintro σ H2 ⟨most, steps, hm, hst, rfl, S2⟩
    refine ⟨fun σ H3 => ∃ most steps : Int, (most = 7 ∨ most = 14) ∧ (steps = 3 ∨ steps = 6) ∧ σ = [some (.ref sc), some (.ref a), some (.int most), some (.int steps), none, none, none, none, none, none, none, none] ∧ StAt H3 a l c 2, ?_, ?_⟩
    · refine ⟨_, rfl, a, l, c, 1, 16, rfl, S2, by decide, by decide, by decide, fun r H3 _ _ S3 _ => ⟨rfl, _, rfl, ?_⟩⟩
      exact ite2 (fun _ => ⟨14, 6, .inr rfl, .inr rfl, rfl, S3⟩) (fun _ => ⟨most, steps, hm, hst, rfl, S3⟩)
    clear hm hst S2
    rintro σ H3 ⟨most, steps, hm, hst, rfl, S3⟩
    -- count, alike
    refine ⟨_, rfl, _, rfl, _, rfl, a, l, c, 2, most, rfl, S3, by decide, by omega, by omega, fun r H4 r0 r1 S4 _ => ⟨_, _, rfl, rfl, ?_⟩⟩
    refine ⟨_, rfl, a, l, c, 2 + 1, 3, rfl, S4, by decide, by decide, by decide, fun alike H5 _ _ S5 _ => ?_⟩
    -- plans
    refine ⟨_, rfl, _, rfl, _, rfl, a, l, c, 2 + 1 + 1, most - r, steps, rfl, S5, by decide, by omega, by omega, by omega, by omega, fun pv ps L H6 hL hL8 hpl hok hD S6 k6 => ?_⟩
    have hD' : Dp K (hid (own a l c) H6) pv (.list (ps.map encPlan)) := Dp.same (R_same fun b o q e => ⟨S5.fresh q, e⟩) hD
    refine ⟨fun σ H7 => ∃ (pv' : V) (ps' : List Plan) (v7 : Option V), σ = [some (.ref sc), some (.ref a), some (.int most), some (.int steps), some (.int (most - r)), some (.int alike), some pv', v7, none, none, none, none] ∧
      Dp K H7 pv' (.list (ps'.map encPlan)) ∧ (∀ p ∈ ps', PlanOk L p) ∧ ps'.length = ps.length, ?_, ?_⟩
    · refine ⟨_, rfl, rfl, _, rfl, ?_⟩
      refine ite2 (fun _ => ?_) (fun _ => ⟨pv, ps, _, rfl, Dp.same R_le hD', hok, rfl⟩)
      obtain ⟨pa, xs, rfl, hpa, hpd⟩ := Dp.lstE hD'
      have hxl : xs.length = ps.length := by rw [DpAll.len hpd, List.length_map]
      obtain ⟨p0, hp0⟩ : ∃ p, ps[0]? = some p := ⟨_, List.getElem?_eq_getElem (by omega)⟩
      obtain ⟨hss0, _⟩ := hok p0 (List.mem_of_getElem? hp0)
      obtain ⟨x0, hx01, hx02⟩ := DpAll.get hpd (i := 0) (d := encPlan p0) (by rw [List.getElem?_map, hp0]; rfl)
      obtain ⟨t0, sa0, la0, rfl, ht0, hsa0, _⟩ := plan_at hx02
      refine ⟨_, rfl, pa, _, _, _, rfl, rfl, SqL.le hpa, at_of (j := 0) rfl hx01, t0, _, _, _, rfl, rfl, SqT.le ht0, at_of (j := 1) rfl rfl, ?_⟩
      refine ⟨_, rfl, pa, rfl, ⟨_, SqL.le hpa⟩, fun D hDn => lc_list (K := K) (a := pa) (xs := xs) (fun i H7 => ∃ (ys : List V) (qs : List Plan), H7 D = some (.lst ys) ∧ DpAll K (R (fun b => b ∉ own a l c ∧ b ≠ D) H7) ys (qs.map encPlan) ∧ qs.length = i ∧ (∀ q ∈ qs, PlanOk L q) ∧ StAt H7 a l c (2 + 1 + 1 + 1200 + 20 * i) ∧ Keep (own a l c) H6 H7) ?_ ?_ ?_ ?_⟩
      · exact ⟨[], [], upd_same, .nil, rfl, (fun q hq => nomatch hq), (S6.new hDn).mono (by omega), Keep.new hDn⟩
      · rintro i H7 _ ⟨ys, qs, _, _, _, _, _, k7⟩
        exact SqL.le (k7.same.seq hpa)
      · rintro i x H7 hxi ⟨ys, qs, g1, gD, hql, hqok, S7, k7⟩
        have hi := (List.getElem?_eq_some_iff.mp hxi).1
        have Dn := S6.fresh hDn
        obtain ⟨d, hdi, hdx⟩ := DpAll.getV hpd hxi
        rw [List.getElem?_map] at hdi
        obtain ⟨p, hpi, rfl⟩ := Option.map_eq_some_iff.mp hdi
        obtain ⟨t, sa, la, rfl, ht, _, _⟩ := plan_at hdx
        have ht7 : SqT K H7 t [.str p.name, .ref sa, .int p.start, .ref la] := SqT.le (sqT_same k7.same ht)
        refine ⟨rfl, _, rfl, t, _, _, _, rfl, rfl, ht7, at_of (j := 0) rfl rfl, _, rfl, _, rfl, t, _, _, _, rfl, rfl, ht7, at_of (j := 2) rfl rfl, _, rfl, _, rfl, a, l, c, _, .ref sa0, L, p0.stays, rfl, S7, by omega, Dp.same k7.same hsa0, hss0, fun u lens H8 hfit hDu S8 k8 => ⟨(by show 4 ≤ sizeLine; decide), fun t2 ht2 => ?_⟩⟩
        have g8 := k8 _ _ g1 Dn
        have Dt : D ≠ t2 := ne_of_none g8 ht2
        have k68 := k7.trans k8
        have tn := S8.fresh ht2
        have up : ∀ {b : Addr} {o o1 o2 : HO}, H8 b = some o → b ≠ D → (upd (upd H8 t2 o1) D o2) b = some o := fun {b o o1 o2} e hb => by
          rw [upd_ne hb, upd_ne (ne_of_none e ht2)]
          exact e
        refine ⟨ys, by rw [upd_ne Dt]; exact g8, ?_, ys ++ [.ref t2], qs ++ [⟨p.name, p0.stays, p.start, lens⟩], upd_same, ?_, by rw [List.length_append, List.length_singleton, hql], ?_, ?_, ?_⟩
        · have := DpAll.len gD
          rw [List.length_map] at this
          exact small1000 (by omega)
        · rw [List.map_append]
          refine DpAll.snoc (DpAll.same (R_same fun b o q e => ⟨q, up (k8 b o e q.1) q.2⟩) gD) (Dp.tup (SqT.of (R_of ⟨tn, Dt.symm⟩ ?_)) (.cons (.str _) (.cons (Dp.same (R_same fun b o q e => ?_) hsa0) (.cons (.int _) (.cons (Dp.same (R_same fun b o q e => ?_) hDu) .nil)))))
          · rw [upd_ne Dt.symm, upd_same]
          · have hb : b ≠ D := ne_of_none e hDn
            exact ⟨⟨q, hb⟩, up (k68 b o e q) hb⟩
          · have hb : b ≠ D := fun z => by rw [z, g1] at q; cases q
            exact ⟨⟨S7.fresh q, hb⟩, up e hb⟩
        · intro q hq
          rcases List.mem_append.mp hq with z | z
          · exact hqok q z
          · rw [List.mem_singleton.mp z]
            exact ⟨hss0, hfit⟩
        · exact ((S8.new ht2).put Dn).mono (by omega)
        · exact Keep.putNew (k68.trans (Keep.new ht2)) hDn
      · rintro H7 ⟨ys, qs, g1, gD, hql, hqok, S7, k7⟩
        exact ⟨.ref D, qs, _, rfl, Dp.lst (SqL.of g1) (DpAll.same R_le gD), hqok, by omega⟩
    clear hD hD' hok
    rintro σ H7 ⟨pv', ps', v7, rfl, hD7, hok, hlen⟩
    have hn14 : ps'.length ≤ 14 := by omega
    have hC := cfgL hok hL8 hn14
    obtain ⟨pa, xs, rfl, hpa, hpd⟩ := Dp.lstE hD7
    have hxl : xs.length = ps'.length := by rw [DpAll.len hpd, List.length_map]
    have at_x : ∀ {i : Nat} {x : V}, xs[i]? = some x → ∃ p t sa la, ps'[i]? = some p ∧ x = .ref t ∧ SqT K H7 t [.str p.name, .ref sa, .int p.start, .ref la] ∧ Dp K H7 (.ref sa) (.list (p.stays.map encStay)) ∧ Dp K H7 (.ref la) (.list (p.lens.map PyData.int)) := fun {i x} hxi => by
      obtain ⟨d, hdi, hdx⟩ := DpAll.getV hpd hxi
      rw [List.getElem?_map] at hdi
      obtain ⟨p, hpi, rfl⟩ := Option.map_eq_some_iff.mp hdi
      obtain ⟨t, sa, la, rfl, ht, h1, h2⟩ := plan_at hdx
      exact ⟨p, t, sa, la, hpi, rfl, ht, h1, h2⟩
    -- lists
    refine ⟨_, rfl, pa, rfl, ⟨_, hpa⟩, fun D1 hD1 => lc_list (K := K) (a := pa) (xs := xs) (fun i H8 => ∃ ys, H8 D1 = some (.lst ys) ∧ DpAll K (R (fun b => b ≠ D1) H8) ys (lensD (ps'.take i)) ∧ Same H7 H8) ⟨[], upd_same, .nil, Same.new hD1⟩ (fun i H8 _ ⟨_, _, _, s8⟩ => s8.seq hpa) ?_ ?_⟩
    · rintro i x H8 hxi ⟨ys, g1, gD, s8⟩
      have hi := (List.getElem?_eq_some_iff.mp hxi).1
      obtain ⟨p, t, sa, la, hpi, rfl, ht, _, hla⟩ := at_x hxi
      obtain ⟨_, lxs, e, hlx, hld⟩ := Dp.lstE hla
      cases e
      refine ⟨rfl, _, rfl, t, _, _, _, rfl, rfl, sqT_same s8 ht, at_of (j := 3) rfl rfl, la, lxs, rfl, .inl (s8.seq hlx), fun q hq => ?_⟩
      have Dq : D1 ≠ q := ne_of_none g1 hq
      have hyl := DpAll.len gD
      unfold lensD at hyl
      rw [List.length_map, List.length_take] at hyl
      refine ⟨ys, by rw [upd_ne Dq]; exact g1, small1000 (by omega), ys ++ [.ref q], upd_same, ?_, Same.putNew (Same.putNew s8 (s8.free hq)) hD1⟩
      unfold lensD at gD ⊢
      rw [take_snoc hpi]
      refine DpAll.snoc (DpAll.same (R_same fun b o n e => ⟨n, ?_⟩) gD) (Dp.lst (SqL.of (R_of Dq.symm ?_)) (DpAll.same (Same.toR fun b o e => ⟨ne_of_none e hD1, ?_⟩) hld))
      · rw [upd_ne n, upd_ne (ne_of_none e hq)]
        exact e
      · rw [upd_ne Dq.symm, upd_same]
      · rw [upd_ne (ne_of_none e hD1), upd_ne (ne_of_none (s8 _ _ e) hq)]
        exact s8 _ _ e
    rintro H8 ⟨ls, g8, gD8, s8⟩
    rw [hxl, List.take_length] at gD8
    have hl8 : Dp K H8 (.ref D1) (.list (lensD ps')) := Dp.lst (SqL.of g8) (DpAll.same R_le gD8)
    -- told = run([..], lists)
    refine ⟨_, rfl, pa, rfl, ⟨_, s8.seq hpa⟩, fun D2 hD2 => lc_list (K := K) (a := pa) (xs := xs) (fun i H9 => ∃ ys, H9 D2 = some (.lst ys) ∧ ys.length = i ∧ (∀ (j : Nat) (p : Plan), j < i → ps'[j]? = some p → ∃ t r, ys[j]? = some (.ref t) ∧ SqT K (R (fun b => b ≠ D2) H9) t [.str p.name, .ref r, .int p.start] ∧ RoundAt K Cr (R (fun b => b ≠ D2) H9) r p.stays) ∧ Same H8 H9) ?_ ?_ ?_ ?_⟩
    · exact ⟨[], upd_same, rfl, fun j p h => absurd h (Nat.not_lt_zero _), Same.new hD2⟩
    · rintro i H9 _ ⟨_, _, _, _, s9⟩
      exact s9.seq (s8.seq hpa)
    · rintro i x H9 hxi ⟨ys, g1, hyl, hG, s9⟩
      have hi := (List.getElem?_eq_some_iff.mp hxi).1
      obtain ⟨p, t, sa, la, hpi, rfl, ht, hsa, _⟩ := at_x hxi
      obtain ⟨_, sxs, e, hsx, hsd⟩ := Dp.lstE hsa
      cases e
      obtain ⟨hss, _⟩ := hok p (List.mem_of_getElem? hpi)
      have s79 := s8.trans s9
      have ht9 := sqT_same s79 ht
      refine ⟨rfl, _, rfl, t, _, _, _, rfl, rfl, ht9, at_of (j := 0) rfl rfl, _, rfl, t, _, _, _, rfl, rfl, ht9, at_of (j := 1) rfl rfl, sa, sxs, rfl, .inl (s79.seq hsx), fun q hq x dx nx ndx nex => ?_⟩
      have D2q : D2 ≠ q := ne_of_none g1 hq
      have eq : (upd H9 q (.lst sxs)) q = some (.lst sxs) := upd_same
      have sq : Same H9 (upd H9 q (.lst sxs)) := Same.new hq
      have u0 : ∀ {b : Addr} {o : HO}, (upd H9 q (.lst sxs)) b = some o → b ≠ x ∧ (upd (upd (upd H9 q (.lst sxs)) dx (.own x)) x (.ins Cr dx [])) b = some o := fun {b o} e => by
        have n1 := ne_of_none e nx
        refine ⟨n1, ?_⟩
        rw [upd_ne n1, upd_ne (ne_of_none e ndx)]
        exact e
      refine ⟨x, dx, .ref q, L, p.stays, rfl, upd_same, Dp.lst (SqL.of (R_of (u0 eq).1 (u0 eq).2)) (DpAll.same (Same.toR fun b o e => u0 (sq _ _ (s79 _ _ e))) hsd), hss, hL, fun H10 hR k10 => ⟨rfl, ?_⟩⟩
      have s910 : Same H9 H10 := fun b o e => k10 b o (u0 (sq _ _ e)).2 (u0 (sq _ _ e)).1
      have ht10 := sqT_same (s79.trans s910) ht
      refine ⟨_, rfl, t, _, _, _, rfl, rfl, ht10, at_of (j := 2) rfl rfl, (by show 3 ≤ sizeLine; decide), fun t2 ht2 => ?_⟩
      have g10 := s910 _ _ g1
      have Dt : D2 ≠ t2 := ne_of_none g10 ht2
      have up : ∀ {b : Addr} {o o1 o2 : HO}, H10 b = some o → b ≠ D2 → (upd (upd H10 t2 o1) D2 o2) b = some o := fun {b o o1 o2} e hb => by
        rw [upd_ne hb, upd_ne (ne_of_none e ht2)]
        exact e
      have D2x := (u0 (sq _ _ g1)).1
      refine ⟨ys, by rw [upd_ne Dt]; exact g10, small1000 (by omega), ys ++ [.ref t2], upd_same, by rw [List.length_append, List.length_singleton, hyl], fun j p' hj hp' => ?_, ?_⟩
      · by_cases e : j = i
        · subst e
          rw [hpi] at hp'
          cases hp'
          refine ⟨t2, x, ?_, SqT.of (R_of Dt.symm ?_), RoundAt.same hR (R_same fun b o q e => ?_)⟩
          · rw [List.getElem?_append_right (by omega), hyl, Nat.sub_self]
            rfl
          · rw [upd_ne Dt.symm, upd_same]
          · have hb : b ≠ D2 := by
              rcases q with q | q
              · intro z
                rw [z, (u0 (sq _ _ g1)).2] at q
                cases q
              · rw [q]
                exact D2x.symm
            exact ⟨hb, up e hb⟩
        · obtain ⟨t', r', h1, h2, h3⟩ := hG j p' (by omega) hp'
          have sm : Same (R (fun b => b ≠ D2) H9) (R (fun b => b ≠ D2) (upd (upd H10 t2 (.tup [.str p.name, .ref x, .int p.start])) D2 (.lst (ys ++ [.ref t2])))) := R_same fun b o n e => ⟨n, up (s910 _ _ e) n⟩
          exact ⟨t', r', by rw [List.getElem?_append_left (by omega)]; exact h1, sqT_same sm h2, RoundAt.same h3 sm⟩
      · exact Same.putNew (Same.putNew (s9.trans s910) ((s9.trans s910).free ht2)) hD2
    rintro H9 ⟨gs, g9, hgl, hG, s9⟩
    rw [hxl] at hgl hG
    have s79 := s8.trans s9
    refine ⟨_, rfl, D2, .ref D1, ps', L, rfl, ⟨gs, SqL.of g9, hgl, fun i p hp => ?_⟩, Dp.same s9 hl8, hok, hL8, hn14, fun v rows zs H10 G hw hrun s10 => ?_⟩
    · obtain ⟨t, r, h1, h2, h3⟩ := hG i p (List.getElem?_eq_some_iff.mp hp).1 hp
      exact ⟨t, r, h1, SqT.le h2, RoundAt.same h3 R_le⟩
    obtain ⟨u, dx, q1, q2, rfl, hu1, hu2, hu3⟩ := hrun
    have s710 := s79.trans s10
    -- isinstance(told, Run); lists != [..]
    refine ⟨_, rfl, u, dx, _, rfl, hu1, _, rfl, iteF ?_⟩
    refine ⟨_, rfl, _, rfl, pa, rfl, ⟨_, s710.seq hpa⟩, fun D3 hD3 => lc_list (K := K) (a := pa) (xs := xs) (fun i H11 => ∃ ys, H11 D3 = some (.lst ys) ∧ DpAll K (R (fun b => b ≠ D3) H11) ys (lensD (ps'.take i)) ∧ Same H10 H11) ⟨[], upd_same, .nil, Same.new hD3⟩ (fun i H11 _ ⟨_, _, _, s11⟩ => s11.seq (s710.seq hpa)) ?_ ?_⟩
    · rintro i x H11 hxi ⟨ys, g1, gD, s11⟩
      have hi := (List.getElem?_eq_some_iff.mp hxi).1
      obtain ⟨p, t, sa, la, hpi, rfl, ht, _, hla⟩ := at_x hxi
      have hyl := DpAll.len gD
      unfold lensD at hyl
      rw [List.length_map, List.length_take] at hyl
      refine ⟨rfl, _, rfl, t, _, _, _, rfl, rfl, sqT_same (s710.trans s11) ht, at_of (j := 3) rfl rfl, ys, g1, small1000 (by omega), ys ++ [.ref la], upd_same, ?_, Same.putNew s11 hD3⟩
      unfold lensD at gD ⊢
      rw [take_snoc hpi]
      refine DpAll.snoc (DpAll.same (R_same fun b o n e => ⟨n, ?_⟩) gD) (Dp.same (Same.toR fun b o e => ?_) hla)
      · rw [upd_ne n]
        exact e
      · have e10 := s710 _ _ e
        have n := ne_of_none e10 hD3
        refine ⟨n, ?_⟩
        rw [upd_ne n]
        exact s11 _ _ e10
    rintro H11 ⟨ys, g11, gD11, s11⟩
    rw [hxl, List.take_length] at gD11
    have s9_11 := s10.trans s11
    have s711 := s710.trans s11
    refine ⟨_, _, Dp.same (s9.trans s9_11) hl8, Dp.lst (SqL.of g11) (DpAll.same R_le gD11), lens_shaped _, lens_shaped _, _, rfl, ?_⟩
    rw [lens_eqv]
    refine iteF ?_
    -- lines
    refine ⟨_, rfl, u, Er, dx, _, _, rfl, s11 _ _ hu1, UT.cl, UT.nW, uf_walks q1 q2, _, rfl, .ref q1, .ref pa, ps', L, rows, rfl, Dp.same s11 hu2, Dp.same s711 hD7, G, hC, hok, fun fp H12 hl12 s12 => ?_⟩
    have hr6 : ∀ i, (rows i).length ≤ 6 := fun i => by
      rw [G.len i]
      exact hC.ps i
    have hll := allLines_len hr6 ps'.length
    refine ⟨_, rfl, rfl, _, rfl, iteF ?_⟩
    refine ⟨_, rfl, .ref fp, allLines rows ps'.length, rfl, hl12, lines_ok hC.ok rfl G, by omega, fun H13 s13 => ⟨_, rfl, iteF ?_⟩⟩
    have s1013 := (s11.trans s12).trans s13
    have s713 := s710.trans s1013
    refine ⟨_, rfl, u, Er, dx, _, _, rfl, s1013 _ _ hu1, UT.cl, UT.nA, uf_waits q1 q2, _, rfl, _, rfl, u, Er, dx, _, _, rfl, s1013 _ _ hu1, UT.cl, UT.nW, uf_walks q1 q2, .ref pa, .ref q1, ps', L, rows, rfl, Dp.same s713 hD7, Dp.same s1013 hu2, G, hC, fun v zs' H14 hw' hD' s14 => ?_⟩
    have ez := wsorted_uniq (waits_lt hC.ok G ps'.length) hw hw'
    subst ez
    have ez : zs.map encW = (zs.map fun e => [PyData.str e.name, .int e.step, .str e.room, .int e.come, .int e.enter]).map PyData.tuple := by
      rw [List.map_map]
      rfl
    rw [ez] at hD' hu3
    refine ⟨.ref q2, v, _, rfl, Dp.same (s1013.trans s14) hu3, hD', fun d hd => ?_, ?_, k _⟩
    · obtain ⟨e, _, rfl⟩ := List.mem_map.mp hd
      refine ⟨fun x hx => ?_, by simp⟩
      simp at hx
      rcases hx with rfl | rfl | rfl | rfl | rfl
      · exact .inl ⟨_, rfl⟩
      · exact .inr ⟨_, rfl⟩
      · exact .inl ⟨_, rfl⟩
      · exact .inr ⟨_, rfl⟩
      · exact .inr ⟨_, rfl⟩
    · rw [List.length_map, hw.1.length_eq]
      have := allWaits_len (ps := ps') hr6 ps'.length
      omega
end
end H5
/-! What the top has left; the end. -/
namespace H5
open PySem L2 SX K51
open C8 (Cal Met Mak Def cal0 met0 mak0 pe_c pe_mk pe_mt pe_mt0 fnScope_by scC pe_gc InsC call_isC pss_cut tCut fnScope fnArgs fnBody)
theorem kit_self {K : PySem.W.Frag} {v : Value} : PySem.W.kitOne K v v = some true := if_pos (beq_self_eq_true _)
theorem all_mk {l : PySem.W.OpenLaw} {w : World} {K : PySem.W.Frag} {h : Heap} {mg : Str → Option Value} {fa Cr Er Dh f0 f1 f2 f3 f4 f5 f6 f7 f8 f9 f10 f11 f12 f13 f14 f15 f16 f17 f18 fm0 fm1 pst fm2 fm3 fm4 fm5 fm6 fm7 fm8 : Addr} (X : K.In h) (G : h.Ns mainGlobals mg) (hfa : mg "law" = some (.ref fa))
    {oc0 kV0 dc0 pm0 cd0 ct0 : Value} {od0 an0 : Option Addr} {sl0 : Array (Option Value)}
    {oc1 kV1 dc1 pm1 cd1 ct1 : Value} {od1 an1 : Option Addr} {sl1 : Array (Option Value)}
    {oc2 kV2 dc2 pm2 cd2 ct2 : Value} {od2 an2 : Option Addr} {sl2 : Array (Option Value)}
    {oc3 kV3 dc3 pm3 cd3 ct3 : Value} {od3 an3 : Option Addr} {sl3 : Array (Option Value)}
    {oc4 kV4 dc4 pm4 cd4 ct4 : Value} {od4 an4 : Option Addr} {sl4 : Array (Option Value)}
    {oc5 kV5 dc5 pm5 cd5 ct5 : Value} {od5 an5 : Option Addr} {sl5 : Array (Option Value)}
    {oc6 kV6 dc6 pm6 cd6 ct6 : Value} {od6 an6 : Option Addr} {sl6 : Array (Option Value)}
    {oc7 kV7 dc7 pm7 cd7 ct7 : Value} {od7 an7 : Option Addr} {sl7 : Array (Option Value)}
    {oc8 kV8 dc8 pm8 cd8 ct8 : Value} {od8 an8 : Option Addr} {sl8 : Array (Option Value)}
    {oc9 kV9 dc9 pm9 cd9 ct9 : Value} {od9 an9 : Option Addr} {sl9 : Array (Option Value)}
    {oc10 kV10 dc10 pm10 cd10 ct10 : Value} {od10 an10 : Option Addr} {sl10 : Array (Option Value)}
    {oc11 kV11 dc11 pm11 cd11 ct11 : Value} {od11 an11 : Option Addr} {sl11 : Array (Option Value)}
    {oc12 kV12 dc12 pm12 cd12 ct12 : Value} {od12 an12 : Option Addr} {sl12 : Array (Option Value)}
    {oc13 kV13 dc13 pm13 cd13 ct13 : Value} {od13 an13 : Option Addr} {sl13 : Array (Option Value)}
    {oc14 kV14 dc14 pm14 cd14 ct14 : Value} {od14 an14 : Option Addr} {sl14 : Array (Option Value)}
    {oc15 kV15 dc15 pm15 cd15 ct15 : Value} {od15 an15 : Option Addr} {sl15 : Array (Option Value)}
    {oc16 kV16 dc16 pm16 cd16 ct16 : Value} {od16 an16 : Option Addr} {sl16 : Array (Option Value)}
    {oc17 kV17 dc17 pm17 cd17 ct17 : Value} {od17 an17 : Option Addr} {sl17 : Array (Option Value)}
    {oc18 kV18 dc18 pm18 cd18 ct18 : Value} {od18 an18 : Option Addr} {sl18 : Array (Option Value)}
    {ocm0 kVm0 dcm0 pmm0 cdm0 ctm0 : Value} {odm0 anm0 : Option Addr} {slm0 : Array (Option Value)}
    {rst : List Value}
    {ocm1 kVm1 dcm1 pmm1 cdm1 ctm1 : Value} {odm1 anm1 : Option Addr} {slm1 : Array (Option Value)}
    {ocm2 kVm2 dcm2 pmm2 cdm2 ctm2 : Value} {odm2 anm2 : Option Addr} {slm2 : Array (Option Value)}
    {ocm3 kVm3 dcm3 pmm3 cdm3 ctm3 : Value} {odm3 anm3 : Option Addr} {slm3 : Array (Option Value)}
    {ocm4 kVm4 dcm4 pmm4 cdm4 ctm4 : Value} {odm4 anm4 : Option Addr} {slm4 : Array (Option Value)}
    {ocm5 kVm5 dcm5 pmm5 cdm5 ctm5 : Value} {odm5 anm5 : Option Addr} {slm5 : Array (Option Value)}
    {ocm6 kVm6 dcm6 pmm6 cdm6 ctm6 : Value} {odm6 anm6 : Option Addr} {slm6 : Array (Option Value)}
    {ocm7 kVm7 dcm7 pmm7 cdm7 ctm7 : Value} {odm7 anm7 : Option Addr} {slm7 : Array (Option Value)}
    {ocm8 kVm8 dcm8 pmm8 cdm8 ctm8 : Value} {odm8 anm8 : Option Addr} {slm8 : Array (Option Value)}
    {t1 t2 t3 t4 t5 t6 : Tok}
    (c_Round : PySem.W.nsIn K mainGlobals "Round" = some (some (.ref Cr)))
    (c_Run : PySem.W.nsIn K mainGlobals "Run" = some (some (.ref Er)))
    (c_House : PySem.W.nsIn K mainGlobals "House" = some (some (.ref Dh)))
    (a0 : PySem.W.nsIn K mainGlobals "is_name" = some (some (.ref f0)))
    (l0 : K.lookup f0 = some ⟨oc0, od0, .func (PySem.W.fnOf "is_name" "is_name" (fnArgs sIsName) (fnBody sIsName) (fnScope sIsName) .none kV0 dc0 pm0 an0 cd0 ct0), sl0⟩)
    (q0 : PySem.W.codeIn K cd0 "is_name" = true)
    (k0 : PySem.W.keepIn K (.ref f0) = true)
    (a1 : PySem.W.nsIn K mainGlobals "walk" = some (some (.ref f1)))
    (l1 : K.lookup f1 = some ⟨oc1, od1, .func (PySem.W.fnOf "walk" "walk" (fnArgs sWalk) (fnBody sWalk) (fnScope sWalk) .none kV1 dc1 pm1 an1 cd1 ct1), sl1⟩)
    (q1 : PySem.W.codeIn K cd1 "walk" = true)
    (k1 : PySem.W.keepIn K (.ref f1) = true)
    (a2 : PySem.W.nsIn K mainGlobals "run" = some (some (.ref f2)))
    (l2 : K.lookup f2 = some ⟨oc2, od2, .func (PySem.W.fnOf "run" "run" (fnArgs sRun) (fnBody sRun) (fnScope sRun) .none kV2 dc2 pm2 an2 cd2 ct2), sl2⟩)
    (q2 : PySem.W.codeIn K cd2 "run" = true)
    (k2 : PySem.W.keepIn K (.ref f2) = true)
    (a3 : PySem.W.nsIn K mainGlobals "_law_state" = some (some (.ref f3)))
    (l3 : K.lookup f3 = some ⟨oc3, od3, .func (PySem.W.fnOf "_law_state" "_law_state" (fnArgs sState) (fnBody sState) (fnScope sState) .none kV3 dc3 pm3 an3 cd3 ct3), sl3⟩)
    (q3 : PySem.W.codeIn K cd3 "_law_state" = true)
    (k3 : PySem.W.keepIn K (.ref f3) = true)
    (a4 : PySem.W.nsIn K mainGlobals "_law_mixed" = some (some (.ref f4)))
    (l4 : K.lookup f4 = some ⟨oc4, od4, .func (PySem.W.fnOf "_law_mixed" "_law_mixed" (fnArgs sMixed) (fnBody sMixed) (fnScope sMixed) .none kV4 dc4 pm4 an4 cd4 ct4), sl4⟩)
    (q4 : PySem.W.codeIn K cd4 "_law_mixed" = true)
    (k4 : PySem.W.keepIn K (.ref f4) = true)
    (a5 : PySem.W.nsIn K mainGlobals "_law_draw" = some (some (.ref f5)))
    (l5 : K.lookup f5 = some ⟨oc5, od5, .func (PySem.W.fnOf "_law_draw" "_law_draw" (fnArgs sDraw) (fnBody sDraw) (fnScope sDraw) .none kV5 dc5 pm5 an5 cd5 ct5), sl5⟩)
    (q5 : PySem.W.codeIn K cd5 "_law_draw" = true)
    (k5 : PySem.W.keepIn K (.ref f5) = true)
    (a6 : PySem.W.nsIn K mainGlobals "_law_limit" = some (some (.ref f6)))
    (l6 : K.lookup f6 = some ⟨oc6, od6, .func (PySem.W.fnOf "_law_limit" "_law_limit" (fnArgs sLimit) (fnBody sLimit) (fnScope sLimit) .none kV6 dc6 pm6 an6 cd6 ct6), sl6⟩)
    (q6 : PySem.W.codeIn K cd6 "_law_limit" = true)
    (k6 : PySem.W.keepIn K (.ref f6) = true)
    (a7 : PySem.W.nsIn K mainGlobals "_law_signed" = some (some (.ref f7)))
    (l7 : K.lookup f7 = some ⟨oc7, od7, .func (PySem.W.fnOf "_law_signed" "_law_signed" (fnArgs sSigned) (fnBody sSigned) (fnScope sSigned) .none kV7 dc7 pm7 an7 cd7 ct7), sl7⟩)
    (q7 : PySem.W.codeIn K cd7 "_law_signed" = true)
    (k7 : PySem.W.keepIn K (.ref f7) = true)
    (a8 : PySem.W.nsIn K mainGlobals "_law_is_int" = some (some (.ref f8)))
    (l8 : K.lookup f8 = some ⟨oc8, od8, .func (PySem.W.fnOf "_law_is_int" "_law_is_int" (fnArgs sIsInt) (fnBody sIsInt) (fnScope sIsInt) .none kV8 dc8 pm8 an8 cd8 ct8), sl8⟩)
    (q8 : PySem.W.codeIn K cd8 "_law_is_int" = true)
    (k8 : PySem.W.keepIn K (.ref f8) = true)
    (a9 : PySem.W.nsIn K mainGlobals "_law_name" = some (some (.ref f9)))
    (l9 : K.lookup f9 = some ⟨oc9, od9, .func (PySem.W.fnOf "_law_name" "_law_name" (fnArgs sName) (fnBody sName) (fnScope sName) .none kV9 dc9 pm9 an9 cd9 ct9), sl9⟩)
    (q9 : PySem.W.codeIn K cd9 "_law_name" = true)
    (k9 : PySem.W.keepIn K (.ref f9) = true)
    (a10 : PySem.W.nsIn K mainGlobals "_law_names" = some (some (.ref f10)))
    (l10 : K.lookup f10 = some ⟨oc10, od10, .func (PySem.W.fnOf "_law_names" "_law_names" (fnArgs sNames) (fnBody sNames) (fnScope sNames) .none kV10 dc10 pm10 an10 cd10 ct10), sl10⟩)
    (q10 : PySem.W.codeIn K cd10 "_law_names" = true)
    (k10 : PySem.W.keepIn K (.ref f10) = true)
    (a11 : PySem.W.nsIn K mainGlobals "_law_stays" = some (some (.ref f11)))
    (l11 : K.lookup f11 = some ⟨oc11, od11, .func (PySem.W.fnOf "_law_stays" "_law_stays" (fnArgs sStays) (fnBody sStays) (fnScope sStays) .none kV11 dc11 pm11 an11 cd11 ct11), sl11⟩)
    (q11 : PySem.W.codeIn K cd11 "_law_stays" = true)
    (k11 : PySem.W.keepIn K (.ref f11) = true)
    (a12 : PySem.W.nsIn K mainGlobals "_law_lengths" = some (some (.ref f12)))
    (l12 : K.lookup f12 = some ⟨oc12, od12, .func (PySem.W.fnOf "_law_lengths" "_law_lengths" (fnArgs sLengths) (fnBody sLengths) (fnScope sLengths) .none kV12 dc12 pm12 an12 cd12 ct12), sl12⟩)
    (q12 : PySem.W.codeIn K cd12 "_law_lengths" = true)
    (k12 : PySem.W.keepIn K (.ref f12) = true)
    (a13 : PySem.W.nsIn K mainGlobals "_law_is_rows" = some (some (.ref f13)))
    (l13 : K.lookup f13 = some ⟨oc13, od13, .func (PySem.W.fnOf "_law_is_rows" "_law_is_rows" (fnArgs sIsRows) (fnBody sIsRows) (fnScope sIsRows) .none kV13 dc13 pm13 an13 cd13 ct13), sl13⟩)
    (q13 : PySem.W.codeIn K cd13 "_law_is_rows" = true)
    (k13 : PySem.W.keepIn K (.ref f13) = true)
    (a14 : PySem.W.nsIn K mainGlobals "_law_groups" = some (some (.ref f14)))
    (l14 : K.lookup f14 = some ⟨oc14, od14, .func (PySem.W.fnOf "_law_groups" "_law_groups" (fnArgs sGroups) (fnBody sGroups) (fnScope sGroups) .none kV14 dc14 pm14 an14 cd14 ct14), sl14⟩)
    (q14 : PySem.W.codeIn K cd14 "_law_groups" = true)
    (k14 : PySem.W.keepIn K (.ref f14) = true)
    (a15 : PySem.W.nsIn K mainGlobals "_law_waits" = some (some (.ref f15)))
    (l15 : K.lookup f15 = some ⟨oc15, od15, .func (PySem.W.fnOf "_law_waits" "_law_waits" (fnArgs sWaits) (fnBody sWaits) (fnScope sWaits) .none kV15 dc15 pm15 an15 cd15 ct15), sl15⟩)
    (q15 : PySem.W.codeIn K cd15 "_law_waits" = true)
    (k15 : PySem.W.keepIn K (.ref f15) = true)
    (a16 : PySem.W.nsIn K mainGlobals "_law_lines" = some (some (.ref f16)))
    (l16 : K.lookup f16 = some ⟨oc16, od16, .func (PySem.W.fnOf "_law_lines" "_law_lines" (fnArgs sLines) (fnBody sLines) (fnScope sLines) .none kV16 dc16 pm16 an16 cd16 ct16), sl16⟩)
    (q16 : PySem.W.codeIn K cd16 "_law_lines" = true)
    (k16 : PySem.W.keepIn K (.ref f16) = true)
    (a17 : PySem.W.nsIn K mainGlobals "_law_orderly" = some (some (.ref f17)))
    (l17 : K.lookup f17 = some ⟨oc17, od17, .func (PySem.W.fnOf "_law_orderly" "_law_orderly" (fnArgs sOrderly) (fnBody sOrderly) (fnScope sOrderly) .none kV17 dc17 pm17 an17 cd17 ct17), sl17⟩)
    (q17 : PySem.W.codeIn K cd17 "_law_orderly" = true)
    (k17 : PySem.W.keepIn K (.ref f17) = true)
    (a18 : PySem.W.nsIn K mainGlobals "law" = some (some (.ref f18)))
    (l18 : K.lookup f18 = some ⟨oc18, od18, .func (PySem.W.fnOf "law" "law" (fnArgs sLaw) (fnBody sLaw) (fnScope sLaw) .none kV18 dc18 pm18 an18 cd18 ct18), sl18⟩)
    (q18 : PySem.W.codeIn K cd18 "law" = true)
    (pgRound : PySem.W.plainGet K Cr Str.empty = true)
    (hdRound : PySem.W.hasDictIn K Cr = true)
    (poRound : PySem.W.plainOver K Cr = true)
    (saRound : PySem.W.findIn K (.ref Cr) "__setattr__" = some (some (.builtin "object.__setattr__")))
    (mkRound : PySem.W.makesIn K Cr = true)
    (kcRound : PySem.W.keepIn K (.ref Cr) = true)
    (pgRun : PySem.W.plainGet K Er Str.empty = true)
    (hdRun : PySem.W.hasDictIn K Er = true)
    (poRun : PySem.W.plainOver K Er = true)
    (saRun : PySem.W.findIn K (.ref Er) "__setattr__" = some (some (.builtin "object.__setattr__")))
    (mkRun : PySem.W.makesIn K Er = true)
    (kcRun : PySem.W.keepIn K (.ref Er) = true)
    (pgHouse : PySem.W.plainGet K Dh Str.empty = true)
    (hdHouse : PySem.W.hasDictIn K Dh = true)
    (poHouse : PySem.W.plainOver K Dh = true)
    (saHouse : PySem.W.findIn K (.ref Dh) "__setattr__" = some (some (.builtin "object.__setattr__")))
    (mkHouse : PySem.W.makesIn K Dh = true)
    (kcHouse : PySem.W.keepIn K (.ref Dh) = true)
    (am0 : PySem.W.findIn K (.ref Cr) "__init__" = some (some (.ref fm0)))
    (im0 : PySem.W.isFn K (.ref fm0) = true)
    (lm0 : K.lookup fm0 = some ⟨ocm0, odm0, .func (PySem.W.fnOf "__init__" "Round.__init__" (fnArgs sRInit) (fnBody sRInit) (fnScope sRInit) .none kVm0 dcm0 pmm0 anm0 cdm0 ctm0), slm0⟩)
    (qm0 : PySem.W.codeIn K cdm0 "Round.__init__" = true)
    (s0 : PySem.W.findIn K (.ref Cr) "stays" = some (some (.ref pst)))
    (s1 : PySem.W.specialIn K (.ref pst) "__get__" = some (some (.builtin "property.__get__")))
    (s2 : PySem.W.takesIn K (.ref pst) = some true)
    (s3 : PySem.W.recIn K pst "property" = some (.ref fm1 :: rst))
    (lm1 : K.lookup fm1 = some ⟨ocm1, odm1, .func (PySem.W.fnOf "stays" "Round.stays" (fnArgs sRStays) (fnBody sRStays) (fnScope sRStays) .none kVm1 dcm1 pmm1 anm1 cdm1 ctm1), slm1⟩)
    (qm1 : PySem.W.codeIn K cdm1 "Round.stays" = true)
    (am2 : PySem.W.findIn K (.ref Cr) "__len__" = some (some (.ref fm2)))
    (im2 : PySem.W.isFn K (.ref fm2) = true)
    (lm2 : K.lookup fm2 = some ⟨ocm2, odm2, .func (PySem.W.fnOf "__len__" "Round.__len__" (fnArgs sRLen) (fnBody sRLen) (fnScope sRLen) .none kVm2 dcm2 pmm2 anm2 cdm2 ctm2), slm2⟩)
    (qm2 : PySem.W.codeIn K cdm2 "Round.__len__" = true)
    (am3 : PySem.W.findIn K (.ref Er) "__init__" = some (some (.ref fm3)))
    (im3 : PySem.W.isFn K (.ref fm3) = true)
    (lm3 : K.lookup fm3 = some ⟨ocm3, odm3, .func (PySem.W.fnOf "__init__" "Run.__init__" (fnArgs sRunInit) (fnBody sRunInit) (fnScope sRunInit) .none kVm3 dcm3 pmm3 anm3 cdm3 ctm3), slm3⟩)
    (qm3 : PySem.W.codeIn K cdm3 "Run.__init__" = true)
    (am4 : PySem.W.findIn K (.ref Dh) "__init__" = some (some (.ref fm4)))
    (im4 : PySem.W.isFn K (.ref fm4) = true)
    (lm4 : K.lookup fm4 = some ⟨ocm4, odm4, .func (PySem.W.fnOf "__init__" "House.__init__" (fnArgs sHInit) (fnBody sHInit) (fnScope sHInit) .none kVm4 dcm4 pmm4 anm4 cdm4 ctm4), slm4⟩)
    (qm4 : PySem.W.codeIn K cdm4 "House.__init__" = true)
    (am5 : PySem.W.findIn K (.ref Dh) "leave" = some (some (.ref fm5)))
    (im5 : PySem.W.isFn K (.ref fm5) = true)
    (lm5 : K.lookup fm5 = some ⟨ocm5, odm5, .func (PySem.W.fnOf "leave" "House.leave" (fnArgs sLeave) (fnBody sLeave) (fnScope sLeave) .none kVm5 dcm5 pmm5 anm5 cdm5 ctm5), slm5⟩)
    (qm5 : PySem.W.codeIn K cdm5 "House.leave" = true)
    (km5 : PySem.W.keepIn K (.ref fm5) = true)
    (am6 : PySem.W.findIn K (.ref Dh) "enter" = some (some (.ref fm6)))
    (im6 : PySem.W.isFn K (.ref fm6) = true)
    (lm6 : K.lookup fm6 = some ⟨ocm6, odm6, .func (PySem.W.fnOf "enter" "House.enter" (fnArgs sEnter) (fnBody sEnter) (fnScope sEnter) .none kVm6 dcm6 pmm6 anm6 cdm6 ctm6), slm6⟩)
    (qm6 : PySem.W.codeIn K cdm6 "House.enter" = true)
    (km6 : PySem.W.keepIn K (.ref fm6) = true)
    (am7 : PySem.W.findIn K (.ref Dh) "come" = some (some (.ref fm7)))
    (im7 : PySem.W.isFn K (.ref fm7) = true)
    (lm7 : K.lookup fm7 = some ⟨ocm7, odm7, .func (PySem.W.fnOf "come" "House.come" (fnArgs sCome) (fnBody sCome) (fnScope sCome) .none kVm7 dcm7 pmm7 anm7 cdm7 ctm7), slm7⟩)
    (qm7 : PySem.W.codeIn K cdm7 "House.come" = true)
    (km7 : PySem.W.keepIn K (.ref fm7) = true)
    (am8 : PySem.W.findIn K (.ref Dh) "happen" = some (some (.ref fm8)))
    (im8 : PySem.W.isFn K (.ref fm8) = true)
    (lm8 : K.lookup fm8 = some ⟨ocm8, odm8, .func (PySem.W.fnOf "happen" "House.happen" (fnArgs sHappen) (fnBody sHappen) (fnScope sHappen) .none kVm8 dcm8 pmm8 anm8 cdm8 ctm8), slm8⟩)
    (qm8 : PySem.W.codeIn K cdm8 "House.happen" = true)
    (km8 : PySem.W.keepIn K (.ref fm8) = true)
    (nRound__stays : PySem.W.findIn K (.ref Cr) "_stays" = some none)
    (nRound__least : PySem.W.findIn K (.ref Cr) "_least" = some none)
    (nRound__most : PySem.W.findIn K (.ref Cr) "_most" = some none)
    (nRun_walks : PySem.W.findIn K (.ref Er) "walks" = some none)
    (nRun_waits : PySem.W.findIn K (.ref Er) "waits" = some none)
    (nHouse_plans : PySem.W.findIn K (.ref Dh) "plans" = some none)
    (nHouse_rows : PySem.W.findIn K (.ref Dh) "rows" = some none)
    (nHouse_due : PySem.W.findIn K (.ref Dh) "due" = some none)
    (nHouse_inside : PySem.W.findIn K (.ref Dh) "inside" = some none)
    (nHouse_queues : PySem.W.findIn K (.ref Dh) "queues" = some none)
    (rd : PySem.W.readsIn K Cr (.type "type") = true)
    (ga : PySem.W.specialIn K (.ref Cr) "__getattribute__" = some (some (.builtin "type.__getattribute__")))
    (cv : PySem.W.findCls K (.ref Cr) (.type "type") "MOST_STAYS" = some (.val (.int 6 t1)))
    (ih : PySem.W.findIn K (.ref Er) "__class__" = some (some (.builtin "object.__class__")))
    (ig : PySem.W.specialIn K (.builtin "object.__class__") "__get__" = some (some (.builtin "getset_descriptor.__get__")))
    (it : PySem.W.takesIn K (.builtin "object.__class__") = some true)
    (im : PySem.W.mroIn K Er (.type "object") = some true)
    (g_LETTERS : PySem.W.nsIn K mainGlobals "LETTERS" = some (some (.str letters t2)))
    (g_DIGITS : PySem.W.nsIn K mainGlobals "DIGITS" = some (some (.str digitsS t3)))
    (g_MOST_SIGNS : PySem.W.nsIn K mainGlobals "MOST_SIGNS" = some (some (.int 12 t4)))
    (g_HALL : PySem.W.nsIn K mainGlobals "HALL" = some (some (.str hallS t5)))
    (g_MOST_GROUPS : PySem.W.nsIn K mainGlobals "MOST_GROUPS" = some (some (.int 14 t6)))
    (z_len : PySem.W.nsIn K mainGlobals "len" = some none)
    (z_int : PySem.W.nsIn K mainGlobals "int" = some none)
    (z_range : PySem.W.nsIn K mainGlobals "range" = some none)
    (z_zip : PySem.W.nsIn K mainGlobals "zip" = some none)
    (z_isinstance : PySem.W.nsIn K mainGlobals "isinstance" = some none)
    (z_list : PySem.W.nsIn K mainGlobals "list" = some none)
    (z_tuple : PySem.W.nsIn K mainGlobals "tuple" = some none)
    (z_str : PySem.W.nsIn K mainGlobals "str" = some none)
    (z_bool : PySem.W.nsIn K mainGlobals "bool" = some none)
    (z_max : PySem.W.nsIn K mainGlobals "max" = some none)
    (z_min : PySem.W.nsIn K mainGlobals "min" = some none)
    (z_sorted : PySem.W.nsIn K mainGlobals "sorted" = some none) :
    ∃ fd : FuncData, (∀ (s : Shared) (v : Value), BindsTo s fd ⟨[v], []⟩ [("_law_script", v)]) ∧ ∀ base : Heap, K.In base → base.Ns mainGlobals mg → FnOk l.prog w K mg base C8.CX0 6 fa fd ["_law_script"] (spLaw K) := by
  have e := hfa.symm.trans (PySem.W.mg_of X G a18)
  cases e
  have F0 : C8.Fun K "is_name" "is_name" sIsName f0 _ := ⟨⟨oc0, od0, .none, kV0, dc0, pm0, an0, cd0, ct0, sl0, rfl, l0, q0⟩⟩
  have b0 := F0.binds rfl (ps := ["text"]) fun _ _ _ _ _ _ us hl => match us, hl with | [_], _ => rfl
  have D0 : Def K mg "is_name" sIsName f0 _ := ⟨F0, PySem.W.mg_of X G a0, k0⟩
  have F1 : C8.Fun K "walk" "walk" sWalk f1 _ := ⟨⟨oc1, od1, .none, kV1, dc1, pm1, an1, cd1, ct1, sl1, rfl, l1, q1⟩⟩
  have b1 := F1.binds rfl (ps := ["tour", "start", "lengths"]) fun _ _ _ _ _ _ us hl => match us, hl with | [_, _, _], _ => rfl
  have D1 : Def K mg "walk" sWalk f1 _ := ⟨F1, PySem.W.mg_of X G a1, k1⟩
  have F2 : C8.Fun K "run" "run" sRun f2 _ := ⟨⟨oc2, od2, .none, kV2, dc2, pm2, an2, cd2, ct2, sl2, rfl, l2, q2⟩⟩
  have b2 := F2.binds rfl (ps := ["groups", "lengths"]) fun _ _ _ _ _ _ us hl => match us, hl with | [_, _], _ => rfl
  have D2 : Def K mg "run" sRun f2 _ := ⟨F2, PySem.W.mg_of X G a2, k2⟩
  have F3 : C8.Fun K "_law_state" "_law_state" sState f3 _ := ⟨⟨oc3, od3, .none, kV3, dc3, pm3, an3, cd3, ct3, sl3, rfl, l3, q3⟩⟩
  have b3 := F3.binds rfl (ps := ["_law_script"]) fun _ _ _ _ _ _ us hl => match us, hl with | [_], _ => rfl
  have D3 : Def K mg "_law_state" sState f3 _ := ⟨F3, PySem.W.mg_of X G a3, k3⟩
  have F4 : C8.Fun K "_law_mixed" "_law_mixed" sMixed f4 _ := ⟨⟨oc4, od4, .none, kV4, dc4, pm4, an4, cd4, ct4, sl4, rfl, l4, q4⟩⟩
  have b4 := F4.binds rfl (ps := ["_law_state_here", "_law_many"]) fun _ _ _ _ _ _ us hl => match us, hl with | [_, _], _ => rfl
  have D4 : Def K mg "_law_mixed" sMixed f4 _ := ⟨F4, PySem.W.mg_of X G a4, k4⟩
  have F5 : C8.Fun K "_law_draw" "_law_draw" sDraw f5 _ := ⟨⟨oc5, od5, .none, kV5, dc5, pm5, an5, cd5, ct5, sl5, rfl, l5, q5⟩⟩
  have b5 := F5.binds rfl (ps := ["_law_state_here", "_law_many"]) fun _ _ _ _ _ _ us hl => match us, hl with | [_, _], _ => rfl
  have D5 : Def K mg "_law_draw" sDraw f5 _ := ⟨F5, PySem.W.mg_of X G a5, k5⟩
  have F6 : C8.Fun K "_law_limit" "_law_limit" sLimit f6 _ := ⟨⟨oc6, od6, .none, kV6, dc6, pm6, an6, cd6, ct6, sl6, rfl, l6, q6⟩⟩
  have b6 := F6.binds rfl (ps := ["_law_state_here"]) fun _ _ _ _ _ _ us hl => match us, hl with | [_], _ => rfl
  have D6 : Def K mg "_law_limit" sLimit f6 _ := ⟨F6, PySem.W.mg_of X G a6, k6⟩
  have F7 : C8.Fun K "_law_signed" "_law_signed" sSigned f7 _ := ⟨⟨oc7, od7, .none, kV7, dc7, pm7, an7, cd7, ct7, sl7, rfl, l7, q7⟩⟩
  have b7 := F7.binds rfl (ps := ["_law_state_here", "_law_many"]) fun _ _ _ _ _ _ us hl => match us, hl with | [_, _], _ => rfl
  have D7 : Def K mg "_law_signed" sSigned f7 _ := ⟨F7, PySem.W.mg_of X G a7, k7⟩
  have F8 : C8.Fun K "_law_is_int" "_law_is_int" sIsInt f8 _ := ⟨⟨oc8, od8, .none, kV8, dc8, pm8, an8, cd8, ct8, sl8, rfl, l8, q8⟩⟩
  have b8 := F8.binds rfl (ps := ["_law_value"]) fun _ _ _ _ _ _ us hl => match us, hl with | [_], _ => rfl
  have D8 : Def K mg "_law_is_int" sIsInt f8 _ := ⟨F8, PySem.W.mg_of X G a8, k8⟩
  have F9 : C8.Fun K "_law_name" "_law_name" sName f9 _ := ⟨⟨oc9, od9, .none, kV9, dc9, pm9, an9, cd9, ct9, sl9, rfl, l9, q9⟩⟩
  have b9 := F9.binds rfl (ps := ["_law_state_here"]) fun _ _ _ _ _ _ us hl => match us, hl with | [_], _ => rfl
  have D9 : Def K mg "_law_name" sName f9 _ := ⟨F9, PySem.W.mg_of X G a9, k9⟩
  have F10 : C8.Fun K "_law_names" "_law_names" sNames f10 _ := ⟨⟨oc10, od10, .none, kV10, dc10, pm10, an10, cd10, ct10, sl10, rfl, l10, q10⟩⟩
  have b10 := F10.binds rfl (ps := ["_law_state_here", "_law_count"]) fun _ _ _ _ _ _ us hl => match us, hl with | [_, _], _ => rfl
  have D10 : Def K mg "_law_names" sNames f10 _ := ⟨F10, PySem.W.mg_of X G a10, k10⟩
  have F11 : C8.Fun K "_law_stays" "_law_stays" sStays f11 _ := ⟨⟨oc11, od11, .none, kV11, dc11, pm11, an11, cd11, ct11, sl11, rfl, l11, q11⟩⟩
  have b11 := F11.binds rfl (ps := ["_law_state_here", "_law_rooms", "_law_steps", "_law_many", "_law_lag"]) fun _ _ _ _ _ _ us hl => match us, hl with | [_, _, _, _, _], _ => rfl
  have D11 : Def K mg "_law_stays" sStays f11 _ := ⟨F11, PySem.W.mg_of X G a11, k11⟩
  have F12 : C8.Fun K "_law_lengths" "_law_lengths" sLengths f12 _ := ⟨⟨oc12, od12, .none, kV12, dc12, pm12, an12, cd12, ct12, sl12, rfl, l12, q12⟩⟩
  have b12 := F12.binds rfl (ps := ["_law_state_here", "_law_stays_here"]) fun _ _ _ _ _ _ us hl => match us, hl with | [_, _], _ => rfl
  have D12 : Def K mg "_law_lengths" sLengths f12 _ := ⟨F12, PySem.W.mg_of X G a12, k12⟩
  have F13 : C8.Fun K "_law_is_rows" "_law_is_rows" sIsRows f13 _ := ⟨⟨oc13, od13, .none, kV13, dc13, pm13, an13, cd13, ct13, sl13, rfl, l13, q13⟩⟩
  have b13 := F13.binds rfl (ps := ["_law_value", "_law_due"]) fun _ _ _ _ _ _ us hl => match us, hl with | [_, _], _ => rfl
  have D13 : Def K mg "_law_is_rows" sIsRows f13 _ := ⟨F13, PySem.W.mg_of X G a13, k13⟩
  have F14 : C8.Fun K "_law_groups" "_law_groups" sGroups f14 _ := ⟨⟨oc14, od14, .none, kV14, dc14, pm14, an14, cd14, ct14, sl14, rfl, l14, q14⟩⟩
  have b14 := F14.binds rfl (ps := ["_law_state_here", "_law_count", "_law_steps"]) fun _ _ _ _ _ _ us hl => match us, hl with | [_, _, _], _ => rfl
  have D14 : Def K mg "_law_groups" sGroups f14 _ := ⟨F14, PySem.W.mg_of X G a14, k14⟩
  have F15 : C8.Fun K "_law_waits" "_law_waits" sWaits f15 _ := ⟨⟨oc15, od15, .none, kV15, dc15, pm15, an15, cd15, ct15, sl15, rfl, l15, q15⟩⟩
  have b15 := F15.binds rfl (ps := ["_law_plans", "_law_rows"]) fun _ _ _ _ _ _ us hl => match us, hl with | [_, _], _ => rfl
  have D15 : Def K mg "_law_waits" sWaits f15 _ := ⟨F15, PySem.W.mg_of X G a15, k15⟩
  have F16 : C8.Fun K "_law_lines" "_law_lines" sLines f16 _ := ⟨⟨oc16, od16, .none, kV16, dc16, pm16, an16, cd16, ct16, sl16, rfl, l16, q16⟩⟩
  have b16 := F16.binds rfl (ps := ["_law_walks", "_law_plans"]) fun _ _ _ _ _ _ us hl => match us, hl with | [_, _], _ => rfl
  have D16 : Def K mg "_law_lines" sLines f16 _ := ⟨F16, PySem.W.mg_of X G a16, k16⟩
  have F17 : C8.Fun K "_law_orderly" "_law_orderly" sOrderly f17 _ := ⟨⟨oc17, od17, .none, kV17, dc17, pm17, an17, cd17, ct17, sl17, rfl, l17, q17⟩⟩
  have b17 := F17.binds rfl (ps := ["_law_lines_here"]) fun _ _ _ _ _ _ us hl => match us, hl with | [_], _ => rfl
  have D17 : Def K mg "_law_orderly" sOrderly f17 _ := ⟨F17, PySem.W.mg_of X G a17, k17⟩
  have F18 : C8.Fun K "law" "law" sLaw fa _ := ⟨⟨oc18, od18, .none, kV18, dc18, pm18, an18, cd18, ct18, sl18, rfl, l18, q18⟩⟩
  have b18 := F18.binds rfl (ps := ["_law_script"]) fun _ _ _ _ _ _ us hl => match us, hl with | [_], _ => rfl
  have clRound : Cls K Cr := ⟨pgRound, hdRound, poRound, saRound⟩
  have clRun : Cls K Er := ⟨pgRun, hdRun, poRun, saRun⟩
  have clHouse : Cls K Dh := ⟨pgHouse, hdHouse, poHouse, saHouse⟩
  have Fm0 : C8.Fun K "__init__" "Round.__init__" sRInit fm0 _ := ⟨⟨ocm0, odm0, .none, kVm0, dcm0, pmm0, anm0, cdm0, ctm0, slm0, rfl, lm0, qm0⟩⟩
  have bm0 := Fm0.binds rfl (ps := ["self", "stays"]) fun _ _ _ _ _ _ us hl => match us, hl with | [_, _], _ => rfl
  have Km0 : Mk K Cr fm0 := ⟨mkRound, am0, im0, kcRound⟩
  have Fm1 : C8.Fun K "stays" "Round.stays" sRStays fm1 _ := ⟨⟨ocm1, odm1, .none, kVm1, dcm1, pmm1, anm1, cdm1, ctm1, slm1, rfl, lm1, qm1⟩⟩
  have bm1 := Fm1.binds rfl (ps := ["self"]) fun _ _ _ _ _ _ us hl => match us, hl with | [_], _ => rfl
  have Fm2 : C8.Fun K "__len__" "Round.__len__" sRLen fm2 _ := ⟨⟨ocm2, odm2, .none, kVm2, dcm2, pmm2, anm2, cdm2, ctm2, slm2, rfl, lm2, qm2⟩⟩
  have bm2 := Fm2.binds rfl (ps := ["self"]) fun _ _ _ _ _ _ us hl => match us, hl with | [_], _ => rfl
  have Fm3 : C8.Fun K "__init__" "Run.__init__" sRunInit fm3 _ := ⟨⟨ocm3, odm3, .none, kVm3, dcm3, pmm3, anm3, cdm3, ctm3, slm3, rfl, lm3, qm3⟩⟩
  have bm3 := Fm3.binds rfl (ps := ["self", "walks", "waits"]) fun _ _ _ _ _ _ us hl => match us, hl with | [_, _, _], _ => rfl
  have Km3 : Mk K Er fm3 := ⟨mkRun, am3, im3, kcRun⟩
  have Fm4 : C8.Fun K "__init__" "House.__init__" sHInit fm4 _ := ⟨⟨ocm4, odm4, .none, kVm4, dcm4, pmm4, anm4, cdm4, ctm4, slm4, rfl, lm4, qm4⟩⟩
  have bm4 := Fm4.binds rfl (ps := ["self", "plans"]) fun _ _ _ _ _ _ us hl => match us, hl with | [_, _], _ => rfl
  have Km4 : Mk K Dh fm4 := ⟨mkHouse, am4, im4, kcHouse⟩
  have Mm5 : Meth K Dh "leave" fm5 := ⟨am5, im5, km5⟩
  have Fm5 : C8.Fun K "leave" "House.leave" sLeave fm5 _ := ⟨⟨ocm5, odm5, .none, kVm5, dcm5, pmm5, anm5, cdm5, ctm5, slm5, rfl, lm5, qm5⟩⟩
  have bm5 := Fm5.binds rfl (ps := ["self", "place"]) fun _ _ _ _ _ _ us hl => match us, hl with | [_, _], _ => rfl
  have Mm6 : Meth K Dh "enter" fm6 := ⟨am6, im6, km6⟩
  have Fm6 : C8.Fun K "enter" "House.enter" sEnter fm6 _ := ⟨⟨ocm6, odm6, .none, kVm6, dcm6, pmm6, anm6, cdm6, ctm6, slm6, rfl, lm6, qm6⟩⟩
  have bm6 := Fm6.binds rfl (ps := ["self", "place", "come", "now"]) fun _ _ _ _ _ _ us hl => match us, hl with | [_, _, _, _], _ => rfl
  have Mm7 : Meth K Dh "come" fm7 := ⟨am7, im7, km7⟩
  have Fm7 : C8.Fun K "come" "House.come" sCome fm7 _ := ⟨⟨ocm7, odm7, .none, kVm7, dcm7, pmm7, anm7, cdm7, ctm7, slm7, rfl, lm7, qm7⟩⟩
  have bm7 := Fm7.binds rfl (ps := ["self", "place", "now"]) fun _ _ _ _ _ _ us hl => match us, hl with | [_, _, _], _ => rfl
  have Mm8 : Meth K Dh "happen" fm8 := ⟨am8, im8, km8⟩
  have Fm8 : C8.Fun K "happen" "House.happen" sHappen fm8 _ := ⟨⟨ocm8, odm8, .none, kVm8, dcm8, pmm8, anm8, cdm8, ctm8, slm8, rfl, lm8, qm8⟩⟩
  have bm8 := Fm8.binds rfl (ps := ["self", "now"]) fun _ _ _ _ _ _ us hl => match us, hl with | [_, _], _ => rfl
  have G_LETTERS : ∃ u, mg "LETTERS" = some u ∧ RelV (.str letters) u := ⟨_, PySem.W.mg_of X G g_LETTERS, _, rfl⟩
  have G_DIGITS : ∃ u, mg "DIGITS" = some u ∧ RelV (.str digitsS) u := ⟨_, PySem.W.mg_of X G g_DIGITS, _, rfl⟩
  have G_MOST_SIGNS : ∃ u, mg "MOST_SIGNS" = some u ∧ RelV (.int 12) u := ⟨_, PySem.W.mg_of X G g_MOST_SIGNS, _, rfl⟩
  have G_HALL : ∃ u, mg "HALL" = some u ∧ RelV (.str hallS) u := ⟨_, PySem.W.mg_of X G g_HALL, _, rfl⟩
  have G_MOST_GROUPS : ∃ u, mg "MOST_GROUPS" = some u ∧ RelV (.int 14) u := ⟨_, PySem.W.mg_of X G g_MOST_GROUPS, _, rfl⟩
  have B : Blt mg := ⟨PySem.W.mg_none_of X G z_len, PySem.W.mg_none_of X G z_int, PySem.W.mg_none_of X G z_range, PySem.W.mg_none_of X G z_zip, PySem.W.mg_none_of X G z_isinstance, PySem.W.mg_none_of X G z_list, PySem.W.mg_none_of X G z_tuple, PySem.W.mg_none_of X G z_str, PySem.W.mg_none_of X G z_bool, PySem.W.mg_none_of X G z_max, PySem.W.mg_none_of X G z_min, PySem.W.mg_none_of X G z_sorted⟩
  have RT : RTxt K mg Cr := ⟨clRound, nRound__stays, nRound__least, nRound__most, PySem.W.mg_of X G c_Round, .type "type", _, ⟨rd, ga⟩, ⟨cv, _, rfl⟩⟩
  have UT : UTxt K mg Er := ⟨clRun, nRun_walks, nRun_waits, PySem.W.mg_of X G c_Run, ⟨clRun, ih, ig, it, im, kit_self⟩⟩
  have HT : HTxt K mg Dh := ⟨clHouse, nHouse_plans, nHouse_rows, nHouse_due, nHouse_inside, nHouse_queues, PySem.W.mg_of X G c_House, G_HALL⟩
  have PS : PropOf K Cr "stays" pst fm1 := ⟨s0, s1, s2, rst, s3⟩
  refine ⟨PySem.W.fnOf "law" "law" (fnArgs sLaw) (fnBody sLaw) (fnScope sLaw) .none kV18 dc18 pm18 an18 cd18 ct18, fun s v => .of_eq rfl, fun base _ _ => ?_⟩
  have o_mixed := ok_mixed (P := l.prog) (w := w) (base := base) B D4 b4
  have o_draw := ok_draw B o_mixed D5 b5
  have o_limit := ok_limit o_draw D6 b6
  have o_signed := ok_signed B o_draw D7 b7
  have o_state := ok_state (P := l.prog) (w := w) (base := base) B D3 b3
  have o_name := ok_name B o_draw D9 b9
  have o_names := ok_names B o_draw o_name D10 b10
  have o_stays := ok_stays (K := K) B o_draw D11 b11
  have o_lengths := ok_lengths (K := K) B o_draw D12 b12
  have o_groups := ok_groups B o_draw o_names o_limit o_signed o_stays o_lengths D14 b14
  have o_isname := ok_isname (P := l.prog) (w := w) (base := base) B G_LETTERS G_DIGITS G_MOST_SIGNS D0 b0
  have o_rinit := ok_rinit B RT o_isname Fm0
  have o_rstays := ok_rstays (P := l.prog) (w := w) (base := base) B RT Fm1
  have o_rlen := ok_rlen (P := l.prog) (w := w) (base := base) B RT Fm2
  have o_walk := ok_walk B RT PS o_rstays bm1 am2 im2 o_rlen bm2 D1 b1
  have c_Ro : Mak l.prog w K mg base 2 "Round" Cr (spRInit K Cr) [] := ⟨_, _, _, _, Km0, o_rinit, RT.mgR, bm0, .nil⟩
  have c_Ho : Mak l.prog w K mg base 1 "House" Dh (spHInit K Dh) [] := ⟨_, _, _, _, Km4, ok_hinit B HT Fm4, HT.mgH, bm4, .nil⟩
  have c_Ru : Mak l.prog w K mg base 1 "Run" Er (spUInit K Er) [] := ⟨_, _, _, _, Km3, ok_uinit B UT Fm3, UT.mgU, bm3, .nil⟩
  have o_leave := ok_leave (P := l.prog) (w := w) (base := base) B HT Fm5 Mm5 bm5
  have o_enter := ok_enter (P := l.prog) (w := w) (base := base) B HT Fm6 Mm6 bm6
  have o_come := ok_come B HT o_enter Fm7 Mm7 bm7
  have o_happen := ok_happen B HT o_leave o_come o_enter Fm8 Mm8 bm8
  have o_run := ok_run B HT G_MOST_GROUPS o_walk c_Ho o_happen c_Ru D2 b2
  have o_isint := ok_isint (P := l.prog) (w := w) (base := base) B D8 b8
  have o_isrows := ok_isrows (K := K) B o_isint D13 b13
  have o_waits := ok_waits (P := l.prog) (w := w) (base := base) B D15 b15
  have o_lines := ok_lines (K := K) B o_isint D16 b16
  have o_orderly := ok_orderly (P := l.prog) (w := w) (base := base) B D17 b17
  exact ok_law B UT o_state o_draw o_groups o_lengths c_Ro o_run o_lines o_orderly o_waits o_isrows F18
end H5
open PySem PySem.W PyProof.Rows
set_option maxRecDepth 100000 in
set_option maxHeartbeats 0 in
theorem PySem.Challenge.cw_neverrounds_k51_whole_house_holds : PySem.Challenge.rw_neverrounds_k51_whole_house.Holds := by
  w_on; o_law; k_headL; (case hw => w_witness2)
  k_fill
  refine L2.walk_of (l := PySem.Challenge.rw_neverrounds_k51_whole_house) (n := 63) (k := 6) (x := "_law_script") (CX := fun _ => C8.CX0) (sp := fun w => H5.spLaw _) rfl (by decide) rfl ⟨rfl, by decide, by decide⟩ (fun w h Y => PySem.W.kIn_of Y) ?F (fun _ _ a ns hl _ hS => ⟨a, ns, rfl, hS, hl, fun _ => rfl⟩) (fun _ _ _ _ _ h => h)
  case F =>
    intro w mg fa h KX G hmg
    refine' H5.all_mk KX G hmg ?c_Round ?c_Run ?c_House ?a0 ?l0 ?q0 ?k0 ?a1 ?l1 ?q1 ?k1 ?a2 ?l2 ?q2 ?k2 ?a3 ?l3 ?q3 ?k3 ?a4 ?l4 ?q4 ?k4 ?a5 ?l5 ?q5 ?k5 ?a6 ?l6 ?q6 ?k6 ?a7 ?l7 ?q7 ?k7 ?a8 ?l8 ?q8 ?k8 ?a9 ?l9 ?q9 ?k9 ?a10 ?l10 ?q10 ?k10 ?a11 ?l11 ?q11 ?k11 ?a12 ?l12 ?q12 ?k12 ?a13 ?l13 ?q13 ?k13 ?a14 ?l14 ?q14 ?k14 ?a15 ?l15 ?q15 ?k15 ?a16 ?l16 ?q16 ?k16 ?a17 ?l17 ?q17 ?k17 ?a18 ?l18 ?q18 ?pgRound ?hdRound ?poRound ?saRound ?mkRound ?kcRound ?pgRun ?hdRun ?poRun ?saRun ?mkRun ?kcRun ?pgHouse ?hdHouse ?poHouse ?saHouse ?mkHouse ?kcHouse ?am0 ?im0 ?lm0 ?qm0 ?s0 ?s1 ?s2 ?s3 ?lm1 ?qm1 ?am2 ?im2 ?lm2 ?qm2 ?am3 ?im3 ?lm3 ?qm3 ?am4 ?im4 ?lm4 ?qm4 ?am5 ?im5 ?lm5 ?qm5 ?km5 ?am6 ?im6 ?lm6 ?qm6 ?km6 ?am7 ?im7 ?lm7 ?qm7 ?km7 ?am8 ?im8 ?lm8 ?qm8 ?km8 ?nRound__stays ?nRound__least ?nRound__most ?nRun_walks ?nRun_waits ?nHouse_plans ?nHouse_rows ?nHouse_due ?nHouse_inside ?nHouse_queues ?rd ?ga ?cv ?ih ?ig ?it ?im ?g_LETTERS ?g_DIGITS ?g_MOST_SIGNS ?g_HALL ?g_MOST_GROUPS ?z_len ?z_int ?z_range ?z_zip ?z_isinstance ?z_list ?z_tuple ?z_str ?z_bool ?z_max ?z_min ?z_sorted
    (case c_Round => k_is)
    (case c_Run => k_is)
    (case c_House => k_is)
    (case a0 => k_is)
    (case l0 => k_is)
    (case q0 => k_is)
    (case k0 => k_is)
    (case a1 => k_is)
    (case l1 => k_is)
    (case q1 => k_is)
    (case k1 => k_is)
    (case a2 => k_is)
    (case l2 => k_is)
    (case q2 => k_is)
    (case k2 => k_is)
    (case a3 => k_is)
    (case l3 => k_is)
    (case q3 => k_is)
    (case k3 => k_is)
    (case a4 => k_is)
    (case l4 => k_is)
    (case q4 => k_is)
    (case k4 => k_is)
    (case a5 => k_is)
    (case l5 => k_is)
    (case q5 => k_is)
    (case k5 => k_is)
    (case a6 => k_is)
    (case l6 => k_is)
    (case q6 => k_is)
    (case k6 => k_is)
    (case a7 => k_is)
    (case l7 => k_is)
    (case q7 => k_is)
    (case k7 => k_is)
    (case a8 => k_is)
    (case l8 => k_is)
    (case q8 => k_is)
    (case k8 => k_is)
    (case a9 => k_is)
    (case l9 => k_is)
    (case q9 => k_is)
    (case k9 => k_is)
    (case a10 => k_is)
    (case l10 => k_is)
    (case q10 => k_is)
    (case k10 => k_is)
    (case a11 => k_is)
    (case l11 => k_is)
    (case q11 => k_is)
    (case k11 => k_is)
    (case a12 => k_is)
    (case l12 => k_is)
    (case q12 => k_is)
    (case k12 => k_is)
    (case a13 => k_is)
    (case l13 => k_is)
    (case q13 => k_is)
    (case k13 => k_is)
    (case a14 => k_is)
    (case l14 => k_is)
    (case q14 => k_is)
    (case k14 => k_is)
    (case a15 => k_is)
    (case l15 => k_is)
    (case q15 => k_is)
    (case k15 => k_is)
    (case a16 => k_is)
    (case l16 => k_is)
    (case q16 => k_is)
    (case k16 => k_is)
    (case a17 => k_is)
    (case l17 => k_is)
    (case q17 => k_is)
    (case k17 => k_is)
    (case a18 => k_is)
    (case l18 => k_is)
    (case q18 => k_is)
    (case pgRound => k_is)
    (case hdRound => k_is)
    (case poRound => k_is)
    (case saRound => k_is)
    (case mkRound => k_is)
    (case kcRound => k_is)
    (case pgRun => k_is)
    (case hdRun => k_is)
    (case poRun => k_is)
    (case saRun => k_is)
    (case mkRun => k_is)
    (case kcRun => k_is)
    (case pgHouse => k_is)
    (case hdHouse => k_is)
    (case poHouse => k_is)
    (case saHouse => k_is)
    (case mkHouse => k_is)
    (case kcHouse => k_is)
    (case am0 => k_is)
    (case im0 => k_is)
    (case lm0 => k_is)
    (case qm0 => k_is)
    (case s0 => k_is)
    (case s1 => k_is)
    (case s2 => k_is)
    (case s3 => k_is)
    (case lm1 => k_is)
    (case qm1 => k_is)
    (case am2 => k_is)
    (case im2 => k_is)
    (case lm2 => k_is)
    (case qm2 => k_is)
    (case am3 => k_is)
    (case im3 => k_is)
    (case lm3 => k_is)
    (case qm3 => k_is)
    (case am4 => k_is)
    (case im4 => k_is)
    (case lm4 => k_is)
    (case qm4 => k_is)
    (case am5 => k_is)
    (case im5 => k_is)
    (case lm5 => k_is)
    (case qm5 => k_is)
    (case km5 => k_is)
    (case am6 => k_is)
    (case im6 => k_is)
    (case lm6 => k_is)
    (case qm6 => k_is)
    (case km6 => k_is)
    (case am7 => k_is)
    (case im7 => k_is)
    (case lm7 => k_is)
    (case qm7 => k_is)
    (case km7 => k_is)
    (case am8 => k_is)
    (case im8 => k_is)
    (case lm8 => k_is)
    (case qm8 => k_is)
    (case km8 => k_is)
    (case nRound__stays => k_is)
    (case nRound__least => k_is)
    (case nRound__most => k_is)
    (case nRun_walks => k_is)
    (case nRun_waits => k_is)
    (case nHouse_plans => k_is)
    (case nHouse_rows => k_is)
    (case nHouse_due => k_is)
    (case nHouse_inside => k_is)
    (case nHouse_queues => k_is)
    (case rd => k_is)
    (case ga => k_is)
    (case cv => k_is)
    (case ih => k_is)
    (case ig => k_is)
    (case it => k_is)
    (case im => k_is)
    (case g_LETTERS => k_is)
    (case g_DIGITS => k_is)
    (case g_MOST_SIGNS => k_is)
    (case g_HALL => k_is)
    (case g_MOST_GROUPS => k_is)
    (case z_len => k_is)
    (case z_int => k_is)
    (case z_range => k_is)
    (case z_zip => k_is)
    (case z_isinstance => k_is)
    (case z_list => k_is)
    (case z_tuple => k_is)
    (case z_str => k_is)
    (case z_bool => k_is)
    (case z_max => k_is)
    (case z_min => k_is)
    (case z_sorted => k_is)
