import PyProof.Rows.All
import Wide.All
import OpenK.AllK
import Wide.FinOn
import HandS.ForMost
import HandS.Walk
import HandS.Flow
import KE.KDictDisplayH
import PyProof.DictRoadsH
import HandS.Defaults
import PySem.Challenge.RW_dialecthall_k88_whole_sorted_to_groups
import HandS.Deep
import HandS.IsInst
import KE.KStateDown
import HandS.ExcInit
import HandS.ClsMeth
import HandS.Head0
import HandS.Head1
import HandS.Head2
import HandS.HeadEnd
import HandS.HeadHook1
import HandS.HeadHook2
import HandS.Strs
import HandS.SetTxt0
import PyProof.ListStr
import KE.GoesZip
import KE.GoesMore
import HandS.Style
import HandS.NoneIn
import HandS.SetFor
import HandS.Dict
import HandS.TryElse
import HandS.ExcOwn
import HandS.WordsExc
import HandS.Conv
section SDhMath
set_option linter.all false
/-! Dialects, states, steps; what is read; the parting of two dialects; bisimulation. Plain Lean. -/
namespace Dh

structure Dia where
  parts : List Nat
  quotes : List Nat
  frees : List Nat
  twin : Bool
  wide : Bool
  thin : Bool
  stray : Bool

inductive Sta where
  | row | cell | plain | behind | freed | within (q : Nat) | doubt (q : Nat) | freedq (q : Nat)
  deriving DecidableEq
inductive Kd where
  | put | part | fin | skip
  deriving DecidableEq
inductive Wd where
  | quote | line | behind
  deriving DecidableEq
inductive Res where
  | go (k : Kd) (s : Sta) | fault (w : Wd)
  deriving DecidableEq

def stepBehind (D : Dia) (c : Nat) : Res :=
  if c = 10 then .go .fin .row
  else if c ∈ D.parts then .go .part .cell
  else if c = 32 ∧ D.thin = true then .go .skip .behind
  else .fault .behind

/-- row, cell -/
def stepFresh (D : Dia) (s : Sta) (c : Nat) : Res :=
  if c ∈ D.frees then .go .skip .freed
  else if c = 10 then .go .fin .row
  else if c ∈ D.quotes then .go .skip (.within c)
  else if c ∈ D.parts then .go .part .cell
  else if c = 32 ∧ D.thin = true then .go .skip s
  else .go .put .plain

def stepPlain (D : Dia) (c : Nat) : Res :=
  if c ∈ D.frees then .go .skip .freed
  else if c = 10 then .go .fin .row
  else if c ∈ D.parts then .go .part .cell
  else if c ∈ D.quotes ∧ D.stray = false then .fault .quote
  else .go .put .plain

def step (D : Dia) : Sta → Nat → Res
  | .row, c => stepFresh D .row c
  | .cell, c => stepFresh D .cell c
  | .plain, c => stepPlain D c
  | .behind, c => stepBehind D c
  | .freed, c => if c = 10 ∧ D.wide = false then .fault .line else .go .put .plain
  | .within q, c =>
    if c ∈ D.frees then .go .skip (.freedq q)
    else if c = q then (if D.twin = true then .go .skip (.doubt q) else .go .skip .behind)
    else if c = 10 ∧ D.wide = false then .fault .line
    else .go .put (.within q)
  | .doubt q, c => if c = q then .go .put (.within q) else stepBehind D c
  | .freedq q, c => if c = 10 ∧ D.wide = false then .fault .line else .go .put (.within q)

/-! ### states that are come to -/
def Gd (D : Dia) : Sta → Prop
  | .within q => q ∈ D.quotes ∧ q ∉ D.frees
  | .doubt q => q ∈ D.quotes ∧ q ∉ D.frees
  | .freedq q => q ∈ D.quotes ∧ q ∉ D.frees
  | _ => True

theorem behind_good {D : Dia} {c : Nat} {k : Kd} {s : Sta} (e : stepBehind D c = .go k s) : Gd D s := by
  unfold stepBehind at e
  repeat' split at e
  all_goals first
    | (cases e; exact trivial)
    | cases e
theorem step_good {D : Dia} {s s' : Sta} {c : Nat} {k : Kd} (g : Gd D s) (e : step D s c = .go k s') : Gd D s' := by
  cases s with
  | row =>
    simp only [step, stepFresh] at e
    repeat' split at e
    all_goals first
      | (cases e; exact trivial)
      | (cases e; exact ⟨by assumption, by assumption⟩)
      | cases e
  | cell =>
    simp only [step, stepFresh] at e
    repeat' split at e
    all_goals first
      | (cases e; exact trivial)
      | (cases e; exact ⟨by assumption, by assumption⟩)
      | cases e
  | plain =>
    simp only [step, stepPlain] at e
    repeat' split at e
    all_goals first
      | (cases e; exact trivial)
      | cases e
  | behind => exact behind_good (by simpa only [step] using e)
  | freed =>
    simp only [step] at e
    repeat' split at e
    all_goals first
      | (cases e; exact trivial)
      | cases e
  | within q =>
    simp only [step] at e
    repeat' split at e
    all_goals first
      | (cases e; exact trivial)
      | (cases e; exact g)
      | cases e
  | doubt q =>
    simp only [step] at e
    split at e
    · cases e; exact g
    · exact behind_good e
  | freedq q =>
    simp only [step] at e
    repeat' split at e
    all_goals first
      | (cases e; exact g)
      | cases e

/-! ### what is put out -/
inductive Out where
  | ch (c : Nat) | part | fin
  deriving DecidableEq
def emit : Kd → Nat → List Out
  | .put, c => [.ch c]
  | .part, _ => [.part]
  | .fin, _ => [.fin]
  | .skip, _ => []

/-- what a text puts out from a state, None where it is not read -/
def rd (D : Dia) : Sta → List Nat → Option (List Out)
  | s, [] => if s = .row then some [] else none
  | s, c :: t => match step D s c with
    | .fault _ => none
    | .go k s' => (rd D s' t).map (emit k c ++ ·)
/-- what a text puts out from a state, and the state behind it -/
def lead (D : Dia) : Sta → List Nat → Option (List Out × Sta)
  | s, [] => some ([], s)
  | s, c :: t => match step D s c with
    | .fault _ => none
    | .go k s' => (lead D s' t).map fun p => (emit k c ++ p.1, p.2)

theorem rd_nil (D : Dia) (s : Sta) : rd D s [] = if s = .row then some [] else none := by unfold rd; rfl
theorem rd_fault {D : Dia} {s : Sta} {c : Nat} {t : List Nat} {w : Wd} (e : step D s c = .fault w) : rd D s (c :: t) = none := by
  show (match step D s c with
    | .fault _ => none
    | .go k s' => (rd D s' t).map (emit k c ++ ·)) = none
  rw [e]
theorem rd_go {D : Dia} {s s' : Sta} {c : Nat} {t : List Nat} {k : Kd} (e : step D s c = .go k s') : rd D s (c :: t) = (rd D s' t).map (emit k c ++ ·) := by
  show (match step D s c with
    | .fault _ => none
    | .go k s' => (rd D s' t).map (emit k c ++ ·)) = _
  rw [e]
theorem lead_fault {D : Dia} {s : Sta} {c : Nat} {t : List Nat} {w : Wd} (e : step D s c = .fault w) : lead D s (c :: t) = none := by
  show (match step D s c with
    | .fault _ => none
    | .go k s' => (lead D s' t).map fun p => (emit k c ++ p.1, p.2)) = none
  rw [e]
theorem lead_go {D : Dia} {s s' : Sta} {c : Nat} {t : List Nat} {k : Kd} (e : step D s c = .go k s') : lead D s (c :: t) = (lead D s' t).map (fun (p : List Out × Sta) => (emit k c ++ p.1, p.2)) := by
  show (match step D s c with
    | .fault _ => none
    | .go k s' => (lead D s' t).map (fun (p : List Out × Sta) => (emit k c ++ p.1, p.2))) = _
  rw [e]
theorem lead_app (D : Dia) : ∀ (t u : List Nat) (s : Sta), lead D s (t ++ u) = (lead D s t).bind fun p => (lead D p.2 u).map fun q => (p.1 ++ q.1, q.2)
  | [], u, s => by
    show lead D s u = (lead D s u).map fun q => ([] ++ q.1, q.2)
    cases lead D s u <;> rfl
  | c :: t, u, s => by
    rw [List.cons_append]
    cases h : step D s c with
    | fault w => rw [lead_fault h, lead_fault h]; rfl
    | go k s' =>
      rw [lead_go h, lead_go h, lead_app D t u s']
      cases lead D s' t with
      | none => rfl
      | some p =>
        show ((lead D p.2 u).map _).map _ = (lead D p.2 u).map _
        cases lead D p.2 u with
        | none => rfl
        | some q => simp
theorem rd_app (D : Dia) : ∀ (t u : List Nat) (s : Sta), rd D s (t ++ u) = (lead D s t).bind fun p => (rd D p.2 u).map (p.1 ++ ·)
  | [], u, s => by
    show rd D s u = (rd D s u).map ([] ++ ·)
    cases rd D s u <;> rfl
  | c :: t, u, s => by
    rw [List.cons_append]
    cases h : step D s c with
    | fault w => rw [rd_fault h, lead_fault h]; rfl
    | go k s' =>
      rw [rd_go h, lead_go h, rd_app D t u s']
      cases lead D s' t with
      | none => rfl
      | some p =>
        show ((rd D p.2 u).map _).map _ = (rd D p.2 u).map _
        cases rd D p.2 u with
        | none => rfl
        | some q => simp
theorem rd_lead (D : Dia) (t : List Nat) (s : Sta) : rd D s t = (lead D s t).bind fun p => if p.2 = .row then some p.1 else none := by
  have h := rd_app D t [] s
  rw [List.append_nil] at h
  rw [h]
  cases lead D s t with
  | none => rfl
  | some p =>
    show (rd D p.2 []).map (p.1 ++ ·) = if p.2 = .row then some p.1 else none
    rw [rd_nil]
    by_cases e : p.2 = .row
    · simp [e]
    · simp [e]
theorem lead_good {D : Dia} : ∀ {t : List Nat} {s s' : Sta} {o : List Out}, Gd D s → lead D s t = some (o, s') → Gd D s'
  | [], s, s', o, g, e => by
    unfold lead at e
    cases e
    exact g
  | c :: t, s, s', o, g, e => by
    cases h : step D s c with
    | fault w => rw [lead_fault h] at e; cases e
    | go k s2 =>
      rw [lead_go h] at e
      cases h2 : lead D s2 t with
      | none => rw [h2] at e; cases e
      | some p =>
        rw [h2] at e
        cases e
        exact lead_good (step_good g h) (show lead D s2 t = some (p.1, p.2) from h2)

/-! ### what a step leads to -/
def led (D : Dia) (s : Sta) (c : Nat) : Option (Kd × Sta) := match step D s c with
  | .fault _ => none
  | .go k s' => some (k, s')
/-- signs: the line end, the printable ones -/
def Prn (c : Nat) : Prop := 32 ≤ c ∧ c ≤ 126 ∧ c ≠ 37
def Sg (c : Nat) : Prop := c = 10 ∨ Prn c

def letters : List Nat := (List.range 26).map (97 + ·) ++ (List.range 26).map (65 + ·) ++ (List.range 10).map (48 + ·)
/-- the first letter or figure that is not there -/
def oth (l : List Nat) : Nat := ((letters.filter fun c => decide (c ∉ l)).head?).getD 97

def special (D : Dia) : List Nat := (D.parts ++ D.quotes ++ D.frees).foldl (fun f c => if c ∈ f then f else f ++ [c]) []

def ending (D : Dia) : Sta → List Nat
  | .row => []
  | .within q => [q, 10]
  | .freed => [oth (special D), 10]
  | .freedq q => [oth (special D), q, 10]
  | _ => [10]

def partingL (D1 D2 : Dia) : Option (Kd × Sta) → Option (Kd × Sta) → Option (List Nat)
  | some h, none => some (ending D1 h.2)
  | none, some k => some (ending D2 k.2)
  | none, none => none
  | some h, some k =>
    if (ending D1 h.2).length ≠ (ending D2 k.2).length then
      (if (ending D2 k.2).length < (ending D1 h.2).length then some (ending D2 k.2) else some (ending D1 h.2))
    else if h.1 = k.1 then none
    else if h.1 = .skip then some (ending D1 h.2)
    else some (ending D2 k.2)

/-! ### the dialect's own bounds -/
structure Ok (D : Dia) : Prop where
  p1 : 1 ≤ D.parts.length
  p3 : D.parts.length ≤ 3
  pn : D.parts.Nodup
  pp : ∀ c ∈ D.parts, Prn c
  q2 : D.quotes.length ≤ 2
  qn : D.quotes.Nodup
  qp : ∀ c ∈ D.quotes, Prn c
  f2 : D.frees.length ≤ 2
  fn : D.frees.Nodup
  fp : ∀ c ∈ D.frees, Prn c

theorem mem_dedup (l : List Nat) : ∀ (acc : List Nat) (x : Nat), x ∈ l.foldl (fun f c => if c ∈ f then f else f ++ [c]) acc ↔ x ∈ acc ∨ x ∈ l := by
  induction l with
  | nil => intro acc x; simp
  | cons c l ih =>
    intro acc x
    rw [List.foldl_cons, ih]
    by_cases h : c ∈ acc
    · rw [if_pos h]
      simp only [List.mem_cons]
      constructor
      · rintro (a | a)
        · exact .inl a
        · exact .inr (.inr a)
      · rintro (a | rfl | a)
        · exact .inl a
        · exact .inl h
        · exact .inr a
    · rw [if_neg h]
      rw [List.mem_append, List.mem_singleton, List.mem_cons, or_assoc]
theorem length_dedup (l : List Nat) : ∀ acc : List Nat, (l.foldl (fun f c => if c ∈ f then f else f ++ [c]) acc).length ≤ acc.length + l.length := by
  induction l with
  | nil => intro acc; simp
  | cons c l ih =>
    intro acc
    rw [List.foldl_cons]
    by_cases h : c ∈ acc
    · rw [if_pos h]
      have := ih acc
      simp only [List.length_cons]
      omega
    · rw [if_neg h]
      have := ih (acc ++ [c])
      simp only [List.length_cons, List.length_append, List.length_nil] at this ⊢
      omega
theorem nodup_dedup (l : List Nat) : ∀ acc : List Nat, acc.Nodup → (l.foldl (fun f c => if c ∈ f then f else f ++ [c]) acc).Nodup := by
  induction l with
  | nil => intro acc h; exact h
  | cons c l ih =>
    intro acc h
    rw [List.foldl_cons]
    by_cases hc : c ∈ acc
    · rw [if_pos hc]; exact ih acc h
    · rw [if_neg hc]
      refine ih _ ?_
      rw [List.nodup_append]
      refine ⟨h, by simp, ?_⟩
      intro a ha b hb
      rw [List.mem_singleton] at hb
      rintro rfl
      exact hc (hb ▸ ha)
theorem mem_special {D : Dia} {x : Nat} : x ∈ special D ↔ x ∈ D.parts ∨ x ∈ D.quotes ∨ x ∈ D.frees := by
  unfold special
  rw [mem_dedup]
  simp [or_assoc]
theorem special_len {D : Dia} (h : Ok D) : (special D).length ≤ 7 := by
  have := length_dedup (D.parts ++ D.quotes ++ D.frees) []
  have a := h.p3
  have b := h.q2
  have c := h.f2
  unfold special
  simp only [List.length_append, List.length_nil] at this
  omega

/-- of so many unlike letters one is not there -/
theorem pigeon {l s : List Nat} (hl : l.Nodup) (h : s.length < l.length) : ∃ x ∈ l, x ∉ s := by
  apply Classical.byContradiction
  intro hn
  have sub : ∀ x ∈ l, x ∈ s := fun x hx => Classical.byContradiction fun q => hn ⟨x, hx, q⟩
  have : ∀ (l s : List Nat), l.Nodup → (∀ x ∈ l, x ∈ s) → l.length ≤ s.length := by
    intro l
    induction l with
    | nil => intro s _ _; simp
    | cons a l ih =>
      intro s nd sub
      rw [List.nodup_cons] at nd
      have h1 := ih (s.erase a) nd.2 fun x hx => by
        have ne : x ≠ a := fun e => nd.1 (e ▸ hx)
        exact (List.mem_erase_of_ne ne).mpr (sub x (List.mem_cons_of_mem _ hx))
      have h2 := List.length_erase_of_mem (sub a List.mem_cons_self)
      have h3 : 0 < s.length := List.length_pos_of_mem (sub a List.mem_cons_self)
      rw [List.length_cons]
      omega
  have := this l s hl sub
  omega
theorem letters_nodup : letters.Nodup := by decide
theorem letters_len : letters.length = 62 := by decide
theorem letters_prn : ∀ c ∈ letters, Prn c := by
  have : letters.all (fun c => decide (32 ≤ c ∧ c ≤ 126 ∧ c ≠ 37)) = true := by decide
  intro c hc
  have z : decide (32 ≤ c ∧ c ≤ 126 ∧ c ≠ 37) = true := List.all_eq_true.mp this c hc
  exact (of_decide_eq_true z : 32 ≤ c ∧ c ≤ 126 ∧ c ≠ 37)
theorem letters_no : ∀ c ∈ letters, c ≠ 10 ∧ c ≠ 32 := by
  have : letters.all (fun c => decide (c ≠ 10 ∧ c ≠ 32)) = true := by decide
  intro c hc
  have z : decide (c ≠ 10 ∧ c ≠ 32) = true := List.all_eq_true.mp this c hc
  exact of_decide_eq_true z
theorem oth_spec {l : List Nat} (h : l.length < 62) : oth l ∈ letters ∧ oth l ∉ l ∧ (letters.filter fun c => decide (c ∉ l)).head? = some (oth l) := by
  obtain ⟨x, hx, hn⟩ := pigeon (s := l) letters_nodup (by rw [letters_len]; exact h)
  have hm : x ∈ letters.filter fun c => decide (c ∉ l) := List.mem_filter.mpr ⟨hx, decide_eq_true hn⟩
  unfold oth
  cases e : (letters.filter fun c => decide (c ∉ l)).head? with
  | none =>
    rw [List.head?_eq_none_iff] at e
    rw [e] at hm
    cases hm
  | some y =>
    have hy := List.mem_of_mem_head? (by rw [e]; rfl : y ∈ (letters.filter fun c => decide (c ∉ l)).head?)
    have := List.mem_filter.mp hy
    exact ⟨this.1, of_decide_eq_true this.2, rfl⟩
theorem oth_special {D : Dia} (h : Ok D) : Prn (oth (special D)) ∧ oth (special D) ∉ D.parts ∧ oth (special D) ∉ D.quotes ∧ oth (special D) ∉ D.frees ∧ oth (special D) ≠ 10 := by
  have a := oth_spec (l := special D) (by have := special_len h; omega)
  refine ⟨letters_prn _ a.1, ?_, ?_, ?_, (letters_no _ a.1).1⟩
  · intro q; exact a.2.1 (mem_special.mpr (.inl q))
  · intro q; exact a.2.1 (mem_special.mpr (.inr (.inl q)))
  · intro q; exact a.2.1 (mem_special.mpr (.inr (.inr q)))

theorem ok_no10 {D : Dia} (h : Ok D) : 10 ∉ D.parts ∧ 10 ∉ D.quotes ∧ 10 ∉ D.frees := by
  refine ⟨fun q => ?_, fun q => ?_, fun q => ?_⟩
  · have := (h.pp _ q).1; omega
  · have := (h.qp _ q).1; omega
  · have := (h.fp _ q).1; omega

/-! ### endings -/
theorem line_end {D : Dia} (h : Ok D) (s : Sta) (hs : (ending D s).length = 1) (g : Gd D s) : step D s 10 = .go .fin .row := by
  obtain ⟨n1, n2, n3⟩ := ok_no10 h
  cases s with
  | row => simp [ending] at hs
  | cell => simp [step, stepFresh, n3]
  | plain => simp [step, stepPlain, n3]
  | behind => simp [step, stepBehind]
  | freed => simp [ending] at hs
  | within q => simp [ending] at hs
  | doubt q =>
    have : (10 : Nat) ≠ q := by
      rintro rfl
      exact n2 g.1
    simp [step, stepBehind, this]
  | freedq q => simp [ending] at hs
/-- what an ending puts out -/
theorem rd_ending {D : Dia} (h : Ok D) (s : Sta) (g : Gd D s) : rd D s (ending D s) = some (match s with
    | .row => []
    | .freed => [.ch (oth (special D)), .fin]
    | .freedq _ => [.ch (oth (special D)), .fin]
    | _ => [.fin]) := by
  obtain ⟨n1, n2, n3⟩ := ok_no10 h
  obtain ⟨o1, o2, o3, o4, o5⟩ := oth_special h
  have row : rd D .row [] = some [] := by simp [rd]
  have close : ∀ q, Gd D (.within q) → rd D (.within q) [q, 10] = some [.fin] := by
    intro q g
    have gq : q ∉ D.frees := g.2
    have nq : ¬ (10 : Nat) = q := by
      rintro rfl
      exact n2 g.1
    unfold rd
    by_cases t : D.twin = true
    · simp [step, gq, t, rd, stepBehind, nq, emit]
    · simp [step, gq, t, rd, stepBehind, emit]
  cases s with
  | row => exact row
  | cell => simp [ending, rd, step, stepFresh, n3, emit]
  | plain => simp [ending, rd, step, stepPlain, n3, emit]
  | behind => simp [ending, rd, step, stepBehind, emit]
  | freed =>
    simp only [ending]
    unfold rd
    simp [step, o5, rd, stepPlain, n3, emit]
  | within q => exact close q g
  | doubt q =>
    have nq : ¬ (10 : Nat) = q := by
      rintro rfl
      exact n2 g.1
    simp [ending, rd, step, stepBehind, nq, emit]
  | freedq q =>
    simp only [ending]
    unfold rd
    simp only [step, o5, false_and, if_false]
    rw [close q g]
    rfl
/-- no text that leads on to row is shorter -/
theorem ending_least {D : Dia} (s : Sta) (t : List Nat) (o : List Out) (e : rd D s t = some o) : (ending D s).length ≤ t.length := by
  have one : ∀ s : Sta, s ≠ .row → 1 ≤ t.length ∨ rd D s t = none := by
    intro s hs
    cases t with
    | nil => right; simp [rd, hs]
    | cons c t => left; simp
  have two : ∀ (s : Sta), (∀ c k s', step D s c = .go k s' → s' ≠ .row) → s ≠ .row → ∀ t o, rd D s t = some o → 2 ≤ t.length := by
    intro s h hs t o e
    cases t with
    | nil => simp [rd, hs] at e
    | cons c t =>
      cases t with
      | cons => simp
      | nil =>
        cases q : step D s c with
        | fault w => rw [rd_fault q] at e; cases e
        | go k s' =>
          rw [rd_go q] at e
          have := h c k s' q
          simp [rd, this] at e
  have w2 : ∀ q t o, rd D (.within q) t = some o → 2 ≤ t.length := by
    intro q t o e
    refine two (.within q) ?_ (by simp) t o e
    intro c k s' h
    simp only [step] at h
    repeat' split at h
    all_goals first
      | (cases h; simp)
      | cases h
  cases s with
  | row => simp [ending]
  | cell =>
    rcases one .cell (by simp) with h | h
    · exact h
    · rw [h] at e; cases e
  | plain =>
    rcases one .plain (by simp) with h | h
    · exact h
    · rw [h] at e; cases e
  | behind =>
    rcases one .behind (by simp) with h | h
    · exact h
    · rw [h] at e; cases e
  | doubt q =>
    rcases one (.doubt q) (by simp) with h | h
    · exact h
    · rw [h] at e; cases e
  | freed =>
    refine two .freed ?_ (by simp) t o e
    intro c k s' h
    simp only [step] at h
    repeat' split at h
    all_goals first
      | (cases h; simp)
      | cases h
  | within q => exact w2 q t o e
  | freedq q =>
    cases t with
    | nil => simp [rd] at e
    | cons c t =>
      unfold rd at e
      simp only [step] at e
      split at e
      · cases e
      · rename_i h
        split at h
        · cases h
        · cases h
          cases q2 : rd D (.within q) t with
          | none => rw [q2] at e; cases e
          | some o2 =>
            have := w2 q t o2 q2
            simp only [ending, List.length_cons, List.length_nil]
            omega
/-- what is put out on the way from another state to row is not nothing -/
theorem rd_ne_nil {D : Dia} : ∀ (t : List Nat) (s : Sta) (o : List Out), s ≠ .row → rd D s t = some o → o ≠ []
  | [], s, o, hs, e => by simp [rd, hs] at e
  | c :: t, s, o, hs, e => by
    cases h : step D s c with
    | fault w => rw [rd_fault h] at e; cases e
    | go k s' =>
      rw [rd_go h] at e
      cases h2 : rd D s' t with
      | none => rw [h2] at e; cases e
      | some o2 =>
        rw [h2] at e
        simp only [Option.map_some, Option.some.injEq] at e
        subst e
        by_cases r : s' = .row
        · subst r
          have : k = .fin := by
            cases s with
            | row => exact absurd rfl hs
            | cell =>
              simp only [step, stepFresh] at h
              repeat' split at h
              all_goals first
                | (cases h; rfl)
                | cases h
            | plain =>
              simp only [step, stepPlain] at h
              repeat' split at h
              all_goals first
                | (cases h; rfl)
                | cases h
            | behind =>
              simp only [step, stepBehind] at h
              repeat' split at h
              all_goals first
                | (cases h; rfl)
                | cases h
            | freed =>
              simp only [step] at h
              repeat' split at h
              all_goals cases h
            | within q =>
              simp only [step] at h
              repeat' split at h
              all_goals cases h
            | doubt q =>
              simp only [step, stepBehind] at h
              repeat' split at h
              all_goals first
                | (cases h; rfl)
                | cases h
            | freedq q =>
              simp only [step] at h
              repeat' split at h
              all_goals cases h
          subst this
          simp [emit]
        · have := rd_ne_nil t s' o2 r h2
          intro z
          exact this (List.append_eq_nil_iff.mp z).2
end Dh
end SDhMath

section SDhMath2
set_option linter.all false
/-! Two dialects compared: a parting text is read unlike; closed pairs read alike; the two walks over pairs. -/
namespace Dh

theorem to_freed {D : Dia} {s : Sta} {c : Nat} {k : Kd} (e : step D s c = .go k .freed) : k = .skip ∧ c ∈ D.frees := by
  cases s <;> simp only [step, stepFresh, stepPlain, stepBehind] at e <;> (repeat' split at e) <;> first
    | (cases e; exact ⟨rfl, by assumption⟩)
    | cases e
theorem to_freedq {D : Dia} {s : Sta} {c : Nat} {k : Kd} {q : Nat} (e : step D s c = .go k (.freedq q)) : k = .skip := by
  cases s <;> simp only [step, stepFresh, stepPlain, stepBehind] at e <;> (repeat' split at e) <;> first
    | (cases e; rfl)
    | cases e
theorem to_within {D : Dia} {s : Sta} {c : Nat} {k : Kd} {q : Nat} (e : step D s c = .go k (.within q)) : k = .skip ∨ k = .put := by
  cases s <;> simp only [step, stepFresh, stepPlain, stepBehind] at e <;> (repeat' split at e) <;> first
    | (cases e; exact .inl rfl)
    | (cases e; exact .inr rfl)
    | cases e
theorem emit_len {k : Kd} {c : Nat} (h : k ≠ .skip) : (emit k c).length = 1 := by
  cases k <;> first
    | rfl
    | exact absurd rfl h

/-- what an ending puts out -/
def endOut (D : Dia) : Sta → List Out
  | .row => []
  | .freed => [.ch (oth (special D)), .fin]
  | .freedq _ => [.ch (oth (special D)), .fin]
  | _ => [.fin]
theorem rd_end {D : Dia} (h : Ok D) (s : Sta) (g : Gd D s) : rd D s (ending D s) = some (endOut D s) := by
  rw [rd_ending h s g]
  cases s <;> rfl
theorem ending_row {D : Dia} (s : Sta) : (ending D s).length = 0 ↔ s = .row := by
  cases s <;> simp [ending]

theorem skip_sep {D1 D2 : Dia} (h1 : Ok D1) {a b s1 s2 : Sta} {c : Nat} {k2 : Kd} {o2 : List Out} (e1 : step D1 a c = .go .skip s1) (e2 : step D2 b c = .go k2 s2) (hk : k2 ≠ .skip)
    (hl : (ending D1 s1).length = (ending D2 s2).length) (r : rd D2 s2 (ending D1 s1) = some o2) : endOut D1 s1 ≠ emit k2 c ++ o2 := by
  intro z
  have l1 := emit_len (c := c) hk
  have zl := congrArg List.length z
  rw [List.length_append, l1] at zl
  have big : s2 ≠ .row → 1 ≤ o2.length := fun hs => by
    have := rd_ne_nil _ _ _ hs r
    cases o2 with
    | nil => exact absurd rfl this
    | cons => simp
  have nr : (ending D1 s1).length ≠ 0 → s2 ≠ .row := fun h q => by
    subst q
    exact h (by rw [hl]; rfl)
  have one : endOut D1 s1 = [.fin] → (ending D1 s1).length ≠ 0 → False := fun q n => by
    have := big (nr n)
    rw [q] at zl
    simp only [List.length_cons, List.length_nil] at zl
    omega
  cases s1 with
  | row => simp only [endOut, List.length_nil] at zl; omega
  | cell => exact one rfl (by simp [ending])
  | plain => exact one rfl (by simp [ending])
  | behind => exact one rfl (by simp [ending])
  | within q => exact one rfl (by simp [ending])
  | doubt q => exact one rfl (by simp [ending])
  | freedq q =>
    have : ∃ q2, s2 = .freedq q2 := by
      cases s2 <;> simp [ending] at hl
      exact ⟨_, rfl⟩
    obtain ⟨q2, rfl⟩ := this
    exact hk (to_freedq e2)
  | freed =>
    have hc := (to_freed e1).2
    have ho := (oth_special h1).2.2.2.1
    cases s2 with
    | freed => exact hk (to_freed e2).1
    | within q2 =>
      rcases to_within e2 with w | w
      · exact hk w
      · subst w
        have z2 : [Out.ch (oth (special D1)), .fin] = .ch c :: o2 := z
        injection z2 with z3 _
        injection z3 with z4
        rw [z4] at ho
        exact ho hc
    | _ => simp [ending] at hl

theorem led_go {D : Dia} {s s' : Sta} {c : Nat} {k : Kd} (e : step D s c = .go k s') : led D s c = some (k, s') := by unfold led; rw [e]
theorem led_fault {D : Dia} {s : Sta} {c : Nat} {w : Wd} (e : step D s c = .fault w) : led D s c = none := by unfold led; rw [e]
theorem led_some {D : Dia} {s s' : Sta} {c : Nat} {k : Kd} (e : led D s c = some (k, s')) : step D s c = .go k s' := by
  unfold led at e
  cases h : step D s c with
  | fault w => rw [h] at e; cases e
  | go k' s2 => rw [h] at e; cases e; rfl
theorem led_none {D : Dia} {s : Sta} {c : Nat} (e : led D s c = none) : ∃ w, step D s c = .fault w := by
  unfold led at e
  cases h : step D s c with
  | fault w => exact ⟨w, rfl⟩
  | go k' s2 => rw [h] at e; cases e

/-- a parting ending is read unlike behind the sign -/
theorem parting_sep {D1 D2 : Dia} (h1 : Ok D1) (h2 : Ok D2) {a b : Sta} {c : Nat} {m : List Nat} (g1 : Gd D1 a) (g2 : Gd D2 b) (e : partingL D1 D2 (led D1 a c) (led D2 b c) = some m) :
    rd D1 a (c :: m) ≠ rd D2 b (c :: m) := by
  cases e1 : step D1 a c with
  | fault w =>
    cases e2 : step D2 b c with
    | fault w' => rw [led_fault e1, led_fault e2] at e; cases e
    | go k2 s2 =>
      rw [led_fault e1, led_go e2] at e
      have e' : some (ending D2 s2) = some m := e
      cases e'
      rw [rd_fault e1, rd_go e2, rd_end h2 s2 (step_good g2 e2)]
      intro q
      cases q
  | go k1 s1 =>
    cases e2 : step D2 b c with
    | fault w' =>
      rw [led_go e1, led_fault e2] at e
      have e' : some (ending D1 s1) = some m := e
      cases e'
      rw [rd_fault e2, rd_go e1, rd_end h1 s1 (step_good g1 e1)]
      intro q
      cases q
    | go k2 s2 =>
      have y1 := step_good g1 e1
      have y2 := step_good g2 e2
      rw [led_go e1, led_go e2] at e
      rw [rd_go e1, rd_go e2]
      have e' : (if (ending D1 s1).length ≠ (ending D2 s2).length then
        (if (ending D2 s2).length < (ending D1 s1).length then some (ending D2 s2) else some (ending D1 s1))
        else if k1 = k2 then none
        else if k1 = .skip then some (ending D1 s1)
        else some (ending D2 s2)) = some m := e
      intro z
      by_cases hl : (ending D1 s1).length ≠ (ending D2 s2).length
      · rw [if_pos hl] at e'
        by_cases hs : (ending D2 s2).length < (ending D1 s1).length
        · rw [if_pos hs] at e'
          cases e'
          rw [rd_end h2 s2 y2] at z
          cases q : rd D1 s1 (ending D2 s2) with
          | none => rw [q] at z; cases z
          | some o =>
            have := ending_least s1 _ _ q
            omega
        · rw [if_neg hs] at e'
          cases e'
          rw [rd_end h1 s1 y1] at z
          cases q : rd D2 s2 (ending D1 s1) with
          | none => rw [q] at z; cases z
          | some o =>
            have := ending_least s2 _ _ q
            omega
      · rw [if_neg hl] at e'
        have hl' : (ending D1 s1).length = (ending D2 s2).length := Decidable.not_not.mp hl
        by_cases hk : k1 = k2
        · rw [if_pos hk] at e'; cases e'
        · rw [if_neg hk] at e'
          by_cases h0 : k1 = .skip
          · rw [if_pos h0] at e'
            cases e'
            subst h0
            rw [rd_end h1 s1 y1] at z
            cases q : rd D2 s2 (ending D1 s1) with
            | none => rw [q] at z; cases z
            | some o =>
              rw [q] at z
              exact skip_sep h1 e1 e2 (Ne.symm hk) hl' q (by simpa [emit] using z)
          · rw [if_neg h0] at e'
            cases e'
            rw [rd_end h2 s2 y2] at z
            cases q : rd D1 s1 (ending D2 s2) with
            | none => rw [q] at z; cases z
            | some o =>
              rw [q] at z
              by_cases h3 : k2 = .skip
              · subst h3
                exact skip_sep h2 e2 e1 h0 hl'.symm q (by simpa [emit] using z.symm)
              · have z' : emit k1 c ++ o = emit k2 c ++ endOut D2 s2 := by simpa using z
                cases k1 <;> cases k2 <;> simp [emit] at z' h0 h3 hk
theorem parting_ne {D1 D2 : Dia} {a b : Sta} {c : Nat} (h : ¬ (led D1 a c = none ∧ led D2 b c = none)) (e : partingL D1 D2 (led D1 a c) (led D2 b c) = none) :
    ∃ k s1 s2, led D1 a c = some (k, s1) ∧ led D2 b c = some (k, s2) ∧ (ending D1 s1).length = (ending D2 s2).length := by
  cases e1 : led D1 a c with
  | none =>
    cases e2 : led D2 b c with
    | none => exact absurd ⟨e1, e2⟩ h
    | some k => rw [e1, e2] at e; cases e
  | some p =>
    cases e2 : led D2 b c with
    | none => rw [e1, e2] at e; cases e
    | some q =>
      rw [e1, e2] at e
      obtain ⟨k1, s1⟩ := p
      obtain ⟨k2, s2⟩ := q
      have e' : (if (ending D1 s1).length ≠ (ending D2 s2).length then
        (if (ending D2 s2).length < (ending D1 s1).length then some (ending D2 s2) else some (ending D1 s1))
        else if k1 = k2 then none
        else if k1 = .skip then some (ending D1 s1)
        else some (ending D2 s2)) = none := e
      by_cases hl : (ending D1 s1).length ≠ (ending D2 s2).length
      · rw [if_pos hl] at e'
        split at e' <;> cases e'
      · rw [if_neg hl] at e'
        by_cases hk : k1 = k2
        · subst hk
          exact ⟨k1, s1, s2, rfl, rfl, Decidable.not_not.mp hl⟩
        · rw [if_neg hk] at e'
          split at e' <;> cases e'
theorem sep_lead {D1 D2 : Dia} {a b : Sta} {t m : List Nat} {o : List Out} (l1 : lead D1 .row t = some (o, a)) (l2 : lead D2 .row t = some (o, b)) (h : rd D1 a m ≠ rd D2 b m) : rd D1 .row (t ++ m) ≠ rd D2 .row (t ++ m) := by
  rw [rd_app, rd_app, l1, l2]
  intro z
  have z' : (rd D1 a m).map (o ++ ·) = (rd D2 b m).map (o ++ ·) := z
  apply h
  cases q1 : rd D1 a m with
  | none =>
    cases q2 : rd D2 b m with
    | none => rfl
    | some x => rw [q1, q2] at z'; cases z'
  | some y =>
    cases q2 : rd D2 b m with
    | none => rw [q1, q2] at z'; cases z'
    | some x =>
      rw [q1, q2] at z'
      simp only [Option.map_some, Option.some.injEq] at z'
      rw [List.append_cancel_left z']
theorem ending_signs {D : Dia} (h : Ok D) {s : Sta} (g : Gd D s) : (∀ c ∈ ending D s, Sg c) ∧ (ending D s).length ≤ 3 := by
  have o := (oth_special h).1
  have ten : Sg 10 := .inl rfl
  cases s with
  | row => exact ⟨fun c hc => (by cases hc), by simp [ending]⟩
  | within q =>
    refine ⟨fun c hc => ?_, by simp [ending]⟩
    simp [ending] at hc
    rcases hc with rfl | rfl
    · exact .inr (h.qp _ g.1)
    · exact ten
  | freedq q =>
    refine ⟨fun c hc => ?_, by simp [ending]⟩
    simp [ending] at hc
    rcases hc with rfl | rfl | rfl
    · exact .inr o
    · exact .inr (h.qp _ g.1)
    · exact ten
  | freed =>
    refine ⟨fun c hc => ?_, by simp [ending]⟩
    simp [ending] at hc
    rcases hc with rfl | rfl
    · exact .inr o
    · exact ten
  | _ =>
    refine ⟨fun c hc => ?_, by simp [ending]⟩
    simp [ending] at hc
    subst hc
    exact ten
theorem parting_signs {D1 D2 : Dia} (h1 : Ok D1) (h2 : Ok D2) {a b : Sta} {c : Nat} {m : List Nat} (g1 : Gd D1 a) (g2 : Gd D2 b) (e : partingL D1 D2 (led D1 a c) (led D2 b c) = some m) : (∀ c ∈ m, Sg c) ∧ m.length ≤ 3 := by
  have a1 : ∀ k s, led D1 a c = some (k, s) → (∀ c ∈ ending D1 s, Sg c) ∧ (ending D1 s).length ≤ 3 := fun k s q => ending_signs h1 (step_good g1 (led_some q))
  have a2 : ∀ k s, led D2 b c = some (k, s) → (∀ c ∈ ending D2 s, Sg c) ∧ (ending D2 s).length ≤ 3 := fun k s q => ending_signs h2 (step_good g2 (led_some q))
  cases e1 : led D1 a c with
  | none =>
    cases e2 : led D2 b c with
    | none => rw [e1, e2] at e; cases e
    | some q =>
      rw [e1, e2] at e
      have e' : some (ending D2 q.2) = some m := e
      cases e'
      exact a2 q.1 q.2 e2
  | some p =>
    cases e2 : led D2 b c with
    | none =>
      rw [e1, e2] at e
      have e' : some (ending D1 p.2) = some m := e
      cases e'
      exact a1 p.1 p.2 e1
    | some q =>
      rw [e1, e2] at e
      have x1 := a1 p.1 p.2 e1
      have x2 := a2 q.1 q.2 e2
      unfold partingL at e
      simp only at e
      repeat' split at e
      all_goals first
        | (cases e; exact x1)
        | (cases e; exact x2)
        | cases e

/-! ### closed pairs -/
structure Cover (D1 D2 : Dia) (sgs : List Nat) : Prop where
  s1 : ∀ x ∈ special D1, x ∈ sgs
  s2 : ∀ x ∈ special D2, x ∈ sgs
  ten : 10 ∈ sgs
  blank : 32 ∈ sgs
  other : ∃ x ∈ sgs, x ∉ special D1 ∧ x ∉ special D2 ∧ x ≠ 10 ∧ x ≠ 32
  sg : ∀ x ∈ sgs, Sg x
/-- signs that mean nothing are one -/
theorem plain_sign {D : Dia} {s : Sta} {c x : Nat} (g : Gd D s) (c1 : c ∉ special D) (c2 : c ≠ 10) (c3 : c ≠ 32) (x1 : x ∉ special D) (x2 : x ≠ 10) (x3 : x ≠ 32) : step D s c = step D s x := by
  rw [mem_special] at c1 x1
  have ⟨cp, cq, cf⟩ : c ∉ D.parts ∧ c ∉ D.quotes ∧ c ∉ D.frees := ⟨fun h => c1 (.inl h), fun h => c1 (.inr (.inl h)), fun h => c1 (.inr (.inr h))⟩
  have ⟨xp, xq, xf⟩ : x ∉ D.parts ∧ x ∉ D.quotes ∧ x ∉ D.frees := ⟨fun h => x1 (.inl h), fun h => x1 (.inr (.inl h)), fun h => x1 (.inr (.inr h))⟩
  have nq : ∀ q, q ∈ D.quotes → c ≠ q ∧ x ≠ q := fun q h => ⟨fun e => cq (e ▸ h), fun e => xq (e ▸ h)⟩
  cases s with
  | row => simp [step, stepFresh, cp, cq, cf, xp, xq, xf, c2, c3, x2, x3]
  | cell => simp [step, stepFresh, cp, cq, cf, xp, xq, xf, c2, c3, x2, x3]
  | plain => simp [step, stepPlain, cp, cq, cf, xp, xq, xf, c2, c3, x2, x3]
  | behind => simp [step, stepBehind, cp, cq, cf, xp, xq, xf, c2, c3, x2, x3]
  | freed => simp [step, c2, x2]
  | within q =>
    obtain ⟨n1, n2⟩ := nq q g.1
    simp [step, cf, xf, c2, x2, n1, n2]
  | doubt q =>
    obtain ⟨n1, n2⟩ := nq q g.1
    simp [step, stepBehind, cp, xp, c2, c3, x2, x3, n1, n2]
  | freedq q => simp [step, c2, x2]
/-- at a pair, by a sign: both fail, or both go on alike to a pair that is there -/
def Both (D1 D2 : Dia) (P : Sta × Sta → Prop) (p : Sta × Sta) (c : Nat) : Prop :=
  (led D1 p.1 c = none ∧ led D2 p.2 c = none) ∨ ∃ k a b, led D1 p.1 c = some (k, a) ∧ led D2 p.2 c = some (k, b) ∧ P (a, b)
theorem alike_of {D1 D2 : Dia} {sgs : List Nat} (hc : Cover D1 D2 sgs) (P : Sta × Sta → Prop) (hg : ∀ p, P p → Gd D1 p.1 ∧ Gd D2 p.2) (hr : ∀ p, P p → (p.1 = .row ↔ p.2 = .row))
    (hs : ∀ p, P p → ∀ c ∈ sgs, Both D1 D2 P p c) : ∀ (t : List Nat) (p : Sta × Sta), P p → rd D1 p.1 t = rd D2 p.2 t
  | [], p, hp => by
    rw [rd_nil, rd_nil]
    have := hr p hp
    by_cases h : p.1 = .row
    · rw [if_pos h, if_pos (this.mp h)]
    · rw [if_neg h, if_neg (fun q => h (this.mpr q))]
  | c :: t, p, hp => by
    have all : Both D1 D2 P p c := by
      obtain ⟨g1, g2⟩ := hg p hp
      by_cases h : c ∈ sgs
      · exact hs p hp c h
      · obtain ⟨x, hx, x1, x2, x3, x4⟩ := hc.other
        have n1 : c ∉ special D1 := fun q => h (hc.s1 c q)
        have n2 : c ∉ special D2 := fun q => h (hc.s2 c q)
        have n3 : c ≠ 10 := fun q => h (q ▸ hc.ten)
        have n4 : c ≠ 32 := fun q => h (q ▸ hc.blank)
        have e1 : led D1 p.1 c = led D1 p.1 x := by unfold led; rw [plain_sign g1 n1 n3 n4 x1 x3 x4]
        have e2 : led D2 p.2 c = led D2 p.2 x := by unfold led; rw [plain_sign g2 n2 n3 n4 x2 x3 x4]
        have := hs p hp x hx
        unfold Both at this ⊢
        rw [e1, e2]
        exact this
    rcases all with ⟨a, b⟩ | ⟨k, a, b, e1, e2, hab⟩
    · obtain ⟨w, a⟩ := led_none a
      obtain ⟨w', b⟩ := led_none b
      rw [rd_fault a, rd_fault b]
    · rw [rd_go (led_some e1), rd_go (led_some e2), alike_of hc P hg hr hs t (a, b) hab]

/-! ### the table of what is put out -/
def tabGo : List Nat → List (List Nat) → List Out → List (List (List Nat))
  | _, _, [] => []
  | cell, row, .ch c :: o => tabGo (cell ++ [c]) row o
  | cell, row, .part :: o => tabGo [] (row ++ [cell]) o
  | cell, row, .fin :: o => (row ++ [cell]) :: tabGo [] [] o
/-- an end is put out last, or nothing -/
def Cl (o : List Out) : Prop := ∀ x, o.getLast? = some x → x = .fin
def rowOut : List (List Nat) → List Out
  | [] => [.fin]
  | [c] => c.map .ch ++ [.fin]
  | c :: d :: r => c.map .ch ++ .part :: rowOut (d :: r)
def tabOut (t : List (List (List Nat))) : List Out := t.flatMap rowOut
theorem rowOut_snoc (cell : List Nat) : ∀ row : List (List Nat), rowOut (row ++ [cell]) = row.flatMap (fun c => c.map Out.ch ++ [.part]) ++ (cell.map .ch ++ [.fin])
  | [] => by simp [rowOut]
  | [c] => by simp [rowOut]
  | c :: d :: r => by
    have h := rowOut_snoc cell (d :: r)
    rw [List.cons_append] at h
    show rowOut (c :: d :: (r ++ [cell])) = _
    unfold rowOut
    rw [h]
    simp
theorem Cl.tail {x : Out} {o : List Out} (h : Cl (x :: o)) (n : o ≠ []) : Cl o := fun y hy => by
  apply h y
  cases o with
  | nil => exact absurd rfl n
  | cons z r => rw [List.getLast?_cons_cons]; exact hy
theorem tabOut_tab : ∀ (o : List Out) (cell : List Nat) (row : List (List Nat)), Cl o → o ≠ [] → tabOut (tabGo cell row o) = row.flatMap (fun c => c.map Out.ch ++ [.part]) ++ (cell.map .ch ++ o)
  | [], _, _, _, n => absurd rfl n
  | .ch c :: o, cell, row, h, _ => by
    have n : o ≠ [] := by
      rintro rfl
      have := h (.ch c) rfl
      cases this
    show tabOut (tabGo (cell ++ [c]) row o) = _
    rw [tabOut_tab o _ _ (h.tail n) n]
    simp
  | .part :: o, cell, row, h, _ => by
    have n : o ≠ [] := by
      rintro rfl
      have := h .part rfl
      cases this
    show tabOut (tabGo [] (row ++ [cell]) o) = _
    rw [tabOut_tab o _ _ (h.tail n) n]
    simp
  | .fin :: o, cell, row, h, _ => by
    show tabOut ((row ++ [cell]) :: tabGo [] [] o) = _
    unfold tabOut
    rw [List.flatMap_cons, rowOut_snoc]
    cases o with
    | nil => simp [tabGo]
    | cons z r =>
      have n : z :: r ≠ [] := by simp
      have q := tabOut_tab (z :: r) [] [] (h.tail n) n
      unfold tabOut at q
      rw [q]
      simp
theorem tab_inj {o p : List Out} (ho : Cl o) (hp : Cl p) (e : tabGo [] [] o = tabGo [] [] p) : o = p := by
  have h : ∀ o, Cl o → tabOut (tabGo [] [] o) = o := fun o ho => by
    cases o with
    | nil => rfl
    | cons x r => rw [tabOut_tab _ _ _ ho (by simp)]; simp
  rw [← h o ho, ← h p hp, e]
theorem rd_closed {D : Dia} : ∀ (t : List Nat) (s : Sta) (o : List Out), rd D s t = some o → Cl o
  | [], s, o, e => by
    rw [rd_nil] at e
    split at e
    · cases e
      intro x hx
      cases hx
    · cases e
  | c :: t, s, o, e => by
    cases h : step D s c with
    | fault w => rw [rd_fault h] at e; cases e
    | go k s' =>
      rw [rd_go h] at e
      cases h2 : rd D s' t with
      | none => rw [h2] at e; cases e
      | some o2 =>
        rw [h2] at e
        simp only [Option.map_some, Option.some.injEq] at e
        subst e
        have ih := rd_closed t s' o2 h2
        by_cases n : o2 = []
        · subst n
          have r : s' = .row := Classical.byContradiction fun q => rd_ne_nil t s' [] q h2 rfl
          subst r
          intro x hx
          rw [List.append_nil] at hx
          have kf : k = .fin ∨ k = .skip := by
            cases s <;> simp only [step, stepFresh, stepPlain, stepBehind] at h <;> (repeat' split at h) <;> first
              | (cases h; exact .inl rfl)
              | (cases h; exact .inr rfl)
              | cases h
          rcases kf with rfl | rfl
          · simp [emit] at hx; exact hx.symm
          · simp [emit] at hx
        · intro x hx
          rw [List.getLast?_append] at hx
          cases q : o2.getLast? with
          | none => exact absurd (List.getLast?_eq_none_iff.mp q) n
          | some y =>
            rw [q] at hx
            exact ih x (q.trans hx)
/-- what a dialect reads a text as: a table, or None -/
def ans (D : Dia) (t : List Nat) : Option (List (List (List Nat))) := (rd D .row t).map (tabGo [] [])
theorem ans_iff {D1 D2 : Dia} {t : List Nat} : ans D1 t = ans D2 t ↔ rd D1 .row t = rd D2 .row t := by
  unfold ans
  constructor
  · intro e
    cases h1 : rd D1 .row t with
    | none =>
      cases h2 : rd D2 .row t with
      | none => rfl
      | some o => rw [h1, h2] at e; cases e
    | some o =>
      cases h2 : rd D2 .row t with
      | none => rw [h1, h2] at e; cases e
      | some p =>
        rw [h1, h2] at e
        simp only [Option.map_some, Option.some.injEq] at e
        rw [tab_inj (rd_closed _ _ _ h1) (rd_closed _ _ _ h2) e]
  · intro e
    rw [e]
/-- alike: no text is read unlike -/
def Alike (D1 D2 : Dia) : Prop := ∀ t, ans D1 t = ans D2 t
theorem Alike.refl (D : Dia) : Alike D D := fun _ => rfl
theorem Alike.symm {D1 D2 : Dia} (h : Alike D1 D2) : Alike D2 D1 := fun t => (h t).symm
theorem Alike.trans {D1 D2 D3 : Dia} (h : Alike D1 D2) (k : Alike D2 D3) : Alike D1 D3 := fun t => (h t).trans (k t)

/-! ### the number of pairs -/
theorem nodup_sub_len {α : Type} [DecidableEq α] : ∀ (l s : List α), l.Nodup → (∀ x ∈ l, x ∈ s) → l.length ≤ s.length := by
  intro l
  induction l with
  | nil => intro s _ _; simp
  | cons a l ih =>
    intro s nd sub
    rw [List.nodup_cons] at nd
    have h1 := ih (s.erase a) nd.2 fun x hx => by
      have ne : x ≠ a := fun e => nd.1 (e ▸ hx)
      exact (List.mem_erase_of_ne ne).mpr (sub x (List.mem_cons_of_mem _ hx))
    have h2 := List.length_erase_of_mem (sub a List.mem_cons_self)
    have h3 : 0 < s.length := List.length_pos_of_mem (sub a List.mem_cons_self)
    rw [List.length_cons]
    omega
def goods (D : Dia) : List Sta := [.row, .cell, .plain, .behind, .freed] ++ (D.quotes.map .within ++ D.quotes.map .doubt ++ D.quotes.map .freedq)
theorem mem_goods {D : Dia} {s : Sta} (g : Gd D s) : s ∈ goods D := by
  cases s with
  | within q => exact List.mem_append_right _ (List.mem_append_left _ (List.mem_append_left _ (List.mem_map.mpr ⟨q, g.1, rfl⟩)))
  | doubt q => exact List.mem_append_right _ (List.mem_append_left _ (List.mem_append_right _ (List.mem_map.mpr ⟨q, g.1, rfl⟩)))
  | freedq q => exact List.mem_append_right _ (List.mem_append_right _ (List.mem_map.mpr ⟨q, g.1, rfl⟩))
  | _ => exact List.mem_append_left _ (by simp)
theorem goods_len {D : Dia} (h : Ok D) : (goods D).length ≤ 11 := by
  have := h.q2
  simp only [goods, List.length_append, List.length_map, List.length_cons, List.length_nil]
  omega
def prodL (a b : List Sta) : List (Sta × Sta) := a.flatMap fun x => b.map fun y => (x, y)
theorem prodL_len (b : List Sta) : ∀ a : List Sta, (prodL a b).length = a.length * b.length
  | [] => by simp [prodL]
  | x :: a => by
    have := prodL_len b a
    unfold prodL at this ⊢
    rw [List.flatMap_cons, List.length_append, List.length_map, this, List.length_cons, Nat.succ_mul]
    omega
theorem pairs_len {D1 D2 : Dia} (h1 : Ok D1) (h2 : Ok D2) {l : List (Sta × Sta)} (nd : l.Nodup) (g : ∀ p ∈ l, Gd D1 p.1 ∧ Gd D2 p.2) : l.length ≤ 121 := by
  have a := nodup_sub_len l (prodL (goods D1) (goods D2)) nd fun p hp => by
    obtain ⟨x, y⟩ := g p hp
    exact List.mem_flatMap.mpr ⟨p.1, mem_goods x, List.mem_map.mpr ⟨p.2, mem_goods y, rfl⟩⟩
  rw [prodL_len] at a
  have b := goods_len h1
  have c := goods_len h2
  have : (goods D1).length * (goods D2).length ≤ 11 * 11 := Nat.mul_le_mul b c
  omega
end Dh
end SDhMath2

section SDhMath3
set_option linter.all false
/-! The walks over pairs (compare's, the law's), step by step. -/
namespace Dh

/-! ### compare -/
abbrev PrT := (Sta × Sta) × List Nat
structure CS where
  ps : List PrT
  best : Option (List Nat)
def better (b : Option (List Nat)) (m : List Nat) : Bool := match b with
  | none => true
  | some x => decide (m.length < x.length)
def cstep (D1 D2 : Dia) (p : PrT) (st : CS) (c : Nat) : CS :=
  match led D1 p.1.1 c, led D2 p.1.2 c with
  | none, none => st
  | h, k => match partingL D1 D2 h k, h, k with
    | some m, _, _ => if better st.best (p.2 ++ [c] ++ m) = true then ⟨st.ps, some (p.2 ++ [c] ++ m)⟩ else st
    | none, some (_, a), some (_, b) => if (a, b) ∈ st.ps.map (·.1) then st else ⟨st.ps ++ [((a, b), p.2 ++ [c])], st.best⟩
    | none, _, _ => st
structure CInv (D1 D2 : Dia) (st : CS) : Prop where
  hd : st.ps[0]? = some ((.row, .row), [])
  nd : (st.ps.map (·.1)).Nodup
  each : ∀ (i : Nat) (p : PrT), st.ps[i]? = some p → (∃ o, lead D1 .row p.2 = some (o, p.1.1) ∧ lead D2 .row p.2 = some (o, p.1.2)) ∧ p.2.length ≤ i ∧ (∀ c ∈ p.2, Sg c) ∧ (p.1.1 = .row ↔ p.1.2 = .row)
  best : ∀ m, st.best = some m → (∀ c ∈ m, Sg c) ∧ m.length ≤ 200 ∧ rd D1 .row m ≠ rd D2 .row m
def Clo (D1 D2 : Dia) (st : CS) (p : PrT) (c : Nat) : Prop := Both D1 D2 (fun q => q ∈ st.ps.map (·.1)) p.1 c ∨ st.best ≠ none
structure CLe (st st' : CS) : Prop where
  ps : ∃ more, st'.ps = st.ps ++ more
  best : st.best ≠ none → st'.best ≠ none
theorem CLe.refl (st : CS) : CLe st st := ⟨⟨[], by simp⟩, fun h => h⟩
theorem CLe.trans {a b c : CS} (h : CLe a b) (k : CLe b c) : CLe a c := by
  obtain ⟨m1, e1⟩ := h.ps
  obtain ⟨m2, e2⟩ := k.ps
  exact ⟨⟨m1 ++ m2, by rw [e2, e1, List.append_assoc]⟩, fun q => k.best (h.best q)⟩
theorem CLe.at {a b : CS} (h : CLe a b) {i : Nat} {p : PrT} (e : a.ps[i]? = some p) : b.ps[i]? = some p := by
  obtain ⟨m, e2⟩ := h.ps
  rw [e2, List.getElem?_append_left (List.getElem?_eq_some_iff.mp e).1]
  exact e
theorem CLe.clo {D1 D2 : Dia} {a b : CS} (h : CLe a b) {p : PrT} {c : Nat} (q : Clo D1 D2 a p c) : Clo D1 D2 b p c := by
  obtain ⟨m, e2⟩ := h.ps
  rcases q with (q | ⟨k, x, y, e3, e4, hm⟩) | q
  · exact .inl (.inl q)
  · refine .inl (.inr ⟨k, x, y, e3, e4, ?_⟩)
    show (x, y) ∈ b.ps.map (·.1)
    rw [e2, List.map_append]
    exact List.mem_append_left _ hm
  · exact .inr (h.best q)
section
variable {D1 D2 : Dia}
theorem CInv.good (I : CInv D1 D2 st) {i : Nat} {p : PrT} (e : st.ps[i]? = some p) : Gd D1 p.1.1 ∧ Gd D2 p.1.2 := by
  obtain ⟨⟨o, l1, l2⟩, _⟩ := I.each i p e
  exact ⟨lead_good (by trivial) l1, lead_good (by trivial) l2⟩
theorem CInv.goodM (I : CInv D1 D2 st) {q : Sta × Sta} (e : q ∈ st.ps.map (·.1)) : Gd D1 q.1 ∧ Gd D2 q.2 := by
  obtain ⟨p, hp, rfl⟩ := List.mem_map.mp e
  obtain ⟨i, hi⟩ := List.mem_iff_getElem?.mp hp
  exact I.good hi
theorem CInv.len (h1 : Ok D1) (h2 : Ok D2) (I : CInv D1 D2 st) : st.ps.length ≤ 121 := by
  have := pairs_len h1 h2 I.nd fun q hq => I.goodM hq
  rw [List.length_map] at this
  exact this
theorem cinv0 : CInv D1 D2 ⟨[((.row, .row), [])], none⟩ := by
  refine ⟨rfl, by simp, fun i p e => ?_, fun m e => by cases e⟩
  cases i with
  | zero =>
    simp only [List.getElem?_cons_zero, Option.some.injEq] at e
    subst e
    exact ⟨⟨[], rfl, rfl⟩, by simp, fun c hc => (by cases hc), by simp⟩
  | succ i => simp at e
theorem lead_one {D : Dia} {s s' : Sta} {c : Nat} {k : Kd} (e : led D s c = some (k, s')) : lead D s [c] = some (emit k c, s') := by
  rw [lead_go (led_some e)]
  show (some ([], s')).map _ = _
  simp
theorem cstep_ok (h1 : Ok D1) (h2 : Ok D2) {st : CS} {i : Nat} {p : PrT} {c : Nat} (I : CInv D1 D2 st) (hp : st.ps[i]? = some p) (hc : Sg c) :
    CInv D1 D2 (cstep D1 D2 p st c) ∧ Clo D1 D2 (cstep D1 D2 p st c) p c ∧ CLe st (cstep D1 D2 p st c) := by
  obtain ⟨g1, g2⟩ := I.good hp
  obtain ⟨⟨o, l1, l2⟩, pl, psg, prow⟩ := I.each i p hp
  have il : i < 121 := Nat.lt_of_lt_of_le (List.getElem?_eq_some_iff.mp hp).1 (I.len h1 h2)
  have stay : Clo D1 D2 st p c → CInv D1 D2 st ∧ Clo D1 D2 st p c ∧ CLe st st := fun q => ⟨I, q, .refl _⟩
  cases e1 : led D1 p.1.1 c with
  | none =>
    cases e2 : led D2 p.1.2 c with
    | none =>
      have : cstep D1 D2 p st c = st := by unfold cstep; rw [e1, e2]
      rw [this]
      exact stay (.inl (.inl ⟨e1, e2⟩))
    | some k =>
      have eq : cstep D1 D2 p st c = if better st.best (p.2 ++ [c] ++ ending D2 k.2) = true then ⟨st.ps, some (p.2 ++ [c] ++ ending D2 k.2)⟩ else st := by unfold cstep; rw [e1, e2]; rfl
      have ep : partingL D1 D2 (led D1 p.1.1 c) (led D2 p.1.2 c) = some (ending D2 k.2) := by rw [e1, e2]; rfl
      have sep := parting_sep h1 h2 g1 g2 ep
      have sg := parting_signs h1 h2 g1 g2 ep
      rw [eq]
      by_cases hb : better st.best (p.2 ++ [c] ++ ending D2 k.2) = true
      · rw [if_pos hb]
        refine ⟨⟨I.hd, I.nd, I.each, fun m hm => ?_⟩, .inr (by simp), ⟨⟨[], by simp⟩, fun _ => by simp⟩⟩
        cases hm
        refine ⟨fun x hx => ?_, ?_, ?_⟩
        · simp only [List.append_assoc, List.mem_append, List.mem_singleton] at hx
          rcases hx with hx | rfl | hx
          · exact psg _ hx
          · exact hc
          · exact sg.1 _ hx
        · simp only [List.length_append, List.length_cons, List.length_nil]
          have := sg.2
          omega
        · rw [List.append_assoc]
          exact sep_lead l1 l2 sep
      · rw [if_neg hb]
        exact stay (.inr fun q => hb (by rw [q]; rfl))
  | some h =>
    cases e2 : led D2 p.1.2 c with
    | none =>
      have eq : cstep D1 D2 p st c = if better st.best (p.2 ++ [c] ++ ending D1 h.2) = true then ⟨st.ps, some (p.2 ++ [c] ++ ending D1 h.2)⟩ else st := by unfold cstep; rw [e1, e2]; rfl
      have ep : partingL D1 D2 (led D1 p.1.1 c) (led D2 p.1.2 c) = some (ending D1 h.2) := by rw [e1, e2]; rfl
      have sep := parting_sep h1 h2 g1 g2 ep
      have sg := parting_signs h1 h2 g1 g2 ep
      rw [eq]
      by_cases hb : better st.best (p.2 ++ [c] ++ ending D1 h.2) = true
      · rw [if_pos hb]
        refine ⟨⟨I.hd, I.nd, I.each, fun m hm => ?_⟩, .inr (by simp), ⟨⟨[], by simp⟩, fun _ => by simp⟩⟩
        cases hm
        refine ⟨fun x hx => ?_, ?_, ?_⟩
        · simp only [List.append_assoc, List.mem_append, List.mem_singleton] at hx
          rcases hx with hx | rfl | hx
          · exact psg _ hx
          · exact hc
          · exact sg.1 _ hx
        · simp only [List.length_append, List.length_cons, List.length_nil]
          have := sg.2
          omega
        · rw [List.append_assoc]
          exact sep_lead l1 l2 sep
      · rw [if_neg hb]
        exact stay (.inr fun q => hb (by rw [q]; rfl))
    | some k =>
      cases ep : partingL D1 D2 (some h) (some k) with
      | some m =>
        have eq : cstep D1 D2 p st c = if better st.best (p.2 ++ [c] ++ m) = true then ⟨st.ps, some (p.2 ++ [c] ++ m)⟩ else st := by unfold cstep; rw [e1, e2]; simp only [ep]
        have ep' : partingL D1 D2 (led D1 p.1.1 c) (led D2 p.1.2 c) = some m := by rw [e1, e2]; exact ep
        have sep := parting_sep h1 h2 g1 g2 ep'
        have sg := parting_signs h1 h2 g1 g2 ep'
        rw [eq]
        by_cases hb : better st.best (p.2 ++ [c] ++ m) = true
        · rw [if_pos hb]
          refine ⟨⟨I.hd, I.nd, I.each, fun m' hm => ?_⟩, .inr (by simp), ⟨⟨[], by simp⟩, fun _ => by simp⟩⟩
          cases hm
          refine ⟨fun x hx => ?_, ?_, ?_⟩
          · simp only [List.append_assoc, List.mem_append, List.mem_singleton] at hx
            rcases hx with hx | rfl | hx
            · exact psg _ hx
            · exact hc
            · exact sg.1 _ hx
          · simp only [List.length_append, List.length_cons, List.length_nil]
            have := sg.2
            omega
          · rw [List.append_assoc]
            exact sep_lead l1 l2 sep
        · rw [if_neg hb]
          exact stay (.inr fun q => hb (by rw [q]; rfl))
      | none =>
        obtain ⟨k0, s1, s2, z1, z2, zl⟩ := parting_ne (D1 := D1) (D2 := D2) (a := p.1.1) (b := p.1.2) (c := c) (by rw [e1]; simp) (by rw [e1, e2]; exact ep)
        rw [e1] at z1
        rw [e2] at z2
        cases z1
        cases z2
        have eq : cstep D1 D2 p st c = if (s1, s2) ∈ st.ps.map (·.1) then st else ⟨st.ps ++ [((s1, s2), p.2 ++ [c])], st.best⟩ := by unfold cstep; rw [e1, e2]; simp only [ep]
        rw [eq]
        by_cases hm : (s1, s2) ∈ st.ps.map (·.1)
        · rw [if_pos hm]
          exact stay (.inl (.inr ⟨k0, s1, s2, e1, e2, hm⟩))
        · rw [if_neg hm]
          refine ⟨⟨?_, ?_, fun j q hq => ?_, I.best⟩, .inl (.inr ⟨k0, s1, s2, e1, e2, by simp⟩), ⟨⟨_, rfl⟩, fun q => q⟩⟩
          · rw [List.getElem?_append_left (List.getElem?_eq_some_iff.mp I.hd).1]
            exact I.hd
          · rw [List.map_append, List.nodup_append]
            refine ⟨I.nd, by simp, fun a ha b hb => ?_⟩
            simp only [List.map_cons, List.map_nil, List.mem_singleton] at hb
            subst hb
            rintro rfl
            exact hm ha
          · by_cases hj : j < st.ps.length
            · rw [List.getElem?_append_left hj] at hq
              exact I.each j q hq
            · rw [List.getElem?_append_right (by omega)] at hq
              have hj0 : j - st.ps.length = 0 := by
                have := (List.getElem?_eq_some_iff.mp hq).1
                simpa using this
              rw [hj0] at hq
              simp only [List.getElem?_cons_zero, Option.some.injEq] at hq
              subst hq
              have ip := (List.getElem?_eq_some_iff.mp hp).1
              refine ⟨⟨o ++ emit k0 c, ?_, ?_⟩, ?_, fun x hx => ?_, ?_⟩
              · rw [lead_app, l1]
                show ((lead D1 p.1.1 [c]).map fun q => (o ++ q.1, q.2)) = _
                rw [lead_one e1]
                rfl
              · rw [lead_app, l2]
                show ((lead D2 p.1.2 [c]).map fun q => (o ++ q.1, q.2)) = _
                rw [lead_one e2]
                rfl
              · simp only [List.length_append, List.length_cons, List.length_nil]
                omega
              · rcases List.mem_append.mp hx with hx | hx
                · exact psg _ hx
                · rw [List.mem_singleton] at hx
                  subst hx
                  exact hc
              · show s1 = .row ↔ s2 = .row
                rw [← ending_row (D := D1) s1, ← ending_row (D := D2) s2, zl]
theorem cfold_ok (h1 : Ok D1) (h2 : Ok D2) {i : Nat} {p : PrT} : ∀ (l : List Nat) (st : CS), CInv D1 D2 st → st.ps[i]? = some p → (∀ c ∈ l, Sg c) →
    CInv D1 D2 (l.foldl (cstep D1 D2 p) st) ∧ (∀ c ∈ l, Clo D1 D2 (l.foldl (cstep D1 D2 p) st) p c) ∧ CLe st (l.foldl (cstep D1 D2 p) st)
  | [], st, I, _, _ => ⟨I, fun c hc => (by cases hc), .refl _⟩
  | c :: l, st, I, hp, hs => by
    obtain ⟨a1, a2, a3⟩ := cstep_ok h1 h2 I hp (hs c List.mem_cons_self)
    obtain ⟨b1, b2, b3⟩ := cfold_ok h1 h2 l _ a1 (a3.at hp) fun x hx => hs x (List.mem_cons_of_mem _ hx)
    rw [List.foldl_cons]
    refine ⟨b1, fun x hx => ?_, a3.trans b3⟩
    rcases List.mem_cons.mp hx with rfl | hx
    · exact b3.clo a2
    · exact b2 x hx
/-- what compare tells: alike, or a text that parts -/
def CmpR (D1 D2 : Dia) : Option (List Nat) → Prop
  | none => Alike D1 D2
  | some m => (∀ c ∈ m, Sg c) ∧ m.length ≤ 200 ∧ ans D1 m ≠ ans D2 m
theorem calike {st : CS} {sgs : List Nat} (hc : Cover D1 D2 sgs) (I : CInv D1 D2 st) (hb : st.best = none) (done : ∀ (i : Nat) (p : PrT), st.ps[i]? = some p → ∀ c ∈ sgs, Clo D1 D2 st p c) : Alike D1 D2 := by
  intro t
  rw [ans_iff]
  refine alike_of hc (fun q => q ∈ st.ps.map (·.1)) (fun q hq => I.goodM hq) (fun q hq => ?_) (fun q hq c hc => ?_) t (.row, .row) ?_
  · obtain ⟨p, hp, rfl⟩ := List.mem_map.mp hq
    obtain ⟨i, hi⟩ := List.mem_iff_getElem?.mp hp
    exact (I.each i p hi).2.2.2
  · obtain ⟨p, hp, rfl⟩ := List.mem_map.mp hq
    obtain ⟨i, hi⟩ := List.mem_iff_getElem?.mp hp
    rcases done i p hi c hc with z | z
    · exact z
    · exact absurd hb z
  · exact List.mem_map.mpr ⟨_, List.mem_of_getElem? I.hd, rfl⟩
theorem cbest {st : CS} {m : List Nat} (I : CInv D1 D2 st) (e : st.best = some m) : CmpR D1 D2 (some m) := by
  obtain ⟨a, b, c⟩ := I.best m e
  exact ⟨a, b, fun z => c (ans_iff.mp z)⟩

/-! ### the law's walk -/
/-- None: told unlike -/
def lstep (D1 D2 : Dia) (p : Sta × Sta) (ps : List (Sta × Sta)) (c : Nat) : Option (List (Sta × Sta)) :=
  match led D1 p.1 c, led D2 p.2 c with
  | none, none => some ps
  | some h, some k => if h.1 = k.1 then (if (h.2, k.2) ∈ ps then some ps else some (ps ++ [(h.2, k.2)])) else none
  | _, _ => none
structure LInv (D1 D2 : Dia) (ps : List (Sta × Sta)) : Prop where
  hd : ps[0]? = some (.row, .row)
  nd : ps.Nodup
  each : ∀ p ∈ ps, ∃ t o, lead D1 .row t = some (o, p.1) ∧ lead D2 .row t = some (o, p.2)
theorem LInv.good {ps : List (Sta × Sta)} (I : LInv D1 D2 ps) {p : Sta × Sta} (h : p ∈ ps) : Gd D1 p.1 ∧ Gd D2 p.2 := by
  obtain ⟨t, o, l1, l2⟩ := I.each p h
  exact ⟨lead_good (by trivial) l1, lead_good (by trivial) l2⟩
theorem LInv.len (h1 : Ok D1) (h2 : Ok D2) {ps : List (Sta × Sta)} (I : LInv D1 D2 ps) : ps.length ≤ 121 := pairs_len h1 h2 I.nd fun _ hq => I.good hq
theorem linv0 : LInv D1 D2 [(.row, .row)] := ⟨rfl, by simp, fun p hp => by
  rw [List.mem_singleton] at hp
  subst hp
  exact ⟨[], [], rfl, rfl⟩⟩
theorem lrow_bad {ps : List (Sta × Sta)} (I : LInv D1 D2 ps) {p : Sta × Sta} (hp : p ∈ ps) (h : ¬ (p.1 = .row ↔ p.2 = .row)) : ¬ Alike D1 D2 := by
  intro al
  obtain ⟨t, o, l1, l2⟩ := I.each p hp
  have := ans_iff.mp (al t)
  rw [rd_lead, rd_lead, l1, l2] at this
  apply h
  simp only [Option.bind_some] at this
  by_cases a : p.1 = .row
  · by_cases b : p.2 = .row
    · simp [a, b]
    · rw [if_pos a, if_neg b] at this; cases this
  · by_cases b : p.2 = .row
    · rw [if_neg a, if_pos b] at this; cases this
    · simp [a, b]
theorem lsep (h1 : Ok D1) (h2 : Ok D2) {ps : List (Sta × Sta)} (I : LInv D1 D2 ps) {p : Sta × Sta} {c : Nat} {m : List Nat} (hp : p ∈ ps) (e : partingL D1 D2 (led D1 p.1 c) (led D2 p.2 c) = some m) : ¬ Alike D1 D2 := by
  intro al
  obtain ⟨g1, g2⟩ := I.good hp
  obtain ⟨t, o, l1, l2⟩ := I.each p hp
  exact sep_lead l1 l2 (parting_sep h1 h2 g1 g2 e) (ans_iff.mp (al _))
theorem lstep_bad (h1 : Ok D1) (h2 : Ok D2) {ps : List (Sta × Sta)} (I : LInv D1 D2 ps) {p : Sta × Sta} {c : Nat} (hp : p ∈ ps) (e : lstep D1 D2 p ps c = none) : ¬ Alike D1 D2 := by
  cases ep : partingL D1 D2 (led D1 p.1 c) (led D2 p.2 c) with
  | some m => exact lsep h1 h2 I hp ep
  | none =>
    unfold lstep at e
    cases e1 : led D1 p.1 c with
    | none =>
      cases e2 : led D2 p.2 c with
      | none => rw [e1, e2] at e; cases e
      | some k => rw [e1, e2] at ep; cases ep
    | some h =>
      cases e2 : led D2 p.2 c with
      | none => rw [e1, e2] at ep; cases ep
      | some k =>
        obtain ⟨k0, s1, s2, z1, z2, _⟩ := parting_ne (D1 := D1) (D2 := D2) (a := p.1) (b := p.2) (c := c) (by rw [e1]; simp) ep
        rw [e1] at z1
        rw [e2] at z2
        cases z1
        cases z2
        rw [e1, e2] at e
        simp only [if_true] at e
        split at e <;> cases e
theorem lstep_ok {ps ps' : List (Sta × Sta)} (I : LInv D1 D2 ps) {p : Sta × Sta} {c : Nat} (hp : p ∈ ps) (e : lstep D1 D2 p ps c = some ps') :
    LInv D1 D2 ps' ∧ Both D1 D2 (· ∈ ps') p c ∧ ∃ more, ps' = ps ++ more := by
  unfold lstep at e
  cases e1 : led D1 p.1 c with
  | none =>
    cases e2 : led D2 p.2 c with
    | none =>
      rw [e1, e2] at e
      cases e
      exact ⟨I, .inl ⟨e1, e2⟩, [], by simp⟩
    | some k => rw [e1, e2] at e; cases e
  | some h =>
    cases e2 : led D2 p.2 c with
    | none => rw [e1, e2] at e; cases e
    | some k =>
      rw [e1, e2] at e
      simp only at e
      by_cases hk : h.1 = k.1
      · rw [if_pos hk] at e
        obtain ⟨k1, s1⟩ := h
        obtain ⟨k2, s2⟩ := k
        simp only at hk e
        subst hk
        by_cases hm : (s1, s2) ∈ ps
        · rw [if_pos hm] at e
          cases e
          exact ⟨I, .inr ⟨k1, s1, s2, e1, e2, hm⟩, [], by simp⟩
        · rw [if_neg hm] at e
          cases e
          refine ⟨⟨?_, ?_, fun q hq => ?_⟩, .inr ⟨k1, s1, s2, e1, e2, by simp⟩, _, rfl⟩
          · rw [List.getElem?_append_left (List.getElem?_eq_some_iff.mp I.hd).1]
            exact I.hd
          · rw [List.nodup_append]
            refine ⟨I.nd, by simp, fun a ha b hb => ?_⟩
            rw [List.mem_singleton] at hb
            subst hb
            rintro rfl
            exact hm ha
          · rcases List.mem_append.mp hq with hq | hq
            · exact I.each q hq
            · rw [List.mem_singleton] at hq
              subst hq
              obtain ⟨t, o, l1, l2⟩ := I.each p hp
              refine ⟨t ++ [c], o ++ emit k1 c, ?_, ?_⟩
              · rw [lead_app, l1]
                show ((lead D1 p.1 [c]).map fun q => (o ++ q.1, q.2)) = _
                rw [lead_one e1]
                rfl
              · rw [lead_app, l2]
                show ((lead D2 p.2 [c]).map fun q => (o ++ q.1, q.2)) = _
                rw [lead_one e2]
                rfl
      · rw [if_neg hk] at e; cases e
theorem lalike {ps : List (Sta × Sta)} {sgs : List Nat} (hc : Cover D1 D2 sgs) (I : LInv D1 D2 ps) (hr : ∀ p ∈ ps, (p.1 = .row ↔ p.2 = .row)) (done : ∀ p ∈ ps, ∀ c ∈ sgs, Both D1 D2 (· ∈ ps) p c) : Alike D1 D2 := by
  intro t
  rw [ans_iff]
  exact alike_of hc (· ∈ ps) (fun q hq => I.good hq) hr done t (.row, .row) (List.mem_of_getElem? I.hd)
end
noncomputable def alk (D1 D2 : Dia) : Bool := @decide (Alike D1 D2) (Classical.propDecidable _)
theorem alk_iff {D1 D2 : Dia} : alk D1 D2 = true ↔ Alike D1 D2 := by unfold alk; exact @decide_eq_true_iff _ (Classical.propDecidable _)
theorem alk_false {D1 D2 : Dia} : alk D1 D2 = false ↔ ¬ Alike D1 D2 := by unfold alk; exact @decide_eq_false_iff_not _ (Classical.propDecidable _)
theorem CmpR.alk {D1 D2 : Dia} {r : Option (List Nat)} (h : CmpR D1 D2 r) : r = none ↔ Dh.alk D1 D2 = true := by
  rw [alk_iff]
  cases r with
  | none => exact ⟨fun _ => h, fun _ => rfl⟩
  | some m => exact ⟨fun e => (by cases e), fun a => absurd (a m) h.2.2⟩
end Dh
end SDhMath3

section SDhMath4
set_option linter.all false
/-! Groups by a relation, parts by answers, trees, what is left. -/
namespace Dh

/-! ### groups by a relation -/
def addG (al : Nat → Nat → Bool) (made : List (List Nat)) (p : Nat) : List (List Nat) :=
  match made.findIdx? fun g => al (g.headD 0) p with
  | none => made ++ [[p]]
  | some i => made.modify i (· ++ [p])
def pgo (al : Nat → Nat → Bool) (l : List Nat) : List (List Nat) := l.foldl (addG al) []
structure Eqv (al : Nat → Nat → Bool) : Prop where
  rfl : ∀ i, al i i = true
  symm : ∀ i j, al i j = true → al j i = true
  trans : ∀ i j k, al i j = true → al j k = true → al i k = true
structure PGr (al : Nat → Nat → Bool) (done : List Nat) (made : List (List Nat)) : Prop where
  ne : ∀ g ∈ made, g ≠ []
  eq : ∀ g ∈ made, g = done.filter (al (g.headD 0))
  apart : ∀ (i j : Nat) (g h : List Nat), made[i]? = some g → made[j]? = some h → al (g.headD 0) (h.headD 0) = true → i = j
  all : ∀ p ∈ done, ∃ g ∈ made, p ∈ g
section
variable {al : Nat → Nat → Bool}
theorem PGr.head (P : PGr al done made) {g : List Nat} (h : g ∈ made) : g.headD 0 ∈ g ∧ g.headD 0 ∈ done := by
  have n := P.ne g h
  have e := P.eq g h
  have m : g.headD 0 ∈ g := by
    cases g with
    | nil => exact absurd rfl n
    | cons x r => exact List.mem_cons_self
  refine ⟨m, ?_⟩
  have m2 : g.headD 0 ∈ done.filter (al (g.headD 0)) := e ▸ m
  exact (List.mem_filter.mp m2).1
theorem PGr.step (E : Eqv al) (P : PGr al done made) (p : Nat) : PGr al (done ++ [p]) (addG al made p) := by
  unfold addG
  cases h : made.findIdx? fun g => al (g.headD 0) p with
  | none =>
    have no : ∀ g ∈ made, al (g.headD 0) p = false := by
      intro g hg
      have := List.findIdx?_eq_none_iff.mp h g hg
      simpa using this
    refine ⟨fun g hg => ?_, fun g hg => ?_, fun i j g k hi hj ha => ?_, fun x hx => ?_⟩
    · rcases List.mem_append.mp hg with hg | hg
      · exact P.ne g hg
      · rw [List.mem_singleton] at hg; subst hg; simp
    · rcases List.mem_append.mp hg with hg | hg
      · rw [List.filter_append]
        have := no g hg
        rw [List.filter_cons_of_neg (by simp only [this]; simp)]
        rw [List.filter_nil, List.append_nil]
        exact P.eq g hg
      · rw [List.mem_singleton] at hg
        subst hg
        rw [List.filter_append]
        have : done.filter (al (([p] : List Nat).headD 0)) = [] := by
          rw [List.filter_eq_nil_iff]
          intro x hx q
          obtain ⟨g, hg, hxg⟩ := P.all x hx
          have e := P.eq g hg
          rw [e] at hxg
          have a := (List.mem_filter.mp hxg).2
          have b := E.symm _ _ q
          have := E.trans _ _ _ a b
          have n := no g hg
          rw [show ([p] : List Nat).headD 0 = p from rfl] at this
          rw [n] at this
          cases this
        rw [this]
        have r : al (([p] : List Nat).headD 0) p = true := E.rfl p
        rw [List.filter_cons_of_pos r]
        rfl
    · have hlast : ∀ {i : Nat} {g : List Nat}, (made ++ [[p]])[i]? = some g → (made[i]? = some g) ∨ (i = made.length ∧ g = [p]) := by
        intro i g q
        by_cases hl : i < made.length
        · rw [List.getElem?_append_left hl] at q; exact .inl q
        · rw [List.getElem?_append_right (by omega)] at q
          have := (List.getElem?_eq_some_iff.mp q).1
          simp only [List.length_cons, List.length_nil] at this
          have z : i = made.length := by omega
          subst z
          rw [Nat.sub_self] at q
          simp only [List.getElem?_cons_zero, Option.some.injEq] at q
          exact .inr ⟨rfl, q.symm⟩
      rcases hlast hi with hi | ⟨rfl, rfl⟩
      · rcases hlast hj with hj | ⟨rfl, rfl⟩
        · exact P.apart i j g k hi hj ha
        · have := no g (List.mem_of_getElem? hi)
          rw [show ([p] : List Nat).headD 0 = p from rfl, this] at ha
          cases ha
      · rcases hlast hj with hj | ⟨rfl, rfl⟩
        · have := no k (List.mem_of_getElem? hj)
          have := E.symm _ _ ha
          rw [show ([p] : List Nat).headD 0 = p from rfl] at this
          rw [no k (List.mem_of_getElem? hj)] at this
          cases this
        · rfl
    · rcases List.mem_append.mp hx with hx | hx
      · obtain ⟨g, hg, q⟩ := P.all x hx
        exact ⟨g, List.mem_append_left _ hg, q⟩
      · rw [List.mem_singleton] at hx
        subst hx
        exact ⟨[x], by simp, by simp⟩
  | some i =>
    obtain ⟨hi, ha, _⟩ := List.findIdx?_eq_some_iff_getElem.mp h
    have hh : ∀ g : List Nat, g ∈ made → (g ++ [p]).headD 0 = g.headD 0 := fun g hg => by
      have := P.ne g hg
      cases g with
      | nil => exact absurd rfl this
      | cons x r => rfl
    have at_ : ∀ {j : Nat} {g : List Nat}, (made.modify i (· ++ [p]))[j]? = some g → ∃ g0, made[j]? = some g0 ∧ g = (if i = j then g0 ++ [p] else g0) ∧ g.headD 0 = g0.headD 0 := by
      intro j g q
      rw [List.getElem?_modify] at q
      cases e : made[j]? with
      | none => rw [e] at q; cases q
      | some g0 =>
        rw [e] at q
        have q' : (if i = j then g0 ++ [p] else g0) = g := Option.some.inj q
        refine ⟨g0, rfl, q'.symm, ?_⟩
        rw [← q']
        split
        · exact hh g0 (List.mem_of_getElem? e)
        · rfl
    refine ⟨fun g hg => ?_, fun g hg => ?_, fun j k g g' hj hk hal => ?_, fun x hx => ?_⟩
    · obtain ⟨j, hj⟩ := List.mem_iff_getElem?.mp hg
      obtain ⟨g0, e0, e1, _⟩ := at_ hj
      have := P.ne g0 (List.mem_of_getElem? e0)
      rw [e1]
      split
      · simp
      · exact this
    · obtain ⟨j, hj⟩ := List.mem_iff_getElem?.mp hg
      obtain ⟨g0, e0, e1, e2⟩ := at_ hj
      have hg0 := List.mem_of_getElem? e0
      rw [e2, List.filter_append, ← P.eq g0 hg0, e1]
      by_cases hij : i = j
      · subst hij
        have : made[i]? = some made[i] := List.getElem?_eq_getElem hi
        rw [this] at e0
        cases e0
        rw [if_pos rfl, List.filter_cons_of_pos ha]
        rfl
      · rw [if_neg hij]
        have : al (g0.headD 0) p = false := by
          cases q : al (g0.headD 0) p with
          | false => rfl
          | true =>
            exfalso
            apply hij
            have e3 : made[i]? = some made[i] := List.getElem?_eq_getElem hi
            exact P.apart i j _ _ e3 e0 (E.trans _ _ _ ha (E.symm _ _ q))
        rw [List.filter_cons_of_neg (by rw [this]; simp)]
        simp
    · obtain ⟨g0, e0, _, e2⟩ := at_ hj
      obtain ⟨g1, f0, _, f2⟩ := at_ hk
      rw [e2, f2] at hal
      exact P.apart j k _ _ e0 f0 hal
    · have mem : ∀ {g : List Nat}, g ∈ made → ∃ g' ∈ made.modify i (· ++ [p]), ∀ x ∈ g, x ∈ g' := by
        intro g hg
        obtain ⟨j, hj⟩ := List.mem_iff_getElem?.mp hg
        have : (made.modify i (· ++ [p]))[j]? = some (if i = j then g ++ [p] else g) := by
          rw [List.getElem?_modify, hj]
          by_cases hij : i = j <;> simp [hij]
        refine ⟨_, List.mem_of_getElem? this, fun x hx => ?_⟩
        split
        · exact List.mem_append_left _ hx
        · exact hx
      rcases List.mem_append.mp hx with hx | hx
      · obtain ⟨g, hg, q⟩ := P.all x hx
        obtain ⟨g', hg', q'⟩ := mem hg
        exact ⟨g', hg', q' x q⟩
      · rw [List.mem_singleton] at hx
        subst hx
        have : (made.modify i (· ++ [x]))[i]? = some (made[i] ++ [x]) := by
          rw [List.getElem?_modify, List.getElem?_eq_getElem hi]
          simp
        exact ⟨_, List.mem_of_getElem? this, by simp⟩
theorem pg_nil : PGr al [] [] := ⟨fun g h => (by cases h), fun g h => (by cases h), fun i j g h e => by simp at e, fun p h => (by cases h)⟩
theorem pg_fold (E : Eqv al) : ∀ (l done : List Nat) (made : List (List Nat)), PGr al done made → PGr al (done ++ l) (l.foldl (addG al) made)
  | [], done, made, P => by simpa using P
  | p :: l, done, made, P => by
    have := pg_fold E l (done ++ [p]) _ (P.step E p)
    rw [List.append_assoc] at this
    exact this
theorem pg_go (E : Eqv al) (l : List Nat) : PGr al l (pgo al l) := by
  have := pg_fold E l [] [] pg_nil
  rw [List.nil_append] at this
  exact this
theorem PGr.same (E : Eqv al) (P : PGr al done made) {g : List Nat} (hg : g ∈ made) {x y : Nat} (hx : x ∈ g) : y ∈ g ↔ y ∈ done ∧ al x y = true := by
  have e := P.eq g hg
  have hx' := hx
  rw [e] at hx'
  have a := (List.mem_filter.mp hx').2
  constructor
  · intro hy
    rw [e] at hy
    obtain ⟨h1, h2⟩ := List.mem_filter.mp hy
    exact ⟨h1, E.trans _ _ _ (E.symm _ _ a) h2⟩
  · rintro ⟨h1, h2⟩
    rw [e]
    exact List.mem_filter.mpr ⟨h1, E.trans _ _ _ a h2⟩
theorem PGr.group (E : Eqv al) (P : PGr al done made) {g : List Nat} (hg : g ∈ made) {x : Nat} (hx : x ∈ g) : g = done.filter (al x) := by
  have e := P.eq g hg
  have hx' := hx
  rw [e] at hx'
  have a := (List.mem_filter.mp hx').2
  rw [e]
  apply List.filter_congr
  intro y _
  cases q : al (g.headD 0) y with
  | true => exact (E.trans _ _ _ (E.symm _ _ a) q).symm
  | false =>
    cases r : al x y with
    | false => rfl
    | true => rw [E.trans _ _ _ a r] at q; cases q
/-- just one group holds a place -/
theorem PGr.one (E : Eqv al) (P : PGr al done made) {p : Nat} (hp : p ∈ done) : made.filter (fun g => decide (p ∈ g)) = [done.filter (al p)] := by
  obtain ⟨g, hg, hpg⟩ := P.all p hp
  have eg := P.group E hg hpg
  have key : ∀ (l : List (List Nat)), (∀ (i j : Nat) (a b : List Nat), l[i]? = some a → l[j]? = some b → p ∈ a → p ∈ b → i = j) → g ∈ l → (∀ a ∈ l, p ∈ a → a = g) → l.filter (fun g => decide (p ∈ g)) = [g] := by
    intro l
    induction l with
    | nil => intro _ h; cases h
    | cons a l ih =>
      intro ap hm hu
      by_cases ha : p ∈ a
      · have : a = g := hu a List.mem_cons_self ha
        subst this
        rw [List.filter_cons_of_pos (by simpa using ha)]
        have : l.filter (fun g => decide (p ∈ g)) = [] := by
          rw [List.filter_eq_nil_iff]
          intro b hb q
          have q' : p ∈ b := by simpa using q
          obtain ⟨j, hj⟩ := List.mem_iff_getElem?.mp hb
          have := ap 0 (j + 1) a b rfl (by simpa using hj) ha q'
          omega
        rw [this]
      · rw [List.filter_cons_of_neg (by simpa using ha)]
        have hm' : g ∈ l := by
          rcases List.mem_cons.mp hm with rfl | h
          · exact absurd hpg ha
          · exact h
        exact ih (fun i j x y hi hj => fun hx hy => by
          have := ap (i + 1) (j + 1) x y (by simpa using hi) (by simpa using hj) hx hy
          omega) hm' fun x hx => hu x (List.mem_cons_of_mem _ hx)
  rw [← eg]
  refine key made (fun i j a b hi hj ha hb => ?_) hg fun a ha hpa => ?_
  · refine P.apart i j a b hi hj ?_
    have ma := List.mem_of_getElem? hi
    have mb := List.mem_of_getElem? hj
    have h1 := (P.same E ma (P.head ma).1 (y := p)).mp ha
    have h2 := (P.same E mb (P.head mb).1 (y := p)).mp hb
    exact E.trans _ _ _ h1.2 (E.symm _ _ h2.2)
  · rw [P.group E ha hpa, eg]
theorem pgo_len (E : Eqv al) (l : List Nat) : (pgo al l).length ≤ l.length := by
  have : ∀ (l : List Nat) (made : List (List Nat)), (l.foldl (addG al) made).length ≤ made.length + l.length := by
    intro l
    induction l with
    | nil => intro made; simp
    | cons p l ih =>
      intro made
      rw [List.foldl_cons]
      have := ih (addG al made p)
      have h2 : (addG al made p).length ≤ made.length + 1 := by
        unfold addG
        split
        · simp
        · simp
      simp only [List.length_cons]
      omega
  simpa [pgo] using this l []
end

/-! ### places that are left -/
section
variable {al : Nat → Nat → Bool} {n : Nat}
/-- rising, closed under alike -/
structure Lf (al : Nat → Nat → Bool) (n : Nat) (pl : List Nat) : Prop where
  sub : pl.Sublist (List.range n)
  cl : ∀ i j, i ∈ pl → j < n → al i j = true → j ∈ pl
def cnt (made : List (List Nat)) (pl : List Nat) : Nat := (made.filter fun g => decide (g.headD 0 ∈ pl)).length
theorem Lf.lt (L : Lf al n pl) {i : Nat} (h : i ∈ pl) : i < n := List.mem_range.mp (L.sub.subset h)
theorem Lf.all : Lf al n (List.range n) := ⟨List.Sublist.refl _, fun i j _ h _ => List.mem_range.mpr h⟩
theorem Lf.filter (L : Lf al n pl) {β : Type} [DecidableEq β] (f : Nat → β) (b : β) (hf : ∀ i j, i < n → j < n → al i j = true → f i = f j) : Lf al n (pl.filter fun i => decide (f i = b)) := by
  refine ⟨(List.filter_sublist ..).trans L.sub, fun i j hi hj ha => ?_⟩
  obtain ⟨h1, h2⟩ := List.mem_filter.mp hi
  have e : f i = b := of_decide_eq_true h2
  exact List.mem_filter.mpr ⟨L.cl i j h1 hj ha, decide_eq_true ((hf i j (L.lt h1) hj ha).symm.trans e)⟩
theorem filter_lt {α : Type} (p q : α → Bool) : ∀ (l : List α), (∀ x ∈ l, p x = true → q x = true) → (∃ x ∈ l, q x = true ∧ p x = false) → (l.filter p).length < (l.filter q).length := by
  intro l
  induction l with
  | nil => rintro _ ⟨x, h, _⟩; cases h
  | cons a l ih =>
    intro h1 h2
    have le : (l.filter p).length ≤ (l.filter q).length := by
      have : ∀ l : List α, (∀ x ∈ l, p x = true → q x = true) → (l.filter p).length ≤ (l.filter q).length := by
        intro l
        induction l with
        | nil => intro _; simp
        | cons b l ih2 =>
          intro h
          have i := ih2 fun x hx => h x (List.mem_cons_of_mem _ hx)
          by_cases hb : p b = true
          · rw [List.filter_cons_of_pos hb, List.filter_cons_of_pos (h b List.mem_cons_self hb)]
            simpa using i
          · rw [List.filter_cons_of_neg hb]
            by_cases hq : q b = true
            · rw [List.filter_cons_of_pos hq]; simp only [List.length_cons]; omega
            · rw [List.filter_cons_of_neg hq]; exact i
      exact this l fun x hx => h1 x (List.mem_cons_of_mem _ hx)
    obtain ⟨x, hx, hq, hp⟩ := h2
    rcases List.mem_cons.mp hx with rfl | hx
    · rw [List.filter_cons_of_pos hq, List.filter_cons_of_neg (by rw [hp]; simp)]
      simp only [List.length_cons]
      omega
    · have i := ih (fun x hx => h1 x (List.mem_cons_of_mem _ hx)) ⟨x, hx, hq, hp⟩
      by_cases hb : p a = true
      · rw [List.filter_cons_of_pos hb, List.filter_cons_of_pos (h1 a List.mem_cons_self hb)]
        simpa using i
      · rw [List.filter_cons_of_neg hb]
        by_cases hqa : q a = true
        · rw [List.filter_cons_of_pos hqa]; simp only [List.length_cons]; omega
        · rw [List.filter_cons_of_neg hqa]; exact i
theorem cnt_lt (E : Eqv al) (P : PGr al (List.range n) made) (L : Lf al n pl) {β : Type} [DecidableEq β] (f : Nat → β) (b : β) (hf : ∀ i j, i < n → j < n → al i j = true → f i = f j)
    {i : Nat} (hi : i ∈ pl) (hne : f i ≠ b) : cnt made (pl.filter fun i => decide (f i = b)) < cnt made pl := by
  unfold cnt
  refine filter_lt _ _ made (fun g _ h => ?_) ?_
  · have h' := of_decide_eq_true h
    exact decide_eq_true (List.mem_filter.mp h').1
  · have il := L.lt hi
    obtain ⟨g, hg, hig⟩ := P.all i (List.mem_range.mpr il)
    have hh := P.head hg
    have hhn := List.mem_range.mp hh.2
    have a : al i (g.headD 0) = true := ((P.same E hg hig).mp hh.1).2
    refine ⟨g, hg, decide_eq_true (L.cl i _ hi hhn a), ?_⟩
    refine decide_eq_false fun q => ?_
    have := of_decide_eq_true (List.mem_filter.mp q).2
    exact hne ((hf i _ il hhn a).trans this)
theorem cnt_pos (E : Eqv al) (P : PGr al (List.range n) made) (L : Lf al n pl) {i : Nat} (hi : i ∈ pl) : 0 < cnt made pl := by
  have il := L.lt hi
  obtain ⟨g, hg, hig⟩ := P.all i (List.mem_range.mpr il)
  have hh := P.head hg
  have hhn := List.mem_range.mp hh.2
  have a : al i (g.headD 0) = true := ((P.same E hg hig).mp hh.1).2
  unfold cnt
  exact List.length_pos_of_mem (List.mem_filter.mpr ⟨hg, decide_eq_true (L.cl i _ hi hhn a)⟩)
theorem cnt_all (P : PGr al (List.range n) made) : cnt made (List.range n) = made.length := by
  unfold cnt
  rw [List.filter_eq_self.mpr]
  intro g hg
  exact decide_eq_true (P.head hg).2
theorem sub_filter {pl : List Nat} : ∀ {l : List Nat}, l.Nodup → pl.Sublist l → pl = l.filter fun x => decide (x ∈ pl) := by
  intro l
  induction l generalizing pl with
  | nil => intro _ h; rw [List.sublist_nil.mp h]; rfl
  | cons a l ih =>
    intro nd h
    rw [List.nodup_cons] at nd
    cases h with
    | cons _ h =>
      have : a ∉ pl := fun q => nd.1 (h.subset q)
      rw [List.filter_cons_of_neg (by simpa using this)]
      exact ih nd.2 h
    | cons_cons _ h =>
      rename_i r
      rw [List.filter_cons_of_pos (by simp)]
      congr 1
      have e := ih nd.2 h
      rw [e]
      apply List.filter_congr
      intro x hx
      have : x ≠ a := fun q => nd.1 (q ▸ hx)
      have e2 : (x ∈ l.filter fun x => decide (x ∈ r)) ↔ x ∈ r := by rw [← e]
      apply decide_eq_decide.mpr
      rw [← e]
      simp [this]
/-- all that is left is alike: just the group -/
theorem Lf.group (E : Eqv al) (L : Lf al n pl) {p : Nat} (hp : p ∈ pl) (h : ∀ i ∈ pl, al p i = true) : pl = (List.range n).filter (al p) := by
  rw [sub_filter List.nodup_range L.sub]
  apply List.filter_congr
  intro x hx
  cases q : al p x with
  | true => exact decide_eq_true (L.cl p x hp (List.mem_range.mp hx) q)
  | false =>
    refine decide_eq_false fun z => ?_
    rw [h x z] at q
    cases q
end

/-! ### trees -/
inductive Tr where
  | leaf (l : List Nat) | ask (at_ : Nat) (b : List Tr)
/-- the relation of one answer -/
def same {β : Type} [DecidableEq β] (key : Nat → Nat → β) (at_ : Nat) : Nat → Nat → Bool := fun i j => decide (key at_ i = key at_ j)
theorem same_eqv {β : Type} [DecidableEq β] (key : Nat → Nat → β) (at_ : Nat) : Eqv (same key at_) :=
  ⟨fun i => decide_eq_true rfl, fun i j h => decide_eq_true (of_decide_eq_true h).symm, fun i j k h h' => decide_eq_true ((of_decide_eq_true h).trans (of_decide_eq_true h'))⟩
def partsB {β : Type} [DecidableEq β] (key : Nat → Nat → β) (at_ : Nat) (pl : List Nat) : List (List Nat) := pgo (same key at_) pl
section
variable {β : Type} [DecidableEq β] {key : Nat → Nat → β} {many : Nat}
inductive Proper (key : Nat → Nat → β) (many : Nat) : Tr → List Nat → Prop where
  | leaf {pl : List Nat} : (∀ a, a < many → (partsB key a pl).length ≤ 1) → Proper key many (.leaf pl) pl
  | ask {pl : List Nat} {a : Nat} {bs : List Tr} : a < many → 1 < (partsB key a pl).length → bs.length = (partsB key a pl).length →
      (∀ (i : Nat) (t : Tr) (p : List Nat), bs[i]? = some t → (partsB key a pl)[i]? = some p → Proper key many t p) → Proper key many (.ask a bs) pl
theorem parts_at {a : Nat} {pl p : List Nat} (h : p ∈ partsB key a pl) : p ≠ [] ∧ p = pl.filter fun i => decide (key a i = key a (p.headD 0)) := by
  have P := pg_go (same_eqv key a) pl
  refine ⟨P.ne p h, ?_⟩
  have e := P.eq p h
  rw [show pl.filter (fun i => decide (key a i = key a (p.headD 0))) = pl.filter (same key a (p.headD 0)) from ?_]
  · exact e
  · apply List.filter_congr
    intro x _
    show decide _ = decide _
    apply decide_eq_decide.mpr
    exact eq_comm
theorem parts_two {a : Nat} {pl p : List Nat} (h : p ∈ partsB key a pl) (h2 : 1 < (partsB key a pl).length) : ∃ i ∈ pl, key a i ≠ key a (p.headD 0) := by
  have P := pg_go (same_eqv key a) pl
  obtain ⟨j, hj⟩ := List.mem_iff_getElem?.mp h
  have jl := (List.getElem?_eq_some_iff.mp hj).1
  obtain ⟨k, hk, kl⟩ : ∃ k, k ≠ j ∧ k < (partsB key a pl).length := by
    by_cases z : j = 0
    · exact ⟨1, by omega, h2⟩
    · exact ⟨0, by omega, by omega⟩
  have e := List.getElem?_eq_getElem kl
  have hm := List.mem_of_getElem? e
  refine ⟨_, (P.head hm).2, fun q => ?_⟩
  exact hk (P.apart k j _ _ e hj (decide_eq_true q))
theorem parts_len_lt {a : Nat} {pl p : List Nat} (h : p ∈ partsB key a pl) (h2 : 1 < (partsB key a pl).length) : p.length < pl.length := by
  obtain ⟨i, hi, hn⟩ := parts_two h h2
  obtain ⟨_, e⟩ := parts_at h
  rw [e]
  refine Nat.lt_of_lt_of_le (filter_lt _ (fun _ => true) pl (fun _ _ _ => rfl) ⟨i, hi, rfl, decide_eq_false hn⟩) ?_
  rw [List.filter_eq_self.mpr (fun _ _ => rfl)]
  exact Nat.le_refl _
/-- at most one part: all answer alike -/
theorem parts_one {a : Nat} {pl : List Nat} (h : (partsB key a pl).length ≤ 1) {i j : Nat} (hi : i ∈ pl) (hj : j ∈ pl) : key a i = key a j := by
  have P := pg_go (same_eqv key a) pl
  obtain ⟨g, hg, hig⟩ := P.all i hi
  obtain ⟨g', hg', hjg⟩ := P.all j hj
  obtain ⟨x, hx⟩ := List.mem_iff_getElem?.mp hg
  obtain ⟨y, hy⟩ := List.mem_iff_getElem?.mp hg'
  have hx1 := (List.getElem?_eq_some_iff.mp hx).1
  have hy1 := (List.getElem?_eq_some_iff.mp hy).1
  have h' : (pgo (same key a) pl).length ≤ 1 := h
  have : x = y := by omega
  subst this
  rw [hx] at hy
  cases hy
  exact of_decide_eq_true ((P.same (same_eqv key a) hg hig).mp hjg).2
theorem parts_one_of {a : Nat} {pl : List Nat} (h : ∀ i ∈ pl, ∀ j ∈ pl, key a i = key a j) : (partsB key a pl).length ≤ 1 := by
  apply Classical.byContradiction
  intro q
  have h2 : 1 < (partsB key a pl).length := by omega
  have e := List.getElem?_eq_getElem (show 0 < (partsB key a pl).length by omega)
  have hm := List.mem_of_getElem? e
  obtain ⟨i, hi, hn⟩ := parts_two hm h2
  have P := pg_go (same_eqv key a) pl
  exact hn (h _ hi _ (P.head hm).2)
/-- the texts that part some places -/
def splits (key : Nat → Nat → β) (many : Nat) (pl : List Nat) : Nat := ((List.range many).filter fun a => decide (1 < (partsB key a pl).length)).length
theorem splits_le {pl : List Nat} : splits key many pl ≤ many := by
  unfold splits
  refine Nat.le_trans (List.length_filter_le _ _) ?_
  rw [List.length_range]
  exact Nat.le_refl _
theorem splits_lt {a : Nat} {pl p : List Nat} (ha : a < many) (h : p ∈ partsB key a pl) (h2 : 1 < (partsB key a pl).length) : splits key many p < splits key many pl := by
  unfold splits
  obtain ⟨_, e⟩ := parts_at h
  have sub : ∀ i ∈ p, i ∈ pl := fun i hi => by
    rw [e] at hi
    exact (List.mem_filter.mp hi).1
  refine filter_lt _ _ _ (fun b _ hb => ?_) ⟨a, List.mem_range.mpr ha, decide_eq_true h2, decide_eq_false ?_⟩
  · have hb' := of_decide_eq_true hb
    refine decide_eq_true ?_
    apply Classical.byContradiction
    intro q
    have := parts_one_of (key := key) (a := b) (pl := p) fun i hi j hj => parts_one (by omega) (sub i hi) (sub j hj)
    omega
  · have := parts_one_of (key := key) (a := a) (pl := p) fun i hi j hj => by
      rw [e] at hi hj
      exact (of_decide_eq_true (List.mem_filter.mp hi).2).trans (of_decide_eq_true (List.mem_filter.mp hj).2).symm
    omega
end
end Dh
end SDhMath4

section SDhKey
set_option Elab.async false
set_option linter.all false
set_option maxRecDepth 100000
set_option maxHeartbeats 4000000
/-! Keys of a dict: a tuple of tuples. -/
namespace Dh
open PySem PySem.Spec PyProof.Rows

section
variable {prog : Program} {w : World} {K : Type} [DecidableEq K] (knd : KeyKind prog w K)
inductive ItemsAre2 (h : Heap) : List (List K) → List Value → Prop
  | nil : ItemsAre2 h [] []
  | cons {k : List K} {a : Addr} {ks : List (List K)} {vs : List Value} : IsTupleKey knd h k a → ItemsAre2 h ks vs → ItemsAre2 h (k :: ks) (.ref a :: vs)
def IsTup2 (h : Heap) (ks : List (List K)) (a : Addr) : Prop := ∃ o items n, h.get? a = some o ∧ o.cls = .type "tuple" ∧ o.data = .seq items n ∧ ItemsAre2 knd h ks items.toList
variable {knd}
theorem ItemsAre2.inj {h : Heap} {x y : List (List K)} {vs : List Value} (hx : ItemsAre2 knd h x vs) (hy : ItemsAre2 knd h y vs) : x = y := by
  induction hx generalizing y with
  | nil => cases hy; rfl
  | cons h1 _ ih =>
    cases hy with
    | cons h2 t2 => rw [h1.inj h2, ih t2]
theorem ItemsAre2.length {h : Heap} {x : List (List K)} {vs : List Value} (hx : ItemsAre2 knd h x vs) : x.length = vs.length := by
  induction hx with
  | nil => rfl
  | cons _ _ ih => simp [ih]
theorem IsTup2.typeIs {s : Shared} {ks : List (List K)} {a : Addr} (x : IsTup2 knd s.heap ks a) : s.TypeIs (.ref a) "tuple" := let ⟨o, _, _, ho, hc, _⟩ := x; ⟨o, ho, hc⟩
theorem IsTup2.inj {h : Heap} {a : Addr} {x y : List (List K)} (hx : IsTup2 knd h x a) (hy : IsTup2 knd h y a) : x = y := by
  obtain ⟨o, items, n, ho, _, hd, hi⟩ := hx
  obtain ⟨o', items', n', ho', _, hd', hi'⟩ := hy
  obtain rfl : o = o' := Option.some.inj (ho.symm.trans ho')
  rw [hd] at hd'
  injection hd' with h1 _
  subst h1
  exact hi.inj hi'
theorem ItemsAre2.keeps {h h' : Heap} {d : Addr} {o : Obj} {es ep} (ho : h.get? d = some o) (hd : o.data = .dict es ep) (hs : Heap.SameBut d h h') {ks : List (List K)} {vs : List Value} (x : ItemsAre2 knd h ks vs) : ItemsAre2 knd h' ks vs := by
  induction x with
  | nil => exact .nil
  | cons h1 _ ih => exact .cons (h1.keeps ho hd hs) ih
theorem IsTup2.keeps {h h' : Heap} {ks : List (List K)} {a d : Addr} {o : Obj} {es ep} (x : IsTup2 knd h ks a) (ho : h.get? d = some o) (hd : o.data = .dict es ep) (hs : Heap.SameBut d h h') : IsTup2 knd h' ks a := by
  obtain ⟨o', items, n, ho', hc, hd', hi⟩ := x
  have hne : a ≠ d := by
    rintro rfl
    obtain rfl : o' = o := Option.some.inj (ho'.symm.trans ho)
    rw [hd] at hd'; exact nomatch hd'
  exact ⟨o', items, n, (hs.2 a hne).trans ho', hc, hd', hi.keeps ho hd hs⟩
def tup2Hash (knd : KeyKind prog w K) (ks : List (List K)) : Int := reduceHash (Builtin.Tuple.tupleHashOf (ks.map (tupleKeyHash knd)))
def tup2Draws (ks : List (List K)) : Nat := (ks.map fun k => k.length + 1).sum + 1
variable {A : Around} {E : Value → Shared → Prop} {s : Shared}
theorem pyHash_tup2 {ks : List (List K)} {a : Addr} {Q : Int → Shared → Prop} (hu : A.units + 1 < cLine) (hk : IsTup2 knd s.heap ks a) (h : Q (tup2Hash knd ks) { s with toks := s.toks + tup2Draws ks }) :
    wpAny (model prog w) A (pyHash (.ref a)) Q E s := by
  have hT := hk.typeIs
  obtain ⟨o, items, n, ho, _, hd, hi⟩ := hk
  unfold pyHash
  first | unfold pyHashByItsType | skip
  first | refine wpAny_bind (wpAny_cRoomFor_or (.inr (by omega)) ?_) | skip
  refine wpAny_bind (wpAny_specialOf hT PySem.F.slot_tuple_hash.lookup ?_)
  show wpAny _ _ (if (some (Value.builtin "tuple.__hash__") == some Value.none) = true then _ else _) Q E s
  rw [if_neg (by rw [beq_builtin_none]; exact Bool.false_ne_true)]
  refine wpAny_bind (wpAny_specialOf hT PySem.F.slot_tuple_hash.lookup ?_)
  show wpAny _ _ (callSpecialIfBoundUnlessNone? (.ref a) "__hash__" _ >>= _) Q E s
  refine wpAny_bind (wpAny_callSpecialIfBoundUnlessNone?_slot hT PySem.F.slot_tuple_hash (wpAny_call_entry PySem.F.slot_tuple_hash hT PySem.F.entry_tuple_hash ?_ (PySem.F.args_tuple_hash_1 _)))
  show wpAny _ _ (Builtin.Tuple.tupleItemsOf (.ref a) >>= _) _ _ s
  refine wpAny_bind (wpAny_tupleItemsOf ho hd ?_)
  refine wpAny_bind ?_
  rw [← Array.forIn_toList]
  refine wpAny_forIn_list _
    (fun rest (b : Array Int) s' => ∃ done left, ks = done ++ left ∧ ItemsAre2 knd s.heap left rest ∧ b.toList = done.map (tupleKeyHash knd) ∧ s' = { s with toks := s.toks + (done.map fun k => k.length + 1).sum })
    _ ?_ ?_ _ _ ⟨[], ks, rfl, hi, rfl, rfl⟩
  · rintro x rest b s' ⟨done, left, rfl, hl, hb, rfl⟩
    cases hl with
    | @cons k b' ks' _ h1 hl' =>
      refine wpAny_bind (wpAny_pyHash_tuple (A := A.in1) hu h1 ?_)
      first
        | exact wpAny_pure ⟨done ++ [k], ks', by simp, hl', by simp [hb], by simp [Nat.add_assoc]⟩
        | exact wpAny_bind (wpAny_pure (wpAny_pure ⟨done ++ [k], ks', by simp, hl', by simp [hb], by simp [Nat.add_assoc]⟩))
  · rintro b s' ⟨done, left, rfl, hl, hb, rfl⟩
    cases hl
    rw [List.append_nil] at h
    show wpAny _ _ (retInt (Builtin.Tuple.tupleHashOf b.toList)) _ _ _
    rw [hb]
    refine wpAny_ret_mkInt ?_
    show wpAny _ _ (if (decide (-(2 : Int) ^ 63 ≤ Builtin.Tuple.tupleHashOf (done.map (tupleKeyHash knd))) && decide (Builtin.Tuple.tupleHashOf (done.map (tupleKeyHash knd)) < 2 ^ 63)) = true then _ else _) Q E _
    unfold tup2Hash reduceHash tup2Draws at h
    by_cases hr : (decide (-(2 : Int) ^ 63 ≤ Builtin.Tuple.tupleHashOf (done.map (tupleKeyHash knd))) && decide (Builtin.Tuple.tupleHashOf (done.map (tupleKeyHash knd)) < 2 ^ 63)) = true
    · rw [if_pos hr]
      rw [if_pos hr] at h
      exact wpAny_pure (by simpa [Nat.add_assoc] using h)
    · rw [if_neg hr]
      rw [if_neg hr] at h
      exact wpAny_bind (wpAny_rule (wpAny_pure (by simpa [Nat.add_assoc] using h)))
theorem tup2_eq_tree {x y : List (List K)} {a b : Addr} {P : Fin → Shared → Prop} (hu : A.units < cLine) (hx : IsTup2 knd s.heap x a) (hy : IsTup2 knd s.heap y b) (h : P (.done (.ret (.bool (decide (x = y))))) s) :
    wpAny (model prog w) A (Builtin.«tuple.__eq__» ⟨[.ref a, .ref b], []⟩) P E s := by
  have hTb := hy.typeIs
  obtain ⟨oa, xs, na, hoa, _, hda, hia⟩ := hx
  obtain ⟨ob, ys, nb, hob, _, hdb, hib⟩ := hy
  show wpAny _ _ (isInstance (.ref b) (.type "tuple") >>= _) _ _ s
  refine wpAny_bind (wpAny_isInstance hTb isSubtype_tuple_tuple ?_)
  simp only [Bool.not_true, Bool.false_eq_true, if_false]
  refine wpAny_bind (wpAny_tupleItemsOf hoa hda ?_)
  refine wpAny_bind (wpAny_tupleItemsOf hob hdb ?_)
  refine wpAny_bind ?_
  refine wpAny_forIn_list _
    (fun rest r s' => r.1 = none ∧ s' = s ∧ ∃ x' y' xs' ys', rest = List.zip xs' ys' ∧ ItemsAre2 knd s.heap x' xs' ∧ ItemsAre2 knd s.heap y' ys' ∧ decide (x' = y') = decide (x = y) ∧ (xs'.length == ys'.length) = (xs.size == ys.size))
    _ ?_ ?_ _ _ ⟨rfl, rfl, x, y, xs.toList, ys.toList, rfl, hia, hib, rfl, by simp⟩
  · rintro ⟨u, v⟩ rest r s' ⟨hr, rfl, x', y', xs', ys', hz, hx', hy', hdec, hlen⟩
    cases hx' with
    | nil => simp at hz
    | @cons k1 a1 x'' xs'' h1 hx'' =>
      cases hy' with
      | nil => simp at hz
      | @cons k2 a2 y'' ys'' h2 hy'' =>
        simp only [List.zip_cons_cons, List.cons.injEq, Prod.mk.injEq] at hz
        obtain ⟨⟨rfl, rfl⟩, rfl⟩ := hz
        refine wpAny_bind (wpAny_eqBool_tuple hu h1 h2 ?_)
        by_cases hk : k1 = k2
        · subst hk
          rw [decide_eq_true rfl]
          simp only [Bool.not_true, Bool.false_eq_true, if_false]
          refine wpAny_pure ⟨rfl, rfl, x'', y'', xs'', ys'', rfl, hx'', hy'', ?_, by simpa using hlen⟩
          rw [← hdec]
          by_cases hxy : x'' = y''
          · simp [hxy]
          · simp [hxy]
        · rw [decide_eq_false hk]
          simp only [Bool.not_false, if_true]
          have hf : decide (x = y) = false := by rw [← hdec]; simp [hk]
          rw [hf] at h
          exact wpAny_bind (wpAny_pure (wpAny_pure (wpAny_pure h)))
  · rintro ⟨r1, r2⟩ s' ⟨hr, rfl, x', y', xs', ys', hz, hx', hy', hdec, hlen⟩
    simp only at hr
    subst hr
    refine wpAny_pure ?_
    have hfin : (xs.size == ys.size) = decide (x = y) := by
      rw [← hdec, ← hlen]
      cases hx' with
      | nil =>
        cases hy' with
        | nil => simp
        | cons _ _ => simp
      | cons _ _ =>
        cases hy' with
        | nil => simp
        | cons _ _ => simp at hz
    show P (.done (.ret (.bool (xs.size == ys.size)))) s'
    rw [hfin]; exact h
theorem eqBool_tup2 {x y : List (List K)} {a b : Addr} {Q : Bool → Shared → Prop} (hu : A.units + 1 < cLine) (hx : IsTup2 knd s.heap x a) (hy : IsTup2 knd s.heap y b) (h : Q (decide (x = y)) s) :
    wpAny (model prog w) A (eqBool (.ref a) (.ref b)) Q E s := by
  unfold eqBool
  try with_reducible refine wpAny_holding ?_
  show wpAny _ _ (if (Value.ref a == Value.ref b) = true then _ else _) Q E s
  by_cases hab : (Value.ref a == Value.ref b) = true
  · rw [if_pos hab]
    have e : a = b := by have := eq_of_beq hab; injection this
    subst e
    obtain rfl := hx.inj hy
    exact wpAny_bind (wpAny_rule (wpAny_pure (by simpa using h)))
  · rw [if_neg hab]
    exact wpAny_bind (wpAny_richCompare_same_room (op := .Eq) hx.typeIs hy.typeIs PySem.F.slot_tuple_eq
      (wpAny_call_entry PySem.F.slot_tuple_eq hx.typeIs PySem.F.entry_tuple_eq (tup2_eq_tree (A := A.in1) hu hx hy ⟨_, rfl, (fun e => nomatch e), wpAny_truthy_bool h⟩) (PySem.F.args_tuple_eq_2 _ _)) (by omega))
theorem quiet1 {n : Nat} {ks : List K} {a : Addr} {Q : Bool → Shared → Prop} (hk : IsTupleKey knd s.heap ks a) (h : Q true s) : wpAny (model prog w) A (eqIsQuiet (n + 1) (.ref a)) Q E s := by
  have hT := hk.typeIs
  obtain ⟨o, items, m, ho, _, hd, hi⟩ := hk
  unfold eqIsQuiet
  refine wpAny_bind (wpAny_specialOf hT PySem.F.slot_tuple_eq.lookup ?_)
  show wpAny _ _ (isInstance (.ref a) (.type "tuple") >>= _) _ _ s
  refine wpAny_bind (wpAny_isInstance hT isSubtype_tuple_tuple ?_)
  simp only [Bool.not_true, Bool.false_eq_true, if_false]
  refine wpAny_bind (wpAny_seqItems ho hd ?_)
  refine wpAny_bind ?_
  show wpAny _ _ (forIn items _ _) _ _ s
  rw [← Array.forIn_toList]
  refine wpAny_forIn_list _ (fun rest r s' => r.1 = none ∧ s' = s ∧ ∀ v ∈ rest, carriedByValue v = true) _ ?_ ?_ _ _ ⟨rfl, rfl, hi.byValue⟩
  · rintro v rest r s' ⟨hr, rfl, hall⟩
    rw [eqIsQuiet_byValue _ (hall v List.mem_cons_self)]
    refine wpAny_bind (wpAny_pure ?_)
    simp only [Bool.not_true, Bool.false_eq_true, if_false]
    exact wpAny_pure ⟨rfl, rfl, fun u hu' => hall u (List.mem_cons_of_mem _ hu')⟩
  · rintro ⟨r1, r2⟩ s' ⟨hr, rfl, _⟩
    simp only at hr
    subst hr
    exact wpAny_pure h
theorem quiet2 {ks : List (List K)} {a : Addr} {Q : Bool → Shared → Prop} (hk : IsTup2 knd s.heap ks a) (h : Q true s) : wpAny (model prog w) A (eqIsQuiet 8 (.ref a)) Q E s := by
  have hT := hk.typeIs
  obtain ⟨o, items, m, ho, _, hd, hi⟩ := hk
  unfold eqIsQuiet
  refine wpAny_bind (wpAny_specialOf hT PySem.F.slot_tuple_eq.lookup ?_)
  show wpAny _ _ (isInstance (.ref a) (.type "tuple") >>= _) _ _ s
  refine wpAny_bind (wpAny_isInstance hT isSubtype_tuple_tuple ?_)
  simp only [Bool.not_true, Bool.false_eq_true, if_false]
  refine wpAny_bind (wpAny_seqItems ho hd ?_)
  refine wpAny_bind ?_
  show wpAny _ _ (forIn items _ _) _ _ s
  rw [← Array.forIn_toList]
  refine wpAny_forIn_list _ (fun rest r s' => r.1 = none ∧ s' = s ∧ ∃ l, ItemsAre2 knd s.heap l rest) _ ?_ ?_ _ _ ⟨rfl, rfl, _, hi⟩
  · rintro v rest r s' ⟨hr, rfl, l, hall⟩
    cases hall with
    | cons h1 ht =>
      refine wpAny_bind (quiet1 h1 ?_)
      simp only [Bool.not_true, Bool.false_eq_true, if_false]
      exact wpAny_pure ⟨rfl, rfl, _, ht⟩
  · rintro ⟨r1, r2⟩ s' ⟨hr, rfl, _⟩
    simp only at hr
    subst hr
    exact wpAny_pure h
end
def tup2Kind {prog : Program} {w : World} {K : Type} [DecidableEq K] (knd : KeyKind prog w K) : HeapKind prog w (List (List K)) where
  is := IsTup2 knd
  hash := tup2Hash knd
  draws := tup2Draws
  room := fun A => A.units + 1 < cLine
  inj := fun hx hy => hx.inj hy
  keeps := fun x ho hd hs => x.keeps ho hd hs
  pyHash := fun hu hk h => pyHash_tup2 hu hk h
  eqBool := fun hu hx hy h => eqBool_tup2 hu hx hy h
  quiet := fun hk h => quiet2 hk h

/-! ### the dict's object -/
open L2
abbrev KyL := List (List Str)
abbrev DEnt := KyL × Addr × V
def DObj (P : Program) (w : World) (h : Heap) (p : Addr) (xs : List (KyL × Addr × Value)) : Prop :=
  (p == sysModules) = false ∧ ∃ o es ep, h.get? p = some o ∧ o.ExactDict ∧ o.data = .dict es ep ∧ es.toList = xs.map (entryOfKey (tup2Kind (strKind P w))) ∧ (xs.map (·.1)).Nodup
def EntIs (e : DEnt) (x : KyL × Addr × Value) : Prop := e.1 = x.1 ∧ e.2.1 = x.2.1 ∧ RelV e.2.2 x.2.2
inductive EntsAre : List DEnt → List (KyL × Addr × Value) → Prop
  | nil : EntsAre [] []
  | cons {e : DEnt} {x : KyL × Addr × Value} {es : List DEnt} {xs : List (KyL × Addr × Value)} : EntIs e x → EntsAre es xs → EntsAre (e :: es) (x :: xs)
def TDic (P : Program) (w : World) (p : Addr) (es : List DEnt) : HO := .ext fun h => ∃ xs, EntsAre es xs ∧ DObj P w h p xs
/-- a key's tuples -/
inductive KeyIts (K : PySem.W.Frag) (B : Hp) : KyL → List V → Prop
  | nil : KeyIts K B [] []
  | cons {l : List Str} {a : Addr} {ls : KyL} {xs : List V} : SqT K B a (l.map V.str) → KeyIts K B ls xs → KeyIts K B (l :: ls) (.ref a :: xs)
def KeyIs (K : PySem.W.Frag) (B : Hp) (k : KyL) (a : Addr) : Prop := ∃ xs, SqT K B a xs ∧ KeyIts K B k xs
end Dh
end SDhKey

section SDhBase
set_option Elab.async false
set_option linter.all false
set_option maxRecDepth 100000
set_option maxHeartbeats 2000000
/-! Data values over the layer: what a value stands for in a part of the heap; expressions that give data; the rules. -/
namespace Dh
open PySem PySem.Spec PyProof.Rows L2

/-! ### data -/
inductive Dt where
  | non | bl (b : Bool) | int (i : Int) | str (s : Str) | raw (v : V)
  | lst (l : List Dt) | tup (l : List Dt) | ins (C : Addr) (ns : List Str) (vs : List Dt)
  | dic (P : Program) (w : World) (kvs : List (KyL × V))
mutual
def Rep (K : PySem.W.Frag) (B : Hp) : Dt → V → Prop
  | .non, v => v = .non
  | .bl b, v => v = .bl b
  | .int i, v => v = .int i
  | .str s, v => v = .str s
  | .raw x, v => v = x
  | .lst l, v => ∃ a xs, v = .ref a ∧ SqL K B a xs ∧ RepAll K B l xs
  | .tup l, v => ∃ a xs, v = .ref a ∧ SqT K B a xs ∧ RepAll K B l xs
  | .ins C ns l, v => ∃ a dx xs, v = .ref a ∧ B a = some (.ins C dx (ns.zip xs)) ∧ RepAll K B l xs
  | .dic P w kvs, v => ∃ p es, v = .ref p ∧ B p = some (TDic P w p es) ∧ es.map (fun e => (e.1, e.2.2)) = kvs ∧ ∀ e ∈ es, KeyIs K B e.1 e.2.1
def RepAll (K : PySem.W.Frag) (B : Hp) : List Dt → List V → Prop
  | [], xs => xs = []
  | d :: ds, xs => ∃ v r, xs = v :: r ∧ Rep K B d v ∧ RepAll K B ds r
end
section
variable {K : PySem.W.Frag} {B B' H H' : Hp}
theorem sqT_mono {a : Addr} {xs : List V} (e : Same B B') (h : SqT K B a xs) : SqT K B' a xs := by
  rcases h with (h | ⟨o, h⟩) | h
  · exact .inl (.inl (e _ _ h))
  · exact .inl (.inr ⟨o, e _ _ h⟩)
  · exact .inr h
theorem KeyIts.mono (e : Same B B') {k : KyL} {xs : List V} (h : KeyIts K B k xs) : KeyIts K B' k xs := by
  induction h with
  | nil => exact .nil
  | cons h1 _ ih => exact .cons (sqT_mono e h1) ih
theorem KeyIs.mono (e : Same B B') {k : KyL} {a : Addr} (h : KeyIs K B k a) : KeyIs K B' k a := by
  obtain ⟨xs, h1, h2⟩ := h
  exact ⟨xs, sqT_mono e h1, h2.mono e⟩
mutual
theorem Rep.mono (e : Same B B') : ∀ {d : Dt} {v : V}, Rep K B d v → Rep K B' d v
  | .non, _, h => h
  | .bl _, _, h => h
  | .int _, _, h => h
  | .str _, _, h => h
  | .raw _, _, h => h
  | .lst l, v, h => by
    obtain ⟨a, xs, h1, h2, h3⟩ := h
    exact ⟨a, xs, h1, e.seq h2, RepAll.mono e h3⟩
  | .tup l, v, h => by
    obtain ⟨a, xs, h1, h2, h3⟩ := h
    exact ⟨a, xs, h1, sqT_mono e h2, RepAll.mono e h3⟩
  | .ins C ns l, v, h => by
    obtain ⟨a, dx, xs, h1, h2, h3⟩ := h
    exact ⟨a, dx, xs, h1, e _ _ h2, RepAll.mono e h3⟩
  | .dic P w kvs, v, h => by
    obtain ⟨p, es, h1, h2, h3, h4⟩ := h
    exact ⟨p, es, h1, e _ _ h2, h3, fun x hx => (h4 x hx).mono e⟩
theorem RepAll.mono (e : Same B B') : ∀ {l : List Dt} {xs : List V}, RepAll K B l xs → RepAll K B' l xs
  | [], _, h => h
  | d :: ds, xs, h => by
    obtain ⟨v, r, h1, h2, h3⟩ := h
    exact ⟨v, r, h1, Rep.mono e h2, RepAll.mono e h3⟩
end
theorem RepAll.length : ∀ {l : List Dt} {xs : List V}, RepAll K B l xs → xs.length = l.length
  | [], _, h => by rw [show _ = [] from h]; rfl
  | d :: ds, xs, h => by
    obtain ⟨v, r, h1, h2, h3⟩ := h
    rw [h1, List.length_cons, List.length_cons, RepAll.length h3]
theorem RepAll.get : ∀ {l : List Dt} {xs : List V} {i : Nat} {d : Dt}, RepAll K B l xs → l[i]? = some d → ∃ v, xs[i]? = some v ∧ Rep K B d v
  | [], _, _, _, _, e => by simp at e
  | d :: ds, xs, i, x, h, e => by
    obtain ⟨v, r, rfl, h2, h3⟩ := h
    cases i with
    | zero => simp at e; subst e; exact ⟨v, rfl, h2⟩
    | succ i => simpa using RepAll.get (i := i) h3 (by simpa using e)
theorem RepAll.getV : ∀ {l : List Dt} {xs : List V} {i : Nat} {v : V}, RepAll K B l xs → xs[i]? = some v → ∃ d, l[i]? = some d ∧ Rep K B d v
  | [], xs, i, v, h, e => by rw [show xs = [] from h] at e; simp at e
  | d :: ds, xs, i, x, h, e => by
    obtain ⟨v, r, rfl, h2, h3⟩ := h
    cases i with
    | zero => simp at e; subst e; exact ⟨d, rfl, h2⟩
    | succ i => simpa using RepAll.getV (i := i) h3 (by simpa using e)
theorem RepAll.append : ∀ {l m : List Dt} {xs ys : List V}, RepAll K B l xs → RepAll K B m ys → RepAll K B (l ++ m) (xs ++ ys)
  | [], m, xs, ys, h, k => by rw [show xs = [] from h]; exact k
  | d :: ds, m, xs, ys, h, k => by
    obtain ⟨v, r, rfl, h2, h3⟩ := h
    exact ⟨v, r ++ ys, rfl, h2, RepAll.append h3 k⟩
theorem RepAll.snoc {l : List Dt} {xs : List V} {d : Dt} {v : V} (h : RepAll K B l xs) (r : Rep K B d v) : RepAll K B (l ++ [d]) (xs ++ [v]) := h.append ⟨v, [], rfl, r, rfl⟩
theorem RepAll.take : ∀ {l : List Dt} {xs : List V} (n : Nat), RepAll K B l xs → RepAll K B (l.take n) (xs.take n)
  | [], xs, n, h => by rw [show xs = [] from h]; simp; exact rfl
  | d :: ds, xs, 0, h => by simp; exact rfl
  | d :: ds, xs, n + 1, h => by
    obtain ⟨v, r, rfl, h2, h3⟩ := h
    exact ⟨v, r.take n, rfl, h2, RepAll.take n h3⟩
theorem RepAll.drop : ∀ {l : List Dt} {xs : List V} (n : Nat), RepAll K B l xs → RepAll K B (l.drop n) (xs.drop n)
  | [], xs, n, h => by rw [show xs = [] from h]; simp; exact rfl
  | d :: ds, xs, 0, h => h
  | d :: ds, xs, n + 1, h => by
    obtain ⟨v, r, rfl, h2, h3⟩ := h
    exact RepAll.drop n h3
theorem RepAll.set : ∀ {l : List Dt} {xs : List V} {d : Dt} {v : V} (i : Nat), RepAll K B l xs → Rep K B d v → RepAll K B (l.set i d) (xs.set i v)
  | [], xs, d, v, i, h, _ => by rw [show xs = [] from h]; simp; exact rfl
  | e :: ds, xs, d, v, 0, h, q => by
    obtain ⟨w, r, rfl, h2, h3⟩ := h
    exact ⟨v, r, rfl, q, h3⟩
  | e :: ds, xs, d, v, i + 1, h, q => by
    obtain ⟨w, r, rfl, h2, h3⟩ := h
    exact ⟨w, r.set i v, rfl, h2, RepAll.set i h3 q⟩
theorem RepAll.ints : ∀ {ns : List Int} {xs : List V}, RepAll K B (ns.map Dt.int) xs → xs = ns.map V.int
  | [], xs, h => h
  | n :: ns, xs, h => by
    obtain ⟨v, r, rfl, h2, h3⟩ := h
    rw [show v = V.int n from h2, RepAll.ints h3]
    rfl
theorem RepAll.of_ints : ∀ ns : List Int, RepAll K B (ns.map Dt.int) (ns.map V.int)
  | [] => rfl
  | n :: ns => ⟨_, _, rfl, rfl, RepAll.of_ints ns⟩
theorem RepAll.strs : ∀ {ns : List Str} {xs : List V}, RepAll K B (ns.map Dt.str) xs → xs = ns.map V.str
  | [], xs, h => h
  | n :: ns, xs, h => by
    obtain ⟨v, r, rfl, h2, h3⟩ := h
    rw [show v = V.str n from h2, RepAll.strs h3]
    rfl
theorem RepAll.of_strs : ∀ ns : List Str, RepAll K B (ns.map Dt.str) (ns.map V.str)
  | [] => rfl
  | n :: ns => ⟨_, _, rfl, rfl, RepAll.of_strs ns⟩
theorem RepAll.of_raws : ∀ xs : List V, RepAll K B (xs.map Dt.raw) xs
  | [] => rfl
  | x :: xs => ⟨_, _, rfl, rfl, RepAll.of_raws xs⟩

/-! ### growing -/
structure Gr (B H B' H' : Hp) : Prop where
  b : Same B B'
  h : Same H H'
  s : Same B' H'
  k : ∀ p, H p ≠ none → B' p = B p
theorem Gr.refl (e : Same B H) : Gr B H B H := ⟨Same.refl _, Same.refl _, e, fun _ _ => rfl⟩
theorem Gr.trans {B1 H1 B2 H2 : Hp} (a : Gr B H B1 H1) (b : Gr B1 H1 B2 H2) : Gr B H B2 H2 := by
  refine ⟨a.b.trans b.b, a.h.trans b.h, b.s, fun p hp => ?_⟩
  have h1 : H1 p ≠ none := by
    cases e : H p with
    | none => exact absurd e hp
    | some o => rw [a.h p o e]; simp
  rw [b.k p h1, a.k p hp]
theorem same_free {p : Addr} {o : HO} (e : Same B H) (h : H p = none) : Same B (upd H p o) := fun a u q => by
  rw [upd_ne (ne_of_none (e _ _ q) h)]
  exact e _ _ q
theorem same_new' {p : Addr} {o : HO} (h : H p = none) : Same H (upd H p o) := same_free (Same.refl H) h
/-- a new object, read from then on -/
theorem Gr.new {p : Addr} {o : HO} (e : Same B H) (h : H p = none) : Gr B H (upd B p o) (upd H p o) := by
  have hb : B p = none := e.free h
  refine ⟨same_new' hb, same_new' h, fun a u q => ?_, fun a ha => ?_⟩
  · by_cases x : a = p
    · subst x; rw [upd_same] at q ⊢; exact q
    · rw [upd_ne x] at q ⊢; exact e _ _ q
  · have x : a ≠ p := fun z => ha (z ▸ h)
    rw [upd_ne x]
/-- a new object that is not read as data -/
theorem Gr.newO {p : Addr} {o : HO} (e : Same B H) (h : H p = none) : Gr B H B (upd H p o) := ⟨Same.refl _, same_new' h, same_free e h, fun _ _ => rfl⟩

/-! ### the slots -/
def Sl (K : PySem.W.Frag) (B : Hp) (G : List (Option Dt)) (s : L2.St) : Prop := G.length = s.length ∧ ∀ (i : Nat) (d : Dt), G[i]? = some (some d) → ∃ v, s[i]? = some (some v) ∧ Rep K B d v
variable {G : List (Option Dt)} {s : L2.St}
theorem Sl.mono (h : Sl K B G s) (e : Same B B') : Sl K B' G s := ⟨h.1, fun i d q => by
  obtain ⟨v, a, b⟩ := h.2 i d q
  exact ⟨v, a, b.mono e⟩⟩
theorem Sl.set (h : Sl K B G s) {d : Dt} {v : V} (r : Rep K B d v) (i : Nat) : Sl K B (G.set i (some d)) (s.set i (some v)) := by
  refine ⟨by rw [List.length_set, List.length_set]; exact h.1, fun j e q => ?_⟩
  by_cases hj : i = j
  · subst hj
    by_cases hi : i < G.length
    · rw [List.getElem?_set_self hi] at q
      cases q
      exact ⟨v, by rw [List.getElem?_set_self (by rw [← h.1]; exact hi)], r⟩
    · rw [List.getElem?_eq_none (by rw [List.length_set]; omega)] at q
      cases q
  · rw [List.getElem?_set_ne hj] at q ⊢
    exact h.2 j e q
theorem Sl.weak {G' : List (Option Dt)} (h : Sl K B G s) (hl : G'.length = G.length) (w : ∀ (i : Nat) (d : Dt), G'[i]? = some (some d) → G[i]? = some (some d)) : Sl K B G' s := ⟨hl.trans h.1, fun i d q => h.2 i d (w i d q)⟩
theorem Sl.forget (h : Sl K B G s) (i : Nat) (x : Option V) : Sl K B (G.set i none) (s.set i x) := by
  refine ⟨by rw [List.length_set, List.length_set]; exact h.1, fun j e q => ?_⟩
  by_cases hj : i = j
  · subst hj
    by_cases hi : i < G.length
    · rw [List.getElem?_set_self hi] at q; cases q
    · rw [List.getElem?_eq_none (by rw [List.length_set]; omega)] at q; cases q
  · rw [List.getElem?_set_ne hj] at q ⊢
    exact h.2 j e q
theorem Sl.wipe (h : Sl K B G s) (i : Nat) : Sl K B (G.set i none) (wipe s [i]) := h.forget i none
end

/-! ### expressions run -/
structure RunE (X : Cx) (e : Expr) (Q : VK) (s : L2.St) (H : Hp) : Prop where
  run : ∀ (pins : List (Addr × Obj)) (sh : Shared), Inv X pins s H sh → wpAny (model X.prog X.w) X.A (eval e X.env) (EP X pins s Q) X.xe sh
structure RunT (X : Cx) (e : Expr) (Q : Bool → Hp → Prop) (s : L2.St) (H : Hp) : Prop where
  run : ∀ (pins : List (Addr × Obj)) (sh : Shared), Inv X pins s H sh → wpAny (model X.prog X.w) X.A (isTrue e X.env (eval e X.env)) (TP X pins s Q) X.xe sh
structure RunW (X : Cx) (e : Expr) (Q : Bool → Hp → Prop) (s : L2.St) (H : Hp) : Prop where
  run : ∀ (whole : Sem Value) (pins : List (Addr × Obj)) (sh : Shared), Inv X pins s H sh → wpAny (model X.prog X.w) X.A (isTrue e X.env whole) (TP X pins s Q) X.xe sh
structure RunA (X : Cx) (es : List Expr) (Q : List V → Hp → Prop) (s : L2.St) (H : Hp) : Prop where
  run : ∀ (pos : Pos) (pins : List (Addr × Obj)) (sh : Shared), Inv X pins s H sh → wpAny (model X.prog X.w) X.A (spliced (backTo pos (starEach es X.env))) (AP X pins s Q) X.xe sh
section
variable {X : Cx} {e : Expr} {es : List Expr} {s : L2.St} {H : Hp}
theorem pe_wk : PE X e (fun s H Q => RunE X e Q s H) := ⟨fun pins sh s H Q I h => h.run pins sh I⟩
theorem pt_wk : PT X e (fun s H Q => RunT X e Q s H) := ⟨fun pins sh s H Q I h => h.run pins sh I⟩
theorem pw_wk : PW X e (fun s H Q => RunW X e Q s H) := ⟨fun wh pins sh s H Q I h => h.run wh pins sh I⟩
theorem pa_wk : PA X es (fun s H Q => RunA X es Q s H) := ⟨fun pos pins sh s H Q I h => h.run pos pins sh I⟩
theorem run_e {te : TE} {Q : VK} (h : PE X e te) (q : te s H Q) : RunE X e Q s H := ⟨fun pins sh I => h.run pins sh s H Q I q⟩
theorem run_t {tt : TT} {Q : Bool → Hp → Prop} (h : PT X e tt) (q : tt s H Q) : RunT X e Q s H := ⟨fun pins sh I => h.run pins sh s H Q I q⟩
theorem run_w {tt : TT} {Q : Bool → Hp → Prop} (h : PW X e tt) (q : tt s H Q) : RunW X e Q s H := ⟨fun wh pins sh I => h.run wh pins sh s H Q I q⟩
theorem run_a {ta : TA} {Q : List V → Hp → Prop} (h : PA X es ta) (q : ta s H Q) : RunA X es Q s H := ⟨fun pos pins sh I => h.run pos pins sh s H Q I q⟩
end

/-- e gives data that R takes -/
def EVR (X : Cx) (G : List (Option Dt)) (e : Expr) (R : Dt → Prop) : Prop := ∀ (s : L2.St) (B H : Hp), Sl X.K B G s → Same B H → ∀ Q : VK, (∀ d v B' H', R d → Gr B H B' H' → Rep X.K B' d v → Q v H') → RunE X e Q s H
/-- e gives d -/
def EV (X : Cx) (G : List (Option Dt)) (e : Expr) (d : Dt) : Prop := ∀ (s : L2.St) (B H : Hp), Sl X.K B G s → Same B H → ∀ Q : VK, (∀ v B' H', Gr B H B' H' → Rep X.K B' d v → Q v H') → RunE X e Q s H
def EVs (X : Cx) (G : List (Option Dt)) (es : List Expr) (ds : List Dt) : Prop := ∀ (s : L2.St) (B H : Hp), Sl X.K B G s → Same B H → ∀ Q : List V → Hp → Prop, (∀ vs B' H', Gr B H B' H' → RepAll X.K B' ds vs → Q vs H') → RunA X es Q s H
def ET (X : Cx) (G : List (Option Dt)) (e : Expr) (b : Bool) : Prop := ∀ (s : L2.St) (B H : Hp), Sl X.K B G s → Same B H → ∀ Q : Bool → Hp → Prop, (∀ B' H', Gr B H B' H' → Q b H') → RunT X e Q s H
def EW (X : Cx) (G : List (Option Dt)) (e : Expr) (b : Bool) : Prop := ∀ (s : L2.St) (B H : Hp), Sl X.K B G s → Same B H → ∀ Q : Bool → Hp → Prop, (∀ B' H', Gr B H B' H' → Q b H') → RunW X e Q s H
section
variable {X : Cx} {G : List (Option Dt)} {a b e : Expr} {es : List Expr} {d d1 d2 : Dt} {ds : List Dt} {pos : Pos} {t u : Bool}
theorem ble_line {n : Nat} (h : Nat.ble n 1000 = true) : n ≤ sizeLine := Nat.le_trans (Nat.le_of_ble_eq_true h) (by decide)
theorem EV.r (h : EV X G e d) : EVR X G e (· = d) := fun s B H hs hb Q q => h s B H hs hb Q fun v B' H' g r => q d v B' H' rfl g r
theorem EV.to (h : EV X G e d1) (x : d1 = d) : EV X G e d := x ▸ h
theorem ET.to (h : ET X G e t) (x : t = u) : ET X G e u := x ▸ h
theorem ev_var {i : Nat} {x : Str} (h : G[i]? = some (some d)) (hN : X.N[i]? = some x) (hv : Vis X.env.scope x) (hd : (x == ("__debug__" : Str)) = false := by decide) (hcd : (x == ("__classdict__" : Str)) = false := by decide) : EV X G (.Name x pos) d :=
  fun s B H hs hb Q q => run_e (pe_var hN hv hd hcd) (by
    obtain ⟨v, h1, h2⟩ := hs.2 i d h
    exact ⟨v, h1, q v B H (.refl hb) h2⟩)
theorem ev_c {v : V} (h : PE X e (tC v)) (r : ∀ B, Rep X.K B d v) : EV X G e d := fun s B H hs hb Q q => run_e h (q v B H (.refl hb) (r B))
theorem ev_int {i : Int} {j : Nat} : EV X G (.Constant (.int i) j pos) (.int i) := ev_c pe_int fun _ => rfl
theorem ev_str {x : Str} {j : Nat} : EV X G (.Constant (.str x) j pos) (.str x) := ev_c pe_str fun _ => rfl
theorem ev_bl {x : Bool} {j : Nat} : EV X G (.Constant (.bool x) j pos) (.bl x) := ev_c pe_bl fun _ => rfl
theorem ev_non {j : Nat} : EV X G (.Constant .none j pos) .non := ev_c pe_non fun _ => rfl
theorem ev_glob {x : Str} {v : V} {u : Value} (hm : X.mg x = some u) (rv : RelV v u) (r : ∀ B, Rep X.K B d v) (hg : Gl X x) (hd : (x == ("__debug__" : Str)) = false := by decide) : EV X G (.Name x pos) d := ev_c (pe_glob hg hm rv hd) r
theorem evs_nil : EVs X G [] [] := fun s B H hs hb Q q => run_a pa_nil (q [] B H (.refl hb) rfl)
theorem evs_cons (ha : EV X G e d) (hr : EVs X G es ds) (hs : starEach (e :: es) X.env = (false, eval e X.env) :: starEach es X.env := by rfl) : EVs X G (e :: es) (d :: ds) :=
  fun s B H hsl hb Q q => run_a (pa_cons pe_wk pa_wk hs) (ha s B H hsl hb _ fun v B1 H1 g1 r1 => hr s B1 H1 (hsl.mono g1.b) g1.s _ fun vs B2 H2 g2 r2 => q _ B2 H2 (g1.trans g2) ⟨v, vs, rfl, r1.mono g2.b, r2⟩)
theorem ev_tup {k : Nat} (h : EVs X G es ds) (hl : Nat.ble ds.length 1000 = true := by rfl) : EV X G (.Tuple es k pos) (.tup ds) :=
  fun s B H hs hb Q q => run_e (pe_tup pa_wk) (h s B H hs hb _ fun vs B1 H1 g1 r1 => ⟨by rw [r1.length]; exact ble_line hl, fun p hp =>
    q _ _ _ (g1.trans (.new g1.s hp)) ⟨p, vs, rfl, .of upd_same, r1.mono (same_new' (g1.s.free hp))⟩⟩)
theorem ev_lst (h : EVs X G es ds) (hl : Nat.ble ds.length 1000 = true := by rfl) : EV X G (.List es pos) (.lst ds) :=
  fun s B H hs hb Q q => run_e (pe_lst pa_wk) (h s B H hs hb _ fun vs B1 H1 g1 r1 => ⟨by rw [r1.length]; exact ble_line hl, fun p hp =>
    q _ _ _ (g1.trans (.new g1.s hp)) ⟨p, vs, rfl, .of upd_same, r1.mono (same_new' (g1.s.free hp))⟩⟩)

/-! ### operators -/
def OpRun (X : Cx) (f : Value → Value → Sem Value) (x y : V) (Q : VK) (H : Hp) : Prop := ∀ (pins : List (Addr × Obj)) (sh : Shared) (s : L2.St) (v u : Value), Inv X pins s H sh → RelV x v → RelV y u → wpAny (model X.prog X.w) X.A (f v u) (EP X pins s Q) X.xe sh
theorem opr (f : Value → Value → Sem Value) : OpR X f (fun x y H Q => OpRun X f x y Q H) := fun pins sh s H x y v u Q I rx ry h => h pins sh s v u I rx ry
theorem OpR.go {f : Value → Value → Sem Value} {r : R2} (h : OpR X f r) {x y : V} {Q : VK} {H : Hp} (q : r x y H Q) : OpRun X f x y Q H := fun pins sh s v u I rx ry => h pins sh s H x y v u Q I rx ry q
def BinD (X : Cx) (f : Value → Value → Sem Value) (d1 d2 d : Dt) : Prop := ∀ (B H : Hp) (x y : V) (Q : VK), Same B H → Rep X.K B d1 x → Rep X.K B d2 y → (∀ v B' H', Gr B H B' H' → Rep X.K B' d v → Q v H') → OpRun X f x y Q H
theorem ev_bin {op : Operator} (ha : EV X G a d1) (hb : EV X G b d2) (hf : BinD X (binaryOp op) d1 d2 d) : EV X G (.BinOp a op b pos) d :=
  fun s B H hs e Q q => run_e (pe_op (opr _) pe_wk pe_wk) (ha s B H hs e _ fun x B1 H1 g1 r1 => hb s B1 H1 (hs.mono g1.b) g1.s _ fun y B2 H2 g2 r2 =>
    hf B2 H2 x y _ g2.s (r1.mono g2.b) r2 fun v B3 H3 g3 r3 => q v B3 H3 ((g1.trans g2).trans g3) r3)
theorem ev_cmp {op : CmpOp} (ha : EV X G a d1) (hb : EV X G b d2) (hf : BinD X (compareOp op) d1 d2 d) (hm : behindInMarks op b = false) : EV X G (.Compare a [op] [b] pos) d :=
  fun s B H hs e Q q => run_e (pe_cmpR (opr _) pe_wk pe_wk hm) (ha s B H hs e _ fun x B1 H1 g1 r1 => hb s B1 H1 (hs.mono g1.b) g1.s _ fun y B2 H2 g2 r2 =>
    hf B2 H2 x y _ g2.s (r1.mono g2.b) r2 fun v B3 H3 g3 r3 => q v B3 H3 ((g1.trans g2).trans g3) r3)
theorem et_cmp {op : CmpOp} (ha : EV X G a d1) (hb : EV X G b d2) (hf : BinD X (compareOp op) d1 d2 (.bl t)) (hm : behindInMarks op b = false) : ET X G (.Compare a [op] [b] pos) t :=
  fun s B H hs e Q q => run_t (pt_cmpR (opr _) pe_wk pe_wk hm) (ha s B H hs e _ fun x B1 H1 g1 r1 => hb s B1 H1 (hs.mono g1.b) g1.s _ fun y B2 H2 g2 r2 =>
    hf B2 H2 x y _ g2.s (r1.mono g2.b) r2 fun v B3 H3 g3 r3 => ⟨t, r3, q B3 H3 ((g1.trans g2).trans g3)⟩)
/-- an operator by its rule: the answer a value, nothing made -/
theorem bin_of {f : Value → Value → Sem Value} {r : R2} (h : OpR X f r) (q : ∀ (B H : Hp) (x y : V) (Q : VK), Same B H → Rep X.K B d1 x → Rep X.K B d2 y → (∀ v, Rep X.K B d v → Q v H) → r x y H Q) : BinD X f d1 d2 d :=
  fun B H x y Q e rx ry k => OpR.go h (q B H x y Q e rx ry fun v rv => k v B H (.refl e) rv)
theorem b_add {i j : Int} : BinD X (binaryOp .Add) (.int i) (.int j) (.int (i + j)) := bin_of op_add fun B H x y Q e rx ry k => ⟨i, j, rx, ry, k _ rfl⟩
theorem b_sub {i j : Int} : BinD X (binaryOp .Sub) (.int i) (.int j) (.int (i - j)) := bin_of op_sub fun B H x y Q e rx ry k => ⟨i, j, rx, ry, k _ rfl⟩
theorem b_mul {i j : Int} (h : CMul i j) : BinD X (binaryOp .Mult) (.int i) (.int j) (.int (i * j)) := bin_of op_mul fun B H x y Q e rx ry k => ⟨i, j, rx, ry, h, k _ rfl⟩
theorem b_fdiv {i j : Int} (h : CDiv i j) : BinD X (binaryOp .FloorDiv) (.int i) (.int j) (.int (i / j)) := bin_of op_fdiv fun B H x y Q e rx ry k => ⟨i, j, rx, ry, h, k _ rfl⟩
theorem b_mod {i j : Int} (h : 0 < j) : BinD X (binaryOp .Mod) (.int i) (.int j) (.int (i % j)) := bin_of op_mod fun B H x y Q e rx ry k => ⟨i, j, rx, ry, h, k _ rfl⟩
theorem b_pow {i j : Int} (h : CPow i j) : BinD X (binaryOp .Pow) (.int i) (.int j) (.int (i ^ j.toNat)) := bin_of op_pow fun B H x y Q e rx ry k => ⟨i, j, rx, ry, h, k _ rfl⟩
theorem b_addS {i j : Str} (h : i.length + j.length ≤ sizeLine) : BinD X (binaryOp .Add) (.str i) (.str j) (.str (i ++ j)) := bin_of op_add_str fun B H x y Q e rx ry k => ⟨i, j, rx, ry, h, k _ rfl⟩
theorem b_lt {i j : Int} : BinD X (compareOp .Lt) (.int i) (.int j) (.bl (decide (i < j))) := bin_of op_lt fun B H x y Q e rx ry k => ⟨i, j, rx, ry, k _ rfl⟩
theorem b_le {i j : Int} : BinD X (compareOp .LtE) (.int i) (.int j) (.bl (decide (i ≤ j))) := bin_of op_le fun B H x y Q e rx ry k => ⟨i, j, rx, ry, k _ rfl⟩
theorem b_gt {i j : Int} : BinD X (compareOp .Gt) (.int i) (.int j) (.bl (decide (j < i))) := bin_of op_gt fun B H x y Q e rx ry k => ⟨i, j, rx, ry, k _ rfl⟩
theorem b_ge {i j : Int} : BinD X (compareOp .GtE) (.int i) (.int j) (.bl (decide (j ≤ i))) := bin_of op_ge fun B H x y Q e rx ry k => ⟨i, j, rx, ry, k _ rfl⟩
theorem b_eqI {i j : Int} : BinD X (compareOp .Eq) (.int i) (.int j) (.bl (decide (i = j))) := bin_of op_eq fun B H x y Q e rx ry k => by
  rw [show x = V.int i from rx, show y = V.int j from ry]
  exact ⟨rfl, by rw [dec_int, Bool.beq_eq_decide_eq]; exact k _ rfl⟩
theorem b_neI {i j : Int} : BinD X (compareOp .NotEq) (.int i) (.int j) (.bl (!decide (i = j))) := bin_of op_ne fun B H x y Q e rx ry k => by
  rw [show x = V.int i from rx, show y = V.int j from ry]
  exact ⟨rfl, by rw [dec_int, Bool.beq_eq_decide_eq]; exact k _ rfl⟩
theorem b_eqS {i j : Str} : BinD X (compareOp .Eq) (.str i) (.str j) (.bl (i == j)) := bin_of op_eq fun B H x y Q e rx ry k => by
  rw [show x = V.str i from rx, show y = V.str j from ry]
  exact ⟨rfl, by rw [dec_str]; exact k _ rfl⟩
theorem b_neS {i j : Str} : BinD X (compareOp .NotEq) (.str i) (.str j) (.bl (!(i == j))) := bin_of op_ne fun B H x y Q e rx ry k => by
  rw [show x = V.str i from rx, show y = V.str j from ry]
  exact ⟨rfl, by rw [dec_str]; exact k _ rfl⟩
theorem b_eqB {i j : Bool} : BinD X (compareOp .Eq) (.bl i) (.bl j) (.bl (i == j)) := bin_of op_eq fun B H x y Q e rx ry k => by
  rw [show x = V.bl i from rx, show y = V.bl j from ry]
  exact ⟨rfl, by rw [dec_bl]; exact k _ rfl⟩
theorem b_neB {i j : Bool} : BinD X (compareOp .NotEq) (.bl i) (.bl j) (.bl (!(i == j))) := bin_of op_ne fun B H x y Q e rx ry k => by
  rw [show x = V.bl i from rx, show y = V.bl j from ry]
  exact ⟨rfl, by rw [dec_bl]; exact k _ rfl⟩
/-- one sign in a text -/
theorem b_in {c : Nat} {z : Str} : BinD X (compareOp .In) (.str ⟨#[c]⟩) (.str z) (.bl (decide (c ∈ z.cps.toList))) := bin_of op_in_sign fun B H x y Q e rx ry k => ⟨c, z, rx, ry, k _ rfl⟩
theorem b_notin {c : Nat} {z : Str} : BinD X (compareOp .NotIn) (.str ⟨#[c]⟩) (.str z) (.bl (!decide (c ∈ z.cps.toList))) := bin_of op_notIn_sign fun B H x y Q e rx ry k => ⟨c, z, rx, ry, k _ rfl⟩
def isNon : Dt → Bool
  | .non => true
  | .raw .non => true
  | _ => false
theorem non_dec {K : PySem.W.Frag} {B : Hp} {d : Dt} {v : V} (h : Rep K B d v) : decide (v = .non) = isNon d := by
  cases d with
  | non => rw [show v = .non from h]; rfl
  | bl b => rw [show v = .bl b from h]; rfl
  | int i => rw [show v = .int i from h]; rfl
  | str i => rw [show v = .str i from h]; rfl
  | raw x =>
    rw [show v = x from h]
    cases x <;> rfl
  | lst l => obtain ⟨a, _, rfl, _⟩ := h; rfl
  | tup l => obtain ⟨a, _, rfl, _⟩ := h; rfl
  | ins C n l => obtain ⟨a, _, _, rfl, _⟩ := h; rfl
  | dic P w kvs => obtain ⟨a, _, rfl, _⟩ := h; rfl
theorem b_isN : BinD X (compareOp .Is) d .non (.bl (isNon d)) := bin_of op_isN fun B H x y Q e rx ry k => ⟨ry, by rw [non_dec rx]; exact k _ rfl⟩
theorem b_notN : BinD X (compareOp .IsNot) d .non (.bl (!isNon d)) := bin_of op_notN fun B H x y Q e rx ry k => ⟨ry, by rw [non_dec rx]; exact k _ rfl⟩

/-! ### subscripts -/
def IxRun (X : Cx) (x y : V) (Q : VK) (H : Hp) : Prop := ∀ (pins : List (Addr × Obj)) (sh : Shared) (s : L2.St) (v u : Value), Inv X pins s H sh → RelV x v → RelV y u → wpAny (model X.prog X.w) X.A (getItem v u) (EP X pins s Q) X.xe sh
def IxD (X : Cx) (d1 d2 d : Dt) : Prop := ∀ (B H : Hp) (x y : V), Same B H → Rep X.K B d1 x → Rep X.K B d2 y → ∃ v, Rep X.K B d v ∧ ∀ Q : VK, Q v H → rIx X.K x y H Q
theorem ev_ix (ha : EV X G a d1) (hb : EV X G b d2) (hf : IxD X d1 d2 d) (hs : PlainIx b) : EV X G (.Subscript a b pos) d :=
  fun s B H hsl e Q q => run_e (pe_ix ix_seq pe_wk pe_wk hs) (ha s B H hsl e _ fun x B1 H1 g1 r1 => hb s B1 H1 (hsl.mono g1.b) g1.s _ fun y B2 H2 g2 r2 => by
    obtain ⟨v, rv, k⟩ := hf B2 H2 x y g2.s (r1.mono g2.b) r2
    exact k _ (q v B2 H2 (g1.trans g2) rv))
theorem ix_l {l : List Dt} {i : Int} (h : atI l i = some d) : IxD X (.lst l) (.int i) d := fun B H x y e rx ry => by
  obtain ⟨a, xs, rfl, h1, h2⟩ := rx
  obtain ⟨j, hj, hd⟩ := Option.bind_eq_some_iff.mp h
  obtain ⟨v, hv, rv⟩ := h2.get hd
  refine ⟨v, rv, fun Q q => .inl ⟨a, xs, i, v, rfl, ry, e.seq h1, ?_, q⟩⟩
  show (ixN xs.length i).bind _ = _
  rw [h2.length, hj]
  exact hv
theorem ix_t {l : List Dt} {i : Int} (h : atI l i = some d) : IxD X (.tup l) (.int i) d := fun B H x y e rx ry => by
  obtain ⟨a, xs, rfl, h1, h2⟩ := rx
  obtain ⟨j, hj, hd⟩ := Option.bind_eq_some_iff.mp h
  obtain ⟨v, hv, rv⟩ := h2.get hd
  refine ⟨v, rv, fun Q q => .inr (.inl ⟨a, xs, i, v, rfl, ry, sqT_mono e h1, ?_, q⟩)⟩
  show (ixN xs.length i).bind _ = _
  rw [h2.length, hj]
  exact hv
theorem ix_s {z : Str} {i : Int} {c : Nat} (hl : z.length ≤ sizeLine) (h : atI z.cps.toList i = some c) : IxD X (.str z) (.int i) (.str ⟨#[c]⟩) := fun B H x y e rx ry =>
  ⟨_, rfl, fun Q q => .inr (.inr ⟨z, i, c, rx, ry, hl, h, q⟩)⟩
/-- a slice -/
def SlD (X : Cx) (d1 : Dt) (lo hi : Option Int) (d : Dt) : Prop := ∀ (B H : Hp) (x : V) (Q : VK), Same B H → Rep X.K B d1 x → (∀ v B' H', Gr B H B' H' → Rep X.K B' d v → Q v H') → (rSlL X.K x lo hi H Q ∨ rSlS x lo hi H Q)
def EO (X : Cx) (G : List (Option Dt)) (e : Option Expr) (o : Option Int) : Prop := match e with
  | none => o = none
  | some e => ∃ i, o = some i ∧ EV X G e (.int i)
theorem ev_slice {lo hi : Option Expr} {l u : Option Int} {p2 : Pos} (ha : EV X G a d1) (hl : EO X G lo l) (hu : EO X G hi u) (hf : SlD X d1 l u d) : EV X G (.Subscript a (.Slice lo hi none p2) pos) d := by
  intro s B H hs e Q q
  have key : ∀ x B1 H1, Gr B H B1 H1 → Rep X.K B1 d1 x → ∀ B3 H3, Gr B1 H1 B3 H3 → (rSlL X.K x l u H3 Q ∨ rSlS x l u H3 Q) := fun x B1 H1 g1 r1 B3 H3 g3 =>
    hf B3 H3 x Q g3.s (r1.mono g3.b) fun v B4 H4 g4 r4 => q v B4 H4 ((g1.trans g3).trans g4) r4
  cases lo with
  | none =>
    cases hl
    cases hi with
    | none =>
      cases hu
      exact run_e (pe_slice (sl_list.or sl_str) pe_wk po_none po_none) (ha s B H hs e _ fun x B1 H1 g1 r1 => key x B1 H1 g1 r1 B1 H1 (.refl g1.s))
    | some hi =>
      obtain ⟨j, rfl, hj⟩ := hu
      exact run_e (pe_slice (sl_list.or sl_str) pe_wk po_none (po_some pe_wk)) (ha s B H hs e _ fun x B1 H1 g1 r1 => hj s B1 H1 (hs.mono g1.b) g1.s _ fun v B2 H2 g2 r2 => ⟨j, r2, key x B1 H1 g1 r1 B2 H2 g2⟩)
  | some lo =>
    obtain ⟨i, rfl, hi'⟩ := hl
    cases hi with
    | none =>
      cases hu
      exact run_e (pe_slice (sl_list.or sl_str) pe_wk (po_some pe_wk) po_none) (ha s B H hs e _ fun x B1 H1 g1 r1 => hi' s B1 H1 (hs.mono g1.b) g1.s _ fun v B2 H2 g2 r2 => ⟨i, r2, key x B1 H1 g1 r1 B2 H2 g2⟩)
    | some hi =>
      obtain ⟨j, rfl, hj⟩ := hu
      exact run_e (pe_slice (sl_list.or sl_str) pe_wk (po_some pe_wk) (po_some pe_wk)) (ha s B H hs e _ fun x B1 H1 g1 r1 => hi' s B1 H1 (hs.mono g1.b) g1.s _ fun v B2 H2 g2 r2 => ⟨i, r2,
        hj s B2 H2 (hs.mono (g1.trans g2).b) g2.s _ fun v3 B3 H3 g3 r3 => ⟨j, r3, key x B1 H1 g1 r1 B3 H3 (g2.trans g3)⟩⟩)
def cutD (xs : List Dt) (lo hi : Option Int) : List Dt := (xs.drop (HT.sIx xs.length 0 lo)).take (HT.sIx xs.length xs.length hi - HT.sIx xs.length 0 lo)
theorem sl_l {l : List Dt} {lo hi : Option Int} : SlD X (.lst l) lo hi (.lst (cutD l lo hi)) := fun B H x Q e rx k => by
  obtain ⟨a, xs, rfl, h1, h2⟩ := rx
  refine .inl ⟨a, xs, rfl, e.seq h1, fun p hp => k _ _ _ (.new e hp) ⟨p, _, rfl, .of upd_same, ?_⟩⟩
  have : RepAll X.K B (cutD l lo hi) (cutV xs lo hi) := by
    unfold cutD cutV
    rw [h2.length]
    exact (h2.drop _).take _
  exact this.mono (same_new' (e.free hp))
theorem sl_s {z : Str} {lo hi : Option Int} (h : z.length ≤ sizeLine) : SlD X (.str z) lo hi (.str (cutS z lo hi)) := fun B H x Q e rx k => .inr ⟨z, rx, h, k _ B H (.refl e) rfl⟩

/-! ### fields -/
theorem rep_look {K : PySem.W.Frag} {B : Hp} {f : Str} {d : Dt} : ∀ {ns : List Str} {vs : List Dt} {xs : List V}, RepAll K B vs xs → (ns.zip vs).lookup f = some d → ∃ x, (ns.zip xs).lookup f = some x ∧ Rep K B d x
  | [], vs, xs, _, e => by simp at e
  | n :: ns, [], xs, _, e => by simp at e
  | n :: ns, v :: vs, xs, h, e => by
    obtain ⟨x, r, rfl, h2, h3⟩ := h
    rw [List.zip_cons_cons] at e ⊢
    rw [List.lookup_cons] at e ⊢
    cases q : f == n with
    | true => rw [q] at e; cases e; exact ⟨x, rfl, h2⟩
    | false => rw [q] at e; exact rep_look h3 e
theorem rep_nolook {f : Str} : ∀ {ns : List Str} (xs : List V), ns.all (fun n => !(f == n)) = true → (ns.zip xs).lookup f = none
  | [], xs, _ => by simp
  | n :: ns, [], _ => by simp
  | n :: ns, x :: xs, h => by
    rw [List.all_cons, Bool.and_eq_true] at h
    rw [List.zip_cons_cons, List.lookup_cons]
    have q : (f == n) = false := by simpa using h.1
    rw [q]
    exact rep_nolook xs h.2
theorem ev_fld {C : Addr} {ns : List Str} {vs : List Dt} {f : Str} (ha : EV X G a (.ins C ns vs)) (hc : Cls X.K C) (hn : NoAttr X.K C f) (hl : (ns.zip vs).lookup f = some d) (hb : attributeBase a f X.env (eval a X.env) = eval a X.env := by rfl) : EV X G (.Attribute a f pos) d :=
  fun s B H hs e Q q => run_e (pe_fld pe_wk hb) (ha s B H hs e _ fun x B1 H1 g1 r1 => by
    obtain ⟨p, dx, xs, rfl, h1, h2⟩ := r1
    obtain ⟨y, hy, ry⟩ := rep_look h2 hl
    exact ⟨p, C, dx, _, y, rfl, g1.s _ _ h1, hc, hn, hy, q y B1 H1 g1 ry⟩)

/-! ### tests -/
theorem et_val (h : EV X G e (.bl t)) (he : ∀ whole, isTrue e X.env whole = (do let v ← whole; standAt e.pos; holding [v] (truthy v)) := by intro _; rfl) : ET X G e t :=
  fun s B H hs hb Q q => run_t (pt_val pe_wk he) (h s B H hs hb _ fun v B1 H1 g1 r1 => ⟨t, r1, q B1 H1 g1⟩)
theorem EW.pt (h : EW X G e t) : ET X G e t := fun s B H hs hb Q q => ⟨fun pins sh I => (h s B H hs hb Q q).run _ pins sh I⟩
theorem et_not (h : ET X G a t) : ET X G (.UnaryOp .Not a pos) (!t) := fun s B H hs hb Q q => run_t (pt_not pt_wk) (h s B H hs hb _ q)
theorem ew_and1 (h : ET X G a t) : EW X G (.BoolOp .And [a] pos) t := fun s B H hs hb Q q => run_w (pw_and1 pt_wk) (h s B H hs hb _ q)
theorem ew_or1 (h : ET X G a t) : EW X G (.BoolOp .Or [a] pos) t := fun s B H hs hb Q q => run_w (pw_or1 pt_wk) (h s B H hs hb _ q)
theorem ew_and {rest : List Expr} (h : ET X G a t) (hr : t = true → EW X G (.BoolOp .And (b :: rest) pos) u) : EW X G (.BoolOp .And (a :: b :: rest) pos) (t && u) :=
  fun s B H hs hb Q q => run_w (pw_and pt_wk pw_wk) (h s B H hs hb _ fun B1 H1 g1 => by
    cases t with
    | true => exact hr rfl s B1 H1 (hs.mono g1.b) g1.s _ fun B2 H2 g2 => q B2 H2 (g1.trans g2)
    | false => exact q B1 H1 g1)
theorem ew_or {rest : List Expr} (h : ET X G a t) (hr : t = false → EW X G (.BoolOp .Or (b :: rest) pos) u) : EW X G (.BoolOp .Or (a :: b :: rest) pos) (t || u) :=
  fun s B H hs hb Q q => run_w (pw_or pt_wk pw_wk) (h s B H hs hb _ fun B1 H1 g1 => by
    cases t with
    | false => exact hr rfl s B1 H1 (hs.mono g1.b) g1.s _ fun B2 H2 g2 => q B2 H2 (g1.trans g2)
    | true => exact q B1 H1 g1)
/-- values: and, or, not of truths -/
theorem ev_one {op : BoolOp} (h : EV X G a d) : EV X G (.BoolOp op [a] pos) d := fun s B H hs hb Q q => run_e (pe_one pe_wk) (h s B H hs hb _ q)
theorem ev_and {rest : List Expr} (h : EV X G a (.bl t)) (hr : t = true → EV X G (.BoolOp .And (b :: rest) pos) (.bl u)) : EV X G (.BoolOp .And (a :: b :: rest) pos) (.bl (t && u)) :=
  fun s B H hs hb Q q => run_e (pe_and pe_wk pe_wk) (h s B H hs hb _ fun v B1 H1 g1 r1 => ⟨t, r1, by
    cases t with
    | true => exact hr rfl s B1 H1 (hs.mono g1.b) g1.s _ fun v2 B2 H2 g2 r2 => q v2 B2 H2 (g1.trans g2) r2
    | false => exact q _ B1 H1 g1 rfl⟩)
theorem ev_or {rest : List Expr} (h : EV X G a (.bl t)) (hr : t = false → EV X G (.BoolOp .Or (b :: rest) pos) (.bl u)) : EV X G (.BoolOp .Or (a :: b :: rest) pos) (.bl (t || u)) :=
  fun s B H hs hb Q q => run_e (pe_or pe_wk pe_wk) (h s B H hs hb _ fun v B1 H1 g1 r1 => ⟨t, r1, by
    cases t with
    | false => exact hr rfl s B1 H1 (hs.mono g1.b) g1.s _ fun v2 B2 H2 g2 r2 => q v2 B2 H2 (g1.trans g2) r2
    | true => exact q _ B1 H1 g1 rfl⟩)
theorem ev_not (h : EV X G a (.bl t)) : EV X G (.UnaryOp .Not a pos) (.bl (!t)) := fun s B H hs hb Q q => run_e (pe_not pe_wk) (h s B H hs hb _ fun v B1 H1 g1 r1 => ⟨t, r1, q _ B1 H1 g1 rfl⟩)
end
end Dh
end SDhBase

section SDhStmt
set_option Elab.async false
set_option linter.all false
set_option maxRecDepth 100000
set_option maxHeartbeats 2000000
/-! Calls, comprehensions, statements, loops, over data. -/
namespace Dh
open PySem PySem.Spec PyProof.Rows L2

/-! ### promises over data -/
/-- for each i that pre takes: called with the data args i (read in a part B of the heap), an answer that res takes, read in a part that grows from B alone -/
def spT (K : PySem.W.Frag) {T : Type} (args : T → List Dt) (pre : T → Prop) (res : T → Dt → Prop) : Sp := fun vs H Q _ => ∃ (i : T) (B : Hp), pre i ∧ Same B H ∧ RepAll K B (args i) vs ∧ ∀ d v B' H', res i d → Gr B H B' H' → Rep K B' d v → Q v H'
/-- __init__ of the class at C, its fields ns -/
def spMk (K : PySem.W.Frag) (C : Addr) (ns : List Str) {T : Type} (args : T → List Dt) (pre : T → Prop) (fl : T → List Dt) : Sp := fun vs H Q _ => ∃ (i : T) (B : Hp) (p dx : Addr) (ws : List V),
  vs = .ref p :: ws ∧ H p = some (.ins C dx []) ∧ B p = none ∧ pre i ∧ Same B H ∧ RepAll K B (args i) ws ∧
  ∀ xs B' H', Same B B' → (∀ q, H q ≠ none → B' q = B q) → Same B' H' → (∀ q o, q ≠ p → H q = some o → H' q = some o) → H' p = some (.ins C dx (ns.zip xs)) → RepAll K B' (fl i) xs → Q .non H'
def Cal (P : Program) (w : World) (K : PySem.W.Frag) (mg : Str → Option Value) (base : Heap) (k : Nat) (x : Str) (ps : List Str) (sp : Sp) : Prop :=
  ∃ (f : Addr) (fd : FuncData), FnOk P w K mg base CX0 k f fd ps sp ∧ mg x = some (.ref f) ∧ PySem.W.keepIn K (.ref f) = true ∧ Binds K fd ps []
def CalM (P : Program) (w : World) (K : PySem.W.Frag) (mg : Str → Option Value) (base : Heap) (k : Nat) (C : Addr) (m : Str) (ps : List Str) (sp : Sp) : Prop :=
  ∃ (f : Addr) (fd : FuncData), FnOk P w K mg base CX0 k f fd ps sp ∧ Meth K C m f ∧ Binds K fd ps []
def CalC (P : Program) (w : World) (K : PySem.W.Frag) (mg : Str → Option Value) (base : Heap) (k : Nat) (x : Str) (C : Addr) (ps : List Str) (sp : Sp) : Prop :=
  ∃ (f : Addr) (fd : FuncData), FnOk P w K mg base CX0 k f fd ps sp ∧ mg x = some (.ref C) ∧ Mk K C f ∧ Binds K fd ps []
section
variable {X : Cx} {G : List (Option Dt)} {a b e o : Expr} {es : List Expr} {d d1 d2 : Dt} {ds : List Dt} {pos p : Pos} {t u : Bool} {x m : Str} {k : Nat} {ps : List Str} {T : Type} {args fl : T → List Dt} {pre : T → Prop} {res : T → Dt → Prop} {C : Addr} {ns : List Str} {vs : List Dt}
theorem ev_callR (F : Cal X.prog X.w X.K X.mg X.base k x ps (spT X.K args pre res)) (hr : Room k X.A) (ha : EVs X G (e :: es) ds) (i : T) (hi : ds = args i) (hp : pre i) (hg : Gl X x)
    (hdb : (x == ("__debug__" : Str)) = false := by decide) (he : starEach (e :: es) X.env = (false, eval e X.env) :: starEach es X.env := by rfl) (hpl : (backTo pos (starEach es X.env)).any (·.1) = false := by rfl) :
    EVR X G (.Call (.Name x p) (e :: es) [] pos) (res i) := by
  intro s B H hs hb Q q
  obtain ⟨f, fd, F, hm, hk, hB⟩ := F
  refine run_e (pe_call F hr hg hm hk hB .nil pass0 pa_wk hdb he hpl) (ha s B H hs hb _ fun vs B1 H1 g1 r1 => ?_)
  rw [List.append_nil]
  exact ⟨i, B1, hp, g1.s, hi ▸ r1, fun d v B2 H2 hd g2 r2 => q d v B2 H2 hd (g1.trans g2) r2⟩
theorem ev_call {r : T → Dt} (F : Cal X.prog X.w X.K X.mg X.base k x ps (spT X.K args pre fun i d => d = r i)) (hr : Room k X.A) (ha : EVs X G (e :: es) ds) (i : T) (hi : ds = args i) (hd : r i = d) (hp : pre i) (hg : Gl X x)
    (hdb : (x == ("__debug__" : Str)) = false := by decide) (he : starEach (e :: es) X.env = (false, eval e X.env) :: starEach es X.env := by rfl) (hpl : (backTo pos (starEach es X.env)).any (·.1) = false := by rfl) :
    EV X G (.Call (.Name x p) (e :: es) [] pos) d := fun s B H hs hb Q q => ev_callR F hr ha i hi hp hg hdb he hpl s B H hs hb Q fun d' v B' H' hd' g rv => q v B' H' g (hd ▸ hd' ▸ rv)
theorem ev_methR {apos : Pos} {pl : Sem Bool} (F : CalM X.prog X.w X.K X.mg X.base k C m ps (spT X.K args pre res)) (hr : Room k X.A) (ho : EV X G o (.ins C ns vs)) (hc : Cls X.K C) (hno : ns.all (fun n => !(m == n)) = true)
    (ha : EVs X G (e :: es) ds) (i : T) (hi : .ins C ns vs :: ds = args i) (hp : pre i)
    (hst : starEach (e :: es) X.env = (false, eval e X.env) :: starEach es X.env := by rfl) (hpl : (backTo pos (starEach es X.env)).any (·.1) = false := by rfl)
    (ht : eval (.Call (.Attribute o m apos) (e :: es) [] pos) X.env = (do
      let ov ← eval o X.env
      standAt apos.atName
      let (f, first) ← holding [ov] (getMethod ov m pl)
      callWith pos f first (backTo pos (starEach (e :: es) X.env)) (backToKw pos (keywordEach [] X.env))) := by rfl) :
    EVR X G (.Call (.Attribute o m apos) (e :: es) [] pos) (res i) := by
  intro s B H hs hb Q q
  obtain ⟨f, fd, F, hm, hB⟩ := F
  refine run_e (pe_meth pe_wk hc hm F hr hB .nil pass0 pa_wk hst hpl ht) (ho s B H hs hb _ fun v B1 H1 g1 r1 => ?_)
  obtain ⟨z, dx, xs, rfl, h1, h2⟩ := id r1
  refine ⟨z, dx, _, rfl, g1.s _ _ h1, rep_nolook xs hno, ha s B1 H1 (hs.mono g1.b) g1.s _ fun ws B2 H2 g2 r2 => ?_⟩
  rw [List.append_nil]
  exact ⟨i, B2, hp, g2.s, hi ▸ ⟨_, ws, rfl, r1.mono g2.b, r2⟩, fun d v B3 H3 hd g3 r3 => q d v B3 H3 hd ((g1.trans g2).trans g3) r3⟩
theorem ev_meth {apos : Pos} {pl : Sem Bool} {r : T → Dt} (F : CalM X.prog X.w X.K X.mg X.base k C m ps (spT X.K args pre fun i d => d = r i)) (hr : Room k X.A) (ho : EV X G o (.ins C ns vs)) (hc : Cls X.K C) (hno : ns.all (fun n => !(m == n)) = true)
    (ha : EVs X G (e :: es) ds) (i : T) (hi : .ins C ns vs :: ds = args i) (hd : r i = d) (hp : pre i)
    (hst : starEach (e :: es) X.env = (false, eval e X.env) :: starEach es X.env := by rfl) (hpl : (backTo pos (starEach es X.env)).any (·.1) = false := by rfl)
    (ht : eval (.Call (.Attribute o m apos) (e :: es) [] pos) X.env = (do
      let ov ← eval o X.env
      standAt apos.atName
      let (f, first) ← holding [ov] (getMethod ov m pl)
      callWith pos f first (backTo pos (starEach (e :: es) X.env)) (backToKw pos (keywordEach [] X.env))) := by rfl) :
    EV X G (.Call (.Attribute o m apos) (e :: es) [] pos) d := fun s B H hs hb Q q => ev_methR F hr ho hc hno ha i hi hp hst hpl ht s B H hs hb Q fun d' v B' H' hd' g rv => q v B' H' g (hd ▸ hd' ▸ rv)
theorem ev_meth0 {apos : Pos} {pl : Sem Bool} {r : T → Dt} (F : CalM X.prog X.w X.K X.mg X.base k C m ps (spT X.K args pre fun i d => d = r i)) (hr : Room k X.A) (ho : EV X G o (.ins C ns vs)) (hc : Cls X.K C) (hno : ns.all (fun n => !(m == n)) = true)
    (i : T) (hi : [.ins C ns vs] = args i) (hd : r i = d) (hp : pre i)
    (ht : eval (.Call (.Attribute o m apos) [] [] pos) X.env = (do
      let ov ← eval o X.env
      standAt apos.atName
      let (f, first) ← holding [ov] (getMethod ov m pl)
      callWith pos f first (backTo pos (starEach [] X.env)) (backToKw pos (keywordEach [] X.env))) := by rfl) :
    EV X G (.Call (.Attribute o m apos) [] [] pos) d := by
  intro s B H hs hb Q q
  obtain ⟨f, fd, F, hm, hB⟩ := F
  refine run_e (pe_meth0 pe_wk hc hm F hr hB .nil pass0 ht) (ho s B H hs hb _ fun v B1 H1 g1 r1 => ?_)
  obtain ⟨z, dx, xs, rfl, h1, h2⟩ := id r1
  refine ⟨z, dx, _, rfl, g1.s _ _ h1, rep_nolook xs hno, ?_⟩
  show spT X.K args pre (fun i d => d = r i) (.ref z :: ([] ++ [])) H1 Q E0
  exact ⟨i, B1, hp, g1.s, hi ▸ ⟨_, [], rfl, r1, rfl⟩, fun d' v B3 H3 hd' g3 r3 => q v B3 H3 (g1.trans g3) (hd ▸ hd' ▸ r3)⟩
theorem ev_make (F : CalC X.prog X.w X.K X.mg X.base k x C ps (spMk X.K C ns args pre fl)) (hr : Room (k + 1) X.A) (ha : EVs X G (e :: es) ds) (i : T) (hi : ds = args i) (hv : fl i = vs) (hp : pre i) (hg : Gl X x)
    (hdb : (x == ("__debug__" : Str)) = false := by decide) (he : starEach (e :: es) X.env = (false, eval e X.env) :: starEach es X.env := by rfl) (hpl : (backTo pos (starEach es X.env)).any (·.1) = false := by rfl) :
    EV X G (.Call (.Name x p) (e :: es) [] pos) (.ins C ns vs) := by
  subst hv
  intro s B H hs hb Q q
  obtain ⟨f, fd, F, hm, M, hB⟩ := F
  refine run_e (pe_make M F hr hg hm hB .nil pass0 pa_wk hdb he hpl) (ha s B H hs hb _ fun vs B1 H1 g1 r1 => ?_)
  intro z dx hz hdx hne
  rw [List.append_nil]
  have bz : B1 z = none := g1.s.free hz
  have bd : B1 dx = none := g1.s.free hdx
  have h2 : ∀ q o, H1 q = some o → (upd (upd H1 dx (.own z)) z (.ins C dx [])) q = some o := fun q o e => by
    rw [upd_ne (ne_of_none e hz), upd_ne (ne_of_none e hdx)]; exact e
  refine ⟨i, B1, z, dx, vs, rfl, upd_same, bz, hp, g1.s.trans h2, hi ▸ r1, fun xs B' H' e1 e2 e3 e4 e5 e6 => ⟨rfl, ?_⟩⟩
  have b'z : B' z = none := by rw [e2 z (by rw [upd_same]; simp)]; exact bz
  refine q _ (upd B' z (.ins C dx (ns.zip xs))) H' (g1.trans ⟨?_, ?_, ?_, ?_⟩) ⟨z, dx, xs, rfl, upd_same, e6.mono (same_new' b'z)⟩
  · exact e1.trans (same_new' b'z)
  · intro q o e
    exact e4 q o (ne_of_none e hz) (h2 q o e)
  · intro q o e
    by_cases hq : q = z
    · subst hq; rw [upd_same] at e; cases e; exact e5
    · rw [upd_ne hq] at e; exact e3 q o e
  · intro q hq
    have nq : q ≠ z := fun y => hq (y ▸ hz)
    rw [upd_ne nq]
    refine e2 q ?_
    cases y : H1 q with
    | none => exact absurd y hq
    | some o => rw [h2 q o y]; simp
/-! ### built-ins -/
def CallRun (X : Cx) (f : Value) (xs : List V) (Q : VK) (H : Hp) : Prop := ∀ (pins : List (Addr × Obj)) (sh : Shared) (s : L2.St) (us : List Value), Inv X pins s H sh → Vals xs us → wpAny (model X.prog X.w) X.A (call f us) (EP X pins s Q) X.xe sh
theorem callr (f : Value) : CallR X f (fun xs H Q => CallRun X f xs Q H) := fun pins sh s H xs us Q I r h => h pins sh s us I r
def CallD (X : Cx) (f : Value) (ds : List Dt) (d : Dt) : Prop := ∀ (B H : Hp) (xs : List V) (Q : VK), Same B H → RepAll X.K B ds xs → (∀ v B' H', Gr B H B' H' → Rep X.K B' d v → Q v H') → CallRun X f xs Q H
theorem call_of {f : Value} {r : List V → Hp → VK → Prop} (h : CallR X f r) (q : ∀ (B H : Hp) (xs : List V) (Q : VK), Same B H → RepAll X.K B ds xs → (∀ v B' H', Gr B H B' H' → Rep X.K B' d v → Q v H') → r xs H Q) : CallD X f ds d :=
  fun B H xs Q e rx k pins sh s us I ru => h pins sh s H xs us Q I ru (q B H xs Q e rx k)
theorem ev_callB {id : String} (hc : CallD X (.builtin id) ds d) (hg : Gl X x) (hm : X.mg x = none) (hv : bootBuiltins x = some (.builtin id)) (ha : EVs X G (e :: es) ds) (hn : x ≠ "__name__" := by decide) (hdb : (x == ("__debug__" : Str)) = false := by decide)
    (he : starEach (e :: es) X.env = (false, eval e X.env) :: starEach es X.env := by rfl) (hpl : (backTo pos (starEach es X.env)).any (·.1) = false := by rfl) : EV X G (.Call (.Name x p) (e :: es) [] pos) d :=
  fun s B H hs hb Q q => run_e (pe_callB (callr _) hg hm hv pa_wk hn hdb he hpl) (ha s B H hs hb _ fun vs B1 H1 g1 r1 => hc B1 H1 vs _ g1.s r1 fun v B2 H2 g2 r2 => q v B2 H2 (g1.trans g2) r2)
theorem ev_callTy {id : String} (hc : CallD X (.type id) ds d) (hg : Gl X x) (hm : X.mg x = none) (hv : bootBuiltins x = some (.type id)) (ha : EVs X G (e :: es) ds) (hn : x ≠ "__name__" := by decide) (hdb : (x == ("__debug__" : Str)) = false := by decide)
    (he : starEach (e :: es) X.env = (false, eval e X.env) :: starEach es X.env := by rfl) (hpl : (backTo pos (starEach es X.env)).any (·.1) = false := by rfl) : EV X G (.Call (.Name x p) (e :: es) [] pos) d :=
  fun s B H hs hb Q q => run_e (pe_callTy (callr _) hg hm hv pa_wk hn hdb he hpl) (ha s B H hs hb _ fun vs B1 H1 g1 r1 => hc B1 H1 vs _ g1.s r1 fun v B2 H2 g2 r2 => q v B2 H2 (g1.trans g2) r2)
theorem rep1 {K : PySem.W.Frag} {B : Hp} {d : Dt} {xs : List V} (h : RepAll K B [d] xs) : ∃ v, xs = [v] ∧ Rep K B d v := by
  obtain ⟨v, r, rfl, h2, h3⟩ := h
  rw [show r = [] from h3]
  exact ⟨v, rfl, h2⟩
theorem rep2 {K : PySem.W.Frag} {B : Hp} {d1 d2 : Dt} {xs : List V} (h : RepAll K B [d1, d2] xs) : ∃ v u, xs = [v, u] ∧ Rep K B d1 v ∧ Rep K B d2 u := by
  obtain ⟨v, r, rfl, h2, h3⟩ := h
  obtain ⟨u, rfl, h4⟩ := rep1 h3
  exact ⟨v, u, rfl, h2, h4⟩
theorem c_lenS {z : Str} (h : z.length ≤ sizeLine) : CallD X (.builtin "len") [.str z] (.int z.length) := call_of call_len fun B H xs Q e rx k => by
  obtain ⟨v, rfl, hv⟩ := rep1 rx
  exact ⟨v, z.length, rfl, by rw [show v = .str z from hv]; exact ⟨h, rfl⟩, k _ B H (.refl e) rfl⟩
theorem c_lenL {l : List Dt} : CallD X (.builtin "len") [.lst l] (.int l.length) := call_of call_len fun B H xs Q e rx k => by
  obtain ⟨v, rfl, a, ys, rfl, h1, h2⟩ := rep1 rx
  exact ⟨_, ys.length, rfl, .inl ⟨ys, e.seq h1, rfl⟩, k _ B H (.refl e) (by rw [h2.length]; rfl)⟩
theorem c_lenT {l : List Dt} : CallD X (.builtin "len") [.tup l] (.int l.length) := call_of call_len fun B H xs Q e rx k => by
  obtain ⟨v, rfl, a, ys, rfl, h1, h2⟩ := rep1 rx
  exact ⟨_, ys.length, rfl, .inr ⟨ys, sqT_mono e h1, rfl⟩, k _ B H (.refl e) (by rw [h2.length]; rfl)⟩
theorem c_max2 (hc : X.calm = true) {i j : Int} : CallD X (.builtin "max") [.int i, .int j] (.int (if j > i then j else i)) := call_of (call_max2 hc) fun B H xs Q e rx k => by
  obtain ⟨v, u, rfl, h1, h2⟩ := rep2 rx
  exact ⟨i, j, by rw [show v = .int i from h1, show u = .int j from h2], k _ B H (.refl e) rfl⟩
theorem c_intB {t : Bool} : CallD X (.type "int") [.bl t] (.int (if t then 1 else 0)) := call_of call_int1 fun B H xs Q e rx k => by
  obtain ⟨v, rfl, h1⟩ := rep1 rx
  exact .inr ⟨t, by rw [show v = .bl t from h1], k _ B H (.refl e) rfl⟩
theorem c_listL {l : List Dt} : CallD X (.type "list") [.lst l] (.lst l) := call_of call_list_of fun B H xs Q e rx k => by
  obtain ⟨v, rfl, a, ys, rfl, h1, h2⟩ := rep1 rx
  exact ⟨a, ys, rfl, .inl (e.seq h1), fun p hp => k _ _ _ (.new e hp) ⟨p, ys, rfl, .of upd_same, h2.mono (same_new' (e.free hp))⟩⟩
theorem c_listT {l : List Dt} : CallD X (.type "list") [.tup l] (.lst l) := call_of call_list_of fun B H xs Q e rx k => by
  obtain ⟨v, rfl, a, ys, rfl, h1, h2⟩ := rep1 rx
  exact ⟨a, ys, rfl, .inr (sqT_mono e h1), fun p hp => k _ _ _ (.new e hp) ⟨p, ys, rfl, .of upd_same, h2.mono (same_new' (e.free hp))⟩⟩
theorem c_tupL {l : List Dt} : CallD X (.type "tuple") [.lst l] (.tup l) := call_of call_tuple_of fun B H xs Q e rx k => by
  obtain ⟨v, rfl, a, ys, rfl, h1, h2⟩ := rep1 rx
  exact ⟨a, ys, rfl, .inl ⟨e.seq h1, fun p hp => k _ _ _ (.new e hp) ⟨p, ys, rfl, .of upd_same, h2.mono (same_new' (e.free hp))⟩⟩⟩
theorem c_maxL (hc : X.calm = true) {ns : List Int} (h0 : 0 < ns.length) {mx : Int} (hm : mx ∈ ns) (hx : ∀ y ∈ ns, y ≤ mx) : CallD X (.builtin "max") [.lst (ns.map .int)] (.int mx) := call_of (cr_max hc) fun B H xs Q e rx k => by
  obtain ⟨v, rfl, a, ys, rfl, h1, h2⟩ := rep1 rx
  rw [h2.ints] at h1
  refine ⟨a, ns, rfl, e.seq h1, h0, fun m' hm' hx' => k _ B H (.refl e) ?_⟩
  show V.int m' = V.int mx
  have := hx' mx hm
  have := hx m' hm'
  rw [show m' = mx by omega]
theorem c_all (hc : X.calm = true) {bs : List Bool} : CallD X (.builtin "all") [.lst (bs.map .bl)] (.bl (bs.all id)) := call_of (cr_all hc) fun B H xs Q e rx k => by
  obtain ⟨v, rfl, a, ys, rfl, h1, h2⟩ := rep1 rx
  have : ∀ (bs : List Bool) (ys : List V), RepAll X.K B (bs.map .bl) ys → ys = bs.map V.bl := by
    intro bs
    induction bs with
    | nil => intro ys h; exact h
    | cons b bs ih =>
      intro ys h
      obtain ⟨v, r, rfl, h2, h3⟩ := h
      rw [show v = V.bl b from h2, ih _ h3]
      rfl
  rw [this _ _ h2] at h1
  exact ⟨a, bs, rfl, e.seq h1, k _ B H (.refl e) rfl⟩
end

/-! ### targets -/
structure RunG (X : Cx) (tg : Expr) (v : V) (Q : L2.St → Hp → Prop) (s : L2.St) (H : Hp) : Prop where
  run : ∀ (pins : List (Addr × Obj)) (sh : Shared) (u : Value), Inv X pins s H sh → RelV v u → wpAny (model X.prog X.w) X.A (assign tg X.env u) (fun _ s' => ∃ σ' H', Inv X pins σ' H' s' ∧ Q σ' H') X.xe sh
theorem pg_wk {X : Cx} {tg : Expr} : L2.PG X tg (fun v s H Q => RunG X tg v Q s H) := ⟨fun pins sh s H v u Q I r h => h.run pins sh u I r⟩
theorem run_g {X : Cx} {tg : Expr} {g : TG} {v : V} {Q : L2.St → Hp → Prop} {s : L2.St} {H : Hp} (h : L2.PG X tg g) (q : g v s H Q) : RunG X tg v Q s H := ⟨fun pins sh u I r => h.run pins sh s H v u Q I r q⟩
/-- the target takes the datum d: the slots behind -/
def TGT (X : Cx) (G : List (Option Dt)) (tg : Expr) (d : Dt) (G' : List (Option Dt)) : Prop := ∀ (s : L2.St) (B H : Hp) (v : V), Sl X.K B G s → Same B H → Rep X.K B d v → ∀ Q : L2.St → Hp → Prop, (∀ s', Sl X.K B G' s' → Q s' H) → RunG X tg v Q s H
section
variable {X : Cx} {G G' G1 G2 : List (Option Dt)} {d d1 d2 : Dt} {ds : List Dt} {pos : Pos} {x : Str} {i : Nat}
theorem tgt_name (hN : X.N.Nodup) (hi : X.N[i]? = some x) (hx : Loc X.env.scope x) (hf : X.fn x = true ∨ X.env.scope.names.lookup x = some .local := by first | exact .inl rfl | exact .inr rfl | assumption) : TGT X G (.Name x pos) d (G.set i (some d)) :=
  fun s B H v hs hb r Q q => run_g (pg_name hN hi hx hf) (q _ (hs.set r i))
def TGTs (X : Cx) (G : List (Option Dt)) (ts : List Expr) (ds : List Dt) (G' : List (Option Dt)) : Prop := ∀ (s : L2.St) (B H : Hp) (vs : List V), Sl X.K B G s → Same B H → RepAll X.K B ds vs → ∀ Q : L2.St → Hp → Prop, (∀ s', Sl X.K B G' s' → Q s' H) →
  ∀ (pins : List (Addr × Obj)) (sh : Shared) (us : List Value), Inv X pins s H sh → Vals vs us → wpAny (model X.prog X.w) X.A (assignInOrder ((assignEach ts X.env).map (·.2)) us) (fun _ s' => ∃ σ' H', Inv X pins σ' H' s' ∧ Q σ' H') X.xe sh
theorem tgts_nil : TGTs X G [] [] G := fun s B H vs hs hb r Q q pins sh us I ru => pgs_nil.run pins sh s H vs us Q I ru ⟨r, q s hs⟩
theorem tgts_cons {e : Expr} {es : List Expr} (h1 : TGT X G e d G1) (h2 : TGTs X G1 es ds G2) (hs : (assignEach (e :: es) X.env).map (·.2) = assign e X.env :: (assignEach es X.env).map (·.2) := by rfl) : TGTs X G (e :: es) (d :: ds) G2 := by
  intro s B H vs hsl hb r Q q pins sh us I ru
  obtain ⟨v, w, rfl, r1, r2⟩ := r
  have wk : PGs X es (fun vs s H Q => ∀ (pins : List (Addr × Obj)) (sh : Shared) (us : List Value), Inv X pins s H sh → Vals vs us → wpAny (model X.prog X.w) X.A (assignInOrder ((assignEach es X.env).map (·.2)) us) (fun _ s' => ∃ σ' H', Inv X pins σ' H' s' ∧ Q σ' H') X.xe sh) := ⟨fun pins sh s H vs us Q I r h => h pins sh us I r⟩
  refine (pgs_cons pg_wk wk hs).run pins sh s H _ us Q I ru ⟨v, w, rfl, h1 s B H v hsl hb r1 _ fun s' hs' => ?_⟩
  exact h2 s' B H w hs' hb r2 Q q
theorem tgt_tup {es : List Expr} {k : Nat} (hc : X.calm = true) (h : TGTs X G es ds G') (hn : (assignEach es X.env).length = ds.length := by rfl) (hst : (assignEach es X.env).findIdx? (·.1) = none := by rfl) : TGT X G (.Tuple es k pos) (.tup ds) G' := by
  intro s B H v hs hb r Q q
  obtain ⟨a, xs, rfl, h1, h2⟩ := r
  have wk : PGs X es (fun vs s H Q => ∀ (pins : List (Addr × Obj)) (sh : Shared) (us : List Value), Inv X pins s H sh → Vals vs us → wpAny (model X.prog X.w) X.A (assignInOrder ((assignEach es X.env).map (·.2)) us) (fun _ s' => ∃ σ' H', Inv X pins σ' H' s' ∧ Q σ' H') X.xe sh) := ⟨fun pins sh s H vs us Q I r h => h pins sh us I r⟩
  exact run_g (pg_tup hc wk rfl hst) ⟨a, xs, rfl, sqT_mono hb h1, h2.length.trans hn.symm, h s B H xs hs hb h2 Q q⟩
end

/-! ### what is walked -/
structure RunI (X : Cx) (tg iter : Expr) (R : It → Hp → Prop) (s : L2.St) (H : Hp) : Prop where
  run : ∀ (pins : List (Addr × Obj)) (sh : Shared), Inv X pins s H sh → wpAny (model X.prog X.w) X.A (eval iter X.env) (fun v s1 => wpAny (model X.prog X.w) X.A (pyIter v) (PIE X pins s tg R) X.xe s1) X.xe sh
theorem pi_wk {X : Cx} {tg iter : Expr} : PI X tg iter (fun s H R => RunI X tg iter R s H) := ⟨fun pins sh s H R I h => h.run pins sh I⟩
theorem run_i {X : Cx} {tg iter : Expr} {wi : TI} {R : It → Hp → Prop} {s : L2.St} {H : Hp} (h : PI X tg iter wi) (q : wi s H R) : RunI X tg iter R s H := ⟨fun pins sh I => h.run pins sh s H R I q⟩
/-- what is given at turn i is the datum ds[i], read in a grown part -/
def YD (K : PySem.W.Frag) (B0 : Hp) (ds : List Dt) : Nat → Hp → V → Hp → Prop := fun i H x H' => ∀ B, Same B0 B → Same B H → ∃ d B', ds[i]? = some d ∧ Gr B H B' H' ∧ Rep K B' d x
/-- iter gives the data ds, one behind another -/
def PIt (X : Cx) (G : List (Option Dt)) (tg iter : Expr) (ds : List Dt) : Prop := ∀ (s : L2.St) (B H : Hp), Sl X.K B G s → Same B H → ∀ R : It → Hp → Prop,
  (∀ J Gd B' H', Gr B H B' H' → Walk J ds.length Gd (YD X.K B' ds) → (∀ H'', Same B' H'' → Gd H'') → R J H') → RunI X tg iter R s H
section
variable {X : Cx} {G : List (Option Dt)} {tg e : Expr} {ds : List Dt} {p pos : Pos}
theorem yd_same {K : PySem.W.Frag} {B0 : Hp} {ds : List Dt} {xs : List V} (r : RepAll K B0 ds xs) : ∀ i H x H', YAt xs i H x H' → YD K B0 ds i H x H' := fun i H x H' ⟨e, hx⟩ B hb hs => by
  subst e
  obtain ⟨d, hd, rd⟩ := r.getV hx
  exact ⟨d, B, hd, .refl hs, rd.mono hb⟩
theorem pit_list (h : EV X G e (.lst ds)) : PIt X G tg e ds := fun s B H hs hb R k => run_i (pi_list pe_wk) (h s B H hs hb _ fun v B1 H1 g1 r1 => by
  obtain ⟨a, xs, rfl, h1, h2⟩ := r1
  refine ⟨a, rfl, ⟨xs, g1.s.seq h1⟩, k _ (fun H => SqL X.K H a xs) B1 H1 g1 ?_ fun H'' e => e.seq h1⟩
  rw [← h2.length]
  exact walk_list.mono (fun _ h => h) fun i H x H' _ _ y => yd_same h2 i H x H' y)
theorem pit_tup (h : EV X G e (.tup ds)) : PIt X G tg e ds := fun s B H hs hb R k => run_i (pi_tup pe_wk) (h s B H hs hb _ fun v B1 H1 g1 r1 => by
  obtain ⟨a, xs, rfl, h1, h2⟩ := r1
  refine ⟨a, rfl, ⟨xs, sqT_mono g1.s h1⟩, k _ (fun H => SqT X.K H a xs) B1 H1 g1 ?_ fun H'' e => sqT_mono e h1⟩
  rw [← h2.length]
  exact walk_tup.mono (fun _ h => h) fun i H x H' _ _ y => yd_same h2 i H x H' y)
def signs (l : List Nat) : List Dt := l.map fun c => .str ⟨#[c]⟩
theorem pit_str {z : Str} (h : EV X G e (.str z)) : PIt X G tg e (signs z.cps.toList) := fun s B H hs hb R k => run_i (pi_str pe_wk) (h s B H hs hb _ fun v B1 H1 g1 r1 => by
  refine ⟨z, r1, k _ (fun _ => True) B1 H1 g1 ?_ fun _ _ => trivial⟩
  have : (signs z.cps.toList).length = z.cps.size := by simp [signs]
  rw [this]
  refine walk_str.mono (fun _ h => h) fun i H x H' _ _ y B hB hS => ?_
  obtain ⟨rfl, c, hc, rfl⟩ := y
  refine ⟨.str ⟨#[c]⟩, B, ?_, .refl hS, rfl⟩
  unfold signs
  rw [List.getElem?_map, Array.getElem?_toList, hc]
  rfl)
def rng (n : Nat) : List Dt := (List.range n).map fun i => .int (i : Nat)
theorem pit_range {n : Nat} (h : EV X G e (.int (n : Nat))) (hn : n < 2 ^ 62) (hg : Gl X "range") (hm : X.mg "range" = none) (hs : starEach [e] X.env = [(false, eval e X.env)] := by rfl) : PIt X G tg (.Call (.Name "range" p) [e] [] pos) (rng n) :=
  fun s B H hsl hb R k => run_i (pi_range1 hg hm pa_wk hs) (evs_cons h evs_nil hs s B H hsl hb _ fun vs B1 H1 g1 r1 => by
    obtain ⟨v, rfl, hv⟩ := rep1 r1
    refine ⟨n, by rw [show v = .int (n : Nat) from hv], by omega, by omega, k _ (fun _ => True) B1 H1 g1 ?_ fun _ _ => trivial⟩
    have : (rng n).length = n := by simp [rng]
    rw [this, show ((n : Nat) : Int).toNat = n by omega]
    refine walk_range.mono (fun _ h => h) fun i H x H' hi _ y B hB hS => ?_
    obtain ⟨rfl, rfl⟩ := y
    refine ⟨.int (i : Nat), B, ?_, .refl hS, ?_⟩
    · unfold rng
      rw [List.getElem?_map, List.getElem?_range hi]
      rfl
    · show V.int (0 + (i : Nat)) = V.int (i : Nat)
      rw [Int.zero_add])
def pairD (as bs : List Dt) : List Dt := List.zipWith (fun a b => .tup [a, b]) as bs
theorem pairD_get {as bs : List Dt} {i : Nat} {a b : Dt} (ha : as[i]? = some a) (hb : bs[i]? = some b) : (pairD as bs)[i]? = some (.tup [a, b]) := by
  unfold pairD
  rw [List.getElem?_zipWith, ha, hb]
theorem yd_pair {K : PySem.W.Frag} {B0 : Hp} {as bs : List Dt} {f g : Nat → Option V} (hf : ∀ i x, f i = some x → ∃ d, as[i]? = some d ∧ Rep K B0 d x) (hg : ∀ i x, g i = some x → ∃ d, bs[i]? = some d ∧ Rep K B0 d x) :
    ∀ i H v H', YPair f g i H v H' → YD K B0 (pairD as bs) i H v H' := fun i H v H' ⟨T, x, y, e1, hT, e2, hx, hy⟩ B hB hS => by
  subst e1 e2
  obtain ⟨d1, h1, r1⟩ := hf i x hx
  obtain ⟨d2, h2, r2⟩ := hg i y hy
  have nb := hS.free hT
  exact ⟨_, _, pairD_get h1 h2, .new hS hT, T, [x, y], rfl, .of upd_same, x, [y], rfl, (r1.mono hB).mono (same_new' nb), y, [], rfl, (r2.mono hB).mono (same_new' nb), rfl⟩
theorem pit_enum {elts : List Expr} {kk : Nat} {tpos : Pos} (h : EV X G e (.lst ds)) (hg : Gl X "enumerate") (hm : X.mg "enumerate" = none) (hs : starEach [e] X.env = [(false, eval e X.env)] := by rfl) :
    PIt X G (.Tuple elts kk tpos) (.Call (.Name "enumerate" p) [e] [] pos) (pairD (rng ds.length) ds) :=
  fun s B H hsl hb R k => run_i (pi_enum hg hm pa_wk hs) (evs_cons h evs_nil hs s B H hsl hb _ fun vs B1 H1 g1 r1 => by
    obtain ⟨v, rfl, a, xs, rfl, h1, h2⟩ := rep1 r1
    refine ⟨a, xs, rfl, g1.s.seq h1, k _ (fun H => SqL X.K H a xs) B1 H1 g1 ?_ fun H'' e => e.seq h1⟩
    have : (pairD (rng ds.length) ds).length = xs.length := by simp [pairD, rng, h2.length]
    rw [this]
    refine walk_enum.mono (fun _ h => h) fun i H x H' hi _ y => ?_
    have hi' : i < ds.length := by rw [← h2.length]; exact hi
    refine yd_pair (f := fun i => if i < ds.length then some (.int (i : Nat)) else none) (g := fun i => xs[i]?) (fun i x hx => ?_) (fun i x hx => h2.getV hx) i H x H' ?_
    · by_cases hl : i < ds.length
      · simp only [hl, if_true] at hx
        cases hx
        refine ⟨.int (i : Nat), ?_, rfl⟩
        unfold rng
        rw [List.getElem?_map, List.getElem?_range hl]
        rfl
      · simp only [hl, if_false] at hx
        cases hx
    · obtain ⟨T, x1, y1, e1, e2, e3, e4, e5⟩ := y
      exact ⟨T, x1, y1, e1, e2, e3, by simp only [hi', if_true]; exact e4, e5⟩)
theorem pit_zip {e2 : Expr} {as bs : List Dt} {elts : List Expr} {kk : Nat} {tpos : Pos} (h : EV X G e (.lst as)) (h' : EV X G e2 (.lst bs)) (hg : Gl X "zip") (hm : X.mg "zip" = none)
    (hs : starEach [e, e2] X.env = (false, eval e X.env) :: starEach [e2] X.env := by rfl) (hs2 : starEach [e2] X.env = (false, eval e2 X.env) :: starEach [] X.env := by rfl) (hpl : (backTo pos (starEach [e2] X.env)).any (·.1) = false := by rfl) : PIt X G (.Tuple elts kk tpos) (.Call (.Name "zip" p) [e, e2] [] pos) (pairD as bs) :=
  fun s B H hsl hb R k => run_i (pi_zip hg hm pa_wk hs hpl) (evs_cons h (evs_cons h' evs_nil hs2) hs s B H hsl hb _ fun vs B1 H1 g1 r1 => by
    obtain ⟨v, u, rfl, ⟨a, xs, rfl, h1, h2⟩, ⟨b, ys, rfl, h3, h4⟩⟩ := rep2 r1
    refine ⟨a, b, xs, ys, rfl, g1.s.seq h1, g1.s.seq h3, k _ (fun H => SqL X.K H a xs ∧ SqL X.K H b ys) B1 H1 g1 ?_ fun H'' e => ⟨e.seq h1, e.seq h3⟩⟩
    refine (walk_zip ?_).mono (fun _ h => h) fun i H x H' _ _ y => yd_pair (fun i x hx => h2.getV hx) (fun i x hx => h4.getV hx) i H x H' y
    simp [pairD, h2.length, h4.length])
end
end Dh
end SDhStmt

section SDhStmt2
set_option Elab.async false
set_option linter.all false
set_option maxRecDepth 100000
set_option maxHeartbeats 2000000
namespace Dh
open PySem PySem.Spec PyProof.Rows L2

/-! ### comprehensions -/
structure RunTs (X : Cx) (ifs : List Expr) (Q : Bool → Hp → Prop) (s : L2.St) (H : Hp) : Prop where
  run : ∀ (pins : List (Addr × Obj)) (sh : Shared), Inv X pins s H sh →
    wpAny (model X.prog X.w) X.A (forIn ifs true fun c r => if r = true then do let ok ← isTrue c X.env (eval c X.env); pure (ForInStep.yield ok) else pure (ForInStep.yield r)) (TP X pins s Q) X.xe sh
def ETs (X : Cx) (G : List (Option Dt)) (ifs : List Expr) (b : Bool) : Prop := ∀ (s : L2.St) (B H : Hp), Sl X.K B G s → Same B H → ∀ Q : Bool → Hp → Prop, (∀ B' H', Gr B H B' H' → Q b H') → RunTs X ifs Q s H
theorem ets_nil {X : Cx} {G : List (Option Dt)} : ETs X G [] true := fun s B H hs hb Q q => ⟨fun pins sh I => pts_nil.run pins sh s H Q I (q B H (.refl hb))⟩
theorem ets_one {X : Cx} {G : List (Option Dt)} {c : Expr} {b : Bool} (h : ET X G c b) : ETs X G [c] b := fun s B H hs hb Q q => ⟨fun pins sh I => (pts_one pt_wk).run pins sh s H Q I (h s B H hs hb Q q)⟩
/-- the block's context -/
abbrev Bk (X : Cx) (scope : Scope) (s : Shared) (H : Hp) (C : Addr) (cl : List (Str × Addr)) (fp : List Addr) : Cx := X.blk s H scope (compEnvC scope cl C X.env) fp
section
variable {X : Cx} {G : List (Option Dt)} {elt iter tg : Expr} {ifs : List Expr} {scope : Scope} {pos px : Pos} {x : Str} {i : Nat} {A : Type} {xs : List A} {enc g : A → Dt} {P : A → Bool}
def ttU (X : Cx) (scope : Scope) (ifs : List Expr) : TT := fun s H Q => ∀ s0 H0 C cl fp, RunTs (Bk X scope s0 H0 C cl fp) ifs Q s H
def teU (X : Cx) (scope : Scope) (elt : Expr) : TE := fun s H Q => ∀ s0 H0 C cl fp, RunE (Bk X scope s0 H0 C cl fp) elt Q s H
theorem lc_read (hit : PIt X G tg iter (xs.map enc)) (hlt : i < G.length)
    (ht : ∀ a ∈ xs, ∀ s H C cl fp, ETs (Bk X scope s H C cl fp) (G.set i (some (enc a))) ifs (P a))
    (he : ∀ a ∈ xs, P a = true → ∀ s H C cl fp, EV (Bk X scope s H C cl fp) (G.set i (some (enc a))) elt (g a)) (hsz : xs.length ≤ sizeLine)
    {s : L2.St} {B H : Hp} (hs : Sl X.K B G s) (hb : Same B H) {Q : VK} (q : ∀ v B' H', Gr B H B' H' → Rep X.K B' (.lst ((xs.filter P).map g)) v → Q v H') :
    tLc (fun s H R => RunI X tg iter R s H) (gName i) (ttU X scope ifs) (teU X scope elt) [i] s H Q := by
  refine hit s B H hs hb _ fun J Gd B1 H1 g1 w hG => ?_
  intro D hD
  have b1D : B1 D = none := g1.s.free hD
  have nl : (xs.map enc).length = xs.length := List.length_map _
  refine lc_it (g := gName i) (tt := ttU X scope ifs) (te := teU X scope elt) (vs := [i]) (σ := s) (D := D) w (fun j Hj => ∃ Bj ys, Gr B1 H1 Bj Hj ∧ Bj D = none ∧ Hj D = some (.lst ys) ∧ RepAll X.K Bj (((xs.take j).filter P).map g) ys) ?_ ?_ ?_ ?_
  · exact ⟨B1, [], .newO g1.s hD, b1D, upd_same, by rw [List.take_zero]; exact rfl⟩
  · rintro j Hj _ ⟨Bj, ys, gj, _⟩
    exact hG Hj (gj.b.trans gj.s)
  · rintro j v Hj Hj' hj ⟨Bj, ys, gj, bD, hDj, rj⟩ y
    rw [nl] at hj
    obtain ⟨d, B2, hd, g2, r2⟩ := y Bj gj.b gj.s
    have hx : xs[j]? = some xs[j] := List.getElem?_eq_getElem hj
    have hm : xs[j] ∈ xs := List.getElem_mem hj
    rw [List.getElem?_map, hx] at hd
    have ed : enc xs[j] = d := Option.some.inj hd
    subst ed
    have H2D : Hj' D = some (.lst ys) := g2.h _ _ hDj
    have B2D : B2 D = none := by rw [g2.k D (by rw [hDj]; simp)]; exact bD
    refine ⟨?_, fun s0 H0 C cl fp => ?_⟩
    · show ((wipe s [i]).set i (some v)).set i none = (s.set i none)
      show (((s.set i none).set i (some v)).set i none) = _
      rw [List.set_set, List.set_set]
    have slot : Sl X.K B2 (G.set i (some (enc xs[j]))) ((wipe s [i]).set i (some v)) := by
      have a := ((hs.mono (g1.b.trans (gj.b.trans g2.b))).wipe i).set r2 i
      rw [List.set_set] at a
      exact a
    refine ht _ hm s0 H0 C cl fp _ B2 Hj' slot g2.s _ fun B3 H3 g3 => ?_
    have H3D : H3 D = some (.lst ys) := g3.h _ _ H2D
    have B3D : B3 D = none := by rw [g3.k D (by rw [H2D]; simp)]; exact B2D
    have tk : xs.take (j + 1) = xs.take j ++ [xs[j]] := by rw [List.take_succ, hx]; rfl
    cases hP : P xs[j] with
    | false =>
      refine iteF ⟨B3, ys, gj.trans (g2.trans g3), B3D, H3D, ?_⟩
      rw [tk, List.filter_append, List.filter_cons_of_neg (by rw [hP]; simp), List.filter_nil, List.append_nil]
      exact rj.mono (g2.b.trans g3.b)
    | true =>
      refine iteT fun s0 H0 C cl fp => he _ hm hP s0 H0 C cl fp _ B3 H3 (slot.mono g3.b) g3.s _ fun y B4 H4 g4 r4 => ?_
      have H4D : H4 D = some (.lst ys) := g4.h _ _ H3D
      have B4D : B4 D = none := by rw [g4.k D (by rw [H3D]; simp)]; exact B3D
      have lt : ys.length < sizeLine := by
        have a := rj.length
        rw [List.length_map] at a
        have b := List.length_filter_le P (xs.take j)
        rw [List.length_take] at b
        omega
      have gg := gj.trans ((g2.trans g3).trans g4)
      refine ⟨ys, H4D, lt, B4, ys ++ [y], ⟨gg.b, fun p o e => ?_, fun p o e => ?_, gg.k⟩, B4D, upd_same, ?_⟩
      · rw [upd_ne (ne_of_none e hD)]
        exact gg.h p o e
      · rw [upd_ne (ne_of_none e B4D)]
        exact gg.s p o e
      · rw [tk, List.filter_append, List.filter_cons_of_pos hP, List.filter_nil, List.map_append]
        exact (rj.mono ((g2.b.trans g3.b).trans g4.b)).snoc r4
  · rintro Hn ⟨Bn, ys, gn, bD, hDn, rn⟩
    rw [nl, List.take_length] at rn
    refine q _ (upd Bn D (.lst ys)) Hn (g1.trans ⟨gn.b.trans (same_new' bD), gn.h, fun p o e => ?_, fun p hp => ?_⟩) ⟨D, ys, rfl, .of upd_same, rn.mono (same_new' bD)⟩
    · by_cases z : p = D
      · subst z; rw [upd_same] at e; rw [← e]; exact hDn
      · rw [upd_ne z] at e; exact gn.s p o e
    · have z : p ≠ D := fun z => hp (z ▸ hD)
      rw [upd_ne z]
      exact gn.k p hp
theorem ev_lc (hc : X.calm = true) (hN : X.N.Nodup) (hit : PIt X G (.Name x px) iter (xs.map enc)) (ok : BlkOk X.N X.env.scope scope [(x, i)])
    (hg : ∀ (s : Shared) (H : Hp) (C : Addr) (cl : List (Str × Addr)) (fp : List Addr), L2.PG (Bk X scope s H C cl fp) (.Name x px) (gName i)) (hlt : i < G.length)
    (ht : ∀ a ∈ xs, ∀ s H C cl fp, ETs (Bk X scope s H C cl fp) (G.set i (some (enc a))) ifs (P a))
    (he : ∀ a ∈ xs, P a = true → ∀ s H C cl fp, EV (Bk X scope s H C cl fp) (G.set i (some (enc a))) elt (g a)) (hsz : xs.length ≤ sizeLine) (hf : ∀ x, foldedSetIterable iter X.env x = pure x := by intro _; rfl) :
    EV X G (.ListComp elt [⟨.Name x px, iter, ifs, 0⟩] scope pos) (.lst ((xs.filter P).map g)) := fun s B H hs hb Q q =>
  run_e (pe_lc (own := [(x, i)]) (tt := ttU X scope ifs) (te := teU X scope elt) hc hN pi_wk ok hg (fun s0 H0 C cl fp => ⟨fun pins sh s H Q I h => (h s0 H0 C cl fp).run pins sh I⟩) (fun s0 H0 C cl fp => ⟨fun pins sh s H Q I h => (h s0 H0 C cl fp).run pins sh I⟩) hf) (lc_read hit hlt ht he hsz hs hb q)
/-- every item -/
theorem ev_lcm (hc : X.calm = true) (hN : X.N.Nodup) (hit : PIt X G (.Name x px) iter (xs.map enc)) (ok : BlkOk X.N X.env.scope scope [(x, i)])
    (hg : ∀ (s : Shared) (H : Hp) (C : Addr) (cl : List (Str × Addr)) (fp : List Addr), L2.PG (Bk X scope s H C cl fp) (.Name x px) (gName i)) (hlt : i < G.length)
    (he : ∀ a ∈ xs, ∀ s H C cl fp, EV (Bk X scope s H C cl fp) (G.set i (some (enc a))) elt (g a)) (hsz : xs.length ≤ sizeLine) (hf : ∀ x, foldedSetIterable iter X.env x = pure x := by intro _; rfl) :
    EV X G (.ListComp elt [⟨.Name x px, iter, [], 0⟩] scope pos) (.lst (xs.map g)) := by
  have h := ev_lc (ifs := []) (P := fun _ => true) (pos := pos) hc hN hit ok hg hlt (fun _ _ _ _ _ _ _ => ets_nil) (fun a ha _ => he a ha) hsz hf
  rw [List.filter_eq_self.mpr (fun _ _ => rfl)] at h
  exact h
end

/-! ### statements -/
inductive Ob where
  | lst (ds : List Dt) | raw (o : HO) | dic (P : Program) (w : World) (kvs : List (KyL × V))
  | dT (ks : List (List L2.Key)) (ds : List Dt) | ins (C dx : Addr) (ns : List Str) (ds : List Dt)
def ObAt (K : PySem.W.Frag) (B H : Hp) (p : Addr) : Ob → Prop
  | .lst ds => ∃ xs, H p = some (.lst xs) ∧ RepAll K B ds xs
  | .dic P w kvs => ∃ es, H p = some (TDic P w p es) ∧ es.map (fun e => (e.1, e.2.2)) = kvs ∧ ∀ e ∈ es, KeyIs K B e.1 e.2.1
  | .raw o => H p = some o
  | .dT ks ds => ks.length = ds.length ∧ ∃ vs, H p = some (.dT (ks.zip vs)) ∧ RepAll K B ds vs
  | .ins C dx ns ds => ∃ vs, H p = some (.ins C dx (ns.zip vs)) ∧ RepAll K B ds vs
/-- B what is read as data, O the objects that are one's own -/
structure At (K : PySem.W.Frag) (B0 H0 B : Hp) (G : List (Option Dt)) (O : List (Addr × Ob)) (s : L2.St) (H : Hp) : Prop where
  gr : Gr B0 H0 B H
  sl : Sl K B G s
  ow : ∀ (p : Addr) (ob : Ob), (p, ob) ∈ O → B p = none ∧ H0 p = none ∧ ObAt K B H p ob
  nd : (O.map (·.1)).Nodup
def In (K : PySem.W.Frag) (B0 H0 : Hp) (G : List (Option Dt)) (O : List (Addr × Ob)) (s : L2.St) (H : Hp) : Prop := ∃ B, At K B0 H0 B G O s H
structure RunS (X : Cx) (sts : List Stmt) (D : Ends) (s : L2.St) (H : Hp) : Prop where
  run : ∀ (pins : List (Addr × Obj)) (sh : Shared), Inv X pins s H sh → wpAny (model X.prog X.w) X.A (execs sts X.env) (SP X pins D) X.xe sh
theorem pss_wk {X : Cx} {sts : List Stmt} : PSs X sts (fun D s H => RunS X sts D s H) := ⟨fun pins sh s H D I h => h.run pins sh I⟩
theorem run_s {X : Cx} {sts : List Stmt} {t : TS} {D : Ends} {s : L2.St} {H : Hp} (h : PSs X sts t) (q : t D s H) : RunS X sts D s H := ⟨fun pins sh I => h.run pins sh s H D I q⟩
theorem run_c {X : Cx} {st : Stmt} {rest : List Stmt} {t : TS} {D : Ends} {s : L2.St} {H : Hp} (h : PS X st t) (q : t { D with nx := fun s H => RunS X rest D s H } s H) : RunS X (st :: rest) D s H :=
  run_s (pss_cons h pss_wk) q
/-- from every such state the statements come to D -/
def Go (X : Cx) (B0 H0 : Hp) (G : List (Option Dt)) (O : List (Addr × Ob)) (sts : List Stmt) (D : Ends) : Prop := ∀ s H, In X.K B0 H0 G O s H → RunS X sts D s H
section
variable {K : PySem.W.Frag} {B0 H0 B B' H H' : Hp} {G G' : List (Option Dt)} {O O' : List (Addr × Ob)} {s : L2.St}
theorem ObAt.mono {p : Addr} {ob : Ob} (h : ObAt K B H p ob) (e : Same B B') (k : H' p = H p) : ObAt K B' H' p ob := by
  cases ob with
  | lst ds => obtain ⟨xs, h1, h2⟩ := h; exact ⟨xs, k.trans h1, h2.mono e⟩
  | dic P w kvs => obtain ⟨es, h1, h2, h3⟩ := h; exact ⟨es, k.trans h1, h2, fun x hx => (h3 x hx).mono e⟩
  | raw o => exact k.trans h
  | dT ks ds => obtain ⟨l, vs, h1, h2⟩ := h; exact ⟨l, vs, k.trans h1, h2.mono e⟩
  | ins C dx ns ds => obtain ⟨vs, h1, h2⟩ := h; exact ⟨vs, k.trans h1, h2.mono e⟩
theorem ObAt.ne {p : Addr} {ob : Ob} (h : ObAt K B H p ob) : H p ≠ none := by
  cases ob with
  | lst ds => obtain ⟨xs, h1, h2⟩ := h; rw [h1]; simp
  | dic P w kvs => obtain ⟨es, h1, h2⟩ := h; rw [h1]; simp
  | raw o => rw [show H p = some o from h]; simp
  | dT ks ds => obtain ⟨l, vs, h1, h2⟩ := h; rw [h1]; simp
  | ins C dx ns ds => obtain ⟨vs, h1, h2⟩ := h; rw [h1]; simp
theorem At.grow (h : At K B0 H0 B G O s H) (g : Gr B H B' H') : At K B0 H0 B' G O s H' := by
  refine ⟨h.gr.trans g, h.sl.mono g.b, fun p ob hp => ?_, h.nd⟩
  obtain ⟨a, b, c⟩ := h.ow p ob hp
  have ne := c.ne
  refine ⟨by rw [g.k p ne]; exact a, b, c.mono g.b ?_⟩
  cases e : H p with
  | none => exact absurd e ne
  | some o => exact g.h p o e
theorem At.slots {s' : L2.St} (h : At K B0 H0 B G O s H) (hs : Sl K B G' s') : At K B0 H0 B G' O s' H := ⟨h.gr, hs, h.ow, h.nd⟩
theorem At.set (h : At K B0 H0 B G O s H) {d : Dt} {v : V} (r : Rep K B d v) (i : Nat) : At K B0 H0 B (G.set i (some d)) O (s.set i (some v)) H := h.slots (h.sl.set r i)
theorem At.own (h : At K B0 H0 B G O s H) {p : Addr} {o : HO} (hp : H p = none) {ob : Ob} (hob : ObAt K B (upd H p o) p ob) : At K B0 H0 B G ((p, ob) :: O) s (upd H p o) := by
  have fresh : ∀ q ob, (q, ob) ∈ O → q ≠ p := fun q ob hq z => by
    have := (h.ow q ob hq).2.2.ne
    rw [z] at this
    exact this hp
  have bp : B p = none := h.gr.s.free hp
  refine ⟨h.gr.trans (.newO h.gr.s hp), h.sl, fun q ob hq => ?_, ?_⟩
  · rcases List.mem_cons.mp hq with e | hq
    · cases e
      exact ⟨bp, h.gr.h.free hp, hob⟩
    · obtain ⟨a, b, c⟩ := h.ow q ob hq
      exact ⟨a, b, c.mono (Same.refl _) (upd_ne (fresh q ob hq))⟩
  · rw [List.map_cons, List.nodup_cons]
    refine ⟨fun hm => ?_, h.nd⟩
    obtain ⟨⟨q, ob⟩, hq, e⟩ := List.mem_map.mp hm
    exact fresh q ob hq e
/-- an own object is written -/
theorem At.put (h : At K B0 H0 B G O s H) {j : Nat} {p : Addr} {ob ob' : Ob} {o : HO} (hj : O[j]? = some (p, ob)) (hob : ObAt K B (upd H p o) p ob') : At K B0 H0 B G (O.set j (p, ob')) s (upd H p o) := by
  obtain ⟨a, b, c⟩ := h.ow p ob (List.mem_of_getElem? hj)
  have hjl := (List.getElem?_eq_some_iff.mp hj).1
  refine ⟨⟨h.gr.b, fun q u e => ?_, fun q u e => ?_, h.gr.k⟩, h.sl, fun q w hq => ?_, ?_⟩
  · rw [upd_ne (ne_of_none e b)]; exact h.gr.h q u e
  · rw [upd_ne (ne_of_none e a)]; exact h.gr.s q u e
  · obtain ⟨i, hi⟩ := List.mem_iff_getElem?.mp hq
    by_cases e : j = i
    · subst e
      rw [List.getElem?_set_self hjl] at hi
      cases hi
      exact ⟨a, b, hob⟩
    · rw [List.getElem?_set_ne e] at hi
      obtain ⟨a', b', c'⟩ := h.ow q w (List.mem_of_getElem? hi)
      refine ⟨a', b', c'.mono (Same.refl _) (upd_ne fun z => e ?_)⟩
      subst z
      have h1 : (O.map (·.1))[j]? = some q := by rw [List.getElem?_map, hj]; rfl
      have h2 : (O.map (·.1))[i]? = some q := by rw [List.getElem?_map, hi]; rfl
      exact nd_ix h.nd h1 h2
  · have : (O.set j (p, ob')).map (·.1) = O.map (·.1) := by
      rw [List.map_set]
      apply List.ext_getElem?
      intro i
      by_cases e : j = i
      · subst e
        rw [List.getElem?_set_self (by rw [List.length_map]; exact hjl), List.getElem?_map, hj]
        rfl
      · rw [List.getElem?_set_ne e]
    rw [this]
    exact h.nd
/-- an own list is data from now on -/
theorem At.frz (h : At K B0 H0 B G O s H) {j : Nat} {p : Addr} {ds : List Dt} (hj : O[j]? = some (p, .lst ds)) (hl : G'.length = G.length)
    (hG : ∀ (i : Nat) (d : Dt), G'[i]? = some (some d) → G[i]? = some (some d) ∨ (G[i]? = some (some (.raw (.ref p))) ∧ d = .lst ds)) : In K B0 H0 G' (O.eraseIdx j) s H := by
  obtain ⟨a, b, xs, hx, rx⟩ := h.ow p _ (List.mem_of_getElem? hj)
  have hjl := (List.getElem?_eq_some_iff.mp hj).1
  have sb : Same B (upd B p (.lst xs)) := same_new' a
  refine ⟨upd B p (.lst xs), ⟨h.gr.b.trans sb, h.gr.h, fun q u e => ?_, fun q hq => ?_⟩, ⟨hl.trans h.sl.1, fun i d hd => ?_⟩, fun q w hq => ?_, ?_⟩
  · by_cases z : q = p
    · subst z; rw [upd_same] at e; rw [← e]; exact hx
    · rw [upd_ne z] at e; exact h.gr.s q u e
  · have z : q ≠ p := fun z => hq (z ▸ b)
    rw [upd_ne z]; exact h.gr.k q hq
  · rcases hG i d hd with e | ⟨e, rfl⟩
    · obtain ⟨v, h1, h2⟩ := h.sl.2 i d e
      exact ⟨v, h1, h2.mono sb⟩
    · obtain ⟨v, h1, h2⟩ := h.sl.2 i _ e
      exact ⟨v, h1, p, xs, h2, .of upd_same, rx.mono sb⟩
  · obtain ⟨i, hi⟩ := List.mem_iff_getElem?.mp hq
    have : ∃ i', i' ≠ j ∧ O[i']? = some (q, w) := by
      rw [List.getElem?_eraseIdx] at hi
      split at hi
      · exact ⟨i, by omega, hi⟩
      · exact ⟨i + 1, by omega, hi⟩
    obtain ⟨i', ne, hi'⟩ := this
    obtain ⟨a', b', c'⟩ := h.ow q w (List.mem_of_getElem? hi')
    have z : q ≠ p := fun z => ne (by
      subst z
      have h1 : (O.map (·.1))[j]? = some q := by rw [List.getElem?_map, hj]; rfl
      have h2 : (O.map (·.1))[i']? = some q := by rw [List.getElem?_map, hi']; rfl
      exact (nd_ix h.nd h1 h2).symm)
    exact ⟨by rw [upd_ne z]; exact a', b', c'.mono sb rfl⟩
  · exact h.nd.sublist ((List.eraseIdx_sublist ..).map _)
theorem In.weak (h : In K B0 H0 G O s H) (hl : G'.length = G.length) (w : ∀ (i : Nat) (d : Dt), G'[i]? = some (some d) → G[i]? = some (some d)) : In K B0 H0 G' O s H := by
  obtain ⟨B, h⟩ := h
  exact ⟨B, h.slots (h.sl.weak hl w)⟩
end
section
variable {X : Cx} {B0 H0 : Hp} {G G' : List (Option Dt)} {O O' : List (Addr × Ob)} {rest body els : List Stmt} {D : Ends} {e o c tg iter : Expr} {d : Dt} {ds : List Dt} {R : Dt → Prop} {pos px apos cpos : Pos} {x y : Str} {i j : Nat} {p : Addr} {b : Bool}
/-- the answer that is wanted -/
def Rt (K : PySem.W.Frag) (B0 H0 : Hp) (R : Dt → Prop) (Q : VK) : Prop := ∀ d v B H, R d → Gr B0 H0 B H → Rep K B d v → Q v H
theorem go_retR (h : EVR X G e R) (q : Rt X.K B0 H0 R D.rt) : Go X B0 H0 G O (.Return (some e) pos :: rest) D := fun s H ⟨B, a⟩ =>
  run_c (ps_ret pe_wk) (h s B H a.sl a.gr.s _ fun d v B1 H1 hd g1 r1 => q d v B1 H1 hd (a.gr.trans g1) r1)
theorem go_ret (h : EV X G e d) (q : Rt X.K B0 H0 R D.rt) (hd : R d) : Go X B0 H0 G O (.Return (some e) pos :: rest) D := fun s H ⟨B, a⟩ =>
  run_c (ps_ret pe_wk) (h s B H a.sl a.gr.s _ fun v B1 H1 g1 r1 => q d v B1 H1 hd (a.gr.trans g1) r1)
theorem go_setR (h : EVR X G e R) (k : ∀ d, R d → Go X B0 H0 (G.set i (some d)) O rest D) (hN : X.N.Nodup) (hi : X.N[i]? = some x) (hx : Loc X.env.scope x) (hs : swapsWith e (some (.Name x px)) pos.line X.env = pure false := by rfl)
    (hf : X.fn x = true ∨ X.env.scope.names.lookup x = some .local := by first | exact .inl rfl | exact .inr rfl | assumption) : Go X B0 H0 G O (.Assign [.Name x px] e pos :: rest) D := fun s H ⟨B, a⟩ =>
  run_c (ps_set hN hi hx pe_wk hs hf) (h s B H a.sl a.gr.s _ fun d v B1 H1 hd g1 r1 => k d hd _ _ ⟨B1, (a.grow g1).set r1 i⟩)
theorem go_set (h : EV X G e d) (k : Go X B0 H0 (G.set i (some d)) O rest D) (hN : X.N.Nodup) (hi : X.N[i]? = some x) (hx : Loc X.env.scope x) (hs : swapsWith e (some (.Name x px)) pos.line X.env = pure false := by rfl)
    (hf : X.fn x = true ∨ X.env.scope.names.lookup x = some .local := by first | exact .inl rfl | exact .inr rfl | assumption) : Go X B0 H0 G O (.Assign [.Name x px] e pos :: rest) D := fun s H ⟨B, a⟩ =>
  run_c (ps_set hN hi hx pe_wk hs hf) (h s B H a.sl a.gr.s _ fun v B1 H1 g1 r1 => k _ _ ⟨B1, (a.grow g1).set r1 i⟩)
theorem go_asg (h : EV X G e d) (ht : TGT X G tg d G') (k : Go X B0 H0 G' O rest D) (hs : swapsWithSole [tg] e pos.line X.env = pure false := by rfl) (hw : swappedStores [tg] e X.env = pure none := by rfl)
    (h1 : (assignEach [tg] X.env).map (·.2) = [assign tg X.env] := by rfl) : Go X B0 H0 G O (.Assign [tg] e pos :: rest) D := fun s H ⟨B, a⟩ =>
  run_c (ps_asg pe_wk pg_wk hs hw h1) (h s B H a.sl a.gr.s _ fun v B1 H1 g1 r1 => ht s B1 H1 v (a.sl.mono g1.b) g1.s r1 _ fun s' hs' => k _ _ ⟨B1, (a.grow g1).slots hs'⟩)
theorem go_asgR (h : EVR X G e R) (k : ∀ d, R d → ∃ G', TGT X G tg d G' ∧ Go X B0 H0 G' O rest D) (hs : swapsWithSole [tg] e pos.line X.env = pure false := by rfl) (hw : swappedStores [tg] e X.env = pure none := by rfl)
    (h1 : (assignEach [tg] X.env).map (·.2) = [assign tg X.env] := by rfl) : Go X B0 H0 G O (.Assign [tg] e pos :: rest) D := fun s H ⟨B, a⟩ =>
  run_c (ps_asg pe_wk pg_wk hs hw h1) (h s B H a.sl a.gr.s _ fun d v B1 H1 hd g1 r1 => by
    obtain ⟨G', ht, k⟩ := k d hd
    exact ht s B1 H1 v (a.sl.mono g1.b) g1.s r1 _ fun s' hs' => k _ _ ⟨B1, (a.grow g1).slots hs'⟩)
theorem go_exprR (h : EVR X G e R) (k : Go X B0 H0 G O rest D) (hs : swapsWith e none pos.line X.env = pure false := by rfl) : Go X B0 H0 G O (.Expr e pos :: rest) D := fun s H ⟨B, a⟩ =>
  run_c (ps_expr pe_wk hs) (h s B H a.sl a.gr.s _ fun d v B1 H1 hd g1 r1 => k _ _ ⟨B1, a.grow g1⟩)
theorem go_if (h : ET X G c b) (ht : b = true → Go X B0 H0 G O body { D with nx := fun s H => RunS X rest D s H }) (hf : b = false → Go X B0 H0 G O els { D with nx := fun s H => RunS X rest D s H }) : Go X B0 H0 G O (.If c body els pos :: rest) D :=
  fun s H ⟨B, a⟩ => run_c (ps_if pt_wk pss_wk pss_wk) (h s B H a.sl a.gr.s _ fun B1 H1 g1 => by
    cases b with
    | true => exact iteT (ht rfl s H1 ⟨B1, a.grow g1⟩)
    | false => exact iteF (hf rfl s H1 ⟨B1, a.grow g1⟩))
/-- the end of a block -/
theorem go_nil (h : ∀ s H, In X.K B0 H0 G O s H → D.nx s H) : Go X B0 H0 G O [] D := fun s H a => run_s pss_nil (h s H a)
theorem go_done (h : Go X B0 H0 G O rest D) {D' : Ends} (hD : D'.nx = fun s H => RunS X rest D s H) : Go X B0 H0 G O [] D' := go_nil fun s H a => by rw [hD]; exact h s H a
theorem go_cont (h : ∀ s H, In X.K B0 H0 G O s H → D.ct s H) : Go X B0 H0 G O (.Continue pos :: rest) D := fun s H a => run_c ps_continue (h s H a)
theorem go_brk (h : ∀ s H, In X.K B0 H0 G O s H → D.bk s H) : Go X B0 H0 G O (.Break pos :: rest) D := fun s H a => run_c ps_break (h s H a)
theorem go_weak {sts : List Stmt} (h : Go X B0 H0 G' O sts D) (hl : G'.length = G.length) (w : ∀ (i : Nat) (d : Dt), G'[i]? = some (some d) → G[i]? = some (some d)) : Go X B0 H0 G O sts D := fun s H a => h s H (a.weak hl w)
/-- the block reaches a state; what stands behind goes on from it -/
theorem go_if_join (h : ET X G c b) (ht : b = true → Go X B0 H0 G O body { D with nx := In X.K B0 H0 G' O' }) (hf : b = false → Go X B0 H0 G O els { D with nx := In X.K B0 H0 G' O' }) (k : Go X B0 H0 G' O' rest D) : Go X B0 H0 G O (.If c body els pos :: rest) D := by
  have mono : ∀ sts, Go X B0 H0 G O sts { D with nx := In X.K B0 H0 G' O' } → Go X B0 H0 G O sts { D with nx := fun s H => RunS X rest D s H } := fun sts q s H a => ⟨fun pins sh I =>
    thn ((q s H a).run pins sh I) fun f s' hh => by
      cases f with
      | next => obtain ⟨s2, H2, I2, n2⟩ := hh; exact ⟨s2, H2, I2, k s2 H2 n2⟩
      | ret v => exact hh
      | brk => exact hh
      | cont => exact hh⟩
  exact go_if h (fun e => mono _ (ht e)) (fun e => mono _ (hf e))
/-- a new own list -/
theorem go_new {es : List Expr} {py : Pos} (h : EVs X G es ds) (k : ∀ p, Go X B0 H0 (G.set i (some (.raw (.ref p)))) ((p, .lst ds) :: O) rest D) (hN : X.N.Nodup) (hi : X.N[i]? = some x) (hx : Loc X.env.scope x) (hl : Nat.ble ds.length 1000 = true := by rfl)
    (hs : swapsWith (.List es py) (some (.Name x px)) pos.line X.env = pure false := by rfl) (hf : X.fn x = true ∨ X.env.scope.names.lookup x = some .local := by first | exact .inl rfl | exact .inr rfl | assumption) :
    Go X B0 H0 G O (.Assign [.Name x px] (.List es py) pos :: rest) D := fun s H ⟨B, a⟩ =>
  run_c (ps_set hN hi hx (pe_lst pa_wk) hs hf) (h s B H a.sl a.gr.s _ fun vs B1 H1 g1 r1 => ⟨by rw [r1.length]; exact ble_line hl, fun q hq =>
    k q _ _ ⟨B1, ((a.grow g1).own (ob := .lst ds) hq ⟨vs, upd_same, r1⟩).set (d := .raw (.ref q)) (v := .ref q) rfl i⟩⟩)
/-- y.append(e), the list one's own -/
theorem go_app (hy : EV X G o (.raw (.ref p))) (hj : O[j]? = some (p, .lst ds)) (h : EV X G e d) (hz : ds.length < sizeLine) (k : Go X B0 H0 G (O.set j (p, .lst (ds ++ [d]))) rest D)
    (hbase : attributeBase o "append" X.env (eval o X.env) = eval o X.env := by rfl)
    (hfew : ((backTo cpos (starEach (e :: []) X.env)).all (fun x => !x.1) && (backToKw cpos (keywordEach [] X.env)).all (fun x => x.1.isSome)
      && decide ((e :: []).length + ([] : List Keyword).length + (if ([] : List Keyword).isEmpty then 0 else 1) < 30)) = true := by rfl)
    (hline : (apos.endLine == cpos.line) = true := by rfl) (hst : starEach (e :: []) X.env = (false, eval e X.env) :: starEach [] X.env := by rfl) (hplain : (backTo cpos (starEach [] X.env)).any (·.1) = false := by rfl)
    (hs : swapsWith (.Call (.Attribute o "append" apos) [e] [] cpos) none pos.line X.env = pure false := by rfl) : Go X B0 H0 G O (.Expr (.Call (.Attribute o "append" apos) [e] [] cpos) pos :: rest) D := fun s H ⟨B, a⟩ =>
  run_c (ps_expr (pe_bm PySem.F.plainAttrs_list PySem.F.slot_list_append PySem.F.type_list_append mt_append pe_wk pa_wk hbase hfew hline hst hplain) hs) (hy s B H a.sl a.gr.s _ fun v B1 H1 g1 r1 => by
    have a1 := a.grow g1
    obtain ⟨b1, b2, xs, hx, rx⟩ := a1.ow p _ (List.mem_of_getElem? hj)
    rw [show v = .ref p from r1]
    refine ⟨.inl ⟨rfl, xs, .of hx⟩, evs_cons h evs_nil hst s B1 H1 a1.sl a1.gr.s _ fun vs B2 H2 g2 r2 => ?_⟩
    obtain ⟨w, rfl, rw'⟩ := rep1 r2
    have a2 := a1.grow g2
    have hx2 : H2 p = some (.lst xs) := g2.h _ _ hx
    refine ⟨p, xs, w, rfl, rfl, hx2, by rw [rx.length]; exact hz, ?_⟩
    exact k _ _ ⟨B2, a2.put hj ⟨xs ++ [w], upd_same, (rx.mono g2.b).snoc rw'⟩⟩)
/-- an own list is frozen -/
theorem go_frz {sts : List Stmt} (hj : O[j]? = some (p, .lst ds)) (hl : G'.length = G.length) (hG : ∀ (i : Nat) (d : Dt), G'[i]? = some (some d) → G[i]? = some (some d) ∨ (G[i]? = some (some (.raw (.ref p))) ∧ d = .lst ds))
    (k : Go X B0 H0 G' (O.eraseIdx j) sts D) : Go X B0 H0 G O sts D := fun s H ⟨B, a⟩ => k _ _ (a.frz hj hl hG)

/-! ### loops -/
/-- what holds between the turns -/
def InW (K : PySem.W.Frag) (B0 H0 : Hp) (W : List (Option Dt) → List (Addr × Ob) → Prop) (s : L2.St) (H : Hp) : Prop := ∃ G O, W G O ∧ In K B0 H0 G O s H
/-- a greater part to lean on -/
structure Up (B0 H0 B1 : Hp) : Prop where
  b : Same B0 B1
  k : ∀ p, H0 p ≠ none → B1 p = B0 p
theorem Up.refl : Up B0 H0 B0 := ⟨Same.refl _, fun _ _ => rfl⟩
theorem Up.gr {B1 B H : Hp} (u : Up B0 H0 B1) (g : Gr B1 H0 B H) : Gr B0 H0 B H := ⟨u.b.trans g.b, g.h, g.s, fun p hp => (g.k p hp).trans (u.k p hp)⟩
theorem Up.rt {B1 : Hp} {K : PySem.W.Frag} {Q : VK} (u : Up B0 H0 B1) (q : Rt K B0 H0 R Q) : Rt K B1 H0 R Q := fun d v B H hd g r => q d v B H hd (u.gr g) r
theorem Up.in_ {B1 : Hp} {K : PySem.W.Frag} {s : L2.St} {H : Hp} (u : Up B0 H0 B1) (h : In K B1 H0 G O s H) : In K B0 H0 G O s H := by
  obtain ⟨B, a⟩ := h
  exact ⟨B, u.gr a.gr, a.sl, a.ow, a.nd⟩
theorem Up.go {B1 : Hp} {sts : List Stmt} (u : Up B0 H0 B1) (h : Go X B0 H0 G O sts D) : Go X B1 H0 G O sts D := fun s H a => h s H (u.in_ a)
theorem At.up {K : PySem.W.Frag} {B : Hp} {s : L2.St} {H : Hp} (a : At K B0 H0 B G O s H) : Up B0 H0 B := ⟨a.gr.b, a.gr.k⟩
theorem At.root {K : PySem.W.Frag} {B : Hp} {s : L2.St} {H : Hp} (a : At K B0 H0 B G O s H) : At K B H0 B G O s H := ⟨⟨Same.refl _, a.gr.h, a.gr.s, fun _ _ => rfl⟩, a.sl, a.ow, a.nd⟩
theorem go_for (hp : PassesOwn (model X.prog X.w) X.A X.env X.xe) (hc : X.calm = true) (hi : PIt X G tg iter ds) (W : Nat → List (Option Dt) → List (Addr × Ob) → Prop) (w0 : W 0 G O)
    (hs : ∀ B1, Up B0 H0 B1 → ∀ (j : Nat) (d : Dt) G1 O1, ds[j]? = some d → W j G1 O1 → ∃ G2, TGT X G1 tg d G2 ∧ Go X B1 H0 G2 O1 body { D with nx := InW X.K B1 H0 (W (j + 1)), ct := InW X.K B1 H0 (W (j + 1)), bk := fun s H => RunS X rest D s H })
    (hd : ∀ G1 O1, W ds.length G1 O1 → Go X B0 H0 G1 O1 rest D) (hf : ∀ x, foldedSetIterable iter X.env x = pure x := by intro _; rfl) : Go X B0 H0 G O (.For tg iter body [] pos :: rest) D := fun s H ⟨B, a⟩ =>
  run_c (ps_for hp hc pi_wk pg_wk pss_wk hf) (hi s B H a.sl a.gr.s _ fun J Gd B1 H1 g1 w hG => by
    have a1 := a.grow g1
    refine for_it (g := fun v s H Q => RunG X tg v Q s H) (tb := fun D s H => RunS X body D s H) w (fun j s H => InW X.K B1 H0 (W j) s H) ⟨G, O, w0, B1, a1.root⟩ ?_ ?_ ?_
    · rintro j s H _ ⟨G, O, _, B, a⟩
      exact hG H (a.gr.b.trans a.gr.s)
    · rintro j v s1 H2 H3 hj ⟨G2, O2, w2, B2, a2⟩ y
      obtain ⟨d, B3, hd, g3, r3⟩ := y B2 a2.gr.b a2.gr.s
      obtain ⟨G4, ht, k⟩ := hs B1 a1.up j d G2 O2 hd w2
      have a3 := a2.grow g3
      exact ht s1 B3 H3 v a3.sl g3.s r3 _ fun s' hs' => k s' H3 ⟨B3, a3.slots hs'⟩
    · rintro s1 H2 ⟨G2, O2, w2, i2⟩
      exact hd G2 O2 w2 s1 H2 (a1.up.in_ i2))
/-- while, by what holds and a measure -/
theorem go_while (hp : PassesOwn (model X.prog X.w) X.A X.env X.xe) (W : Nat → List (Option Dt) → List (Addr × Ob) → Prop) {m0 : Nat} (w0 : W m0 G O)
    (hs : ∀ (m : Nat) G1 O1, W m G1 O1 → ∃ b, ET X G1 c b ∧ (b = true → Go X B0 H0 G1 O1 body { D with nx := InW X.K B0 H0 (fun G O => ∃ m', m' < m ∧ W m' G O), ct := InW X.K B0 H0 (fun G O => ∃ m', m' < m ∧ W m' G O), bk := fun s H => RunS X rest D s H }) ∧
      (b = false → Go X B0 H0 G1 O1 rest D)) : Go X B0 H0 G O (.While c body [] pos :: rest) D := fun s H a =>
  run_c (ps_while hp pt_wk pss_wk) (by
    refine ⟨fun m s H => InW X.K B0 H0 (W m) s H, ⟨m0, G, O, w0, a⟩, ?_⟩
    rintro m s1 H1 ⟨G1, O1, w1, B1, a1⟩
    obtain ⟨b, ht, h1, h2⟩ := hs m G1 O1 w1
    refine ht s1 B1 H1 a1.sl a1.gr.s _ fun B2 H2 g2 => ?_
    have a2 := a1.grow g2
    cases b with
    | true =>
      refine iteT ⟨InW X.K B0 H0 (fun G O => ∃ m', m' < m ∧ W m' G O), ?_, h1 rfl s1 H2 ⟨B2, a2⟩⟩
      rintro s3 H3 ⟨G3, O3, ⟨m', hm, w3⟩, i3⟩
      exact ⟨m', hm, G3, O3, w3, i3⟩
    | false => exact iteF (h2 rfl s1 H2 ⟨B2, a2⟩))
/-- y = [.. for ..] -/
theorem go_setLc {elt : Expr} {ifs : List Expr} {scope : Scope} {spos py : Pos} {A : Type} {xs : List A} {enc g : A → Dt} {P : A → Bool} {n : Nat} (hit : PIt X G (.Name x px) iter (xs.map enc)) (hlt : i < G.length)
    (ht : ∀ a ∈ xs, ∀ s H C cl fp, ETs (Bk X scope s H C cl fp) (G.set i (some (enc a))) ifs (P a))
    (he : ∀ a ∈ xs, P a = true → ∀ s H C cl fp, EV (Bk X scope s H C cl fp) (G.set i (some (enc a))) elt (g a)) (hsz : xs.length ≤ sizeLine)
    (k : Go X B0 H0 (G.set n (some (.lst ((xs.filter P).map g)))) O rest D) (hc : X.calm = true) (hN : X.N.Nodup) (hy : X.N[n]? = some y) (hyl : X.env.scope.names.lookup y = some .local)
    (hsw : swapsWith (.ListComp elt [⟨.Name x px, iter, ifs, 0⟩] scope pos) (some (.Name y py)) spos.line X.env = pure true) (ok : BlkOk X.N X.env.scope scope [(x, i)])
    (hg : ∀ (s : Shared) (H : Hp) (C : Addr) (cl : List (Str × Addr)) (fp : List Addr), L2.PG (Bk X scope s H C cl fp) (.Name x px) (gName i))
    (hf : ∀ x, foldedSetIterable iter X.env x = pure x := by intro _; rfl) : Go X B0 H0 G O (.Assign [.Name y py] (.ListComp elt [⟨.Name x px, iter, ifs, 0⟩] scope pos) spos :: rest) D := fun s H ⟨B, a⟩ =>
  run_c (ps_setLc (own := [(x, i)]) (tt := ttU X scope ifs) (te := teU X scope elt) hc hN hy hyl hsw pi_wk ok hg (fun s0 H0 C cl fp => ⟨fun pins sh s H Q I h => (h s0 H0 C cl fp).run pins sh I⟩) (fun s0 H0 C cl fp => ⟨fun pins sh s H Q I h => (h s0 H0 C cl fp).run pins sh I⟩) hf)
    (lc_read hit hlt ht he hsz a.sl a.gr.s fun v B1 H1 g1 r1 => k _ _ ⟨B1, (a.grow g1).set r1 n⟩)
end

/-! ### defs -/
section
variable {P : Program} {w : World} {K : PySem.W.Frag} {mg : Str → Option Value} {base : Heap} {x qual : Str} {st : Stmt} {f : Addr} {fd : FuncData}
abbrev FnP (K : PySem.W.Frag) (x qual : Str) (st : Stmt) (f : Addr) (fd : FuncData) : Prop := FunD K x qual (defArgs st) (defBody st) (defScope st) [] [] f fd
theorem spT.len {T : Type} {args : T → List Dt} {pre : T → Prop} {res : T → Dt → Prop} {n : Nat} (h : ∀ i, (args i).length = n) : ∀ vs H Q E, spT K args pre res vs H Q E → vs.length = n := fun vs H Q E ⟨i, B, _, _, r, _⟩ => by rw [r.length, h]
theorem sl_start {B : Hp} {ds : List Dt} {vs : List V} {N : List Str} (r : RepAll K B ds vs) (hl : ds.length ≤ N.length) : Sl K B (ds.map some ++ List.replicate (N.length - ds.length) none) (L2.start N vs) := by
  unfold L2.start
  refine ⟨by simp [r.length], fun i d h => ?_⟩
  by_cases hi : i < ds.length
  · rw [List.getElem?_append_left (by simpa using hi), List.getElem?_map] at h
    cases e : ds[i]? with
    | none => rw [e] at h; cases h
    | some d' =>
      rw [e] at h
      cases h
      obtain ⟨v, hv, rv⟩ := r.get e
      refine ⟨v, ?_, rv⟩
      rw [List.getElem?_append_left (by simp [r.length]; exact hi), List.getElem?_map, hv]
      rfl
  · rw [List.getElem?_append_right (by simpa using hi), List.getElem?_replicate] at h
    split at h <;> cases h
/-- THE RULE for a def over data -/
theorem fn_ok {N ps : List Str} {k : Nat} {T : Type} {args : T → List Dt} {pre : T → Prop} {res : T → Dt → Prop} (F : FnP K x qual st f fd) (S : FnScope N ps (defScope st)) (hl : ∀ i, (args i).length = ps.length)
    (body : ∀ (i : T) (cdv : Value) (A : Around) (outer : List Env) (s : Shared) (H0 : Hp) (E : XK) (B0 : Hp) (D : Ends), Room k (A.deeper (envOfC qual (defScope st) s.heap.objs.size f cdv)) → pre i → (∀ B H, Gr B0 H0 B H → res i .non → ∀ s, D.nx s H) → Rt K B0 H0 (res i) D.rt →
      Go (cxOf CX0 P w K mg base N qual (defScope st) f cdv A outer s H0 E).nox B0 H0 ((args i).map some ++ List.replicate (N.length - (args i).length) none) [] (defBody st) D) : FnOk P w K mg base CX0 (k + 1) f fd ps (spT K args pre res) := by
  refine F.ok S (spT.len hl) fun cdv A outer s H vs Q E hr h => ?_
  obtain ⟨i, B, hp, sb, r, q⟩ := h
  have hN : (args i).length ≤ N.length := by
    have := congrArg List.length S.pre
    rw [List.length_take] at this
    rw [hl]
    omega
  refine ⟨fun D σ H => D = { nx := fun _ H' => Q .non H', rt := Q } ∧ RunS (cxOf CX0 P w K mg base N qual (defScope st) f cdv A outer s _ E).nox (defBody st) D σ H, PSs.nox ⟨fun pins sh σ H D I h => h.2.run pins sh I⟩, rfl, ?_⟩
  exact body i cdv A outer s H E B _ hr hp (fun B' H' g hres s => q .non .non B' H' hres g rfl) (fun d v B' H' hd g rv => q d v B' H' hd g rv) _ _ ⟨B, .refl sb, sl_start r hN, fun p ob hp => (by cases hp), List.nodup_nil⟩
end
end Dh
end SDhStmt2

section SDhText
set_option Elab.async false
set_option linter.all false
set_option maxRecDepth 100000
set_option maxHeartbeats 2000000
namespace Dh
open PySem PySem.Spec PyProof.Rows L2
/-! ### the text by places -/
def tops (i : Nat) : Stmt := PySem.Challenge.pw_dialecthall_k88_whole_sorted_to_groups.main.body.getD i (.Pass ⟨0, 0, 0, 0⟩)
abbrev s_TooMany_init : Stmt := inClass (tops 5) 0
theorem sc_TooMany_init : FnScope ["self", "most"] ["self", "most"] (defScope s_TooMany_init) := ⟨rfl, rfl, rfl, by decide +kernel, rfl, by decide +kernel, by decide +kernel⟩
abbrev s_Broken_init : Stmt := inClass (tops 6) 0
theorem sc_Broken_init : FnScope ["self", "row", "place", "word"] ["self", "row", "place", "word"] (defScope s_Broken_init) := ⟨rfl, rfl, rfl, by decide +kernel, rfl, by decide +kernel, by decide +kernel⟩
abbrev s_are_signs : Stmt := tops 12
theorem sc_are_signs : FnScope ["thing", "sign"] ["thing"] (defScope s_are_signs) := ⟨rfl, rfl, rfl, by decide +kernel, rfl, by decide +kernel, by decide +kernel⟩
abbrev s_is_text : Stmt := tops 13
theorem sc_is_text : FnScope ["thing"] ["thing"] (defScope s_is_text) := ⟨rfl, rfl, rfl, by decide +kernel, rfl, by decide +kernel, by decide +kernel⟩
abbrev s_others : Stmt := tops 14
theorem sc_others : FnScope ["some", "many", "sign"] ["some", "many"] (defScope s_others) := ⟨rfl, rfl, rfl, by decide +kernel, rfl, by decide +kernel, by decide +kernel⟩
abbrev s_is_live : Stmt := tops 17
theorem sc_is_live : FnScope ["dialect", "state", "word", "quote"] ["dialect", "state"] (defScope s_is_live) := ⟨rfl, rfl, rfl, by decide +kernel, rfl, by decide +kernel, by decide +kernel⟩
abbrev s_ending : Stmt := tops 18
theorem sc_ending : FnScope ["dialect", "state", "word", "quote"] ["dialect", "state"] (defScope s_ending) := ⟨rfl, rfl, rfl, by decide +kernel, rfl, by decide +kernel, by decide +kernel⟩
abbrev s_Place_init : Stmt := inClass (tops 24) 0
theorem sc_Place_init : FnScope ["self", "dialect", "state"] ["self", "dialect", "state"] (defScope s_Place_init) := ⟨rfl, rfl, rfl, by decide +kernel, rfl, by decide +kernel, by decide +kernel⟩
abbrev s_Place_is_barred : Stmt := inClass (tops 24) 1
theorem sc_Place_is_barred : FnScope ["self", "sign"] ["self", "sign"] (defScope s_Place_is_barred) := ⟨rfl, rfl, rfl, by decide +kernel, rfl, by decide +kernel, by decide +kernel⟩
abbrev s_Place_step : Stmt := inClass (tops 24) 2
theorem sc_Place_step : FnScope ["self", "sign"] ["self", "sign"] (defScope s_Place_step) := ⟨rfl, rfl, rfl, by decide +kernel, rfl, by decide +kernel, by decide +kernel⟩
abbrev s_Plain_own : Stmt := inClass (tops 25) 0
theorem sc_Plain_own : FnScope ["self", "sign"] ["self", "sign"] (defScope s_Plain_own) := ⟨rfl, rfl, rfl, by decide +kernel, rfl, by decide +kernel, by decide +kernel⟩
abbrev s_Plain_opens : Stmt := inClass (tops 25) 1
theorem sc_Plain_opens : FnScope ["self", "sign"] ["self", "sign"] (defScope s_Plain_opens) := ⟨rfl, rfl, rfl, by decide +kernel, rfl, by decide +kernel, by decide +kernel⟩
abbrev s_Plain_step : Stmt := inClass (tops 25) 2
theorem sc_Plain_step : FnScope ["self", "sign"] ["self", "sign"] (defScope s_Plain_step) := ⟨rfl, rfl, rfl, by decide +kernel, rfl, by decide +kernel, by decide +kernel⟩
abbrev s_Fresh_own : Stmt := inClass (tops 26) 0
theorem sc_Fresh_own : FnScope ["self", "sign"] ["self", "sign"] (defScope s_Fresh_own) := ⟨rfl, rfl, rfl, by decide +kernel, rfl, by decide +kernel, by decide +kernel⟩
abbrev s_Fresh_opens : Stmt := inClass (tops 26) 1
theorem sc_Fresh_opens : FnScope ["self", "sign"] ["self", "sign"] (defScope s_Fresh_opens) := ⟨rfl, rfl, rfl, by decide +kernel, rfl, by decide +kernel, by decide +kernel⟩
abbrev s_Within_step : Stmt := inClass (tops 27) 0
theorem sc_Within_step : FnScope ["self", "sign", "quote"] ["self", "sign"] (defScope s_Within_step) := ⟨rfl, rfl, rfl, by decide +kernel, rfl, by decide +kernel, by decide +kernel⟩
abbrev s_Behind_step : Stmt := inClass (tops 28) 0
theorem sc_Behind_step : FnScope ["self", "sign"] ["self", "sign"] (defScope s_Behind_step) := ⟨rfl, rfl, rfl, by decide +kernel, rfl, by decide +kernel, by decide +kernel⟩
abbrev s_Doubt_step : Stmt := inClass (tops 29) 0
theorem sc_Doubt_step : FnScope ["self", "sign"] ["self", "sign"] (defScope s_Doubt_step) := ⟨rfl, rfl, rfl, by decide +kernel, rfl, by decide +kernel, by decide +kernel⟩
abbrev s_Freed_step : Stmt := inClass (tops 30) 0
theorem sc_Freed_step : FnScope ["self", "sign"] ["self", "sign"] (defScope s_Freed_step) := ⟨rfl, rfl, rfl, by decide +kernel, rfl, by decide +kernel, by decide +kernel⟩
abbrev s_Turn_init : Stmt := inClass (tops 31) 0
theorem sc_Turn_init : FnScope ["self", "dialect"] ["self", "dialect"] (defScope s_Turn_init) := ⟨rfl, rfl, rfl, by decide +kernel, rfl, by decide +kernel, by decide +kernel⟩
abbrev s_Turn_at_state : Stmt := inClass (tops 31) 1
theorem sc_Turn_at_state : FnScope ["self", "state", "word"] ["self", "state"] (defScope s_Turn_at_state) := ⟨rfl, rfl, rfl, by decide +kernel, rfl, by decide +kernel, by decide +kernel⟩
abbrev s_Turn_step : Stmt := inClass (tops 31) 2
theorem sc_Turn_step : FnScope ["self", "state", "sign"] ["self", "state", "sign"] (defScope s_Turn_step) := ⟨rfl, rfl, rfl, by decide +kernel, rfl, by decide +kernel, by decide +kernel⟩
abbrev s_signs_for : Stmt := tops 34
theorem sc_signs_for : FnScope ["dialects", "found", "some", "sign", "dialect"] ["dialects"] (defScope s_signs_for) := ⟨rfl, rfl, rfl, by decide +kernel, rfl, by decide +kernel, by decide +kernel⟩
abbrev s_led : Stmt := tops 35
theorem sc_led : FnScope ["dialect", "state", "sign", "kind", "behind"] ["dialect", "state", "sign"] (defScope s_led) := ⟨rfl, rfl, rfl, by decide +kernel, rfl, by decide +kernel, by decide +kernel⟩
abbrev s_parting_p : Stmt := tops 37
theorem sc_parting_p : FnScope ["one", "other", "here", "there", "left", "right"] ["one", "other", "here", "there"] (defScope s_parting_p) := ⟨rfl, rfl, rfl, by decide +kernel, rfl, by decide +kernel, by decide +kernel⟩
abbrev s_compare : Stmt := tops 39
theorem sc_compare : FnScope ["one", "other", "texts", "pairs", "best", "at", "pair", "text", "sign", "here", "there", "more"] ["one", "other"] (defScope s_compare) := ⟨rfl, rfl, rfl, by decide +kernel, rfl, by decide +kernel, by decide +kernel⟩
abbrev s_walked : Stmt := tops 41
theorem sc_walked : FnScope ["dialect", "text", "turn", "state", "kinds", "sign", "kind", "then"] ["dialect", "text"] (defScope s_walked) := ⟨rfl, rfl, rfl, by decide +kernel, rfl, by decide +kernel, by decide +kernel⟩
abbrev s_kinds_of : Stmt := tops 42
theorem sc_kinds_of : FnScope ["dialect", "text"] ["dialect", "text"] (defScope s_kinds_of) := ⟨rfl, rfl, rfl, by decide +kernel, rfl, by decide +kernel, by decide +kernel⟩
abbrev s_table_of : Stmt := tops 43
theorem sc_table_of : FnScope ["text", "kinds", "table", "row", "cell", "sign", "kind"] ["text", "kinds"] (defScope s_table_of) := ⟨rfl, rfl, rfl, by decide +kernel, rfl, by decide +kernel, by decide +kernel⟩
abbrev s_furthest : Stmt := tops 44
theorem sc_furthest : FnScope ["dialect", "text", "kinds", "state", "word"] ["dialect", "text"] (defScope s_furthest) := ⟨rfl, rfl, rfl, by decide +kernel, rfl, by decide +kernel, by decide +kernel⟩
abbrev s_read : Stmt := tops 45
theorem sc_read : FnScope ["dialect", "text", "found"] ["dialect", "text"] (defScope s_read) := ⟨rfl, rfl, rfl, by decide +kernel, rfl, by decide +kernel, by decide +kernel⟩
abbrev s_need_few : Stmt := tops 48
theorem sc_need_few : FnScope ["dialects", "most"] ["dialects", "most"] (defScope s_need_few) := ⟨rfl, rfl, rfl, by decide +kernel, rfl, by decide +kernel, by decide +kernel⟩
abbrev s_answer_of : Stmt := tops 49
theorem sc_answer_of : FnScope ["dialect", "text", "table"] ["dialect", "text"] (defScope s_answer_of) := ⟨rfl, rfl, rfl, by decide +kernel, rfl, by decide +kernel, by decide +kernel⟩
abbrev s_parting_g : Stmt := tops 50
theorem sc_parting_g : FnScope ["one", "other", "told"] ["one", "other"] (defScope s_parting_g) := ⟨rfl, rfl, rfl, by decide +kernel, rfl, by decide +kernel, by decide +kernel⟩
abbrev s_groups : Stmt := tops 52
theorem sc_groups : FnScope ["dialects", "made", "place", "dialect", "group", "some"] ["dialects"] (defScope s_groups) := ⟨rfl, rfl, rfl, by decide +kernel, rfl, by decide +kernel, by decide +kernel⟩
abbrev s_are_told : Stmt := tops 53
theorem sc_are_told : FnScope ["answers", "at"] ["answers"] (defScope s_are_told) := ⟨rfl, rfl, rfl, by decide +kernel, rfl, by decide +kernel, by decide +kernel⟩
abbrev s_answers_of : Stmt := tops 54
theorem sc_answers_of : FnScope ["dialects", "texts", "dialect", "text"] ["dialects", "texts"] (defScope s_answers_of) := ⟨rfl, rfl, rfl, by decide +kernel, rfl, by decide +kernel, by decide +kernel⟩
abbrev s_telling : Stmt := tops 55
theorem sc_telling : FnScope ["dialects", "firsts", "texts", "at", "other", "one", "two", "text", "rest", "group"] ["dialects"] (defScope s_telling) := ⟨rfl, rfl, rfl, by decide +kernel, rfl, by decide +kernel, by decide +kernel⟩
abbrev s_parts_by : Stmt := tops 59
theorem sc_parts_by : FnScope ["answers", "at", "places", "parts", "place", "part", "some"] ["answers", "at", "places"] (defScope s_parts_by) := ⟨rfl, rfl, rfl, by decide +kernel, rfl, by decide +kernel, by decide +kernel⟩
abbrev s_best_for : Stmt := tops 60
theorem sc_best_for : FnScope ["answers", "many", "places", "kept", "key", "best", "at", "parts", "branches", "deep", "part", "branch"] ["answers", "many", "places", "kept"] (defScope s_best_for) := ⟨rfl, rfl, rfl, by decide +kernel, rfl, by decide +kernel, by decide +kernel⟩
abbrev s_tree_of : Stmt := tops 61
theorem sc_tree_of : FnScope ["dialects", "texts", "text", "answers"] ["dialects", "texts"] (defScope s_tree_of) := ⟨rfl, rfl, rfl, by decide +kernel, rfl, by decide +kernel, by decide +kernel⟩
abbrev s_depth_of : Stmt := tops 62
theorem sc_depth_of : FnScope ["tree", "branch"] ["tree"] (defScope s_depth_of) := ⟨rfl, rfl, rfl, by decide +kernel, rfl, by decide +kernel, by decide +kernel⟩
abbrev s_is_place : Stmt := tops 63
theorem sc_is_place : FnScope ["thing", "many"] ["thing", "many"] (defScope s_is_place) := ⟨rfl, rfl, rfl, by decide +kernel, rfl, by decide +kernel, by decide +kernel⟩
abbrev s_is_leaf : Stmt := tops 64
theorem sc_is_leaf : FnScope ["answers", "tree", "places", "at", "place"] ["answers", "tree", "places"] (defScope s_is_leaf) := ⟨rfl, rfl, rfl, by decide +kernel, rfl, by decide +kernel, by decide +kernel⟩
abbrev s_sorts_places : Stmt := tops 65
theorem sc_sorts_places : FnScope ["answers", "many", "tree", "places", "parts", "part", "branch"] ["answers", "many", "tree", "places"] (defScope s_sorts_places) := ⟨rfl, rfl, rfl, by decide +kernel, rfl, by decide +kernel, by decide +kernel⟩
abbrev s_sorts : Stmt := tops 66
theorem sc_sorts : FnScope ["dialects", "texts", "tree"] ["dialects", "texts", "tree"] (defScope s_sorts) := ⟨rfl, rfl, rfl, by decide +kernel, rfl, by decide +kernel, by decide +kernel⟩
abbrev s_Asker_init : Stmt := inClass (tops 68) 0
theorem sc_Asker_init : FnScope ["self", "dialects"] ["self", "dialects"] (defScope s_Asker_init) := ⟨rfl, rfl, rfl, by decide +kernel, rfl, by decide +kernel, by decide +kernel⟩
abbrev s_Asker_left : Stmt := inClass (tops 68) 1
theorem sc_Asker_left : FnScope ["self"] ["self"] (defScope s_Asker_left) := ⟨rfl, rfl, rfl, by decide +kernel, rfl, by decide +kernel, by decide +kernel⟩
abbrev s_Asker_asked : Stmt := inClass (tops 68) 2
theorem sc_Asker_asked : FnScope ["self"] ["self"] (defScope s_Asker_asked) := ⟨rfl, rfl, rfl, by decide +kernel, rfl, by decide +kernel, by decide +kernel⟩
abbrev s_Asker_ask : Stmt := inClass (tops 68) 3
theorem sc_Asker_ask : FnScope ["self", "place"] ["self"] (defScope s_Asker_ask) := ⟨rfl, rfl, rfl, by decide +kernel, rfl, by decide +kernel, by decide +kernel⟩
abbrev s_Asker_hear : Stmt := inClass (tops 68) 4
theorem sc_Asker_hear : FnScope ["self", "answer", "place"] ["self", "answer"] (defScope s_Asker_hear) := ⟨rfl, rfl, rfl, by decide +kernel, rfl, by decide +kernel, by decide +kernel⟩
abbrev s_check_role : Stmt := tops 73
theorem sc_check_role : FnScope ["thing", "least", "most", "sign"] ["thing", "least", "most"] (defScope s_check_role) := ⟨rfl, rfl, rfl, by decide +kernel, rfl, by decide +kernel, by decide +kernel⟩
abbrev s_Dialect_init : Stmt := inClass (tops 74) 0
theorem sc_Dialect_init : FnScope ["self", "parts", "quotes", "frees", "twin", "wide", "thin", "stray", "flag"] ["self", "parts", "quotes", "frees", "twin", "wide", "thin", "stray"] (defScope s_Dialect_init) := ⟨rfl, rfl, rfl, by decide +kernel, rfl, by decide +kernel, by decide +kernel⟩
abbrev s_Dialect_told : Stmt := inClass (tops 74) 1
theorem sc_Dialect_told : FnScope ["self"] ["self"] (defScope s_Dialect_told) := ⟨rfl, rfl, rfl, by decide +kernel, rfl, by decide +kernel, by decide +kernel⟩
abbrev s_Dialect_special : Stmt := inClass (tops 74) 2
theorem sc_Dialect_special : FnScope ["self", "found", "sign"] ["self"] (defScope s_Dialect_special) := ⟨rfl, rfl, rfl, by decide +kernel, rfl, by decide +kernel, by decide +kernel⟩
abbrev s_dialect_of : Stmt := tops 75
theorem sc_dialect_of : FnScope ["told"] ["told"] (defScope s_dialect_of) := ⟨rfl, rfl, rfl, by decide +kernel, rfl, by decide +kernel, by decide +kernel⟩
abbrev s_law_cell_at : Stmt := tops 77
theorem sc_law_cell_at : FnScope ["_law_script", "_law_k"] ["_law_script", "_law_k"] (defScope s_law_cell_at) := ⟨rfl, rfl, rfl, by decide +kernel, rfl, by decide +kernel, by decide +kernel⟩
abbrev s_law_mixed : Stmt := tops 78
theorem sc_law_mixed : FnScope ["_law_number_here", "_law_salt", "_law_one", "_law_two"] ["_law_number_here", "_law_salt"] (defScope s_law_mixed) := ⟨rfl, rfl, rfl, by decide +kernel, rfl, by decide +kernel, by decide +kernel⟩
abbrev s_law_number : Stmt := tops 79
theorem sc_law_number : FnScope ["_law_cell", "_law_salt", "_law_number_here", "_law_high"] ["_law_cell", "_law_salt"] (defScope s_law_number) := ⟨rfl, rfl, rfl, by decide +kernel, rfl, by decide +kernel, by decide +kernel⟩
abbrev s_law_some : Stmt := tops 80
theorem sc_law_some : FnScope ["_law_number_here", "_law_many", "_law_menu", "_law_found", "_law_k", "_law_sign"] ["_law_number_here", "_law_many", "_law_menu"] (defScope s_law_some) := ⟨rfl, rfl, rfl, by decide +kernel, rfl, by decide +kernel, by decide +kernel⟩
abbrev s_law_menus : Stmt := tops 81
theorem sc_law_menus : FnScope ["_law_way", "_law_every"] ["_law_way"] (defScope s_law_menus) := ⟨rfl, rfl, rfl, by decide +kernel, rfl, by decide +kernel, by decide +kernel⟩
abbrev s_law_told : Stmt := tops 82
theorem sc_law_told : FnScope ["_law_cell", "_law_number_here", "_law_flags", "_law_sizes", "_law_menus_here", "_law_parts_here", "_law_quotes", "_law_frees", "_law_truths"] ["_law_cell"] (defScope s_law_told) := ⟨rfl, rfl, rfl, by decide +kernel, rfl, by decide +kernel, by decide +kernel⟩
abbrev s_law_drawn : Stmt := tops 83
theorem sc_law_drawn : FnScope ["_law_cell", "_law_many", "_law_number_here", "_law_found", "_law_k"] ["_law_cell", "_law_many"] (defScope s_law_drawn) := ⟨rfl, rfl, rfl, by decide +kernel, rfl, by decide +kernel, by decide +kernel⟩
abbrev s_law_step : Stmt := tops 84
theorem sc_law_step : FnScope ["_law_told_here", "_law_state", "_law_sign", "_law_parts_here", "_law_quotes", "_law_frees", "_law_twin", "_law_wide", "_law_thin", "_law_stray", "_law_word", "_law_quote"] ["_law_told_here", "_law_state", "_law_sign"] (defScope s_law_step) := ⟨rfl, rfl, rfl, by decide +kernel, rfl, by decide +kernel, by decide +kernel⟩
abbrev s_law_open : Stmt := tops 85
theorem sc_law_open : FnScope ["_law_told_here", "_law_state", "_law_sign", "_law_parts_here", "_law_quotes", "_law_frees", "_law_twin", "_law_wide", "_law_thin", "_law_stray"] ["_law_told_here", "_law_state", "_law_sign"] (defScope s_law_open) := ⟨rfl, rfl, rfl, by decide +kernel, rfl, by decide +kernel, by decide +kernel⟩
abbrev s_law_walked : Stmt := tops 86
theorem sc_law_walked : FnScope ["_law_told_here", "_law_text", "_law_state", "_law_kinds", "_law_k", "_law_kind", "_law_then"] ["_law_told_here", "_law_text"] (defScope s_law_walked) := ⟨rfl, rfl, rfl, by decide +kernel, rfl, by decide +kernel, by decide +kernel⟩
abbrev s_law_table : Stmt := tops 87
theorem sc_law_table : FnScope ["_law_text", "_law_kinds", "_law_table_here", "_law_row", "_law_k"] ["_law_text", "_law_kinds"] (defScope s_law_table) := ⟨rfl, rfl, rfl, by decide +kernel, rfl, by decide +kernel, by decide +kernel⟩
abbrev s_law_led : Stmt := tops 88
theorem sc_law_led : FnScope ["_law_told_here", "_law_state", "_law_sign", "_law_kind", "_law_then"] ["_law_told_here", "_law_state", "_law_sign"] (defScope s_law_led) := ⟨rfl, rfl, rfl, by decide +kernel, rfl, by decide +kernel, by decide +kernel⟩
abbrev s_law_alike : Stmt := tops 89
theorem sc_law_alike : FnScope ["_law_one", "_law_other", "_law_signs", "_law_letters", "_law_pairs", "_law_known", "_law_at", "_law_here", "_law_there", "_law_k", "_law_left", "_law_right", "_law_sign"] ["_law_one", "_law_other"] (defScope s_law_alike) := ⟨rfl, rfl, rfl, by decide +kernel, rfl, by decide +kernel, by decide +kernel⟩
abbrev s_law_kin : Stmt := tops 90
theorem sc_law_kin : FnScope ["_law_told_here", "_law_x", "_law_way", "_law_some_here"] ["_law_told_here", "_law_x"] (defScope s_law_kin) := ⟨rfl, rfl, rfl, by decide +kernel, rfl, by decide +kernel, by decide +kernel⟩
abbrev s_law_tolds : Stmt := tops 91
theorem sc_law_tolds : FnScope ["_law_cells", "_law_many", "_law_tolds_here", "_law_k", "_law_cell", "_law_xs"] ["_law_cells", "_law_many"] (defScope s_law_tolds) := ⟨rfl, rfl, rfl, by decide +kernel, rfl, by decide +kernel, by decide +kernel⟩
abbrev s_law_answer : Stmt := tops 92
theorem sc_law_answer : FnScope ["_law_told_here", "_law_text", "_law_kinds", "_law_word"] ["_law_told_here", "_law_text"] (defScope s_law_answer) := ⟨rfl, rfl, rfl, by decide +kernel, rfl, by decide +kernel, by decide +kernel⟩
abbrev s_law_groups : Stmt := tops 93
theorem sc_law_groups : FnScope ["_law_tolds_here", "_law_made", "_law_place", "_law_group", "_law_some_here"] ["_law_tolds_here"] (defScope s_law_groups) := ⟨rfl, rfl, rfl, by decide +kernel, rfl, by decide +kernel, by decide +kernel⟩
abbrev s_law_parts : Stmt := tops 94
theorem sc_law_parts : FnScope ["_law_answers", "_law_at", "_law_places", "_law_parts_here", "_law_place", "_law_same", "_law_part"] ["_law_answers", "_law_at", "_law_places"] (defScope s_law_parts) := ⟨rfl, rfl, rfl, by decide +kernel, rfl, by decide +kernel, by decide +kernel⟩
abbrev s_law_leaf : Stmt := tops 95
theorem sc_law_leaf : FnScope ["_law_tree", "_law_answers", "_law_place", "_law_places", "_law_asked", "_law_parts_here", "_law_at", "_law_k"] ["_law_tree", "_law_answers", "_law_place"] (defScope s_law_leaf) := ⟨rfl, rfl, rfl, by decide +kernel, rfl, by decide +kernel, by decide +kernel⟩
abbrev s_law_found_out : Stmt := tops 96
theorem sc_law_found_out : FnScope ["_law_asker", "_law_told_here", "_law_turn", "_law_text"] ["_law_asker", "_law_told_here"] (defScope s_law_found_out) := ⟨rfl, rfl, rfl, by decide +kernel, rfl, by decide +kernel, by decide +kernel⟩
abbrev s_law : Stmt := tops 97
theorem sc_law : FnScope ["_law_script", "_law_many", "_law_tolds_here", "_law_lent", "_law_made", "_law_texts", "_law_answers", "_law_tree", "_law_place", "_law_leaf_here", "_law_asked", "_law_told_here", "_law_text", "_law_group"] ["_law_script"] (defScope s_law) := ⟨rfl, rfl, rfl, by decide +kernel, rfl, by decide +kernel, by decide +kernel⟩
end Dh
end SDhText

section SDhEnc
set_option Elab.async false
set_option linter.all false
set_option maxRecDepth 100000
set_option maxHeartbeats 2000000
/-! How dialects, states, texts stand as data; equality of data; what the top leaves. -/
namespace Dh
open PySem PySem.Spec PyProof.Rows L2

/-! ### texts -/
abbrev S (l : List Nat) : Str := ⟨l.toArray⟩
abbrev sg (c : Nat) : Str := ⟨#[c]⟩
theorem S_len (l : List Nat) : (S l).length = l.length := by show l.toArray.size = _; simp
theorem S_app (l m : List Nat) : S l ++ S m = S (l ++ m) := by
  show (⟨l.toArray ++ m.toArray⟩ : Str) = ⟨(l ++ m).toArray⟩
  simp
theorem S_inj {l m : List Nat} : S l = S m ↔ l = m := by
  constructor
  · intro h
    injection h with h
    simpa using congrArg Array.toList h
  · rintro rfl; rfl
theorem S_beq (l m : List Nat) : ((S l == S m) : Bool) = decide (l = m) := by
  by_cases h : l = m
  · subst h; simp
  · rw [decide_eq_false h]
    exact beq_eq_false_iff_ne.mpr fun z => h (S_inj.mp z)
theorem S_cps (l : List Nat) : (S l).cps.toList = l := by simp
theorem str_nil : ("" : Str) = S [] := by decide +kernel
theorem str_line : ("\n" : Str) = S [10] := by decide +kernel
theorem str_blank : (" " : Str) = S [32] := by decide +kernel
theorem sg_nil (c : Nat) : ((sg c == ("" : Str)) : Bool) = false := by rw [str_nil]; exact (S_beq [c] []).trans (by simp)
theorem sg_sg (c q : Nat) : ((sg c == sg q) : Bool) = decide (c = q) := by rw [show sg c = S [c] from rfl, show sg q = S [q] from rfl, S_beq]; simp
theorem sg_line (c : Nat) : ((sg c == ("\n" : Str)) : Bool) = decide (c = 10) := by rw [str_line]; exact sg_sg c 10
theorem sg_blank (c : Nat) : ((sg c == (" " : Str)) : Bool) = decide (c = 32) := by rw [str_blank]; exact sg_sg c 32

/-! ### what stands where -/
structure Ad where
  dia : Addr
  turn : Addr
  plain : Addr
  fresh : Addr
  within : Addr
  behind : Addr
  doubt : Addr
  freed : Addr
  asker : Addr
def dnames : List Str := ["parts", "quotes", "frees", "twin", "wide", "thin", "stray"]
def dvals (D : Dia) : List Dt := [.str (S D.parts), .str (S D.quotes), .str (S D.frees), .bl D.twin, .bl D.wide, .bl D.thin, .bl D.stray]
def encD (A : Ad) (D : Dia) : Dt := .ins A.dia dnames (dvals D)
def wrd : Sta → Str
  | .row => "row" | .cell => "cell" | .plain => "plain" | .behind => "behind" | .freed => "freed" | .within _ => "within" | .doubt _ => "doubt" | .freedq _ => "freed"
def quo : Sta → Str
  | .within q => sg q | .doubt q => sg q | .freedq q => sg q | _ => ""
def encS (s : Sta) : Dt := .tup [.str (wrd s), .str (quo s)]
def kds : Kd → Str
  | .put => "put" | .part => "part" | .fin => "end" | .skip => "skip"
def wds : Wd → Str
  | .quote => "quote" | .line => "line" | .behind => "behind"
def encR : Res → Dt
  | .go k s => .tup [.str (kds k), encS s]
  | .fault w => .tup [.str "fault", .str (wds w)]
def encL : Option (Kd × Sta) → Dt
  | none => .non
  | some p => .tup [.str (kds p.1), encS p.2]
def tnames : List Str := ["dialect"]
def encTurn (A : Ad) (D : Dia) : Dt := .ins A.turn tnames [encD A D]
def pnames : List Str := ["dialect", "state"]
def encP (A : Ad) (C : Addr) (D : Dia) (s : Sta) : Dt := .ins C pnames [encD A D, encS s]
/-- a module's constant -/
def GC (K : PySem.W.Frag) (mg : Str → Option Value) (x : Str) (d : Dt) : Prop := ∃ (u : Value) (v : V), mg x = some u ∧ RelV v u ∧ ∀ B, Rep K B d v
theorem ev_gl {X : Cx} {G : List (Option Dt)} {x : Str} {d : Dt} {pos : Pos} (h : GC X.K X.mg x d) (hg : Gl X x) (hd : (x == ("__debug__" : Str)) = false := by decide) : EV X G (.Name x pos) d := by
  obtain ⟨u, v, hm, rv, r⟩ := h
  exact ev_glob hm rv r hg hd

/-! ### tests that are known -/
section
variable {X : Cx} {B0 H0 : Hp} {G G' : List (Option Dt)} {O O' : List (Addr × Ob)} {rest body els : List Stmt} {D : Ends} {e o c : Expr} {b : Bool} {pos : Pos}
theorem go_ifT (h : ET X G c b) (eb : b = true) (k : Go X B0 H0 G O body { D with nx := fun s H => RunS X rest D s H }) : Go X B0 H0 G O (.If c body els pos :: rest) D := go_if h (fun _ => k) fun z => (by rw [eb] at z; cases z)
theorem go_ifF (h : ET X G c b) (eb : b = false) (k : Go X B0 H0 G O els { D with nx := fun s H => RunS X rest D s H }) : Go X B0 H0 G O (.If c body els pos :: rest) D := go_if h (fun z => (by rw [eb] at z; cases z)) fun _ => k
theorem go_ifN (h : ET X G c b) (eb : b = false) (k : Go X B0 H0 G O rest D) : Go X B0 H0 G O (.If c body [] pos :: rest) D := go_ifF h eb (go_done k rfl)
/-- an if without else, its body leaves -/
theorem go_if0 (h : ET X G c b) (ht : b = true → Go X B0 H0 G O body { D with nx := fun s H => RunS X rest D s H }) (hf : b = false → Go X B0 H0 G O rest D) : Go X B0 H0 G O (.If c body [] pos :: rest) D := go_if h ht fun e => go_done (hf e) rfl
end

/-! ### equality of data -/
mutual
def toPy : Dt → PyData
  | .non => .none
  | .bl b => .bool b
  | .int i => .int i
  | .str s => .str s
  | .lst l => .list (toPys l)
  | .tup l => .tuple (toPys l)
  | .raw _ => .none
  | .ins _ _ _ => .none
  | .dic _ _ _ => .none
def toPys : List Dt → List PyData
  | [] => []
  | d :: ds => toPy d :: toPys ds
end
mutual
def pl : Dt → Bool
  | .raw _ => false
  | .ins _ _ _ => false
  | .dic _ _ _ => false
  | .lst l => pls l
  | .tup l => pls l
  | _ => true
def pls : List Dt → Bool
  | [] => true
  | d :: ds => pl d && pls ds
end
theorem toPys_map {A : Type} (f : A → Dt) : ∀ l : List A, toPys (l.map f) = l.map fun a => toPy (f a)
  | [] => rfl
  | a :: l => by rw [List.map_cons, List.map_cons, ← toPys_map f l]; rfl
theorem pls_map {A : Type} (f : A → Dt) : ∀ l : List A, (∀ a ∈ l, pl (f a) = true) → pls (l.map f) = true
  | [], _ => rfl
  | a :: l, h => by
    show (pl (f a) && pls (l.map f)) = true
    rw [h a List.mem_cons_self, pls_map f l fun x hx => h x (List.mem_cons_of_mem _ hx)]
    rfl
section
variable {K : PySem.W.Frag} {B : Hp}
mutual
theorem rep_dp : ∀ {d : Dt} {v : V}, pl d = true → Rep K B d v → Dp K B v (toPy d)
  | .non, v, _, h => by rw [show v = .non from h]; exact .non
  | .bl b, v, _, h => by rw [show v = .bl b from h]; exact .bl b
  | .int i, v, _, h => by rw [show v = .int i from h]; exact .int i
  | .str s, v, _, h => by rw [show v = .str s from h]; exact .str s
  | .lst l, v, hp, h => by
    obtain ⟨a, xs, rfl, h1, h2⟩ := h
    exact .lst h1 (rep_dps hp h2)
  | .tup l, v, hp, h => by
    obtain ⟨a, xs, rfl, h1, h2⟩ := h
    exact .tup h1 (rep_dps hp h2)
  | .raw _, _, hp, _ => absurd hp Bool.false_ne_true
  | .ins _ _ _, _, hp, _ => absurd hp Bool.false_ne_true
  | .dic _ _ _, _, hp, _ => absurd hp Bool.false_ne_true
theorem rep_dps : ∀ {l : List Dt} {xs : List V}, pls l = true → RepAll K B l xs → DpAll K B xs (toPys l)
  | [], xs, _, h => by rw [show xs = [] from h]; exact .nil
  | d :: ds, xs, hp, h => by
    obtain ⟨v, r, rfl, h2, h3⟩ := h
    have hp' : (pl d && pls ds) = true := hp
    rw [Bool.and_eq_true] at hp'
    exact .cons (rep_dp hp'.1 h2) (rep_dps hp'.2 h3)
end
end
theorem Dp.keep {K : PySem.W.Frag} {B H : Hp} {d : Dt} {v : V} (hp : pl d = true) (e : Same B H) (r : Rep K B d v) : Dp K H v (toPy d) := rep_dp hp (r.mono e)
/-- data of one type: told apart as the type tells; ok: it can be laid -/
structure ED {A : Type} [DecidableEq A] (n : Nat) (enc : A → Dt) (ok : A → Prop) : Prop where
  pl : ∀ a, pl (enc a) = true
  lay : ∀ a, ok a → (toPy (enc a)).canLay0 = true
  dep : ∀ a, (toPy (enc a)).depth ≤ n
  eq : ∀ a b, PyData.eqv (toPy (enc a)) (toPy (enc b)) = decide (a = b)
theorem ED.sh {A : Type} [DecidableEq A] {n : Nat} {enc : A → Dt} {ok : A → Prop} (h : ED n enc ok) (hn : n ≤ 64) {a : A} (o : ok a) : SeqAt.shaped (toPy (enc a)) = true := by
  unfold SeqAt.shaped
  rw [h.lay a o, decide_eq_true (Nat.le_trans (h.dep a) hn)]
  rfl
/-- signs that are none of the odd ones -/
def TxOk (l : List Nat) : Prop := ∀ c ∈ l, c < 0x110000
theorem layS {l : List Nat} (h : TxOk l) : (PyData.str (S l)).canLay0 = true := by
  rw [PyData.canLay0]
  unfold PyData.strOk
  rw [Array.all_eq_true_iff_forall_mem]
  intro c hc
  exact decide_eq_true (h c (by simpa using hc))
theorem sg_lt {l : List Nat} (h : ∀ c ∈ l, Sg c) : TxOk l := fun c hc => by
  rcases h c hc with rfl | h
  · decide
  · have := h.2.1; omega
theorem ed_text : ED 0 (fun l : List Nat => Dt.str (S l)) TxOk := ⟨fun _ => rfl, fun _ h => layS h, fun _ => by simp [toPy, PyData.depth], fun a b => S_beq a b⟩
theorem ed_int : ED 0 Dt.int (fun _ => True) := ⟨fun _ => rfl, fun _ _ => by simp [toPy, PyData.canLay0], fun _ => by simp [toPy, PyData.depth], fun a b => by
  show (a == b) = _
  rw [Bool.beq_eq_decide_eq]⟩
theorem ed_nat : ED 0 (fun n : Nat => Dt.int n) (fun _ => True) := ⟨fun _ => rfl, fun _ _ => by simp [toPy, PyData.canLay0], fun _ => by simp [toPy, PyData.depth], fun a b => by
  show ((a : Int) == (b : Int)) = _
  rw [Bool.beq_eq_decide_eq]
  exact decide_eq_decide.mpr Int.ofNat_inj⟩
theorem canLayAll_map {A : Type} (f : A → PyData) : ∀ l : List A, (∀ a ∈ l, (f a).canLay0 = true) → PyData.canLayAll0 (l.map f) = true
  | [], _ => rfl
  | a :: l, h => by
    rw [List.map_cons, PyData.canLayAll0, h a List.mem_cons_self, canLayAll_map f l fun x hx => h x (List.mem_cons_of_mem _ hx)]
    rfl
theorem depthAll_map {A : Type} {n : Nat} (f : A → PyData) : ∀ l : List A, (∀ a, (f a).depth ≤ n) → PyData.depthAll (l.map f) ≤ n
  | [], _ => by simp [PyData.depthAll]
  | a :: l, h => by
    rw [List.map_cons, PyData.depthAll]
    have := h a
    have := depthAll_map f l h
    omega
theorem eqvAll_map {A : Type} [DecidableEq A] (f : A → PyData) (h : ∀ a b, PyData.eqv (f a) (f b) = decide (a = b)) : ∀ l m : List A, PyData.eqvAll (l.map f) (m.map f) = decide (l = m)
  | [], [] => by simp [PyData.eqvAll]
  | [], b :: m => by simp [PyData.eqvAll]
  | a :: l, [] => by simp [PyData.eqvAll]
  | a :: l, b :: m => by
    rw [List.map_cons, List.map_cons, PyData.eqvAll, h, eqvAll_map f h l m]
    by_cases e1 : a = b <;> by_cases e2 : l = m <;> simp [e1, e2]
theorem ED.list {A : Type} [DecidableEq A] {n : Nat} {enc : A → Dt} {ok : A → Prop} (h : ED n enc ok) : ED (n + 1) (fun l : List A => Dt.lst (l.map enc)) (fun l => ∀ a ∈ l, ok a) := by
  refine ⟨fun l => pls_map enc l fun a _ => h.pl a, fun l o => ?_, fun l => ?_, fun l m => ?_⟩
  · show (PyData.list (toPys (l.map enc))).canLay0 = true
    rw [toPys_map, PyData.canLay0]
    exact canLayAll_map _ l fun a ha => h.lay a (o a ha)
  · show (PyData.list (toPys (l.map enc))).depth ≤ n + 1
    rw [toPys_map, PyData.depth]
    have := depthAll_map (fun a => toPy (enc a)) l h.dep
    omega
  · show PyData.eqv (.list (toPys (l.map enc))) (.list (toPys (m.map enc))) = _
    rw [toPys_map, toPys_map, PyData.eqv]
    exact eqvAll_map _ h.eq l m
def encO {A : Type} (enc : A → Dt) : Option A → Dt
  | none => .non
  | some a => enc a
theorem ED.opt {A : Type} [DecidableEq A] {n : Nat} {f : A → List Dt} {ok : A → Prop} (h : ED n (fun a => Dt.lst (f a)) ok) : ED n (encO fun a => Dt.lst (f a)) (fun o => ∀ a, o = some a → ok a) := by
  refine ⟨fun o => ?_, fun o hok => ?_, fun o => ?_, fun o p => ?_⟩
  · cases o with
    | none => rfl
    | some a => exact h.pl a
  · cases o with
    | none => simp [encO, toPy, PyData.canLay0]
    | some a => exact h.lay a (hok a rfl)
  · cases o with
    | none => simp [encO, toPy, PyData.depth]
    | some a => exact h.dep a
  · cases o with
    | none =>
      cases p with
      | none => rfl
      | some b => rfl
    | some a =>
      cases p with
      | none => rfl
      | some b =>
        rw [show toPy (encO (fun a => Dt.lst (f a)) (some a)) = toPy (.lst (f a)) from rfl, show toPy (encO (fun a => Dt.lst (f a)) (some b)) = toPy (.lst (f b)) from rfl, h.eq]
        simp
theorem and_false_l {a b c : Bool} (h : a = false) (hc : c = false) : (a && b) = c := by rw [h, hc]; rfl
/-- states -/
def StOk (s : Sta) : Prop := match s with
  | .within q => q < 0x110000 | .doubt q => q < 0x110000 | .freedq q => q < 0x110000 | _ => True
theorem strOk_quo {s : Sta} (h : StOk s) : PyData.strOk (quo s) = true := by
  cases s <;> first
    | exact (by decide +kernel : PyData.strOk ("" : Str) = true)
    | (have := layS (l := [_]) (fun c hc => by rw [List.mem_singleton] at hc; subst hc; exact h); rw [PyData.canLay0] at this; exact this)
theorem strOk_wrd (s : Sta) : PyData.strOk (wrd s) = true := by cases s <;> (simp only [wrd]; decide +kernel)
theorem ed_sta : ED 1 encS StOk := by
  refine ⟨fun s => rfl, fun s h => ?_, fun s => by simp [encS, toPy, toPys, PyData.depth, PyData.depthAll], fun a b => ?_⟩
  · show (PyData.tuple [.str (wrd s), .str (quo s)]).canLay0 = true
    simp only [PyData.canLay0, PyData.canLayAll0, strOk_wrd, strOk_quo h]
    rfl
  show ((wrd a == wrd b) && ((quo a == quo b) && true)) = _
  have nq : ∀ q, (sg q == ("" : Str)) = false := sg_nil
  have qn : ∀ q, (("" : Str) == sg q) = false := fun q => by rw [Bool.beq_comm]; exact sg_nil q
  cases a <;> cases b <;> first
    | (simp only [wrd]; exact and_false_l (by decide +kernel) (decide_eq_false (by intro z; cases z)))
    | (simp only [quo, wrd, nq, qn, sg_sg, beq_self_eq_true, Bool.true_and, Bool.and_true, Bool.and_false, Bool.false_and]; simp)
section
variable {X : Cx} {A : Type} [DecidableEq A] {n : Nat} {enc : A → Dt} {ok : A → Prop} {a b : A}
theorem b_eqT (hu : X.A.units + 64 < cLine) (h : ED n enc ok) (hn : n ≤ 64) (oa : ok a) (ob : ok b) : BinD X (compareOp .Eq) (enc a) (enc b) (.bl (decide (a = b))) := bin_of (op_eqD hu) fun B H x y Q e rx ry k =>
  ⟨_, _, Dp.keep (h.pl a) e rx, Dp.keep (h.pl b) e ry, h.sh hn oa, h.sh hn ob, by rw [h.eq]; exact k _ rfl⟩
theorem b_neT (hu : X.A.units + 64 < cLine) (h : ED n enc ok) (hn : n ≤ 64) (oa : ok a) (ob : ok b) : BinD X (compareOp .NotEq) (enc a) (enc b) (.bl (!decide (a = b))) := bin_of (op_neD hu) fun B H x y Q e rx ry k =>
  ⟨_, _, Dp.keep (h.pl a) e rx, Dp.keep (h.pl b) e ry, h.sh hn oa, h.sh hn ob, by rw [h.eq]; exact k _ rfl⟩
theorem b_inT (hu : X.A.units + 65 < cLine) (h : ED n enc ok) (hn : n + 1 ≤ 64) {l : List A} (oa : ok a) (ol : ∀ z ∈ l, ok z) : BinD X (compareOp .In) (enc a) (.lst (l.map enc)) (.bl (decide (a ∈ l))) := bin_of (op_inD hu) fun B H x y Q e rx ry k => by
  refine ⟨toPy (enc a), toPys (l.map enc), Dp.keep (h.pl a) e rx, ?_, h.sh (by omega) oa, ?_, ?_⟩
  · exact Dp.keep (d := .lst (l.map enc)) (h.list.pl l) e ry
  · exact h.list.sh hn ol
  · rw [toPys_map]
    have : ((l.map fun z => toPy (enc z)).any fun z => PyData.eqv z (toPy (enc a))) = decide (a ∈ l) := by
      rw [List.any_map]
      have e1 : ((fun z => PyData.eqv z (toPy (enc a))) ∘ fun z => toPy (enc z)) = fun z => decide (z = a) := by
        funext z
        exact h.eq z a
      rw [e1]
      by_cases m : a ∈ l
      · rw [decide_eq_true m, List.any_eq_true]
        exact ⟨a, m, decide_eq_true rfl⟩
      · rw [decide_eq_false m, List.any_eq_false]
        intro z hz q
        exact m (of_decide_eq_true q ▸ hz)
    rw [this]
    exact k _ rfl
end
end Dh
end SDhEnc

section SDhTurn
set_option Elab.async false
set_option linter.all false
set_option maxRecDepth 100000
set_option maxHeartbeats 4000000
local macro_rules | `(tactic| walk_at "bd") => `(tactic| first
  | exact Dh.b_in | exact Dh.b_notin | exact Dh.b_eqS | exact Dh.b_neS | exact Dh.b_isN | exact Dh.b_notN | exact Dh.b_add | exact Dh.b_sub | exact Dh.b_lt | exact Dh.b_le | exact Dh.b_gt | exact Dh.b_ge | exact Dh.b_eqI | exact Dh.b_neI | exact Dh.b_eqB | exact Dh.b_neB)
local macro_rules | `(tactic| walk_at "xd") => `(tactic| first | exact Dh.ix_t rfl | exact Dh.ix_l rfl)
namespace Dh
open PySem PySem.Spec PyProof.Rows L2

theorem zip_look {ns : List Str} {vs : List Dt} {i : Nat} {f : Str} {d : Dt} (h1 : ns[i]? = some f) (nd : ns.Nodup) (h2 : vs[i]? = some d) : (ns.zip vs).lookup f = some d := by
  induction ns generalizing vs i with
  | nil => simp at h1
  | cons n ns ih =>
    cases vs with
    | nil => simp at h2
    | cons v vs =>
      rw [List.nodup_cons] at nd
      rw [List.zip_cons_cons, List.lookup_cons]
      cases i with
      | zero =>
        simp only [List.getElem?_cons_zero, Option.some.injEq] at h1 h2
        subst h1 h2
        simp
      | succ i =>
        simp only [List.getElem?_cons_succ] at h1 h2
        have ne : (f == n) = false := by
          rw [beq_eq_false_iff_ne]
          rintro rfl
          exact nd.1 (List.mem_of_getElem? h1)
        rw [ne]
        exact ih h1 nd.2 h2
theorem ev_fldI {X : Cx} {G : List (Option Dt)} {a : Expr} {pos : Pos} {i : Nat} {C : Addr} {ns : List Str} {vs : List Dt} {f : Str} {d : Dt} (ha : EV X G a (.ins C ns vs)) (hc : Cls X.K C) (hn : NoAttr X.K C f) (nd : ns.Nodup) (h1 : ns[i]? = some f) (h2 : vs[i]? = some d)
    (hb : attributeBase a f X.env (eval a X.env) = eval a X.env := by rfl) : EV X G (.Attribute a f pos) d := ev_fld ha hc hn (zip_look h1 nd h2) hb
theorem dnd : dnames.Nodup := by decide +kernel
theorem pnd : pnames.Nodup := by decide +kernel
theorem tnd : tnames.Nodup := by decide +kernel

def printL : List Nat := letters ++ ([32, 33, 34, 35, 36, 38, 39, 40, 41, 42, 43, 44, 45, 46, 47, 58, 59, 60, 61, 62, 63, 64, 91, 92, 93, 94, 95, 96, 123, 124, 125, 126] : List Nat)
theorem prn_print {c : Nat} (h : Prn c) : c ∈ printL := by
  have all : (List.range 127).all (fun c => decide (32 ≤ c ∧ c ≠ 37 → c ∈ printL)) = true := by decide
  have := List.all_eq_true.mp all c (List.mem_range.mpr (by have := h.2.1; omega))
  exact of_decide_eq_true this ⟨h.1, h.2.2⟩
/-! ### what the top leaves -/
structure Tx (K : PySem.W.Frag) (mg : Str → Option Value) (A : Ad) : Prop where
  cLINE : GC K mg "LINE" (.str "\n")
  cLETTERS : GC K mg "LETTERS" (.str (S letters))
  cPRINTABLE : GC K mg "PRINTABLE" (.str (S printL))
  cMOST_SIGNS : GC K mg "MOST_SIGNS" (.int 2000)
  cSTART : GC K mg "START" (encS .row)
  cBLANK_turns : GC K mg "BLANK_turns" (.str " ")
  cCELL : GC K mg "CELL" (encS .cell)
  cPLAIN : GC K mg "PLAIN" (encS .plain)
  cBEHIND : GC K mg "BEHIND" (encS .behind)
  cBLANK_pairs : GC K mg "BLANK_pairs" (.str " ")
  cMOST : GC K mg "MOST" (.int 12)
  cREADERS : GC K mg "READERS" (.int 8)
  cTEXTS : GC K mg "TEXTS" (.int 6)
  cMOST_PARTS : GC K mg "MOST_PARTS" (.int 3)
  cMOST_QUOTES : GC K mg "MOST_QUOTES" (.int 2)
  cMOST_FREES : GC K mg "MOST_FREES" (.int 2)
  b_len : mg "len" = none
  b_range : mg "range" = none
  b_max : mg "max" = none
  b_int : mg "int" = none
  b_list : mg "list" = none
  b_tuple : mg "tuple" = none
  b_sorted : mg "sorted" = none
  b_set : mg "set" = none
  b_isinstance : mg "isinstance" = none
  b_all : mg "all" = none
  b_zip : mg "zip" = none
  b_enumerate : mg "enumerate" = none
  b_str : mg "str" = none
  b_bool : mg "bool" = none
  k_dia : Cls K A.dia
  k_turn : Cls K A.turn
  k_plain : Cls K A.plain
  k_fresh : Cls K A.fresh
  k_within : Cls K A.within
  k_behind : Cls K A.behind
  k_doubt : Cls K A.doubt
  k_freed : Cls K A.freed
  k_asker : Cls K A.asker
  d_parts : NoAttr K A.dia "parts"
  d_quotes : NoAttr K A.dia "quotes"
  d_frees : NoAttr K A.dia "frees"
  d_twin : NoAttr K A.dia "twin"
  d_wide : NoAttr K A.dia "wide"
  d_thin : NoAttr K A.dia "thin"
  d_stray : NoAttr K A.dia "stray"
  t_dialect : NoAttr K A.turn "dialect"
  plain_dialect : NoAttr K A.plain "dialect"
  plain_state : NoAttr K A.plain "state"
  fresh_dialect : NoAttr K A.fresh "dialect"
  fresh_state : NoAttr K A.fresh "state"
  within_dialect : NoAttr K A.within "dialect"
  within_state : NoAttr K A.within "state"
  behind_dialect : NoAttr K A.behind "dialect"
  behind_state : NoAttr K A.behind "state"
  doubt_dialect : NoAttr K A.doubt "dialect"
  doubt_state : NoAttr K A.doubt "state"
  freed_dialect : NoAttr K A.freed "dialect"
  freed_state : NoAttr K A.freed "state"
  a_readers : NoAttr K A.asker "readers"
  a_still : NoAttr K A.asker "still"
  a_question : NoAttr K A.asker "question"
  a_heard : NoAttr K A.asker "heard"

section
variable {P : Program} {w : World} {K : PySem.W.Frag} {mg : Str → Option Value} {base : Heap} {f : Addr} {fd : FuncData} {A : Ad}
/-! ### the places' own methods -/
theorem putF_new {f : Str} {v : V} : ∀ {fs : List (Str × V)}, (∀ p ∈ fs, p.1 ≠ f) → putF f v fs = fs ++ [(f, v)]
  | [], _ => rfl
  | (g, x) :: r, h => by
    show (if g = f then (g, v) :: r else (g, x) :: putF f v r) = _
    rw [if_neg (h (g, x) List.mem_cons_self), putF_new fun p hp => h p (List.mem_cons_of_mem _ hp)]
    rfl
theorem sp_mk_len {C : Addr} {ns : List Str} {T : Type} {args fl : T → List Dt} {pre : T → Prop} {n : Nat} (h : ∀ i, (args i).length = n) : ∀ vs H Q E, spMk K C ns args pre fl vs H Q E → vs.length = n + 1 := fun vs H Q E ⟨i, B, p, dx, ws, e, _, _, _, _, r, _⟩ => by rw [e, List.length_cons, r.length, h]
theorem ok_Place_init {C : Addr} (F : FnP K "__init__" "Place.__init__" s_Place_init f fd) (hc : Cls K C) (n1 : NoAttr K C "dialect") (n2 : NoAttr K C "state") :
    FnOk P w K mg base CX0 1 f fd ["self", "dialect", "state"] (spMk K C pnames (T := Dt × Dt) (fun i => [i.1, i.2]) (fun _ => True) (fun i => [i.1, i.2])) := by
  refine F.ok sc_Place_init (sp_mk_len fun _ => rfl) fun cdv A outer s H vs Q E hr h => ?_
  obtain ⟨⟨d1, d2⟩, B, p, dx, ws, rfl, hp, bp, _, sb, r, k⟩ := h
  obtain ⟨v, u, rfl, r1, r2⟩ := rep2 r
  refine ⟨_, PSs.nox (pss_cons (ps_fld (pv 0) (pv 1) rfl) (pss_one (ps_fld (pv 0) (pv 2) rfl))), ?_⟩
  refine ⟨_, rfl, _, rfl, p, C, dx, [], rfl, hp, hc, n1, (by show 0 < 1000; decide), _, rfl, _, rfl, p, C, dx, _, rfl, upd_same, hc, n2, (by show 1 < 1000; decide), ?_⟩
  have np : ∀ q o, B q = some o → q ≠ p := fun q o e => ne_of_none e bp
  refine k [v, u] B _ (Same.refl _) (fun _ _ => rfl) (fun q o e => ?_) (fun q o hq e => ?_) ?_ ⟨v, [u], rfl, r1, u, [], rfl, r2, rfl⟩
  · rw [upd_ne (np q o e), upd_ne (np q o e)]; exact sb _ _ e
  · rw [upd_ne hq, upd_ne hq]; exact e
  · rw [upd_same, putF_new (fs := putF _ _ []) ?_]
    · rfl
    · intro q hq
      rw [show putF ("dialect" : Str) v [] = [(("dialect" : Str), v)] from rfl, List.mem_singleton] at hq
      subst hq
      exact (by decide +kernel : ("dialect" : Str) ≠ "state")
theorem ok_Turn_init (F : FnP K "__init__" "Turn.__init__" s_Turn_init f fd) (T : Tx K mg A) : FnOk P w K mg base CX0 1 f fd ["self", "dialect"] (spMk K A.turn tnames (T := Dt) (fun i => [i]) (fun _ => True) (fun i => [i])) := by
  refine F.ok sc_Turn_init (sp_mk_len fun _ => rfl) fun cdv A' outer s H vs Q E hr h => ?_
  obtain ⟨d1, B, p, dx, ws, rfl, hp, bp, _, sb, r, k⟩ := h
  obtain ⟨v, rfl, r1⟩ := rep1 r
  refine ⟨_, PSs.nox (pss_one (ps_fld (pv 0) (pv 1) rfl)), ?_⟩
  refine ⟨_, rfl, _, rfl, p, A.turn, dx, [], rfl, hp, T.k_turn, T.t_dialect, (by show 0 < 1000; decide), ?_⟩
  have np : ∀ q o, B q = some o → q ≠ p := fun q o e => ne_of_none e bp
  refine k [v] B _ (Same.refl _) (fun _ _ => rfl) (fun q o e => ?_) (fun q o hq e => ?_) upd_same ⟨v, [], rfl, r1, rfl⟩
  · rw [upd_ne (np q o e)]; exact sb _ _ e
  · rw [upd_ne hq]; exact e
theorem ok_is_barred {C : Addr} (F : FnP K "is_barred" "Place.is_barred" s_Place_is_barred f fd) (T : Tx K mg A) (hc : Cls K C) (n1 : NoAttr K C "dialect") :
    FnOk P w K mg base CX0 1 f fd ["self", "sign"] (spT K (T := Dia × Sta × Nat) (fun i => [encP A C i.1 i.2.1, .str (sg i.2.2)]) (fun _ => True) (fun i d => d = .bl (decide (i.2.2 = 10) && !i.1.wide))) := by
  refine fn_ok F sc_Place_is_barred (fun _ => rfl) fun ⟨D, s, c⟩ cdv A' outer sh H0 E B0 D' hr hp hn hQ => ?_
  refine go_ret (d := .bl ((sg c == ("\n" : Str)) && !D.wide)) (ev_and (ev_cmp (ev_var (i := 1) rfl rfl (.inl rfl)) (ev_gl T.cLINE rfl) (by walk_at "bd") (nomark _)) fun h => (ev_one (ev_not (ev_fldI (i := 4) (ev_fldI (i := 0) (ev_var (i := 0) rfl rfl (.inl rfl)) hc n1 pnd rfl rfl) T.k_dia T.d_wide dnd rfl rfl)))) hQ ?_
  rw [sg_line]
/-! the steps; dial, sta: what self holds -/
theorem ok_Plain_own (F : FnP K "own" "Plain.own" s_Plain_own f fd) (T : Tx K mg A) :
    FnOk P w K mg base CX0 1 f fd ["self", "sign"] (spT K (T := Dia × Nat) (fun i => [encP A A.plain i.1 .plain, .str (sg i.2)]) (fun _ => True) (fun i d => d = encR (if i.2 ∈ i.1.quotes ∧ i.1.stray = false then .fault .quote else .go .put .plain))) := by
  refine fn_ok F sc_Plain_own (fun _ => rfl) fun ⟨D, c⟩ cdv A' outer sh H0 E B0 D' hr hp hn hQ => ?_
  refine go_if0 (EW.pt (ew_and (et_cmp (ev_var (i := 1) rfl rfl (.inl rfl)) (ev_fldI (i := 1) (ev_fldI (i := 0) (ev_var (i := 0) rfl rfl (.inl rfl)) T.k_plain T.plain_dialect pnd rfl rfl) T.k_dia T.d_quotes dnd rfl rfl) (by walk_at "bd") rfl) fun h => (ew_and1 (et_not (et_val (ev_fldI (i := 6) (ev_fldI (i := 0) (ev_var (i := 0) rfl rfl (.inl rfl)) T.k_plain T.plain_dialect pnd rfl rfl) T.k_dia T.d_stray dnd rfl rfl)))))) (fun h => ?_) (fun h => ?_)
  · refine go_ret (ev_tup (evs_cons ev_str (evs_cons ev_str evs_nil))) hQ ?_
    have h' : c ∈ D.quotes ∧ D.stray = false := by simpa using h
    show _ = encR (if c ∈ D.quotes ∧ D.stray = false then .fault .quote else .go .put .plain)
    rw [if_pos h']; rfl
  · refine go_ret (ev_tup (evs_cons ev_str (evs_cons (ev_gl T.cPLAIN rfl) evs_nil))) hQ ?_
    have h' : ¬ (c ∈ D.quotes ∧ D.stray = false) := by simpa using h
    show _ = encR (if c ∈ D.quotes ∧ D.stray = false then .fault .quote else .go .put .plain)
    rw [if_neg h']; rfl
theorem ok_Fresh_own (F : FnP K "own" "Fresh.own" s_Fresh_own f fd) (T : Tx K mg A) :
    FnOk P w K mg base CX0 1 f fd ["self", "sign"] (spT K (T := Dia × Sta × Nat) (fun i => [encP A A.fresh i.1 i.2.1, .str (sg i.2.2)]) (fun _ => True) (fun i d => d = encR (if i.2.2 = 32 ∧ i.1.thin = true then .go .skip i.2.1 else .go .put .plain))) := by
  refine fn_ok F sc_Fresh_own (fun _ => rfl) fun ⟨D, s, c⟩ cdv A' outer sh H0 E B0 D' hr hp hn hQ => ?_
  refine go_if0 (EW.pt (ew_and (et_cmp (ev_var (i := 1) rfl rfl (.inl rfl)) (ev_gl T.cBLANK_turns rfl) (by walk_at "bd") (nomark _)) fun h => (ew_and1 (et_val (ev_fldI (i := 5) (ev_fldI (i := 0) (ev_var (i := 0) rfl rfl (.inl rfl)) T.k_fresh T.fresh_dialect pnd rfl rfl) T.k_dia T.d_thin dnd rfl rfl))))) (fun h => ?_) (fun h => ?_)
  · refine go_ret (ev_tup (evs_cons ev_str (evs_cons (ev_fldI (i := 1) (ev_var (i := 0) rfl rfl (.inl rfl)) T.k_fresh T.fresh_state pnd rfl rfl) evs_nil))) hQ ?_
    rw [sg_blank] at h
    have h' : c = 32 ∧ D.thin = true := by simpa using h
    show _ = encR (if c = 32 ∧ D.thin = true then .go .skip s else .go .put .plain)
    rw [if_pos h']; rfl
  · refine go_ret (ev_tup (evs_cons ev_str (evs_cons (ev_gl T.cPLAIN rfl) evs_nil))) hQ ?_
    rw [sg_blank] at h
    have h' : ¬ (c = 32 ∧ D.thin = true) := by simpa using h
    show _ = encR (if c = 32 ∧ D.thin = true then .go .skip s else .go .put .plain)
    rw [if_neg h']; rfl
theorem ok_Plain_opens (F : FnP K "opens" "Plain.opens" s_Plain_opens f fd) :
    FnOk P w K mg base CX0 1 f fd ["self", "sign"] (spT K (T := Dia × Nat) (fun i => [encP A A.plain i.1 .plain, .str (sg i.2)]) (fun _ => True) (fun i d => d = .bl false)) := by
  refine fn_ok F sc_Plain_opens (fun _ => rfl) fun ⟨D, c⟩ cdv A' outer sh H0 E B0 D' hr hp hn hQ => ?_
  exact go_ret ev_bl hQ rfl
theorem ok_Fresh_opens (F : FnP K "opens" "Fresh.opens" s_Fresh_opens f fd) (T : Tx K mg A) :
    FnOk P w K mg base CX0 1 f fd ["self", "sign"] (spT K (T := Dia × Sta × Nat) (fun i => [encP A A.fresh i.1 i.2.1, .str (sg i.2.2)]) (fun _ => True) (fun i d => d = .bl (decide (i.2.2 ∈ i.1.quotes)))) := by
  refine fn_ok F sc_Fresh_opens (fun _ => rfl) fun ⟨D, s, c⟩ cdv A' outer sh H0 E B0 D' hr hp hn hQ => ?_
  exact go_ret (ev_cmp (ev_var (i := 1) rfl rfl (.inl rfl)) (ev_fldI (i := 1) (ev_fldI (i := 0) (ev_var (i := 0) rfl rfl (.inl rfl)) T.k_fresh T.fresh_dialect pnd rfl rfl) T.k_dia T.d_quotes dnd rfl rfl) (by walk_at "bd") rfl) hQ rfl
theorem mem_of_dec {c : Nat} {l : List Nat} (h : decide (c ∈ (S l).cps.toList) = true) : c ∈ l := by simpa using h
theorem nmem_of_dec {c : Nat} {l : List Nat} (h : decide (c ∈ (S l).cps.toList) = false) : c ∉ l := by simpa using h
theorem ok_Plain_step (F : FnP K "step" "Plain.step" s_Plain_step f fd) (T : Tx K mg A)
    (F_opens : CalM P w K mg base 1 A.plain "opens" ["self", "sign"] (spT K (T := Dia × Nat) (fun i => [encP A A.plain i.1 .plain, .str (sg i.2)]) (fun _ => True) (fun i d => d = .bl false)))
    (F_own : CalM P w K mg base 1 A.plain "own" ["self", "sign"] (spT K (T := Dia × Nat) (fun i => [encP A A.plain i.1 .plain, .str (sg i.2)]) (fun _ => True) (fun i d => d = encR (if i.2 ∈ i.1.quotes ∧ i.1.stray = false then .fault .quote else .go .put .plain)))) :
    FnOk P w K mg base CX0 2 f fd ["self", "sign"] (spT K (T := Dia × Nat) (fun i => [encP A A.plain i.1 .plain, .str (sg i.2)]) (fun _ => True) (fun i d => d = encR (stepPlain i.1 i.2))) := by
  refine fn_ok F sc_Plain_step (fun _ => rfl) fun ⟨D, c⟩ cdv A' outer sh H0 E B0 D' hr hp hn hQ => ?_
  refine go_if0 (et_cmp (ev_var (i := 1) rfl rfl (.inl rfl)) (ev_fldI (i := 2) (ev_fldI (i := 0) (ev_var (i := 0) rfl rfl (.inl rfl)) T.k_plain T.plain_dialect pnd rfl rfl) T.k_dia T.d_frees dnd rfl rfl) (by walk_at "bd") rfl) (fun h => ?_) (fun h1 => ?_)
  · refine go_ret (ev_tup (evs_cons ev_str (evs_cons (ev_tup (evs_cons ev_str (evs_cons ev_str evs_nil))) evs_nil))) hQ ?_
    show _ = encR (stepPlain D c)
    rw [stepPlain, if_pos (mem_of_dec h)]; rfl
  have h1 := nmem_of_dec h1
  refine go_if0 (et_cmp (ev_var (i := 1) rfl rfl (.inl rfl)) (ev_gl T.cLINE rfl) (by walk_at "bd") (nomark _)) (fun h => ?_) (fun h2 => ?_)
  · refine go_ret (ev_tup (evs_cons ev_str (evs_cons (ev_gl T.cSTART rfl) evs_nil))) hQ ?_
    rw [sg_line] at h
    show _ = encR (stepPlain D c)
    rw [stepPlain, if_neg h1, if_pos (of_decide_eq_true h)]; rfl
  rw [sg_line] at h2
  have h2 := of_decide_eq_false h2
  refine go_if0 (et_val (ev_meth F_opens (hr.mono (by decide)) (ev_var (i := 0) rfl rfl (.inl rfl)) T.k_plain (by decide +kernel) (evs_cons (ev_var (i := 1) rfl rfl (.inl rfl)) evs_nil) (D, c) rfl rfl trivial)) (fun h => (by cases h)) (fun _ => ?_)
  refine go_if0 (et_cmp (ev_var (i := 1) rfl rfl (.inl rfl)) (ev_fldI (i := 0) (ev_fldI (i := 0) (ev_var (i := 0) rfl rfl (.inl rfl)) T.k_plain T.plain_dialect pnd rfl rfl) T.k_dia T.d_parts dnd rfl rfl) (by walk_at "bd") rfl) (fun h => ?_) (fun h3 => ?_)
  · refine go_ret (ev_tup (evs_cons ev_str (evs_cons (ev_gl T.cCELL rfl) evs_nil))) hQ ?_
    show _ = encR (stepPlain D c)
    rw [stepPlain, if_neg h1, if_neg h2, if_pos (mem_of_dec h)]; rfl
  have h3 := nmem_of_dec h3
  refine go_ret (ev_meth F_own (hr.mono (by decide)) (ev_var (i := 0) rfl rfl (.inl rfl)) T.k_plain (by decide +kernel) (evs_cons (ev_var (i := 1) rfl rfl (.inl rfl)) evs_nil) (D, c) rfl rfl trivial) hQ ?_
  show _ = encR (stepPlain D c)
  rw [stepPlain, if_neg h1, if_neg h2, if_neg h3]
theorem ok_Fresh_step (F : FnP K "step" "Plain.step" s_Plain_step f fd) (T : Tx K mg A)
    (F_opens : CalM P w K mg base 1 A.fresh "opens" ["self", "sign"] (spT K (T := Dia × Sta × Nat) (fun i => [encP A A.fresh i.1 i.2.1, .str (sg i.2.2)]) (fun _ => True) (fun i d => d = .bl (decide (i.2.2 ∈ i.1.quotes)))))
    (F_own : CalM P w K mg base 1 A.fresh "own" ["self", "sign"] (spT K (T := Dia × Sta × Nat) (fun i => [encP A A.fresh i.1 i.2.1, .str (sg i.2.2)]) (fun _ => True) (fun i d => d = encR (if i.2.2 = 32 ∧ i.1.thin = true then .go .skip i.2.1 else .go .put .plain)))) :
    FnOk P w K mg base CX0 2 f fd ["self", "sign"] (spT K (T := Dia × Sta × Nat) (fun i => [encP A A.fresh i.1 i.2.1, .str (sg i.2.2)]) (fun _ => True) (fun i d => d = encR (stepFresh i.1 i.2.1 i.2.2))) := by
  refine fn_ok F sc_Plain_step (fun _ => rfl) fun ⟨D, s, c⟩ cdv A' outer sh H0 E B0 D' hr hp hn hQ => ?_
  refine go_if0 (et_cmp (ev_var (i := 1) rfl rfl (.inl rfl)) (ev_fldI (i := 2) (ev_fldI (i := 0) (ev_var (i := 0) rfl rfl (.inl rfl)) T.k_fresh T.fresh_dialect pnd rfl rfl) T.k_dia T.d_frees dnd rfl rfl) (by walk_at "bd") rfl) (fun h => ?_) (fun h1 => ?_)
  · refine go_ret (ev_tup (evs_cons ev_str (evs_cons (ev_tup (evs_cons ev_str (evs_cons ev_str evs_nil))) evs_nil))) hQ ?_
    show _ = encR (stepFresh D s c)
    rw [stepFresh, if_pos (mem_of_dec h)]; rfl
  have h1 := nmem_of_dec h1
  refine go_if0 (et_cmp (ev_var (i := 1) rfl rfl (.inl rfl)) (ev_gl T.cLINE rfl) (by walk_at "bd") (nomark _)) (fun h => ?_) (fun h2 => ?_)
  · refine go_ret (ev_tup (evs_cons ev_str (evs_cons (ev_gl T.cSTART rfl) evs_nil))) hQ ?_
    rw [sg_line] at h
    show _ = encR (stepFresh D s c)
    rw [stepFresh, if_neg h1, if_pos (of_decide_eq_true h)]; rfl
  rw [sg_line] at h2
  have h2 := of_decide_eq_false h2
  refine go_if0 (et_val (ev_meth F_opens (hr.mono (by decide)) (ev_var (i := 0) rfl rfl (.inl rfl)) T.k_fresh (by decide +kernel) (evs_cons (ev_var (i := 1) rfl rfl (.inl rfl)) evs_nil) (D, s, c) rfl rfl trivial)) (fun h => ?_) (fun h3 => ?_)
  · refine go_ret (ev_tup (evs_cons ev_str (evs_cons (ev_tup (evs_cons ev_str (evs_cons (ev_var (i := 1) rfl rfl (.inl rfl)) evs_nil))) evs_nil))) hQ ?_
    show _ = encR (stepFresh D s c)
    rw [stepFresh, if_neg h1, if_neg h2, if_pos (of_decide_eq_true h)]; rfl
  have h3 : c ∉ D.quotes := of_decide_eq_false h3
  refine go_if0 (et_cmp (ev_var (i := 1) rfl rfl (.inl rfl)) (ev_fldI (i := 0) (ev_fldI (i := 0) (ev_var (i := 0) rfl rfl (.inl rfl)) T.k_fresh T.fresh_dialect pnd rfl rfl) T.k_dia T.d_parts dnd rfl rfl) (by walk_at "bd") rfl) (fun h => ?_) (fun h4 => ?_)
  · refine go_ret (ev_tup (evs_cons ev_str (evs_cons (ev_gl T.cCELL rfl) evs_nil))) hQ ?_
    show _ = encR (stepFresh D s c)
    rw [stepFresh, if_neg h1, if_neg h2, if_neg h3, if_pos (mem_of_dec h)]; rfl
  have h4 := nmem_of_dec h4
  refine go_ret (ev_meth F_own (hr.mono (by decide)) (ev_var (i := 0) rfl rfl (.inl rfl)) T.k_fresh (by decide +kernel) (evs_cons (ev_var (i := 1) rfl rfl (.inl rfl)) evs_nil) (D, s, c) rfl rfl trivial) hQ ?_
  show _ = encR (stepFresh D s c)
  rw [stepFresh, if_neg h1, if_neg h2, if_neg h3, if_neg h4]
end
end Dh
end SDhTurn

section SDhHead
set_option Elab.async false
set_option linter.all false
set_option maxRecDepth 100000
set_option maxHeartbeats 0
/-! What the top leaves, read by names off one run. -/
namespace Dh
open PySem PySem.Spec PyProof.Rows L2
def d_are_signs : He.DefD := ⟨("are_signs", none), "are_signs", "are_signs", defArgs s_are_signs, defBody s_are_signs, defScope s_are_signs, [], []⟩
def d_is_text : He.DefD := ⟨("is_text", none), "is_text", "is_text", defArgs s_is_text, defBody s_is_text, defScope s_is_text, [], []⟩
def d_others : He.DefD := ⟨("others", none), "others", "others", defArgs s_others, defBody s_others, defScope s_others, [], []⟩
def d_is_live : He.DefD := ⟨("is_live", none), "is_live", "is_live", defArgs s_is_live, defBody s_is_live, defScope s_is_live, [], []⟩
def d_ending : He.DefD := ⟨("ending", none), "ending", "ending", defArgs s_ending, defBody s_ending, defScope s_ending, [], []⟩
def d_signs_for : He.DefD := ⟨("signs_for", none), "signs_for", "signs_for", defArgs s_signs_for, defBody s_signs_for, defScope s_signs_for, [], []⟩
def d_led : He.DefD := ⟨("led", none), "led", "led", defArgs s_led, defBody s_led, defScope s_led, [], []⟩
def d_parting_p : He.DefD := ⟨("parting_parted", none), "parting", "parting", defArgs s_parting_p, defBody s_parting_p, defScope s_parting_p, [], []⟩
def d_compare : He.DefD := ⟨("compare", none), "compare", "compare", defArgs s_compare, defBody s_compare, defScope s_compare, [], []⟩
def d_walked : He.DefD := ⟨("walked", none), "walked", "walked", defArgs s_walked, defBody s_walked, defScope s_walked, [], []⟩
def d_kinds_of : He.DefD := ⟨("kinds_of", none), "kinds_of", "kinds_of", defArgs s_kinds_of, defBody s_kinds_of, defScope s_kinds_of, [], []⟩
def d_table_of : He.DefD := ⟨("table_of", none), "table_of", "table_of", defArgs s_table_of, defBody s_table_of, defScope s_table_of, [], []⟩
def d_furthest : He.DefD := ⟨("furthest", none), "furthest", "furthest", defArgs s_furthest, defBody s_furthest, defScope s_furthest, [], []⟩
def d_read : He.DefD := ⟨("read", none), "read", "read", defArgs s_read, defBody s_read, defScope s_read, [], []⟩
def d_need_few : He.DefD := ⟨("need_few", none), "need_few", "need_few", defArgs s_need_few, defBody s_need_few, defScope s_need_few, [], []⟩
def d_answer_of : He.DefD := ⟨("answer_of", none), "answer_of", "answer_of", defArgs s_answer_of, defBody s_answer_of, defScope s_answer_of, [], []⟩
def d_parting_g : He.DefD := ⟨("parting_groups", none), "parting", "parting", defArgs s_parting_g, defBody s_parting_g, defScope s_parting_g, [], []⟩
def d_groups : He.DefD := ⟨("groups", none), "groups", "groups", defArgs s_groups, defBody s_groups, defScope s_groups, [], []⟩
def d_are_told : He.DefD := ⟨("are_told", none), "are_told", "are_told", defArgs s_are_told, defBody s_are_told, defScope s_are_told, [], []⟩
def d_answers_of : He.DefD := ⟨("answers_of", none), "answers_of", "answers_of", defArgs s_answers_of, defBody s_answers_of, defScope s_answers_of, [], []⟩
def d_telling : He.DefD := ⟨("telling", none), "telling", "telling", defArgs s_telling, defBody s_telling, defScope s_telling, [], []⟩
def d_parts_by : He.DefD := ⟨("parts_by", none), "parts_by", "parts_by", defArgs s_parts_by, defBody s_parts_by, defScope s_parts_by, [], []⟩
def d_best_for : He.DefD := ⟨("best_for", none), "best_for", "best_for", defArgs s_best_for, defBody s_best_for, defScope s_best_for, [], []⟩
def d_tree_of : He.DefD := ⟨("tree_of", none), "tree_of", "tree_of", defArgs s_tree_of, defBody s_tree_of, defScope s_tree_of, [], []⟩
def d_depth_of : He.DefD := ⟨("depth_of", none), "depth_of", "depth_of", defArgs s_depth_of, defBody s_depth_of, defScope s_depth_of, [], []⟩
def d_is_place : He.DefD := ⟨("is_place", none), "is_place", "is_place", defArgs s_is_place, defBody s_is_place, defScope s_is_place, [], []⟩
def d_is_leaf : He.DefD := ⟨("is_leaf", none), "is_leaf", "is_leaf", defArgs s_is_leaf, defBody s_is_leaf, defScope s_is_leaf, [], []⟩
def d_sorts_places : He.DefD := ⟨("sorts_places", none), "sorts_places", "sorts_places", defArgs s_sorts_places, defBody s_sorts_places, defScope s_sorts_places, [], []⟩
def d_sorts : He.DefD := ⟨("sorts", none), "sorts", "sorts", defArgs s_sorts, defBody s_sorts, defScope s_sorts, [], []⟩
def d_check_role : He.DefD := ⟨("check_role", none), "check_role", "check_role", defArgs s_check_role, defBody s_check_role, defScope s_check_role, [], []⟩
def d_dialect_of : He.DefD := ⟨("dialect_of", none), "dialect_of", "dialect_of", defArgs s_dialect_of, defBody s_dialect_of, defScope s_dialect_of, [], []⟩
def d_law_cell_at : He.DefD := ⟨("_law_cell_at", none), "_law_cell_at", "_law_cell_at", defArgs s_law_cell_at, defBody s_law_cell_at, defScope s_law_cell_at, [], []⟩
def d_law_mixed : He.DefD := ⟨("_law_mixed", none), "_law_mixed", "_law_mixed", defArgs s_law_mixed, defBody s_law_mixed, defScope s_law_mixed, [], []⟩
def d_law_number : He.DefD := ⟨("_law_number", none), "_law_number", "_law_number", defArgs s_law_number, defBody s_law_number, defScope s_law_number, [], []⟩
def d_law_some : He.DefD := ⟨("_law_some", none), "_law_some", "_law_some", defArgs s_law_some, defBody s_law_some, defScope s_law_some, [], []⟩
def d_law_menus : He.DefD := ⟨("_law_menus", none), "_law_menus", "_law_menus", defArgs s_law_menus, defBody s_law_menus, defScope s_law_menus, [], []⟩
def d_law_told : He.DefD := ⟨("_law_told", none), "_law_told", "_law_told", defArgs s_law_told, defBody s_law_told, defScope s_law_told, [], []⟩
def d_law_drawn : He.DefD := ⟨("_law_drawn", none), "_law_drawn", "_law_drawn", defArgs s_law_drawn, defBody s_law_drawn, defScope s_law_drawn, [], []⟩
def d_law_step : He.DefD := ⟨("_law_step", none), "_law_step", "_law_step", defArgs s_law_step, defBody s_law_step, defScope s_law_step, [], []⟩
def d_law_open : He.DefD := ⟨("_law_open", none), "_law_open", "_law_open", defArgs s_law_open, defBody s_law_open, defScope s_law_open, [], []⟩
def d_law_walked : He.DefD := ⟨("_law_walked", none), "_law_walked", "_law_walked", defArgs s_law_walked, defBody s_law_walked, defScope s_law_walked, [], []⟩
def d_law_table : He.DefD := ⟨("_law_table", none), "_law_table", "_law_table", defArgs s_law_table, defBody s_law_table, defScope s_law_table, [], []⟩
def d_law_led : He.DefD := ⟨("_law_led", none), "_law_led", "_law_led", defArgs s_law_led, defBody s_law_led, defScope s_law_led, [], []⟩
def d_law_alike : He.DefD := ⟨("_law_alike", none), "_law_alike", "_law_alike", defArgs s_law_alike, defBody s_law_alike, defScope s_law_alike, [], []⟩
def d_law_kin : He.DefD := ⟨("_law_kin", none), "_law_kin", "_law_kin", defArgs s_law_kin, defBody s_law_kin, defScope s_law_kin, [], []⟩
def d_law_tolds : He.DefD := ⟨("_law_tolds", none), "_law_tolds", "_law_tolds", defArgs s_law_tolds, defBody s_law_tolds, defScope s_law_tolds, [], []⟩
def d_law_answer : He.DefD := ⟨("_law_answer", none), "_law_answer", "_law_answer", defArgs s_law_answer, defBody s_law_answer, defScope s_law_answer, [], []⟩
def d_law_groups : He.DefD := ⟨("_law_groups", none), "_law_groups", "_law_groups", defArgs s_law_groups, defBody s_law_groups, defScope s_law_groups, [], []⟩
def d_law_parts : He.DefD := ⟨("_law_parts", none), "_law_parts", "_law_parts", defArgs s_law_parts, defBody s_law_parts, defScope s_law_parts, [], []⟩
def d_law_leaf : He.DefD := ⟨("_law_leaf", none), "_law_leaf", "_law_leaf", defArgs s_law_leaf, defBody s_law_leaf, defScope s_law_leaf, [], []⟩
def d_law_found_out : He.DefD := ⟨("_law_found_out", none), "_law_found_out", "_law_found_out", defArgs s_law_found_out, defBody s_law_found_out, defScope s_law_found_out, [], []⟩
def d_law : He.DefD := ⟨("law", none), "law", "law", defArgs s_law, defBody s_law, defScope s_law, [], []⟩
def m_Dialect_special : He.DefD := ⟨("Dialect", some "special"), "special", "Dialect.special", defArgs s_Dialect_special, defBody s_Dialect_special, defScope s_Dialect_special, [], []⟩
def m_Turn_init : He.DefD := ⟨("Turn", some "__init__"), "__init__", "Turn.__init__", defArgs s_Turn_init, defBody s_Turn_init, defScope s_Turn_init, [], []⟩
def m_Turn_at_state : He.DefD := ⟨("Turn", some "at_state"), "at_state", "Turn.at_state", defArgs s_Turn_at_state, defBody s_Turn_at_state, defScope s_Turn_at_state, [], []⟩
def m_Turn_step : He.DefD := ⟨("Turn", some "step"), "step", "Turn.step", defArgs s_Turn_step, defBody s_Turn_step, defScope s_Turn_step, [], []⟩
def m_Plain_init : He.DefD := ⟨("Plain", some "__init__"), "__init__", "Place.__init__", defArgs s_Place_init, defBody s_Place_init, defScope s_Place_init, [], []⟩
def m_Plain_opens : He.DefD := ⟨("Plain", some "opens"), "opens", "Plain.opens", defArgs s_Plain_opens, defBody s_Plain_opens, defScope s_Plain_opens, [], []⟩
def m_Plain_own : He.DefD := ⟨("Plain", some "own"), "own", "Plain.own", defArgs s_Plain_own, defBody s_Plain_own, defScope s_Plain_own, [], []⟩
def m_Plain_step : He.DefD := ⟨("Plain", some "step"), "step", "Plain.step", defArgs s_Plain_step, defBody s_Plain_step, defScope s_Plain_step, [], []⟩
def m_Fresh_init : He.DefD := ⟨("Fresh", some "__init__"), "__init__", "Place.__init__", defArgs s_Place_init, defBody s_Place_init, defScope s_Place_init, [], []⟩
def m_Fresh_opens : He.DefD := ⟨("Fresh", some "opens"), "opens", "Fresh.opens", defArgs s_Fresh_opens, defBody s_Fresh_opens, defScope s_Fresh_opens, [], []⟩
def m_Fresh_own : He.DefD := ⟨("Fresh", some "own"), "own", "Fresh.own", defArgs s_Fresh_own, defBody s_Fresh_own, defScope s_Fresh_own, [], []⟩
def m_Fresh_step : He.DefD := ⟨("Fresh", some "step"), "step", "Plain.step", defArgs s_Plain_step, defBody s_Plain_step, defScope s_Plain_step, [], []⟩
def m_Within_init : He.DefD := ⟨("Within", some "__init__"), "__init__", "Place.__init__", defArgs s_Place_init, defBody s_Place_init, defScope s_Place_init, [], []⟩
def m_Within_is_barred : He.DefD := ⟨("Within", some "is_barred"), "is_barred", "Place.is_barred", defArgs s_Place_is_barred, defBody s_Place_is_barred, defScope s_Place_is_barred, [], []⟩
def m_Within_step : He.DefD := ⟨("Within", some "step"), "step", "Within.step", defArgs s_Within_step, defBody s_Within_step, defScope s_Within_step, [], []⟩
def m_Doubt_init : He.DefD := ⟨("Doubt", some "__init__"), "__init__", "Place.__init__", defArgs s_Place_init, defBody s_Place_init, defScope s_Place_init, [], []⟩
def m_Doubt_step : He.DefD := ⟨("Doubt", some "step"), "step", "Doubt.step", defArgs s_Doubt_step, defBody s_Doubt_step, defScope s_Doubt_step, [], []⟩
def m_Behind_init : He.DefD := ⟨("Behind", some "__init__"), "__init__", "Place.__init__", defArgs s_Place_init, defBody s_Place_init, defScope s_Place_init, [], []⟩
def m_Behind_step : He.DefD := ⟨("Behind", some "step"), "step", "Behind.step", defArgs s_Behind_step, defBody s_Behind_step, defScope s_Behind_step, [], []⟩
def m_Freed_init : He.DefD := ⟨("Freed", some "__init__"), "__init__", "Place.__init__", defArgs s_Place_init, defBody s_Place_init, defScope s_Place_init, [], []⟩
def m_Freed_is_barred : He.DefD := ⟨("Freed", some "is_barred"), "is_barred", "Place.is_barred", defArgs s_Place_is_barred, defBody s_Place_is_barred, defScope s_Place_is_barred, [], []⟩
def m_Freed_step : He.DefD := ⟨("Freed", some "step"), "step", "Freed.step", defArgs s_Freed_step, defBody s_Freed_step, defScope s_Freed_step, [], []⟩
def m_Asker_init : He.DefD := ⟨("Asker", some "__init__"), "__init__", "Asker.__init__", defArgs s_Asker_init, defBody s_Asker_init, defScope s_Asker_init, [], []⟩
def m_Asker_left : He.DefD := ⟨("Asker", some "left"), "left", "Asker.left", defArgs s_Asker_left, defBody s_Asker_left, defScope s_Asker_left, [], []⟩
def m_Asker_ask : He.DefD := ⟨("Asker", some "ask"), "ask", "Asker.ask", defArgs s_Asker_ask, defBody s_Asker_ask, defScope s_Asker_ask, [], []⟩
def m_Asker_hear : He.DefD := ⟨("Asker", some "hear"), "hear", "Asker.hear", defArgs s_Asker_hear, defBody s_Asker_hear, defScope s_Asker_hear, [], []⟩
def m_Broken_init : He.DefD := ⟨("Broken", some "__init__"), "__init__", "Broken.__init__", defArgs s_Broken_init, defBody s_Broken_init, defScope s_Broken_init, [], []⟩
def m_Dialect_init : He.DefD := ⟨("Dialect", some "__init__"), "__init__", "Dialect.__init__", defArgs s_Dialect_init, defBody s_Dialect_init, defScope s_Dialect_init, [.str "", .str "", .bl false, .bl false, .bl false, .bl false], []⟩
def fn0 : List He.DefD := [d_are_signs, d_is_text, d_others, d_is_live, d_ending, d_signs_for, d_led, d_parting_p, d_compare, d_walked, d_kinds_of, d_table_of, d_furthest, d_read, d_need_few, d_answer_of, d_parting_g, d_groups, d_are_told, d_answers_of, d_telling, d_parts_by, d_best_for, d_tree_of, d_depth_of, d_is_place, d_is_leaf, d_sorts_places, d_sorts, d_check_role]
def fn1 : List He.DefD := [d_dialect_of, d_law_cell_at, d_law_mixed, d_law_number, d_law_some, d_law_menus, d_law_told, d_law_drawn, d_law_step, d_law_open, d_law_walked, d_law_table, d_law_led, d_law_alike, d_law_kin, d_law_tolds, d_law_answer, d_law_groups, d_law_parts, d_law_leaf, d_law_found_out, d_law, m_Dialect_special, m_Turn_init, m_Turn_at_state, m_Turn_step, m_Plain_init, m_Plain_opens, m_Plain_own, m_Plain_step]
def fn2 : List He.DefD := [m_Fresh_init, m_Fresh_opens, m_Fresh_own, m_Fresh_step, m_Within_init, m_Within_is_barred, m_Within_step, m_Doubt_init, m_Doubt_step, m_Behind_init, m_Behind_step, m_Freed_init, m_Freed_is_barred, m_Freed_step, m_Asker_init, m_Asker_left, m_Asker_ask, m_Asker_hear, m_Broken_init, m_Dialect_init]
def fnL : List He.DefD := fn0 ++ fn1 ++ fn2
def fa0 : List He.Fa := [.glo "are_signs", .glo "is_text", .glo "others", .glo "is_live", .glo "ending", .glo "signs_for", .glo "led", .glo "parting_parted", .glo "compare", .glo "walked", .glo "kinds_of", .glo "table_of", .glo "furthest", .glo "read", .glo "need_few", .glo "answer_of", .glo "parting_groups", .glo "groups", .glo "are_told", .glo "answers_of", .glo "telling", .glo "parts_by", .glo "best_for", .glo "tree_of", .glo "depth_of", .glo "is_place", .glo "is_leaf", .glo "sorts_places", .glo "sorts", .glo "check_role"]
def fa1 : List He.Fa := [.glo "dialect_of", .glo "_law_cell_at", .glo "_law_mixed", .glo "_law_number", .glo "_law_some", .glo "_law_menus", .glo "_law_told", .glo "_law_drawn", .glo "_law_step", .glo "_law_open", .glo "_law_walked", .glo "_law_table", .glo "_law_led", .glo "_law_alike", .glo "_law_kin", .glo "_law_tolds", .glo "_law_answer", .glo "_law_groups", .glo "_law_parts", .glo "_law_leaf", .glo "_law_found_out", .glo "law", .glo "Dialect", .glo "Turn", .glo "Plain", .glo "Fresh", .glo "Within", .glo "Behind", .glo "Doubt", .glo "Freed"]
def fa2 : List He.Fa := [.glo "Asker", .glo "Broken", .glo "START", .glo "CELL", .glo "PLAIN", .glo "BEHIND", .free "len", .free "range", .free "max", .free "int", .free "list", .free "tuple", .free "sorted", .free "set", .free "isinstance", .free "all", .free "zip", .free "enumerate", .free "str", .free "bool", .int "MOST_SIGNS" 2000, .int "MOST" 12, .int "READERS" 8, .int "TEXTS" 6, .int "MOST_PARTS" 3, .int "MOST_QUOTES" 2, .int "MOST_FREES" 2, .str "LINE" "\n", .str "LETTERS" (S letters), .str "PRINTABLE" (S printL)]
def fa3 : List He.Fa := [.str "BLANK_turns" " ", .str "BLANK_pairs" " ", .cls "Dialect", .cls "Turn", .cls "Plain", .cls "Fresh", .cls "Within", .cls "Behind", .cls "Doubt", .cls "Freed", .cls "Asker", .noat "Dialect" "parts", .noat "Dialect" "quotes", .noat "Dialect" "frees", .noat "Dialect" "twin", .noat "Dialect" "wide", .noat "Dialect" "thin", .noat "Dialect" "stray", .noat "Turn" "dialect", .noat "Plain" "dialect", .noat "Plain" "state", .noat "Fresh" "dialect", .noat "Fresh" "state", .noat "Within" "dialect", .noat "Within" "state", .noat "Behind" "dialect", .noat "Behind" "state", .noat "Doubt" "dialect", .noat "Doubt" "state", .noat "Freed" "dialect"]
def fa4 : List He.Fa := [.noat "Freed" "state", .noat "Asker" "readers", .noat "Asker" "still", .noat "Asker" "question", .noat "Asker" "heard", .noat "Broken" "row", .noat "Broken" "place", .noat "Broken" "word", .meth "Dialect" "special", .meth "Turn" "at_state", .meth "Turn" "step", .meth "Plain" "opens", .meth "Plain" "own", .meth "Plain" "step", .meth "Fresh" "opens", .meth "Fresh" "own", .meth "Fresh" "step", .meth "Within" "is_barred", .meth "Within" "step", .meth "Doubt" "step", .meth "Behind" "step", .meth "Freed" "is_barred", .meth "Freed" "step", .meth "Asker" "left", .meth "Asker" "ask", .meth "Asker" "hear", .mkr "Dialect", .mkr "Turn", .mkr "Plain", .mkr "Fresh"]
def fa5 : List He.Fa := [.mkr "Within", .mkr "Behind", .mkr "Doubt", .mkr "Freed", .mkr "Asker", .exm "Broken" "Broken" true]
def faL : List He.Fa := fa0 ++ fa1 ++ fa2 ++ fa3 ++ fa4 ++ fa5
def lo0 : List Str := ["DialectError", "NoText", "NoDialect", "NoAsk", "TooMany", "Broken", "LINE", "LETTERS", "PRINTABLE", "MOST_SIGNS", "are_signs", "is_text", "others", "START", "is_live", "ending", "BLANK_turns", "CELL", "PLAIN", "BEHIND", "Place", "Plain", "Fresh", "Within", "Behind", "Doubt", "Freed", "Turn", "BLANK_pairs", "signs_for"]
def lo1 : List Str := ["led", "parting", "parting_parted", "compare", "walked", "kinds_of", "table_of", "furthest", "read", "MOST", "need_few", "answer_of", "parting_groups", "groups", "are_told", "answers_of", "telling", "READERS", "TEXTS", "parts_by", "best_for", "tree_of", "depth_of", "is_place", "is_leaf", "sorts_places", "sorts", "Asker", "MOST_PARTS", "MOST_QUOTES"]
def lo2 : List Str := ["MOST_FREES", "check_role", "Dialect", "dialect_of", "_law_cell_at", "_law_mixed", "_law_number", "_law_some", "_law_menus", "_law_told", "_law_drawn", "_law_step", "_law_open", "_law_walked", "_law_table", "_law_led", "_law_alike", "_law_kin", "_law_tolds", "_law_answer", "_law_groups", "_law_parts", "_law_leaf", "_law_found_out"]
def looseL : List Str := lo0 ++ lo1 ++ lo2
/-- the exception's class; the states' tuples; a class's function, called by the class -/
def exB (K : PySem.W.Frag) (C : Addr) : Bool := match K.lookup C with
  | some ⟨.type c, _, .cls cd, sl⟩ => (match cd.mro, sl.toList with
    | .ref C' :: bm, [_, _, _, _, some (.builtin n), _] => decide (c = "type") && (decide (C' = C) && (decide (n = "ValueError.__new__") && (!cd.hasDel && (cd.hasDict && PySem.HandSPX.refsVE bm))))
    | _, _ => false)
  | _ => false
def valB (K : PySem.W.Frag) (C : Addr) (m : Str) (f : Addr) : Bool := match PySem.W.findCls K (.ref C) (.type "type") m with
  | some (.val u) => decide (u = .ref f)
  | _ => false
def exL (K : PySem.W.Frag) : Bool :=
  exB K (He.ga K "Broken") && (He.eqO (PySem.W.findIn K (.ref (He.ga K "Broken")) "__setattr__") (some (some (.builtin "object.__setattr__"))) && (decide (PySem.W.subIn K (.ref (He.ga K "Broken")) (.type "BaseException") = some true)
    && (decide (PySem.W.typeIn K (.ref (He.ga K "Broken")) = some (.type "type")) && (PySem.W.keepIn K (.ref (He.ga K "Broken")) && (He.eqO (PySem.W.findIn K (.ref (He.ga K "Broken")) "__init__") (some (some (.ref (He.ma K (He.ga K "Broken") "__init__"))))
    && (decide (PySem.W.typeIn K (.ref (He.ma K (He.ga K "Broken") "__init__")) = some (.type "function"))
    && (He.tupB K "START" [.str "row", .str ""] && (He.tupB K "CELL" [.str "cell", .str ""] && (He.tupB K "PLAIN" [.str "plain", .str ""] && (He.tupB K "BEHIND" [.str "behind", .str ""]
    && (PySem.W.readsIn K (He.ga K "Behind") (.type "type") && (He.eqO (PySem.W.specialIn K (.ref (He.ga K "Behind")) "__getattribute__") (some (some (.builtin "type.__getattribute__"))) && valB K (He.ga K "Behind") "step" (He.ma K (He.ga K "Behind") "step")))))))))))))
abbrev AlM : Type := He.AlD × Bool
/-- what the walk looks at: a dict's values, a function's code and defaults, a class's names -/
def kids (o : Obj) : List Addr := match o.data with
  | .dict es _ => es.toList.flatMap fun e => He.refV e.val
  | .func fd => He.refV fd.code ++ He.refV fd.defaults
  | .cls cd => [cd.ns]
  | _ => []
def kidsG (g : Addr → Option Obj) (as : List Addr) : List Addr := as.flatMap fun a => match g a with
  | some o => kids o
  | none => []
def asM (g : Addr → Option Obj) : List Addr := mainGlobals :: cStatics :: (kidsG g [mainGlobals] ++ (kidsG g (kidsG g [mainGlobals]) ++ (kidsG g (kidsG g (kidsG g [mainGlobals])) ++ kidsG g (kidsG g (kidsG g (kidsG g [mainGlobals]))))))
def frM (g : Addr → Option Obj) : PySem.W.Frag := He.frG g (asM g)
/-! by any facts, defs, test -/
section
variable (fa : List He.Fa) (fn : List He.DefD) (ex : PySem.W.Frag → Bool)
def obsQ (K : PySem.W.Frag) : AlM := (He.obsD fa fn K, ex K)
structure SaysQ (K : PySem.W.Frag) : Prop where
  d : He.SaysD fa fn K
  ex : ex K = true
def hkQ : PySem.W.Hook where
  α := AlM
  obs := fun s => obsQ fa fn ex (frM s.heap.get?)
  val := fun _ => (He.valD fn, true)
  says := fun _ h => ∃ K : PySem.W.Frag, K.In h ∧ SaysQ fa fn ex K
  of := fun _ _ e => ⟨_, He.frG_in, congrArg (fun z : AlM => z.1) e, congrArg (fun z : AlM => z.2) e⟩
  keeps := fun _ _ _ ⟨K, hK, c⟩ k => ⟨K, PySem.W.Frag.In.keeps hK k, c⟩
def obQ (s : PySem.W.SharedT) : AlM := obsQ fa fn ex (frM (HandSHeadRun.getT s))
theorem obQ_eq (s : PySem.W.SharedT) : obQ fa fn ex s = (hkQ fa fn ex).obs s.abs := by
  have e : HandSHeadRun.getT s = s.abs.heap.get? := funext fun a => HandSHeadRun.getT_eq s a
  unfold obQ
  rw [e] <;> rfl
end
abbrev SaysM (K : PySem.W.Frag) : Prop := SaysQ faL fnL exL K
abbrev hkM : PySem.W.Hook := hkQ faL fnL exL
abbrev obM : PySem.W.SharedT → AlM := obQ faL fnL exL
theorem obM_eq (s : PySem.W.SharedT) : obM s = hkM.obs s.abs := obQ_eq faL fnL exL s
abbrev RM : PySem.W.OpenRow := PySem.W.OpenLaw.row PySem.Challenge.rw_dialecthall_k88_whole_sorted_to_groups
theorem runM (w : World) : HandSHeadRun.RunEq RM (PySem.W.view RM.prog [97]) hkM obM 6400 looseL w := by
  intro os
  kernel_rfl
end Dh
end SDhHead

section SDhTurn2
set_option Elab.async false
set_option linter.all false
set_option maxRecDepth 100000
set_option maxHeartbeats 4000000
local macro_rules | `(tactic| walk_at "bd") => `(tactic| first
  | exact Dh.b_in | exact Dh.b_notin | exact Dh.b_eqS | exact Dh.b_neS | exact Dh.b_isN | exact Dh.b_notN | exact Dh.b_add | exact Dh.b_sub | exact Dh.b_lt | exact Dh.b_le | exact Dh.b_gt | exact Dh.b_ge | exact Dh.b_eqI | exact Dh.b_neI | exact Dh.b_eqB | exact Dh.b_neB)
local macro_rules | `(tactic| walk_at "xd") => `(tactic| first | exact Dh.ix_t rfl | exact Dh.ix_l rfl)
namespace Dh
open PySem PySem.Spec PyProof.Rows L2

/-! ### a class's own function, called off the class -/
theorem pe_cfn {X : Cx} {CX : CXT} {pl : Sem Bool} {o e : Expr} {es : List Expr} {ta : TE} {t : TA} {C f : Addr} {mc : Value} {m : Str} {fd : FuncData} {ps : List Str} {sp : Sp} {E : XK} {k : Nat} {apos pos : Pos} (he : PE X o ta) (r : ClX.CRead X.K C mc) (c : ClX.CVal X.K C mc m (.ref f) (.ref f)) (kp : PySem.W.keepIn X.K (.ref f) = true)
    (F : FnOk X.prog X.w X.K X.mg X.base CX k f fd ps sp) (hr : Room k X.A) (hb : Binds X.K fd ps []) (hx : Passes CX X E) (ha : PA X (e :: es) t)
    (hst : starEach (e :: es) X.env = (false, eval e X.env) :: starEach es X.env := by rfl) (hpl : (backTo pos (starEach es X.env)).any (·.1) = false := by rfl)
    (ht : eval (.Call (.Attribute o m apos) (e :: es) [] pos) X.env = (do
      let ov ← eval o X.env
      standAt apos.atName
      let (f, first) ← holding [ov] (getMethod ov m pl)
      callWith pos f first (backTo pos (starEach (e :: es) X.env)) (backToKw pos (keywordEach [] X.env))) := by rfl) :
    PE X (.Call (.Attribute o m apos) (e :: es) [] pos) (fun s H Q => ta s H fun x H1 => x = .ref C ∧ t s H1 fun vs H2 => sp (vs ++ []) H2 Q E) := by
  refine ⟨fun pins sh s H Q I h => ?_⟩
  refine PySem.W.methodCall_KW (pl := pl) (thn (he.run pins sh s H _ I h) fun u s1 ⟨x, H1, I1, rx, ex, q⟩ => ?_) ht
  subst ex
  obtain rfl : u = Value.ref C := rx
  refine PySem.W.method_cls I1.kIn r.ga (ClX.getcval_ok I1 r c fun s2 I2 => ?_)
  refine PySem.W.callWith_K (first := []) (h₀ := X.base) I.ok.mod.kin kp (thn (ha.run pos pins s2 s H1 _ I2 q) fun us s3 ⟨vs, H3, I3, r3, q3⟩ => ⟨I3.kIn, ?_⟩) hst hpl
  exact run_fn F hr hb .nil hx I3 r3 q3
def CalF (P : Program) (w : World) (K : PySem.W.Frag) (mg : Str → Option Value) (base : Heap) (k : Nat) (x : Str) (m : Str) (ps : List Str) (sp : Sp) : Prop :=
  ∃ (C f : Addr) (fd : FuncData) (mc : Value), FnOk P w K mg base CX0 k f fd ps sp ∧ mg x = some (.ref C) ∧ ClX.CRead K C mc ∧ ClX.CVal K C mc m (.ref f) (.ref f) ∧ PySem.W.keepIn K (.ref f) = true ∧ Binds K fd ps []
theorem ev_cfn {X : Cx} {G : List (Option Dt)} {pl : Sem Bool} {e : Expr} {es : List Expr} {x m : Str} {ps : List Str} {k : Nat} {p apos pos : Pos} {T : Type} {args : T → List Dt} {pre : T → Prop} {r : T → Dt} {ds : List Dt} {d : Dt} (F : CalF X.prog X.w X.K X.mg X.base k x m ps (spT X.K args pre fun i d => d = r i)) (hr : Room k X.A) (ha : EVs X G (e :: es) ds) (i : T) (hi : ds = args i) (hd : r i = d) (hp : pre i) (hg : Gl X x)
    (hdb : (x == ("__debug__" : Str)) = false := by decide) (hst : starEach (e :: es) X.env = (false, eval e X.env) :: starEach es X.env := by rfl) (hpl : (backTo pos (starEach es X.env)).any (·.1) = false := by rfl)
    (ht : eval (.Call (.Attribute (.Name x p) m apos) (e :: es) [] pos) X.env = (do
      let ov ← eval (.Name x p) X.env
      standAt apos.atName
      let (f, first) ← holding [ov] (getMethod ov m pl)
      callWith pos f first (backTo pos (starEach (e :: es) X.env)) (backToKw pos (keywordEach [] X.env))) := by rfl) : EV X G (.Call (.Attribute (.Name x p) m apos) (e :: es) [] pos) d := by
  intro s B H hs hb Q q
  obtain ⟨C, f, fd, mc, F, hm, hc, hv, hk, hB⟩ := F
  refine run_e (pe_cfn (pe_glob (v := .ref C) hg hm rfl hdb) hc hv hk F hr hB pass0 pa_wk hst hpl ht) ⟨rfl, ha s B H hs hb _ fun vs B1 H1 g1 r1 => ?_⟩
  rw [List.append_nil]
  exact ⟨i, B1, hp, g1.s, hi ▸ r1, fun d' v B2 H2 hd' g2 r2 => q v B2 H2 (g1.trans g2) (hd ▸ hd' ▸ r2)⟩

/-! ### words, tested -/
theorem wrd_within (s : Sta) : ((wrd s == ("within" : Str)) : Bool) = (match s with | .within _ => true | _ => false) := by cases s <;> (simp only [wrd]; decide +kernel)
theorem wrd_doubt (s : Sta) : ((wrd s == ("doubt" : Str)) : Bool) = (match s with | .doubt _ => true | _ => false) := by cases s <;> (simp only [wrd]; decide +kernel)
theorem wrd_behind (s : Sta) : ((wrd s == ("behind" : Str)) : Bool) = (match s with | .behind => true | _ => false) := by cases s <;> (simp only [wrd]; decide +kernel)
theorem wrd_plain (s : Sta) : ((wrd s == ("plain" : Str)) : Bool) = (match s with | .plain => true | _ => false) := by cases s <;> (simp only [wrd]; decide +kernel)
theorem wrd_row (s : Sta) : ((wrd s == ("row" : Str)) : Bool) = (match s with | .row => true | _ => false) := by cases s <;> (simp only [wrd]; decide +kernel)
theorem wrd_freed (s : Sta) : ((wrd s == ("freed" : Str)) : Bool) = (match s with | .freed => true | .freedq _ => true | _ => false) := by cases s <;> (simp only [wrd]; decide +kernel)
theorem quo_nil (s : Sta) : ((quo s == ("" : Str)) : Bool) = (match s with | .within _ => false | .doubt _ => false | .freedq _ => false | _ => true) := by cases s <;> (simp only [quo]; first | exact sg_nil _ | decide +kernel)
section
variable {P : Program} {w : World} {K : PySem.W.Frag} {mg : Str → Option Value} {base : Heap} {f : Addr} {fd : FuncData} {A : Ad}
abbrev spBar (K : PySem.W.Frag) (A : Ad) (C : Addr) : Sp := spT K (T := Dia × Sta × Nat) (fun i => [encP A C i.1 i.2.1, .str (sg i.2.2)]) (fun _ => True) (fun i d => d = .bl (decide (i.2.2 = 10) && !i.1.wide))
abbrev spStep (K : PySem.W.Frag) (A : Ad) (C : Addr) (p : Sta → Prop) : Sp := spT K (T := Dia × Sta × Nat) (fun i => [encP A C i.1 i.2.1, .str (sg i.2.2)]) (fun i => p i.2.1) (fun i d => d = encR (step i.1 i.2.1 i.2.2))
theorem ok_Within_step (F : FnP K "step" "Within.step" s_Within_step f fd) (T : Tx K mg A) (F_bar : CalM P w K mg base 1 A.within "is_barred" ["self", "sign"] (spBar K A A.within)) :
    FnOk P w K mg base CX0 2 f fd ["self", "sign"] (spStep K A A.within fun s => ∃ q, s = .within q) := by
  refine fn_ok F sc_Within_step (fun _ => rfl) fun ⟨D, s, c⟩ cdv A' outer sh H0 E B0 D' hr hp hn hQ => ?_
  obtain ⟨q, hq⟩ := hp
  have hq : s = .within q := hq
  subst hq
  refine go_set (i := 2) (ev_ix (ev_fldI (i := 1) (ev_var (i := 0) rfl rfl (.inl rfl)) T.k_within T.within_state pnd rfl rfl) ev_int (by walk_at "xd") (fun _ _ => rfl)) ?_ sc_Within_step.nd rfl (.inl rfl)
  refine go_if0 (et_cmp (ev_var (i := 1) rfl rfl (.inl rfl)) (ev_fldI (i := 2) (ev_fldI (i := 0) (ev_var (i := 0) rfl rfl (.inl rfl)) T.k_within T.within_dialect pnd rfl rfl) T.k_dia T.d_frees dnd rfl rfl) (by walk_at "bd") rfl) (fun h => ?_) (fun h1 => ?_)
  · refine go_ret (ev_tup (evs_cons ev_str (evs_cons (ev_tup (evs_cons ev_str (evs_cons (ev_var (i := 2) rfl rfl (.inl rfl)) evs_nil))) evs_nil))) hQ ?_
    show _ = encR (step D (.within q) c)
    rw [step, if_pos (mem_of_dec h)]; rfl
  have h1 := nmem_of_dec h1
  refine go_if0 (et_cmp (ev_var (i := 1) rfl rfl (.inl rfl)) (ev_var (i := 2) rfl rfl (.inl rfl)) (by walk_at "bd") (nomark _)) (fun h2 => ?_) (fun h2 => ?_)
  · have h2 : c = q := of_decide_eq_true ((sg_sg c q).symm.trans h2)
    refine go_if0 (et_val (ev_fldI (i := 3) (ev_fldI (i := 0) (ev_var (i := 0) rfl rfl (.inl rfl)) T.k_within T.within_dialect pnd rfl rfl) T.k_dia T.d_twin dnd rfl rfl)) (fun h => ?_) (fun h => ?_)
    · refine go_ret (ev_tup (evs_cons ev_str (evs_cons (ev_tup (evs_cons ev_str (evs_cons (ev_var (i := 2) rfl rfl (.inl rfl)) evs_nil))) evs_nil))) hQ ?_
      show _ = encR (step D (.within q) c)
      rw [step, if_neg h1, if_pos h2, if_pos h]; rfl
    · refine go_ret (ev_tup (evs_cons ev_str (evs_cons (ev_gl T.cBEHIND rfl) evs_nil))) hQ ?_
      show _ = encR (step D (.within q) c)
      rw [step, if_neg h1, if_pos h2, if_neg (by rw [h]; simp)]; rfl
  have h2 : ¬ c = q := of_decide_eq_false ((sg_sg c q).symm.trans h2)
  refine go_if0 (et_val (ev_meth F_bar (hr.mono (by decide)) (ev_var (i := 0) rfl rfl (.inl rfl)) T.k_within (by decide +kernel) (evs_cons (ev_var (i := 1) rfl rfl (.inl rfl)) evs_nil) (D, .within q, c) rfl rfl trivial)) (fun h => ?_) (fun h => ?_)
  · refine go_ret (ev_tup (evs_cons ev_str (evs_cons ev_str evs_nil))) hQ ?_
    have h' : c = 10 ∧ D.wide = false := by simpa using h
    show _ = encR (step D (.within q) c)
    rw [step, if_neg h1, if_neg h2, if_pos h']; rfl
  · refine go_ret (ev_tup (evs_cons ev_str (evs_cons (ev_fldI (i := 1) (ev_var (i := 0) rfl rfl (.inl rfl)) T.k_within T.within_state pnd rfl rfl) evs_nil))) hQ ?_
    have h' : ¬ (c = 10 ∧ D.wide = false) := by simpa using h
    show _ = encR (step D (.within q) c)
    rw [step, if_neg h1, if_neg h2, if_neg h']; rfl
/-- also for Doubt's own instances -/
theorem ok_Behind_step {C : Addr} (F : FnP K "step" "Behind.step" s_Behind_step f fd) (T : Tx K mg A) (hc : Cls K C) (n1 : NoAttr K C "dialect") :
    FnOk P w K mg base CX0 1 f fd ["self", "sign"] (spT K (T := Dia × Sta × Nat) (fun i => [encP A C i.1 i.2.1, .str (sg i.2.2)]) (fun _ => True) (fun i d => d = encR (stepBehind i.1 i.2.2))) := by
  refine fn_ok F sc_Behind_step (fun _ => rfl) fun ⟨D, s, c⟩ cdv A' outer sh H0 E B0 D' hr hp hn hQ => ?_
  refine go_if0 (et_cmp (ev_var (i := 1) rfl rfl (.inl rfl)) (ev_gl T.cLINE rfl) (by walk_at "bd") (nomark _)) (fun h => ?_) (fun h1 => ?_)
  · refine go_ret (ev_tup (evs_cons ev_str (evs_cons (ev_gl T.cSTART rfl) evs_nil))) hQ ?_
    rw [sg_line] at h
    show _ = encR (stepBehind D c)
    rw [stepBehind, if_pos (of_decide_eq_true h)]; rfl
  rw [sg_line] at h1
  have h1 := of_decide_eq_false h1
  refine go_if0 (et_cmp (ev_var (i := 1) rfl rfl (.inl rfl)) (ev_fldI (i := 0) (ev_fldI (i := 0) (ev_var (i := 0) rfl rfl (.inl rfl)) hc n1 pnd rfl rfl) T.k_dia T.d_parts dnd rfl rfl) (by walk_at "bd") rfl) (fun h => ?_) (fun h2 => ?_)
  · refine go_ret (ev_tup (evs_cons ev_str (evs_cons (ev_gl T.cCELL rfl) evs_nil))) hQ ?_
    show _ = encR (stepBehind D c)
    rw [stepBehind, if_neg h1, if_pos (mem_of_dec h)]; rfl
  have h2 := nmem_of_dec h2
  refine go_if0 (EW.pt (ew_and (et_cmp (ev_var (i := 1) rfl rfl (.inl rfl)) (ev_gl T.cBLANK_turns rfl) (by walk_at "bd") (nomark _)) fun h => (ew_and1 (et_val (ev_fldI (i := 5) (ev_fldI (i := 0) (ev_var (i := 0) rfl rfl (.inl rfl)) hc n1 pnd rfl rfl) T.k_dia T.d_thin dnd rfl rfl))))) (fun h => ?_) (fun h => ?_)
  · refine go_ret (ev_tup (evs_cons ev_str (evs_cons (ev_gl T.cBEHIND rfl) evs_nil))) hQ ?_
    rw [sg_blank] at h
    have h' : c = 32 ∧ D.thin = true := by simpa using h
    show _ = encR (stepBehind D c)
    rw [stepBehind, if_neg h1, if_neg h2, if_pos h']; rfl
  · refine go_ret (ev_tup (evs_cons ev_str (evs_cons ev_str evs_nil))) hQ ?_
    rw [sg_blank] at h
    have h' : ¬ (c = 32 ∧ D.thin = true) := by simpa using h
    show _ = encR (stepBehind D c)
    rw [stepBehind, if_neg h1, if_neg h2, if_neg h']; rfl
theorem ok_Doubt_step (F : FnP K "step" "Doubt.step" s_Doubt_step f fd) (T : Tx K mg A)
    (F_b : CalF P w K mg base 1 "Behind" "step" ["self", "sign"] (spT K (T := Dia × Sta × Nat) (fun i => [encP A A.doubt i.1 i.2.1, .str (sg i.2.2)]) (fun _ => True) (fun i d => d = encR (stepBehind i.1 i.2.2)))) :
    FnOk P w K mg base CX0 2 f fd ["self", "sign"] (spStep K A A.doubt fun s => ∃ q, s = .doubt q) := by
  refine fn_ok F sc_Doubt_step (fun _ => rfl) fun ⟨D, s, c⟩ cdv A' outer sh H0 E B0 D' hr hp hn hQ => ?_
  obtain ⟨q, hq⟩ := hp
  have hq : s = .doubt q := hq
  subst hq
  refine go_if0 (et_cmp (ev_var (i := 1) rfl rfl (.inl rfl)) (ev_ix (ev_fldI (i := 1) (ev_var (i := 0) rfl rfl (.inl rfl)) T.k_doubt T.doubt_state pnd rfl rfl) ev_int (by walk_at "xd") (fun _ _ => rfl)) (by walk_at "bd") (nomark _)) (fun h => ?_) (fun h => ?_)
  · refine go_ret (ev_tup (evs_cons ev_str (evs_cons (ev_tup (evs_cons ev_str (evs_cons (ev_var (i := 1) rfl rfl (.inl rfl)) evs_nil))) evs_nil))) hQ ?_
    have h : c = q := of_decide_eq_true ((sg_sg c q).symm.trans h)
    subst h
    show _ = encR (step D (.doubt c) c)
    rw [step, if_pos rfl]; rfl
  · refine go_ret (ev_cfn F_b (hr.mono (by decide)) (evs_cons (ev_var (i := 0) rfl rfl (.inl rfl)) (evs_cons (ev_var (i := 1) rfl rfl (.inl rfl)) evs_nil)) (D, .doubt q, c) rfl rfl trivial rfl) hQ ?_
    have h : ¬ c = q := of_decide_eq_false ((sg_sg c q).symm.trans h)
    show _ = encR (step D (.doubt q) c)
    rw [step, if_neg h]
theorem ok_Freed_step (F : FnP K "step" "Freed.step" s_Freed_step f fd) (T : Tx K mg A) (F_bar : CalM P w K mg base 1 A.freed "is_barred" ["self", "sign"] (spBar K A A.freed)) :
    FnOk P w K mg base CX0 2 f fd ["self", "sign"] (spStep K A A.freed fun s => s = .freed ∨ ∃ q, s = .freedq q) := by
  refine fn_ok F sc_Freed_step (fun _ => rfl) fun ⟨D, s, c⟩ cdv A' outer sh H0 E B0 D' hr hp hn hQ => ?_
  refine go_if0 (et_val (ev_meth F_bar (hr.mono (by decide)) (ev_var (i := 0) rfl rfl (.inl rfl)) T.k_freed (by decide +kernel) (evs_cons (ev_var (i := 1) rfl rfl (.inl rfl)) evs_nil) (D, s, c) rfl rfl trivial)) (fun h => ?_) (fun h => ?_)
  · refine go_ret (ev_tup (evs_cons ev_str (evs_cons ev_str evs_nil))) hQ ?_
    have h' : c = 10 ∧ D.wide = false := by simpa using h
    show _ = encR (step D s c)
    rcases hp with hp | ⟨q, hp⟩
    · rw [show s = .freed from hp, step, if_pos h']; rfl
    · rw [show s = .freedq q from hp, step, if_pos h']; rfl
  have h' : ¬ (c = 10 ∧ D.wide = false) := by simpa using h
  refine go_if0 (et_cmp (ev_ix (ev_fldI (i := 1) (ev_var (i := 0) rfl rfl (.inl rfl)) T.k_freed T.freed_state pnd rfl rfl) ev_int (by walk_at "xd") (fun _ _ => rfl)) ev_str (by walk_at "bd") (nomark _)) (fun h => ?_) (fun h => ?_)
  · refine go_ret (ev_tup (evs_cons ev_str (evs_cons (ev_gl T.cPLAIN rfl) evs_nil))) hQ ?_
    show _ = encR (step D s c)
    rcases hp with hp | ⟨q, hp⟩
    · rw [show s = .freed from hp, step, if_neg h']; rfl
    · rw [show s = .freedq q from hp] at h
      exact absurd ((sg_nil q).symm.trans h) (by simp)
  · refine go_ret (ev_tup (evs_cons ev_str (evs_cons (ev_tup (evs_cons ev_str (evs_cons (ev_ix (ev_fldI (i := 1) (ev_var (i := 0) rfl rfl (.inl rfl)) T.k_freed T.freed_state pnd rfl rfl) ev_int (by walk_at "xd") (fun _ _ => rfl)) evs_nil))) evs_nil))) hQ ?_
    show _ = encR (step D s c)
    rcases hp with hp | ⟨q, hp⟩
    · rw [show s = .freed from hp] at h
      have h : ((quo .freed == ("" : Str)) : Bool) = false := h
      rw [quo_nil] at h
      cases h
    · rw [show s = .freedq q from hp, step, if_neg h']; rfl
/-! ### Turn -/
/-- which class a state's place is of -/
def plc (A : Ad) : Sta → Addr
  | .row => A.fresh | .cell => A.fresh | .plain => A.plain | .behind => A.behind | .freed => A.freed | .within _ => A.within | .doubt _ => A.doubt | .freedq _ => A.freed
abbrev spPl (K : PySem.W.Frag) (C : Addr) : Sp := spMk K C pnames (T := Dt × Dt) (fun i => [i.1, i.2]) (fun _ => True) (fun i => [i.1, i.2])
theorem ok_at_state (F : FnP K "at_state" "Turn.at_state" s_Turn_at_state f fd) (T : Tx K mg A) (C1 : CalC P w K mg base 1 "Within" A.within ["self", "dialect", "state"] (spPl K A.within)) (C2 : CalC P w K mg base 1 "Doubt" A.doubt ["self", "dialect", "state"] (spPl K A.doubt))
    (C3 : CalC P w K mg base 1 "Behind" A.behind ["self", "dialect", "state"] (spPl K A.behind)) (C4 : CalC P w K mg base 1 "Freed" A.freed ["self", "dialect", "state"] (spPl K A.freed)) (C5 : CalC P w K mg base 1 "Plain" A.plain ["self", "dialect", "state"] (spPl K A.plain))
    (C6 : CalC P w K mg base 1 "Fresh" A.fresh ["self", "dialect", "state"] (spPl K A.fresh)) :
    FnOk P w K mg base CX0 3 f fd ["self", "state"] (spT K (T := Dia × Sta) (fun i => [encTurn A i.1, encS i.2]) (fun _ => True) (fun i d => d = encP A (plc A i.2) i.1 i.2)) := by
  refine fn_ok F sc_Turn_at_state (fun _ => rfl) fun ⟨D, s⟩ cdv A' outer sh H0 E B0 D' hr hp hn hQ => ?_
  refine go_set (i := 2) (ev_ix (ev_var (i := 1) rfl rfl (.inl rfl)) ev_int (by walk_at "xd") (fun _ _ => rfl)) ?_ sc_Turn_at_state.nd rfl (.inl rfl)
  refine go_if0 (et_cmp (ev_var (i := 2) rfl rfl (.inl rfl)) ev_str (by walk_at "bd") (nomark _)) (fun h => ?_) (fun h1 => ?_)
  · refine go_ret (ev_make C1 (hr.mono (by decide)) (evs_cons (ev_fldI (i := 0) (ev_var (i := 0) rfl rfl (.inl rfl)) T.k_turn T.t_dialect tnd rfl rfl) (evs_cons (ev_var (i := 1) rfl rfl (.inl rfl)) evs_nil)) (encD A D, encS s) rfl rfl trivial rfl) hQ ?_
    show _ = encP A (plc A s) D s
    have h : ((wrd s == ("within" : Str)) : Bool) = true := h
    rw [wrd_within] at h
    cases s <;> first | rfl | cases h
  refine go_if0 (et_cmp (ev_var (i := 2) rfl rfl (.inl rfl)) ev_str (by walk_at "bd") (nomark _)) (fun h => ?_) (fun h2 => ?_)
  · refine go_ret (ev_make C2 (hr.mono (by decide)) (evs_cons (ev_fldI (i := 0) (ev_var (i := 0) rfl rfl (.inl rfl)) T.k_turn T.t_dialect tnd rfl rfl) (evs_cons (ev_var (i := 1) rfl rfl (.inl rfl)) evs_nil)) (encD A D, encS s) rfl rfl trivial rfl) hQ ?_
    show _ = encP A (plc A s) D s
    have h : ((wrd s == ("doubt" : Str)) : Bool) = true := h
    rw [wrd_doubt] at h
    cases s <;> first | rfl | cases h
  refine go_if0 (et_cmp (ev_var (i := 2) rfl rfl (.inl rfl)) ev_str (by walk_at "bd") (nomark _)) (fun h => ?_) (fun h3 => ?_)
  · refine go_ret (ev_make C3 (hr.mono (by decide)) (evs_cons (ev_fldI (i := 0) (ev_var (i := 0) rfl rfl (.inl rfl)) T.k_turn T.t_dialect tnd rfl rfl) (evs_cons (ev_var (i := 1) rfl rfl (.inl rfl)) evs_nil)) (encD A D, encS s) rfl rfl trivial rfl) hQ ?_
    show _ = encP A (plc A s) D s
    have h : ((wrd s == ("behind" : Str)) : Bool) = true := h
    rw [wrd_behind] at h
    cases s <;> first | rfl | cases h
  refine go_if0 (et_cmp (ev_var (i := 2) rfl rfl (.inl rfl)) ev_str (by walk_at "bd") (nomark _)) (fun h => ?_) (fun h4 => ?_)
  · refine go_ret (ev_make C4 (hr.mono (by decide)) (evs_cons (ev_fldI (i := 0) (ev_var (i := 0) rfl rfl (.inl rfl)) T.k_turn T.t_dialect tnd rfl rfl) (evs_cons (ev_var (i := 1) rfl rfl (.inl rfl)) evs_nil)) (encD A D, encS s) rfl rfl trivial rfl) hQ ?_
    show _ = encP A (plc A s) D s
    have h : ((wrd s == ("freed" : Str)) : Bool) = true := h
    rw [wrd_freed] at h
    cases s <;> first | rfl | cases h
  refine go_if0 (et_cmp (ev_var (i := 2) rfl rfl (.inl rfl)) ev_str (by walk_at "bd") (nomark _)) (fun h => ?_) (fun h5 => ?_)
  · refine go_ret (ev_make C5 (hr.mono (by decide)) (evs_cons (ev_fldI (i := 0) (ev_var (i := 0) rfl rfl (.inl rfl)) T.k_turn T.t_dialect tnd rfl rfl) (evs_cons (ev_var (i := 1) rfl rfl (.inl rfl)) evs_nil)) (encD A D, encS s) rfl rfl trivial rfl) hQ ?_
    show _ = encP A (plc A s) D s
    have h : ((wrd s == ("plain" : Str)) : Bool) = true := h
    rw [wrd_plain] at h
    cases s <;> first | rfl | cases h
  refine go_ret (ev_make C6 (hr.mono (by decide)) (evs_cons (ev_fldI (i := 0) (ev_var (i := 0) rfl rfl (.inl rfl)) T.k_turn T.t_dialect tnd rfl rfl) (evs_cons (ev_var (i := 1) rfl rfl (.inl rfl)) evs_nil)) (encD A D, encS s) rfl rfl trivial rfl) hQ ?_
  show _ = encP A (plc A s) D s
  have h1 : ((wrd s == ("within" : Str)) : Bool) = false := h1
  have h2 : ((wrd s == ("doubt" : Str)) : Bool) = false := h2
  have h3 : ((wrd s == ("behind" : Str)) : Bool) = false := h3
  have h4 : ((wrd s == ("freed" : Str)) : Bool) = false := h4
  have h5 : ((wrd s == ("plain" : Str)) : Bool) = false := h5
  rw [wrd_within] at h1
  rw [wrd_doubt] at h2
  rw [wrd_behind] at h3
  rw [wrd_freed] at h4
  rw [wrd_plain] at h5
  cases s <;> first | rfl | exact absurd (show true = false from h1) (by decide) | exact absurd (show true = false from h2) (by decide) | exact absurd (show true = false from h3) (by decide) | exact absurd (show true = false from h4) (by decide) | exact absurd (show true = false from h5) (by decide)
abbrev spTurn (K : PySem.W.Frag) (A : Ad) : Sp := spT K (T := Dia × Sta × Nat) (fun i => [encTurn A i.1, encS i.2.1, .str (sg i.2.2)]) (fun _ => True) (fun i d => d = encR (step i.1 i.2.1 i.2.2))
theorem ok_Turn_step (F : FnP K "step" "Turn.step" s_Turn_step f fd) (T : Tx K mg A) (F_at : CalM P w K mg base 3 A.turn "at_state" ["self", "state"] (spT K (T := Dia × Sta) (fun i => [encTurn A i.1, encS i.2]) (fun _ => True) (fun i d => d = encP A (plc A i.2) i.1 i.2)))
    (M1 : CalM P w K mg base 2 A.within "step" ["self", "sign"] (spStep K A A.within fun s => ∃ q, s = .within q)) (M2 : CalM P w K mg base 2 A.doubt "step" ["self", "sign"] (spStep K A A.doubt fun s => ∃ q, s = .doubt q))
    (M3 : CalM P w K mg base 1 A.behind "step" ["self", "sign"] (spT K (T := Dia × Sta × Nat) (fun i => [encP A A.behind i.1 i.2.1, .str (sg i.2.2)]) (fun _ => True) (fun i d => d = encR (stepBehind i.1 i.2.2))))
    (M4 : CalM P w K mg base 2 A.freed "step" ["self", "sign"] (spStep K A A.freed fun s => s = .freed ∨ ∃ q, s = .freedq q))
    (M5 : CalM P w K mg base 2 A.plain "step" ["self", "sign"] (spT K (T := Dia × Nat) (fun i => [encP A A.plain i.1 .plain, .str (sg i.2)]) (fun _ => True) (fun i d => d = encR (stepPlain i.1 i.2))))
    (M6 : CalM P w K mg base 2 A.fresh "step" ["self", "sign"] (spT K (T := Dia × Sta × Nat) (fun i => [encP A A.fresh i.1 i.2.1, .str (sg i.2.2)]) (fun _ => True) (fun i d => d = encR (stepFresh i.1 i.2.1 i.2.2)))) :
    FnOk P w K mg base CX0 4 f fd ["self", "state", "sign"] (spTurn K A) := by
  refine fn_ok F sc_Turn_step (fun _ => rfl) fun ⟨D, s, c⟩ cdv A' outer sh H0 E B0 D' hr hp hn hQ => ?_
  have r1 : Room 1 _ := hr.mono (by decide)
  have r2 : Room 2 _ := hr.mono (by decide)
  have r3 : Room 3 _ := hr.mono (by decide)
  cases s with
  | within q => exact go_ret (ev_meth M1 r2 (ev_meth F_at r3 (ev_var (i := 0) rfl rfl (.inl rfl)) T.k_turn (by decide +kernel) (evs_cons (ev_var (i := 1) rfl rfl (.inl rfl)) evs_nil) (D, .within q) rfl rfl trivial) T.k_within (by decide +kernel) (evs_cons (ev_var (i := 2) rfl rfl (.inl rfl)) evs_nil) (D, .within q, c) rfl rfl ⟨q, rfl⟩) hQ rfl
  | doubt q => exact go_ret (ev_meth M2 r2 (ev_meth F_at r3 (ev_var (i := 0) rfl rfl (.inl rfl)) T.k_turn (by decide +kernel) (evs_cons (ev_var (i := 1) rfl rfl (.inl rfl)) evs_nil) (D, .doubt q) rfl rfl trivial) T.k_doubt (by decide +kernel) (evs_cons (ev_var (i := 2) rfl rfl (.inl rfl)) evs_nil) (D, .doubt q, c) rfl rfl ⟨q, rfl⟩) hQ rfl
  | behind => exact go_ret (ev_meth M3 r1 (ev_meth F_at r3 (ev_var (i := 0) rfl rfl (.inl rfl)) T.k_turn (by decide +kernel) (evs_cons (ev_var (i := 1) rfl rfl (.inl rfl)) evs_nil) (D, .behind) rfl rfl trivial) T.k_behind (by decide +kernel) (evs_cons (ev_var (i := 2) rfl rfl (.inl rfl)) evs_nil) (D, .behind, c) rfl rfl trivial) hQ rfl
  | freed => exact go_ret (ev_meth M4 r2 (ev_meth F_at r3 (ev_var (i := 0) rfl rfl (.inl rfl)) T.k_turn (by decide +kernel) (evs_cons (ev_var (i := 1) rfl rfl (.inl rfl)) evs_nil) (D, .freed) rfl rfl trivial) T.k_freed (by decide +kernel) (evs_cons (ev_var (i := 2) rfl rfl (.inl rfl)) evs_nil) (D, .freed, c) rfl rfl (.inl rfl)) hQ rfl
  | freedq q => exact go_ret (ev_meth M4 r2 (ev_meth F_at r3 (ev_var (i := 0) rfl rfl (.inl rfl)) T.k_turn (by decide +kernel) (evs_cons (ev_var (i := 1) rfl rfl (.inl rfl)) evs_nil) (D, .freedq q) rfl rfl trivial) T.k_freed (by decide +kernel) (evs_cons (ev_var (i := 2) rfl rfl (.inl rfl)) evs_nil) (D, .freedq q, c) rfl rfl (.inr ⟨q, rfl⟩)) hQ rfl
  | plain => exact go_ret (ev_meth M5 r2 (ev_meth F_at r3 (ev_var (i := 0) rfl rfl (.inl rfl)) T.k_turn (by decide +kernel) (evs_cons (ev_var (i := 1) rfl rfl (.inl rfl)) evs_nil) (D, .plain) rfl rfl trivial) T.k_plain (by decide +kernel) (evs_cons (ev_var (i := 2) rfl rfl (.inl rfl)) evs_nil) (D, c) rfl rfl trivial) hQ rfl
  | row => exact go_ret (ev_meth M6 r2 (ev_meth F_at r3 (ev_var (i := 0) rfl rfl (.inl rfl)) T.k_turn (by decide +kernel) (evs_cons (ev_var (i := 1) rfl rfl (.inl rfl)) evs_nil) (D, .row) rfl rfl trivial) T.k_fresh (by decide +kernel) (evs_cons (ev_var (i := 2) rfl rfl (.inl rfl)) evs_nil) (D, .row, c) rfl rfl trivial) hQ rfl
  | cell => exact go_ret (ev_meth M6 r2 (ev_meth F_at r3 (ev_var (i := 0) rfl rfl (.inl rfl)) T.k_turn (by decide +kernel) (evs_cons (ev_var (i := 1) rfl rfl (.inl rfl)) evs_nil) (D, .cell) rfl rfl trivial) T.k_fresh (by decide +kernel) (evs_cons (ev_var (i := 2) rfl rfl (.inl rfl)) evs_nil) (D, .cell, c) rfl rfl trivial) hQ rfl
end
end Dh
end SDhTurn2

section SDhSet
set_option Elab.async false
set_option linter.all false
set_option maxRecDepth 100000
set_option maxHeartbeats 4000000
/-! The set of a text's signs: made, counted, laid in a row. -/
namespace Dh
open PySem PySem.Spec PyProof.Rows L2 PySem.Froz

/-- the set of texts at a: its members, each once -/
def SetTx (P : Program) (w : World) (h : Heap) (a : Addr) (l : List Str) : Prop :=
  ∃ D : SD, h.get? a = some (sObj "set" D) ∧ PySem.Froz.TxOk P w D l ∧ l.Nodup ∧ Ris D.2.2.place.toList ∧ (w.params.followText "set-order" = true ∨ D.2.2.led = true)
section
variable {P : Program} {w : World} {A : Around} {E : Value → Shared → Prop} {s : Shared} {a : Addr} {l : List Str}
theorem SetTx.at {h h' : Heap} (R : SetTx P w h a l) (k : ∀ o, h.get? a = some o → h'.get? a = some o) : SetTx P w h' a l := by
  obtain ⟨D, hD, r⟩ := R
  exact ⟨D, k _ hD, r⟩
theorem tail_ris {ep : Nat} {es : Array (Int × Value)} {t : SetTable} {b : Bool} (r : Ris t.place.toList) : Ris (tailTx ep es t b).2.2.place.toList := by
  unfold tailTx
  split
  · exact relayAll_ris _ _ _
  · exact r
theorem tail_led {ep : Nat} {es : Array (Int × Value)} {t : SetTable} {b : Bool} : (tailTx ep es t b).2.2.led = t.led := by
  unfold tailTx
  split
  · exact relayAll_led _ _ _
  · rfl
theorem addTx_ris {h : Int} {v : Value} {D : SD} (r : Ris D.2.2.place.toList) : Ris (addTx h v D).2.2.place.toList := by
  have hr := layNew_ris D.2.2 D.1 h v r
  unfold addTx
  refine tail_ris ?_
  split <;> exact hr
theorem addTx_led {h : Int} {v : Value} {D : SD} (r : w.params.followText "set-order" = true ∨ D.2.2.led = true) : w.params.followText "set-order" = true ∨ (addTx h v D).2.2.led = true := by
  have hl := layNew_led D.2.2 D.1 h v
  refine r.imp id fun z => ?_
  unfold addTx
  rw [tail_led]
  split <;> exact hl.trans z
/-- a text laid into it -/
theorem set_add {k : Str} {u : Tok} {Q : Bool → Shared → Prop} (R : SetTx P w s.heap a l) (hb : l.length + 1 < scanBound)
    (h : ∀ b h', Heap.SameBut a s.heap h' → SetTx P w h' a (if k ∈ l then l else k :: l) → Q b { s with heap := h' }) : wpAny (model P w) A (setAddHashed a (.str k u) (hashStr w k)) Q E s := by
  obtain ⟨D, hD, F, nd, r, hl⟩ := R
  by_cases hk : k ∈ l
  · rw [if_pos hk] at h
    have q := h
    obtain ⟨es, ep, t⟩ := D
    have hd : (sObj "set" (es, ep, t)).data = .set es ep t := rfl
    have hf : t.fits es.size = true := F.fit
    have hel : ElemsOf (strKind P w) es.toList := F.el
    have hsz : es.size = l.length := F.sz
    have hb0 : es.size < scanBound := by omega
    have hkey : (strKind P w).is k (.str k u) = true := is_str k u
    unfold setAddHashed setAddHashedIn
    refine wpAny_holding (wpAny_bind (wpAny_setState_of hD hd hf ?_))
    dsimp only
    rw [byScan_of rfl hb0 hel]
    simp only [↓reduceIte]
    unfold setAddByScan
    refine wpAny_bind ?_
    refine wpAny_bind (wpAny_rule ?_)
    refine wpAny_bind (wpAny_setScan_of (knd := strKind P w) (k := k) hkey hD hd hf hel ?_)
    cases hr : List.findIdx? (fun e => (strKind P w).is k e.2) es.toList with
    | none =>
      obtain ⟨e, he, z⟩ := (F.mem k).mp hk
      have c := List.findIdx?_eq_none_iff.mp hr e he
      rw [z] at c
      cases c
    | some j =>
      dsimp only
      refine wpAny_pure (wpAny_pure ?_)
      exact h _ s.heap (Heap.SameBut.refl a s.heap) ⟨_, hD, F, nd, r, hl⟩
  · rw [if_neg hk] at h
    refine add_x hD F hk hb ?_
    refine h true _ ⟨by rw [Heap.size_after_update], fun b hb' => ?_⟩ ⟨addTx (hashStr w k) (.str k u) D, get_upd _ hD rfl, add_ok u F, List.nodup_cons.mpr ⟨hk, nd⟩, addTx_ris r, addTx_led hl⟩
    exact Heap.get?_update_other _ _ (Ne.symm hb')
/-- the members behind the signs of a text -/
def memb (z : List Nat) : List Str := z.foldl (fun l c => if sing c ∈ l then l else sing c :: l) []
theorem memb_snoc (z : List Nat) (c : Nat) : memb (z ++ [c]) = if sing c ∈ memb z then memb z else sing c :: memb z := by
  unfold memb
  rw [List.foldl_append]
  rfl
theorem memb_len (z : List Nat) : (memb z).length ≤ z.length := by
  have : ∀ (z : List Nat) (l : List Str), (z.foldl (fun l c => if sing c ∈ l then l else sing c :: l) l).length ≤ l.length + z.length := by
    intro z
    induction z with
    | nil => intro l; simp
    | cons c z ih =>
      intro l
      rw [List.foldl_cons]
      have := ih (if sing c ∈ l then l else sing c :: l)
      split at this
      · rename_i q; rw [if_pos q, List.length_cons]; omega
      · rename_i q; rw [if_neg q]; rw [List.length_cons] at this ⊢; omega
  have := this z []
  simpa [memb] using this
theorem mem_memb (z : List Nat) : ∀ k : Str, k ∈ memb z ↔ ∃ c ∈ z, k = sing c := by
  have : ∀ (z : List Nat) (l : List Str) (k : Str), k ∈ z.foldl (fun l c => if sing c ∈ l then l else sing c :: l) l ↔ k ∈ l ∨ ∃ c ∈ z, k = sing c := by
    intro z
    induction z with
    | nil => intro l k; simp
    | cons c z ih =>
      intro l k
      rw [List.foldl_cons, ih]
      split
      · rename_i q
        constructor
        · rintro (h | ⟨d, hd, e⟩)
          · exact .inl h
          · exact .inr ⟨d, List.mem_cons_of_mem _ hd, e⟩
        · rintro (h | ⟨d, hd, e⟩)
          · exact .inl h
          · rcases List.mem_cons.mp hd with r | r
            · subst r; exact .inl (e ▸ q)
            · exact .inr ⟨d, r, e⟩
      · constructor
        · rintro (h | ⟨d, hd, e⟩)
          · rcases List.mem_cons.mp h with r | r
            · exact .inr ⟨c, List.mem_cons_self, r⟩
            · exact .inl r
          · exact .inr ⟨d, List.mem_cons_of_mem _ hd, e⟩
        · rintro (h | ⟨d, hd, e⟩)
          · exact .inl (List.mem_cons_of_mem _ h)
          · rcases List.mem_cons.mp hd with r | r
            · subst r; exact .inl (e ▸ List.mem_cons_self)
            · exact .inr ⟨d, r, e⟩
  intro k
  have h := this z [] k
  simpa [memb] using h
theorem sing_inj {c d : Nat} (h : sing c = sing d) : c = d := by
  have q : [c] = [d] := congrArg (fun y : Str => y.cps.toList) h
  exact (List.cons.inj q).1
/-- all signs unlike: as many members as signs -/
theorem memb_nodup {z : List Nat} (h : z.Nodup) : (memb z).length = z.length := by
  have : ∀ (z : List Nat) (l : List Str), z.Nodup → (∀ c ∈ z, sing c ∉ l) → (z.foldl (fun l c => if sing c ∈ l then l else sing c :: l) l).length = l.length + z.length := by
    intro z
    induction z with
    | nil => intro l _ _; simp
    | cons c z ih =>
      intro l nd hn
      obtain ⟨n1, n2⟩ := List.nodup_cons.mp nd
      rw [List.foldl_cons, if_neg (hn c List.mem_cons_self), ih _ n2 fun d hd q => ?_]
      · simp only [List.length_cons]; omega
      · rcases List.mem_cons.mp q with r | r
        · exact n1 (sing_inj r ▸ hd)
        · exact hn d (List.mem_cons_of_mem _ hd) r
  have := this z [] h fun c _ q => by cases q
  simpa [memb] using this
end
section
variable {P : Program} {w : World} {A : Around} {R : Result → Shared → Prop} {I : Addr} {fp wr : List Addr} {G : Array GenState → Array GenState → Prop} {St : Nat → Shared → Prop}
/-- the signs of z, laid into the set one behind another -/
theorem set_loop {z : Str} (W : WalksS P w A.in1 I fp wr G z.cps.size (SignAt z) St) (S : Addr) (hSf : S ∉ fp) (hn : z.cps.size + 1 < scanBound) :
    ∀ (k i : Nat) (s : Shared), z.cps.size - i = k → i ≤ z.cps.size → St i s → SetTx P w s.heap S (memb (z.cps.toList.take i)) →
      (∀ s', Moved (S :: wr) G s s' → SetTx P w s'.heap S (memb z.cps.toList) → R (.ok (.ret .none)) s') →
      codeAny (model P w) A (.builtin "set.update.loop" ⟨[.ref S, .ref I], []⟩) R s := by
  have hSw : S ∉ wr := fun h => hSf (W.sub _ h)
  have hsub : ∀ b ∈ wr, b ∈ S :: wr := fun b hb => List.mem_cons_of_mem _ hb
  intro k
  induction k with
  | zero =>
    intro i s hk hi hst hS hR
    have hin : i = z.cps.size := by omega
    subst hin
    refine codeAny_builtin PyProof.Rows.F.entry_set_update_loop ?_
    rw [Around.under_plainId PyProof.Rows.F.plain_set_update_loop _]
    show wpAny _ A.in1 (pyNext (.ref I) >>= _) _ _ s
    refine wpAny_bind (W.done s _ _ hst fun s' hm => ?_)
    show wpAny _ A.in1 (ret Value.none) _ _ s'
    refine wpAny_pure (hR s' (hm.mono hsub) ?_)
    rw [List.take_of_length_le (by rw [Array.length_toList]; exact Nat.le_refl _)] at hS
    exact hS.at fun o e => hm.heap S _ hSw e
  | succ k ih =>
    intro i s hk hi hst hS hR
    have hlt : i < z.cps.size := by omega
    refine codeAny_builtin PyProof.Rows.F.entry_set_update_loop ?_
    rw [Around.under_plainId PyProof.Rows.F.plain_set_update_loop _]
    show wpAny _ A.in1 (pyNext (.ref I) >>= _) _ _ s
    refine wpAny_bind (W.item i s _ _ hlt hst fun v s' hP hst' hm => ?_)
    obtain ⟨c, t, hc, rfl⟩ := hP
    have hS' : SetTx P w s'.heap S (memb (z.cps.toList.take i)) := hS.at fun o e => hm.heap S _ hSw e
    show wpAny _ A.in1 (holding [Value.str (sing c) t] (setAdd S (.str (sing c) t)) >>= _) _ _ s'
    refine wpAny_bind (wpAny_holding ?_)
    unfold setAdd
    refine wpAny_holding ?_
    refine wpAny_bind ((PySem.strKind P w).pyHash (k := sing c) (is_str _ _) ?_)
    have hl : (memb (z.cps.toList.take i)).length + 1 < scanBound := by
      have := memb_len (z.cps.toList.take i)
      rw [List.length_take] at this
      have q : z.cps.toList.length = z.cps.size := Array.length_toList
      have : (memb (z.cps.toList.take i)).length ≤ z.cps.size := by omega
      omega
    refine set_add (s := { s' with toks := s'.toks + 1 }) hS' hl fun b h' hsb hS2 => ?_
    have tk : z.cps.toList.take (i + 1) = z.cps.toList.take i ++ [c] := by
      rw [List.take_succ, Array.getElem?_toList, hc]; rfl
    rw [← memb_snoc, ← tk] at hS2
    refine wpAny_pure ⟨plainId_quiet PyProof.Rows.F.plain_set_update_loop _, ih (i + 1) _ (by omega) hlt (W.frame _ s' _ _ hst' (Nat.le_succ _) fun b hb o e => ?_) hS2 fun s'' hm'' hS'' => ?_⟩
    · rw [hsb.2 b (fun h : b = S => hSf (by rw [← h]; exact hb))]; exact e
    · refine hR s'' (Moved.trans W.gtrans ((hm.mono hsub).then_heap (Nat.le_succ _) fun b o hb e => ?_) hm'') hS''
      rw [hsb.2 b (fun h : b = S => hb (by rw [h]; exact List.mem_cons_self))]; exact e
end
section
variable {P : Program} {w : World} {A : Around} {E : Value → Shared → Prop} {s : Shared}
theorem code_set_led1 (x : Value) {Q₁ : Value → Shared → Prop}
    (h : Q₁ (.ref s.heap.objs.size) { s with heap := s.heap.push (sObj "set" (#[], 0, .fresh 0 0 (!w.params.followText "set-order"))) }) :
    codeAny (model P w) A (.call (.builtin "set.__new__") ⟨[.type "set", x], []⟩) (wants Q₁ E) s := by
  refine codeAny_of_tree ?_
  show wpAny _ A.in1 (do checkBuiltinCall "set.__new__" ⟨[.type "set", x], []⟩; again (.builtin "set.__new__" ⟨[.type "set", x], []⟩)) _ _ s
  refine wpAny_bind (wpAny_of_eq (PySem.F.newCall_set_1 x) (wpAny_pure ⟨plainId_quiet PySem.F.plain_set_new _, codeAny_builtin PySem.F.entry_set_new ?_⟩))
  rw [Around.under_plainId PySem.F.plain_set_new _]
  unfold Builtin.«set.__new__» Builtin.Frozenset.newClass
  have hsub := sub_set_self
  obtain ⟨hp, g, d, tk, os⟩ := s
  dsimp only
  wp_walk
  refine wpAny_askSetting (wpAny_pure ?_)
  dsimp only
  simp only [newObj]
  refine wpAny_bind (wpAny_alloc (wpAny_pure ?_))
  exact wpAny_pure h
theorem set_fresh {h : Heap} (P : Program) (w : World) : SetTx P w (h.push (sObj "set" (#[], 0, .fresh 0 0 (!w.params.followText "set-order")))) h.objs.size [] :=
  ⟨_, Heap.get?_push_size _ rfl, TxOk.nil (by rfl), List.nodup_nil, List.Pairwise.nil, by
    show _ ∨ (!w.params.followText "set-order") = true
    cases w.params.followText "set-order"
    · exact .inr rfl
    · exact .inl rfl⟩
set_option maxHeartbeats 3200000 in
theorem set_text {z : Str} {t : Tok} {Q : Value → Shared → Prop} (hh : A.handled = none) (hn : z.cps.size + 1 < scanBound)
    (h : ∀ (h' : Heap) (tk : Nat), SetTx P w h' s.heap.objs.size (memb z.cps.toList) → (∀ b o, b < s.heap.objs.size → s.heap.get? b = some o → h'.get? b = some o) → Q (.ref s.heap.objs.size) { s with heap := h', toks := tk }) :
    wpAny (model P w) A (call (.type "set") [.str z t]) Q E s := by
  obtain ⟨c, tl, hmro⟩ := PySem.F.called_set.mro
  have hmade := PySem.F.called_set.made
  have hsub := PySem.F.called_set.sub
  refine wpAny_call (codeAny_of_tree ?_)
  show wpAny _ _ (callAny (.type "set") _) _ _ _
  refine wpAny_pure ⟨Code.quiet_builtin _ (by decide +kernel), codeAny_builtin PySem.F.entry_type_call ?_⟩
  rw [Around.under_plain (weight_type_call_type "set" [.str z t] []) rfl]
  have h1 := PySem.F.called_set.notType
  have h2 := PySem.F.called_set.canCreate
  have hct := PySem.F.typeCall_set_1 (.str z t)
  repeat (any_goals (first | assumption | wp_step))
  refine codeAny_mono (code_set_led1 (.str z t) (E := E) (Q₁ := fun obj s₁ => obj = .ref s.heap.objs.size ∧ s₁ = { s with heap := s.heap.push (sObj "set" (#[], 0, .fresh 0 0 (!w.params.followText "set-order"))) }) ⟨rfl, rfl⟩) fun r s₁ hr => ?_
  cases r with
  | error e => exact hr
  | ok fl =>
    cases fl with
    | ret obj =>
      obtain ⟨rfl, rfl⟩ := hr
      have hF := set_fresh (h := s.heap) P w
      have hS : (s.heap.push (sObj "set" (#[], 0, .fresh 0 0 (!w.params.followText "set-order")))).get? s.heap.objs.size = some (sObj "set" (#[], 0, .fresh 0 0 (!w.params.followText "set-order"))) := Heap.get?_push_size _ rfl
      have hT : Shared.TypeIs { s with heap := s.heap.push (sObj "set" (#[], 0, .fresh 0 0 (!w.params.followText "set-order"))) } (.ref s.heap.objs.size) "set" := ⟨_, hS, rfl⟩
      have hli := PySem.F.called_set.init.lookup
      have hbi := PySem.F.called_set.init.bind (.ref s.heap.objs.size)
      repeat (any_goals (first | assumption | wp_step))
      refine codeAny_mono (codeAny_call_builtin (R := wants (fun r s₂ => r = .none ∧ ∃ h' tk, s₂ = { s with heap := h', toks := tk } ∧ SetTx P w h' s.heap.objs.size (memb z.cps.toList) ∧
          (∀ b o, b < s.heap.objs.size → s.heap.get? b = some o → h'.get? b = some o)) E) PySem.F.called_set.init.plain PySem.F.entry_set_init (check_set_init_1 hT ?_)) fun r₂ s₂ hr₂ => ?_
      · have hsls := PySem.F.sub_str_set
        have hslf := PySem.F.sub_str_frozenset
        have hne : (Value.type "str" == Value.type "dict") = false := by decide
        unfold Builtin.«set.__init__» noKeywords Builtin.Frozenset.updateFrom
        generalize hPI : pyIter = PI
        wp_walk
        subst hPI
        refine wpAny_pyIter_str fun o St W hst => ?_
        refine wpAny_bind (wpAny_runValue ?_)
        have hh3 : A.in1.in1.in1.handled = none := by simp [hh]
        have e1 : (s.heap.push (sObj "set" (#[], 0, .fresh 0 0 (!w.params.followText "set-order")))).objs.size = s.heap.objs.size + 1 := size_push' _ _
        have hSf : s.heap.objs.size ∉ [(s.heap.push (sObj "set" (#[], 0, .fresh 0 0 (!w.params.followText "set-order")))).objs.size] := by
          rw [e1, List.mem_singleton]; omega
        refine set_loop (W _ hh3).toS s.heap.objs.size hSf hn (z.cps.size - 0) 0 _ (by omega) (Nat.zero_le _) hst ?_ fun s' hm hS' => ?_
        · rw [List.take_zero]
          exact hF.at fun o e => Heap.get?_push_of_some _ e
        · obtain ⟨h', g', d', tk', os'⟩ := s'
          have eg : g' = s.gens := hm.gens
          have ed : d' = s.drawn := hm.drawn
          have eo : os' = s.os := hm.os
          subst eg; subst ed; subst eo
          show wpAny _ _ _ _ _ _
          refine wpAny_pure ?_
          show wpAny _ _ (ret Value.none) _ _ _
          refine wpAny_pure ⟨rfl, h', tk', rfl, hS', fun b o hb e => ?_⟩
          exact hm.heap b o (by
            rw [e1]; simp only [List.mem_cons, List.not_mem_nil, or_false, not_or]
            exact ⟨Nat.ne_of_lt hb, Nat.ne_of_lt (Nat.lt_succ_of_lt hb)⟩) (Heap.get?_push_of_some _ (Heap.get?_push_of_some _ e))
      · cases r₂ with
        | error e => exact hr₂
        | ok fl₂ =>
          cases fl₂ with
          | ret r =>
            obtain ⟨rfl, h', tk, rfl, hS', hk'⟩ := hr₂
            repeat (any_goals (first | assumption | wp_step))
            exact h _ _ hS' hk'
          | _ => exact hr₂.elim
    | _ => exact hr.elim
theorem perm_of_len : ∀ (l ys : List Str), l.Nodup → (∀ x ∈ l, x ∈ ys) → ys.length ≤ l.length → ys.Perm l
  | [], ys, _, _, h => by
    rw [List.length_nil] at h
    rw [List.eq_nil_of_length_eq_zero (by omega : ys.length = 0)]
  | x :: l, ys, nd, hm, h => by
    obtain ⟨n1, n2⟩ := List.nodup_cons.mp nd
    have hx : x ∈ ys := hm x List.mem_cons_self
    have p := List.perm_cons_erase hx
    have q := p.length_eq
    rw [List.length_cons] at q h
    exact p.trans ((perm_of_len l (ys.erase x) n2 (fun y hy => (List.mem_erase_of_ne fun (z : y = x) => n1 (z ▸ hy)).mpr (hm y (List.mem_cons_of_mem _ hy))) (by omega)).cons x)
/-- the members in a row -/
theorem txok_strs {D : SD} {l : List Str} (F : PySem.Froz.TxOk P w D l) (nd : l.Nodup) {vs : List Value} (pm : vs.Perm (D.1.toList.map (·.2))) : ∃ ys : List Str, StrsAre vs ys ∧ ys.Perm l := by
  have st : ∀ e ∈ D.1.toList, ∃ x tk, e.2 = Value.str x tk := fun e he => by
    obtain ⟨⟨k, h1, _⟩, _⟩ := F.el e he
    obtain ⟨tk, e1⟩ := Value.isStrOf_shape (x := k) (v := e.2) h1
    exact ⟨k, tk, e1⟩
  have sv : ∀ v ∈ vs, ∃ x tk, v = Value.str x tk := fun v hv => by
    obtain ⟨e, he, q⟩ := List.mem_map.mp (pm.mem_iff.mp hv)
    obtain ⟨x, tk, e1⟩ := st e he
    exact ⟨x, tk, q ▸ e1⟩
  have row : ∀ vs : List Value, (∀ v ∈ vs, ∃ x tk, v = Value.str x tk) → ∃ ys : List Str, StrsAre vs ys := by
    intro vs
    induction vs with
    | nil => intro _; exact ⟨[], .nil⟩
    | cons v vs ih =>
      intro h
      obtain ⟨x, tk, rfl⟩ := h v List.mem_cons_self
      obtain ⟨ys, h2⟩ := ih fun u hu => h u (List.mem_cons_of_mem _ hu)
      exact ⟨x :: ys, .cons x tk h2⟩
  obtain ⟨ys, hy⟩ := row vs sv
  refine ⟨ys, hy, ?_⟩
  have len : ys.length = l.length := by
    rw [← StrsAre.len_eq hy, pm.length_eq, List.length_map, Array.length_toList]
    exact F.sz
  have at_ : ∀ {vs : List Value} {ys : List Str}, StrsAre vs ys → ∀ k : Str, k ∈ ys ↔ ∃ v ∈ vs, (strKind P w).is k v = true := by
    intro vs ys hy
    induction hy with
    | nil => intro k; simp
    | cons x t r ih =>
      intro k
      rw [List.mem_cons, ih]
      constructor
      · rintro (rfl | ⟨v, hv, q⟩)
        · exact ⟨_, List.mem_cons_self, is_str _ _⟩
        · exact ⟨v, List.mem_cons_of_mem _ hv, q⟩
      · rintro ⟨v, hv, q⟩
        rcases List.mem_cons.mp hv with r' | r'
        · subst r'
          exact .inl ((strKind P w).inj _ k x q (is_str x t))
        · exact .inr ⟨v, r', q⟩
  have mem : ∀ k, k ∈ ys ↔ k ∈ l := fun k => by
    rw [at_ hy k, F.mem k]
    constructor
    · rintro ⟨v, hv, q⟩
      obtain ⟨e, he, r⟩ := List.mem_map.mp (pm.mem_iff.mp hv)
      exact ⟨e, he, r ▸ q⟩
    · rintro ⟨e, he, q⟩
      exact ⟨e.2, pm.mem_iff.mpr (List.mem_map.mpr ⟨e, he, rfl⟩), q⟩
  exact perm_of_len l ys nd (fun x hx => (mem x).mpr hx) (by omega)
theorem sorted_set {l : List Str} {a : Addr} {Q : Value → Shared → Prop} (R : SetTx P w s.heap a l) (hh : A.handled = none) (h64 : l.length < 64)
    (hQ : ∀ s' p (out : Array Value) (c : Nat) (ns : List Str), (∀ b o, s.heap.get? b = some o → s'.heap.get? b = some o) → s'.gens = s.gens → s'.os = s.os → s.heap.objs.size ≤ p →
      s'.heap.get? p = some (seqObj "list" out c) → StrsAre out.toList ns → ns.Perm l → Q (.ref p) s') :
    wpAny (model P w) A (call (.builtin "sorted") [.ref a]) Q E s := by
  obtain ⟨⟨es, ep, t⟩, ho, F, nd, hr, hl⟩ := R
  have hb : es.size < scanBound := by
    have z : es.size = l.length := F.sz
    rw [z]
    exact Nat.lt_trans h64 (by decide)
  refine Calls.call_function_entry kind_sorted plain_sorted entry_sorted (args_sorted1 _) ?_
  unfold Builtin.«sorted»
  refine wpAny_bind (m := checkCount "sorted" 1 1 _) (wpAny_pure ?_)
  refine wpAny_bind (collect_set (A := A.in1) hh ⟨_, ho, rfl, rfl⟩ F.fit hb hr hl fun s1 vs k1 hz g1 o1 pm => ?_)
  obtain ⟨ys, hS, hp0⟩ := txok_strs F nd pm
  have hvl : vs.length = l.length := by rw [StrsAre.len_eq hS, hp0.length_eq]
  refine wpAny_bind (wpAny_newList ?_ (by rw [hvl, sizeLine_eq]; omega))
  have hoL : (s1.heap.push (seqObj "list" vs.toArray 0)).get? s1.heap.objs.size = some (seqObj "list" vs.toArray 0) := Heap.get?_push_size _ rfl
  refine wpAny_bind (wpAny_holding (wpAny_call_entry PyProof.Rows.slot_list_sort ⟨_, hoL, rfl⟩ PyProof.Rows.entry_list_sort
    (list_sort_treeK strKind_oneLt hoL hS.keysOf (fun v₁ v₂ rest e => keyKind_strs (by rw [← e]; exact hS)) (by rw [hvl]; exact h64) fun st' hp hs => ⟨_, rfl, ?_⟩) (PyProof.Rows.args_list_sort _)))
  obtain ⟨ns, q1, q2, q3⟩ := sorted_out_str hS hp hs
  obtain ⟨c, hc⟩ := PyProof.Rows.sortedHeap_at (vs := vs) (out := (arrOf st').map (·.2)) hoL
  refine wpAny_pure ⟨_, rfl, hQ _ s1.heap.objs.size ((arrOf st').map (·.2)) c ns (fun b u e => ?_) g1 o1 hz hc q1 (q2.trans hp0)⟩
  have q := k1 b u e
  have hlt := Heap.lt_size q
  show (sortedHeap (s1.heap.push (seqObj "list" vs.toArray 0)) s1.heap.objs.size vs _).get? b = some u
  rw [sortedHeap_old (Nat.ne_of_lt hlt) (by rw [size_push']; exact Nat.lt_succ_of_lt hlt)]
  exact Heap.get?_push_of_some _ q
end

/-! ### in the layer -/
def SetT (P : Program) (w : World) (a : Addr) (l : List Str) : HO := .ext fun h => SetTx P w h a l
section
variable {X : Cx} {G : List (Option Dt)} {e : Expr} {z : Str} {p p1 p2 q pos : Pos}
theorem setT_new {P : Program} {w : World} {H : Hp} {h : Heap} {a : Addr} {l : List Str} (R : SetTx P w h a l) : ObjOk P w H h a (SetT P w a l) := by
  have ⟨D, ho, _⟩ := R
  exact ⟨R, ⟨_, ho⟩, fun h1 h2 p k => SetTx.at p k⟩
theorem run_set {Q : VK} {H : Hp} (hc : X.calm = true) (hn : z.length + 1 < scanBound) (q : ∀ p, H p = none → Q (.ref p) (upd H p (SetT X.prog X.w p (memb z.cps.toList)))) : CallRun X (.type "set") [.str z] Q H := by
  intro pins s σ us I r
  cases r with
  | cons ry rt =>
    cases rt
    obtain ⟨tk, rfl⟩ := ry
    refine set_text (I.ok.hd hc) hn fun h' tk R k => ?_
    have k' : ∀ b o, s.heap.get? b = some o → h'.get? b = some o := fun b o e => k b o (Heap.lt_size e) e
    exact ⟨.ref _, upd H s.heap.objs.size (SetT X.prog X.w s.heap.objs.size (memb z.cps.toList)), I.laid (t' := tk) k' (Nat.le_refl _) (setT_new R), rfl, q _ (I.hok.fresh (Nat.le_refl _))⟩
theorem run_lenSet {Q : VK} {H : Hp} {a : Addr} {l : List Str} (ha : H a = some (SetT X.prog X.w a l)) (h64 : l.length < 64) (q : Q (.int l.length) H) : CallRun X (.builtin "len") [.ref a] Q H := by
  intro pins s σ us I r
  rw [Vals.ref1 r]
  obtain ⟨⟨es, ep, t⟩, ho, F, nd, hr, hl⟩ := (I.hok a _ ha).1
  have z : es.size = l.length := F.sz
  refine call_len_set ho ⟨rfl, rfl, rfl⟩ rfl F.fit (by rw [z]; omega) ⟨.int l.length, H, I.tok _, ⟨_, by rw [z]⟩, q⟩
theorem run_sortedSet {Q : VK} {H : Hp} {a : Addr} {l : List Str} (hc : X.calm = true) (ha : H a = some (SetT X.prog X.w a l)) (h64 : l.length < 64) (q : ∀ (ns : List Str) (p : Addr), ns.Perm l → H p = none → Q (.ref p) (upd H p (.lst (ns.map V.str)))) : CallRun X (.builtin "sorted") [.ref a] Q H := by
  intro pins s σ us I r
  rw [Vals.ref1 r]
  refine sorted_set (I.hok a _ ha).1 (I.ok.hd hc) h64 fun s' p out c ns k g o hp hg hi hm => ?_
  have hlen : (ns.map V.str).length ≤ sizeLine := by rw [List.length_map, hm.length_eq, sizeLine_eq]; omega
  have hn : H p = none := I.hok.fresh hp
  have J : Inv X pins σ (upd H p (.lst (ns.map V.str))) { s with heap := s'.heap, gens := s'.gens, drawn := s'.drawn, toks := s'.toks } :=
    I.call (ch := []) (Un.laid k hp hn) (I.hok.laid k hp ⟨hlen, out.toList, c, vals_of_strs hi, hg⟩) (by rw [g]; exact I.bare) (fun _ z => nomatch z)
  have e : s' = { s with heap := s'.heap, gens := s'.gens, drawn := s'.drawn, toks := s'.toks } := by
    cases s'
    cases s
    cases o
    rfl
  rw [e]
  exact ⟨.ref p, _, J, rfl, q ns p hm hn⟩
/-- len(set(e)) -/
theorem ev_lenSet (hc : X.calm = true) (hg : Gl X "len") (hm : X.mg "len" = none) (hg2 : Gl X "set") (hm2 : X.mg "set" = none) (h : EV X G e (.str z)) (hz : z.length < 63)
    (hs : starEach [e] X.env = (false, eval e X.env) :: starEach [] X.env := by rfl) : EV X G (.Call (.Name "len" p1) [.Call (.Name "set" p2) [e] [] q] [] pos) (.int (memb z.cps.toList).length) := by
  intro s B H hsl hb Q k
  refine run_e (pe_callB (callr (.builtin "len")) hg hm boot_len (pa_cons (pe_callTy (callr (.type "set")) hg2 hm2 boot_set pa_wk (by decide) (by decide) hs rfl) pa_nil) (by decide) (by decide) rfl rfl) ?_
  refine evs_cons h evs_nil hs s B H hsl hb _ fun vs B1 H1 g1 r1 => ?_
  obtain ⟨v, rfl, hv⟩ := rep1 r1
  rw [show v = .str z from hv]
  have hl : (memb z.cps.toList).length < 64 := by
    have := memb_len z.cps.toList
    have q : z.cps.toList.length = z.cps.size := Array.length_toList
    have : z.cps.size < 63 := hz
    omega
  refine run_set hc (Nat.lt_trans (Nat.succ_lt_succ hz) (by decide)) fun a ha => ?_
  exact run_lenSet upd_same hl (k _ B1 _ (g1.trans (.newO g1.s ha)) rfl)
/-- sorted(set(e)): the signs, each once -/
theorem ev_sortedSet (hc : X.calm = true) (hg : Gl X "sorted") (hm : X.mg "sorted" = none) (hg2 : Gl X "set") (hm2 : X.mg "set" = none) (h : EV X G e (.str z)) (hz : z.length < 63)
    (hs : starEach [e] X.env = (false, eval e X.env) :: starEach [] X.env := by rfl) : EVR X G (.Call (.Name "sorted" p1) [.Call (.Name "set" p2) [e] [] q] [] pos) (fun d => ∃ ns : List Str, d = .lst (ns.map .str) ∧ ns.Perm (memb z.cps.toList)) := by
  intro s B H hsl hb Q k
  refine run_e (pe_callB (callr (.builtin "sorted")) hg hm boot_sorted (pa_cons (pe_callTy (callr (.type "set")) hg2 hm2 boot_set pa_wk (by decide) (by decide) hs rfl) pa_nil) (by decide) (by decide) rfl rfl) ?_
  refine evs_cons h evs_nil hs s B H hsl hb _ fun vs B1 H1 g1 r1 => ?_
  obtain ⟨v, rfl, hv⟩ := rep1 r1
  rw [show v = .str z from hv]
  have hl : (memb z.cps.toList).length < 64 := by
    have := memb_len z.cps.toList
    have q : z.cps.toList.length = z.cps.size := Array.length_toList
    have : z.cps.size < 63 := hz
    omega
  refine run_set hc (Nat.lt_trans (Nat.succ_lt_succ hz) (by decide)) fun a ha => ?_
  have g2 := g1.trans (.newO (o := SetT X.prog X.w a (memb z.cps.toList)) g1.s ha)
  refine run_sortedSet hc upd_same hl fun ns a2 hp ha2 => ?_
  exact k _ _ _ _ ⟨ns, rfl, hp⟩ (g2.trans (.new g2.s ha2)) ⟨a2, _, rfl, .of upd_same, (RepAll.of_strs ns).mono (same_new' (g2.s.free ha2))⟩
end
end Dh
end SDhSet

section SDhZip
set_option Elab.async false
set_option linter.all false
set_option maxRecDepth 100000
set_option maxHeartbeats 4000000
/-! zip of a text and a list. -/
namespace Dh
open PySem PySem.Spec PyProof.Rows L2

def Itx (K : PySem.W.Frag) (z : Str) (b : Addr) : It :=
  ⟨fun i H => i < z.cps.size ∧ ∃ (ys : List V) (y : V), SqL K H b ys ∧ ys[i]? = some y,
    fun i H v H' => ∃ T x y, v = .ref T ∧ H T = none ∧ H' = upd H T (.tup [x, y]) ∧ (∃ c, z.cps[i]? = some c ∧ x = .str ⟨#[c]⟩) ∧ ∀ ys, SqL K H b ys → ys[i]? = some y,
    fun i H => ∃ ys : List V, SqL K H b ys ∧ i ≤ z.cps.size ∧ i ≤ ys.length ∧ (i = z.cps.size ∨ i = ys.length)⟩
structure Apart2 (z TI TO i1 i2 b : Addr) : Prop where
  TIz : TI ≠ z
  TOz : TO ≠ z
  TITO : TI ≠ TO
  TIi1 : TI ≠ i1
  TIi2 : TI ≠ i2
  zi1 : z ≠ i1
  zi2 : z ≠ i2
  TOi1 : TO ≠ i1
  TOi2 : TO ≠ i2
  i12 : i1 ≠ i2
  bz : z ≠ b
  bT : TO ≠ b
  b1 : i1 ≠ b
  b2 : i2 ≠ b
theorem Apart2.sep {z TI TO i1 i2 b : Addr} (D : Apart2 z TI TO i1 i2 b) : ZipSep2 z TI TO i1 i2 [i1] [i2, b] := by
  obtain ⟨a1, a2, a3, a4, a5, a6, a7, a8, a9, a10, a11, a12, a13, a14⟩ := D
  exact ⟨a1, a2, a3, a4, by simp, by simpa using a6, by simpa using a8, a5, by simp, by simp only [List.mem_cons, List.not_mem_nil, or_false, not_or]; exact ⟨a7, a11⟩, by simp only [List.mem_cons, List.not_mem_nil, or_false, not_or]; exact ⟨a9, a12⟩,
    by simp only [List.mem_cons, List.not_mem_nil, or_false, not_or]; exact ⟨a10, a13⟩, by simpa using a10.symm⟩
theorem turn_zipX {P : Program} {w : World} {K : PySem.W.Frag} {elts : List Expr} {kk : Nat} {tpos : Pos} {x : Str} {t : Tok} {b z TI TO i1 i2 : Addr} (D : Apart2 z TI TO i1 i2 b) :
    Turn P w K (.Tuple elts kk tpos) (Itx K x b) [z, TI, TO, i1, i2] z (fun i h => IsZip h z TI TO .none ∧ IsTupOf2 h TI (.ref i1) (.ref i2) ∧ (∃ x y, IsTupOf2 h TO x y) ∧ h.IsStrIter i1 (strIterType x) x t i ∧ h.IsListIter i2 b i) where
  mem := by simp
  obj := fun i h st c hc => by
    obtain ⟨hz, hTI, ⟨x, y, hTO⟩, ⟨o1, e1, _, d1⟩, ⟨o2, e2, _, d2⟩⟩ := st
    have e' : c = z ∨ c = TI ∨ c = TO ∨ c = i1 ∨ c = i2 := by simpa using hc
    rcases e' with q | q | q | q | q
    · rw [q]; exact ⟨_, hz, fun v q => nomatch q⟩
    · rw [q]; exact ⟨_, hTI, fun v q => nomatch q⟩
    · rw [q]; exact ⟨_, hTO, fun v q => nomatch q⟩
    · rw [q]; exact ⟨o1, e1, fun v q => by rw [d1] at q; cases q⟩
    · rw [q]; exact ⟨o2, e2, fun v q => by rw [d2] at q; cases q⟩
  keep := fun i h h' st k => by
    obtain ⟨hz, hTI, ⟨x, y, hTO⟩, ⟨o1, e1, r1⟩, h2⟩ := st
    exact ⟨k z (by simp) _ hz, k TI (by simp) _ hTI, ⟨x, y, k TO (by simp) _ hTO⟩, ⟨o1, k i1 (by simp) _ e1, r1⟩, h2.at fun o q => k i2 (by simp) o q⟩
  item := by
    intro X hP hw hK hc i pins s σ H E I hf st hg
    subst hP hw hK
    obtain ⟨hz, hTI, ⟨x0, y0, hTO⟩, h1, h2⟩ := st
    obtain ⟨hi, ys, y, hqy, hy⟩ := hg
    obtain ⟨its2, rv2, p2, _⟩ := I.list hqy
    obtain ⟨u2, hu2, ru2⟩ := rv2.get hy
    have hzl : z < s.heap.objs.size := Heap.lt_size hz
    have D1 := Draws.text (prog := X.prog) (w := X.w) (A := X.A.in1) (I.ok.hd hc) i1 x t
    have D2 := Draws.list (prog := X.prog) (w := X.w) (A := X.A.in1) (I.ok.hd hc) i2 b D.b2.symm its2.toArray
    refine wpAny_pyNext_zipD2_item D.sep D1 D2 hz hTI hTO h1 ⟨h2, p2.isList⟩ hi (by simpa using (List.getElem?_eq_some_iff.mp hu2).1) fun v1 v2 h' tk y1 y2 z' TO' h1' h2' hT hsz hk => ?_
    obtain ⟨c, tc, hcx, rfl⟩ := y1
    have e2 : v2 = u2 := by
      have y2 : its2.toArray[i]? = some v2 := y2
      rw [List.getElem?_toArray, hu2] at y2
      exact (Option.some.inj y2).symm
    subst e2
    refine ⟨_, rfl, wpAny_letOwnedTupleGo_zip (s := { s with heap := h', toks := tk }) z' fun h'' z'' sb => ?_⟩
    have hT2 : h''.get? s.heap.objs.size = some { cls := .type "tuple", data := .seq #[.str ⟨#[c]⟩ tc, v2] } := (sb.2 _ (Nat.ne_of_gt hzl)).trans hT
    have new : ObjOk X.prog X.w (upd H s.heap.objs.size (.tup [.str ⟨#[c]⟩, y])) h'' s.heap.objs.size (.tup [.str ⟨#[c]⟩, y]) :=
      ⟨by show 2 ≤ sizeLine; decide, [.str ⟨#[c]⟩ tc, v2], .cons ⟨_, rfl⟩ (.cons ru2 .nil), ⟨_, hT2, rfl, _, rfl⟩⟩
    have I1 : Inv X pins σ (upd H s.heap.objs.size (.tup [.str ⟨#[c]⟩, y])) { s with heap := h'', toks := tk } :=
      I.turnedNew (t' := tk) (ch := [z, TI, TO, i1, i2]) (fun c o hb q => (sb.2 c (fun q' => hb (by simp [q']))).trans (hk c o (fun q' => hb (by simp [q'])) (fun q' => hb (by simp [q'])) (fun q' => hb (by simp [q'])) (fun q' => hb (by simp [q'])) q)) hf (Nat.le_refl _) new
    refine ⟨.ref s.heap.objs.size, _, I1, rfl, ⟨_, _, y, rfl, I.hok.fresh (Nat.le_refl _), rfl, ⟨c, hcx, rfl⟩, fun l hl => by rw [I.list_inj hl hqy]; exact hy⟩, ⟨z'', ?_, ⟨.str ⟨#[c]⟩ tc, v2, ?_⟩, ?_, ?_⟩, fun c hcm => ?_⟩
    · exact (sb.2 _ D.TIz).trans (hk _ _ D.TIz D.TITO D.TIi1 D.TIi2 hTI)
    · exact (sb.2 _ D.TOz).trans TO'
    · obtain ⟨o1, e1, r1⟩ := h1'
      exact ⟨o1, (sb.2 _ D.zi1.symm).trans e1, r1⟩
    · exact h2'.1.at fun o q => (sb.2 _ D.zi2.symm).trans q
    · have hlt : c < s.heap.objs.size := by
        have e' : c = z ∨ c = TI ∨ c = TO ∨ c = i1 ∨ c = i2 := by simpa using hcm
        rcases e' with q | q | q | q | q
        · rw [q]; exact hzl
        · rw [q]; exact Heap.lt_size hTI
        · rw [q]; exact Heap.lt_size hTO
        · rw [q]; obtain ⟨_, e1, _⟩ := h1; exact Heap.lt_size e1
        · rw [q]; obtain ⟨_, e2, _⟩ := h2; exact Heap.lt_size e2
      rw [upd_ne (Nat.ne_of_lt hlt)]
      exact (hf c hcm).1
  done := by
    intro X hP hw hK hc i pins s σ H E I hf st hg
    subst hP hw hK
    obtain ⟨hz, hTI, ⟨x0, y0, hTO⟩, h1, h2⟩ := st
    obtain ⟨ys, hqy, l1, l2, hend⟩ := hg
    obtain ⟨its2, rv2, p2, _⟩ := I.list hqy
    have hl := rv2.length
    have D1 := Draws.text (prog := X.prog) (w := X.w) (A := X.A.in1) (I.ok.hd hc) i1 x t
    have D2 := Draws.list (prog := X.prog) (w := X.w) (A := X.A.in1) (I.ok.hd hc) i2 b D.b2.symm its2.toArray
    exact wpAny_pyNext_zipD2_end D.sep D1 D2 hz hTI hTO h1 ⟨h2, p2.isList⟩ l1 (by rw [List.size_toArray]; omega) (hend.imp id fun q => by rw [q, hl]; simp) fun h' tk hk => ⟨rfl, I.turnedL (t' := tk) (ch := [z, TI, TO, i1, i2]) (fun c o hb q =>
      hk c o (fun q' => hb (by simp [q'])) (fun q' => hb (by simp [q'])) (fun q' => hb (by simp [q'])) (fun q' => hb (by simp [q'])) q) hf⟩
  self := fun A i s Q E st h => wpAny_pyIter_zip st.1 h
def iZipX (K : PySem.W.Frag) (ta : TA) : TI := fun σ H R => ta σ H fun vs H1 => ∃ z b ys, vs = [.str z, .ref b] ∧ SqL K H1 b ys ∧ R (Itx K z b) H1
theorem pi_zipX {X : Cx} {e e2 : Expr} {ta : TA} {p pos tpos : Pos} {elts : List Expr} {kk : Nat} (hg : Gl X "zip") (hm : X.mg "zip" = none) (ha : PA X [e, e2] ta)
    (hs : starEach [e, e2] X.env = (false, eval e X.env) :: starEach [e2] X.env := by rfl) (hpl : (backTo pos (starEach [e2] X.env)).any (·.1) = false := by rfl) :
    PI X (.Tuple elts kk tpos) (.Call (.Name "zip" p) [e, e2] [] pos) (iZipX X.K ta) := by
  refine ⟨fun pins s σ H R I h => ?_⟩
  refine Call_ (ld_blt I hg hm PyProof.Rows.boot_zip (PyProof.Rows.callWith_type1 (thn (ha.run pos pins s σ H _ I h) fun us s1 ⟨vs, H1, I1, r1, q1⟩ => ?_) hs hpl))
  obtain ⟨z, b, ys, ex, hqy, q⟩ := q1
  subst ex
  cases r1 with
  | cons r rr =>
    cases rr with
    | cons r' rr =>
      cases rr
      obtain ⟨t, rfl⟩ := r
      cases r'
      obtain ⟨its2, rv2, p2, _⟩ := I1.list hqy
      have lb : b < s1.heap.objs.size := p2.lt
      refine zip_begins2 (begins_text z t) (begins_list b its2.toArray) trivial p2.isList fun h' hz hTI hTO h1 h2 hsz hk => wpAny_pyIter_zip hz ?_
      have I2 : Inv X pins σ H1 { s1 with heap := h' } := I1.kept (t' := s1.toks) hk
      refine ⟨s1.heap.objs.size + 4, [s1.heap.objs.size + 4, s1.heap.objs.size + 2, s1.heap.objs.size + 3, s1.heap.objs.size, s1.heap.objs.size + 1], _, _, H1, rfl, I2, turn_zipX (x := z) (t := t) (b := b) ?_, ⟨hz, hTI, ⟨_, _, hTO⟩, ⟨_, h1, rfl, rfl⟩, ⟨_, h2, rfl, rfl⟩⟩, fun c hcm => ?_, q⟩
      · have far : ∀ k : Nat, s1.heap.objs.size + k ≠ b := fun k => Nat.ne_of_gt (Nat.lt_of_lt_of_le lb (Nat.le_add_right _ _))
        exact ⟨by show @Ne Nat _ _; omega, by show @Ne Nat _ _; omega, by show @Ne Nat _ _; omega, by show @Ne Nat _ _; omega, by show @Ne Nat _ _; omega, by show @Ne Nat _ _; omega, by show @Ne Nat _ _; omega, by show @Ne Nat _ _; omega, by show @Ne Nat _ _; omega, by show @Ne Nat _ _; omega, far 4, far 3, far 0, far 1⟩
      have e' : c = s1.heap.objs.size + 4 ∨ c = s1.heap.objs.size + 2 ∨ c = s1.heap.objs.size + 3 ∨ c = s1.heap.objs.size ∨ c = s1.heap.objs.size + 1 := by simpa using hcm
      have hle : s1.heap.objs.size ≤ c := by
        rcases e' with z | z | z | z | z
        · rw [z]; exact Nat.le_add_right _ _
        · rw [z]; exact Nat.le_add_right _ _
        · rw [z]; exact Nat.le_add_right _ _
        · rw [z]; exact Nat.le_refl _
        · rw [z]; exact Nat.le_add_right _ _
      exact I1.fpOk hle (I1.hok.fresh hle)
/-- zip(text, list) -/
theorem pit_zipX {X : Cx} {G : List (Option Dt)} {e e2 : Expr} {p pos tpos : Pos} {z : Str} {bs : List Dt} {elts : List Expr} {kk : Nat} (h : EV X G e (.str z)) (h' : EV X G e2 (.lst bs)) (hg : Gl X "zip") (hm : X.mg "zip" = none)
    (hs : starEach [e, e2] X.env = (false, eval e X.env) :: starEach [e2] X.env := by rfl) (hs2 : starEach [e2] X.env = (false, eval e2 X.env) :: starEach [] X.env := by rfl) (hpl : (backTo pos (starEach [e2] X.env)).any (·.1) = false := by rfl) : PIt X G (.Tuple elts kk tpos) (.Call (.Name "zip" p) [e, e2] [] pos) (pairD (signs z.cps.toList) bs) :=
  fun s B H hsl hb R k => run_i (pi_zipX hg hm pa_wk hs hpl) (evs_cons h (evs_cons h' evs_nil hs2) hs s B H hsl hb _ fun vs B1 H1 g1 r1 => by
    obtain ⟨v, u, rfl, hv, ⟨b, ys, rfl, h3, h4⟩⟩ := rep2 r1
    rw [show v = .str z from hv]
    refine ⟨z, b, ys, rfl, g1.s.seq h3, k _ (fun H => SqL X.K H b ys) B1 H1 g1 ?_ fun H'' e => e.seq h3⟩
    have hl : (pairD (signs z.cps.toList) bs).length = min z.cps.size ys.length := by
      have q : z.cps.toList.length = z.cps.size := Array.length_toList
      simp only [pairD, signs, List.length_zipWith, List.length_map, h4.length, q]
    rw [hl]
    refine ⟨fun i H hi q => ?_, fun H q => ⟨ys, q, by omega, by omega, by omega⟩, fun i H x H' hi q y => ?_⟩
    · have h1 : i < z.cps.size := by omega
      have h2 : i < ys.length := by omega
      exact ⟨h1, ys, ys[i], q, by simp [h2]⟩
    · obtain ⟨T, x1, y1, rfl, hT, rfl, ⟨c, hc, rfl⟩, hy⟩ := y
      refine yd_pair (f := fun i => (z.cps[i]?).map fun c => V.str ⟨#[c]⟩) (g := fun i => ys[i]?) (fun i x hx => ?_) (fun i x hx => h4.getV hx) i H _ _ ⟨T, _, y1, rfl, hT, rfl, by simp [hc], hy ys q⟩
      obtain ⟨c, hc, rfl⟩ := Option.map_eq_some_iff.mp hx
      refine ⟨.str ⟨#[c]⟩, ?_, rfl⟩
      unfold signs
      rw [List.getElem?_map, Array.getElem?_toList, hc]
      rfl)
end Dh
end SDhZip

section SDhRules
set_option Elab.async false
set_option linter.all false
set_option maxRecDepth 100000
set_option maxHeartbeats 4000000
/-! More rules: list + list, join, text[::-1], list(text), count, isinstance, chains, is not. -/
namespace Dh
open PySem PySem.Spec PyProof.Rows L2 TL
section
variable {X : Cx} {G G' : List (Option Dt)} {a b e : Expr} {d d1 d2 : Dt} {pos p p1 p2 p3 apos : Pos} {t : Bool}
theorem b_catL {l m : List Dt} (hz : l.length + m.length ≤ sizeLine) : BinD X (binaryOp .Add) (.lst l) (.lst m) (.lst (l ++ m)) := by
  intro B H x y Q e rx ry k pins s σ v u I r1 r2
  obtain ⟨a, xs, rfl, h1, h2⟩ := rx
  obtain ⟨b, ys, rfl, h3, h4⟩ := ry
  cases r1
  cases r2
  obtain ⟨its, rv, pl1, hz1⟩ := I.list (e.seq h1)
  obtain ⟨its2, rv2, pl2, hz2⟩ := I.list (e.seq h3)
  obtain ⟨⟨cls, dd, data, sl⟩, n, ho, hc, _, hd⟩ := pl1
  obtain ⟨⟨cls2, dd2, data2, sl2⟩, n2, ho2, hc2, _, hd2⟩ := pl2
  simp only at hc hd hc2 hd2
  subst hc hd hc2 hd2
  have q1 := rv.length
  have q2 := rv2.length
  have q3 := h2.length
  have q4 := h4.length
  refine concat_meets ⟨_, ho, rfl⟩ ⟨_, ho2, rfl⟩ noFill_list_add seq_list_add PySem.F.slot_list_add PySem.F.entry_list_add (PySem.F.args_list_add_2 _ _) (list_addW a b its.toArray its2.toArray n n2 dd dd2 sl sl2 (by simp only [List.size_toArray]; omega)) ⟨ho, ho2, ?_⟩
  have ez : its.toArray ++ its2.toArray = (its ++ its2).toArray := by simp
  rw [ez]
  refine ⟨.ref s.heap.objs.size, upd H s.heap.objs.size (.lst (xs ++ ys)), I.laid (t' := s.toks) (fun b u e => Heap.get?_push_of_some _ e) (Nat.le_refl _) ?_, rfl, ?_⟩
  · exact ⟨by rw [List.length_append]; omega, its ++ its2, 0, rv.append rv2, Heap.get?_push_size _ rfl⟩
  · have hn : H s.heap.objs.size = none := I.hok.fresh (Nat.le_refl _)
    exact k _ _ _ (.new e hn) ⟨_, _, rfl, .of upd_same, (h2.append h4).mono (same_new' (e.free hn))⟩
/-! ### join -/
theorem vals_of_get : ∀ {xs : List V} {us : List Value}, xs.length = us.length → (∀ (i : Nat) (u : Value), us[i]? = some u → ∃ x, xs[i]? = some x ∧ RelV x u) → Vals xs us
  | [], [], _, _ => .nil
  | [], u :: us, h, _ => by simp at h
  | x :: xs, [], h, _ => by simp at h
  | x :: xs, u :: us, h, r => by
    obtain ⟨y, hy, ry⟩ := r 0 u rfl
    obtain rfl : x = y := Option.some.inj hy
    exact .cons ry (vals_of_get (by simpa using h) fun i v hv => by simpa using r (i + 1) v (by simpa using hv))
theorem joinL_nil : ∀ l : List (List Nat), joinL [] l = l.flatten
  | [] => rfl
  | [x] => by simp [joinL]
  | x :: y :: r => by
    have h := joinL_nil (y :: r)
    simp only [joinL, List.nil_append, List.flatten_cons] at *
    rw [h]
theorem ev_join {ys : List (List Nat)} (ho : EV X G a (.str "")) (he : EV X G e (.lst (ys.map fun l => .str (S l)))) (hz : ys.flatten.length ≤ 16777216) (hs : starEach [e] X.env = [(false, eval e X.env)] := by rfl) (hbase : attributeBase a "join" X.env (eval a X.env) = eval a X.env := by rfl) (hline : (apos.endLine == pos.line) = true := by rfl) :
    EV X G (.Call (.Attribute a "join" apos) [e] [] pos) (.str (S ys.flatten)) := fun s B H hsl hb Q q =>
  run_e (pe_join pe_wk pe_wk hs hbase hline) (ho s B H hsl hb _ fun v B1 H1 g1 r1 => by
    rw [show v = .str "" from r1]
    refine ⟨⟨_, rfl⟩, he s B1 H1 (hsl.mono g1.b) g1.s _ fun w B2 H2 g2 r2 => ?_⟩
    obtain ⟨p, xs, rfl, h1, h2⟩ := r2
    have e1 : (ys.map fun l => Dt.str (S l)) = (ys.map S).map Dt.str := by rw [List.map_map]; rfl
    rw [e1] at h2
    rw [h2.strs] at h1
    have len : ∀ ys : List (List Nat), ((ys.map S).map (·.length)).sum = ys.flatten.length := by
      intro ys
      induction ys with
      | nil => rfl
      | cons y ys ih => rw [List.map_cons, List.map_cons, List.sum_cons, ih, List.flatten_cons, List.length_append]; rfl
    have e2 : Txt.join "" (ys.map S) = S ys.flatten := by
      rw [join_eq]
      apply ext_tl
      rw [tl_join, show tl ("" : Str) = [] from by decide +kernel, joinL_nil, List.map_map]
      have : (ys.map (tl ∘ S)) = ys := by
        have : (tl ∘ S) = id := by funext l; rfl
        rw [this, List.map_id]
      rw [this]
    refine ⟨"", p, ys.map S, rfl, rfl, .inl (g2.s.seq h1), ?_, ?_⟩
    · rw [len, show ("" : Str).length = 0 from by decide +kernel, Nat.mul_zero]
      exact hz
    · rw [e2]
      exact q _ B2 H2 (g1.trans g2) rfl)
/-! ### text[::-1] -/
theorem rev_pick (l : List Nat) (t : Tok) (o : Int × Tok) (ho : o.1 = -1) : sliceMade (S l) t none none (some o) = .str (S l.reverse) := by
  have e1 : slicePicked (S l) none none (some o) = (List.range l.length).reverse := by
    unfold slicePicked
    show Builtin.Str.strSliceIndices none none o.1 (S l).length = _
    rw [ho, S_len]
    unfold Builtin.Str.strSliceIndices
    show sliceRange ((l.length : Int) - 1) (-1) (-1) = _
    rw [PySem.W.krv_sliceRange, PySem.W.krv_range]
  unfold sliceMade
  rw [e1]
  have e2 : (((some o).map (·.1)).getD 1 == 1) = false := by
    show (o.1 == 1) = false
    rw [ho]
    decide
  rw [e2, Bool.false_and, if_neg Bool.false_ne_true]
  congr 3
  rw [List.filterMap_reverse]
  congr 1
  have := PySem.W.krv_all l.toArray
  simpa using this
theorem ev_revS {l : List Nat} {k : Nat} {q1 q2 : Pos} (hz : l.length ≤ sizeLine) (h : EV X G e (.str (S l))) : EV X G (.Subscript e (.Slice none none (some (.UnaryOp .USub (.Constant (.int 1) k q1) q2)) p3) pos) (.str (S l.reverse)) := by
  intro s B H hsl hb Q q
  refine ⟨fun pins sh I => ?_⟩
  refine Subscript_ (thn ((h s B H hsl hb (fun v H1 => v = .str (S l) ∧ Q (.str (S l.reverse)) H1) (fun v B1 H1 g1 r1 => ⟨r1, q _ B1 H1 g1 rfl⟩)).run pins sh I) fun v s1 ⟨x, H1, I1, r1, ex, qq⟩ => ?_)
  subst ex
  obtain ⟨t, rfl⟩ := r1
  have hst : PO X (some (.UnaryOp .USub (.Constant (.int 1) k q1) q2)) (tPart (tUn (rU fun i => .int (-i)) (tC (.int 1)))) := po_some (pe_un un_neg pe_int)
  refine wpAny_Slice (thn (po_none.run pins s1 s H1 (fun o H2 => o = none ∧ H2 = H1) I1 ⟨rfl, rfl⟩) fun vl s2 ⟨l', H2, I2, pl, el, e2⟩ => ?_)
  subst el e2
  refine thn (po_none.run pins s2 s H2 (fun o H3 => o = none ∧ H3 = H2) I2 ⟨rfl, rfl⟩) fun vu s3 ⟨u, H3, I3, pu, eu, e3⟩ => ?_
  subst eu e3
  refine thn (hst.run pins s3 s H3 (fun o H4 => o = some (-1) ∧ H4 = H3) I3 ⟨1, rfl, -1, rfl, rfl, rfl⟩) fun vs s4 ⟨o, H4, I4, ps, eo, e4⟩ => ?_
  subst eo e4
  have I5 : Inv X pins s H4 { s4 with heap := s4.heap.push { cls := .type "slice", data := .fields #[vl, vu, vs] } } := I4.kept (t' := s4.toks) fun b ob q => Heap.get?_push_of_some _ q
  show wpAny (model X.prog X.w) X.A (subscriptTail e (.Slice none none (some (.UnaryOp .USub (.Constant (.int 1) k q1) q2)) p3) (.str (S l) t) (.ref s4.heap.objs.size)) (EP X pins s Q) X.xe { s4 with heap := s4.heap.push { cls := .type "slice", data := .fields #[vl, vu, vs] } }
  obtain ⟨ol, hvl, hol⟩ := L2.IsPart.raw pl
  obtain ⟨ou, hvu, hou⟩ := L2.IsPart.raw pu
  obtain ⟨os, hvs, hos⟩ := L2.IsPart.raw ps
  have el : ol = none := by cases ol with | none => rfl | some _ => cases hol
  have eu : ou = none := by cases ou with | none => rfl | some _ => cases hou
  subst el eu
  cases os with
  | none => cases hos
  | some o =>
    have ho : o.1 = -1 := Option.some.inj hos
    refine tail_any (ops := [.str (S l) t, .ref s4.heap.objs.size]) (typeIs_str _ _ _) (PySem.F.slot_str_getitem.lookup) ?_ (by with_unfolding_all rfl)
    refine wpAny_getItem_str_slice (l := none) (u := none) (st := some o) ⟨_, Heap.get?_push_size _ rfl, rfl, by rw [hvl, hvu, hvs]⟩ ?_ ?_
    · show (o.1 == 0) = false
      rw [ho]; decide
    · rw [rev_pick l t o ho]
      refine ⟨by show (S l.reverse).length ≤ sizeLine; rw [S_len, List.length_reverse]; exact hz, ?_⟩
      exact ⟨.str (S l.reverse), H4, I5.tok _, ⟨_, rfl⟩, qq⟩
/-! ### list(text), list.count(text) -/
theorem c_listS {z : Str} (hc : X.calm = true) (hz : z.length ≤ sizeLine) : CallD X (.type "list") [.str z] (.lst (signs z.cps.toList)) := by
  intro B H xs Q e rx k pins s σ us I ru
  obtain ⟨v, rfl, hv⟩ := rep1 rx
  rw [show v = .str z from hv] at ru
  cases ru with
  | cons ry rt =>
    cases rt
    obtain ⟨t, rfl⟩ := ry
    refine PySem.call_list_str (I.ok.hd hc) z t (fun h' tk acc c' hk hS hacc => ?_) hz
    have hn : H s.heap.objs.size = none := I.hok.fresh (Nat.le_refl _)
    let ys := z.cps.toList.map fun c => V.str ⟨#[c]⟩
    have rv : Vals ys acc.toList := by
      have l1 : ys.length = acc.toList.length := by
        have q : z.cps.toList.length = z.cps.size := Array.length_toList
        simp only [ys, List.length_map, q, Array.length_toList]
        exact hacc.1.symm
      refine vals_of_get l1 fun i v hv => ?_
      obtain ⟨c, u, hc, rfl⟩ := hacc.2 i v (by rw [← Array.getElem?_toList]; exact hv)
      refine ⟨.str ⟨#[c]⟩, ?_, u, rfl⟩
      show (z.cps.toList.map fun c => V.str ⟨#[c]⟩)[i]? = _
      rw [List.getElem?_map, Array.getElem?_toList, hc]
      rfl
    refine ⟨.ref s.heap.objs.size, upd H s.heap.objs.size (.lst ys), I.laid (t' := tk) hk (Nat.le_refl _) ?_, rfl, k _ _ _ (.new e hn) ⟨_, ys, rfl, .of upd_same, ?_⟩⟩
    · refine ⟨?_, acc.toList, c', rv, by rw [Array.toArray_toList]; exact hS⟩
      have q : z.cps.toList.length = z.cps.size := Array.length_toList
      simp only [ys, List.length_map, q]
      exact hz
    · have : ∀ l : List Nat, RepAll X.K (upd B s.heap.objs.size (.lst ys)) (signs l) (l.map fun c => V.str ⟨#[c]⟩) := by
        intro l
        induction l with
        | nil => exact rfl
        | cons c l ih => exact ⟨_, _, rfl, rfl, ih⟩
      exact this _
/-! ### list.count(text) -/
def eqs (k : Str) (v : Value) : Bool := match v with
  | .str x _ => x.cps.toList == k.cps.toList
  | _ => false
theorem eqs_gives {k : Str} {t : Tok} : ∀ {us : List Value} {ns : List Str}, StrsAre us ns → ∀ y ∈ us, MeetsSeq.EqGives y (.str k t) (eqs k y)
  | _, _, .nil => fun y hy => by cases hy
  | _, _, .cons n t' h => fun y hy => by
    rcases List.mem_cons.mp hy with e | e
    · rw [e]
      exact SeqRoads2.EqGives.str n k t' t
    · exact eqs_gives h y e
theorem eqs_count {k : Str} : ∀ {us : List Value} {ns : List Str}, StrsAre us ns → us.countP (eqs k) = ns.countP (· == k)
  | _, _, .nil => rfl
  | _, _, .cons n t h => by
    have ih := eqs_count (k := k) h
    rw [List.countP_cons, List.countP_cons, ih]
    have : eqs k (.str n t) = (n == k) := by
      show (n.cps.toList == k.cps.toList) = _
      by_cases e : n = k
      · subst e; simp
      · rw [beq_eq_false_iff_ne.mpr e]
        exact beq_eq_false_iff_ne.mpr fun z => e (Str.ext' (Array.toList_inj.mp z))
    rw [this]
theorem mt_scount : MtR X "list.count" (fun x xs H Q => ∃ (p : Addr) (ns : List Str) (k : Str), x = .ref p ∧ xs = [.str k] ∧ SqL X.K H p (ns.map V.str) ∧ Q (.int (ns.countP (· == k) : Nat)) H) := by
  intro pins s σ H x xs v us Q I rx rxs h
  obtain ⟨p, ns, k, rfl, rfl, hs, q⟩ := h
  cases rx
  obtain ⟨u, rfl, ru⟩ := rxs.one
  obtain ⟨t, rfl⟩ := ru
  obtain ⟨its, rv, ⟨⟨cls, dd, data, sl⟩, n, ho, hc, hdn, hd⟩, hlen⟩ := I.list hs
  simp only at hc hd
  subst hc hd
  have hi := rv.strs
  refine call_meets PySem.F.slot_list_count ⟨_, ho, rfl⟩ PySem.F.entry_list_count (PySem.F.args_list_count_2 _ _)
    (SeqAt.list_countAt p its.toArray n dd sl (.str k t) (eqs k)) ⟨ho, fun y hy => (eqs_gives hi y (by simpa using hy)).at _ _, ?_⟩
  have ec : its.toArray.toList.countP (eqs k) = ns.countP (· == k) := eqs_count hi
  refine ⟨.int (ns.countP (· == k) : Nat), H, I.tok _, ⟨s.toks, ?_⟩, q⟩
  show Value.int ((its.toArray.toList.countP (eqs k) : Nat) : Int) s.toks = Value.int ((ns.countP (· == k) : Nat) : Int) s.toks
  rw [ec]
theorem ev_scount {ns : List Str} {k : Str} (ho : EV X G a (.lst (ns.map .str))) (he : EV X G e (.str k))
    (hbase : attributeBase a "count" X.env (eval a X.env) = eval a X.env := by rfl)
    (hfew : ((backTo pos (starEach (e :: []) X.env)).all (fun x => !x.1) && (backToKw pos (keywordEach [] X.env)).all (fun x => x.1.isSome)
      && decide ((e :: []).length + ([] : List Keyword).length + (if ([] : List Keyword).isEmpty then 0 else 1) < 30)) = true := by rfl)
    (hline : (apos.endLine == pos.line) = true := by rfl) (hst : starEach (e :: []) X.env = (false, eval e X.env) :: starEach [] X.env := by rfl) (hplain : (backTo pos (starEach [] X.env)).any (·.1) = false := by rfl) :
    EV X G (.Call (.Attribute a "count" apos) [e] [] pos) (.int (ns.countP (· == k) : Nat)) := fun s B H hsl hb Q q =>
  run_e (pe_bm PySem.F.plainAttrs_list PySem.F.slot_list_count PySem.F.type_list_count mt_scount pe_wk pa_wk hbase hfew hline hst hplain) (ho s B H hsl hb _ fun v B1 H1 g1 r1 => by
    obtain ⟨p, xs, rfl, h1, h2⟩ := r1
    rw [h2.strs] at h1
    refine ⟨.inl ⟨rfl, _, g1.s.seq h1⟩, evs_cons he evs_nil hst s B1 H1 (hsl.mono g1.b) g1.s _ fun vs B2 H2 g2 r2 => ?_⟩
    obtain ⟨w, rfl, rw'⟩ := rep1 r2
    rw [show w = .str k from rw']
    exact ⟨p, ns, k, rfl, rfl, (g1.s.trans g2.h).seq h1, q _ B2 H2 (g1.trans g2) rfl⟩)
/-! ### isinstance -/
def tyD : Dt → Option String
  | .non => some "NoneType"
  | .bl _ => some "bool"
  | .int _ => some "int"
  | .str _ => some "str"
  | .lst _ => some "list"
  | .tup _ => some "tuple"
  | _ => none
theorem ty_of {K : PySem.W.Frag} {B H : Hp} {d : Dt} {v : V} {T : String} (e : Same B H) (r : Rep K B d v) (h : tyD d = some T) : TyX K H v (.type T) := by
  cases d with
  | non => cases h; rw [show v = .non from r]; exact .base .non
  | bl b => cases h; rw [show v = .bl b from r]; exact .base (.bl b)
  | int i => cases h; rw [show v = .int i from r]; exact .base (.int i)
  | str z => cases h; rw [show v = .str z from r]; exact .base (.str z)
  | raw x => cases h
  | ins C ns l => cases h
  | dic P w kvs => cases h
  | lst l =>
    cases h
    obtain ⟨a, xs, rfl, h1, _⟩ := r
    rcases e.seq h1 with (h | ⟨o, h⟩) | ⟨o, its, n, h, hc, _⟩
    · exact .base (.lst h)
    · exact .base (.frz h)
    · exact .kList h hc
  | tup l =>
    cases h
    obtain ⟨a, xs, rfl, h1, _⟩ := r
    rcases sqT_mono e h1 with (h | ⟨o, h⟩) | ⟨o, its, n, h, hc, _⟩
    · exact .base (.tup h)
    · exact .fTuple h
    · exact .kTuple h hc
theorem ev_bltn {x : Str} {id : String} (hg : Gl X x) (hm : X.mg x = none) (hv : bootBuiltins x = some (.type id)) (hn : x ≠ "__name__" := by decide) (hd : (x == ("__debug__" : Str)) = false := by decide) : EV X G (.Name x pos) (.raw (.ty id)) :=
  ev_c (v := .ty id) (pe_bltn hg hm hv (show RelV (.ty id) (.type id) from rfl) hn hd) fun _ => rfl
theorem c_isi {T c : String} {b : Bool} (h : tyD d = some T) (hk : kitB T c = some b) : CallD X (.builtin "isinstance") [d, .raw (.ty c)] (.bl b) := call_of call_isi fun B H xs Q e rx k => by
  obtain ⟨v, u, rfl, h1, h2⟩ := rep2 rx
  rw [show u = .ty c from h2]
  exact ⟨v, .ty c, .type T, .type c, b, rfl, .ty c, ty_of e h1 h, kit_ty hk, k _ B H (.refl e) rfl⟩
theorem ev_isi {x : Str} {T c : String} {t : Bool} (he : EV X G e d) (h : tyD d = some T) (hk : kitB T c = some t) (hg : Gl X "isinstance") (hm : X.mg "isinstance" = none) (hg2 : Gl X x) (hm2 : X.mg x = none) (hv : bootBuiltins x = some (.type c)) (hn : x ≠ "__name__" := by decide) (hd : (x == ("__debug__" : Str)) = false := by decide)
    (hst : starEach [e, .Name x p2] X.env = (false, eval e X.env) :: starEach [.Name x p2] X.env := by rfl) (hst2 : starEach [.Name x p2] X.env = (false, eval (.Name x p2) X.env) :: starEach [] X.env := by rfl) (hpl : (backTo pos (starEach [.Name x p2] X.env)).any (·.1) = false := by rfl) :
    EV X G (.Call (.Name "isinstance" p1) [e, .Name x p2] [] pos) (.bl t) :=
  ev_callB (c_isi h hk) hg hm boot_isinstance (evs_cons he (evs_cons (ev_bltn hg2 hm2 hv hn hd) evs_nil hst2) hst) (by decide) (by decide) hst hpl
/-! ### chains, is not -/
theorem ev_chain {op op' : CmpOp} {c : Expr} {d3 : Dt} {t u : Bool} (ha : EV X G a d1) (hb : EV X G b d2) (hc : EV X G c d3) (h1 : BinD X (compareOp op) d1 d2 (.bl t)) (h2 : BinD X (compareOp op') d2 d3 (.bl u)) (hm : lastMarks [op, op'] [b, c] = false := by with_unfolding_all rfl) :
    EV X G (.Compare a [op, op'] [b, c] pos) (.bl (t && u)) := fun s B H hs e Q q =>
  run_e (pe_chain (opr _) (opr _) pe_wk pe_wk pe_wk hm) (ha s B H hs e _ fun x B1 H1 g1 r1 => hb s B1 H1 (hs.mono g1.b) g1.s _ fun y B2 H2 g2 r2 =>
    h1 B2 H2 x y _ g2.s (r1.mono g2.b) r2 fun v B3 H3 g3 r3 => ⟨t, r3, by
      have g13 := (g1.trans g2).trans g3
      cases t with
      | false => exact iteF (q _ B3 H3 g13 rfl)
      | true => exact iteT (hc s B3 H3 (hs.mono g13.b) g3.s _ fun z B4 H4 g4 r4 => h2 B4 H4 y z _ g4.s (r2.mono (g3.b.trans g4.b)) r4 fun v5 B5 H5 g5 r5 => q v5 B5 H5 ((g13.trans g4).trans g5) r5)⟩)
theorem et_chain {op op' : CmpOp} {c : Expr} {d3 : Dt} {t u : Bool} (ha : EV X G a d1) (hb : EV X G b d2) (hc : EV X G c d3) (h1 : BinD X (compareOp op) d1 d2 (.bl t)) (h2 : BinD X (compareOp op') d2 d3 (.bl u)) (hm : lastMarks [op, op'] [b, c] = false := by with_unfolding_all rfl) :
    ET X G (.Compare a [op, op'] [b, c] pos) (t && u) := fun s B H hs e Q q =>
  run_t (pt_chain (opr _) (opr _) pe_wk pe_wk pe_wk hm) (ha s B H hs e _ fun x B1 H1 g1 r1 => hb s B1 H1 (hs.mono g1.b) g1.s _ fun y B2 H2 g2 r2 =>
    h1 B2 H2 x y _ g2.s (r1.mono g2.b) r2 fun v B3 H3 g3 r3 => ⟨t, r3, by
      have g13 := (g1.trans g2).trans g3
      cases t with
      | false => exact iteF ⟨false, rfl, q B3 H3 g13⟩
      | true => exact iteT (hc s B3 H3 (hs.mono g13.b) g3.s _ fun z B4 H4 g4 r4 => h2 B4 H4 y z _ g4.s (r2.mono (g3.b.trans g4.b)) r4 fun v5 B5 H5 g5 r5 => ⟨u, r5, q B5 H5 ((g13.trans g4).trans g5)⟩)⟩)
theorem b_notB {t u : Bool} : BinD X (compareOp .IsNot) (.bl t) (.bl u) (.bl (!decide (t = u))) := bin_of op_notBl fun B H x y Q e rx ry k => ⟨t, u, rx, ry, k _ rfl⟩
theorem tgt_unl {es : List Expr} {k : Nat} {ds : List Dt} (hc : X.calm = true) (h : TGTs X G es ds G') (hn : (assignEach es X.env).length = ds.length := by rfl) (hst : (assignEach es X.env).findIdx? (·.1) = none := by rfl) : TGT X G (.Tuple es k pos) (.lst ds) G' := by
  intro s B H v hs hb r Q q
  obtain ⟨a, xs, rfl, h1, h2⟩ := r
  have wk : PGs X es (fun vs s H Q => ∀ (pins : List (Addr × Obj)) (sh : Shared) (us : List Value), Inv X pins s H sh → Vals vs us → wpAny (model X.prog X.w) X.A (assignInOrder ((assignEach es X.env).map (·.2)) us) (fun _ s' => ∃ σ' H', Inv X pins σ' H' s' ∧ Q σ' H') X.xe sh) := ⟨fun pins sh s H vs us Q I r h => h pins sh us I r⟩
  exact run_g (pg_unl hc wk rfl hst) ⟨a, xs, rfl, hb.seq h1, h2.length.trans hn.symm, h s B H xs hs hb h2 Q q⟩
/-! ### names, shortly -/
theorem ev_v (i : Nat) {x : Str} (h : G[i]? = some (some d)) (hN : X.N[i]? = some x := by rfl) (hv : Vis X.env.scope x := by first | exact Or.inl rfl | exact Or.inr (Or.inl rfl) | exact Or.inr (Or.inr rfl))
    (hd : (x == ("__debug__" : Str)) = false := by decide) (hcd : (x == ("__classdict__" : Str)) = false := by decide) : EV X G (.Name x pos) d := ev_var h hN hv hd hcd
end
end Dh
end SDhRules

section SDhView
set_option Elab.async false
set_option linter.all false
set_option maxRecDepth 100000
set_option maxHeartbeats 4000000
/-! Own lists and dicts, read as data while an expression runs. -/
namespace Dh
open PySem PySem.Spec PyProof.Rows L2

mutual
/-- no list inside -/
def nl : Dt → Bool
  | .lst _ => false
  | .dic _ _ _ => false
  | .ins _ _ _ => false
  | .tup l => nls l
  | _ => true
def nls : List Dt → Bool
  | [] => true
  | d :: ds => nl d && nls ds
end
def obD : Ob → Option Dt
  | .lst ds => some (.lst ds)
  | .dic P w kvs => some (.dic P w kvs)
  | .raw _ => none
  | .dT _ _ => none
  | .ins C _ ns ds => some (.ins C ns ds)
structure Vw (G : List (Option Dt)) (O : List (Addr × Ob)) (G' : List (Option Dt)) : Prop where
  len : G'.length = G.length
  at_ : ∀ (i : Nat) (d : Dt), G'[i]? = some (some d) → G[i]? = some (some d) ∨ ∃ p ob, (p, ob) ∈ O ∧ G[i]? = some (some (.raw (.ref p))) ∧ obD ob = some d
theorem Vw.refl {G : List (Option Dt)} {O : List (Addr × Ob)} : Vw G O G := ⟨rfl, fun i d h => .inl h⟩
theorem Vw.set {G G' : List (Option Dt)} {O : List (Addr × Ob)} (h : Vw G O G') {j i : Nat} {p : Addr} {ob : Ob} {d : Dt} (hj : O[j]? = some (p, ob)) (hi : G[i]? = some (some (.raw (.ref p)))) (hd : obD ob = some d) : Vw G O (G'.set i (some d)) := by
  refine ⟨by rw [List.length_set]; exact h.len, fun k e q => ?_⟩
  by_cases hk : i = k
  · subst hk
    have hl : i < G'.length := by rw [h.len]; exact (List.getElem?_eq_some_iff.mp hi).1
    rw [List.getElem?_set_self hl] at q
    cases q
    exact .inr ⟨p, ob, List.mem_of_getElem? hj, hi, hd⟩
  · rw [List.getElem?_set_ne hk] at q
    exact h.at_ k e q
section
variable {K : PySem.W.Frag} {B0 H0 B H : Hp} {G G' : List (Option Dt)} {O : List (Addr × Ob)} {s : L2.St}
open Classical in
/-- the readable own objects joined to B -/
noncomputable def joinB (B H : Hp) (O : List (Addr × Ob)) : Hp := fun q => if ∃ ob d, (q, ob) ∈ O ∧ obD ob = some d then H q else B q
open Classical in
noncomputable def cutB (B : Hp) (O : List (Addr × Ob)) : Hp := fun q => if ∃ ob, (q, ob) ∈ O then none else B q
theorem joinB_own {q : Addr} {ob : Ob} {d : Dt} (h : (q, ob) ∈ O) (hd : obD ob = some d) : joinB B H O q = H q := by unfold joinB; rw [if_pos ⟨ob, d, h, hd⟩]
theorem joinB_not {q : Addr} (h : ¬ ∃ ob, (q, ob) ∈ O) : joinB B H O q = B q := by
  unfold joinB
  rw [if_neg]
  rintro ⟨ob, d, h', _⟩
  exact h ⟨ob, h'⟩
theorem cutB_own {q : Addr} {ob : Ob} (h : (q, ob) ∈ O) : cutB B O q = none := by unfold cutB; rw [if_pos ⟨ob, h⟩]
theorem cutB_not {q : Addr} (h : ¬ ∃ ob, (q, ob) ∈ O) : cutB B O q = B q := by unfold cutB; rw [if_neg h]
/-- what the objects are -/
def NotTI (o : HO) : Prop := (∀ xs, o ≠ .tup xs) ∧ (∀ ob xs, o ≠ .frz ob (.tup xs))
theorem notTI_lst (xs : List V) : NotTI (.lst xs) := ⟨fun _ e => (by cases e), fun _ _ e => (by cases e)⟩
theorem notTI_dic (P : Program) (w : World) (q : Addr) (es : List DEnt) : NotTI (TDic P w q es) := ⟨fun _ e => (by cases e), fun _ _ e => (by cases e)⟩
theorem notTI_ins (C dx : Addr) (fs : List (Str × V)) : NotTI (.ins C dx fs) := ⟨fun _ e => (by cases e), fun _ _ e => (by cases e)⟩
theorem own_kind (a : At K B0 H0 B G O s H) {q : Addr} {ob : Ob} {d : Dt} (h : (q, ob) ∈ O) (hd : obD ob = some d) {o : HO} (e : H q = some o) : NotTI o := by
  obtain ⟨_, _, c⟩ := a.ow q ob h
  cases ob with
  | lst ds =>
    obtain ⟨xs, h1, _⟩ := c
    rw [h1] at e
    cases e
    exact notTI_lst _
  | dic P w kvs =>
    obtain ⟨es, h1, _⟩ := c
    rw [h1] at e
    cases e
    exact notTI_dic _ _ _ _
  | raw o => cases hd
  | dT _ _ => cases hd
  | ins C dx ns ds =>
    obtain ⟨vs, h1, _⟩ := c
    rw [h1] at e
    cases e
    exact notTI_ins _ _ _
theorem sqT_cut {B1 B2 : Hp} (hk : ∀ q o, B1 q = some o → NotTI o ∨ B2 q = some o) {a : Addr} {xs : List V} (h : SqT K B1 a xs) : SqT K B2 a xs := by
  rcases h with (h | ⟨o, h⟩) | h
  · exact .inl (.inl ((hk a _ h).resolve_left fun n => n.1 xs rfl))
  · exact .inl (.inr ⟨o, (hk a _ h).resolve_left fun n => n.2 o xs rfl⟩)
  · exact .inr h
mutual
theorem nl_cut {B1 B2 : Hp} (hk : ∀ q o, B1 q = some o → NotTI o ∨ B2 q = some o) : ∀ {d : Dt} {v : V}, nl d = true → Rep K B1 d v → Rep K B2 d v
  | .non, _, _, h => h
  | .bl _, _, _, h => h
  | .int _, _, _, h => h
  | .str _, _, _, h => h
  | .raw _, _, _, h => h
  | .lst l, v, n, h => absurd n Bool.false_ne_true
  | .dic _ _ _, v, n, h => absurd n Bool.false_ne_true
  | .tup l, v, n, h => by
    obtain ⟨a, xs, e, h1, h2⟩ := h
    exact ⟨a, xs, e, sqT_cut hk h1, nls_cut hk n h2⟩
  | .ins C ns l, v, n, h => absurd n Bool.false_ne_true
theorem nls_cut {B1 B2 : Hp} (hk : ∀ q o, B1 q = some o → NotTI o ∨ B2 q = some o) : ∀ {l : List Dt} {xs : List V}, nls l = true → RepAll K B1 l xs → RepAll K B2 l xs
  | [], _, _, h => h
  | d :: ds, xs, n, h => by
    obtain ⟨v, r, e, h2, h3⟩ := h
    have n' : (nl d && nls ds) = true := n
    rw [Bool.and_eq_true] at n'
    exact ⟨v, r, e, nl_cut hk n'.1 h2, nls_cut hk n'.2 h3⟩
end
/-- THE VIEW -/
theorem At.view (a : At K B0 H0 B G O s H) (vw : Vw G O G') : Sl K (joinB B H O) G' s ∧ Same (joinB B H O) H ∧ Same B (joinB B H O) ∧
    ∀ B1 H1, Gr (joinB B H O) H B1 H1 → At K B0 H0 (cutB B1 O) G O s H1 ∧ Same (cutB B1 O) B1 ∧ ∀ d v, nl d = true → Rep K B1 d v → Rep K (cutB B1 O) d v := by
  have sb : Same B (joinB B H O) := fun q o e => by
    rw [joinB_not]
    · exact e
    · rintro ⟨ob, m⟩
      rw [(a.ow q ob m).1] at e; cases e
  have sj : Same (joinB B H O) H := fun q o e => by
    unfold joinB at e
    split at e
    · exact e
    · exact a.gr.s q o e
  refine ⟨⟨vw.len.trans a.sl.1, fun i d h => ?_⟩, sj, sb, fun B1 H1 g => ?_⟩
  · rcases vw.at_ i d h with h | ⟨p, ob, m, h, hd⟩
    · obtain ⟨v, h1, h2⟩ := a.sl.2 i d h
      exact ⟨v, h1, h2.mono sb⟩
    · obtain ⟨v, h1, h2⟩ := a.sl.2 i _ h
      obtain ⟨_, _, c⟩ := a.ow p ob m
      refine ⟨v, h1, ?_⟩
      cases ob with
      | lst ds =>
        cases hd
        obtain ⟨xs, e, r⟩ := c
        exact ⟨p, xs, h2, .of ((joinB_own m rfl).trans e), r.mono sb⟩
      | dic P w kvs =>
        cases hd
        obtain ⟨es, e, r1, r2⟩ := c
        exact ⟨p, es, h2, (joinB_own m rfl).trans e, r1, fun x hx => (r2 x hx).mono sb⟩
      | raw o => cases hd
      | dT _ _ => cases hd
      | ins C dx ns ds =>
        cases hd
        obtain ⟨xs, e, r⟩ := c
        exact ⟨p, dx, xs, h2, (joinB_own m rfl).trans e, r.mono sb⟩
  · have sc : Same (cutB B1 O) B1 := fun q o e => by
      unfold cutB at e
      split at e
      · cases e
      · exact e
    have up : Same B (cutB B1 O) := fun q o e => by
      rw [cutB_not]
      · exact g.b q o (sb q o e)
      · rintro ⟨ob, m⟩
        rw [(a.ow q ob m).1] at e; cases e
    have kp : ∀ q ob, (q, ob) ∈ O → H1 q = H q := fun q ob m => by
      have ne := (a.ow q ob m).2.2.ne
      cases e : H q with
      | none => exact absurd e ne
      | some o => exact g.h q o e
    refine ⟨⟨⟨a.gr.b.trans up, a.gr.h.trans g.h, sc.trans g.s, fun q hq => ?_⟩, a.sl.mono up, fun q ob m => ?_, a.nd⟩, sc, fun d v n r => ?_⟩
    · have nq : ¬ ∃ ob, (q, ob) ∈ O := by
        rintro ⟨ob, m⟩
        exact hq (a.ow q ob m).2.1
      rw [cutB_not nq]
      have hH : H q ≠ none := by
        cases e : H0 q with
        | none => exact absurd e hq
        | some o => rw [a.gr.h q o e]; simp
      rw [g.k q hH, joinB_not nq, a.gr.k q hq]
    · obtain ⟨x, y, c⟩ := a.ow q ob m
      exact ⟨cutB_own m, y, c.mono up (kp q ob m)⟩
    · refine nl_cut (fun q o e => ?_) n r
      by_cases m : ∃ ob, (q, ob) ∈ O
      · left
        obtain ⟨ob, m⟩ := m
        have ne := (a.ow q ob m).2.2.ne
        have e1 : joinB B H O q = some o := by rw [← g.k q ne]; exact e
        by_cases x : ∃ ob d, (q, ob) ∈ O ∧ obD ob = some d
        · obtain ⟨ob', d', m', hd'⟩ := x
          exact own_kind a m' hd' (sj q o e1)
        · unfold joinB at e1
          rw [if_neg x, (a.ow q ob m).1] at e1
          cases e1
      · right
        rw [cutB_not m]
        exact e
end
/-! ### rules by the view -/
section
variable {X : Cx} {B0 H0 : Hp} {G G' G2 : List (Option Dt)} {O O' : List (Addr × Ob)} {rest body els : List Stmt} {D : Ends} {e o c : Expr} {d : Dt} {pos px : Pos} {x : Str} {i j : Nat} {p : Addr} {b : Bool}
theorem go_ifV (vw : Vw G O G') (h : ET X G' c b) (ht : b = true → Go X B0 H0 G O body { D with nx := fun s H => RunS X rest D s H }) (hf : b = false → Go X B0 H0 G O els { D with nx := fun s H => RunS X rest D s H }) : Go X B0 H0 G O (.If c body els pos :: rest) D :=
  fun s H ⟨B, a⟩ => run_c (ps_if pt_wk pss_wk pss_wk) (by
    obtain ⟨v1, v2, v3, v4⟩ := a.view vw
    refine h s _ H v1 v2 _ fun B1 H1 g1 => ?_
    obtain ⟨w1, _, _⟩ := v4 B1 H1 g1
    cases b with
    | true => exact iteT (ht rfl s H1 ⟨_, w1⟩)
    | false => exact iteF (hf rfl s H1 ⟨_, w1⟩))
theorem go_if0V (vw : Vw G O G') (h : ET X G' c b) (ht : b = true → Go X B0 H0 G O body { D with nx := fun s H => RunS X rest D s H }) (hf : b = false → Go X B0 H0 G O rest D) : Go X B0 H0 G O (.If c body [] pos :: rest) D := go_ifV vw h ht fun e => go_done (hf e) rfl
theorem go_setV (vw : Vw G O G') (h : EV X G' e d) (n : nl d = true) (k : Go X B0 H0 (G.set i (some d)) O rest D) (hN : X.N.Nodup) (hi : X.N[i]? = some x) (hx : Loc X.env.scope x) (hs : swapsWith e (some (.Name x px)) pos.line X.env = pure false := by rfl)
    (hf : X.fn x = true ∨ X.env.scope.names.lookup x = some .local := by first | exact .inl rfl | exact .inr rfl | assumption) : Go X B0 H0 G O (.Assign [.Name x px] e pos :: rest) D := fun s H ⟨B, a⟩ =>
  run_c (ps_set hN hi hx pe_wk hs hf) (by
    obtain ⟨v1, v2, v3, v4⟩ := a.view vw
    refine h s _ H v1 v2 _ fun v B1 H1 g1 r1 => ?_
    obtain ⟨w1, _, w3⟩ := v4 B1 H1 g1
    exact k _ _ ⟨_, w1.set (w3 d v n r1) i⟩)
theorem go_asgV {tg : Expr} (vw : Vw G O G') (h : EV X G' e d) (n : nl d = true) (ht : TGT X G tg d G2) (k : Go X B0 H0 G2 O rest D) (hs : swapsWithSole [tg] e pos.line X.env = pure false := by rfl) (hw : swappedStores [tg] e X.env = pure none := by rfl)
    (h1 : (assignEach [tg] X.env).map (·.2) = [assign tg X.env] := by rfl) : Go X B0 H0 G O (.Assign [tg] e pos :: rest) D := fun s H ⟨B, a⟩ =>
  run_c (ps_asg pe_wk pg_wk hs hw h1) (by
    obtain ⟨v1, v2, v3, v4⟩ := a.view vw
    refine h s _ H v1 v2 _ fun v B1 H1 g1 r1 => ?_
    obtain ⟨w1, _, w3⟩ := v4 B1 H1 g1
    exact ht s _ H1 v w1.sl w1.gr.s (w3 d v n r1) _ fun s' hs' => k _ _ ⟨_, w1.slots hs'⟩)
theorem go_whileV (hp : PassesOwn (model X.prog X.w) X.A X.env X.xe) (W : Nat → List (Option Dt) → List (Addr × Ob) → Prop) {m0 : Nat} (w0 : W m0 G O)
    (hs : ∀ (m : Nat) G1 O1, W m G1 O1 → ∃ G' b, Vw G1 O1 G' ∧ ET X G' c b ∧ (b = true → Go X B0 H0 G1 O1 body { D with nx := InW X.K B0 H0 (fun G O => ∃ m', m' < m ∧ W m' G O), ct := InW X.K B0 H0 (fun G O => ∃ m', m' < m ∧ W m' G O), bk := fun s H => RunS X rest D s H }) ∧
      (b = false → Go X B0 H0 G1 O1 rest D)) : Go X B0 H0 G O (.While c body [] pos :: rest) D := fun s H a =>
  run_c (ps_while hp pt_wk pss_wk) (by
    refine ⟨fun m s H => InW X.K B0 H0 (W m) s H, ⟨m0, G, O, w0, a⟩, ?_⟩
    rintro m s1 H1 ⟨G1, O1, w1, B1, a1⟩
    obtain ⟨G', b, vw, ht, h1, h2⟩ := hs m G1 O1 w1
    obtain ⟨v1, v2, v3, v4⟩ := a1.view vw
    refine ht s1 _ H1 v1 v2 _ fun B2 H2 g2 => ?_
    obtain ⟨a2, _, _⟩ := v4 B2 H2 g2
    cases b with
    | true =>
      refine iteT ⟨InW X.K B0 H0 (fun G O => ∃ m', m' < m ∧ W m' G O), ?_, h1 rfl s1 H2 ⟨_, a2⟩⟩
      rintro s3 H3 ⟨G3, O3, ⟨m', hm, w3⟩, i3⟩
      exact ⟨m', hm, G3, O3, w3, i3⟩
    | false => exact iteF (h2 rfl s1 H2 ⟨_, a2⟩))
/-- y.append(e), e reading own things -/
theorem go_appV {ds : List Dt} {apos cpos : Pos} (vw : Vw G O G') (hy : EV X G o (.raw (.ref p))) (hj : O[j]? = some (p, .lst ds)) (h : EV X G' e d) (n : nl d = true) (hz : ds.length < sizeLine) (k : Go X B0 H0 G (O.set j (p, .lst (ds ++ [d]))) rest D)
    (hbase : attributeBase o "append" X.env (eval o X.env) = eval o X.env := by rfl)
    (hfew : ((backTo cpos (starEach (e :: []) X.env)).all (fun x => !x.1) && (backToKw cpos (keywordEach [] X.env)).all (fun x => x.1.isSome)
      && decide ((e :: []).length + ([] : List Keyword).length + (if ([] : List Keyword).isEmpty then 0 else 1) < 30)) = true := by rfl)
    (hline : (apos.endLine == cpos.line) = true := by rfl) (hst : starEach (e :: []) X.env = (false, eval e X.env) :: starEach [] X.env := by rfl) (hplain : (backTo cpos (starEach [] X.env)).any (·.1) = false := by rfl)
    (hs : swapsWith (.Call (.Attribute o "append" apos) [e] [] cpos) none pos.line X.env = pure false := by rfl) : Go X B0 H0 G O (.Expr (.Call (.Attribute o "append" apos) [e] [] cpos) pos :: rest) D := fun s H ⟨B, a⟩ =>
  run_c (ps_expr (pe_bm PySem.F.plainAttrs_list PySem.F.slot_list_append PySem.F.type_list_append mt_append pe_wk pa_wk hbase hfew hline hst hplain) hs) (hy s B H a.sl a.gr.s _ fun v B1 H1 g1 r1 => by
    have a1 := a.grow g1
    obtain ⟨b1, b2, xs, hx, rx⟩ := a1.ow p _ (List.mem_of_getElem? hj)
    rw [show v = .ref p from r1]
    obtain ⟨v1, v2, v3, v4⟩ := a1.view vw
    refine ⟨.inl ⟨rfl, xs, .of hx⟩, evs_cons h evs_nil hst s _ H1 v1 v2 _ fun vs B2 H2 g2 r2 => ?_⟩
    obtain ⟨w, rfl, rw'⟩ := rep1 r2
    obtain ⟨a2, _, w3⟩ := v4 B2 H2 g2
    have hx2 : H2 p = some (.lst xs) := g2.h _ _ hx
    obtain ⟨c1, c2, xs', hx', rx'⟩ := a2.ow p _ (List.mem_of_getElem? hj)
    rw [hx2] at hx'
    cases hx'
    refine ⟨p, xs, w, rfl, rfl, hx2, by rw [rx.length]; exact hz, ?_⟩
    exact k _ _ ⟨_, a2.put hj ⟨xs ++ [w], upd_same, rx'.snoc (w3 d w n rw')⟩⟩)
end
end Dh
end SDhView

section SDhDic
set_option Elab.async false
set_option linter.all false
set_option maxRecDepth 100000
set_option maxHeartbeats 4000000
/-! A dict whose keys are tuples of tuples of texts. -/
namespace Dh
open PySem PySem.Spec PyProof.Rows L2

def keyD (k : KyL) : Dt := .tup (k.map fun l => .tup (l.map .str))
section
variable {K : PySem.W.Frag} {B H : Hp}
theorem key_is {k : KyL} {v : V} (r : Rep K B (keyD k) v) : ∃ a, v = .ref a ∧ KeyIs K B k a := by
  obtain ⟨a, xs, e, h1, h2⟩ := r
  refine ⟨a, e, xs, h1, ?_⟩
  have : ∀ (k : KyL) (xs : List V), RepAll K B (k.map fun l => .tup (l.map .str)) xs → KeyIts K B k xs := by
    intro k
    induction k with
    | nil => intro xs h; rw [show xs = [] from h]; exact .nil
    | cons l k ih =>
      intro xs h
      obtain ⟨v, r, rfl, h1, h2⟩ := h
      obtain ⟨a', ys, rfl, q1, q2⟩ := h1
      rw [q2.strs] at q1
      exact .cons q1 (ih r h2)
  exact this k xs h2
theorem items_of : ∀ {P : Program} {w : World} {l : List Str} {us : List Value}, Vals (l.map V.str) us → ItemsAre (strKind P w) l us
  | _, _, [], _, .nil => .nil
  | P, w, z :: l, _, .cons r t => by
    obtain ⟨tk, rfl⟩ := r
    exact .cons (Froz.is_str z tk) (items_of t)
theorem key_tup {X : Cx} {pins : List (Addr × Obj)} {σ : L2.St} {s : Shared} (I : Inv X pins σ H s) {k : KyL} {a : Addr} (h : KeyIs X.K H k a) : IsTup2 (strKind X.prog X.w) s.heap k a := by
  obtain ⟨xs, h1, h2⟩ := h
  obtain ⟨its, rv, ⟨o, ho, hc, n, hd⟩, _⟩ := I.tuple h1
  refine ⟨o, its.toArray, n, ho, hc, hd, ?_⟩
  have : ∀ {k : KyL} {xs : List V}, KeyIts X.K H k xs → ∀ {its : List Value}, Vals xs its → ItemsAre2 (strKind X.prog X.w) s.heap k its := by
    intro k xs h
    induction h with
    | nil => intro its rv; cases rv; exact .nil
    | cons q1 _ ih =>
      intro its rv
      cases rv with
      | cons r t =>
        cases r
        obtain ⟨its', rv', ⟨o', ho', hc', n', hd'⟩, _⟩ := I.tuple q1
        exact .cons ⟨o', its'.toArray, n', ho', hc', hd', items_of rv'⟩ (ih t)
  exact this h2 rv
/-! entries -/
theorem EntsAre.length {es : List DEnt} {xs : List (KyL × Addr × Value)} (h : EntsAre es xs) : es.length = xs.length := by
  induction h with
  | nil => rfl
  | cons _ _ ih => simp [ih]
theorem EntsAre.snoc {es : List DEnt} {xs : List (KyL × Addr × Value)} {e : DEnt} {x : KyL × Addr × Value} (h : EntsAre es xs) (q : EntIs e x) : EntsAre (es ++ [e]) (xs ++ [x]) := by
  induction h with
  | nil => exact .cons q .nil
  | cons h1 _ ih => exact .cons h1 ih
theorem EntsAre.mem {es : List DEnt} {xs : List (KyL × Addr × Value)} (h : EntsAre es xs) {x : KyL × Addr × Value} (hx : x ∈ xs) : ∃ e ∈ es, EntIs e x := by
  induction h with
  | nil => cases hx
  | cons h1 _ ih =>
    rcases List.mem_cons.mp hx with rfl | hx
    · exact ⟨_, List.mem_cons_self, h1⟩
    · obtain ⟨e, he, q⟩ := ih hx
      exact ⟨e, List.mem_cons_of_mem _ he, q⟩
theorem EntsAre.keys {es : List DEnt} {xs : List (KyL × Addr × Value)} (h : EntsAre es xs) : es.map (·.1) = xs.map (·.1) := by
  induction h with
  | nil => rfl
  | cons h1 _ ih => rw [List.map_cons, List.map_cons, ih, h1.1]
/-- looked up -/
theorem EntsAre.find {es : List DEnt} {xs : List (KyL × Addr × Value)} (h : EntsAre es xs) (k : KyL) : (atKey xs k = none ∧ (es.map (fun e => (e.1, e.2.2))).lookup k = none) ∨ ∃ a u v, atKey xs k = some (a, u) ∧ (es.map (fun e => (e.1, e.2.2))).lookup k = some v ∧ RelV v u := by
  induction h with
  | nil => exact .inl ⟨rfl, rfl⟩
  | @cons e x es xs h1 _ ih =>
    obtain ⟨q1, q2, q3⟩ := h1
    by_cases hk : x.1 = k
    · right
      refine ⟨x.2.1, x.2.2, e.2.2, ?_, ?_, q3⟩
      · simp [atKey, List.find?_cons, hk]
      · rw [List.map_cons, List.lookup_cons]
        have : (k == e.1) = true := by rw [q1, hk]; simp
        rw [this]
    · have a1 : atKey (x :: xs) k = atKey xs k := by simp [atKey, List.find?_cons, hk]
      have a2 : ((e :: es).map (fun e => (e.1, e.2.2))).lookup k = (es.map (fun e => (e.1, e.2.2))).lookup k := by
        rw [List.map_cons, List.lookup_cons]
        have : (k == e.1) = false := by
          rw [q1]
          exact beq_eq_false_iff_ne.mpr fun z => hk z.symm
        rw [this]
      rw [a1, a2]
      exact ih
theorem look_mem {l : List (KyL × V)} {k : KyL} : (l.lookup k).isSome = decide (k ∈ l.map (·.1)) := by
  induction l with
  | nil => simp
  | cons p l ih =>
    rw [List.lookup_cons]
    by_cases e : k = p.1
    · subst e; simp
    · have : (k == p.1) = false := beq_eq_false_iff_ne.mpr e
      rw [this]
      simp only [ih, List.map_cons, List.mem_cons]
      simp [e]
theorem look_is {l : List (KyL × V)} {k : KyL} : (l.lookup k).isSome = true ↔ k ∈ l.map (·.1) := by
  rw [look_mem, decide_eq_true_eq]
theorem tdic_new {P : Program} {w : World} {H' : Hp} {h : Heap} {p : Addr} {es : List DEnt} {xs : List (KyL × Addr × Value)} (e : EntsAre es xs) (d : DObj P w h p xs) : ObjOk P w H' h p (TDic P w p es) := by
  refine ⟨⟨xs, e, d⟩, ?_, ?_⟩
  · obtain ⟨_, o, _, _, ho, _⟩ := d; exact ⟨o, ho⟩
  · rintro h1 h2 ⟨ys, e', hb, o, es', ep, ho, r⟩ k
    exact ⟨ys, e', hb, o, es', ep, k o ho, r⟩
theorem tdic_at {X : Cx} {pins : List (Addr × Obj)} {σ : L2.St} {s : Shared} (I : Inv X pins σ H s) {p : Addr} {es : List DEnt} (hp : H p = some (TDic X.prog X.w p es)) (hk : ∀ e ∈ es, KeyIs X.K H e.1 e.2.1) :
    (p == sysModules) = false ∧ ∃ xs, EntsAre es xs ∧ s.heap.DictOfH (tup2Kind (strKind X.prog X.w)) p xs := by
  obtain ⟨xs, e, hb, o, es', ep, ho, hx, hd, he, hn⟩ := (I.hok p _ hp).1
  refine ⟨hb, xs, e, o, es', ep, ho, hx, hd, he, fun x hx => ?_, hn⟩
  obtain ⟨y, hy, q1, q2, q3⟩ := e.mem hx
  have := key_tup I (hk y hy)
  rw [q1, q2] at this
  exact this
end
section
variable {X : Cx} {G : List (Option Dt)} {a b e : Expr} {d : Dt} {pos p1 : Pos} {k : KyL} {kvs : List (KyL × V)} {v : V}
def ixr (X : Cx) : R2 := fun x y H Q => ∀ (value slice : Expr) (pins : List (Addr × Obj)) (s : Shared) (σ : L2.St) (v u : Value), Inv X pins σ H s → RelV x v → RelV y u → subscripted slice false v u = operate [v, u] (getItem v u) → wpAny (model X.prog X.w) X.A (subscriptTail value slice v u) (EP X pins σ Q) X.xe s
theorem ev_dix (hu : X.A.units + 64 < cLine) (ha : EV X G a (.dic X.prog X.w kvs)) (hb : EV X G b (keyD k)) (hv : kvs.lookup k = some v) (rd : ∀ B, Rep X.K B d v) (hs : PlainIx b) : EV X G (.Subscript a b pos) d :=
  fun s B H hsl e Q q => run_e (pe_ix (r := ixr X) (fun value slice pins s σ H x y v u Q I r1 r2 h hs => h value slice pins s σ v u I r1 r2 hs) pe_wk pe_wk hs) (ha s B H hsl e _ fun x B1 H1 g1 r1 => hb s B1 H1 (hsl.mono g1.b) g1.s _ fun y B2 H2 g2 r2 => by
    intro value slice pins sh σ v' u I rx ry hsub
    obtain ⟨p, es, rfl, hp, hes, hk⟩ := r1.mono g2.b
    obtain ⟨a', rfl, hka⟩ := key_is r2
    cases rx
    cases ry
    have I' := I
    obtain ⟨hsys, xs, ee, dd⟩ := tdic_at I (g2.s _ _ hp) fun e he => (hk e he).mono g2.s
    have f := ee.find k
    rw [hes, hv] at f
    rcases f with ⟨_, f⟩ | ⟨a2, u2, v2, f1, f2, f3⟩
    · cases f
    · cases f2
      refine tail_any (ops := [.ref p, .ref a']) (T := "dict") dd.typeIs PySem.F.slot_dict_getitem.lookup ?_ hsub
      refine wpAny_getItem_heap (by show X.A.in1.units + 1 < cLine; show X.A.units + 1 + 1 < cLine; omega) (key_tup I (hka.mono g2.s)) dd f1 ?_
      exact ⟨v, H2, I.tok _, f3, q v B2 H2 (g1.trans g2) (rd B2)⟩)
theorem b_ind (hu : X.A.units + 64 < cLine) : BinD X (compareOp .In) (keyD k) (.dic X.prog X.w kvs) (.bl (decide (k ∈ kvs.map (·.1)))) := by
  intro B H x y Q e rx ry q pins sh s v u I r1 r2
  obtain ⟨a', rfl, hka⟩ := key_is rx
  obtain ⟨p, es, rfl, hp, hes, hk⟩ := ry
  cases r1
  cases r2
  obtain ⟨hsys, xs, ee, dd⟩ := tdic_at I (e _ _ hp) fun x hx => (hk x hx).mono e
  refine wpAny_in_heap (by show X.A.units + 1 + 1 < cLine; omega) (key_tup I (hka.mono e)) hsys dd ?_
  have f := ee.find k
  rw [hes] at f
  refine ⟨.bl _, H, I.tok _, rfl, q _ B H (.refl e) ?_⟩
  show V.bl (atKey xs k).isSome = V.bl (decide (k ∈ kvs.map (·.1)))
  have lm := look_is (l := kvs) (k := k)
  rcases f with ⟨f1, f2⟩ | ⟨_, _, _, f1, f2, _⟩
  · rw [f2] at lm
    rw [f1, decide_eq_false fun z => by simpa using lm.mpr z]; rfl
  · rw [f2] at lm
    rw [f1, decide_eq_true (lm.mp rfl)]; rfl
theorem b_notind (hu : X.A.units + 64 < cLine) : BinD X (compareOp .NotIn) (keyD k) (.dic X.prog X.w kvs) (.bl (!decide (k ∈ kvs.map (·.1)))) := by
  intro B H x y Q e rx ry q pins sh s v u I r1 r2
  obtain ⟨a', rfl, hka⟩ := key_is rx
  obtain ⟨p, es, rfl, hp, hes, hk⟩ := ry
  cases r1
  cases r2
  obtain ⟨hsys, xs, ee, dd⟩ := tdic_at I (e _ _ hp) fun x hx => (hk x hx).mono e
  refine wpAny_notIn_heap (by show X.A.units + 1 + 1 < cLine; omega) (key_tup I (hka.mono e)) hsys dd ?_
  have f := ee.find k
  rw [hes] at f
  refine ⟨.bl _, H, I.tok _, rfl, q _ B H (.refl e) ?_⟩
  show V.bl (!(atKey xs k).isSome) = V.bl (!decide (k ∈ kvs.map (·.1)))
  have lm := look_is (l := kvs) (k := k)
  rcases f with ⟨f1, f2⟩ | ⟨_, _, _, f1, f2, _⟩
  · rw [f2] at lm
    rw [f1, decide_eq_false fun z => by simpa using lm.mpr z]; rfl
  · rw [f2] at lm
    rw [f1, decide_eq_true (lm.mp rfl)]; rfl
/-! {k: v} -/
theorem run_dic {B H : Hp} {s : L2.St} {Q : VK} {ek ev : Expr} (hu : X.A.units + 64 < cLine) (h1 : EV X G ek (keyD k)) (h2 : EV X G ev d) (rd : ∀ B v', Rep X.K B d v' → v' = v) (hs : Sl X.K B G s) (hb : Same B H)
    (q : ∀ (p : Addr) (a : Addr) (B' H' : Hp), H p = none → Gr B H B' H' → B' p = none → H' p = some (TDic X.prog X.w p [(k, a, v)]) → KeyIs X.K B' k a → Q (.ref p) H') : RunE X (.Dict [some ek] [ev] pos) Q s H := by
  refine ⟨fun pins sh I => ?_⟩
  have hn := I.hok.fresh (Nat.le_refl sh.heap.objs.size)
  have hsys : (sh.heap.objs.size == sysModules) = false := beq_eq_false_iff_ne.mpr (Ne.symm (Nat.ne_of_lt I.big))
  have hd0 : (sh.heap.push { cls := .type "dict", data := .dict #[] }).get? sh.heap.objs.size = some { cls := .type "dict", data := .dict #[] } := Heap.get?_push_size _ rfl
  have I1 := I.laid (a := sh.heap.objs.size) (o := TDic X.prog X.w sh.heap.objs.size []) (h' := sh.heap.push { cls := .type "dict", data := .dict #[] }) (t' := sh.toks) (fun _ _ q => Heap.get?_push_of_some _ q) (Nat.le_refl _) (tdic_new .nil ⟨hsys, _, #[], 0, hd0, ⟨rfl, rfl, rfl⟩, rfl, rfl, List.nodup_nil⟩)
  have bn : B sh.heap.objs.size = none := hb.free hn
  have g0 : Gr B H B (upd H sh.heap.objs.size (TDic X.prog X.w sh.heap.objs.size [])) := .newO hb hn
  rw [arm_eval_Dict]
  have e0 : ((evalEachOpt [some ek] X.env).zip ((evalEach [ev] X.env).map fun v => do let x ← v; standAt pos; pure x)) = [(eval ek X.env, (do let x ← eval ev X.env; standAt pos; pure x))].map fun p => (some p.1, p.2) := rfl
  rw [e0, dictDisplay_pairs _ (by simp) (by simp)]
  refine wpAny_bind (wpAny_standAt (wpAny_bind (wpAny_subDictH (knd := tup2Kind (strKind X.prog X.w)) (by show X.A.units + 1 < cLine; omega) (by simp) ?_)))
  refine evalPairs_cons (thn ((h1 s B _ hs g0.s (fun kv H2 => RunE X ev (fun vv H3 => ∃ B3, Gr B (upd H sh.heap.objs.size (TDic X.prog X.w sh.heap.objs.size [])) B3 H3 ∧ Rep X.K B3 (keyD k) kv ∧ vv = v) s H2) (fun kv B2 H2 g2 r2 => h2 s B2 H2 (hs.mono g2.b) g2.s _ fun vv B3 H3 g3 r3 => ⟨B3, g2.trans g3, r2.mono g3.b, rd B3 vv r3⟩)).run pins _ I1) fun u s2 ⟨kv, H2, I2, rk, q2⟩ => ?_)
  refine wpAny_bind (thn (q2.run pins s2 I2) fun u2 s3 ⟨vv, H3, I3, rv, B3, g3, r3, ev'⟩ => wpAny_bind (wpAny_standAt (wpAny_pure ?_)))
  subst ev'
  refine evalPairs_nil ?_
  obtain ⟨a, rfl, hka⟩ := key_is r3
  cases rk
  have hp3 : H3 sh.heap.objs.size = some (TDic X.prog X.w sh.heap.objs.size []) := g3.h _ _ upd_same
  have b3 : B3 sh.heap.objs.size = none := by rw [g3.k _ (by rw [upd_same]; simp)]; exact bn
  obtain ⟨hsys', xs, ee, dd⟩ := tdic_at I3 hp3 fun e he => (by cases he)
  cases ee
  refine ⟨[(k, a, u2)], ⟨rfl, rfl, key_tup I3 (hka.mono g3.s), trivial⟩, dd, fun h' tk dd' hs' => wpAny_pure ?_⟩
  have dd' : h'.DictOfH (tup2Kind (strKind X.prog X.w)) sh.heap.objs.size [(k, a, u2)] := dd'
  obtain ⟨o, es', ep, ho, hx, hd, he, _, hnd⟩ := dd'
  have I4 : Inv X pins s (upd H3 sh.heap.objs.size (TDic X.prog X.w sh.heap.objs.size [(k, a, vv)])) { s3 with heap := h', toks := tk } :=
    d_write (t' := tk) I3 (by rw [hp3]; trivial) hs' ⟨o, ho⟩ (tdic_new (.cons ⟨rfl, rfl, rv⟩ .nil) ⟨hsys, o, es', ep, ho, hx, hd, he, hnd⟩)
  refine ⟨.ref sh.heap.objs.size, _, I4, rfl, q sh.heap.objs.size a B3 _ hn ⟨g3.b, fun c u e => ?_, fun c u e => ?_, fun c hc => ?_⟩ b3 upd_same hka⟩
  · rw [upd_ne (ne_of_none e hn)]
    exact g3.h c u (by rw [upd_ne (ne_of_none e hn)]; exact e)
  · rw [upd_ne (ne_of_none e b3)]
    exact g3.s c u e
  · have : c ≠ sh.heap.objs.size := fun z => hc (z ▸ hn)
    exact g3.k c (by rw [upd_ne this]; exact hc)
end
section
variable {X : Cx} {B0 H0 : Hp} {G G' : List (Option Dt)} {O : List (Addr × Ob)} {rest : List Stmt} {D : Ends} {e o ik ek ev : Expr} {d : Dt} {k : KyL} {kvs : List (KyL × V)} {v : V} {pos px dpos tpos : Pos} {x : Str} {i j : Nat} {p : Addr}
/-- x = {k: v} -/
theorem go_newDic (hu : X.A.units + 64 < cLine) (h1 : EV X G ek (keyD k)) (h2 : EV X G ev d) (rd : ∀ B v', Rep X.K B d v' → v' = v) (kk : ∀ p, Go X B0 H0 (G.set i (some (.raw (.ref p)))) ((p, .dic X.prog X.w [(k, v)]) :: O) rest D) (hN : X.N.Nodup) (hi : X.N[i]? = some x) (hx : Loc X.env.scope x)
    (hs : swapsWith (.Dict [some ek] [ev] dpos) (some (.Name x px)) pos.line X.env = pure false := by rfl) (hf : X.fn x = true ∨ X.env.scope.names.lookup x = some .local := by first | exact .inl rfl | exact .inr rfl | assumption) :
    Go X B0 H0 G O (.Assign [.Name x px] (.Dict [some ek] [ev] dpos) pos :: rest) D := fun s H ⟨B, a⟩ =>
  run_c (ps_set hN hi hx pe_wk hs hf) (run_dic hu h1 h2 rd a.sl a.gr.s fun q ad B1 H1 hq g1 bq hq1 hk => by
    have a1 := a.grow g1
    have fresh : ∀ r ob, (r, ob) ∈ O → r ≠ q := fun r ob hr z => by
      have := (a.ow r ob hr).2.2.ne
      rw [z] at this
      exact this hq
    have a2 : At X.K B0 H0 B1 G ((q, .dic X.prog X.w [(k, v)]) :: O) s H1 := by
      refine ⟨a1.gr, a1.sl, fun r ob hr => ?_, ?_⟩
      · rcases List.mem_cons.mp hr with e | hr
        · cases e
          exact ⟨bq, a.gr.h.free hq, [(k, ad, v)], hq1, rfl, fun e he => by rw [List.mem_singleton] at he; subst he; exact hk⟩
        · exact a1.ow r ob hr
      · rw [List.map_cons, List.nodup_cons]
        refine ⟨fun hm => ?_, a.nd⟩
        obtain ⟨⟨r, ob⟩, hr, e⟩ := List.mem_map.mp hm
        exact fresh r ob hr e
    exact kk q _ _ ⟨B1, a2.set (d := .raw (.ref q)) (v := .ref q) rfl i⟩)
/-- y[k] = e, k new -/
theorem go_setDic (hu : X.A.units + 64 < cLine) (h2 : EV X G e d) (rd : ∀ B v', Rep X.K B d v' → v' = v) (ho : EV X G o (.raw (.ref p))) (hj : O[j]? = some (p, .dic X.prog X.w kvs)) (h1 : EV X G ik (keyD k)) (hk : k ∉ kvs.map (·.1)) (hz : kvs.length ≤ 100000)
    (kk : Go X B0 H0 G (O.set j (p, .dic X.prog X.w (kvs ++ [(k, v)]))) rest D) (hs : swapsWith e (some (.Subscript o ik tpos)) pos.line X.env = pure false := by rfl) : Go X B0 H0 G O (.Assign [.Subscript o ik tpos] e pos :: rest) D := fun s H ⟨B, a⟩ => by
  have hps : PS X (.Assign [.Subscript o ik tpos] e pos) (fun D s H => RunE X e (fun v H1 => RunE X o (fun ov H2 => RunE X ik (fun iv H3 => ∀ (pins : List (Addr × Obj)) (sh : Shared) (u uo ui : Value), Inv X pins s H3 sh → RelV v u → RelV ov uo → RelV iv ui → wpAny (model X.prog X.w) X.A (setItem uo ui u) (fun _ s' => SP X pins D .next s') X.xe sh) s H2) s H1) s H) := by
    refine ⟨fun pins sh σ H D I h => ?_⟩
    exact wpAny_Assign_Subscript (thn (h.run pins sh I) fun r s1 ⟨v, H1, I1, rv, q1⟩ => thn (q1.run pins s1 I1) fun u s2 ⟨x, H2, I2, rx, q2⟩ => thn (q2.run pins s2 I2) fun iv s3 ⟨y, H3, I3, ry, q3⟩ => q3 pins s3 r u iv I3 rv rx ry) hs
  refine run_c hps (h2 s B H a.sl a.gr.s _ fun v1 B1 H1 g1 r1 => ?_)
  have a1 := a.grow g1
  obtain rfl := rd B1 v1 r1
  refine ho s B1 H1 a1.sl a1.gr.s _ fun ov B2 H2 g2 r2 => ?_
  have a2 := a1.grow g2
  obtain rfl : ov = .ref p := r2
  refine h1 s B2 H2 a2.sl a2.gr.s _ fun iv B3 H3 g3 r3 pins sh u uo ui I ru ruo rui => ?_
  have a3 := a2.grow g3
  obtain ⟨a', rfl, hka⟩ := key_is r3
  cases ruo
  cases rui
  obtain ⟨c1, c2, es, hp, hes, hkk⟩ := a3.ow p _ (List.mem_of_getElem? hj)
  obtain ⟨hsys, xs, ee, dd⟩ := tdic_at I hp fun x hx => (hkk x hx).mono a3.gr.s
  have f := ee.find k
  rw [hes] at f
  have fn : kvs.lookup k = none := by
    cases q : kvs.lookup k with
    | none => rfl
    | some z => exact absurd (look_is.mp (by rw [q]; rfl)) hk
  rw [fn] at f
  have f1 : atKey xs k = none := by
    rcases f with ⟨f1, _⟩ | ⟨_, _, _, _, f2, _⟩
    · exact f1
    · cases f2
  have l1 : es.length = kvs.length := by rw [← hes, List.length_map]
  have l2 := ee.length
  refine wpAny_setItem_heap (hsz := by rw [← l2, l1]; exact Nat.le_trans hz (by rw [sizeLine_eq]; decide)) (by show X.A.units + 1 + 1 < cLine; omega) (key_tup I (hka.mono a3.gr.s)) dd fun h' dd' hs' => ?_
  rw [storedH_new f1] at dd'
  obtain ⟨ob, es', ep, ho', hx, hd, he, _, hnd⟩ := dd'
  have I4 : Inv X pins s (upd H3 p (TDic X.prog X.w p (es ++ [(k, a', v1)]))) { sh with heap := h', toks := sh.toks + (tup2Kind (strKind X.prog X.w)).draws k } :=
    d_write I (by rw [hp]; trivial) hs' ⟨ob, ho'⟩ (tdic_new (ee.snoc ⟨rfl, rfl, ru⟩) ⟨hsys, ob, es', ep, ho', hx, hd, he, hnd⟩)
  exact ⟨s, _, I4, kk _ _ ⟨B3, a3.put hj ⟨es ++ [(k, a', v1)], upd_same, by rw [List.map_append, hes]; rfl, fun x hx => by
    rcases List.mem_append.mp hx with q | q
    · exact hkk x q
    · rw [List.mem_singleton] at q; subst q; exact hka⟩⟩⟩
end
end Dh
end SDhDic

section SDhPairs
set_option Elab.async false
set_option linter.all false
set_option maxRecDepth 100000
set_option maxHeartbeats 4000000
local macro_rules | `(tactic| walk_at "bd") => `(tactic| first
  | exact Dh.b_in | exact Dh.b_notin | exact Dh.b_eqS | exact Dh.b_neS | exact Dh.b_isN | exact Dh.b_notN | exact Dh.b_add | exact Dh.b_sub | exact Dh.b_lt | exact Dh.b_le | exact Dh.b_gt | exact Dh.b_ge | exact Dh.b_eqI | exact Dh.b_neI | exact Dh.b_eqB | exact Dh.b_neB)
local macro_rules | `(tactic| walk_at "xd") => `(tactic| first | exact Dh.ix_t rfl | exact Dh.ix_l rfl)
namespace Dh
open PySem PySem.Spec PyProof.Rows L2

theorem sl_small {n : Nat} (h : n ≤ 100000) : n ≤ sizeLine := Nat.le_trans h (by rw [sizeLine_eq]; decide)
theorem signs_get {l : List Nat} {j : Nat} {d : Dt} (h : (signs l)[j]? = some d) : ∃ c, l[j]? = some c ∧ d = .str (sg c) := by
  unfold signs at h
  rw [List.getElem?_map] at h
  obtain ⟨c, hc, rfl⟩ := Option.map_eq_some_iff.mp h
  exact ⟨c, hc, rfl⟩
theorem map_get {α : Type} {f : α → Dt} {l : List α} {j : Nat} {d : Dt} (h : (l.map f)[j]? = some d) : ∃ c, l[j]? = some c ∧ d = f c := by
  rw [List.getElem?_map] at h
  obtain ⟨c, hc, rfl⟩ := Option.map_eq_some_iff.mp h
  exact ⟨c, hc, rfl⟩
theorem signs_len (l : List Nat) : (signs l).length = l.length := by simp [signs]
theorem take_snoc {α : Type} {l : List α} {j : Nat} {c : α} (h : l[j]? = some c) : l.take (j + 1) = l.take j ++ [c] := by rw [List.take_succ, h]; rfl
theorem cutD_to {l : List Dt} {k : Nat} : cutD l none (some (k : Int)) = l.take k := by
  unfold cutD
  rw [HT.sIx_none, HT.sIx_nat, List.drop_zero, Nat.sub_zero]
  rcases Nat.le_total k l.length with h | h
  · rw [Nat.min_eq_left h]
  · rw [Nat.min_eq_right h, List.take_of_length_le (Nat.le_refl _), List.take_of_length_le h]
section
variable {X : Cx} {G : List (Option Dt)} {a b : Expr} {pos : Pos}
theorem ev_addS {l m : List Nat} (ha : EV X G a (.str (S l))) (hb : EV X G b (.str (S m))) (h : l.length + m.length ≤ sizeLine) : EV X G (.BinOp a .Add b pos) (.str (S (l ++ m))) :=
  (ev_bin ha hb (b_addS (by rw [S_len, S_len]; exact h))).to (by rw [S_app])
theorem go_nilW {B0 H0 : Hp} {O : List (Addr × Ob)} {D : Ends} {W : List (Option Dt) → List (Addr × Ob) → Prop} (w : W G O) (hD : D.nx = InW X.K B0 H0 W) : Go X B0 H0 G O [] D := go_nil fun s H a => by rw [hD]; exact ⟨G, O, w, a⟩
theorem go_contW {B0 H0 : Hp} {O : List (Addr × Ob)} {D : Ends} {W : List (Option Dt) → List (Addr × Ob) → Prop} {rest : List Stmt} (w : W G O) (hD : D.ct = InW X.K B0 H0 W) : Go X B0 H0 G O (.Continue pos :: rest) D := go_cont fun s H a => by rw [hD]; exact ⟨G, O, w, a⟩
end
section
variable {P : Program} {w : World} {K : PySem.W.Frag} {mg : Str → Option Value} {base : Heap} {f : Addr} {fd : FuncData} {A : Ad}
abbrev spSigns (K : PySem.W.Frag) : Sp := spT K (T := List Nat) (fun l => [.str (S l)]) (fun l => ∀ c ∈ l, Sg c) (fun _ d => d = .bl true)
theorem ok_are_signs (F : FnP K "are_signs" "are_signs" s_are_signs f fd) (T : Tx K mg A) : FnOk P w K mg base CX0 1 f fd ["thing"] (spSigns K) := by
  refine fn_ok F sc_are_signs (fun _ => rfl) fun l cdv A' outer sh H0 E B0 D' hr hp hn hQ => ?_
  refine go_if0 (et_not (et_val (ev_isi (T := "str") (t := true) (ev_var (i := 0) rfl rfl (.inl rfl)) rfl (by decide +kernel) rfl T.b_isinstance rfl T.b_str boot_str))) (fun h => nomatch h) (fun _ => ?_)
  refine go_for PassesOwn.never rfl (pit_str (ev_var (i := 0) rfl rfl (.inl rfl))) (fun j G O => O = [] ∧ ∃ x, G = [some (.str (S l)), x]) ⟨rfl, _, rfl⟩ (fun B1 u j d G1 O1 hd w => ?_) (fun G1 O1 w => ?_)
  · obtain ⟨rfl, x, rfl⟩ := w
    obtain ⟨c, hc, rfl⟩ := signs_get hd
    have hc' : c ∈ l := List.mem_of_getElem? (show l[j]? = some c from hc)
    refine ⟨_, (tgt_name (i := 1) sc_are_signs.nd rfl (.inl rfl)), ?_⟩
    refine go_if0 (EW.pt (ew_and (et_cmp (ev_var (i := 1) rfl rfl (.inl rfl)) (ev_gl T.cLINE rfl) (by walk_at "bd") (nomark _)) fun h => (ew_and1 (et_cmp (ev_var (i := 1) rfl rfl (.inl rfl)) (ev_gl T.cPRINTABLE rfl) (by walk_at "bd") rfl)))) (fun h => ?_) (fun h => go_nilW ⟨rfl, _, rfl⟩ rfl)
    exfalso
    rw [sg_line] at h
    rw [Bool.and_eq_true] at h
    obtain ⟨h1, h2⟩ := h
    have h1 : ¬ c = 10 := by simpa using h1
    have h2 : c ∉ printL := by
      have h2 : (!decide (c ∈ printL)) = true := h2
      simpa using h2
    rcases hp c hc' with e | e
    · exact h1 e
    · exact h2 (prn_print e)
  · obtain ⟨rfl, x, rfl⟩ := w
    exact go_ret ev_bl hQ rfl
abbrev TxSg (l : List Nat) : Prop := (∀ c ∈ l, Sg c) ∧ l.length ≤ 2000
abbrev spText (K : PySem.W.Frag) : Sp := spT K (T := List Nat) (fun l => [.str (S l)]) TxSg (fun _ d => d = .bl true)
theorem ok_is_text (F : FnP K "is_text" "is_text" s_is_text f fd) (T : Tx K mg A) (F_are : Cal P w K mg base 1 "are_signs" ["thing"] (spSigns K)) : FnOk P w K mg base CX0 2 f fd ["thing"] (spText K) := by
  refine fn_ok F sc_is_text (fun _ => rfl) fun l cdv A' outer sh H0 E B0 D' hr hp hn hQ => ?_
  have hz : (S l).length ≤ sizeLine := by rw [S_len]; exact sl_small (Nat.le_trans hp.2 (by decide))
  refine go_ret (ev_and (t := true) (ev_call F_are (hr.mono (by decide)) (evs_cons (ev_var (i := 0) rfl rfl (.inl rfl)) evs_nil) l rfl rfl hp.1 rfl) fun h => (ev_one (ev_cmp (ev_callB (c_lenS hz) rfl T.b_len boot_len (evs_cons (ev_var (i := 0) rfl rfl (.inl rfl)) evs_nil)) (ev_gl T.cMOST_SIGNS rfl) (by walk_at "bd") (nomark _)))) hQ ?_
  show Dt.bl (true && decide (((S l).length : Int) ≤ 2000)) = .bl true
  rw [S_len, Bool.true_and, decide_eq_true (by have := hp.2; omega)]
abbrev spOth (K : PySem.W.Frag) : Sp := spT K (T := List Nat) (fun l => [.str (S l), .int 1]) (fun l => l.length < 62) (fun l d => d = .str (S [oth l]))
theorem ok_others (F : FnP K "others" "others" s_others f fd) (T : Tx K mg A) : FnOk P w K mg base CX0 1 f fd ["some", "many"] (spOth K) := by
  refine fn_ok F sc_others (fun _ => rfl) fun l cdv A' outer sh H0 E B0 D' hr hp hn hQ => ?_
  obtain ⟨o1, o2, o3⟩ := oth_spec hp
  have key : (letters.filter fun c => decide (c ∉ l)).take 1 = [oth l] := by
    cases e : letters.filter fun c => decide (c ∉ l) with
    | nil => rw [e] at o3; cases o3
    | cons y r => rw [e] at o3; cases o3; rfl
  have e1 : cutD ((letters.filter fun c => !decide (c ∈ l)).map fun c => .str (sg c)) none (some 1) = [[oth l]].map fun l => Dt.str (S l) := by
    have e0 : (letters.filter fun c => !decide (c ∈ l)) = letters.filter fun c => decide (c ∉ l) := by
      congr 1; funext c; simp
    rw [show (1 : Int) = ((1 : Nat) : Int) from rfl, cutD_to, ← List.map_take, e0, key]
    rfl
  refine go_ret (ev_join (ys := [[oth l]]) ev_str (EV.to (ev_slice (ev_lc (xs := letters) (enc := fun c => .str (sg c)) (g := fun c => .str (sg c)) (P := fun c => !decide (c ∈ l)) (i := 2) rfl sc_others.nd (pit_str (z := S letters) (ev_gl T.cLETTERS rfl)) (blkOk_by rfl) (fun _ _ _ _ _ => pg_name (i := 2) sc_others.nd rfl (.inl rfl)) (by show 2 < 3; decide) (fun a ha _ _ _ _ _ => ets_one (et_cmp (ev_var (i := 2) rfl rfl (.inl rfl)) (ev_var (i := 0) rfl rfl (.inr (.inl rfl))) (by walk_at "bd") rfl)) (fun a ha hP _ _ _ _ _ => (ev_var (i := 2) rfl rfl (.inl rfl))) (sl_small (by decide))) rfl ⟨_, rfl, (ev_var (i := 1) rfl rfl (.inl rfl))⟩ sl_l) (by rw [e1])) (by show 1 ≤ _; decide)) hQ rfl
abbrev spSpecial (K : PySem.W.Frag) (A : Ad) : Sp := spT K (T := Dia) (fun D => [encD A D]) Ok (fun D d => d = .str (S (special D)))
theorem dd_len (l acc : List Nat) : (l.foldl (fun f c => if c ∈ f then f else f ++ [c]) acc).length ≤ acc.length + l.length := length_dedup l acc
theorem ok_special (F : FnP K "special" "Dialect.special" s_Dialect_special f fd) (T : Tx K mg A) : FnOk P w K mg base CX0 1 f fd ["self"] (spSpecial K A) := by
  refine fn_ok F sc_Dialect_special (fun _ => rfl) fun D cdv A' outer sh H0 E B0 D' hr hp hn hQ => ?_
  have hl : (D.parts ++ D.quotes ++ D.frees).length ≤ 7 := by
    have := hp.p3; have := hp.q2; have := hp.f2
    simp only [List.length_append]; omega
  have l1 : D.parts.length + D.quotes.length ≤ sizeLine := sl_small (by have := hp.p3; have := hp.q2; omega)
  have l2 : (D.parts ++ D.quotes).length + D.frees.length ≤ sizeLine := sl_small (by simp only [List.length_append] at hl ⊢; omega)
  refine go_set (i := 1) ev_str ?_ sc_Dialect_special.nd rfl (.inl rfl)
  refine go_for PassesOwn.never rfl (pit_str (ev_addS (ev_addS (ev_fldI (i := 0) (ev_var (i := 0) rfl rfl (.inl rfl)) T.k_dia T.d_parts dnd rfl rfl) (ev_fldI (i := 1) (ev_var (i := 0) rfl rfl (.inl rfl)) T.k_dia T.d_quotes dnd rfl rfl) l1) (ev_fldI (i := 2) (ev_var (i := 0) rfl rfl (.inl rfl)) T.k_dia T.d_frees dnd rfl rfl) l2))
    (fun j G O => O = [] ∧ ∃ x, G = [some (encD A D), some (.str (S (((D.parts ++ D.quotes ++ D.frees).take j).foldl (fun f c => if c ∈ f then f else f ++ [c]) []))), x]) ⟨rfl, none, ?_⟩ (fun B1 u j d G1 O1 hd w => ?_) (fun G1 O1 w => ?_)
  · rw [List.take_zero]; rfl
  · obtain ⟨rfl, x, rfl⟩ := w
    obtain ⟨c, hc, rfl⟩ := signs_get hd
    have hc : (D.parts ++ D.quotes ++ D.frees)[j]? = some c := hc
    refine ⟨_, (tgt_name (i := 2) sc_Dialect_special.nd rfl (.inl rfl)), ?_⟩
    generalize hg : ((D.parts ++ D.quotes ++ D.frees).take j).foldl (fun f c => if c ∈ f then f else f ++ [c]) [] = g
    have gl : g.length ≤ 7 := by
      have := dd_len ((D.parts ++ D.quotes ++ D.frees).take j) []
      rw [hg, List.length_take, List.length_nil] at this
      omega
    have nx : ((D.parts ++ D.quotes ++ D.frees).take (j + 1)).foldl (fun f c => if c ∈ f then f else f ++ [c]) [] = if c ∈ g then g else g ++ [c] := by
      rw [take_snoc hc, List.foldl_append, hg]; rfl
    refine go_if0 (et_cmp (ev_var (i := 2) rfl rfl (.inl rfl)) (ev_var (i := 1) rfl rfl (.inl rfl)) (by walk_at "bd") rfl) (fun h => ?_) (fun h => ?_)
    · have h : c ∉ g := by
        have h : (!decide (c ∈ g)) = true := h
        simpa using h
      refine go_set (i := 1) (ev_addS (m := [c]) (ev_var (i := 1) rfl rfl (.inl rfl)) (ev_var (i := 2) rfl rfl (.inl rfl)) (sl_small (by rw [List.length_singleton]; omega))) ?_ sc_Dialect_special.nd rfl (.inl rfl)
      refine go_done (go_nilW ⟨rfl, some (.str (sg c)), ?_⟩ rfl) rfl
      rw [nx, if_neg h]; rfl
    · have h : c ∈ g := by
        have h : (!decide (c ∈ g)) = false := h
        simpa using h
      refine go_nilW ⟨rfl, some (.str (sg c)), ?_⟩ rfl
      rw [nx, if_pos h]; rfl
  · obtain ⟨rfl, x, rfl⟩ := w
    refine go_ret (ev_var (i := 1) rfl rfl (.inl rfl)) hQ ?_
    rw [List.take_of_length_le (by rw [signs_len]; exact Nat.le_refl _)]
    rfl
end
end Dh
end SDhPairs

section SDhPairs2
set_option Elab.async false
set_option linter.all false
set_option maxRecDepth 100000
set_option maxHeartbeats 4000000
local macro_rules | `(tactic| walk_at "bd") => `(tactic| first
  | exact Dh.b_in | exact Dh.b_notin | exact Dh.b_eqS | exact Dh.b_neS | exact Dh.b_isN | exact Dh.b_notN | exact Dh.b_add | exact Dh.b_sub | exact Dh.b_lt | exact Dh.b_le | exact Dh.b_gt | exact Dh.b_ge | exact Dh.b_eqI | exact Dh.b_neI | exact Dh.b_eqB | exact Dh.b_neB)
local macro_rules | `(tactic| walk_at "xd") => `(tactic| first | exact Dh.ix_t rfl | exact Dh.ix_l rfl)
namespace Dh
open PySem PySem.Spec PyProof.Rows L2

def dd (l acc : List Nat) : List Nat := l.foldl (fun f c => if c ∈ f then f else f ++ [c]) acc
def sgf (D1 D2 : Dia) : List Nat := dd (special D1 ++ special D2 ++ [10, 32]) [] ++ [oth (dd (special D1 ++ special D2 ++ [10, 32]) [])]
theorem dd_mem {l acc : List Nat} {x : Nat} : x ∈ dd l acc ↔ x ∈ acc ∨ x ∈ l := mem_dedup l acc x
theorem dd_le (l acc : List Nat) : (dd l acc).length ≤ acc.length + l.length := length_dedup l acc
theorem sgf_pre {D1 D2 : Dia} (h1 : Ok D1) (h2 : Ok D2) : (special D1 ++ special D2 ++ [10, 32]).length ≤ 16 := by
  have := special_len h1
  have := special_len h2
  simp only [List.length_append, List.length_cons, List.length_nil]
  omega
theorem sgf_len {D1 D2 : Dia} (h1 : Ok D1) (h2 : Ok D2) : (sgf D1 D2).length ≤ 17 := by
  have := dd_le (special D1 ++ special D2 ++ [10, 32]) []
  have := sgf_pre h1 h2
  unfold sgf
  rw [List.length_append, List.length_singleton]
  rw [List.length_nil] at *
  omega
theorem special_prn {D : Dia} (h : Ok D) {x : Nat} (hx : x ∈ special D) : Prn x := by
  rcases mem_special.mp hx with q | q | q
  · exact h.pp x q
  · exact h.qp x q
  · exact h.fp x q
theorem sgf_cover {D1 D2 : Dia} (h1 : Ok D1) (h2 : Ok D2) : Cover D1 D2 (sgf D1 D2) := by
  have hl : (dd (special D1 ++ special D2 ++ [10, 32]) []).length < 62 := by
    have := dd_le (special D1 ++ special D2 ++ [10, 32]) []
    have := sgf_pre h1 h2
    rw [List.length_nil] at *
    omega
  obtain ⟨o1, o2, _⟩ := oth_spec hl
  have mem : ∀ x, x ∈ special D1 ++ special D2 ++ [10, 32] → x ∈ dd (special D1 ++ special D2 ++ [10, 32]) [] := fun x hx => dd_mem.mpr (.inr hx)
  have inn : ∀ x, x ∈ special D1 ++ special D2 ++ [10, 32] → x ∈ sgf D1 D2 := fun x hx => List.mem_append_left _ (mem x hx)
  refine ⟨fun x hx => inn x (by simp [hx]), fun x hx => inn x (by simp [hx]), inn 10 (by simp), inn 32 (by simp), ⟨_, List.mem_append_right _ (List.mem_singleton.mpr rfl), fun q => o2 (mem _ (List.mem_append_left _ (List.mem_append_left _ q))), fun q => o2 (mem _ (List.mem_append_left _ (List.mem_append_right _ q))), (letters_no _ o1).1, (letters_no _ o1).2⟩, fun x hx => ?_⟩
  rcases List.mem_append.mp hx with q | q
  · rcases dd_mem.mp q with q | q
    · cases q
    · rcases List.mem_append.mp q with q | q
      · rcases List.mem_append.mp q with q | q
        · exact .inr (special_prn h1 q)
        · exact .inr (special_prn h2 q)
      · rcases List.mem_cons.mp q with q | q
        · exact .inl q
        · rw [List.mem_singleton] at q
          subst q
          exact .inr (by unfold Prn; omega)
  · rw [List.mem_singleton] at q
    subst q
    exact .inr (letters_prn _ o1)
section
variable {P : Program} {w : World} {K : PySem.W.Frag} {mg : Str → Option Value} {base : Heap} {f : Addr} {fd : FuncData} {A : Ad}
abbrev spLive (K : PySem.W.Frag) (A : Ad) : Sp := spT K (T := Dia × Sta) (fun i => [encD A i.1, encS i.2]) (fun i => Gd i.1 i.2) (fun _ d => d = .bl true)
theorem ok_is_live (F : FnP K "is_live" "is_live" s_is_live f fd) (T : Tx K mg A) : FnOk P w K mg base CX0 1 f fd ["dialect", "state"] (spLive K A) := by
  refine fn_ok F sc_is_live (fun _ => rfl) fun ⟨D, s⟩ cdv A' outer sh H0 E B0 D' hr hp hn hQ => ?_
  have hp : Gd D s := hp
  refine go_asg (ev_v 1 rfl) (tgt_tup rfl (tgts_cons (tgt_name (i := 2) sc_is_live.nd rfl (.inl rfl)) (tgts_cons (tgt_name (i := 3) sc_is_live.nd rfl (.inl rfl)) tgts_nil))) ?_
  have fin : ∀ q, quo s = sg q → q ∉ D.frees → ∀ t u : Bool, (t || (u || !decide (q ∈ D.frees))) = true := fun q _ h t u => by simp [h]
  have key : ∀ q, s = .within q ∨ s = .freedq q → q ∉ D.frees := fun q h => by
    rcases h with rfl | rfl
    · exact hp.2
    · exact hp.2
  have one : ∀ q, quo s = sg q → q ∉ D.frees → Go (cxOf CX0 P w K mg base ["dialect", "state", "word", "quote"] "is_live" (defScope s_is_live) f cdv A' outer sh H0 E).nox B0 H0 [some (encD A D), some (encS s), some (.str (wrd s)), some (.str (quo s))] [] ((defBody s_is_live).drop 1) D' := fun q hq hf => by
    rw [hq]
    refine go_ret (ev_or (ev_cmp (ev_v 3 rfl) ev_str (by walk_at "bd") (nomark _)) fun h => (ev_or (ev_cmp (ev_v 2 rfl) ev_str (by walk_at "bd") (nomark _)) fun h => (ev_one (ev_cmp (ev_v 3 rfl) (ev_fldI (i := 2) (ev_v 0 rfl) T.k_dia T.d_frees dnd rfl rfl) (by walk_at "bd") rfl)))) hQ ?_
    show Dt.bl (_ || (_ || !decide (q ∈ D.frees))) = .bl true
    rw [fin q hq hf]
  cases s with
  | within q => exact one q rfl (key q (.inl rfl))
  | freedq q => exact one q rfl (key q (.inr rfl))
  | doubt q => exact one q rfl hp.2
  | _ => exact go_ret (ev_or (t := true) (u := true) (EV.to (ev_cmp (ev_v 3 rfl) ev_str (by walk_at "bd") (nomark _)) (by show Dt.bl _ = _; congr 1)) fun h => nomatch h) hQ rfl
theorem gd_ok {D : Dia} (h : Ok D) {s : Sta} (g : Gd D s) : StOk s := by
  have pq : ∀ q, q ∈ D.quotes → q < 0x110000 := fun q hq => by
    have := (h.qp q hq).2.1
    omega
  cases s with
  | within q => exact pq q g.1
  | doubt q => exact pq q g.1
  | freedq q => exact pq q g.1
  | _ => trivial
abbrev spEnding (K : PySem.W.Frag) (A : Ad) : Sp := spT K (T := Dia × Sta) (fun i => [encD A i.1, encS i.2]) (fun i => Ok i.1 ∧ Gd i.1 i.2) (fun i d => d = .str (S (ending i.1 i.2)))
theorem ok_ending (F : FnP K "ending" "ending" s_ending f fd) (T : Tx K mg A) (F_live : Cal P w K mg base 1 "is_live" ["dialect", "state"] (spLive K A)) (F_oth : Cal P w K mg base 1 "others" ["some", "many"] (spOth K)) (F_sp : CalM P w K mg base 1 A.dia "special" ["self"] (spSpecial K A)) :
    FnOk P w K mg base CX0 2 f fd ["dialect", "state"] (spEnding K A) := by
  refine fn_ok F sc_ending (fun _ => rfl) fun ⟨D, s⟩ cdv A' outer sh H0 E B0 D' hr hp hn hQ => ?_
  obtain ⟨ok, hp⟩ := hp
  have ok : Ok D := ok
  have hp : Gd D s := hp
  have r1 : Room 1 _ := hr.mono (by decide)
  have l62 : (special D).length < 62 := by have := special_len ok; omega
  refine go_asg (ev_v 1 rfl) (tgt_tup rfl (tgts_cons (tgt_name (i := 2) sc_ending.nd rfl (.inl rfl)) (tgts_cons (tgt_name (i := 3) sc_ending.nd rfl (.inl rfl)) tgts_nil))) ?_
  refine go_if0 (et_not (et_val (ev_call F_live r1 (evs_cons (ev_v 0 rfl) (evs_cons (ev_v 1 rfl) evs_nil)) (D, s) rfl rfl hp rfl))) (fun h => nomatch h) (fun _ => ?_)
  refine go_if0 (et_cmp (ev_v 1 rfl) (ev_gl T.cSTART rfl) (b_eqT hr.units ed_sta (by decide) (gd_ok ok hp) trivial) (nomark _)) (fun h => ?_) (fun h => ?_)
  · have h := of_decide_eq_true h
    subst h
    exact go_ret ev_str hQ rfl
  have h0 := of_decide_eq_false h
  refine go_if0 (et_cmp (ev_v 2 rfl) ev_str (by walk_at "bd") (nomark _)) (fun h => ?_) (fun h1 => ?_)
  · have h : ((wrd s == ("within" : Str)) : Bool) = true := h
    rw [wrd_within] at h
    cases s with
    | within q => exact go_ret (ev_addS (l := [q]) (m := [10]) (ev_v 3 rfl) (EV.to (ev_gl T.cLINE rfl) (by rw [str_line])) (sl_small (by show 2 ≤ _; decide))) hQ rfl
    | _ => cases h
  have h1 : ((wrd s == ("within" : Str)) : Bool) = false := h1
  rw [wrd_within] at h1
  refine go_if0 (et_cmp (ev_v 2 rfl) ev_str (by walk_at "bd") (nomark _)) (fun h => ?_) (fun h2 => ?_)
  · have h : ((wrd s == ("freed" : Str)) : Bool) = true := h
    rw [wrd_freed] at h
    cases s with
    | freed => exact go_ret (ev_addS (l := [oth (special D)]) (m := [10]) (EV.to (ev_addS (l := [oth (special D)]) (m := []) (ev_call F_oth r1 (evs_cons (ev_meth0 F_sp r1 (ev_v 0 rfl) T.k_dia (by decide +kernel) D rfl rfl ok) (evs_cons ev_int evs_nil)) (special D) rfl rfl l62 rfl) (EV.to (ev_v 3 rfl) (by show Dt.str "" = _; rw [str_nil])) (sl_small (by show 1 ≤ _; decide))) rfl) (EV.to (ev_gl T.cLINE rfl) (by rw [str_line])) (sl_small (by show 2 ≤ _; decide))) hQ rfl
    | freedq q => exact go_ret (ev_addS (l := [oth (special D), q]) (m := [10]) (EV.to (ev_addS (l := [oth (special D)]) (m := [q]) (ev_call F_oth r1 (evs_cons (ev_meth0 F_sp r1 (ev_v 0 rfl) T.k_dia (by decide +kernel) D rfl rfl ok) (evs_cons ev_int evs_nil)) (special D) rfl rfl l62 rfl) (ev_v 3 rfl) (sl_small (by show 2 ≤ _; decide))) rfl) (EV.to (ev_gl T.cLINE rfl) (by rw [str_line])) (sl_small (by show 3 ≤ _; decide))) hQ rfl
    | _ => cases h
  have h2 : ((wrd s == ("freed" : Str)) : Bool) = false := h2
  rw [wrd_freed] at h2
  refine go_ret (ev_gl T.cLINE rfl) hQ ?_
  show Dt.str "\n" = .str (S (ending D s))
  rw [str_line]
  cases s with
  | row => exact absurd rfl h0
  | within q => exact absurd (show true = false from h1) (by decide)
  | freed => exact absurd (show true = false from h2) (by decide)
  | freedq q => exact absurd (show true = false from h2) (by decide)
  | _ => rfl
abbrev spSignsFor (K : PySem.W.Frag) (A : Ad) : Sp := spT K (T := Dia × Dia) (fun i => [.lst [encD A i.1, encD A i.2]]) (fun i => Ok i.1 ∧ Ok i.2) (fun i d => d = .str (S (sgf i.1 i.2)))
theorem ok_signs_for (F : FnP K "signs_for" "signs_for" s_signs_for f fd) (T : Tx K mg A) (F_oth : Cal P w K mg base 1 "others" ["some", "many"] (spOth K)) (F_sp : CalM P w K mg base 1 A.dia "special" ["self"] (spSpecial K A)) :
    FnOk P w K mg base CX0 2 f fd ["dialects"] (spSignsFor K A) := by
  refine fn_ok F sc_signs_for (fun _ => rfl) fun ⟨D1, D2⟩ cdv A' outer sh H0 E B0 D' hr hp hn hQ => ?_
  obtain ⟨ok1, ok2⟩ := hp
  have ok1 : Ok D1 := ok1
  have ok2 : Ok D2 := ok2
  have r1 : Room 1 _ := hr.mono (by decide)
  have len := sgf_pre ok1 ok2
  have okm : ∀ D ∈ [D1, D2], Ok D := fun D hD => by
    rcases List.mem_cons.mp hD with rfl | hD
    · exact ok1
    · rw [List.mem_singleton] at hD; subst hD; exact ok2
  refine go_set (i := 1) ev_str ?_ sc_signs_for.nd rfl (.inl rfl)
  refine go_for PassesOwn.never rfl (ds := [special D1, special D2, [10, 32]].map fun l => .str (S l)) (pit_list (EV.to (ev_bin (ev_lcm (xs := [D1, D2]) (enc := encD A) (g := fun D => .str (S (special D))) (i := 4) rfl sc_signs_for.nd (pit_list (ds := [encD A D1, encD A D2]) (ev_v 0 rfl)) (blkOk_by rfl) (fun _ _ _ _ _ => pg_name (i := 4) sc_signs_for.nd rfl (.inl rfl)) (by show 4 < 5; decide)
    (fun D hD _ _ _ _ _ => (ev_meth0 F_sp r1 (ev_v 4 rfl) T.k_dia (by decide +kernel) D rfl rfl (okm D hD))) (sl_small (by show 2 ≤ _; decide))) (ev_lst (evs_cons (ev_addS (l := [10]) (m := [32]) (EV.to (ev_gl T.cLINE rfl) (by rw [str_line])) (EV.to (ev_gl T.cBLANK_pairs rfl) (by rw [str_blank])) (sl_small (by show 2 ≤ _; decide))) evs_nil)) (b_catL (sl_small (by show 3 ≤ _; decide)))) rfl))
    (fun j G O => O = [] ∧ ∃ x y, G = [some (.lst [encD A D1, encD A D2]), some (.str (S (dd ([special D1, special D2, [10, 32]].take j).flatten []))), x, y, none]) ⟨rfl, none, none, ?_⟩ (fun B1 u j d G1 O1 hd w => ?_) (fun G1 O1 w => ?_)
  · rw [List.take_zero]; rfl
  · obtain ⟨rfl, x, y, rfl⟩ := w
    obtain ⟨l, hl, rfl⟩ := map_get hd
    refine ⟨_, (tgt_name (i := 2) sc_signs_for.nd rfl (.inl rfl)), ?_⟩
    have sub : ([special D1, special D2, [10, 32]].take (j + 1)).flatten = ([special D1, special D2, [10, 32]].take j).flatten ++ l := by
      rw [take_snoc hl, List.flatten_append]; simp
    have tot : ∀ m, (([special D1, special D2, [10, 32]].take j).flatten ++ l.take m).length ≤ 16 := fun m => by
      have e1 : ([special D1, special D2, [10, 32]]).flatten = special D1 ++ special D2 ++ [10, 32] := by simp
      have e2 : ([special D1, special D2, [10, 32]]).flatten = ([special D1, special D2, [10, 32]].take (j + 1)).flatten ++ ([special D1, special D2, [10, 32]].drop (j + 1)).flatten := by
        rw [← List.flatten_append, List.take_append_drop]
      rw [e1, sub] at e2
      rw [e2] at len
      simp only [List.length_append, List.length_take] at len ⊢
      omega
    generalize hp0 : ([special D1, special D2, [10, 32]].take j).flatten = pre at sub tot
    refine go_for PassesOwn.never rfl (pit_str (z := S l) (ev_v 2 rfl)) (fun m G O => O = [] ∧ ∃ y, G = [some (.lst [encD A D1, encD A D2]), some (.str (S (dd (pre ++ l.take m) []))), some (.str (S l)), y, none]) ⟨rfl, y, ?_⟩ (fun B2 u2 m d G1 O1 hd w => ?_) (fun G1 O1 w => ?_)
    · rw [List.take_zero, List.append_nil]; rfl
    · obtain ⟨rfl, y, rfl⟩ := w
      obtain ⟨c, hc, rfl⟩ := signs_get hd
      have hc : l[m]? = some c := hc
      refine ⟨_, (tgt_name (i := 3) sc_signs_for.nd rfl (.inl rfl)), ?_⟩
      have gl : (dd (pre ++ l.take m) []).length ≤ 16 := by
        have := dd_le (pre ++ l.take m) []
        have := tot m
        rw [List.length_nil] at *
        omega
      have nx : dd (pre ++ l.take (m + 1)) [] = if c ∈ dd (pre ++ l.take m) [] then dd (pre ++ l.take m) [] else dd (pre ++ l.take m) [] ++ [c] := by
        rw [take_snoc hc, ← List.append_assoc]
        unfold dd
        rw [List.foldl_append]; rfl
      generalize dd (pre ++ l.take m) [] = g at gl nx
      refine go_if0 (et_cmp (ev_v 3 rfl) (ev_v 1 rfl) (by walk_at "bd") rfl) (fun h => ?_) (fun h => ?_)
      · have h : c ∉ g := by
          have h : (!decide (c ∈ g)) = true := h
          simpa using h
        refine go_set (i := 1) (ev_addS (m := [c]) (ev_v 1 rfl) (ev_v 3 rfl) (sl_small (by rw [List.length_singleton]; omega))) ?_ sc_signs_for.nd rfl (.inl rfl)
        refine go_done (go_nilW ⟨rfl, some (.str (sg c)), ?_⟩ rfl) rfl
        rw [nx, if_neg h]; rfl
      · have h : c ∈ g := by
          have h : (!decide (c ∈ g)) = false := h
          simpa using h
        refine go_nilW ⟨rfl, some (.str (sg c)), ?_⟩ rfl
        rw [nx, if_pos h]; rfl
    · obtain ⟨rfl, y, rfl⟩ := w
      refine go_nilW ⟨rfl, some (.str (S l)), y, ?_⟩ rfl
      rw [List.take_of_length_le (by rw [signs_len]; exact Nat.le_refl _), sub]
  · obtain ⟨rfl, x, y, rfl⟩ := w
    have e : (([special D1, special D2, [10, 32]]).take ([special D1, special D2, [10, 32]].map fun l => Dt.str (S l)).length).flatten = special D1 ++ special D2 ++ [10, 32] := by simp
    rw [e]
    have l62 : (dd (special D1 ++ special D2 ++ [10, 32]) []).length < 62 := by
      have := dd_le (special D1 ++ special D2 ++ [10, 32]) []
      rw [List.length_nil] at *
      omega
    exact go_ret (ev_addS (ev_v 1 rfl) (ev_call F_oth r1 (evs_cons (ev_v 1 rfl) (evs_cons ev_int evs_nil)) _ rfl rfl l62 rfl) (sl_small (by rw [List.length_singleton]; omega))) hQ rfl
end
end Dh
end SDhPairs2

section SDhPairs3
set_option Elab.async false
set_option linter.all false
set_option maxRecDepth 100000
set_option maxHeartbeats 4000000
local macro_rules | `(tactic| walk_at "bd") => `(tactic| first
  | exact Dh.b_in | exact Dh.b_notin | exact Dh.b_eqS | exact Dh.b_neS | exact Dh.b_isN | exact Dh.b_notN | exact Dh.b_add | exact Dh.b_sub | exact Dh.b_lt | exact Dh.b_le | exact Dh.b_gt | exact Dh.b_ge | exact Dh.b_eqI | exact Dh.b_neI | exact Dh.b_eqB | exact Dh.b_neB)
local macro_rules | `(tactic| walk_at "xd") => `(tactic| first | exact Dh.ix_t rfl | exact Dh.ix_l rfl)
namespace Dh
open PySem PySem.Spec PyProof.Rows L2

theorem kds_fault (k : Kd) : ((kds k == ("fault" : Str)) : Bool) = false := by cases k <;> (simp only [kds]; decide +kernel)
theorem kds_skip (k : Kd) : ((kds k == ("skip" : Str)) : Bool) = decide (k = .skip) := by cases k <;> (simp only [kds]; decide +kernel)
theorem kds_put (k : Kd) : ((kds k == ("put" : Str)) : Bool) = decide (k = .put) := by cases k <;> (simp only [kds]; decide +kernel)
theorem kds_end (k : Kd) : ((kds k == ("end" : Str)) : Bool) = decide (k = .fin) := by cases k <;> (simp only [kds]; decide +kernel)
theorem kds_part (k : Kd) : ((kds k == ("part" : Str)) : Bool) = decide (k = .part) := by cases k <;> (simp only [kds]; decide +kernel)
theorem kds_inj (k j : Kd) : ((kds k == kds j) : Bool) = decide (k = j) := by cases k <;> cases j <;> (simp only [kds]; decide +kernel)
def encM : Option (List Nat) → Dt
  | none => .non
  | some m => .str (S m)
section
variable {P : Program} {w : World} {K : PySem.W.Frag} {mg : Str → Option Value} {base : Heap} {f : Addr} {fd : FuncData} {A : Ad}
abbrev CTurn (P : Program) (w : World) (K : PySem.W.Frag) (mg : Str → Option Value) (base : Heap) (A : Ad) : Prop := CalC P w K mg base 1 "Turn" A.turn ["self", "dialect"] (spMk K A.turn tnames (T := Dt) (fun i => [i]) (fun _ => True) (fun i => [i]))
abbrev MTurn (P : Program) (w : World) (K : PySem.W.Frag) (mg : Str → Option Value) (base : Heap) (A : Ad) : Prop := CalM P w K mg base 4 A.turn "step" ["self", "state", "sign"] (spTurn K A)
abbrev spLed (K : PySem.W.Frag) (A : Ad) : Sp := spT K (T := Dia × Sta × Nat) (fun i => [encD A i.1, encS i.2.1, .str (sg i.2.2)]) (fun i => Gd i.1 i.2.1) (fun i d => d = encL (led i.1 i.2.1 i.2.2))
theorem ok_led (F : FnP K "led" "led" s_led f fd) (T : Tx K mg A) (F_live : Cal P w K mg base 1 "is_live" ["dialect", "state"] (spLive K A)) (C_turn : CTurn P w K mg base A) (F_step : MTurn P w K mg base A) : FnOk P w K mg base CX0 5 f fd ["dialect", "state", "sign"] (spLed K A) := by
  refine fn_ok F sc_led (fun _ => rfl) fun ⟨D, s, c⟩ cdv A' outer sh H0 E B0 D' hr hp hn hQ => ?_
  have hp : Gd D s := hp
  have r1 : Room 1 _ := hr.mono (by decide)
  have r2 : Room 2 _ := hr.mono (by decide)
  have r4 : Room 4 _ := hr.mono (by decide)
  cases e : step D s c with
  | fault w =>
    refine go_asg (EV.to (ev_meth F_step r4 (ev_make C_turn r2 (evs_cons (ev_v 0 rfl) evs_nil) (encD A D) rfl rfl trivial rfl) T.k_turn (by decide +kernel) (evs_cons (ev_v 1 rfl) (evs_cons (ev_v 2 rfl) evs_nil)) (D, s, c) rfl rfl trivial) (by show encR (step D s c) = encR (.fault w); rw [e])) (tgt_tup rfl (tgts_cons (tgt_name (i := 3) sc_led.nd rfl (.inl rfl)) (tgts_cons (tgt_name (i := 4) sc_led.nd rfl (.inl rfl)) tgts_nil))) ?_
    refine go_ifT (EW.pt (ew_or (t := true) (u := true) (ET.to (et_cmp (ev_v 3 rfl) ev_str (by walk_at "bd") (nomark _)) (by decide +kernel)) fun h => nomatch h)) rfl ?_
    refine go_ret ev_non hQ ?_
    show Dt.non = encL (led D s c)
    rw [led_fault e]; rfl
  | go k s' =>
    have g' : Gd D s' := step_good hp e
    refine go_asg (EV.to (ev_meth F_step r4 (ev_make C_turn r2 (evs_cons (ev_v 0 rfl) evs_nil) (encD A D) rfl rfl trivial rfl) T.k_turn (by decide +kernel) (evs_cons (ev_v 1 rfl) (evs_cons (ev_v 2 rfl) evs_nil)) (D, s, c) rfl rfl trivial) (by show encR (step D s c) = encR (.go k s'); rw [e])) (tgt_tup rfl (tgts_cons (tgt_name (i := 3) sc_led.nd rfl (.inl rfl)) (tgts_cons (tgt_name (i := 4) sc_led.nd rfl (.inl rfl)) tgts_nil))) ?_
    refine go_ifN (EW.pt (ew_or (t := false) (ET.to (et_cmp (ev_v 3 rfl) ev_str (by walk_at "bd") (nomark _)) (kds_fault k)) fun h => (ew_or1 (et_not (et_val (ev_call F_live r1 (evs_cons (ev_v 0 rfl) (evs_cons (ev_v 4 rfl) evs_nil)) (D, s') rfl rfl g' rfl)))))) rfl ?_
    refine go_ret (ev_tup (evs_cons (ev_v 3 rfl) (evs_cons (ev_v 4 rfl) evs_nil))) hQ ?_
    show _ = encL (led D s c)
    rw [led_go e]; rfl
abbrev LGd (D : Dia) (o : Option (Kd × Sta)) : Prop := ∀ p, o = some p → Gd D p.2
abbrev LQ := Dia × Dia × Option (Kd × Sta) × Option (Kd × Sta)
abbrev spPart (K : PySem.W.Frag) (A : Ad) : Sp := spT K (T := LQ) (fun i => [encD A i.1, encD A i.2.1, encL i.2.2.1, encL i.2.2.2]) (fun i => Ok i.1 ∧ Ok i.2.1 ∧ LGd i.1 i.2.2.1 ∧ LGd i.2.1 i.2.2.2 ∧ ¬ (i.2.2.1 = none ∧ i.2.2.2 = none)) (fun i d => d = encM (partingL i.1 i.2.1 i.2.2.1 i.2.2.2))
theorem ok_parting_p (F : FnP K "parting" "parting" s_parting_p f fd) (T : Tx K mg A) (F_end : Cal P w K mg base 2 "ending" ["dialect", "state"] (spEnding K A)) : FnOk P w K mg base CX0 3 f fd ["one", "other", "here", "there"] (spPart K A) := by
  refine fn_ok F sc_parting_p (fun _ => rfl) fun ⟨D1, D2, h, k⟩ cdv A' outer sh H0 E B0 D' hr hp hn hQ => ?_
  obtain ⟨ok1, ok2, g1, g2, nn⟩ := hp
  have ok1 : Ok D1 := ok1
  have ok2 : Ok D2 := ok2
  have g1 : LGd D1 h := g1
  have g2 : LGd D2 k := g2
  have nn : ¬ (h = none ∧ k = none) := nn
  have r2 : Room 2 _ := hr.mono (by decide)
  cases k with
  | none =>
    cases h with
    | none => exact absurd ⟨rfl, rfl⟩ nn
    | some h =>
      refine go_ifT (et_cmp (ev_v 3 rfl) ev_non (by walk_at "bd") (nomark _)) rfl ?_
      exact go_ret (ev_call F_end r2 (evs_cons (ev_v 0 rfl) (evs_cons (ev_ix (ev_v 2 rfl) ev_int (by walk_at "xd") (fun _ _ => rfl)) evs_nil)) (D1, h.2) rfl rfl ⟨ok1, g1 h rfl⟩ rfl) hQ rfl
  | some k =>
    refine go_ifN (et_cmp (ev_v 3 rfl) ev_non (by walk_at "bd") (nomark _)) rfl ?_
    cases h with
    | none =>
      refine go_ifT (et_cmp (ev_v 2 rfl) ev_non (by walk_at "bd") (nomark _)) rfl ?_
      exact go_ret (ev_call F_end r2 (evs_cons (ev_v 1 rfl) (evs_cons (ev_ix (ev_v 3 rfl) ev_int (by walk_at "xd") (fun _ _ => rfl)) evs_nil)) (D2, k.2) rfl rfl ⟨ok2, g2 k rfl⟩ rfl) hQ rfl
    | some h =>
      refine go_ifN (et_cmp (ev_v 2 rfl) ev_non (by walk_at "bd") (nomark _)) rfl ?_
      have b1 : (ending D1 h.2).length ≤ 3 := (ending_signs ok1 (g1 h rfl)).2
      have b2 : (ending D2 k.2).length ≤ 3 := (ending_signs ok2 (g2 k rfl)).2
      have z1 : (S (ending D1 h.2)).length ≤ sizeLine := by rw [S_len]; exact sl_small (by omega)
      have z2 : (S (ending D2 k.2)).length ≤ sizeLine := by rw [S_len]; exact sl_small (by omega)
      refine go_set (i := 4) (ev_call F_end r2 (evs_cons (ev_v 0 rfl) (evs_cons (ev_ix (ev_v 2 rfl) ev_int (by walk_at "xd") (fun _ _ => rfl)) evs_nil)) (D1, h.2) rfl rfl ⟨ok1, g1 h rfl⟩ rfl) ?_ sc_parting_p.nd rfl (.inl rfl)
      refine go_set (i := 5) (ev_call F_end r2 (evs_cons (ev_v 1 rfl) (evs_cons (ev_ix (ev_v 3 rfl) ev_int (by walk_at "xd") (fun _ _ => rfl)) evs_nil)) (D2, k.2) rfl rfl ⟨ok2, g2 k rfl⟩ rfl) ?_ sc_parting_p.nd rfl (.inl rfl)
      have lenI : ∀ l m : List Nat, decide (((S l).length : Int) = (S m).length) = decide (l.length = m.length) := fun l m => by
        rw [S_len, S_len]; exact decide_eq_decide.mpr Int.ofNat_inj
      have ltI : ∀ l m : List Nat, decide (((S l).length : Int) < (S m).length) = decide (l.length < m.length) := fun l m => by
        rw [S_len, S_len]; exact decide_eq_decide.mpr Int.ofNat_lt
      refine go_if0 (et_cmp (ev_callB (c_lenS z1) rfl T.b_len boot_len (evs_cons (ev_v 4 rfl) evs_nil)) (ev_callB (c_lenS z2) rfl T.b_len boot_len (evs_cons (ev_v 5 rfl) evs_nil)) (by walk_at "bd") (nomark _)) (fun hh => ?_) (fun hh => ?_)
      · have hh : (ending D1 h.2).length ≠ (ending D2 k.2).length := by
          rw [lenI] at hh; simpa using hh
        refine go_ret (d := if (ending D2 k.2).length < (ending D1 h.2).length then .str (S (ending D2 k.2)) else .str (S (ending D1 h.2))) (ev_ix (ev_lst (evs_cons (ev_v 4 rfl) (evs_cons (ev_v 5 rfl) evs_nil))) (ev_callTy c_intB rfl T.b_int boot_int (evs_cons (ev_cmp (ev_callB (c_lenS z2) rfl T.b_len boot_len (evs_cons (ev_v 5 rfl) evs_nil)) (ev_callB (c_lenS z1) rfl T.b_len boot_len (evs_cons (ev_v 4 rfl) evs_nil)) (by walk_at "bd") (nomark _)) evs_nil)) (ix_l ?_) (fun _ _ => rfl)) hQ ?_
        · rw [ltI]
          by_cases q : (ending D2 k.2).length < (ending D1 h.2).length
          · rw [decide_eq_true q, if_pos q]; rfl
          · rw [decide_eq_false q, if_neg q]; rfl
        · show _ = encM (if (ending D1 h.2).length ≠ (ending D2 k.2).length then _ else _)
          rw [if_pos hh]
          split <;> rfl
      · have hh : ¬ (ending D1 h.2).length ≠ (ending D2 k.2).length := by
          rw [lenI] at hh; simpa using hh
        refine go_if0 (et_cmp (ev_ix (ev_v 2 rfl) ev_int (by walk_at "xd") (fun _ _ => rfl)) (ev_ix (ev_v 3 rfl) ev_int (by walk_at "xd") (fun _ _ => rfl)) (by walk_at "bd") (nomark _)) (fun e => ?_) (fun e => ?_)
        · rw [kds_inj] at e
          refine go_ret ev_non hQ ?_
          show _ = encM (if (ending D1 h.2).length ≠ (ending D2 k.2).length then _ else if h.1 = k.1 then _ else _)
          rw [if_neg hh, if_pos (of_decide_eq_true e)]; rfl
        · rw [kds_inj] at e
          have e := of_decide_eq_false e
          refine go_if0 (et_cmp (ev_ix (ev_v 2 rfl) ev_int (by walk_at "xd") (fun _ _ => rfl)) ev_str (by walk_at "bd") (nomark _)) (fun e2 => ?_) (fun e2 => ?_)
          · rw [kds_skip] at e2
            refine go_ret (ev_v 4 rfl) hQ ?_
            show _ = encM (if (ending D1 h.2).length ≠ (ending D2 k.2).length then _ else if h.1 = k.1 then _ else if h.1 = .skip then _ else _)
            rw [if_neg hh, if_neg e, if_pos (of_decide_eq_true e2)]; rfl
          · rw [kds_skip] at e2
            refine go_ret (ev_v 5 rfl) hQ ?_
            show _ = encM (if (ending D1 h.2).length ≠ (ending D2 k.2).length then _ else if h.1 = k.1 then _ else if h.1 = .skip then _ else _)
            rw [if_neg hh, if_neg e, if_neg (of_decide_eq_false e2)]; rfl
end
end Dh
end SDhPairs3

section SDhCompare
set_option Elab.async false
set_option linter.all false
set_option maxRecDepth 100000
set_option maxHeartbeats 4000000
local macro_rules | `(tactic| walk_at "bd") => `(tactic| first
  | exact Dh.b_in | exact Dh.b_notin | exact Dh.b_eqS | exact Dh.b_neS | exact Dh.b_isN | exact Dh.b_notN | exact Dh.b_add | exact Dh.b_sub | exact Dh.b_lt | exact Dh.b_le | exact Dh.b_gt | exact Dh.b_ge | exact Dh.b_eqI | exact Dh.b_neI | exact Dh.b_eqB | exact Dh.b_neB)
local macro_rules | `(tactic| walk_at "xd") => `(tactic| first | exact Dh.ix_t rfl | exact Dh.ix_l rfl)
namespace Dh
open PySem PySem.Spec PyProof.Rows L2

theorem EW.to {X : Cx} {G : List (Option Dt)} {e : Expr} {t u : Bool} (h : EW X G e t) (x : t = u) : EW X G e u := x ▸ h
abbrev SP2 := Sta × Sta
def encPr (p : SP2) : Dt := .tup [encS p.1, encS p.2]
def keyP (p : SP2) : KyL := [[wrd p.1, quo p.1], [wrd p.2, quo p.2]]
theorem encPr_key (p : SP2) : encPr p = keyD (keyP p) := rfl
theorem encS_inj {a b : Sta} (h : encS a = encS b) : a = b := by
  have e := ed_sta.eq a b
  rw [← h, ed_sta.eq a a, decide_eq_true rfl] at e
  exact of_decide_eq_true e.symm
theorem keyP_inj {p q : SP2} (h : keyP p = keyP q) : p = q := by
  obtain ⟨a, b⟩ := p
  obtain ⟨c, d⟩ := q
  have h' : encPr (a, b) = encPr (c, d) := by rw [encPr_key, encPr_key, h]
  have e : [encS a, encS b] = [encS c, encS d] := by injection h'
  have e1 : encS a = encS c := (List.cons.inj e).1
  have e2 : encS b = encS d := (List.cons.inj (List.cons.inj e).2).1
  rw [encS_inj e1, encS_inj e2]
theorem look_at {α : Type} (f : α → KyL) (g : α → V) : ∀ {l : List α} {i : Nat} {p : α}, (l.map f).Nodup → l[i]? = some p → (l.map fun p => (f p, g p)).lookup (f p) = some (g p)
  | [], i, p, _, h => by simp at h
  | x :: l, 0, p, nd, h => by
    simp only [List.getElem?_cons_zero, Option.some.injEq] at h
    subst h
    rw [List.map_cons, List.lookup_cons]
    simp
  | x :: l, i + 1, p, nd, h => by
    simp only [List.getElem?_cons_succ] at h
    rw [List.map_cons, List.nodup_cons] at nd
    rw [List.map_cons, List.lookup_cons]
    have : (f p == f x) = false := beq_eq_false_iff_ne.mpr fun z => nd.1 (z ▸ List.mem_map.mpr ⟨p, List.mem_of_getElem? h, rfl⟩)
    rw [this]
    exact look_at f g nd.2 h
theorem keys_nodup {ps : List SP2} (h : ps.Nodup) : (ps.map keyP).Nodup := List.pairwise_map.mpr (h.imp fun ne e => ne (keyP_inj e))
theorem keys_mem {ps : List SP2} {p : SP2} : keyP p ∈ ps.map keyP ↔ p ∈ ps := by
  constructor
  · intro h
    obtain ⟨q, hq, e⟩ := List.mem_map.mp h
    rw [← keyP_inj e]
    exact hq
  · exact fun h => List.mem_map.mpr ⟨p, h, rfl⟩
theorem atI_nat' {α : Type} {l : List α} {n : Nat} (h : n < l.length) : atI l (n : Int) = l[n]? := by
  rw [List.getElem?_eq_getElem h]
  exact atI_nat (List.getElem?_eq_getElem h)
/-! compare's step, read -/
section
variable {D1 D2 : Dia} {p : PrT} {st : CS} {c : Nat}
theorem cstep_nn (h1 : led D1 p.1.1 c = none) (h2 : led D2 p.1.2 c = none) : cstep D1 D2 p st c = st := by unfold cstep; rw [h1, h2]
theorem cstep_m {m : List Nat} (nn : ¬ (led D1 p.1.1 c = none ∧ led D2 p.1.2 c = none)) (e : partingL D1 D2 (led D1 p.1.1 c) (led D2 p.1.2 c) = some m) : cstep D1 D2 p st c = if better st.best (p.2 ++ [c] ++ m) = true then ⟨st.ps, some (p.2 ++ [c] ++ m)⟩ else st := by
  unfold cstep
  cases h1 : led D1 p.1.1 c <;> cases h2 : led D2 p.1.2 c <;> rw [h1, h2] at e nn
  · exact absurd ⟨rfl, rfl⟩ nn
  · simp only [e]
  · simp only [e]
  · simp only [e]
theorem cstep_0 {k : Kd} {a b : Sta} (h1 : led D1 p.1.1 c = some (k, a)) (h2 : led D2 p.1.2 c = some (k, b)) (e : partingL D1 D2 (led D1 p.1.1 c) (led D2 p.1.2 c) = none) : cstep D1 D2 p st c = if (a, b) ∈ st.ps.map (·.1) then st else ⟨st.ps ++ [((a, b), p.2 ++ [c])], st.best⟩ := by
  unfold cstep
  rw [h1, h2] at e ⊢
  simp only [e]
end
theorem encL_non {o : Option (Kd × Sta)} (h : isNon (encL o) = true) : o = none := by
  cases o with
  | none => rfl
  | some p => cases h
abbrev dsP (ps : List PrT) : List Dt := ps.map fun p => encPr p.1
abbrev kvP (ps : List PrT) : List (KyL × V) := ps.map fun p => (keyP p.1, V.str (S p.2))
section
variable {P : Program} {w : World} {K : PySem.W.Frag} {mg : Str → Option Value} {base : Heap} {f : Addr} {fd : FuncData} {A : Ad}
def resCmp (D1 D2 : Dia) (d : Dt) : Prop := ∃ r, CmpR D1 D2 r ∧ match r with
  | none => ∃ v, d = .tup [.str "alike", .raw v]
  | some m => d = .tup [.str "parted", .str (S m)]
abbrev spCompare (K : PySem.W.Frag) (A : Ad) : Sp := spT K (T := Dia × Dia) (fun i => [encD A i.1, encD A i.2]) (fun i => Ok i.1 ∧ Ok i.2) (fun i d => resCmp i.1 i.2 d)
/-- the slots -/
abbrev gC (A : Ad) (D1 D2 : Dia) (q2 q3 : Addr) (st : CS) (n : Nat) (r : List (Option Dt)) : List (Option Dt) := [some (encD A D1), some (encD A D2), some (.raw (.ref q2)), some (.raw (.ref q3)), some (encM st.best), some (.int (n : Nat))] ++ r
abbrev oC (P : Program) (w : World) (q2 q3 : Addr) (st : CS) : List (Addr × Ob) := [(q3, .lst (dsP st.ps)), (q2, .dic P w (kvP st.ps))]
theorem ok_compare (F : FnP K "compare" "compare" s_compare f fd) (T : Tx K mg A) (F_signs : Cal P w K mg base 2 "signs_for" ["dialects"] (spSignsFor K A)) (F_led : Cal P w K mg base 5 "led" ["dialect", "state", "sign"] (spLed K A)) (F_part : Cal P w K mg base 3 "parting_parted" ["one", "other", "here", "there"] (spPart K A)) :
    FnOk P w K mg base CX0 6 f fd ["one", "other"] (spCompare K A) := by
  refine fn_ok F sc_compare (fun _ => rfl) fun ⟨D1, D2⟩ cdv A' outer sh H0 E B0 D' hr hp hn hQ => ?_
  obtain ⟨ok1, ok2⟩ := hp
  have ok1 : Ok D1 := ok1
  have ok2 : Ok D2 := ok2
  have r2 : Room 2 _ := hr.mono (by decide)
  have r3 : Room 3 _ := hr.mono (by decide)
  have r5 : Room 5 _ := hr.mono (by decide)
  have hu := hr.units
  have cov := sgf_cover ok1 ok2
  refine go_newDic (i := 2) (k := keyP (.row, .row)) (v := .str "") hu (ev_tup (evs_cons (ev_gl T.cSTART rfl) (evs_cons (ev_gl T.cSTART rfl) evs_nil))) ev_str (fun _ _ h => h) (fun q2 => ?_) sc_compare.nd rfl (.inl rfl)
  refine go_new (i := 3) (evs_cons (ev_tup (evs_cons (ev_gl T.cSTART rfl) (evs_cons (ev_gl T.cSTART rfl) evs_nil))) evs_nil) (fun q3 => ?_) sc_compare.nd rfl (.inl rfl)
  refine go_set (i := 4) ev_non ?_ sc_compare.nd rfl (.inl rfl)
  refine go_set (i := 5) ev_int ?_ sc_compare.nd rfl (.inl rfl)
  refine go_whileV PassesOwn.never (m0 := 121) (fun m G O => ∃ st n r, CInv D1 D2 st ∧ (∀ i p, st.ps[i]? = some p → i < n → ∀ c ∈ sgf D1 D2, Clo D1 D2 st p c) ∧ m = 121 - n ∧ n ≤ st.ps.length ∧ r.length = 6 ∧ G = gC A D1 D2 q2 q3 st n r ∧ O = oC P w q2 q3 st)
    ⟨⟨[((.row, .row), [])], none⟩, 0, [none, none, none, none, none, none], cinv0, fun i p _ hi => absurd hi (Nat.not_lt_zero _), rfl, Nat.zero_le _, rfl, rfl, by show _ = [_, (q2, Ob.dic P w [(keyP (.row, .row), V.str (S []))])]; rw [← str_nil]; rfl⟩ (fun m G1 O1 W => ?_)
  obtain ⟨st, n, r, I, done, rfl, nle, hr6, rfl, rfl⟩ := W
  obtain ⟨x6, x7, x8, x9, x10, x11, rfl⟩ : ∃ x6 x7 x8 x9 x10 x11, r = [x6, x7, x8, x9, x10, x11] := by
    match r, hr6 with
    | [a, b, c, d, e, f], _ => exact ⟨a, b, c, d, e, f, rfl⟩
  have len := I.len ok1 ok2
  have psn : (st.ps.map (·.1)).Nodup := I.nd
  have exit : (st.best = none → st.ps.length ≤ n) → Go (cxOf CX0 P w K mg base ["one", "other", "texts", "pairs", "best", "at", "pair", "text", "sign", "here", "there", "more"] "compare" (defScope s_compare) f cdv A' outer sh H0 E).nox B0 H0 (gC A D1 D2 q2 q3 st n [x6, x7, x8, x9, x10, x11]) (oC P w q2 q3 st) ((defBody s_compare).drop 5) D' := fun hx => by
    cases e : st.best with
    | none =>
      have hG : encM st.best = .non := by rw [e]; rfl
      unfold gC
      rw [hG]
      refine go_ifT (et_cmp (ev_v 4 rfl) ev_non (by walk_at "bd") (nomark _)) rfl ?_
      refine go_ret (ev_tup (evs_cons ev_str (evs_cons (ev_v 3 rfl) evs_nil))) hQ ⟨none, calike cov I e (fun i p hp c hc => done i p hp ?_ c hc), _, rfl⟩
      have := (List.getElem?_eq_some_iff.mp hp).1
      have := hx e
      omega
    | some m =>
      have hG : encM st.best = .str (S m) := by rw [e]; rfl
      unfold gC
      rw [hG]
      refine go_ifN (et_cmp (ev_v 4 rfl) ev_non (by walk_at "bd") (nomark _)) rfl ?_
      exact go_ret (ev_tup (evs_cons ev_str (evs_cons (ev_v 4 rfl) evs_nil))) hQ ⟨some m, cbest I e, rfl⟩
  by_cases hlt : n < st.ps.length
  · have hp : st.ps[n]? = some st.ps[n] := List.getElem?_eq_getElem hlt
    generalize st.ps[n] = p at hp
    obtain ⟨_, pl2, psg, _⟩ := I.each n p hp
    obtain ⟨gd1, gd2⟩ := I.good hp
    have hl1 : ((n : Int) < ((dsP st.ps).length : Int)) := by rw [List.length_map]; omega
    have hix : atI (dsP st.ps) (n : Int) = some (encPr p.1) := by
      rw [atI_nat' (by rw [List.length_map]; exact hlt), List.getElem?_map, hp]; rfl
    have hlook : (kvP st.ps).lookup (keyP p.1) = some (V.str (S p.2)) := look_at (fun p : PrT => keyP p.1) (fun p : PrT => V.str (S p.2)) (by
      have := keys_nodup psn
      rw [List.map_map] at this
      exact this) hp
    have pz : (S p.2).length ≤ sizeLine := by rw [S_len]; exact sl_small (by omega)
    have body : Go (cxOf CX0 P w K mg base ["one", "other", "texts", "pairs", "best", "at", "pair", "text", "sign", "here", "there", "more"] "compare" (defScope s_compare) f cdv A' outer sh H0 E).nox B0 H0 (gC A D1 D2 q2 q3 st n [x6, x7, x8, x9, x10, x11]) (oC P w q2 q3 st) (match (defBody s_compare).drop 4 with | (.While _ b _ _) :: _ => b | _ => []) { D' with
        nx := InW K B0 H0 (fun G O => ∃ m', m' < 121 - n ∧ ∃ st n r, CInv D1 D2 st ∧ (∀ i p, st.ps[i]? = some p → i < n → ∀ c ∈ sgf D1 D2, Clo D1 D2 st p c) ∧ m' = 121 - n ∧ n ≤ st.ps.length ∧ r.length = 6 ∧ G = gC A D1 D2 q2 q3 st n r ∧ O = oC P w q2 q3 st),
        ct := InW K B0 H0 (fun G O => ∃ m', m' < 121 - n ∧ ∃ st n r, CInv D1 D2 st ∧ (∀ i p, st.ps[i]? = some p → i < n → ∀ c ∈ sgf D1 D2, Clo D1 D2 st p c) ∧ m' = 121 - n ∧ n ≤ st.ps.length ∧ r.length = 6 ∧ G = gC A D1 D2 q2 q3 st n r ∧ O = oC P w q2 q3 st),
        bk := fun s H => RunS (cxOf CX0 P w K mg base ["one", "other", "texts", "pairs", "best", "at", "pair", "text", "sign", "here", "there", "more"] "compare" (defScope s_compare) f cdv A' outer sh H0 E).nox ((defBody s_compare).drop 5) D' s H } := by
      refine go_setV (i := 6) (Vw.refl.set (j := 0) (i := 3) rfl rfl rfl) (ev_ix (ev_v 3 rfl) (ev_v 5 rfl) (ix_l hix) (fun _ _ => rfl)) rfl ?_ sc_compare.nd rfl (.inl rfl)
      refine go_setV (i := 7) (Vw.refl.set (j := 1) (i := 2) rfl rfl rfl) (ev_dix (k := keyP p.1) hu (ev_v 2 rfl) (ev_v 6 rfl) hlook (d := .str (S p.2)) (fun _ => rfl) (fun _ _ => rfl)) rfl ?_ sc_compare.nd rfl (.inl rfl)
      refine go_set (i := 5) (EV.to (ev_bin (ev_v 5 rfl) ev_int (by walk_at "bd")) (show Dt.int ((n : Int) + 1) = .int ((n + 1 : Nat) : Int) from congrArg Dt.int (by omega))) ?_ sc_compare.nd rfl (.inl rfl)
      refine go_for PassesOwn.never rfl (pit_str (z := S (sgf D1 D2)) (ev_call F_signs r2 (evs_cons (ev_lst (evs_cons (ev_v 0 rfl) (evs_cons (ev_v 1 rfl) evs_nil))) evs_nil) (D1, D2) rfl rfl ⟨ok1, ok2⟩ rfl))
        (fun j G O => ∃ y8 y9 y10 y11, G = gC A D1 D2 q2 q3 (((sgf D1 D2).take j).foldl (cstep D1 D2 p) st) (n + 1) [some (encPr p.1), some (.str (S p.2)), y8, y9, y10, y11] ∧ O = oC P w q2 q3 (((sgf D1 D2).take j).foldl (cstep D1 D2 p) st))
        ⟨x8, x9, x10, x11, by rw [List.take_zero]; rfl, by rw [List.take_zero]; rfl⟩ (fun B1 u j d G1 O1 hd w => ?_) (fun G1 O1 w => ?_)
      · obtain ⟨y8, y9, y10, y11, rfl, rfl⟩ := w
        obtain ⟨c, hc, rfl⟩ := signs_get hd
        have hc : (sgf D1 D2)[j]? = some c := hc
        have hsg : Sg c := cov.sg c (List.mem_of_getElem? hc)
        obtain ⟨Ij, _, lej⟩ := cfold_ok ok1 ok2 ((sgf D1 D2).take j) st I hp fun x hx => cov.sg x (List.mem_of_mem_take hx)
        have hpj := lej.at hp
        have nxt : ((sgf D1 D2).take (j + 1)).foldl (cstep D1 D2 p) st = cstep D1 D2 p (((sgf D1 D2).take j).foldl (cstep D1 D2 p) st) c := by
          rw [take_snoc hc, List.foldl_append]; rfl
        generalize hsj : ((sgf D1 D2).take j).foldl (cstep D1 D2 p) st = sj at nxt Ij hpj
        rw [nxt]
        clear hsj nxt lej
        refine ⟨_, (tgt_name (i := 8) sc_compare.nd rfl (.inl rfl)), ?_⟩
        refine go_set (i := 9) (ev_call F_led r5 (evs_cons (ev_v 0 rfl) (evs_cons (ev_ix (ev_v 6 rfl) ev_int (by walk_at "xd") (fun _ _ => rfl)) (evs_cons (ev_v 8 rfl) evs_nil))) (D1, p.1.1, c) rfl rfl gd1 rfl) ?_ sc_compare.nd rfl (.inl rfl)
        refine go_set (i := 10) (ev_call F_led r5 (evs_cons (ev_v 1 rfl) (evs_cons (ev_ix (ev_v 6 rfl) ev_int (by walk_at "xd") (fun _ _ => rfl)) (evs_cons (ev_v 8 rfl) evs_nil))) (D2, p.1.2, c) rfl rfl gd2 rfl) ?_ sc_compare.nd rfl (.inl rfl)
        refine go_if0 (EW.pt (ew_and (et_cmp (ev_v 9 rfl) ev_non (by walk_at "bd") (nomark _)) fun h => (ew_and1 (et_cmp (ev_v 10 rfl) ev_non (by walk_at "bd") (nomark _))))) (fun h => ?_) (fun h => ?_)
        · rw [Bool.and_eq_true] at h
          have h1 := encL_non h.1
          have h2 := encL_non h.2
          refine go_contW ⟨some (.str (sg c)), some (encL (led D1 p.1.1 c)), some (encL (led D2 p.1.2 c)), y11, ?_, ?_⟩ rfl
          · rw [cstep_nn h1 h2]; rfl
          · rw [cstep_nn h1 h2]
        · have nn : ¬ (led D1 p.1.1 c = none ∧ led D2 p.1.2 c = none) := by
            rintro ⟨h1, h2⟩
            have h : (isNon (encL (led D1 p.1.1 c)) && isNon (encL (led D2 p.1.2 c))) = false := h
            rw [h1, h2] at h
            cases h
          have lg1 : LGd D1 (led D1 p.1.1 c) := fun q hq => step_good gd1 (led_some (k := q.1) (s' := q.2) (by rw [hq]))
          have lg2 : LGd D2 (led D2 p.1.2 c) := fun q hq => step_good gd2 (led_some (k := q.1) (s' := q.2) (by rw [hq]))
          have z1 : p.2.length + [c].length ≤ sizeLine := sl_small (by rw [List.length_singleton]; omega)
          have ez : (S (p.2 ++ [c])).length ≤ sizeLine := by rw [S_len, List.length_append]; exact z1
          cases e : partingL D1 D2 (led D1 p.1.1 c) (led D2 p.1.2 c) with
          | some m =>
            have mle := (parting_signs ok1 ok2 gd1 gd2 e).2
            have z2 : (p.2 ++ [c]).length + m.length ≤ sizeLine := sl_small (by rw [List.length_append, List.length_singleton]; omega)
            have z3 : (S (p.2 ++ [c] ++ m)).length ≤ sizeLine := by rw [S_len, List.length_append]; exact z2
            refine go_set (i := 11) (EV.to (ev_call F_part r3 (evs_cons (ev_v 0 rfl) (evs_cons (ev_v 1 rfl) (evs_cons (ev_v 9 rfl) (evs_cons (ev_v 10 rfl) evs_nil)))) (D1, D2, led D1 p.1.1 c, led D2 p.1.2 c) rfl rfl ⟨ok1, ok2, lg1, lg2, nn⟩ rfl) (show encM (partingL D1 D2 (led D1 p.1.1 c) (led D2 p.1.2 c)) = .str (S m) by rw [e]; rfl)) ?_ sc_compare.nd rfl (.inl rfl)
            have tst : ET (cxOf CX0 P w K mg base ["one", "other", "texts", "pairs", "best", "at", "pair", "text", "sign", "here", "there", "more"] "compare" (defScope s_compare) f cdv A' outer sh H0 E).nox
                (gC A D1 D2 q2 q3 sj (n + 1) [some (encPr p.1), some (.str (S p.2)), some (.str (sg c)), some (encL (led D1 p.1.1 c)), some (encL (led D2 p.1.2 c)), some (.str (S m))])
                (match (match (match (defBody s_compare).drop 4 with | (.While _ b _ _) :: _ => b | _ => []).drop 3 with | (.For _ _ b _ _) :: _ => b | _ => []).drop 4 with | (.If c _ _ _) :: _ => c | _ => .Constant .none 0 default) (better sj.best (p.2 ++ [c] ++ m)) := by
              cases eb : sj.best with
              | none =>
                have hG : encM sj.best = .non := by rw [eb]; rfl
                unfold gC
                rw [hG]
                exact EW.pt (EW.to (ew_and (t := true) (u := true) (et_cmp (ev_v 11 rfl) ev_non (by walk_at "bd") (nomark _)) fun h => (ew_and1 (EW.pt (ew_or (t := true) (u := true) (et_cmp (ev_v 4 rfl) ev_non (by walk_at "bd") (nomark _)) fun h => nomatch h)))) rfl)
              | some b =>
                have hG : encM sj.best = .str (S b) := by rw [eb]; rfl
                have bz : (S b).length ≤ sizeLine := by rw [S_len]; exact sl_small (by have := (Ij.best b eb).2.1; omega)
                unfold gC
                rw [hG]
                refine EW.pt (EW.to (ew_and (t := true) (et_cmp (ev_v 11 rfl) ev_non (by walk_at "bd") (nomark _)) fun h => (ew_and1 (EW.pt (ew_or (t := false) (et_cmp (ev_v 4 rfl) ev_non (by walk_at "bd") (nomark _)) fun h => (ew_or1 (et_cmp (ev_callB (c_lenS z3) rfl T.b_len boot_len (evs_cons (ev_addS (ev_addS (m := [c]) (ev_v 7 rfl) (ev_v 8 rfl) z1) (ev_v 11 rfl) z2) evs_nil)) (ev_callB (c_lenS bz) rfl T.b_len boot_len (evs_cons (ev_v 4 rfl) evs_nil)) (by walk_at "bd") (nomark _))))))) ?_)
                show (true && (false || decide (((S (p.2 ++ [c] ++ m)).length : Int) < ((S b).length : Int)))) = decide ((p.2 ++ [c] ++ m).length < b.length)
                rw [S_len, S_len, Bool.true_and, Bool.false_or]
                exact decide_eq_decide.mpr Int.ofNat_lt
            refine go_if tst (fun h => ?_) (fun h => ?_)
            · refine go_set (i := 4) (ev_addS (ev_addS (m := [c]) (ev_v 7 rfl) (ev_v 8 rfl) z1) (ev_v 11 rfl) z2) ?_ sc_compare.nd rfl (.inl rfl)
              refine go_done (go_nilW ⟨some (.str (sg c)), some (encL (led D1 p.1.1 c)), some (encL (led D2 p.1.2 c)), some (.str (S m)), ?_, ?_⟩ rfl) rfl
              · rw [cstep_m nn e, if_pos h]; rfl
              · rw [cstep_m nn e, if_pos h]
            · refine go_ifN (EW.pt (ew_and (t := false) (u := false) (et_cmp (ev_v 11 rfl) ev_non (by walk_at "bd") (nomark _)) fun h => nomatch h)) rfl ?_
              refine go_done (go_nilW ⟨some (.str (sg c)), some (encL (led D1 p.1.1 c)), some (encL (led D2 p.1.2 c)), some (.str (S m)), ?_, ?_⟩ rfl) rfl
              · rw [cstep_m nn e, if_neg (by rw [h]; exact Bool.false_ne_true)]; rfl
              · rw [cstep_m nn e, if_neg (by rw [h]; exact Bool.false_ne_true)]
          | none =>
            obtain ⟨k, s1, s2, e1, e2, _⟩ := parting_ne nn e
            have c0 := cstep_0 (st := sj) (p := p) e1 e2 e
            refine go_set (i := 11) (EV.to (ev_call F_part r3 (evs_cons (ev_v 0 rfl) (evs_cons (ev_v 1 rfl) (evs_cons (ev_v 9 rfl) (evs_cons (ev_v 10 rfl) evs_nil)))) (D1, D2, led D1 p.1.1 c, led D2 p.1.2 c) rfl rfl ⟨ok1, ok2, lg1, lg2, nn⟩ rfl) (show encM (partingL D1 D2 (led D1 p.1.1 c) (led D2 p.1.2 c)) = .non by rw [e]; rfl)) ?_ sc_compare.nd rfl (.inl rfl)
            rw [e1, e2]
            refine go_ifF (EW.pt (ew_and (t := false) (u := false) (et_cmp (ev_v 11 rfl) ev_non (by walk_at "bd") (nomark _)) fun h => nomatch h)) rfl ?_
            have kvk : (kvP sj.ps).map (·.1) = (sj.ps.map (·.1)).map keyP := by unfold kvP; rw [List.map_map, List.map_map]; rfl
            refine go_if0V (Vw.refl.set (j := 1) (i := 2) rfl rfl rfl) (EW.pt (ew_and (t := true) (et_cmp (ev_v 11 rfl) ev_non (by walk_at "bd") (nomark _)) fun h => (ew_and1 (et_cmp (ev_tup (evs_cons (ev_ix (ev_v 9 rfl) ev_int (by walk_at "xd") (fun _ _ => rfl)) (evs_cons (ev_ix (ev_v 10 rfl) ev_int (by walk_at "xd") (fun _ _ => rfl)) evs_nil))) (ev_v 2 rfl) (b_notind (k := keyP (s1, s2)) hu) rfl)))) (fun h => ?_) (fun h => ?_)
            · have h : keyP (s1, s2) ∉ (kvP sj.ps).map (·.1) := by simpa using h
              have h' : (s1, s2) ∉ sj.ps.map (·.1) := fun z => h (by rw [kvk]; exact keys_mem.mpr z)
              refine go_setDic (j := 1) (p := q2) (k := keyP (s1, s2)) (v := .str (S (p.2 ++ [c]))) hu (ev_addS (m := [c]) (ev_v 7 rfl) (ev_v 8 rfl) z1) (fun _ _ h => h) (ev_v 2 rfl) rfl (ev_tup (evs_cons (ev_ix (ev_v 9 rfl) ev_int (by walk_at "xd") (fun _ _ => rfl)) (evs_cons (ev_ix (ev_v 10 rfl) ev_int (by walk_at "xd") (fun _ _ => rfl)) evs_nil))) h (by rw [List.length_map]; have := Ij.len ok1 ok2; omega) ?_
              refine go_app (j := 0) (ev_v 3 rfl) rfl (ev_tup (evs_cons (ev_ix (ev_v 9 rfl) ev_int (by walk_at "xd") (fun _ _ => rfl)) (evs_cons (ev_ix (ev_v 10 rfl) ev_int (by walk_at "xd") (fun _ _ => rfl)) evs_nil))) (Nat.lt_of_lt_of_le (m := 1000) (by rw [List.length_map]; have := Ij.len ok1 ok2; omega) (sl_small (by decide))) ?_
              refine go_done (go_done (go_nilW ⟨some (.str (sg c)), some (encL (some (k, s1))), some (encL (some (k, s2))), some .non, ?_, ?_⟩ rfl) rfl) rfl
              · rw [c0, if_neg h']; rfl
              · rw [c0, if_neg h']
                unfold oC dsP kvP
                rw [List.map_append, List.map_append]
                rfl
            · have h : keyP (s1, s2) ∈ (kvP sj.ps).map (·.1) := by simpa using h
              have h' : (s1, s2) ∈ sj.ps.map (·.1) := by rw [kvk] at h; exact keys_mem.mp h
              refine go_done (go_nilW ⟨some (.str (sg c)), some (encL (some (k, s1))), some (encL (some (k, s2))), some .non, ?_, ?_⟩ rfl) rfl
              · rw [c0, if_pos h']; rfl
              · rw [c0, if_pos h']
      · obtain ⟨y8, y9, y10, y11, rfl, rfl⟩ := w
        rw [List.take_of_length_le (by rw [signs_len]; exact Nat.le_refl _)]
        obtain ⟨a1, a2, a3⟩ := cfold_ok ok1 ok2 (sgf D1 D2) st I hp cov.sg
        refine go_nilW ⟨121 - (n + 1), by omega, _, n + 1, _, a1, fun i p' hp' hi c hc => ?_, rfl, ?_, rfl, rfl, rfl⟩ rfl
        · by_cases e : i = n
          · subst e
            have := a3.at hp
            rw [hp'] at this
            cases this
            exact a2 c hc
          · have hi2 : i < st.ps.length := by omega
            have hq : st.ps[i]? = some st.ps[i] := List.getElem?_eq_getElem hi2
            have := a3.at hq
            rw [hp'] at this
            cases this
            exact a3.clo (done i _ hq (by omega) c hc)
        · obtain ⟨more, e⟩ := a3.ps
          rw [e, List.length_append]
          omega
    cases e : st.best with
    | none =>
      have hG : encM st.best = .non := by rw [e]; rfl
      refine ⟨_, true, (Vw.refl.set (j := 0) (i := 3) rfl rfl rfl), ?_, fun _ => body, fun h => (nomatch h)⟩
      unfold gC
      rw [hG]
      exact EW.pt (ew_and (t := true) (u := true) (ET.to (et_cmp (ev_v 5 rfl) (ev_callB c_lenL rfl T.b_len boot_len (evs_cons (ev_v 3 rfl) evs_nil)) (by walk_at "bd") (nomark _)) (decide_eq_true hl1)) fun _ => ew_and1 (EW.pt (ew_or (t := true) (u := true) (et_cmp (ev_v 4 rfl) ev_non (by walk_at "bd") (nomark _)) fun h => nomatch h)))
    | some m =>
      have hG : encM st.best = .str (S m) := by rw [e]; rfl
      have mz : (S m).length ≤ sizeLine := by rw [S_len]; exact sl_small (by have := (I.best m e).2.1; omega)
      refine ⟨_, decide (((S p.2).length : Int) + 1 < ((S m).length : Int)), (Vw.refl.set (j := 0) (i := 3) rfl rfl rfl).set (j := 1) (i := 2) rfl rfl rfl, ?_, fun _ => body, fun _ => exit fun q => by rw [e] at q; cases q⟩
      unfold gC
      rw [hG]
      exact EW.pt (EW.to (ew_and (t := true) (ET.to (et_cmp (ev_v 5 rfl) (ev_callB c_lenL rfl T.b_len boot_len (evs_cons (ev_v 3 rfl) evs_nil)) (by walk_at "bd") (nomark _)) (decide_eq_true hl1)) fun _ => ew_and1 (EW.pt (ew_or (t := false) (et_cmp (ev_v 4 rfl) ev_non (by walk_at "bd") (nomark _)) fun _ => ew_or1 (et_cmp (ev_callB (c_lenS mz) rfl T.b_len boot_len (evs_cons (ev_v 4 rfl) evs_nil)) (ev_bin (ev_callB (c_lenS pz) rfl T.b_len boot_len (evs_cons (ev_dix (k := keyP p.1) hu (ev_v 2 rfl) (ev_ix (ev_v 3 rfl) (ev_v 5 rfl) (ix_l hix) (fun _ _ => rfl)) hlook (d := .str (S p.2)) (fun _ => rfl) (fun _ _ => rfl)) evs_nil)) ev_int (by walk_at "bd")) (by walk_at "bd") (nomark _))))) (by simp))
  · have hl0 : ¬ ((n : Int) < ((dsP st.ps).length : Int)) := by rw [List.length_map]; omega
    refine ⟨_, _, (Vw.refl.set (j := 0) (i := 3) rfl rfl rfl), EW.pt (ew_and (t := false) (u := true) (ET.to (et_cmp (ev_v 5 rfl) (ev_callB c_lenL rfl T.b_len boot_len (evs_cons (ev_v 3 rfl) evs_nil)) (by walk_at "bd") (nomark _)) (decide_eq_false hl0)) fun h => nomatch h), fun h => (nomatch h), fun _ => exit fun _ => by omega⟩
end
end Dh
end SDhCompare

section SDhMath5
set_option linter.all false
/-! Reading: kinds, the state at the end, the table. -/
namespace Dh
def wlk (D : Dia) : Sta → List Nat → List Kd × Sta × Option Wd
  | s, [] => ([], s, none)
  | s, c :: t => match step D s c with
    | .fault w => ([], s, some w)
    | .go k s' => (k :: (wlk D s' t).1, (wlk D s' t).2.1, (wlk D s' t).2.2)
theorem wlk_fault {D : Dia} {s : Sta} {c : Nat} {t : List Nat} {w : Wd} (e : step D s c = .fault w) : wlk D s (c :: t) = ([], s, some w) := by
  show (match step D s c with
    | .fault w => ([], s, some w)
    | .go k s' => (k :: (wlk D s' t).1, (wlk D s' t).2.1, (wlk D s' t).2.2)) = _
  rw [e]
theorem wlk_go {D : Dia} {s s' : Sta} {c : Nat} {t : List Nat} {k : Kd} (e : step D s c = .go k s') : wlk D s (c :: t) = (k :: (wlk D s' t).1, (wlk D s' t).2.1, (wlk D s' t).2.2) := by
  show (match step D s c with
    | .fault w => ([], s, some w)
    | .go k s' => (k :: (wlk D s' t).1, (wlk D s' t).2.1, (wlk D s' t).2.2)) = _
  rw [e]
theorem wlk_len {D : Dia} : ∀ (t : List Nat) (s : Sta), (wlk D s t).1.length ≤ t.length
  | [], s => Nat.le_refl _
  | c :: t, s => by
    cases e : step D s c with
    | fault w => rw [wlk_fault e]; exact Nat.zero_le _
    | go k s' =>
      rw [wlk_go e]
      have := wlk_len (D := D) t s'
      show (wlk D s' t).1.length + 1 ≤ t.length + 1
      omega
/-- what comes out of signs and their kinds -/
def outs (t : List Nat) (ks : List Kd) : List Out := (t.zip ks).flatMap fun p => emit p.2 p.1
def okW (r : List Kd × Sta × Option Wd) : Bool := decide (r.2.2 = none) && decide (r.2.1 = .row)
theorem wlk_rd {D : Dia} : ∀ (t : List Nat) (s : Sta), rd D s t = if okW (wlk D s t) = true then some (outs t (wlk D s t).1) else none
  | [], s => by
    rw [rd_nil]
    by_cases h : s = .row <;> simp [wlk, okW, h, outs]
  | c :: t, s => by
    cases e : step D s c with
    | fault w => rw [rd_fault e, wlk_fault e]; simp [okW]
    | go k s' =>
      rw [rd_go e, wlk_go e, wlk_rd t s']
      have : okW (k :: (wlk D s' t).1, (wlk D s' t).2.1, (wlk D s' t).2.2) = okW (wlk D s' t) := rfl
      rw [this]
      by_cases h : okW (wlk D s' t) = true
      · rw [if_pos h, if_pos h]
        simp [outs]
      · rw [if_neg h, if_neg h]; rfl
theorem ans_wlk {D : Dia} {t : List Nat} : ans D t = if okW (wlk D .row t) = true then some (tabGo [] [] (outs t (wlk D .row t).1)) else none := by
  unfold ans
  rw [wlk_rd]
  by_cases h : okW (wlk D .row t) = true
  · rw [if_pos h, if_pos h]; rfl
  · rw [if_neg h, if_neg h]; rfl
/-! the table, step by step -/
structure TS where
  tab : List (List (List Nat))
  row : List (List Nat)
  cell : List Nat
def tstep (a : TS) (c : Nat) : Kd → TS
  | .put => ⟨a.tab, a.row, a.cell ++ [c]⟩
  | .skip => a
  | .part => ⟨a.tab, a.row ++ [a.cell], []⟩
  | .fin => ⟨a.tab ++ [a.row ++ [a.cell]], [], []⟩
def tfold (a : TS) (ps : List (Nat × Kd)) : TS := ps.foldl (fun a p => tstep a p.1 p.2) a
theorem tab_fold : ∀ (ps : List (Nat × Kd)) (a : TS), (tfold a ps).tab = a.tab ++ tabGo a.cell a.row (ps.flatMap fun p => emit p.2 p.1)
  | [], a => by simp [tfold, tabGo]
  | (c, k) :: ps, a => by
    have ih := tab_fold ps (tstep a c k)
    show (tfold (tstep a c k) ps).tab = _
    rw [ih]
    cases k <;> simp [tstep, emit, tabGo]
theorem tab_outs (t : List Nat) (ks : List Kd) : (tfold ⟨[], [], []⟩ (t.zip ks)).tab = tabGo [] [] (outs t ks) := by
  rw [tab_fold]; rfl
/-- sizes -/
theorem tfold_sz : ∀ (ps : List (Nat × Kd)) (a : TS), (tfold a ps).cell.length ≤ a.cell.length + ps.length ∧ (tfold a ps).row.length ≤ a.row.length + ps.length ∧ (tfold a ps).tab.length ≤ a.tab.length + ps.length
  | [], a => ⟨Nat.le_refl _, Nat.le_refl _, Nat.le_refl _⟩
  | (c, k) :: ps, a => by
    obtain ⟨h1, h2, h3⟩ := tfold_sz ps (tstep a c k)
    have e : tfold a ((c, k) :: ps) = tfold (tstep a c k) ps := rfl
    rw [e]
    cases k <;> simp only [tstep, List.length_append, List.length_cons, List.length_nil] at h1 h2 h3 ⊢ <;> omega
end Dh
end SDhMath5

section SDhRead
set_option Elab.async false
set_option linter.all false
set_option maxRecDepth 100000
set_option maxHeartbeats 4000000
local macro_rules | `(tactic| walk_at "bd") => `(tactic| first
  | exact Dh.b_in | exact Dh.b_notin | exact Dh.b_eqS | exact Dh.b_neS | exact Dh.b_isN | exact Dh.b_notN | exact Dh.b_add | exact Dh.b_sub | exact Dh.b_lt | exact Dh.b_le | exact Dh.b_gt | exact Dh.b_ge | exact Dh.b_eqI | exact Dh.b_neI | exact Dh.b_eqB | exact Dh.b_neB)
local macro_rules | `(tactic| walk_at "xd") => `(tactic| first | exact Dh.ix_t rfl | exact Dh.ix_l rfl)
namespace Dh
open PySem PySem.Spec PyProof.Rows L2

def encW : Option Wd → Dt
  | none => .non
  | some w => .str (wds w)
abbrev encKs (ks : List Kd) : List Dt := ks.map fun k => .str (kds k)
abbrev encWlk (r : List Kd × Sta × Option Wd) : Dt := .tup [.lst (encKs r.1), encS r.2.1, encW r.2.2]
abbrev encRow (r : List (List Nat)) : Dt := .lst (r.map fun c => .str (S c))
abbrev encTab (t : List (List (List Nat))) : Dt := .lst (t.map encRow)
theorem pairK_get {t : List Nat} {ks : List Kd} {j : Nat} {d : Dt} (h : (pairD (signs t) (encKs ks))[j]? = some d) : ∃ c k, (t.zip ks)[j]? = some (c, k) ∧ d = .tup [.str (sg c), .str (kds k)] := by
  unfold pairD signs encKs at h
  rw [List.getElem?_zipWith, List.getElem?_map, List.getElem?_map] at h
  cases e1 : t[j]? with
  | none => rw [e1] at h; cases h
  | some c =>
    cases e2 : ks[j]? with
    | none => rw [e1, e2] at h; cases h
    | some k =>
      rw [e1, e2] at h
      cases h
      refine ⟨c, k, ?_, rfl⟩
      rw [List.getElem?_zip_eq_some]
      exact ⟨e1, e2⟩
theorem pairK_len (t : List Nat) (ks : List Kd) : (pairD (signs t) (encKs ks)).length = (t.zip ks).length := by simp [pairD, signs]
section
variable {P : Program} {w : World} {K : PySem.W.Frag} {mg : Str → Option Value} {base : Heap} {f : Addr} {fd : FuncData} {A : Ad}
abbrev spWalked (K : PySem.W.Frag) (A : Ad) : Sp := spT K (T := Dia × List Nat) (fun i => [encD A i.1, .str (S i.2)]) (fun i => TxSg i.2) (fun i d => d = encWlk (wlk i.1 .row i.2))
theorem ok_walked (F : FnP K "walked" "walked" s_walked f fd) (T : Tx K mg A) (F_text : Cal P w K mg base 2 "is_text" ["thing"] (spText K)) (C_turn : CTurn P w K mg base A) (F_step : MTurn P w K mg base A) :
    FnOk P w K mg base CX0 5 f fd ["dialect", "text"] (spWalked K A) := by
  refine fn_ok F sc_walked (fun _ => rfl) fun ⟨D, t⟩ cdv A' outer sh H0 E B0 D' hr hp hn hQ => ?_
  have hp : TxSg t := hp
  have r2 : Room 2 _ := hr.mono (by decide)
  have r4 : Room 4 _ := hr.mono (by decide)
  have wl := wlk_len (D := D) t .row
  refine go_if0 (et_not (et_val (ev_call F_text r2 (evs_cons (ev_v 1 rfl) evs_nil) t rfl rfl hp rfl))) (fun h => nomatch h) (fun _ => ?_)
  refine go_set (i := 2) (ev_make C_turn r2 (evs_cons (ev_v 0 rfl) evs_nil) (encD A D) rfl rfl trivial rfl) ?_ sc_walked.nd rfl (.inl rfl)
  refine go_set (i := 3) (ev_gl T.cSTART rfl) ?_ sc_walked.nd rfl (.inl rfl)
  refine go_new (i := 4) evs_nil (fun p4 => ?_) sc_walked.nd rfl (.inl rfl)
  refine go_for PassesOwn.never rfl (pit_str (z := S t) (ev_v 1 rfl)) (fun j G O => ∃ sj x5 x6 x7, j ≤ (wlk D .row t).1.length ∧ wlk D sj (t.drop j) = ((wlk D .row t).1.drop j, (wlk D .row t).2.1, (wlk D .row t).2.2) ∧
      G = [some (encD A D), some (.str (S t)), some (encTurn A D), some (encS sj), some (.raw (.ref p4)), x5, x6, x7] ∧ O = [(p4, .lst (encKs ((wlk D .row t).1.take j)))])
    ⟨.row, none, none, none, Nat.zero_le _, rfl, rfl, rfl⟩ (fun B1 u j d G1 O1 hd W => ?_) (fun G1 O1 W => ?_)
  · obtain ⟨sj, x5, x6, x7, jl, e, rfl, rfl⟩ := W
    obtain ⟨c, hc, rfl⟩ := signs_get hd
    have hc : t[j]? = some c := hc
    have ed : t.drop j = c :: t.drop (j + 1) := by
      rw [List.drop_eq_getElem_cons (List.getElem?_eq_some_iff.mp hc).1, (List.getElem?_eq_some_iff.mp hc).2]
    rw [ed] at e
    refine ⟨_, (tgt_name (i := 5) sc_walked.nd rfl (.inl rfl)), ?_⟩
    cases es : step D sj c with
    | fault wd =>
      rw [wlk_fault es] at e
      have e1 : (wlk D .row t).1.drop j = [] := (congrArg (·.1) e).symm
      have e2 : sj = (wlk D .row t).2.1 := congrArg (·.2.1) e
      have e3 : some wd = (wlk D .row t).2.2 := congrArg (·.2.2) e
      have e4 : (wlk D .row t).1.take j = (wlk D .row t).1 := by
        have := List.take_append_drop j (wlk D .row t).1
        rw [e1, List.append_nil] at this
        exact this
      refine go_asg (EV.to (ev_meth F_step r4 (ev_v 2 rfl) T.k_turn (by decide +kernel) (evs_cons (ev_v 3 rfl) (evs_cons (ev_v 5 rfl) evs_nil)) (D, sj, c) rfl rfl trivial) (by show encR (step D sj c) = encR (.fault wd); rw [es])) (tgt_tup rfl (tgts_cons (tgt_name (i := 6) sc_walked.nd rfl (.inl rfl)) (tgts_cons (tgt_name (i := 7) sc_walked.nd rfl (.inl rfl)) tgts_nil))) ?_
      refine go_ifT (ET.to (et_cmp (ev_v 6 rfl) ev_str (by walk_at "bd") (nomark _)) (by decide +kernel)) rfl ?_
      refine go_frz (j := 0) (G' := [some (encD A D), some (.str (S t)), some (encTurn A D), some (encS sj), some (.lst (encKs ((wlk D .row t).1.take j))), some (.str (sg c)), some (.str "fault"), some (.str (wds wd))]) rfl rfl (fun i d hi => ?_) ?_
      · match i with
        | 0 => exact .inl hi
        | 1 => exact .inl hi
        | 2 => exact .inl hi
        | 3 => exact .inl hi
        | 4 => cases hi; exact .inr ⟨rfl, rfl⟩
        | 5 => exact .inl hi
        | 6 => exact .inl hi
        | 7 => exact .inl hi
        | n + 8 => cases hi
      refine go_ret (ev_tup (evs_cons (ev_v 4 rfl) (evs_cons (ev_v 3 rfl) (evs_cons (ev_v 7 rfl) evs_nil)))) (u.rt hQ) ?_
      show Dt.tup [.lst (encKs ((wlk D .row t).1.take j)), encS sj, .str (wds wd)] = encWlk (wlk D .row t)
      rw [e4, e2]
      unfold encWlk
      rw [← e3]
      rfl
    | go k s' =>
      rw [wlk_go es] at e
      have e1 : k :: (wlk D s' (t.drop (j + 1))).1 = (wlk D .row t).1.drop j := congrArg (·.1) e
      have e2 : (wlk D s' (t.drop (j + 1))).2.1 = (wlk D .row t).2.1 := congrArg (·.2.1) e
      have e3 : (wlk D s' (t.drop (j + 1))).2.2 = (wlk D .row t).2.2 := congrArg (·.2.2) e
      have hk : (wlk D .row t).1[j]? = some k := by
        have : ((wlk D .row t).1.drop j)[0]? = some k := by rw [← e1]; rfl
        rw [List.getElem?_drop] at this
        exact this
      have hj := (List.getElem?_eq_some_iff.mp hk).1
      have e4 : (wlk D s' (t.drop (j + 1))).1 = (wlk D .row t).1.drop (j + 1) := by
        have : ((wlk D .row t).1.drop j).drop 1 = (wlk D s' (t.drop (j + 1))).1 := by rw [← e1]; rfl
        rw [← this, List.drop_drop]
      refine go_asg (EV.to (ev_meth F_step r4 (ev_v 2 rfl) T.k_turn (by decide +kernel) (evs_cons (ev_v 3 rfl) (evs_cons (ev_v 5 rfl) evs_nil)) (D, sj, c) rfl rfl trivial) (by show encR (step D sj c) = encR (.go k s'); rw [es])) (tgt_tup rfl (tgts_cons (tgt_name (i := 6) sc_walked.nd rfl (.inl rfl)) (tgts_cons (tgt_name (i := 7) sc_walked.nd rfl (.inl rfl)) tgts_nil))) ?_
      refine go_ifN (ET.to (et_cmp (ev_v 6 rfl) ev_str (by walk_at "bd") (nomark _)) (kds_fault k)) rfl ?_
      refine go_app (j := 0) (ev_v 4 rfl) rfl (ev_v 6 rfl) (Nat.lt_of_lt_of_le (m := 2001) (by rw [List.length_map, List.length_take]; have := hp.2; omega) (sl_small (by decide))) ?_
      refine go_set (i := 3) (ev_v 7 rfl) ?_ sc_walked.nd rfl (.inl rfl)
      refine go_nilW ⟨s', some (.str (sg c)), some (.str (kds k)), some (encS s'), hj, ?_, rfl, ?_⟩ rfl
      · rw [← e4, ← e2, ← e3]
      · rw [take_snoc hk]
        unfold encKs
        rw [List.map_append]
        rfl
  · obtain ⟨sj, x5, x6, x7, jl, e, rfl, rfl⟩ := W
    have hj : (signs (S t).cps.toList).length = t.length := signs_len t
    rw [hj] at e jl ⊢
    rw [List.drop_length] at e
    have e1 : (wlk D .row t).1.drop t.length = [] := (congrArg (·.1) e).symm
    have e2 : sj = (wlk D .row t).2.1 := congrArg (·.2.1) e
    have e3 : none = (wlk D .row t).2.2 := congrArg (·.2.2) e
    have e4 : (wlk D .row t).1.take t.length = (wlk D .row t).1 := List.take_of_length_le wl
    rw [e4]
    refine go_frz (j := 0) (G' := [some (encD A D), some (.str (S t)), some (encTurn A D), some (encS sj), some (.lst (encKs (wlk D .row t).1)), x5, x6, x7]) rfl rfl (fun i d hi => ?_) ?_
    · match i with
      | 0 => exact .inl hi
      | 1 => exact .inl hi
      | 2 => exact .inl hi
      | 3 => exact .inl hi
      | 4 => cases hi; exact .inr ⟨rfl, rfl⟩
      | 5 => exact .inl hi
      | 6 => exact .inl hi
      | 7 => exact .inl hi
      | n + 8 => cases hi
    refine go_ret (ev_tup (evs_cons (ev_v 4 rfl) (evs_cons (ev_v 3 rfl) (evs_cons ev_non evs_nil)))) hQ ?_
    show Dt.tup [.lst (encKs (wlk D .row t).1), encS sj, .non] = encWlk (wlk D .row t)
    rw [e2]
    unfold encWlk
    rw [← e3]
    rfl
abbrev spKinds (K : PySem.W.Frag) (A : Ad) : Sp := spT K (T := Dia × List Nat) (fun i => [encD A i.1, .str (S i.2)]) (fun i => TxSg i.2) (fun i d => d = .lst (encKs (wlk i.1 .row i.2).1))
theorem ok_kinds_of (F : FnP K "kinds_of" "kinds_of" s_kinds_of f fd) (F_w : Cal P w K mg base 5 "walked" ["dialect", "text"] (spWalked K A)) : FnOk P w K mg base CX0 6 f fd ["dialect", "text"] (spKinds K A) := by
  refine fn_ok F sc_kinds_of (fun _ => rfl) fun ⟨D, t⟩ cdv A' outer sh H0 E B0 D' hr hp hn hQ => ?_
  exact go_ret (ev_ix (ev_call F_w (hr.mono (by decide)) (evs_cons (ev_v 0 rfl) (evs_cons (ev_v 1 rfl) evs_nil)) (D, t) rfl rfl hp rfl) ev_int (by walk_at "xd") (fun _ _ => rfl)) hQ rfl
abbrev spTable (K : PySem.W.Frag) : Sp := spT K (T := List Nat × List Kd) (fun i => [.str (S i.1), .lst (encKs i.2)]) (fun i => i.1.length ≤ 2000) (fun i d => d = encTab (tabGo [] [] (outs i.1 i.2)))
theorem ok_table_of (F : FnP K "table_of" "table_of" s_table_of f fd) (T : Tx K mg A) : FnOk P w K mg base CX0 1 f fd ["text", "kinds"] (spTable K) := by
  refine fn_ok F sc_table_of (fun _ => rfl) fun ⟨t, ks⟩ cdv A' outer sh H0 E B0 D' hr hp hn hQ => ?_
  have hp : t.length ≤ 2000 := hp
  have zl : (t.zip ks).length ≤ 2000 := by rw [List.length_zip]; omega
  have big : ∀ n, n ≤ 2000 → n < sizeLine := fun n h => Nat.lt_of_lt_of_le (m := 2001) (by omega) (sl_small (by decide))
  refine go_new (i := 2) evs_nil (fun p2 => ?_) sc_table_of.nd rfl (.inl rfl)
  refine go_new (i := 3) evs_nil (fun p3 => ?_) sc_table_of.nd rfl (.inl rfl)
  refine go_set (i := 4) ev_str ?_ sc_table_of.nd rfl (.inl rfl)
  refine go_for PassesOwn.never rfl (pit_zipX (z := S t) (bs := encKs ks) (ev_v 0 rfl) (ev_v 1 rfl) rfl T.b_zip) (fun j G O => ∃ p3 x5 x6, G = [some (.str (S t)), some (.lst (encKs ks)), some (.raw (.ref p2)), some (.raw (.ref p3)), some (.str (S (tfold ⟨[], [], []⟩ ((t.zip ks).take j)).cell)), x5, x6] ∧
      O = [(p3, .lst ((tfold ⟨[], [], []⟩ ((t.zip ks).take j)).row.map fun c => .str (S c))), (p2, .lst ((tfold ⟨[], [], []⟩ ((t.zip ks).take j)).tab.map encRow))])
    ⟨p3, none, none, by rw [List.take_zero]; rfl, by rw [List.take_zero]; rfl⟩ (fun B1 u j d G1 O1 hd W => ?_) (fun G1 O1 W => ?_)
  · obtain ⟨p3, x5, x6, rfl, rfl⟩ := W
    obtain ⟨c, k, hc, rfl⟩ := pairK_get (show (pairD (signs t) (encKs ks))[j]? = some d from hd)
    have nx : tfold ⟨[], [], []⟩ ((t.zip ks).take (j + 1)) = tstep (tfold ⟨[], [], []⟩ ((t.zip ks).take j)) c k := by
      rw [take_snoc hc]
      unfold tfold
      rw [List.foldl_append]; rfl
    obtain ⟨z1, z2, z3⟩ := tfold_sz ((t.zip ks).take j) ⟨[], [], []⟩
    have zt : ((t.zip ks).take j).length ≤ 2000 := by rw [List.length_take]; omega
    generalize tfold ⟨[], [], []⟩ ((t.zip ks).take j) = a at nx z1 z2 z3
    rw [nx]
    have z1 : a.cell.length ≤ 2000 := by simpa using Nat.le_trans z1 (by simpa using zt)
    have z2 : a.row.length ≤ 2000 := by simpa using Nat.le_trans z2 (by simpa using zt)
    have z3 : a.tab.length ≤ 2000 := by simpa using Nat.le_trans z3 (by simpa using zt)
    have z4 : a.cell.length + [c].length ≤ sizeLine := sl_small (by rw [List.length_singleton]; omega)
    refine ⟨_, (tgt_tup rfl (tgts_cons (tgt_name (i := 5) sc_table_of.nd rfl (.inl rfl)) (tgts_cons (tgt_name (i := 6) sc_table_of.nd rfl (.inl rfl)) tgts_nil))), ?_⟩
    cases k with
    | put =>
      refine go_ifT (ET.to (et_cmp (ev_v 6 rfl) ev_str (by walk_at "bd") (nomark _)) (kds_put .put)) rfl ?_
      refine go_set (i := 4) (ev_addS (m := [c]) (ev_v 4 rfl) (ev_v 5 rfl) z4) ?_ sc_table_of.nd rfl (.inl rfl)
      refine go_done ?_ rfl
      refine go_ifN (ET.to (et_cmp (ev_v 6 rfl) ev_str (by walk_at "bd") (nomark _)) (kds_end .put)) rfl ?_
      exact go_nilW ⟨p3, some (.str (sg c)), some (.str (kds .put)), rfl, rfl⟩ rfl
    | skip =>
      refine go_ifF (ET.to (et_cmp (ev_v 6 rfl) ev_str (by walk_at "bd") (nomark _)) (kds_put .skip)) rfl ?_
      refine go_ifN (ET.to (et_cmp (ev_v 6 rfl) ev_str (by walk_at "bd") (nomark _)) (by decide +kernel)) rfl ?_
      refine go_done ?_ rfl
      refine go_ifN (ET.to (et_cmp (ev_v 6 rfl) ev_str (by walk_at "bd") (nomark _)) (kds_end .skip)) rfl ?_
      exact go_nilW ⟨p3, some (.str (sg c)), some (.str (kds .skip)), rfl, rfl⟩ rfl
    | part =>
      refine go_ifF (ET.to (et_cmp (ev_v 6 rfl) ev_str (by walk_at "bd") (nomark _)) (kds_put .part)) rfl ?_
      refine go_ifT (ET.to (et_cmp (ev_v 6 rfl) ev_str (by walk_at "bd") (nomark _)) (by decide +kernel)) rfl ?_
      refine go_app (j := 0) (ev_v 3 rfl) rfl (ev_v 4 rfl) (big _ (by rw [List.length_map]; exact z2)) ?_
      refine go_set (i := 4) ev_str ?_ sc_table_of.nd rfl (.inl rfl)
      refine go_done (go_done ?_ rfl) rfl
      refine go_ifN (ET.to (et_cmp (ev_v 6 rfl) ev_str (by walk_at "bd") (nomark _)) (kds_end .part)) rfl ?_
      refine go_nilW ⟨p3, some (.str (sg c)), some (.str (kds .part)), rfl, ?_⟩ rfl
      simp only [tstep, List.map_append, List.set_cons_zero]; rfl
    | fin =>
      refine go_ifF (ET.to (et_cmp (ev_v 6 rfl) ev_str (by walk_at "bd") (nomark _)) (kds_put .fin)) rfl ?_
      refine go_ifT (ET.to (et_cmp (ev_v 6 rfl) ev_str (by walk_at "bd") (nomark _)) (by decide +kernel)) rfl ?_
      refine go_app (j := 0) (ev_v 3 rfl) rfl (ev_v 4 rfl) (big _ (by rw [List.length_map]; exact z2)) ?_
      refine go_set (i := 4) ev_str ?_ sc_table_of.nd rfl (.inl rfl)
      refine go_done (go_done ?_ rfl) rfl
      refine go_ifT (ET.to (et_cmp (ev_v 6 rfl) ev_str (by walk_at "bd") (nomark _)) (kds_end .fin)) rfl ?_
      refine go_frz (j := 0) (G' := [some (.str (S t)), some (.lst (encKs ks)), some (.raw (.ref p2)), some (encRow (a.row ++ [a.cell])), some (.str ""), some (.str (sg c)), some (.str (kds .fin))]) rfl rfl (fun i d hi => ?_) ?_
      · match i with
        | 0 => exact .inl hi
        | 1 => exact .inl hi
        | 2 => exact .inl hi
        | 3 => cases hi; exact .inr ⟨rfl, by unfold encRow; rw [List.map_append]; rfl⟩
        | 4 => exact .inl hi
        | 5 => exact .inl hi
        | 6 => exact .inl hi
        | n + 7 => cases hi
      refine go_app (j := 0) (ev_v 2 rfl) rfl (ev_v 3 rfl) (big _ (by rw [List.length_map]; exact z3)) ?_
      refine go_new (i := 3) evs_nil (fun p3' => ?_) sc_table_of.nd rfl (.inl rfl)
      refine go_done (go_nilW ⟨p3', some (.str (sg c)), some (.str (kds .fin)), rfl, ?_⟩ rfl) rfl
      simp only [tstep, List.map_append, List.map_cons, List.map_nil]; rfl
  · obtain ⟨p3, x5, x6, rfl, rfl⟩ := W
    have e : (t.zip ks).take (pairD (signs (S t).cps.toList) (encKs ks)).length = t.zip ks := List.take_of_length_le (by
      have : (pairD (signs (S t).cps.toList) (encKs ks)).length = (t.zip ks).length := pairK_len t ks
      rw [this]; exact Nat.le_refl _)
    rw [e]
    refine go_frz (j := 1) (G' := [some (.str (S t)), some (.lst (encKs ks)), some (encTab (tfold ⟨[], [], []⟩ (t.zip ks)).tab), none, none, none, none]) rfl rfl (fun i d hi => ?_) ?_
    · match i with
      | 0 => exact .inl hi
      | 1 => exact .inl hi
      | 2 => cases hi; exact .inr ⟨rfl, rfl⟩
      | 3 => cases hi
      | 4 => cases hi
      | 5 => cases hi
      | 6 => cases hi
      | n + 7 => cases hi
    refine go_ret (ev_v 2 rfl) hQ ?_
    rw [tab_outs]
end
end Dh
end SDhRead

section SDhExc
set_option Elab.async false
set_option linter.all false
set_option maxRecDepth 100000
set_option maxHeartbeats 4000000
local macro_rules | `(tactic| walk_at "bd") => `(tactic| first
  | exact Dh.b_in | exact Dh.b_notin | exact Dh.b_eqS | exact Dh.b_neS | exact Dh.b_isN | exact Dh.b_notN | exact Dh.b_add | exact Dh.b_sub | exact Dh.b_lt | exact Dh.b_le | exact Dh.b_gt | exact Dh.b_ge | exact Dh.b_eqI | exact Dh.b_neI | exact Dh.b_eqB | exact Dh.b_neB)
local macro_rules | `(tactic| walk_at "xd") => `(tactic| first | exact Dh.ix_t rfl | exact Dh.ix_l rfl)
namespace Dh
open PySem PySem.Spec PyProof.Rows L2

/-! ### Broken: made, raised, caught -/
/-- what the written part says of Broken -/
structure BrT (K : PySem.W.Frag) (mg : Str → Option Value) (C : Addr) : Prop where
  oex : OexC K C
  gC : mg "Broken" = some (.ref C)
  row : PySem.W.findIn K (.ref C) "row" = some none
  place : PySem.W.findIn K (.ref C) "place" = some none
  word : PySem.W.findIn K (.ref C) "word" = some none
  exm : PySem.W.exmOne K (.ref C) (.ref C) = some true
def spBr (C : Addr) : Sp := fun vs H Q _ => ∃ (a : Addr) (w1 w2 w3 : V), vs = [.ref a, w1, w2, w3] ∧ H a = some (exo a C none) ∧
  ∀ d H2, H d = none → d ≠ a → (∀ q, q ≠ a → q ≠ d → H2 q = H q) → H2 a = some (exo a C (some d)) → (∃ fs, H2 d = some (exd d fs)) → Q .non H2
section
variable {P : Program} {w : World} {K : PySem.W.Frag} {mg : Str → Option Value} {base : Heap} {f C : Addr} {fd : FuncData} {A : Ad}
theorem ok_Broken_init (F : FnP K "__init__" "Broken.__init__" s_Broken_init f fd) (T : BrT K mg C) : FnOk P w K mg base CX0 1 f fd ["self", "row", "place", "word"] (spBr C) := by
  refine F.ok sc_Broken_init (fun vs H Q E ⟨a, w1, w2, w3, e, _⟩ => by rw [e]; rfl) fun cdv A' outer s H vs Q E hr h => ?_
  obtain ⟨a, w1, w2, w3, rfl, ha, k⟩ := h
  refine ⟨_, PSs.nox (pss_cons (ps_ost (pv 0) (pv 1) rfl) (pss_cons (ps_ost (pv 0) (pv 2) rfl) (pss_one (ps_ost (pv 0) (pv 3) rfl)))), ?_⟩
  refine ⟨_, rfl, _, rfl, a, C, rfl, T.oex, T.row, .inl ⟨ha, fun d hd hne => ?_⟩⟩
  refine ⟨_, rfl, _, rfl, a, C, rfl, T.oex, T.place, .inr ⟨d, _, upd_same, (by rw [upd_ne hne, upd_same]), (by show 1 ≤ 900; decide), ?_⟩⟩
  refine ⟨_, rfl, _, rfl, a, C, rfl, T.oex, T.word, .inr ⟨d, _, (by rw [upd_ne (Ne.symm hne), upd_same]), upd_same, (by show 2 ≤ 900; decide), ?_⟩⟩
  refine k d _ hd hne (fun q q1 q2 => ?_) ?_ ⟨_, upd_same⟩
  · rw [upd_ne q2, upd_ne q2, upd_ne q1, upd_ne q2]
  · rw [upd_ne (Ne.symm hne), upd_ne (Ne.symm hne), upd_same]
/-- a def that may let Broken out -/
def spTX (K : PySem.W.Frag) (C : Addr) {T : Type} (args : T → List Dt) (pre : T → Prop) (res : T → Dt → Prop) (fails : T → Prop) : Sp := fun vs H Q E => ∃ (i : T) (B : Hp), pre i ∧ Same B H ∧ RepAll K B (args i) vs ∧
  (∀ d v B' H', res i d → Gr B H B' H' → Rep K B' d v → Q v H') ∧ (fails i → ∀ dd B' H', Gr B H B' H' → E (.ref C) dd H')
theorem fn_okX {x qual : Str} {st : Stmt} {N ps : List Str} {k : Nat} {T : Type} {args : T → List Dt} {pre : T → Prop} {res : T → Dt → Prop} {fails : T → Prop} (F : FnP K x qual st f fd) (S : FnScope N ps (defScope st)) (hl : ∀ i, (args i).length = ps.length)
    (body : ∀ (i : T) (cdv : Value) (A : Around) (outer : List Env) (s : Shared) (H0 : Hp) (E : XK) (B0 : Hp) (D : Ends), Room k (A.deeper (envOfC qual (defScope st) s.heap.objs.size f cdv)) → pre i → (∀ B H, Gr B0 H0 B H → res i .non → ∀ s, D.nx s H) → Rt K B0 H0 (res i) D.rt → (fails i → ∀ dd B' H', Gr B0 H0 B' H' → E (.ref C) dd H') →
      Go (cxOf (L2.CX P w) P w K mg base N qual (defScope st) f cdv A outer s H0 E) B0 H0 ((args i).map some ++ List.replicate (N.length - (args i).length) none) [] (defBody st) D) : FnOk P w K mg base (L2.CX P w) (k + 1) f fd ps (spTX K C args pre res fails) := by
  refine F.ok S (fun vs H Q E ⟨i, B, _, _, r, _⟩ => by rw [r.length, hl]) fun cdv A outer s H vs Q E hr h => ?_
  obtain ⟨i, B, hp, sb, r, q, qe⟩ := h
  have hN : (args i).length ≤ N.length := by
    have := congrArg List.length S.pre
    rw [List.length_take] at this
    rw [hl]
    omega
  refine ⟨fun D σ H => D = { nx := fun _ H' => Q .non H', rt := Q } ∧ RunS (cxOf (L2.CX P w) P w K mg base N qual (defScope st) f cdv A outer s _ E) (defBody st) D σ H, ⟨fun pins sh σ H D I h => h.2.run pins sh I⟩, rfl, ?_⟩
  exact body i cdv A outer s H E B _ hr hp (fun B' H' g hres s => q .non .non B' H' hres g rfl) (fun d v B' H' hd g rv => q d v B' H' hd g rv) qe _ _ ⟨B, .refl sb, sl_start r hN, fun p ob hp => (by cases hp), List.nodup_nil⟩
/-- raise Broken(e1, e2, e3) -/
theorem go_raise {N : List Str} {qual : Str} {st : Stmt} {cdv : Value} {A' : Around} {outer : List Env} {s0 : Shared} {H0 B0 : Hp} {E : XK} {G : List (Option Dt)} {O : List (Addr × Ob)} {rest : List Stmt} {D : Ends} {e1 e2 e3 : Expr} {d1 d2 d3 : Dt} {p1 p2 p3 : Pos} {fI : Addr} {fdI : FuncData}
    (T : BrT K mg C) (iC : PySem.W.findIn K (.ref C) "__init__" = some (some (.ref fI))) (tI : PySem.W.typeIn K (.ref fI) = some (.type "function")) (F1 : FnOk P w K mg base CX0 1 fI fdI ["self", "row", "place", "word"] (spBr C)) (hB : Binds K fdI ["self", "row", "place", "word"] [])
    (hr : Room 2 (cxOf (L2.CX P w) P w K mg base N qual (defScope st) f cdv A' outer s0 H0 E).A) (hg : Gl (cxOf (L2.CX P w) P w K mg base N qual (defScope st) f cdv A' outer s0 H0 E) "Broken")
    (ha : EVs (cxOf (L2.CX P w) P w K mg base N qual (defScope st) f cdv A' outer s0 H0 E) G [e1, e2, e3] [d1, d2, d3]) (hE : ∀ dd B' H', Gr B0 H0 B' H' → E (.ref C) dd H')
    (he : starEach [e1, e2, e3] (cxOf (L2.CX P w) P w K mg base N qual (defScope st) f cdv A' outer s0 H0 E).env = (false, eval e1 (cxOf (L2.CX P w) P w K mg base N qual (defScope st) f cdv A' outer s0 H0 E).env) :: starEach [e2, e3] (cxOf (L2.CX P w) P w K mg base N qual (defScope st) f cdv A' outer s0 H0 E).env := by rfl)
    (hpl : (backTo p2 (starEach [e2, e3] (cxOf (L2.CX P w) P w K mg base N qual (defScope st) f cdv A' outer s0 H0 E).env)).any (·.1) = false := by rfl) :
    Go (cxOf (L2.CX P w) P w K mg base N qual (defScope st) f cdv A' outer s0 H0 E) B0 H0 G O (.Raise (some (.Call (.Name "Broken" p1) [e1, e2, e3] [] p2)) none p3 :: rest) D := fun s H ⟨B, a⟩ =>
  run_c (ps_raise rfl (takes_of rfl rfl rfl rfl) (pmk_oex T.oex iC tI F1 hr hB .nil pass0 hg T.gC pa_wk (by decide) he hpl)) (ha s B H a.sl a.gr.s _ fun vs B1 H1 g1 r1 => by
    obtain ⟨v1, r, rfl, q1, v2, r', rfl, q2, v3, r'', rfl, q3, q4⟩ := r1
    rw [show r'' = [] from q4]
    refine ⟨(by show 3 ≤ 1000; decide), fun x hx => ⟨x, v1, v2, v3, rfl, upd_same, fun d H2 hd hne hq h1 ⟨fs, h2⟩ => ⟨rfl, d, fs, h1, h2, ?_, ?_⟩⟩⟩
    · rw [upd_ne hne] at hd; exact hd
    · rw [upd_ne hne] at hd
      have e : upd (del H2 x) d (.xd fs) = upd H1 d (.xd fs) := by
        funext q
        by_cases z : q = d
        · subst z; rw [upd_same, upd_same]
        · rw [upd_ne z, upd_ne z]
          by_cases y : q = x
          · subst y; rw [del_same, hx]
          · rw [del_ne y, hq q y z, upd_ne y]
      rw [e]
      exact hE (some d) B1 _ ((a.gr.trans g1).trans (.newO g1.s hd)))
end
end Dh
end SDhExc

section SDhExc2
set_option Elab.async false
set_option linter.all false
set_option maxRecDepth 100000
set_option maxHeartbeats 4000000
local macro_rules | `(tactic| walk_at "bd") => `(tactic| first
  | exact Dh.b_in | exact Dh.b_notin | exact Dh.b_eqS | exact Dh.b_neS | exact Dh.b_isN | exact Dh.b_notN | exact Dh.b_add | exact Dh.b_sub | exact Dh.b_lt | exact Dh.b_le | exact Dh.b_gt | exact Dh.b_ge | exact Dh.b_eqI | exact Dh.b_neI | exact Dh.b_eqB | exact Dh.b_neB)
local macro_rules | `(tactic| walk_at "xd") => `(tactic| first | exact Dh.ix_t rfl | exact Dh.ix_l rfl)
namespace Dh
open PySem PySem.Spec PyProof.Rows L2

theorem wlk_good {D : Dia} : ∀ (t : List Nat) (s : Sta), Gd D s → Gd D (wlk D s t).2.1
  | [], s, g => g
  | c :: t, s, g => by
    cases e : step D s c with
    | fault w => rw [wlk_fault e]; exact g
    | go k s' => rw [wlk_go e]; exact wlk_good t s' (step_good g e)
theorem encW_non (w : Option Wd) : isNon (encW w) = decide (w = none) := by cases w <;> rfl
theorem ret_at {X : Cx} {B0 H0 : Hp} {G : List (Option Dt)} {O : List (Addr × Ob)} {rest : List Stmt} {D D2 : Ends} {e : Expr} {d : Dt} {R : Dt → Prop} {pos : Pos} {s : L2.St} {H : Hp} (h : EV X G e d) (q : Rt X.K B0 H0 R D.rt) (hD : D2.rt = D.rt) (hd : R d) (a : In X.K B0 H0 G O s H) : RunS X (.Return (some e) pos :: rest) D2 s H :=
  go_ret h (by rw [hD]; exact q) hd s H a
abbrev encAns : Option (List (List (List Nat))) → Dt := encO fun t => .lst (t.map encRow)
section
variable {P : Program} {w : World} {K : PySem.W.Frag} {mg : Str → Option Value} {base : Heap} {f C : Addr} {fd : FuncData} {A : Ad}
def resFur (r : List Kd × Sta × Option Wd) (d : Dt) : Prop := if okW r = true then d = .non else ∃ a b c, d = .tup [.int a, .int b, .str c]
abbrev spFur (K : PySem.W.Frag) (A : Ad) : Sp := spT K (T := Dia × List Nat) (fun i => [encD A i.1, .str (S i.2)]) (fun i => Ok i.1 ∧ TxSg i.2) (fun i d => resFur (wlk i.1 .row i.2) d)
theorem ok_furthest (F : FnP K "furthest" "furthest" s_furthest f fd) (T : Tx K mg A) (F_w : Cal P w K mg base 5 "walked" ["dialect", "text"] (spWalked K A)) : FnOk P w K mg base CX0 6 f fd ["dialect", "text"] (spFur K A) := by
  refine fn_ok F sc_furthest (fun _ => rfl) fun ⟨D, t⟩ cdv A' outer sh H0 E B0 D' hr hp hn hQ => ?_
  obtain ⟨ok, hp⟩ := hp
  have ok : Ok D := ok
  have hp : TxSg t := hp
  have gd := gd_ok ok (wlk_good (D := D) t .row trivial)
  have hQ : Rt K B0 H0 (fun d => resFur (wlk D .row t) d) D'.rt := hQ
  refine go_asg (ev_call F_w (hr.mono (by decide)) (evs_cons (ev_v 0 rfl) (evs_cons (ev_v 1 rfl) evs_nil)) (D, t) rfl rfl hp rfl) (tgt_tup rfl (tgts_cons (tgt_name (i := 2) sc_furthest.nd rfl (.inl rfl)) (tgts_cons (tgt_name (i := 3) sc_furthest.nd rfl (.inl rfl)) (tgts_cons (tgt_name (i := 4) sc_furthest.nd rfl (.inl rfl)) tgts_nil)))) ?_
  show Go _ B0 H0 [some (encD A D), some (.str (S t)), some (.lst (encKs (wlk D .row t).1)), some (encS (wlk D .row t).2.1), some (encW (wlk D .row t).2.2)] [] _ _
  generalize wlk D .row t = r at gd hQ
  have e0 : okW r = (isNon (encW r.2.2) && decide (r.2.1 = .row)) := by rw [encW_non]; rfl
  refine go_if0 (EW.pt (ew_and (et_cmp (ev_v 4 rfl) ev_non (by walk_at "bd") (nomark _)) fun h => (ew_and1 (et_cmp (ev_v 3 rfl) (ev_gl T.cSTART rfl) (b_eqT hr.units ed_sta (by decide) gd trivial) (nomark _))))) (fun h => ?_) (fun h => ?_)
  · refine go_ret ev_non hQ ?_
    unfold resFur
    rw [e0, if_pos h]
  · have fin : ∀ c, Go (cxOf CX0 P w K mg base ["dialect", "text", "kinds", "state", "word"] "furthest" (defScope s_furthest) f cdv A' outer sh H0 E).nox B0 H0 [some (encD A D), some (.str (S t)), some (.lst (encKs r.1)), some (encS r.2.1), some (.str c)] [] ((defBody s_furthest).drop 3) D' := fun c => by
      have ek : Dt.lst (encKs r.1) = .lst ((r.1.map kds).map .str) := by unfold encKs; rw [List.map_map]; rfl
      refine go_ret (ev_tup (evs_cons (ev_callB c_lenL rfl T.b_len boot_len (evs_cons (ev_v 2 rfl) evs_nil)) (evs_cons (ev_scount (ns := r.1.map kds) (EV.to (ev_v 2 rfl) ek) ev_str) (evs_cons (ev_v 4 rfl) evs_nil)))) hQ ?_
      unfold resFur
      rw [e0, if_neg (by rw [h]; exact Bool.false_ne_true)]
      exact ⟨_, _, _, rfl⟩
    obtain ⟨ks, s, wd⟩ := r
    cases wd with
    | none =>
      refine go_ifT (et_cmp (ev_v 4 rfl) ev_non (by walk_at "bd") (nomark _)) rfl ?_
      refine go_set (i := 4) ev_str ?_ sc_furthest.nd rfl (.inl rfl)
      exact go_done (fin "cut") rfl
    | some wd =>
      refine go_ifN (et_cmp (ev_v 4 rfl) ev_non (by walk_at "bd") (nomark _)) rfl ?_
      exact fin (wds wd)
abbrev spRead (K : PySem.W.Frag) (A : Ad) (C : Addr) : Sp := spTX K C (T := Dia × List Nat) (fun i => [encD A i.1, .str (S i.2)]) (fun i => Ok i.1 ∧ TxSg i.2) (fun i d => ∃ t, ans i.1 i.2 = some t ∧ d = encTab t) (fun i => ans i.1 i.2 = none)
theorem ok_read (F : FnP K "read" "read" s_read f fd) (T : Tx K mg A) (T' : BrT K mg C) {fI : Addr} {fdI : FuncData} (iC : PySem.W.findIn K (.ref C) "__init__" = some (some (.ref fI))) (tI : PySem.W.typeIn K (.ref fI) = some (.type "function")) (F1 : FnOk P w K mg base CX0 1 fI fdI ["self", "row", "place", "word"] (spBr C)) (hB : Binds K fdI ["self", "row", "place", "word"] [])
    (F_fur : Cal P w K mg base 6 "furthest" ["dialect", "text"] (spFur K A)) (F_k : Cal P w K mg base 6 "kinds_of" ["dialect", "text"] (spKinds K A)) (F_t : Cal P w K mg base 1 "table_of" ["text", "kinds"] (spTable K)) : FnOk P w K mg base (L2.CX P w) 7 f fd ["dialect", "text"] (spRead K A C) := by
  refine fn_okX F sc_read (fun _ => rfl) fun ⟨D, t⟩ cdv A' outer sh H0 E B0 D' hr hp hn hQ hE => ?_
  obtain ⟨ok, hp⟩ := hp
  have ok : Ok D := ok
  have hp : TxSg t := hp
  have r6 : Room 6 _ := hr.mono (by decide)
  have r1 : Room 1 _ := hr.mono (by decide)
  have r2 : Room 2 _ := hr.mono (by decide)
  refine go_setR (i := 2) (ev_callR F_fur r6 (evs_cons (ev_v 0 rfl) (evs_cons (ev_v 1 rfl) evs_nil)) (D, t) rfl ⟨ok, hp⟩ rfl) (fun d hd => ?_) sc_read.nd rfl (.inl rfl)
  have hd : resFur (wlk D .row t) d := hd
  unfold resFur at hd
  by_cases h : okW (wlk D .row t) = true
  · rw [if_pos h] at hd
    subst hd
    refine go_ifN (et_cmp (ev_v 2 rfl) ev_non (by walk_at "bd") (nomark _)) rfl ?_
    refine go_ret (ev_call F_t r1 (evs_cons (ev_v 1 rfl) (evs_cons (ev_call F_k r6 (evs_cons (ev_v 0 rfl) (evs_cons (ev_v 1 rfl) evs_nil)) (D, t) rfl rfl hp rfl) evs_nil)) (t, (wlk D .row t).1) rfl rfl hp.2 rfl) hQ ?_
    refine ⟨tabGo [] [] (outs t (wlk D .row t).1), ?_, rfl⟩
    show ans D t = _
    rw [ans_wlk, if_pos h]
  · rw [if_neg h] at hd
    obtain ⟨a, b, c, rfl⟩ := hd
    refine go_ifT (et_cmp (ev_v 2 rfl) ev_non (by walk_at "bd") (nomark _)) rfl ?_
    refine go_raise T' iC tI F1 hB r2 rfl (evs_cons (ev_ix (ev_v 2 rfl) ev_int (by walk_at "xd") (fun _ _ => rfl)) (evs_cons (ev_ix (ev_v 2 rfl) ev_int (by walk_at "xd") (fun _ _ => rfl)) (evs_cons (ev_ix (ev_v 2 rfl) ev_int (by walk_at "xd") (fun _ _ => rfl)) evs_nil))) (hE ?_)
    show ans D t = none
    rw [ans_wlk, if_neg h]
abbrev CalRead (P : Program) (w : World) (K : PySem.W.Frag) (mg : Str → Option Value) (base : Heap) (A : Ad) (C : Addr) : Prop := ∃ (f : Addr) (fd : FuncData), FnOk P w K mg base (L2.CX P w) 7 f fd ["dialect", "text"] (spRead K A C) ∧ mg "read" = some (.ref f) ∧ PySem.W.keepIn K (.ref f) = true ∧ Binds K fd ["dialect", "text"] []
abbrev spAns (K : PySem.W.Frag) (A : Ad) : Sp := spT K (T := Dia × List Nat) (fun i => [encD A i.1, .str (S i.2)]) (fun i => Ok i.1 ∧ TxSg i.2) (fun i d => d = encAns (ans i.1 i.2))
theorem ok_answer_of (F : FnP K "answer_of" "answer_of" s_answer_of f fd) (T' : BrT K mg C) (F_read : CalRead P w K mg base A C) : FnOk P w K mg base CX0 8 f fd ["dialect", "text"] (spAns K A) := by
  refine fn_ok F sc_answer_of (fun _ => rfl) fun ⟨D, t⟩ cdv A' outer sh H0 E B0 D' hr hp hn hQ => ?_
  obtain ⟨fr, fdr, Fr, gr, kr, br⟩ := F_read
  have hp' := hp
  obtain ⟨ok, hp⟩ := hp
  have r7 : Room 7 _ := hr.mono (by decide)
  intro s H a
  refine run_c (ps_try_onlyE (x := "Broken") (c := .ref C) (Wout := fun _ _ _ _ => False) (u := fun D s H => RunS _ _ D s H) (tb := fun W D s H => ∀ pn xe, Takes (Cx.tr _ pn xe) W → RunS (Cx.tr _ pn xe) _ D s H) (ts := fun a cls d D s H => ∀ oe pn, Zc cls d oe → RunS (Cx.suite _ a ((a, oe) :: pn)) _ D s H)
    pss_wk rfl rfl ⟨rfl, by decide, .inl T'.gC⟩ L2.takes0 (fun W pn xe tk _ => ⟨fun pins sh σ H D I h => (h pn xe tk).run pins sh I⟩) (fun a oe cls d pn hz _ => ⟨fun pins sh σ H D I h => (h oe pn hz).run pins sh I⟩)) ?_
  intro pn xe tk
  obtain ⟨B, a⟩ := a
  refine run_c (ps_set (i := 2) sc_answer_of.nd rfl (.inl rfl) (pe_callS Fr r7 rfl gr kr br (fun σ => passAt tk σ) pa_wk)) ?_
  refine (evs_cons (ev_v 0 rfl) (evs_cons (ev_v 1 rfl) evs_nil) : EVs (Cx.tr (cxOf CX0 P w K mg base ["dialect", "text", "table"] "answer_of" (defScope s_answer_of) f cdv A' outer sh H0 E).nox pn xe) [some (encD A D), some (.str (S t)), none] _ [encD A D, .str (S t)]) s B H a.sl a.gr.s _ fun vs B1 H1 g1 r1 => ?_
  refine ⟨(D, t), B1, hp', g1.s, r1, fun d v B2 H2 hd g2 r2 => ?_, fun hf dd B2 H2 g2 => ?_⟩
  · obtain ⟨tb, e, rfl⟩ := hd
    have a2 : At K B0 H0 B2 [some (encD A D), some (.str (S t)), some (encTab tb)] [] _ H2 := ((a.grow g1).grow g2).set r2 2
    refine run_s pss_nil ?_
    have hd : (fun d => d = encAns (ans D t)) (encTab tb) := by
      show _ = encAns (ans D t)
      rw [show ans D t = some tb from e]
      rfl
    show RunS _ _ _ _ _
    exact ret_at (O := []) (G := [some (encD A D), some (.str (S t)), some (encTab tb)]) (ev_v 2 rfl) hQ rfl hd ⟨B2, a2⟩
  · refine ⟨true, T'.exm, fun _ x hx oe pn2 hz => ?_, fun q => nomatch q⟩
    have a2 := (a.grow g1).grow g2
    have hd : (fun d => d = encAns (ans D t)) .non := by
      show _ = encAns (ans D t)
      rw [show ans D t = none from hf]
      rfl
    show RunS _ _ _ _ _
    exact ret_at (O := []) ev_non hQ rfl hd ⟨B2, a2⟩
end
end Dh
end SDhExc2

section SDhOwn
set_option Elab.async false
set_option linter.all false
set_option maxRecDepth 100000
set_option maxHeartbeats 4000000
/-! A list of own lists: walked, grown, given away. -/
namespace Dh
open PySem PySem.Spec PyProof.Rows L2
section
variable {X : Cx} {B0 H0 : Hp} {G G' : List (Option Dt)} {O O' : List (Addr × Ob)} {rest body els : List Stmt} {D : Ends} {e o c tg iter : Expr} {d : Dt} {ds : List Dt} {es : List Expr} {pos px lpos : Pos} {x : Str} {i j : Nat} {p : Addr} {b : Bool}
/-- for tg in an own list, which the body leaves as it is -/
theorem go_forOwn (hp : PassesOwn (model X.prog X.w) X.A X.env X.xe) (hc : X.calm = true) (hi : EV X G iter (.raw (.ref p))) (hj : O[j]? = some (p, .lst ds)) (W : Nat → List (Option Dt) → List (Addr × Ob) → Prop) (w0 : W 0 G O) (hO : ∀ k G1 O1, W k G1 O1 → ∃ j' : Nat, O1[j']? = some (p, Ob.lst ds))
    (hs : ∀ B1, Up B0 H0 B1 → ∀ (k : Nat) (d : Dt) G1 O1, ds[k]? = some d → W k G1 O1 → ∃ G2, TGT X G1 tg d G2 ∧ Go X B1 H0 G2 O1 body { D with nx := InW X.K B1 H0 (W (k + 1)), ct := InW X.K B1 H0 (W (k + 1)), bk := fun s H => RunS X rest D s H })
    (hd : ∀ G1 O1, W ds.length G1 O1 → Go X B0 H0 G1 O1 rest D) (hf : ∀ x, foldedSetIterable iter X.env x = pure x := by intro _; rfl) : Go X B0 H0 G O (.For tg iter body [] pos :: rest) D := fun s H ⟨B, a⟩ =>
  run_c (ps_for hp hc (pi_list pe_wk) pg_wk pss_wk hf) (hi s B H a.sl a.gr.s _ fun v B1 H1 g1 r1 => by
    have a1 := a.grow g1
    obtain rfl : v = .ref p := r1
    obtain ⟨_, _, xs0, hx0, rx0⟩ := a1.ow p _ (List.mem_of_getElem? hj)
    refine ⟨p, rfl, ⟨xs0, .of hx0⟩, ?_⟩
    have wk : Walk (Itl X.K p) ds.length (fun H => ∃ xs, H p = some (.lst xs) ∧ xs.length = ds.length) (fun i H x H' => H' = H ∧ ∀ xs, H p = some (.lst xs) → xs[i]? = some x) :=
      ⟨fun i H hi ⟨xs, h1, h2⟩ => ⟨xs, xs[i]'(by omega), .of h1, by simp⟩, fun H ⟨xs, h1, h2⟩ => ⟨xs, .of h1, by omega⟩, fun i H x H' hi h y => ⟨y.1, fun xs h1 => y.2 xs (.of h1)⟩⟩
    have there : ∀ k s H, InW X.K B1 H0 (W k) s H → ∃ xs, H p = some (.lst xs) ∧ xs.length = ds.length := by
      rintro k s H ⟨G2, O2, w2, B2, a2⟩
      obtain ⟨j', hj'⟩ := hO k G2 O2 w2
      obtain ⟨_, _, xs, hx, rx⟩ := a2.ow p _ (List.mem_of_getElem? hj')
      exact ⟨xs, hx, rx.length⟩
    refine for_it (g := fun v s H Q => RunG X tg v Q s H) (tb := fun D s H => RunS X body D s H) wk (fun k s H => InW X.K B1 H0 (W k) s H) ⟨G, O, w0, B1, a1.root⟩ (fun k s H _ q => there k s H q) ?_ ?_
    · rintro k v s1 H2 H3 hk ⟨G2, O2, w2, B2, a2⟩ ⟨rfl, hv⟩
      obtain ⟨j', hj'⟩ := hO k G2 O2 w2
      obtain ⟨_, _, xs, hx, rx⟩ := a2.ow p _ (List.mem_of_getElem? hj')
      obtain ⟨d', hd', rd⟩ := rx.getV (hv xs hx)
      obtain ⟨G4, ht, k'⟩ := hs B1 a1.up k d' G2 O2 hd' w2
      exact ht s1 B2 H3 v a2.sl a2.gr.s rd _ fun s' hs' => k' s' H3 ⟨B2, a2.slots hs'⟩
    · rintro s1 H2 ⟨G2, O2, w2, i2⟩
      exact hd G2 O2 w2 s1 H2 (a1.up.in_ i2))
/-- y.append([e, ..]): the new list is one's own -/
theorem go_appNew {dsi : List Dt} {apos cpos : Pos} (hy : EV X G o (.raw (.ref p))) (hj : O[j]? = some (p, .lst ds)) (h : EVs X G es dsi) (hz : ds.length < sizeLine) (k : ∀ q, Go X B0 H0 G ((q, .lst dsi) :: O.set j (p, .lst (ds ++ [.raw (.ref q)]))) rest D) (hl : Nat.ble dsi.length 1000 = true := by rfl)
    (hbase : attributeBase o "append" X.env (eval o X.env) = eval o X.env := by rfl)
    (hfew : ((backTo cpos (starEach (.List es lpos :: []) X.env)).all (fun x => !x.1) && (backToKw cpos (keywordEach [] X.env)).all (fun x => x.1.isSome)
      && decide ((Expr.List es lpos :: []).length + ([] : List Keyword).length + (if ([] : List Keyword).isEmpty then 0 else 1) < 30)) = true := by rfl)
    (hline : (apos.endLine == cpos.line) = true := by rfl) (hst : starEach (.List es lpos :: []) X.env = (false, eval (.List es lpos) X.env) :: starEach [] X.env := by rfl) (hplain : (backTo cpos (starEach [] X.env)).any (·.1) = false := by rfl)
    (hs : swapsWith (.Call (.Attribute o "append" apos) [.List es lpos] [] cpos) none pos.line X.env = pure false := by rfl) : Go X B0 H0 G O (.Expr (.Call (.Attribute o "append" apos) [.List es lpos] [] cpos) pos :: rest) D := fun s H ⟨B, a⟩ =>
  run_c (ps_expr (pe_bm PySem.F.plainAttrs_list PySem.F.slot_list_append PySem.F.type_list_append mt_append pe_wk (pa_cons (pe_lst pa_wk) pa_nil hst) hbase hfew hline hst hplain) hs) (hy s B H a.sl a.gr.s _ fun v B1 H1 g1 r1 => by
    have a1 := a.grow g1
    obtain ⟨b1, b2, xs, hx, rx⟩ := a1.ow p _ (List.mem_of_getElem? hj)
    rw [show v = .ref p from r1]
    refine ⟨.inl ⟨rfl, xs, .of hx⟩, h s B1 H1 a1.sl a1.gr.s _ fun vs B2 H2 g2 r2 => ⟨by rw [r2.length]; exact ble_line hl, fun q hq => ?_⟩⟩
    have a2 := a1.grow g2
    have hx2 : H2 p = some (.lst xs) := g2.h _ _ hx
    have a3 := a2.own (ob := .lst dsi) (o := .lst vs) hq ⟨vs, upd_same, r2⟩
    have ne : p ≠ q := fun z => by rw [z, hq] at hx2; cases hx2
    have hx3 : (upd H2 q (.lst vs)) p = some (.lst xs) := by rw [upd_ne ne]; exact hx2
    refine ⟨p, xs, .ref q, rfl, rfl, hx3, by rw [rx.length]; exact hz, ?_⟩
    have a4 := a3.put (j := j + 1) (p := p) (ob := .lst ds) (ob' := .lst (ds ++ [.raw (.ref q)])) (o := .lst (xs ++ [.ref q])) hj ⟨xs ++ [.ref q], upd_same, (rx.mono g2.b).snoc (d := .raw (.ref q)) (show Rep X.K B2 (.raw (.ref q)) (.ref q) from rfl)⟩
    exact k q _ _ ⟨_, a4⟩)
/-! ### == [] -/
theorem b_eqNil (hu : X.A.units + 64 < cLine) {l : List Dt} : BinD X (compareOp .Eq) (.lst l) (.lst []) (.bl l.isEmpty) := by
  intro B H x y Q e rx ry k pins s σ v u I r1 r2
  obtain ⟨a, xs, rfl, h1, h2⟩ := rx
  obtain ⟨b, ys, rfl, h3, h4⟩ := ry
  cases r1
  cases r2
  obtain ⟨its, rv, pl1, hz1⟩ := I.list (e.seq h1)
  obtain ⟨its2, rv2, pl2, hz2⟩ := I.list (e.seq h3)
  have q1 := rv.length
  have q2 := rv2.length
  have q3 := h2.length
  have q4 := h4.length
  have fin : EP X pins σ Q (.bool l.isEmpty) s := ⟨.bl l.isEmpty, H, I, rfl, k _ B H (.refl e) rfl⟩
  cases l with
  | nil =>
    have z1 : its.toArray.size = 0 := by rw [List.size_toArray]; rw [List.length_nil] at q3; omega
    have z2 : its2.toArray.size = 0 := by rw [List.size_toArray]; rw [List.length_nil] at q4; omega
    have := PySem.SeqAt.RcAt.lists (A := X.A) (s := s) (e := fun _ => true) pl1.isList pl2.isList (by rw [z1, z2]) (by omega) (fun j h _ => absurd h (by omega))
    refine this _ _ _ _ ?_
    rw [z1]
    exact fin
  | cons d l =>
    have z1 : (its.toArray.size != its2.toArray.size) = true := by
      rw [List.size_toArray, List.size_toArray]
      rw [List.length_cons] at q3
      rw [List.length_nil] at q4
      exact bne_iff_ne.mpr (by omega)
    exact PySem.SeqAt.RcAt.lists_lengths (A := X.A) (s := s) pl1.isList pl2.isList z1 (by omega) _ _ _ _ fin
end
/-! ### the whole given away -/
abbrev grpD (g : List Nat) : Dt := .lst (g.map fun n => .int (n : Nat))
abbrev oM (p : Addr) (qs : List Addr) (gs : List (List Nat)) : List (Addr × Ob) := (p, .lst (qs.map fun q => .raw (.ref q))) :: (qs.zip gs).map fun x => (x.1, .lst (x.2.map fun n => Dt.int (n : Nat)))
section
variable {K : PySem.W.Frag} {B0 H0 B H : Hp} {G G' : List (Option Dt)} {s : L2.St} {p : Addr} {qs : List Addr} {gs : List (List Nat)}
open Classical in
theorem At.frzM (a : At K B0 H0 B G (oM p qs gs) s H) (hl : qs.length = gs.length) (hG' : G'.length = G.length)
    (hG : ∀ (i : Nat) (d : Dt), G'[i]? = some (some d) → G[i]? = some (some d) ∨ (G[i]? = some (some (.raw (.ref p))) ∧ d = .lst (gs.map grpD))) : In K B0 H0 G' [] s H := by
  have vw := a.view (G' := G) Vw.refl
  obtain ⟨v1, v2, v3, _⟩ := vw
  refine ⟨joinB B H (oM p qs gs), ⟨⟨a.gr.b.trans v3, a.gr.h, v2, fun q hq => ?_⟩, ⟨hG'.trans a.sl.1, fun i d h => ?_⟩, fun q ob m => (by cases m), List.nodup_nil⟩⟩
  · rw [joinB_not, a.gr.k q hq]
    rintro ⟨ob, m⟩
    exact hq (a.ow q ob m).2.1
  · rcases hG i d h with h1 | ⟨h1, rfl⟩
    · exact v1.2 i d h1
    · obtain ⟨v, e1, e2⟩ := a.sl.2 i _ h1
      obtain rfl : v = .ref p := e2
      obtain ⟨_, _, xs, hx, rx⟩ := a.ow p _ (List.mem_cons_self)
      refine ⟨.ref p, e1, p, xs, rfl, .of ((joinB_own List.mem_cons_self rfl).trans hx), ?_⟩
      have xe : xs = qs.map V.ref := by
        have : (qs.map fun q => Dt.raw (.ref q)) = (qs.map V.ref).map Dt.raw := by rw [List.map_map]; rfl
        rw [this] at rx
        have : ∀ (vs xs : List V), RepAll K B (vs.map Dt.raw) xs → xs = vs := by
          intro vs
          induction vs with
          | nil => intro xs h; exact h
          | cons v vs ih =>
            intro xs h
            obtain ⟨w, r, rfl, h1, h2⟩ := h
            rw [show w = v from h1, ih r h2]
        exact this _ _ rx
      rw [xe]
      have : ∀ (qs : List Addr) (gs : List (List Nat)), qs.length = gs.length → (∀ q g, (q, g) ∈ qs.zip gs → ∃ ys, H q = some (.lst ys) ∧ (joinB B H (oM p qs gs)) q = H q ∨ True) → True := fun _ _ _ _ => trivial
      have each : ∀ (qs' : List Addr) (gs' : List (List Nat)), qs'.length = gs'.length → (∀ q g, (q, g) ∈ qs'.zip gs' → (q, Ob.lst (g.map fun n => Dt.int (n : Nat))) ∈ oM p qs gs) → RepAll K (joinB B H (oM p qs gs)) (gs'.map grpD) (qs'.map V.ref) := by
        intro qs'
        induction qs' with
        | nil =>
          intro gs' hl' _
          cases gs' with
          | nil => exact rfl
          | cons g gs' => simp at hl'
        | cons q qs' ih =>
          intro gs' hl' hm
          cases gs' with
          | nil => simp at hl'
          | cons g gs' =>
            have m := hm q g (by rw [List.zip_cons_cons]; exact List.mem_cons_self)
            obtain ⟨_, _, ys, hy, ry⟩ := a.ow q _ m
            exact ⟨.ref q, qs'.map V.ref, rfl, ⟨q, ys, rfl, .of ((joinB_own m rfl).trans hy), ry.mono v3⟩, ih gs' (by simpa using hl') fun q' g' m' => hm q' g' (by rw [List.zip_cons_cons]; exact List.mem_cons_of_mem _ m')⟩
      exact each qs gs hl fun q g m => List.mem_cons_of_mem _ (List.mem_map.mpr ⟨(q, g), m, rfl⟩)
end
theorem go_frzM {X : Cx} {B0 H0 : Hp} {G G' : List (Option Dt)} {sts : List Stmt} {D : Ends} {p : Addr} {qs : List Addr} {gs : List (List Nat)} (hl : qs.length = gs.length) (hG' : G'.length = G.length)
    (hG : ∀ (i : Nat) (d : Dt), G'[i]? = some (some d) → G[i]? = some (some d) ∨ (G[i]? = some (some (.raw (.ref p))) ∧ d = .lst (gs.map grpD))) (k : Go X B0 H0 G' [] sts D) : Go X B0 H0 G (oM p qs gs) sts D := fun s H ⟨B, a⟩ => k _ _ (a.frzM hl hG' hG)
end Dh
end SDhOwn

section SDhGroups
set_option Elab.async false
set_option linter.all false
set_option maxRecDepth 100000
set_option maxHeartbeats 4000000
local macro_rules | `(tactic| walk_at "bd") => `(tactic| first
  | exact Dh.b_in | exact Dh.b_notin | exact Dh.b_eqS | exact Dh.b_neS | exact Dh.b_isN | exact Dh.b_notN | exact Dh.b_add | exact Dh.b_sub | exact Dh.b_lt | exact Dh.b_le | exact Dh.b_gt | exact Dh.b_ge | exact Dh.b_eqI | exact Dh.b_neI | exact Dh.b_eqB | exact Dh.b_neB)
local macro_rules | `(tactic| walk_at "xd") => `(tactic| first | exact Dh.ix_t rfl | exact Dh.ix_l rfl)
namespace Dh
open PySem PySem.Spec PyProof.Rows L2

/-! ### lists of own lists -/
section
variable {X : Cx} {B0 H0 : Hp} {G : List (Option Dt)} {O O' : List (Addr × Ob)} {sts : List Stmt} {D : Ends} {p q : Addr} {qs : List Addr} {gs : List (List Nat)}
theorem go_perm (h : O.Perm O') (k : Go X B0 H0 G O' sts D) : Go X B0 H0 G O sts D := fun s H ⟨B, a⟩ =>
  k s H ⟨B, a.gr, a.sl, fun p ob m => a.ow p ob (h.mem_iff.mpr m), (h.map _).nodup_iff.mp a.nd⟩
theorem oM_new {n : Nat} (hl : qs.length = gs.length) : ((q, Ob.lst [.int (n : Nat)]) :: (oM p qs gs).set 0 (p, .lst ((qs.map fun q => Dt.raw (.ref q)) ++ [.raw (.ref q)]))).Perm (oM p (qs ++ [q]) (gs ++ [[n]])) := by
  unfold oM
  rw [List.set_cons_zero, List.zip_append hl, List.map_append, List.map_append]
  show ((q, Ob.lst [.int (n : Nat)]) :: (p, _) :: _).Perm ((p, _) :: _)
  refine (List.Perm.swap _ _ _).trans (List.Perm.cons _ ?_)
  exact (List.perm_append_comm (l₁ := [(q, Ob.lst [.int (n : Nat)])]))
theorem oM_get {i : Nat} {g : List Nat} (hq : qs[i]? = some q) (hg : gs[i]? = some g) : (oM p qs gs)[i + 1]? = some (q, .lst (g.map fun n => Dt.int (n : Nat))) := by
  unfold oM
  rw [List.getElem?_cons_succ, List.getElem?_map]
  have : (qs.zip gs)[i]? = some (q, g) := by
    rw [List.getElem?_zip_eq_some]
    exact ⟨hq, hg⟩
  rw [this]; rfl
theorem oM_app {i n : Nat} {g : List Nat} (hq : qs[i]? = some q) (hg : gs[i]? = some g) : (oM p qs gs).set (i + 1) (q, .lst ((g.map fun n => Dt.int (n : Nat)) ++ [.int (n : Nat)])) = oM p qs (gs.modify i (· ++ [n])) := by
  unfold oM
  rw [List.set_cons_succ]
  congr 1
  apply List.ext_getElem?
  intro k
  rw [List.getElem?_set, List.getElem?_map, List.getElem?_map]
  have z : ∀ (qs : List Addr) (gs : List (List Nat)) (k : Nat), (qs.zip gs)[k]? = (qs[k]?).bind fun a => (gs[k]?).map fun b => (a, b) := by
    intro qs gs k
    cases e1 : qs[k]? with
    | none =>
      show _ = none
      rw [List.getElem?_eq_none]
      rw [List.length_zip]
      have := List.getElem?_eq_none_iff.mp e1
      omega
    | some a =>
      cases e2 : gs[k]? with
      | none =>
        show _ = none
        rw [List.getElem?_eq_none]
        rw [List.length_zip]
        have := List.getElem?_eq_none_iff.mp e2
        omega
      | some b => exact List.getElem?_zip_eq_some.mpr ⟨e1, e2⟩
  rw [z, z, List.getElem?_modify]
  by_cases e : i = k
  · subst e
    have l1 := (List.getElem?_eq_some_iff.mp hq).1
    have l2 := (List.getElem?_eq_some_iff.mp hg).1
    rw [if_pos rfl, hq, hg]
    simp only [List.length_map, List.length_zip]
    rw [if_pos (by omega)]
    simp
  · rw [if_neg e]
    simp [e]
end
theorem et_cmpR' {X : Cx} {G : List (Option Dt)} {a b : Expr} {op : CmpOp} {R : Dt → Prop} {d2 : Dt} {t : Bool} {pos : Pos} (ha : EVR X G a R) (hb : EV X G b d2) (hf : ∀ d, R d → BinD X (compareOp op) d d2 (.bl t)) (hm : behindInMarks op b = false) : ET X G (.Compare a [op] [b] pos) t :=
  fun s B H hs e Q q => run_t (pt_cmpR (opr _) pe_wk pe_wk hm) (ha s B H hs e _ fun d x B1 H1 hd g1 r1 => hb s B1 H1 (hs.mono g1.b) g1.s _ fun y B2 H2 g2 r2 =>
    hf d hd B2 H2 x y _ g2.s (r1.mono g2.b) r2 fun v B3 H3 g3 r3 => ⟨t, r3, q B3 H3 ((g1.trans g2).trans g3)⟩)
/-! ### alike, by places -/
noncomputable def alI (Ds : List Dia) (i j : Nat) : Bool := match Ds[i]?, Ds[j]? with
  | some a, some b => alk a b
  | _, _ => decide (i = j)
theorem alI_at {Ds : List Dia} {i j : Nat} {a b : Dia} (h : Ds[i]? = some a) (k : Ds[j]? = some b) : alI Ds i j = alk a b := by unfold alI; rw [h, k]
theorem alI_eqv (Ds : List Dia) : Eqv (alI Ds) := by
  refine ⟨fun i => ?_, fun i j h => ?_, fun i j k h h' => ?_⟩
  · unfold alI
    cases Ds[i]? with
    | none => exact decide_eq_true rfl
    | some a => exact alk_iff.mpr (Alike.refl a)
  · unfold alI at h ⊢
    cases e1 : Ds[i]? <;> cases e2 : Ds[j]? <;> rw [e1, e2] at h
    · exact decide_eq_true (of_decide_eq_true h).symm
    · exact decide_eq_true (of_decide_eq_true h).symm
    · exact decide_eq_true (of_decide_eq_true h).symm
    · exact alk_iff.mpr (alk_iff.mp h).symm
  · unfold alI at h h' ⊢
    cases e1 : Ds[i]? <;> cases e2 : Ds[j]? <;> cases e3 : Ds[k]? <;> rw [e1, e2] at h <;> rw [e2, e3] at h' <;> first
      | exact alk_iff.mpr ((alk_iff.mp h).trans (alk_iff.mp h'))
      | exact decide_eq_true ((of_decide_eq_true h).trans (of_decide_eq_true h'))
      | (have q := of_decide_eq_true h; subst q; rw [e1] at e2; cases e2)
      | (have q := of_decide_eq_true h'; subst q; rw [e2] at e3; cases e3)
section
variable {P : Program} {w : World} {K : PySem.W.Frag} {mg : Str → Option Value} {base : Heap} {f : Addr} {fd : FuncData} {A : Ad}
abbrev spFew (K : PySem.W.Frag) : Sp := spT K (T := List Dt × Nat) (fun i => [.lst i.1, .int (i.2 : Nat)]) (fun i => i.1.length ≤ i.2) (fun _ d => d = .non)
theorem ok_need_few (F : FnP K "need_few" "need_few" s_need_few f fd) (T : Tx K mg A) : FnOk P w K mg base CX0 1 f fd ["dialects", "most"] (spFew K) := by
  refine fn_ok F sc_need_few (fun _ => rfl) fun ⟨l, m⟩ cdv A' outer sh H0 E B0 D' hr hp hn hQ => ?_
  have hp : l.length ≤ m := hp
  refine go_ifN (et_cmp (ev_callB c_lenL rfl T.b_len boot_len (evs_cons (ev_v 0 rfl) evs_nil)) (ev_v 1 rfl) (by walk_at "bd") (nomark _)) (decide_eq_false (by omega)) ?_
  exact go_nil fun s H ⟨B, a⟩ => hn B H a.gr rfl s
abbrev spPg (K : PySem.W.Frag) (A : Ad) : Sp := spT K (T := Dia × Dia) (fun i => [encD A i.1, encD A i.2]) (fun i => Ok i.1 ∧ Ok i.2) (fun i d => ∃ r, CmpR i.1 i.2 r ∧ d = encM r)
theorem ok_parting_g (F : FnP K "parting" "parting" s_parting_g f fd) (F_c : Cal P w K mg base 6 "compare" ["one", "other"] (spCompare K A)) : FnOk P w K mg base CX0 7 f fd ["one", "other"] (spPg K A) := by
  refine fn_ok F sc_parting_g (fun _ => rfl) fun ⟨D1, D2⟩ cdv A' outer sh H0 E B0 D' hr hp hn hQ => ?_
  refine go_setR (i := 2) (ev_callR F_c (hr.mono (by decide)) (evs_cons (ev_v 0 rfl) (evs_cons (ev_v 1 rfl) evs_nil)) (D1, D2) rfl hp rfl) (fun d hd => ?_) sc_parting_g.nd rfl (.inl rfl)
  obtain ⟨r, hr', hm⟩ := hd
  cases r with
  | none =>
    obtain ⟨v, rfl⟩ := hm
    refine go_ifN (ET.to (et_cmp (ev_ix (ev_v 2 rfl) ev_int (by walk_at "xd") (fun _ _ => rfl)) ev_str (by walk_at "bd") (nomark _)) (by decide +kernel)) rfl ?_
    exact go_ret ev_non hQ ⟨none, hr', rfl⟩
  | some m =>
    have hm : d = .tup [.str "parted", .str (S m)] := hm
    subst hm
    refine go_ifT (ET.to (et_cmp (ev_ix (ev_v 2 rfl) ev_int (by walk_at "xd") (fun _ _ => rfl)) ev_str (by walk_at "bd") (nomark _)) (by decide +kernel)) rfl ?_
    exact go_ret (ev_ix (ev_v 2 rfl) ev_int (by walk_at "xd") (fun _ _ => rfl)) hQ ⟨some m, hr', rfl⟩
theorem pgo_succ {al : Nat → Nat → Bool} (j : Nat) : pgo al (List.range (j + 1)) = addG al (pgo al (List.range j)) j := by
  unfold pgo
  rw [List.range_succ, List.foldl_append]; rfl
/-- the group that was found among the first k -/
def cur (al : Nat → Nat → Bool) (qs : List Addr) (gs : List (List Nat)) (p k : Nat) : Dt := match (gs.take k).findIdx? fun g => al (g.headD 0) p with
  | none => .non
  | some i => .raw (.ref (qs.getD i 0))
abbrev spGroups (K : PySem.W.Frag) (A : Ad) : Sp := spT K (T := List Dia) (fun Ds => [.lst (Ds.map (encD A))]) (fun Ds => Ds.length ≤ 8 ∧ ∀ D ∈ Ds, Ok D) (fun Ds d => d = .lst ((pgo (alI Ds) (List.range Ds.length)).map grpD))
theorem pairE_get {A : Ad} {Ds : List Dia} {j : Nat} {d : Dt} (h : (pairD (rng (Ds.map (encD A)).length) (Ds.map (encD A)))[j]? = some d) : ∃ D, Ds[j]? = some D ∧ d = .tup [.int (j : Nat), encD A D] := by
  unfold pairD rng at h
  rw [List.getElem?_zipWith, List.getElem?_map, List.getElem?_map, List.length_map] at h
  cases e : Ds[j]? with
  | none => rw [e] at h; cases e2 : (List.range Ds.length)[j]? <;> rw [e2] at h <;> cases h
  | some D =>
    have hj := (List.getElem?_eq_some_iff.mp e).1
    rw [List.getElem?_range hj, e] at h
    cases h
    exact ⟨D, rfl, rfl⟩
theorem ok_groups (F : FnP K "groups" "groups" s_groups f fd) (T : Tx K mg A) (F_few : Cal P w K mg base 1 "need_few" ["dialects", "most"] (spFew K)) (F_pg : Cal P w K mg base 7 "parting_groups" ["one", "other"] (spPg K A)) : FnOk P w K mg base CX0 8 f fd ["dialects"] (spGroups K A) := by
  refine fn_ok F sc_groups (fun _ => rfl) fun Ds cdv A' outer sh H0 E B0 D' hr hp hn hQ => ?_
  obtain ⟨len, ok⟩ := hp
  have r1 : Room 1 _ := hr.mono (by decide)
  have r7 : Room 7 _ := hr.mono (by decide)
  have big : ∀ n, n ≤ 100 → n < sizeLine := fun n h => Nat.lt_of_lt_of_le (m := 101) (by omega) (sl_small (by decide))
  refine go_exprR (EV.r (ev_call F_few r1 (evs_cons (ev_v 0 rfl) (evs_cons (EV.to (ev_gl T.cMOST rfl) (show Dt.int 12 = .int ((12 : Nat) : Int) from rfl)) evs_nil)) (Ds.map (encD A), 12) rfl rfl (by show (Ds.map (encD A)).length ≤ 12; rw [List.length_map]; omega) rfl)) ?_
  refine go_new (i := 1) evs_nil (fun p1 => ?_) sc_groups.nd rfl (.inl rfl)
  refine go_for PassesOwn.never rfl (pit_enum (ds := Ds.map (encD A)) (ev_v 0 rfl) rfl T.b_enumerate) (fun j G O => ∃ qs x2 x3 x4 x5, qs.length = (pgo (alI Ds) (List.range j)).length ∧ G = [some (.lst (Ds.map (encD A))), some (.raw (.ref p1)), x2, x3, x4, x5] ∧ O = oM p1 qs (pgo (alI Ds) (List.range j)))
    ⟨[], none, none, none, none, rfl, rfl, rfl⟩ (fun B1 u j d G1 O1 hd W => ?_) (fun G1 O1 W => ?_)
  · obtain ⟨qs, x2, x3, x4, x5, ql, rfl, rfl⟩ := W
    obtain ⟨D, hD, rfl⟩ := pairE_get hd
    have hj := (List.getElem?_eq_some_iff.mp hD).1
    have okD : Ok D := ok D (List.mem_of_getElem? hD)
    have PG := pg_go (alI_eqv Ds) (List.range j)
    have gl := pgo_len (alI_eqv Ds) (List.range j)
    rw [List.length_range] at gl
    rw [pgo_succ]
    generalize pgo (alI Ds) (List.range j) = gs at ql PG gl
    refine ⟨_, (tgt_tup rfl (tgts_cons (tgt_name (i := 2) sc_groups.nd rfl (.inl rfl)) (tgts_cons (tgt_name (i := 3) sc_groups.nd rfl (.inl rfl)) tgts_nil))), ?_⟩
    refine go_set (i := 4) ev_non ?_ sc_groups.nd rfl (.inl rfl)
    refine go_forOwn (ds := qs.map fun q => .raw (.ref q)) (j := 0) PassesOwn.never rfl (ev_v 1 rfl) rfl (fun k G O => ∃ x5, G = [some (.lst (Ds.map (encD A))), some (.raw (.ref p1)), some (.int (j : Nat)), some (encD A D), some (cur (alI Ds) qs gs j k), x5] ∧ O = oM p1 qs gs)
      ⟨x5, by unfold cur; rw [List.take_zero]; rfl, rfl⟩ (fun k G1 O1 ⟨x5, e1, e2⟩ => ⟨0, by rw [e2]; rfl⟩) (fun B2 u2 k d G1 O1 hd W => ?_) (fun G1 O1 W => ?_)
    · obtain ⟨x5, rfl, rfl⟩ := W
      obtain ⟨q, hq, rfl⟩ := map_get hd
      have hk : k < gs.length := by rw [← ql]; exact (List.getElem?_eq_some_iff.mp hq).1
      have hg : gs[k]? = some gs[k] := List.getElem?_eq_getElem hk
      generalize gs[k] = g at hg
      have hgm := List.mem_of_getElem? hg
      have hh := PG.head hgm
      have hhj := List.mem_range.mp hh.2
      have hDg : Ds[g.headD 0]? = some Ds[g.headD 0] := List.getElem?_eq_getElem (by omega)
      generalize Ds[g.headD 0] = Dg at hDg
      have okg : Ok Dg := ok Dg (List.mem_of_getElem? hDg)
      have al1 : alI Ds (g.headD 0) j = alk Dg D := alI_at hDg hD
      have nx : cur (alI Ds) qs gs j (k + 1) = if isNon (cur (alI Ds) qs gs j k) = true ∧ alI Ds (g.headD 0) j = true then .raw (.ref q) else cur (alI Ds) qs gs j k := by
        unfold cur
        rw [take_snoc hg, List.findIdx?_append]
        have tl : (gs.take k).length = k := by rw [List.length_take]; omega
        cases e : (gs.take k).findIdx? fun g => alI Ds (g.headD 0) j with
        | some i =>
          show Dt.raw _ = if isNon (.raw (.ref _)) = true ∧ _ then _ else Dt.raw _
          rw [if_neg (fun z => Bool.false_ne_true z.1)]
        | none =>
          by_cases z : alI Ds (g.headD 0) j = true
          · rw [if_pos ⟨rfl, z⟩]
            have : ([g].findIdx? fun g => alI Ds (g.headD 0) j) = some 0 := by rw [List.findIdx?_cons]; exact if_pos z
            rw [this]
            show Dt.raw (.ref (qs.getD (0 + (gs.take k).length) 0)) = _
            rw [tl, Nat.zero_add, List.getD_eq_getElem?_getD, hq]; rfl
          · rw [if_neg (fun y => z y.2)]
            have : ([g].findIdx? fun g => alI Ds (g.headD 0) j) = none := by rw [List.findIdx?_cons, if_neg z]; rfl
            rw [this]; rfl
      refine ⟨_, (tgt_name (i := 5) sc_groups.nd rfl (.inl rfl)), ?_⟩
      have ixg : atI (g.map fun n => Dt.int (n : Nat)) 0 = some (.int ((g.headD 0 : Nat) : Int)) := by
        cases g with
        | nil => exact absurd rfl (PG.ne _ hgm)
        | cons x r => exact atI_nat (j := 0) rfl
      have ixD : atI (Ds.map (encD A)) ((g.headD 0 : Nat) : Int) = some (encD A Dg) := by
        rw [atI_nat' (by rw [List.length_map]; omega), List.getElem?_map, hDg]; rfl
      refine go_if0V (Vw.refl.set (j := k + 1) (i := 5) (oM_get hq hg) rfl rfl) (EW.pt (ew_and (et_cmp (ev_v 4 rfl) ev_non (by walk_at "bd") (nomark _)) fun h => (ew_and1 (et_cmpR' (t := alI Ds (g.headD 0) j) (ev_callR F_pg r7 (evs_cons (ev_ix (ev_v 0 rfl) (ev_ix (ev_v 5 rfl) ev_int (ix_l ixg) (fun _ _ => rfl)) (ix_l ixD) (fun _ _ => rfl)) (evs_cons (ev_v 3 rfl) evs_nil)) (Dg, D) rfl ⟨okg, okD⟩ rfl) ev_non (fun d hd => ?_) (nomark _))))) (fun h => ?_) (fun h => ?_)
      · obtain ⟨r, hr', rfl⟩ := hd
        have e : alI Ds (g.headD 0) j = isNon (encM r) := by
          rw [al1]
          have := hr'.alk
          cases r with
          | none => exact this.mp rfl
          | some m =>
            cases z : alk Dg D with
            | false => rfl
            | true => exact absurd (this.mpr z) (by simp)
        rw [e]
        exact b_isN
      · rw [Bool.and_eq_true] at h
        refine go_set (i := 4) (ev_v 5 rfl) ?_ sc_groups.nd rfl (.inl rfl)
        refine go_done (go_nilW ⟨some (.raw (.ref q)), ?_, rfl⟩ rfl) rfl
        rw [nx, if_pos h]; rfl
      · refine go_nilW ⟨some (.raw (.ref q)), ?_, rfl⟩ rfl
        rw [nx, if_neg (fun z => by rw [← Bool.and_eq_true] at z; rw [z] at h; cases h)]; rfl
    · obtain ⟨x5, rfl, rfl⟩ := W
      have e0 : gs.take (qs.map fun q => Dt.raw (.ref q)).length = gs := List.take_of_length_le (by rw [List.length_map, ql]; exact Nat.le_refl _)
      have ec : cur (alI Ds) qs gs j (qs.map fun q => Dt.raw (.ref q)).length = match gs.findIdx? fun g => alI Ds (g.headD 0) j with
          | none => .non
          | some i => .raw (.ref (qs.getD i 0)) := by unfold cur; rw [e0]
      rw [ec]
      unfold addG
      cases e : gs.findIdx? fun g => alI Ds (g.headD 0) j with
      | none =>
        refine go_ifT (et_cmp (ev_v 4 rfl) ev_non (by walk_at "bd") (nomark _)) rfl ?_
        refine go_appNew (j := 0) (dsi := [.int (j : Nat)]) (ev_v 1 rfl) rfl (evs_cons (ev_v 2 rfl) evs_nil) (big _ (by rw [List.length_map, ql]; omega)) fun q => ?_
        refine go_perm (oM_new ql) ?_
        refine go_done (go_nilW ⟨qs ++ [q], some (.int (j : Nat)), some (encD A D), some .non, x5, by simp [ql], rfl, rfl⟩ rfl) rfl
      | some i =>
        obtain ⟨hi, _, _⟩ := List.findIdx?_eq_some_iff_getElem.mp e
        have hg : gs[i]? = some gs[i] := List.getElem?_eq_getElem hi
        have hq : qs[i]? = some qs[i] := List.getElem?_eq_getElem (by rw [ql]; exact hi)
        have hqd : qs.getD i 0 = qs[i] := by rw [List.getD_eq_getElem?_getD, hq]; rfl
        have hgl : gs[i].length ≤ 8 := by
          have : gs[i].length ≤ (List.range j).length := by
            rw [PG.eq _ (List.getElem_mem hi)]
            exact List.length_filter_le _ _
          rw [List.length_range] at this
          omega
        show Go _ B1 H0 [some (.lst (Ds.map (encD A))), some (.raw (.ref p1)), some (.int (j : Nat)), some (encD A D), some (.raw (.ref (qs.getD i 0))), x5] _ _ _
        rw [hqd]
        refine go_ifF (et_cmp (ev_v 4 rfl) ev_non (by walk_at "bd") (nomark _)) rfl ?_
        refine go_app (j := i + 1) (ev_v 4 rfl) (oM_get hq hg) (ev_v 2 rfl) (big _ (by rw [List.length_map]; omega)) ?_
        rw [oM_app hq hg]
        refine go_done (go_nilW ⟨qs, some (.int (j : Nat)), some (encD A D), some (.raw (.ref qs[i])), x5, by rw [List.length_modify]; exact ql, rfl, rfl⟩ rfl) rfl
  · obtain ⟨qs, x2, x3, x4, x5, ql, rfl, rfl⟩ := W
    have e : (pairD (rng (Ds.map (encD A)).length) (Ds.map (encD A))).length = Ds.length := by simp [pairD, rng]
    rw [e] at ql ⊢
    refine go_frzM (G' := [some (.lst (Ds.map (encD A))), some (.lst ((pgo (alI Ds) (List.range Ds.length)).map grpD)), none, none, none, none]) ql rfl (fun i d hi => ?_) ?_
    · match i with
      | 0 => exact .inl hi
      | 1 => cases hi; exact .inr ⟨rfl, rfl⟩
      | 2 => cases hi
      | 3 => cases hi
      | 4 => cases hi
      | 5 => cases hi
      | n + 6 => cases hi
    exact go_ret (ev_v 1 rfl) hQ rfl
end
end Dh
end SDhGroups

section SDhTell
set_option Elab.async false
set_option linter.all false
set_option maxRecDepth 100000
set_option maxHeartbeats 4000000
local macro_rules | `(tactic| walk_at "bd") => `(tactic| first
  | exact Dh.b_in | exact Dh.b_notin | exact Dh.b_eqS | exact Dh.b_neS | exact Dh.b_isN | exact Dh.b_notN | exact Dh.b_add | exact Dh.b_sub | exact Dh.b_lt | exact Dh.b_le | exact Dh.b_gt | exact Dh.b_ge | exact Dh.b_eqI | exact Dh.b_neI | exact Dh.b_eqB | exact Dh.b_neB)
local macro_rules | `(tactic| walk_at "xd") => `(tactic| first | exact Dh.ix_t rfl | exact Dh.ix_l rfl)
namespace Dh
open PySem PySem.Spec PyProof.Rows L2

/-! ### answers as data -/
abbrev Answ := Option (List (List (List Nat)))
abbrev RowA := List Answ
abbrev encRA (r : RowA) : Dt := .lst (r.map encAns)
def AnsOk (o : Answ) : Prop := ∀ t, o = some t → ∀ r ∈ t, ∀ c ∈ r, TxOk c
def RowOk (r : RowA) : Prop := ∀ a ∈ r, AnsOk a
theorem ed_ans : ED 2 encAns AnsOk := ED.opt (A := List (List (List Nat))) (f := fun t => t.map encRow) ed_text.list.list
theorem ed_rowA : ED 3 encRA RowOk := ed_ans.list
/-- what stands in a table comes from the text -/
theorem tabGo_mem {x : Nat} : ∀ (o : List Out) (cell : List Nat) (row : List (List Nat)) (r : List (List Nat)) (c : List Nat), r ∈ tabGo cell row o → c ∈ r → x ∈ c → Out.ch x ∈ o ∨ x ∈ cell ∨ ∃ d ∈ row, x ∈ d
  | [], cell, row, r, c, h, _, _ => by cases h
  | .ch y :: o, cell, row, r, c, h, hc, hx => by
    rcases tabGo_mem o (cell ++ [y]) row r c h hc hx with q | q | q
    · exact .inl (List.mem_cons_of_mem _ q)
    · rcases List.mem_append.mp q with q | q
      · exact .inr (.inl q)
      · rw [List.mem_singleton] at q
        subst q
        exact .inl List.mem_cons_self
    · exact .inr (.inr q)
  | .part :: o, cell, row, r, c, h, hc, hx => by
    rcases tabGo_mem o [] (row ++ [cell]) r c h hc hx with q | q | ⟨d, q, q2⟩
    · exact .inl (List.mem_cons_of_mem _ q)
    · cases q
    · rcases List.mem_append.mp q with q | q
      · exact .inr (.inr ⟨d, q, q2⟩)
      · rw [List.mem_singleton] at q
        subst q
        exact .inr (.inl q2)
  | .fin :: o, cell, row, r, c, h, hc, hx => by
    rcases List.mem_cons.mp h with q | q
    · subst q
      rcases List.mem_append.mp hc with q | q
      · exact .inr (.inr ⟨c, q, hx⟩)
      · rw [List.mem_singleton] at q
        subst q
        exact .inr (.inl hx)
    · rcases tabGo_mem o [] [] r c q hc hx with q | q | ⟨d, q, _⟩
      · exact .inl (List.mem_cons_of_mem _ q)
      · cases q
      · cases q
theorem outs_mem {x : Nat} {t : List Nat} {ks : List Kd} (h : Out.ch x ∈ outs t ks) : x ∈ t := by
  unfold outs at h
  obtain ⟨⟨c, k⟩, hp, hx⟩ := List.mem_flatMap.mp h
  have hc : c ∈ t := (List.of_mem_zip hp).1
  cases k with
  | put =>
    have hx : Out.ch x ∈ [Out.ch c] := hx
    rw [List.mem_singleton] at hx
    cases hx
    exact hc
  | part =>
    have hx : Out.ch x ∈ [Out.part] := hx
    rw [List.mem_singleton] at hx
    cases hx
  | fin =>
    have hx : Out.ch x ∈ [Out.fin] := hx
    rw [List.mem_singleton] at hx
    cases hx
  | skip => cases hx
theorem ans_ok {D : Dia} {t : List Nat} (h : TxSg t) : AnsOk (ans D t) := by
  intro tab e r hr c hc x hx
  rw [ans_wlk] at e
  split at e
  · cases e
    rcases tabGo_mem _ _ _ r c hr hc hx with q | q | ⟨d, q, _⟩
    · exact sg_lt h.1 x (outs_mem q)
    · cases q
    · cases q
  · cases e
abbrev rowOf (ts : List (List Nat)) (D : Dia) : RowA := ts.map fun t => ans D t
theorem row_ok {ts : List (List Nat)} (h : ∀ t ∈ ts, TxSg t) (D : Dia) : RowOk (rowOf ts D) := fun a ha => by
  obtain ⟨t, ht, rfl⟩ := List.mem_map.mp ha
  exact ans_ok (h t ht)
/-! a, b = e; if c: .. where e and c read own things and a, b are forgotten -/
theorem go_asgIfV {X : Cx} {B0 H0 : Hp} {G G' : List (Option Dt)} {O : List (Addr × Ob)} {rest body : List Stmt} {D : Ends} {e c : Expr} {d1 d2 : Dt} {x y : Str} {i j : Nat} {k : Nat} {px py pt pos pos2 : Pos} {b : Bool} (hc : X.calm = true) (hN : X.N.Nodup) (hi : X.N[i]? = some x) (hj : X.N[j]? = some y) (hx : Loc X.env.scope x) (hy : Loc X.env.scope y)
    (fx : X.fn x = true ∨ X.env.scope.names.lookup x = some .local) (fy : X.fn y = true ∨ X.env.scope.names.lookup y = some .local)
    (vw : Vw G O G') (h : EV X G' e (.lst [d1, d2])) (h2 : ET X ((G'.set i (some d1)).set j (some d2)) c b)
    (kt : b = true → Go X B0 H0 ((G.set i none).set j none) O body { D with nx := fun s H => RunS X rest D s H }) (kf : b = false → Go X B0 H0 ((G.set i none).set j none) O rest D)
    (hs : swapsWithSole [.Tuple [.Name x px, .Name y py] k pt] e pos.line X.env = pure false := by rfl) (hw : swappedStores [.Tuple [.Name x px, .Name y py] k pt] e X.env = pure none := by rfl)
    (h1 : (assignEach [.Tuple [.Name x px, .Name y py] k pt] X.env).map (·.2) = [assign (.Tuple [.Name x px, .Name y py] k pt) X.env] := by rfl) (hn : (assignEach [.Name x px, .Name y py] X.env).length = 2 := by rfl) (hst : (assignEach [.Name x px, .Name y py] X.env).findIdx? (·.1) = none := by rfl)
    (ha1 : (assignEach [.Name x px, .Name y py] X.env).map (·.2) = assign (.Name x px) X.env :: (assignEach [.Name y py] X.env).map (·.2) := by rfl) (ha2 : (assignEach [.Name y py] X.env).map (·.2) = assign (.Name y py) X.env :: (assignEach [] X.env).map (·.2) := by rfl) :
    Go X B0 H0 G O (.Assign [.Tuple [.Name x px, .Name y py] k pt] e pos :: .If c body [] pos2 :: rest) D := fun s H ⟨B, a⟩ =>
  run_c (ps_asg pe_wk (pg_unl (n := 2) hc (pgs_cons (pg_name hN hi hx fx) (pgs_cons (pg_name hN hj hy fy) pgs_nil ha2) ha1) hn hst) hs hw h1) (by
    obtain ⟨v1, v2, v3, v4⟩ := a.view vw
    refine h s _ H v1 v2 _ fun v B1 H1 g1 r1 => ?_
    obtain ⟨ad, xs, rfl, q1, q2⟩ := r1
    obtain ⟨w1, w2, rfl, t1, t2⟩ := rep2 q2
    refine ⟨ad, [w1, w2], rfl, g1.s.seq q1, rfl, w1, [w2], rfl, w2, [], rfl, rfl, ?_⟩
    refine run_c (ps_if pt_wk pss_wk pss_wk) (h2 _ B1 H1 (((v1.mono g1.b).set t1 i).set t2 j) g1.s _ fun B2 H2 g2 => ?_)
    obtain ⟨a2, _, _⟩ := v4 B2 H2 (g1.trans g2)
    have a3 : At X.K B0 H0 (cutB B2 O) ((G.set i none).set j none) O ((s.set i (some w1)).set j (some w2)) H2 := a2.slots ((a2.sl.forget i _).forget j _)
    cases b with
    | true => exact iteT (kt rfl _ H2 ⟨_, a3⟩)
    | false => exact iteF (go_done (D' := { D with nx := fun s H => RunS X rest D s H }) (kf rfl) rfl _ H2 ⟨_, a3⟩))
section
variable {P : Program} {w : World} {K : PySem.W.Frag} {mg : Str → Option Value} {base : Heap} {f : Addr} {fd : FuncData} {A : Ad}
abbrev encTx (t : List Nat) : Dt := .str (S t)
abbrev AOk (Ds : List Dia) (ts : List (List Nat)) : Prop := (Ds.length ≤ 8 ∧ ∀ D ∈ Ds, Ok D) ∧ ts.length ≤ 100 ∧ ∀ t ∈ ts, TxSg t
abbrev spAnswers (K : PySem.W.Frag) (A : Ad) : Sp := spT K (T := List Dia × List (List Nat)) (fun i => [.lst (i.1.map (encD A)), .lst (i.2.map encTx)]) (fun i => AOk i.1 i.2) (fun i d => d = .lst (i.1.map fun D => encRA (rowOf i.2 D)))
theorem ok_answers_of (F : FnP K "answers_of" "answers_of" s_answers_of f fd) (F_a : Cal P w K mg base 8 "answer_of" ["dialect", "text"] (spAns K A)) : FnOk P w K mg base CX0 9 f fd ["dialects", "texts"] (spAnswers K A) := by
  refine fn_ok F sc_answers_of (fun _ => rfl) fun ⟨Ds, ts⟩ cdv A' outer sh H0 E B0 D' hr hp hn hQ => ?_
  obtain ⟨⟨l1, o1⟩, l2, o2⟩ := hp
  have r8 : Room 8 _ := hr.mono (by decide)
  have z1 : Ds.length ≤ sizeLine := sl_small (Nat.le_trans l1 (by decide))
  have z2 : ts.length ≤ sizeLine := sl_small (Nat.le_trans l2 (by decide))
  have em : ∀ D : Dia, encRA (rowOf ts D) = .lst (ts.map fun t => encAns (ans D t)) := fun D => by
    show Dt.lst (List.map encAns (List.map _ ts)) = _
    rw [List.map_map]; rfl
  refine go_ret (EV.to (ev_lcm (xs := Ds) (enc := encD A) (g := fun D => .lst (ts.map fun t => encAns (ans D t))) (i := 2) rfl sc_answers_of.nd (pit_list (ds := Ds.map (encD A)) (ev_v 0 rfl)) (blkOk_by rfl) (fun _ _ _ _ _ => pg_name (i := 2) sc_answers_of.nd rfl (.inr rfl)) (by show 2 < 4; decide)
    (fun D hD _ _ _ _ _ => (ev_lcm (xs := ts) (enc := encTx) (g := fun t => encAns (ans D t)) (i := 3) rfl sc_answers_of.nd (pit_list (ds := ts.map encTx) (ev_v 1 rfl)) (blkOk_by rfl) (fun _ _ _ _ _ => pg_name (i := 3) sc_answers_of.nd rfl (.inl rfl)) (by show 3 < 4; decide)
      (fun t ht _ _ _ _ _ => (ev_call F_a r8 (evs_cons (ev_v 2 rfl) (evs_cons (ev_v 3 rfl) evs_nil)) (D, t) rfl rfl ⟨o1 D hD, o2 t ht⟩ rfl)) z2)) z1) (congrArg Dt.lst (List.map_congr_left fun D _ => (em D).symm))) hQ rfl
abbrev spTold (K : PySem.W.Frag) : Sp := spT K (T := List RowA) (fun rs => [.lst (rs.map encRA)]) (fun rs => rs.length ≤ 100 ∧ ∀ r ∈ rs, RowOk r) (fun rs d => d = .bl (decide rs.Nodup))
theorem ok_are_told (F : FnP K "are_told" "are_told" s_are_told f fd) (T : Tx K mg A) : FnOk P w K mg base CX0 1 f fd ["answers"] (spTold K) := by
  refine fn_ok F sc_are_told (fun _ => rfl) fun rs cdv A' outer sh H0 E B0 D' hr hp hn hQ => ?_
  obtain ⟨len, ok⟩ := hp
  have ec : Dt.int (((rs.map encRA).length : Nat) : Int) = .int ((rs.length : Nat) : Int) := by rw [List.length_map]
  refine go_for PassesOwn.never rfl (pit_range (n := rs.length) (EV.to (ev_callB (c_lenL (l := rs.map encRA)) rfl T.b_len boot_len (evs_cons (ev_v 0 rfl) evs_nil)) ec) (by omega) rfl T.b_range) (fun j G O => (rs.take j).Nodup ∧ O = [] ∧ ∃ x, G = [some (.lst (rs.map encRA)), x])
    ⟨by rw [List.take_zero]; exact List.nodup_nil, rfl, none, rfl⟩ (fun B1 u j d G1 O1 hd W => ?_) (fun G1 O1 W => ?_)
  · obtain ⟨nd, rfl, x, rfl⟩ := W
    obtain ⟨j', hj, rfl⟩ := map_get (show (List.map (fun i : Nat => Dt.int (i : Nat)) (List.range rs.length))[j]? = some d from hd)
    have hjl : j < rs.length := by have := (List.getElem?_eq_some_iff.mp hj).1; simpa using this
    obtain rfl : j = j' := by rw [List.getElem?_range hjl] at hj; exact Option.some.inj hj
    have hr' : rs[j]? = some rs[j] := List.getElem?_eq_getElem hjl
    generalize rs[j] = r at hr'
    have hix : atI (rs.map encRA) ((j : Nat) : Int) = some (encRA r) := atI_nat (by rw [List.getElem?_map, hr']; rfl)
    have esl : Dt.lst (cutD (rs.map encRA) none (some ((j : Nat) : Int))) = .lst ((rs.take j).map encRA) := by rw [cutD_to, List.map_take]
    refine ⟨_, (tgt_name (i := 1) sc_are_told.nd rfl (.inl rfl)), ?_⟩
    refine go_if0 (et_cmp (ev_ix (ev_v 0 rfl) (ev_v 1 rfl) (ix_l hix) (fun _ _ => rfl)) (EV.to (ev_slice (ev_v 0 rfl) rfl ⟨_, rfl, (ev_v 1 rfl)⟩ sl_l) esl) (b_inT (by have := hr.un; show Around.units (A'.deeper (envOfC _ _ _ f cdv)) + 65 < cLine; omega) ed_rowA (by decide) (ok r (List.mem_of_getElem? hr')) (fun z hz => ok z (List.mem_of_mem_take hz))) rfl) (fun h => ?_) (fun h => ?_)
    · have h : r ∈ rs.take j := by simpa using h
      refine go_ret ev_bl (u.rt hQ) ?_
      show Dt.bl false = .bl (decide rs.Nodup)
      rw [decide_eq_false]
      intro q
      have : (rs.take (j + 1)).Nodup := q.sublist (List.take_sublist _ _)
      rw [take_snoc hr', List.nodup_append] at this
      exact this.2.2 r h r (List.mem_singleton.mpr rfl) rfl
    · have h : r ∉ rs.take j := by simpa using h
      refine go_nilW ⟨?_, rfl, some (.int (j : Nat)), rfl⟩ rfl
      rw [take_snoc hr', List.nodup_append]
      exact ⟨nd, by simp, fun a ha b hb e => by rw [List.mem_singleton] at hb; subst hb; subst e; exact h ha⟩
  · obtain ⟨nd, rfl, x, rfl⟩ := W
    refine go_ret ev_bl hQ ?_
    rw [List.take_of_length_le (by simp [rng])] at nd
    show Dt.bl true = .bl (decide rs.Nodup)
    rw [decide_eq_true nd]
end
end Dh
end SDhTell

section SDhTell2
set_option Elab.async false
set_option linter.all false
set_option maxRecDepth 100000
set_option maxHeartbeats 4000000
local macro_rules | `(tactic| walk_at "bd") => `(tactic| first
  | exact Dh.b_in | exact Dh.b_notin | exact Dh.b_eqS | exact Dh.b_neS | exact Dh.b_isN | exact Dh.b_notN | exact Dh.b_add | exact Dh.b_sub | exact Dh.b_lt | exact Dh.b_le | exact Dh.b_gt | exact Dh.b_ge | exact Dh.b_eqI | exact Dh.b_neI | exact Dh.b_eqB | exact Dh.b_neB)
local macro_rules | `(tactic| walk_at "xd") => `(tactic| first | exact Dh.ix_t rfl | exact Dh.ix_l rfl)
namespace Dh
open PySem PySem.Spec PyProof.Rows L2

theorem go_appR {X : Cx} {B0 H0 : Hp} {G : List (Option Dt)} {O : List (Addr × Ob)} {rest : List Stmt} {D : Ends} {e o : Expr} {ds : List Dt} {R : Dt → Prop} {pos apos cpos : Pos} {j : Nat} {p : Addr}
    (hy : EV X G o (.raw (.ref p))) (hj : O[j]? = some (p, .lst ds)) (h : EVR X G e R) (hz : ds.length < sizeLine) (k : ∀ d, R d → Go X B0 H0 G (O.set j (p, .lst (ds ++ [d]))) rest D)
    (hbase : attributeBase o "append" X.env (eval o X.env) = eval o X.env := by rfl)
    (hfew : ((backTo cpos (starEach (e :: []) X.env)).all (fun x => !x.1) && (backToKw cpos (keywordEach [] X.env)).all (fun x => x.1.isSome)
      && decide ((e :: []).length + ([] : List Keyword).length + (if ([] : List Keyword).isEmpty then 0 else 1) < 30)) = true := by rfl)
    (hline : (apos.endLine == cpos.line) = true := by rfl) (hst : starEach (e :: []) X.env = (false, eval e X.env) :: starEach [] X.env := by rfl) (hplain : (backTo cpos (starEach [] X.env)).any (·.1) = false := by rfl)
    (hs : swapsWith (.Call (.Attribute o "append" apos) [e] [] cpos) none pos.line X.env = pure false := by rfl) : Go X B0 H0 G O (.Expr (.Call (.Attribute o "append" apos) [e] [] cpos) pos :: rest) D := fun s H ⟨B, a⟩ =>
  run_c (ps_expr (pe_bm PySem.F.plainAttrs_list PySem.F.slot_list_append PySem.F.type_list_append mt_append pe_wk (pa_cons pe_wk pa_nil hst) hbase hfew hline hst hplain) hs) (hy s B H a.sl a.gr.s _ fun v B1 H1 g1 r1 => by
    have a1 := a.grow g1
    obtain ⟨b1, b2, xs, hx, rx⟩ := a1.ow p _ (List.mem_of_getElem? hj)
    rw [show v = .ref p from r1]
    refine ⟨.inl ⟨rfl, xs, .of hx⟩, h s B1 H1 a1.sl a1.gr.s _ fun d w B2 H2 hd g2 rw' => ?_⟩
    have a2 := a1.grow g2
    have hx2 : H2 p = some (.lst xs) := g2.h _ _ hx
    refine ⟨p, xs, w, rfl, rfl, hx2, by rw [rx.length]; exact hz, ?_⟩
    exact k d hd _ _ ⟨B2, a2.put hj ⟨xs ++ [w], upd_same, (rx.mono g2.b).snoc rw'⟩⟩)
/-! ### which texts tell -/
def dia0 : Dia := ⟨[], [], [], false, false, false, false⟩
abbrev hdD (Ds : List Dia) (g : List Nat) : Dia := Ds.getD (g.headD 0) dia0
def tri : Nat → Nat
  | 0 => 0
  | n + 1 => tri n + n
theorem tri_le {n : Nat} (h : n ≤ 4) : tri n ≤ 6 := by
  have : n = 0 ∨ n = 1 ∨ n = 2 ∨ n = 3 ∨ n = 4 := by omega
  rcases this with rfl | rfl | rfl | rfl | rfl <;> decide
theorem tri_mono {m n : Nat} (h : m ≤ n) : tri m ≤ tri n := by
  induction n with
  | zero => rw [Nat.le_zero.mp h]; exact Nat.le_refl _
  | succ n ih =>
    rcases Nat.lt_or_ge m (n + 1) with q | q
    · exact Nat.le_trans (ih (by omega)) (Nat.le_add_right _ _)
    · rw [Nat.le_antisymm h q]; exact Nat.le_refl _
structure TlI (Fs : List Dia) (ts : List (List Nat)) (j k : Nat) : Prop where
  sg : ∀ t ∈ ts, TxSg t
  len : ts.length ≤ tri j + k
  tell : ∀ (a b : Nat), (a < j ∧ b < a) ∨ (a = j ∧ b < k) → ∀ (Da Db : Dia), Fs[a]? = some Da → Fs[b]? = some Db → ∃ t ∈ ts, ans Da t ≠ ans Db t
def Tells (Fs : List Dia) (ts : List (List Nat)) : Prop := ∀ (a b : Nat) (Da Db : Dia), a ≠ b → Fs[a]? = some Da → Fs[b]? = some Db → ∃ t ∈ ts, ans Da t ≠ ans Db t
theorem tells_nodup {Fs : List Dia} {ts : List (List Nat)} (h : (Fs.map (rowOf ts)).Nodup) : Tells Fs ts := by
  intro a b Da Db ne ha hb
  apply Classical.byContradiction
  intro q
  have e : rowOf ts Da = rowOf ts Db := by
    apply List.map_congr_left
    intro t ht
    apply Classical.byContradiction
    intro z
    exact q ⟨t, ht, z⟩
  have h1 : (Fs.map (rowOf ts))[a]? = some (rowOf ts Da) := by rw [List.getElem?_map, ha]; rfl
  have h2 : (Fs.map (rowOf ts))[b]? = some (rowOf ts Da) := by rw [List.getElem?_map, hb, e]; rfl
  exact ne ((List.getElem?_inj (List.getElem?_eq_some_iff.mp h1).1 h).mp (h1.trans h2.symm))
abbrev TellR (Ds : List Dia) (ts : List (List Nat)) : Prop := (∀ t ∈ ts, TxSg t) ∧ ts.length ≤ 6 ∧ ∀ (i j : Nat) (Di Dj : Dia), Ds[i]? = some Di → Ds[j]? = some Dj → (∀ t ∈ ts, ans Di t = ans Dj t) → alI Ds i j = true
theorem tells_all {Ds : List Dia} {ts : List (List Nat)} (h : Tells ((pgo (alI Ds) (List.range Ds.length)).map (hdD Ds)) ts) {i j : Nat} {Di Dj : Dia} (hi : Ds[i]? = some Di) (hj : Ds[j]? = some Dj) (e : ∀ t ∈ ts, ans Di t = ans Dj t) : alI Ds i j = true := by
  have E := alI_eqv Ds
  have PG := pg_go E (List.range Ds.length)
  generalize pgo (alI Ds) (List.range Ds.length) = gs at h PG
  have li := (List.getElem?_eq_some_iff.mp hi).1
  have lj := (List.getElem?_eq_some_iff.mp hj).1
  obtain ⟨g, hg, hig⟩ := PG.all i (List.mem_range.mpr li)
  obtain ⟨g', hg', hjg⟩ := PG.all j (List.mem_range.mpr lj)
  have key : ∀ g ∈ gs, ∀ x ∈ g, ∀ Dx, Ds[x]? = some Dx → Alike (hdD Ds g) Dx ∧ alI Ds (g.headD 0) x = true := fun g hg x hx Dx hDx => by
    have hh := PG.head hg
    have hl := List.mem_range.mp hh.2
    have a := ((PG.same E hg hh.1).mp hx).2
    have hd : Ds[g.headD 0]? = some (hdD Ds g) := by
      unfold hdD
      rw [List.getD_eq_getElem?_getD, List.getElem?_eq_getElem hl]; rfl
    rw [alI_at hd hDx] at a
    exact ⟨alk_iff.mp a, ((PG.same E hg hh.1).mp hx).2⟩
  obtain ⟨a1, b1⟩ := key g hg i hig Di hi
  obtain ⟨a2, b2⟩ := key g' hg' j hjg Dj hj
  obtain ⟨x, hx⟩ := List.mem_iff_getElem?.mp hg
  obtain ⟨y, hy⟩ := List.mem_iff_getElem?.mp hg'
  by_cases z : x = y
  · subst z
    rw [hx] at hy
    cases hy
    exact E.trans _ _ _ (E.symm _ _ b1) b2
  · obtain ⟨t, ht, ne⟩ := h x y _ _ z (by rw [List.getElem?_map, hx]; rfl) (by rw [List.getElem?_map, hy]; rfl)
    exact absurd ((a1 t).trans ((e t ht).trans (a2 t).symm)) ne
/-- firsts of two groups are unlike -/
theorem firsts_ne {Ds : List Dia} {gs : List (List Nat)} (PG : PGr (alI Ds) (List.range Ds.length) gs) {a b : Nat} {Da Db : Dia} (hab : a ≠ b) (ha : (gs.map (hdD Ds))[a]? = some Da) (hb : (gs.map (hdD Ds))[b]? = some Db) : ¬ Alike Da Db := by
  intro al
  rw [List.getElem?_map] at ha hb
  obtain ⟨g, hg, rfl⟩ := Option.map_eq_some_iff.mp ha
  obtain ⟨g', hg', rfl⟩ := Option.map_eq_some_iff.mp hb
  have at_ : ∀ g ∈ gs, Ds[g.headD 0]? = some (hdD Ds g) := fun g hg => by
    have hl := List.mem_range.mp (PG.head hg).2
    unfold hdD
    rw [List.getD_eq_getElem?_getD, List.getElem?_eq_getElem hl]; rfl
  refine hab (PG.apart a b g g' hg hg' ?_)
  rw [alI_at (at_ g (List.mem_of_getElem? hg)) (at_ g' (List.mem_of_getElem? hg'))]
  exact alk_iff.mpr al
theorem rng_get {n j : Nat} {d : Dt} (h : (rng n)[j]? = some d) : j < n ∧ d = .int (j : Nat) := by
  unfold rng at h
  rw [List.getElem?_map] at h
  obtain ⟨k, hk, rfl⟩ := Option.map_eq_some_iff.mp h
  have hj : j < n := by have := (List.getElem?_eq_some_iff.mp hk).1; simpa using this
  rw [List.getElem?_range hj] at hk
  cases hk
  exact ⟨hj, rfl⟩
section
variable {P : Program} {w : World} {K : PySem.W.Frag} {mg : Str → Option Value} {base : Heap} {f : Addr} {fd : FuncData} {A : Ad}
abbrev spTelling (K : PySem.W.Frag) (A : Ad) : Sp := spT K (T := List Dia) (fun Ds => [.lst (Ds.map (encD A))]) (fun Ds => Ds.length ≤ 4 ∧ ∀ D ∈ Ds, Ok D) (fun Ds d => ∃ ts, d = .lst (ts.map encTx) ∧ TellR Ds ts)
theorem ok_telling (F : FnP K "telling" "telling" s_telling f fd) (T : Tx K mg A) (F_g : Cal P w K mg base 8 "groups" ["dialects"] (spGroups K A)) (F_pg : Cal P w K mg base 7 "parting_groups" ["one", "other"] (spPg K A)) (F_ans : Cal P w K mg base 9 "answers_of" ["dialects", "texts"] (spAnswers K A)) (F_told : Cal P w K mg base 1 "are_told" ["answers"] (spTold K)) :
    FnOk P w K mg base CX0 10 f fd ["dialects"] (spTelling K A) := by
  refine fn_ok F sc_telling (fun _ => rfl) fun Ds cdv A' outer sh H0 E B0 D' hr hp hn hQ => ?_
  obtain ⟨len, ok⟩ := hp
  have r1 : Room 1 _ := hr.mono (by decide)
  have r7 : Room 7 _ := hr.mono (by decide)
  have r8 : Room 8 _ := hr.mono (by decide)
  have r9 : Room 9 _ := hr.mono (by decide)
  have hu := hr.units
  have PG := pg_go (alI_eqv Ds) (List.range Ds.length)
  have gl := pgo_len (alI_eqv Ds) (List.range Ds.length)
  rw [List.length_range] at gl
  have tl := @tells_all Ds
  have hQ : Rt K B0 H0 (fun d => ∃ ts, d = .lst (ts.map encTx) ∧ TellR Ds ts) D'.rt := hQ
  have ok8 : Ds.length ≤ 8 ∧ ∀ D ∈ Ds, Ok D := ⟨Nat.le_trans len (by decide), ok⟩
  have atG : ∀ g ∈ pgo (alI Ds) (List.range Ds.length), Ds[g.headD 0]? = some (hdD Ds g) := fun g hg => by
    have hl := List.mem_range.mp (PG.head hg).2
    unfold hdD
    rw [List.getD_eq_getElem?_getD, List.getElem?_eq_getElem hl]; rfl
  have big : ∀ n, n ≤ 100 → n < sizeLine := fun n h => Nat.lt_of_lt_of_le (m := 101) (by omega) (sl_small (by decide))
  refine go_setLc (n := 1) (i := 9) (xs := pgo (alI Ds) (List.range Ds.length)) (enc := grpD) (g := fun g => encD A (hdD Ds g)) (P := fun _ => true) (pit_list (ev_call F_g r8 (evs_cons (ev_v 0 rfl) evs_nil) Ds rfl rfl ok8 rfl)) (by show 9 < 10; decide) (fun _ _ _ _ _ _ _ => ets_nil) (fun g hg _ _ _ _ _ _ => (ev_ix (ev_v 0 rfl) (ev_ix (ev_v 9 rfl) ev_int (ix_l (d := .int ((g.headD 0 : Nat) : Int)) ?_) (fun _ _ => rfl)) (ix_l (l := Ds.map (encD A)) ?_) (fun _ _ => rfl))) (sl_small (by omega)) ?_ rfl sc_telling.nd rfl rfl (sw_true rfl rfl rfl (by decide +kernel)) (blkOk_by rfl) (fun _ _ _ _ _ => pg_name (i := 9) sc_telling.nd rfl (.inl rfl))
  · have hne := PG.ne g hg
    cases g with
    | nil => exact absurd rfl hne
    | cons x r => exact atI_nat (j := 0) rfl
  · exact atI_nat (by rw [List.getElem?_map, atG g hg]; rfl)
  have eF : ((pgo (alI Ds) (List.range Ds.length)).filter fun _ => true).map (fun g => encD A (hdD Ds g)) = ((pgo (alI Ds) (List.range Ds.length)).map (hdD Ds)).map (encD A) := by
    rw [List.filter_eq_self.mpr (fun _ _ => rfl), List.map_map]; rfl
  rw [eF]
  have fne := @firsts_ne Ds _ PG
  have okF : ∀ D ∈ (pgo (alI Ds) (List.range Ds.length)).map (hdD Ds), Ok D := fun D hD => by
    obtain ⟨g, hg, rfl⟩ := List.mem_map.mp hD
    exact ok _ (List.mem_of_getElem? (atG g hg))
  have lF : ((pgo (alI Ds) (List.range Ds.length)).map (hdD Ds)).length ≤ 4 := by rw [List.length_map]; omega
  generalize (pgo (alI Ds) (List.range Ds.length)).map (hdD Ds) = Fs at tl fne okF lF
  have lenE : Dt.int (((Fs.map (encD A)).length : Nat) : Int) = .int ((Fs.length : Nat) : Int) := by rw [List.length_map]
  refine go_new (i := 2) evs_nil (fun p2 => ?_) sc_telling.nd rfl (.inl rfl)
  refine go_for PassesOwn.never rfl (pit_range (n := Fs.length) (EV.to (ev_callB (c_lenL (l := Fs.map (encD A))) rfl T.b_len boot_len (evs_cons (ev_v 1 rfl) evs_nil)) lenE) (by omega) rfl T.b_range)
    (fun j G O => ∃ ts x3 x4 x5 x6 x9, TlI Fs ts j 0 ∧ G = [some (.lst (Ds.map (encD A))), some (.lst (Fs.map (encD A))), some (.raw (.ref p2)), x3, x4, x5, x6, none, none, x9] ∧ O = [(p2, .lst (ts.map encTx))])
    ⟨[], none, none, none, none, none, ⟨fun t h => (by cases h), Nat.zero_le _, fun a b h => (by omega)⟩, rfl, rfl⟩ (fun B1 u j d G1 O1 hd W => ?_) (fun G1 O1 W => ?_)
  · obtain ⟨ts, x3, x4, x5, x6, x9, TI, rfl, rfl⟩ := W
    obtain ⟨hj, rfl⟩ := rng_get hd
    have hDa : Fs[j]? = some Fs[j] := List.getElem?_eq_getElem hj
    generalize Fs[j] = Da at hDa
    refine ⟨_, (tgt_name (i := 3) sc_telling.nd rfl (.inl rfl)), ?_⟩
    refine go_for PassesOwn.never rfl (pit_range (n := j) (ev_v 3 rfl) (by omega) rfl T.b_range)
      (fun k G O => ∃ ts x4 x5 x6 x9, TlI Fs ts j k ∧ G = [some (.lst (Ds.map (encD A))), some (.lst (Fs.map (encD A))), some (.raw (.ref p2)), some (.int (j : Nat)), x4, x5, x6, none, none, x9] ∧ O = [(p2, .lst (ts.map encTx))])
      ⟨ts, x4, x5, x6, x9, TI, rfl, rfl⟩ (fun B2 u2 k d G1 O1 hd W => ?_) (fun G1 O1 W => ?_)
    · clear TI ts
      obtain ⟨ts, x4, x5, x6, x9, TI, rfl, rfl⟩ := W
      obtain ⟨hk, rfl⟩ := rng_get hd
      have hDb : Fs[k]? = some Fs[k] := List.getElem?_eq_getElem (by omega)
      generalize Fs[k] = Db at hDb
      have okA := okF Da (List.mem_of_getElem? hDa)
      have okB := okF Db (List.mem_of_getElem? hDb)
      have tlen : ts.length ≤ 6 := by
        have h1 := TI.len
        have h2 : tri (j + 1) ≤ tri 4 := tri_mono (by omega)
        have h3 : tri (j + 1) = tri j + j := rfl
        have h4 : tri 4 = 6 := rfl
        omega
      have tlt : ts.length < tri j + (k + 1) := by have := TI.len; omega
      have ixA : atI (Fs.map (encD A)) ((j : Nat) : Int) = some (encD A Da) := atI_nat (by rw [List.getElem?_map, hDa]; rfl)
      have ixB : atI (Fs.map (encD A)) ((k : Nat) : Int) = some (encD A Db) := atI_nat (by rw [List.getElem?_map, hDb]; rfl)
      have aok : AOk [Da, Db] ts := ⟨⟨by show 2 ≤ 8; decide, fun D hD => by
        rcases List.mem_cons.mp hD with rfl | hD
        · exact okA
        · rw [List.mem_singleton] at hD; subst hD; exact okB⟩, by omega, TI.sg⟩
      refine ⟨_, (tgt_name (i := 4) sc_telling.nd rfl (.inl rfl)), ?_⟩
      refine go_asgIfV (i := 5) (j := 6) rfl sc_telling.nd rfl rfl (.inl rfl) (.inl rfl) (.inl rfl) (.inl rfl) (Vw.refl.set (j := 0) (i := 2) rfl rfl rfl) (ev_call F_ans r9 (evs_cons (ev_lst (evs_cons (ev_ix (ev_v 1 rfl) (ev_v 3 rfl) (ix_l ixA) (fun _ _ => rfl)) (evs_cons (ev_ix (ev_v 1 rfl) (ev_v 4 rfl) (ix_l ixB) (fun _ _ => rfl)) evs_nil))) (evs_cons (ev_v 2 rfl) evs_nil)) ([Da, Db], ts) rfl rfl aok rfl)
        (et_cmp (ev_v 5 rfl) (ev_v 6 rfl) (b_eqT hu ed_rowA (by decide) (row_ok TI.sg Da) (row_ok TI.sg Db)) (nomark _)) (fun h => ?_) (fun h => ?_)
      · refine go_appR (j := 0) (ev_v 2 rfl) rfl (ev_callR F_pg r7 (evs_cons (ev_ix (ev_v 1 rfl) (ev_v 3 rfl) (ix_l ixA) (fun _ _ => rfl)) (evs_cons (ev_ix (ev_v 1 rfl) (ev_v 4 rfl) (ix_l ixB) (fun _ _ => rfl)) evs_nil)) (Da, Db) rfl ⟨okA, okB⟩ rfl) (big _ (by rw [List.length_map]; omega)) (fun d hd => ?_)
        obtain ⟨r, hr', rfl⟩ := hd
        cases r with
        | none => exact absurd (show Alike Da Db from hr') (fne (by omega) hDa hDb)
        | some m =>
          obtain ⟨m1, m2, m3⟩ : (∀ c ∈ m, Sg c) ∧ m.length ≤ 200 ∧ ans Da m ≠ ans Db m := hr'
          refine go_done (go_nilW ⟨ts ++ [m], some (.int (k : Nat)), none, none, x9, ⟨fun t ht => ?_, by rw [List.length_append, List.length_singleton]; omega, fun a b hab Dx Dy hx hy => ?_⟩, rfl, by rw [List.map_append]; rfl⟩ rfl) rfl
          · rcases List.mem_append.mp ht with q | q
            · exact TI.sg t q
            · rw [List.mem_singleton] at q; subst q; exact ⟨m1, by omega⟩
          · by_cases z : a = j ∧ b = k
            · obtain ⟨rfl, rfl⟩ := z
              rw [hDa] at hx
              rw [hDb] at hy
              cases hx
              cases hy
              exact ⟨m, List.mem_append_right _ (List.mem_singleton.mpr rfl), m3⟩
            · obtain ⟨t, ht, ne⟩ := TI.tell a b (by omega) Dx Dy hx hy
              exact ⟨t, List.mem_append_left _ ht, ne⟩
      · have h : rowOf ts Da ≠ rowOf ts Db := by simpa using h
        refine go_nilW ⟨ts, some (.int (k : Nat)), none, none, x9, ⟨TI.sg, by omega, fun a b hab Dx Dy hx hy => ?_⟩, rfl, rfl⟩ rfl
        by_cases z : a = j ∧ b = k
        · obtain ⟨rfl, rfl⟩ := z
          rw [hDa] at hx
          rw [hDb] at hy
          cases hx
          cases hy
          apply Classical.byContradiction
          intro q
          refine h (List.map_congr_left fun t ht => ?_)
          apply Classical.byContradiction
          intro z
          exact q ⟨t, ht, z⟩
        · exact TI.tell a b (by omega) Dx Dy hx hy
    · clear TI ts
      obtain ⟨ts, x4, x5, x6, x9, TI, rfl, rfl⟩ := W
      have e : (rng j).length = j := by simp [rng]
      rw [e] at TI
      refine go_nilW ⟨ts, some (.int (j : Nat)), x4, x5, x6, x9, ⟨TI.sg, TI.len, fun a b hab => TI.tell a b (by omega)⟩, rfl, rfl⟩ rfl
  · obtain ⟨ts, x3, x4, x5, x6, x9, TI, rfl, rfl⟩ := W
    have e : (rng Fs.length).length = Fs.length := by simp [rng]
    rw [e] at TI
    have t6 : ts.length ≤ 6 := by
      have := TI.len
      have := tri_le lF
      omega
    have tall : Tells Fs ts := fun a b Da Db ne ha hb => by
      have la := (List.getElem?_eq_some_iff.mp ha).1
      have lb := (List.getElem?_eq_some_iff.mp hb).1
      rcases Nat.lt_or_gt_of_ne ne with q | q
      · obtain ⟨t, ht, z⟩ := TI.tell b a (.inl ⟨lb, q⟩) Db Da hb ha
        exact ⟨t, ht, z.symm⟩
      · exact TI.tell a b (.inl ⟨la, q⟩) Da Db ha hb
    have sg := TI.sg
    refine go_frz (j := 0) (G' := [some (.lst (Ds.map (encD A))), some (.lst (Fs.map (encD A))), some (.lst (ts.map encTx)), none, none, none, none, none, none, none]) rfl rfl (fun i d hi => ?_) ?_
    · match i with
      | 0 => exact .inl hi
      | 1 => exact .inl hi
      | 2 => cases hi; exact .inr ⟨rfl, rfl⟩
      | 3 => cases hi
      | 4 => cases hi
      | 5 => cases hi
      | 6 => cases hi
      | 7 => cases hi
      | 8 => cases hi
      | 9 => cases hi
      | n + 10 => cases hi
    refine go_for PassesOwn.never rfl (pit_list (ds := ts.map encTx) (ev_callTy c_listL rfl T.b_list boot_list (evs_cons (ev_v 2 rfl) evs_nil)))
      (fun j G O => ∃ cs x5 x7 x8, (∀ t ∈ cs, TxSg t) ∧ cs.length ≤ 6 ∧ Tells Fs cs ∧ G = [some (.lst (Ds.map (encD A))), some (.lst (Fs.map (encD A))), some (.lst (cs.map encTx)), none, none, x5, none, x7, x8, none] ∧ O = [])
      ⟨ts, none, none, none, sg, t6, tall, rfl, rfl⟩ (fun B1 u j d G1 O1 hd W => ?_) (fun G1 O1 W => ?_)
    · obtain ⟨cs, x5, x7, x8, csg, c6, ctl, rfl, rfl⟩ := W
      obtain ⟨t, ht, rfl⟩ := map_get hd
      refine ⟨_, (tgt_name (i := 7) sc_telling.nd rfl (.inr rfl)), ?_⟩
      refine go_setLc (n := 8) (i := 5) (xs := cs) (enc := encTx) (g := encTx) (P := fun c => !((S c == S t) : Bool)) (pit_list (ev_v 2 rfl)) (by show 5 < 10; decide) (fun c hc _ _ _ _ _ => ets_one (et_cmp (ev_v 5 rfl) (ev_v 7 rfl) (by walk_at "bd") (nomark _))) (fun c hc _ _ _ _ _ _ => (ev_v 5 rfl)) (sl_small (by omega)) ?_ rfl sc_telling.nd rfl rfl (sw_true rfl rfl rfl (by decide +kernel)) (blkOk_by rfl) (fun _ _ _ _ _ => pg_name (i := 5) sc_telling.nd rfl (.inl rfl))
      have rsg : ∀ z ∈ cs.filter fun c => !((S c == S t) : Bool), TxSg z := fun z hz => csg z (List.mem_filter.mp hz).1
      have r6 : (cs.filter fun c => !((S c == S t) : Bool)).length ≤ 6 := Nat.le_trans (List.length_filter_le _ _) c6
      generalize cs.filter (fun c => !((S c == S t) : Bool)) = rs at rsg r6
      have aok : AOk Fs rs := ⟨⟨by omega, okF⟩, by omega, rsg⟩
      have rok : (Fs.map (rowOf rs)).length ≤ 100 ∧ ∀ r ∈ Fs.map (rowOf rs), RowOk r := ⟨by rw [List.length_map]; omega, fun r hr => by
        obtain ⟨D, _, rfl⟩ := List.mem_map.mp hr
        exact row_ok rsg D⟩
      have em : Dt.lst (Fs.map fun D => encRA (rowOf rs D)) = .lst ((Fs.map (rowOf rs)).map encRA) := by rw [List.map_map]; rfl
      refine go_if0 (et_val (ev_call F_told r1 (evs_cons (EV.to (ev_call F_ans r9 (evs_cons (ev_v 1 rfl) (evs_cons (ev_v 8 rfl) evs_nil)) (Fs, rs) rfl rfl aok rfl) em) evs_nil) (Fs.map (rowOf rs)) rfl rfl rok rfl)) (fun h => ?_) (fun h => ?_)
      · have h : (Fs.map (rowOf rs)).Nodup := by simpa using h
        refine go_set (i := 2) (ev_v 8 rfl) ?_ sc_telling.nd rfl (.inl rfl)
        exact go_done (go_nilW ⟨rs, x5, some (encTx t), some (.lst (rs.map encTx)), rsg, r6, tells_nodup h, rfl, rfl⟩ rfl) rfl
      · exact go_nilW ⟨cs, x5, some (encTx t), some (.lst (rs.map encTx)), csg, c6, ctl, rfl, rfl⟩ rfl
    · obtain ⟨cs, x5, x7, x8, csg, c6, ctl, rfl, rfl⟩ := W
      exact go_ret (ev_v 2 rfl) hQ ⟨cs, rfl, csg, c6, fun i j Di Dj hi hj e => tl ctl hi hj e⟩
end
end Dh
end SDhTell2

section SDhTree
set_option Elab.async false
set_option linter.all false
set_option maxRecDepth 100000
set_option maxHeartbeats 4000000
local macro_rules | `(tactic| walk_at "bd") => `(tactic| first
  | exact Dh.b_in | exact Dh.b_notin | exact Dh.b_eqS | exact Dh.b_neS | exact Dh.b_isN | exact Dh.b_notN | exact Dh.b_add | exact Dh.b_sub | exact Dh.b_lt | exact Dh.b_le | exact Dh.b_gt | exact Dh.b_ge | exact Dh.b_eqI | exact Dh.b_neI | exact Dh.b_eqB | exact Dh.b_neB)
local macro_rules | `(tactic| walk_at "xd") => `(tactic| first | exact Dh.ix_t rfl | exact Dh.ix_l rfl)
namespace Dh
open PySem PySem.Spec PyProof.Rows L2
/-! ### parts by answers -/
/-- the answer of reader i to text a -/
def keyR (rows : List RowA) (a i : Nat) : Option Answ := (rows[i]?).bind fun r => r[a]?
structure RowsOk (rows : List RowA) (many : Nat) : Prop where
  len : rows.length ≤ 8
  ok : ∀ r ∈ rows, RowOk r ∧ r.length = many
theorem RowsOk.at_ {rows : List RowA} {many a i : Nat} (h : RowsOk rows many) (ha : a < many) (hi : i < rows.length) : ∃ r x, rows[i]? = some r ∧ r[a]? = some x ∧ AnsOk x ∧ keyR rows a i = some x := by
  have e : rows[i]? = some rows[i] := List.getElem?_eq_getElem hi
  obtain ⟨ok, l⟩ := h.ok rows[i] (List.getElem_mem hi)
  generalize rows[i] = r at e ok l
  have e2 : r[a]? = some r[a] := List.getElem?_eq_getElem (by omega)
  refine ⟨r, r[a], e, e2, ok _ (List.getElem_mem _), ?_⟩
  unfold keyR
  rw [e]
  exact e2
theorem RowsOk.ixr {rows : List RowA} {i : Nat} {r : RowA} (e : rows[i]? = some r) : atI (rows.map encRA) ((i : Nat) : Int) = some (encRA r) := atI_nat (by rw [List.getElem?_map, e]; rfl)
theorem RowsOk.ixa {r : RowA} {a : Nat} {x : Answ} (e : r[a]? = some x) : atI (r.map encAns) ((a : Nat) : Int) = some (encAns x) := atI_nat (by rw [List.getElem?_map, e]; rfl)
theorem partsB_snoc {β : Type} [DecidableEq β] {key : Nat → Nat → β} {a : Nat} {pl : List Nat} {j p : Nat} (h : pl[j]? = some p) : partsB key a (pl.take (j + 1)) = addG (same key a) (partsB key a (pl.take j)) p := by
  unfold partsB pgo
  rw [take_snoc h, List.foldl_append]; rfl
section
variable {P : Program} {w : World} {K : PySem.W.Frag} {mg : Str → Option Value} {base : Heap} {f : Addr} {fd : FuncData} {A : Ad}
structure PbOk (rows : List RowA) (many a : Nat) (pl : List Nat) : Prop where
  ro : RowsOk rows many
  a : a < many
  lt : ∀ p ∈ pl, p < rows.length
  len : pl.length ≤ 8
abbrev natD (n : Nat) : Dt := .int (n : Nat)
abbrev spPartsBy (K : PySem.W.Frag) : Sp := spT K (T := List RowA × Nat × Nat × List Nat) (fun i => [.lst (i.1.map encRA), natD i.2.2.1, .lst (i.2.2.2.map natD)]) (fun i => PbOk i.1 i.2.1 i.2.2.1 i.2.2.2) (fun i d => d = .lst ((partsB (keyR i.1) i.2.2.1 i.2.2.2).map grpD))
theorem ok_parts_by (F : FnP K "parts_by" "parts_by" s_parts_by f fd) (T : Tx K mg A) : FnOk P w K mg base CX0 1 f fd ["answers", "at", "places"] (spPartsBy K) := by
  refine fn_ok F sc_parts_by (fun _ => rfl) fun ⟨rows, many, a, pl⟩ cdv A' outer sh H0 E B0 D' hr hp hn hQ => ?_
  obtain ⟨RO, ha, plt, pll⟩ := hp
  have ha : a < many := ha
  have RO : RowsOk rows many := RO
  have plt : ∀ p ∈ pl, p < rows.length := plt
  have pll : pl.length ≤ 8 := pll
  have hu := hr.units
  have big : ∀ n, n ≤ 100 → n < sizeLine := fun n h => Nat.lt_of_lt_of_le (m := 101) (by omega) (sl_small (by decide))
  refine go_new (i := 3) evs_nil (fun p1 => ?_) sc_parts_by.nd rfl (.inl rfl)
  refine go_for PassesOwn.never rfl (pit_list (ds := pl.map natD) (ev_v 2 rfl)) (fun j G O => ∃ qs x4 x5 x6, qs.length = (partsB (keyR rows) a (pl.take j)).length ∧ G = [some (.lst (rows.map encRA)), some (natD a), some (.lst (pl.map natD)), some (.raw (.ref p1)), x4, x5, x6] ∧ O = oM p1 qs (partsB (keyR rows) a (pl.take j)))
    ⟨[], none, none, none, by rw [List.take_zero]; rfl, rfl, by rw [List.take_zero]; rfl⟩ (fun B1 u j d G1 O1 hd W => ?_) (fun G1 O1 W => ?_)
  · obtain ⟨qs, x4, x5, x6, ql, rfl, rfl⟩ := W
    obtain ⟨p, hp, rfl⟩ := map_get hd
    have hj := (List.getElem?_eq_some_iff.mp hp).1
    have hpl := plt p (List.mem_of_getElem? hp)
    have PG : PGr (same (keyR rows) a) (pl.take j) (partsB (keyR rows) a (pl.take j)) := pg_go (same_eqv _ _) _
    have gl : (partsB (keyR rows) a (pl.take j)).length ≤ (pl.take j).length := pgo_len (same_eqv _ _) _
    have tkl : (pl.take j).length ≤ 8 := Nat.le_trans (List.length_take_le _ _) (by omega)
    rw [partsB_snoc hp]
    generalize partsB (keyR rows) a (pl.take j) = gs at ql PG gl
    obtain ⟨rp, xp, hrp, hxp, okp, kp⟩ := RO.at_ ha hpl
    refine ⟨_, (tgt_name (i := 4) sc_parts_by.nd rfl (.inl rfl)), ?_⟩
    refine go_set (i := 5) ev_non ?_ sc_parts_by.nd rfl (.inl rfl)
    refine go_forOwn (ds := qs.map fun q => .raw (.ref q)) (j := 0) PassesOwn.never rfl (ev_v 3 rfl) rfl (fun k G O => ∃ x6, G = [some (.lst (rows.map encRA)), some (natD a), some (.lst (pl.map natD)), some (.raw (.ref p1)), some (natD p), some (cur (same (keyR rows) a) qs gs p k), x6] ∧ O = oM p1 qs gs)
      ⟨x6, by unfold cur; rw [List.take_zero]; rfl, rfl⟩ (fun k G1 O1 ⟨x6, e1, e2⟩ => ⟨0, by rw [e2]; rfl⟩) (fun B2 u2 k d G1 O1 hd W => ?_) (fun G1 O1 W => ?_)
    · obtain ⟨x6, rfl, rfl⟩ := W
      obtain ⟨q, hq, rfl⟩ := map_get hd
      have hk : k < gs.length := by rw [← ql]; exact (List.getElem?_eq_some_iff.mp hq).1
      have hg : gs[k]? = some gs[k] := List.getElem?_eq_getElem hk
      generalize gs[k] = g at hg
      have hgm := List.mem_of_getElem? hg
      have hh := PG.head hgm
      have hhl := plt _ (List.mem_of_mem_take hh.2)
      obtain ⟨rg, xg, hrg, hxg, okg, kg⟩ := RO.at_ ha hhl
      have sm : same (keyR rows) a (g.headD 0) p = decide (xg = xp) := by
        unfold same
        rw [kp, kg]
        exact decide_eq_decide.mpr ⟨fun e => Option.some.inj e, fun e => by rw [e]⟩
      have nx : cur (same (keyR rows) a) qs gs p (k + 1) = if same (keyR rows) a (g.headD 0) p = true then .raw (.ref q) else cur (same (keyR rows) a) qs gs p k := by
        unfold cur
        rw [take_snoc hg, List.findIdx?_append]
        have tl : (gs.take k).length = k := by rw [List.length_take]; omega
        by_cases z : same (keyR rows) a (g.headD 0) p = true
        · rw [if_pos z]
          have no : (gs.take k).findIdx? (fun g => same (keyR rows) a (g.headD 0) p) = none := by
            rw [List.findIdx?_eq_none_iff]
            intro g' hg'
            cases e : same (keyR rows) a (g'.headD 0) p with
            | false => rfl
            | true =>
              obtain ⟨k', hk'⟩ := List.mem_iff_getElem?.mp hg'
              have lk : k' < k := by have := (List.getElem?_eq_some_iff.mp hk').1; omega
              rw [List.getElem?_take_of_lt lk] at hk'
              have := PG.apart k' k g' g hk' hg ((same_eqv _ _).trans _ _ _ e ((same_eqv _ _).symm _ _ z))
              omega
          rw [no]
          have : ([g].findIdx? fun g => same (keyR rows) a (g.headD 0) p) = some 0 := by rw [List.findIdx?_cons]; exact if_pos z
          rw [this]
          show Dt.raw (.ref (qs.getD (0 + (gs.take k).length) 0)) = _
          rw [tl, Nat.zero_add, List.getD_eq_getElem?_getD, hq]; rfl
        · rw [if_neg z]
          have : ([g].findIdx? fun g => same (keyR rows) a (g.headD 0) p) = none := by rw [List.findIdx?_cons, if_neg z]; rfl
          rw [this]
          cases (gs.take k).findIdx? (fun g => same (keyR rows) a (g.headD 0) p) with
          | none => rfl
          | some i => rfl
      refine ⟨_, (tgt_name (i := 6) sc_parts_by.nd rfl (.inl rfl)), ?_⟩
      have ixg : atI (g.map fun n => Dt.int (n : Nat)) 0 = some (.int ((g.headD 0 : Nat) : Int)) := by
        cases g with
        | nil => exact absurd rfl (PG.ne _ hgm)
        | cons x r => exact atI_nat (j := 0) rfl
      refine go_if0V (Vw.refl.set (j := k + 1) (i := 6) (oM_get hq hg) rfl rfl) (et_cmp (ev_ix (ev_ix (ev_v 0 rfl) (ev_ix (ev_v 6 rfl) ev_int (ix_l ixg) (fun _ _ => rfl)) (ix_l (RowsOk.ixr hrg)) (fun _ _ => rfl)) (ev_v 1 rfl) (ix_l (RowsOk.ixa hxg)) (fun _ _ => rfl)) (ev_ix (ev_ix (ev_v 0 rfl) (ev_v 4 rfl) (ix_l (RowsOk.ixr hrp)) (fun _ _ => rfl)) (ev_v 1 rfl) (ix_l (RowsOk.ixa hxp)) (fun _ _ => rfl)) (b_eqT hu ed_ans (by decide) okg okp) (nomark _)) (fun h => ?_) (fun h => ?_)
      · refine go_set (i := 5) (ev_v 6 rfl) ?_ sc_parts_by.nd rfl (.inl rfl)
        refine go_done (go_nilW ⟨some (.raw (.ref q)), ?_, rfl⟩ rfl) rfl
        rw [nx, if_pos (by rw [sm]; exact h)]; rfl
      · refine go_nilW ⟨some (.raw (.ref q)), ?_, rfl⟩ rfl
        rw [nx, if_neg (by rw [sm, h]; simp)]; rfl
    · obtain ⟨x6, rfl, rfl⟩ := W
      have e0 : gs.take (qs.map fun q => Dt.raw (.ref q)).length = gs := List.take_of_length_le (by rw [List.length_map, ql]; exact Nat.le_refl _)
      have ec : cur (same (keyR rows) a) qs gs p (qs.map fun q => Dt.raw (.ref q)).length = match gs.findIdx? fun g => same (keyR rows) a (g.headD 0) p with
          | none => .non
          | some i => .raw (.ref (qs.getD i 0)) := by
          unfold cur
          rw [e0]
          all_goals (cases gs.findIdx? (fun g => same (keyR rows) a (g.headD 0) p) <;> rfl)
      rw [ec]
      unfold addG
      cases e : gs.findIdx? fun g => same (keyR rows) a (g.headD 0) p with
      | none =>
        refine go_ifT (et_cmp (ev_v 5 rfl) ev_non (by walk_at "bd") (nomark _)) rfl ?_
        refine go_appNew (j := 0) (dsi := [natD p]) (ev_v 3 rfl) rfl (evs_cons (ev_v 4 rfl) evs_nil) (big _ (by rw [List.length_map, ql]; omega)) fun q => ?_
        refine go_perm (oM_new ql) ?_
        refine go_done (go_nilW ⟨qs ++ [q], some (natD p), some .non, x6, by simp [ql], rfl, rfl⟩ rfl) rfl
      | some i =>
        obtain ⟨hi, _, _⟩ := List.findIdx?_eq_some_iff_getElem.mp e
        have hg : gs[i]? = some gs[i] := List.getElem?_eq_getElem hi
        have hq : qs[i]? = some qs[i] := List.getElem?_eq_getElem (by rw [ql]; exact hi)
        have hqd : qs.getD i 0 = qs[i] := by rw [List.getD_eq_getElem?_getD, hq]; rfl
        have hgl : gs[i].length ≤ 8 := by
          have : gs[i].length ≤ (pl.take j).length := by
            rw [PG.eq _ (List.getElem_mem hi)]
            exact List.length_filter_le _ _
          omega
        show Go _ B1 H0 [some (.lst (rows.map encRA)), some (natD a), some (.lst (pl.map natD)), some (.raw (.ref p1)), some (natD p), some (.raw (.ref (qs.getD i 0))), x6] _ _ _
        rw [hqd]
        refine go_ifF (et_cmp (ev_v 5 rfl) ev_non (by walk_at "bd") (nomark _)) rfl ?_
        refine go_app (j := i + 1) (ev_v 5 rfl) (oM_get hq hg) (ev_v 4 rfl) (big _ (by rw [List.length_map]; omega)) ?_
        rw [oM_app hq hg]
        refine go_done (go_nilW ⟨qs, some (natD p), some (.raw (.ref qs[i])), x6, by rw [List.length_modify]; exact ql, rfl, rfl⟩ rfl) rfl
  · obtain ⟨qs, x4, x5, x6, ql, rfl, rfl⟩ := W
    have e : pl.take (pl.map natD).length = pl := List.take_of_length_le (by rw [List.length_map]; exact Nat.le_refl _)
    rw [e] at ql ⊢
    refine go_frzM (G' := [some (.lst (rows.map encRA)), some (natD a), some (.lst (pl.map natD)), some (.lst ((partsB (keyR rows) a pl).map grpD)), none, none, none]) ql rfl (fun i d hi => ?_) ?_
    · match i with
      | 0 => exact .inl hi
      | 1 => exact .inl hi
      | 2 => exact .inl hi
      | 3 => cases hi; exact .inr ⟨rfl, rfl⟩
      | 4 => cases hi
      | 5 => cases hi
      | 6 => cases hi
      | n + 7 => cases hi
    exact go_ret (ev_v 3 rfl) hQ rfl
end
end Dh
end SDhTree

section SDhOwn2
set_option Elab.async false
set_option linter.all false
set_option maxRecDepth 100000
set_option maxHeartbeats 4000000
/-! Own things over calls: expressions that change them. -/
namespace Dh
open PySem PySem.Spec PyProof.Rows L2
section
variable {K : PySem.W.Frag} {B0 H0 B H B' H' : Hp} {G G' : List (Option Dt)} {O : List (Addr × Ob)} {s : L2.St} {j : Nat} {p : Addr} {ob ob' : Ob}
/-- what a callee leaves that writes the object at p alone -/
structure Wr (K : PySem.W.Frag) (B H : Hp) (p : Addr) (B' H' : Hp) (ob' : Ob) : Prop where
  b : Same B B'
  k : ∀ q, H q ≠ none → B' q = B q
  s : Same B' H'
  h : ∀ q o, q ≠ p → H q = some o → H' q = some o
  at_ : ObAt K B' H' p ob'
theorem At.call (a : At K B0 H0 B G O s H) (hj : O[j]? = some (p, ob)) (w : Wr K B H p B' H' ob') : At K B0 H0 B' G (O.set j (p, ob')) s H' := by
  obtain ⟨a1, a2, c⟩ := a.ow p ob (List.mem_of_getElem? hj)
  have hjl := (List.getElem?_eq_some_iff.mp hj).1
  refine ⟨⟨a.gr.b.trans w.b, fun q u e => w.h q u (ne_of_none e a2) (a.gr.h q u e), w.s, fun q hq => ?_⟩, a.sl.mono w.b, fun q x hq => ?_, ?_⟩
  · have : H q ≠ none := by
      cases e : H0 q with
      | none => exact absurd e hq
      | some o => rw [a.gr.h q o e]; simp
    rw [w.k q this, a.gr.k q hq]
  · obtain ⟨i, hi⟩ := List.mem_iff_getElem?.mp hq
    by_cases e : j = i
    · subst e
      rw [List.getElem?_set_self hjl] at hi
      cases hi
      exact ⟨by rw [w.k _ c.ne]; exact a1, a2, w.at_⟩
    · rw [List.getElem?_set_ne e] at hi
      obtain ⟨b1, b2, b3⟩ := a.ow q x (List.mem_of_getElem? hi)
      have ne : q ≠ p := fun z => e (by
        subst z
        have h1 : (O.map (·.1))[j]? = some q := by rw [List.getElem?_map, hj]; rfl
        have h2 : (O.map (·.1))[i]? = some q := by rw [List.getElem?_map, hi]; rfl
        exact nd_ix a.nd h1 h2)
      refine ⟨by rw [w.k _ b3.ne]; exact b1, b2, b3.mono w.b ?_⟩
      cases e : H q with
      | none => exact absurd e b3.ne
      | some o => exact w.h q o ne e
  · have : (O.set j (p, ob')).map (·.1) = O.map (·.1) := by
      rw [List.map_set]
      apply List.ext_getElem?
      intro i
      by_cases e : j = i
      · subst e
        rw [List.getElem?_set_self (by rw [List.length_map]; exact hjl), List.getElem?_map, hj]
        rfl
      · rw [List.getElem?_set_ne e]
    rw [this]
    exact a.nd
open Classical in
/-- H without p -/
noncomputable def lessP (H : Hp) (p : Addr) : Hp := fun q => if q = p then none else H q
theorem lessP_ne {q : Addr} (h : q ≠ p) : lessP H p q = H q := by unfold lessP; rw [if_neg h]
theorem lessP_same : lessP H p p = none := by unfold lessP; rw [if_pos rfl]
/-- the callee's start: the object at p as its own -/
theorem At.start (sb : Same B H) (bp : B p = none) (h : ObAt K B H p ob) (sl : Sl K B G s) : At K B (lessP H p) B G [(p, ob)] s H := by
  refine ⟨⟨Same.refl _, fun q o e => ?_, sb, fun _ _ => rfl⟩, sl, fun q x m => ?_, by simp⟩
  · by_cases z : q = p
    · subst z; rw [lessP_same] at e; cases e
    · rw [lessP_ne z] at e; exact e
  · rw [List.mem_singleton] at m
    cases m
    exact ⟨bp, lessP_same, h⟩
theorem At.wr (a : At K B (lessP H p) B' G O s H') (bp : B p = none) (m : (p, ob') ∈ O) : Wr K B H p B' H' ob' := by
  obtain ⟨a1, a2, c⟩ := a.ow p ob' m
  refine ⟨a.gr.b, fun q hq => ?_, a.gr.s, fun q o ne e => a.gr.h q o (by rw [lessP_ne ne]; exact e), c⟩
  by_cases z : q = p
  · subst z; rw [a1, bp]
  · exact a.gr.k q (by rw [lessP_ne z]; exact hq)
/-- e gives data, and changes own things -/
def EVO (X : Cx) (G : List (Option Dt)) (O : List (Addr × Ob)) (e : Expr) (R : Dt → List (Addr × Ob) → Prop) : Prop := ∀ (s : L2.St) (B0 H0 B H : Hp) (F : List (Addr × Ob)), At X.K B0 H0 B G (F ++ O) s H → ∀ Q : VK, (∀ d v B' H' O', R d O' → At X.K B0 H0 B' G (F ++ O') s H' → Same B B' → Rep X.K B' d v → Q v H') → RunE X e Q s H
end
section
variable {X : Cx} {B0 H0 : Hp} {G G' : List (Option Dt)} {O O' : List (Addr × Ob)} {rest body els : List Stmt} {D : Ends} {e o c tg iter elt : Expr} {d : Dt} {ds : List Dt} {es : List Expr} {pos spos px py lpos cpos : Pos} {x y : Str} {i j n : Nat} {p : Addr} {b : Bool} {scope : Scope}
theorem go_setO {R : Dt → List (Addr × Ob) → Prop} (h : EVO X G O e R) (k : ∀ d O', R d O' → Go X B0 H0 (G.set i (some d)) O' rest D) (hN : X.N.Nodup) (hi : X.N[i]? = some x) (hx : Loc X.env.scope x) (hs : swapsWith e (some (.Name x px)) pos.line X.env = pure false := by rfl)
    (hf : X.fn x = true ∨ X.env.scope.names.lookup x = some .local := by first | exact .inl rfl | exact .inr rfl | assumption) : Go X B0 H0 G O (.Assign [.Name x px] e pos :: rest) D := fun s H ⟨B, a⟩ =>
  run_c (ps_set hN hi hx pe_wk hs hf) (h s B0 H0 B H [] a _ fun d v B' H' O' r a' _ rv => k d O' r _ _ ⟨B', At.set a' rv i⟩)
theorem go_exprO {R : Dt → List (Addr × Ob) → Prop} (h : EVO X G O e R) (k : ∀ d O', R d O' → Go X B0 H0 G O' rest D) (hs : swapsWith e none pos.line X.env = pure false := by rfl) : Go X B0 H0 G O (.Expr e pos :: rest) D := fun s H ⟨B, a⟩ =>
  run_c (ps_expr pe_wk hs) (h s B0 H0 B H [] a _ fun d v B' H' O' r a' _ rv => k d O' r _ _ ⟨B', a'⟩)
/-- y = [e for x in ..], e changing own things -/
theorem go_setLcO {A : Type} {xs : List A} {enc : A → Dt} (hit : PIt X G (.Name x px) iter (xs.map enc)) (hlt : i < G.length) (W : Nat → List Dt → List (Addr × Ob) → Prop) (w0 : W 0 [] O)
    (he : ∀ (j : Nat) (a : A), xs[j]? = some a → ∀ ds O1, W j ds O1 → ∀ s H C cl fp, EVO (Bk X scope s H C cl fp) (G.set i (some (enc a))) O1 elt (fun d O2 => W (j + 1) (ds ++ [d]) O2)) (hl : ∀ j ds O1, W j ds O1 → ds.length ≤ j) (hsz : xs.length ≤ sizeLine)
    (k : ∀ ds O', W xs.length ds O' → Go X B0 H0 (G.set n (some (.lst ds))) O' rest D) (hc : X.calm = true) (hN : X.N.Nodup) (hy : X.N[n]? = some y) (hyl : X.env.scope.names.lookup y = some .local)
    (hsw : swapsWith (.ListComp elt [⟨.Name x px, iter, [], 0⟩] scope pos) (some (.Name y py)) spos.line X.env = pure true) (ok : BlkOk X.N X.env.scope scope [(x, i)])
    (hg : ∀ (s : Shared) (H : Hp) (C : Addr) (cl : List (Str × Addr)) (fp : List Addr), L2.PG (Bk X scope s H C cl fp) (.Name x px) (gName i)) (hnl : n < G.length)
    (hf : ∀ x, foldedSetIterable iter X.env x = pure x := by intro _; rfl) : Go X B0 H0 G O (.Assign [.Name y py] (.ListComp elt [⟨.Name x px, iter, [], 0⟩] scope pos) spos :: rest) D := fun s H ⟨B, a⟩ =>
  run_c (ps_setLc (own := [(x, i)]) (tt := ttU X scope []) (te := teU X scope elt) hc hN hy hyl hsw pi_wk ok hg (fun s0 H0 C cl fp => ⟨fun pins sh s H Q I h => (h s0 H0 C cl fp).run pins sh I⟩) (fun s0 H0 C cl fp => ⟨fun pins sh s H Q I h => (h s0 H0 C cl fp).run pins sh I⟩) hf) (by
    refine hit s B H a.sl a.gr.s _ fun J Gd B1 H1 g1 w hG => ?_
    intro Da hDa
    have nl : (xs.map enc).length = xs.length := List.length_map _
    have a1 := a.grow g1
    refine lc_it (g := gName i) (tt := ttU X scope []) (te := teU X scope elt) (vs := [i]) (σ := s) (D := Da) w (fun j Hj => ∃ Bj ds Oj, W j ds Oj ∧ Same B1 Bj ∧ At X.K B0 H0 Bj G ((Da, .lst ds) :: Oj) s Hj) ?_ ?_ ?_ ?_
    · exact ⟨B1, [], O, w0, Same.refl _, a1.own (ob := .lst []) hDa ⟨[], upd_same, rfl⟩⟩
    · rintro j Hj _ ⟨Bj, ds, Oj, _, sb, aj⟩
      exact hG Hj (sb.trans aj.gr.s)
    · rintro j v Hj Hj' hj ⟨Bj, ds, Oj, wj, sb, aj⟩ yy
      rw [nl] at hj
      obtain ⟨d, B2, hd, g2, r2⟩ := yy Bj sb aj.gr.s
      have hx : xs[j]? = some xs[j] := List.getElem?_eq_getElem hj
      rw [List.getElem?_map, hx] at hd
      have ed : enc xs[j] = d := Option.some.inj hd
      subst ed
      refine ⟨?_, fun s0 H00 C cl fp => ?_⟩
      · show ((wipe s [i]).set i (some v)).set i none = (s.set i none)
        show (((s.set i none).set i (some v)).set i none) = _
        rw [List.set_set, List.set_set]
      have a2 := aj.grow g2
      have slot : Sl X.K B2 (G.set i (some (enc xs[j]))) ((wipe s [i]).set i (some v)) := by
        have z := (a2.sl.wipe i).set r2 i
        rw [List.set_set] at z
        exact z
      refine (show ETs (Bk X scope s0 H00 C cl fp) (G.set i (some (enc xs[j]))) [] true from ets_nil) _ B2 Hj' slot g2.s _ fun B3 H3 g3 => ?_
      refine iteT fun s0 H0' C cl fp => ?_
      have a3 := (a2.slots slot).grow g3
      refine he j _ hx ds Oj wj s0 H0' C cl fp _ _ _ B3 H3 [(Da, .lst ds)] a3 _ fun d v4 B4 H4 O4 w4 a4 s34 r4 => ?_
      obtain ⟨c1, c2, ys, hy4, ry⟩ := a4.ow Da _ List.mem_cons_self
      have lt : ys.length < sizeLine := by
        have := hl j ds Oj wj
        have := ry.length
        omega
      have a5 := At.put (j := 0) (ob' := .lst (ds ++ [d])) (o := .lst (ys ++ [v4])) a4 rfl ⟨ys ++ [v4], upd_same, ry.snoc r4⟩
      exact ⟨ys, hy4, lt, B4, ds ++ [d], O4, w4, sb.trans (g2.b.trans (g3.b.trans s34)), a5.slots (aj.sl.mono (g2.b.trans (g3.b.trans s34)))⟩
    · rintro Hn ⟨Bn, ds, On, wn, sb, an⟩
      rw [nl] at wn
      have az := At.set (d := .raw (.ref Da)) (v := .ref Da) an rfl n
      refine k ds On wn _ _ (At.frz (j := 0) az rfl (G' := G.set n (some (.lst ds))) (by rw [List.length_set, List.length_set]) fun i d h => ?_)
      by_cases z : n = i
      · subst z
        rw [List.getElem?_set_self hnl] at h ⊢
        cases h
        exact .inr ⟨rfl, rfl⟩
      · rw [List.getElem?_set_ne z] at h ⊢
        exact .inl h)
/-- x = tuple(e), a tuple of ints for a key -/
theorem ints_rep {K : PySem.W.Frag} {B : Hp} {ns : List Nat} {xs : List V} (h : RepAll K B (ns.map natD) xs) : xs = ns.map fun n => V.int (n : Nat) := by
  have e : ns.map natD = (ns.map fun n : Nat => (n : Int)).map Dt.int := by rw [List.map_map]; rfl
  rw [e] at h
  rw [h.ints, List.map_map]; rfl
abbrev oKey (ns : List Nat) : Ob := .raw (.tup (ns.map fun n => V.int (n : Nat)))
theorem go_tupOwn {ns : List Nat} {ap : Pos} (h : EV X G e (.lst (ns.map natD))) (k : ∀ q, Go X B0 H0 (G.set i (some (.raw (.ref q)))) ((q, oKey ns) :: O) rest D) (hg : Gl X "tuple") (hm : X.mg "tuple" = none) (hv : bootBuiltins "tuple" = some (.type "tuple")) (hN : X.N.Nodup) (hi : X.N[i]? = some x) (hx : Loc X.env.scope x)
    (he : starEach [e] X.env = (false, eval e X.env) :: starEach [] X.env := by rfl) (hpl : (backTo cpos (starEach [] X.env)).any (·.1) = false := by rfl)
    (hs : swapsWith (.Call (.Name "tuple" ap) [e] [] cpos) (some (.Name x px)) pos.line X.env = pure false := by rfl)
    (hf : X.fn x = true ∨ X.env.scope.names.lookup x = some .local := by first | exact .inl rfl | exact .inr rfl | assumption) : Go X B0 H0 G O (.Assign [.Name x px] (.Call (.Name "tuple" ap) [e] [] cpos) pos :: rest) D := fun s H ⟨B, a⟩ =>
  run_c (ps_set hN hi hx (pe_callTy call_tuple_of hg hm hv pa_wk (by decide) (by decide) he hpl) hs hf) (evs_cons h evs_nil he s B H a.sl a.gr.s _ fun vs B1 H1 g1 r1 => by
    obtain ⟨v, rfl, ad, xs, rfl, q1, q2⟩ := rep1 r1
    obtain rfl := ints_rep q2
    refine ⟨ad, _, rfl, .inl ⟨g1.s.seq q1, fun l hl => ?_⟩⟩
    exact k l _ _ ⟨B1, ((a.grow g1).own (ob := oKey ns) hl upd_same).set (d := .raw (.ref l)) (v := .ref l) rfl i⟩)
end
/-! ### dicts by tuples of ints -/
abbrev kyI (ns : List Nat) : List L2.Key := ns.map fun n => Sum.inl ((n : Nat) : Int)
theorem kyI_inj {a b : List Nat} (h : kyI a = kyI b) : a = b := by
  induction a generalizing b with
  | nil => cases b with
    | nil => rfl
    | cons y b => cases h
  | cons x a ih =>
    cases b with
    | nil => cases h
    | cons y b =>
      rw [show kyI (x :: a) = Sum.inl ((x : Nat) : Int) :: kyI a from rfl, show kyI (y :: b) = Sum.inl ((y : Nat) : Int) :: kyI b from rfl] at h
      obtain ⟨h1, h2⟩ := List.cons.inj h
      have : ((x : Nat) : Int) = (y : Nat) := Sum.inl.inj h1
      rw [ih h2, show x = y by omega]
theorem kyI_v (ns : List Nat) : (kyI ns).map kV = ns.map fun n => V.int (n : Nat) := by rw [List.map_map]; rfl
section
variable {K : PySem.W.Frag} {B : Hp} {E : Type} {fk : E → List Nat} {fd : E → Dt}
abbrev obT (fk : E → List Nat) (fd : E → Dt) (es : List E) : Ob := .dT (es.map fun e => kyI (fk e)) (es.map fd)
theorem val_at {ns : List Nat} : ∀ {es : List E} {vs : List V}, RepAll K B (es.map fd) vs → (valV ((es.map fun e => kyI (fk e)).zip vs) (kyI ns) = none ∧ ∀ e ∈ es, fk e ≠ ns) ∨ ∃ e ∈ es, fk e = ns ∧ ∃ v, valV ((es.map fun e => kyI (fk e)).zip vs) (kyI ns) = some v ∧ Rep K B (fd e) v
  | [], vs, h => .inl ⟨rfl, fun e he => (by cases he)⟩
  | e :: es, vs, h => by
    obtain ⟨v, r, rfl, h1, h2⟩ := h
    by_cases z : fk e = ns
    · subst z
      exact .inr ⟨e, List.mem_cons_self, rfl, v, valV_pos rfl, h1⟩
    · have ne : kyI (fk e) ≠ kyI ns := fun q => z (kyI_inj q)
      have st : valV (((e :: es).map fun e => kyI (fk e)).zip (v :: r)) (kyI ns) = valV ((es.map fun e => kyI (fk e)).zip r) (kyI ns) := by
        show valV ((kyI (fk e), v) :: (es.map fun e => kyI (fk e)).zip r) (kyI ns) = _
        unfold valV
        rw [List.find?_cons_of_neg (by simpa using ne)]
      rw [st]
      rcases val_at (ns := ns) h2 with ⟨q1, q2⟩ | ⟨e', m, q1, v', q2, q3⟩
      · exact .inl ⟨q1, fun e' he' => by
          rcases List.mem_cons.mp he' with rfl | he'
          · exact z
          · exact q2 e' he'⟩
      · exact .inr ⟨e', List.mem_cons_of_mem _ m, q1, v', q2, q3⟩
end
section
variable {X : Cx} {B0 H0 : Hp} {G G' : List (Option Dt)} {O O' : List (Addr × Ob)} {rest body els : List Stmt} {D : Ends} {ek ed e : Expr} {d : Dt} {pos cp tpos : Pos} {i j : Nat} {p q : Addr} {E : Type} {fk : E → List Nat} {fd : E → Dt} {es : List E} {ns : List Nat}
/-- if key not in kept: -/
theorem go_ifKey (hu : X.A.units + 64 < cLine) (hk : EV X G ek (.raw (.ref q))) (hd : EV X G ed (.raw (.ref p))) (hq : (q, oKey ns) ∈ O) (hp : (p, obT fk fd es) ∈ O)
    (ht : (∀ e ∈ es, fk e ≠ ns) → Go X B0 H0 G O body { D with nx := fun s H => RunS X rest D s H }) (hf : ∀ e ∈ es, fk e = ns → Go X B0 H0 G O rest D) (hm : behindInMarks .NotIn ed = false := by rfl) : Go X B0 H0 G O (.If (.Compare ek [.NotIn] [ed] cp) body [] pos :: rest) D := fun s H ⟨B, a⟩ =>
  run_c (ps_if (pt_cmp (pc_dnotin (by omega) pe_wk pe_wk) hm) pss_wk pss_wk) (hk s B H a.sl a.gr.s _ fun v1 B1 H1 g1 r1 => hd s B1 H1 (a.sl.mono g1.b) g1.s _ fun v2 B2 H2 g2 r2 => by
    have a2 := a.grow (g1.trans g2)
    obtain rfl : v1 = .ref q := r1
    obtain rfl : v2 = .ref p := r2
    obtain ⟨_, _, hq2⟩ := a2.ow q _ hq
    have hq2 : H2 q = some (.tup (ns.map fun n => V.int (n : Nat))) := hq2
    obtain ⟨_, _, l, vs, hp2, rp⟩ := a2.ow p _ hp
    rw [← kyI_v] at hq2
    refine ⟨p, _, rfl, DGet.t hp2 hq2, ?_⟩
    rcases val_at (fk := fk) (ns := ns) rp with ⟨v1, v2⟩ | ⟨e, m, v1, v, v2, v3⟩
    · rw [v1]
      exact ⟨true, rfl, iteT (ht v2 s H2 ⟨B2, a2⟩)⟩
    · rw [v2]
      exact ⟨false, rfl, iteF (go_done (D' := { D with nx := fun s H => RunS X rest D s H }) (hf e m v1) rfl s H2 ⟨B2, a2⟩)⟩)
/-- kept[key] = e, the key new -/
theorem go_putKey {e1 : E} (hu : X.A.units + 64 < cLine) (h : EV X G e (fd e1)) (he1 : fk e1 = ns) (hk : EV X G ek (.raw (.ref q))) (hd : EV X G ed (.raw (.ref p))) (hq : (q, oKey ns) ∈ O) (hp : O[j]? = some (p, obT fk fd es)) (hz : es.length ≤ 100000)
    (hn : ∀ e ∈ es, fk e ≠ ns) (k : Go X B0 H0 G (O.set j (p, obT fk fd (es ++ [e1]))) rest D) (hs : swapsWith e (some (.Subscript ed ek tpos)) pos.line X.env = pure false := by rfl) : Go X B0 H0 G O (.Assign [.Subscript ed ek tpos] e pos :: rest) D := fun s H ⟨B, a⟩ =>
  run_c (ps_dput (by omega) pe_wk pe_wk pe_wk hs) (h s B H a.sl a.gr.s _ fun v0 B1 H1 g1 r0 => hd s B1 H1 (a.sl.mono g1.b) g1.s _ fun v1 B2 H2 g2 r1 => hk s B2 H2 (a.sl.mono (g1.trans g2).b) g2.s _ fun v2 B3 H3 g3 r2 => by
    have a3 := a.grow ((g1.trans g2).trans g3)
    obtain rfl : v1 = .ref p := r1
    obtain rfl : v2 = .ref q := r2
    obtain ⟨_, _, hq2⟩ := a3.ow q _ hq
    have hq2 : H3 q = some (.tup (ns.map fun n => V.int (n : Nat))) := hq2
    rw [← kyI_v] at hq2
    obtain ⟨_, _, l, vs, hp2, rp⟩ := a3.ow p _ (List.mem_of_getElem? hp)
    have vl := rp.length
    rw [List.length_map] at vl
    have zl : ((es.map fun e => kyI (fk e)).zip vs).length ≤ 100000 := by rw [List.length_zip, List.length_map]; omega
    refine ⟨p, _, rfl, DPut.t hp2 hq2 (Nat.lt_of_le_of_lt zl (by rw [sizeLine_eq]; decide)), ?_⟩
    have pe : putK ((es.map fun e => kyI (fk e)).zip vs) (kyI ns) v0 = ((es ++ [e1]).map fun e => kyI (fk e)).zip (vs ++ [v0]) := by
      unfold putK
      rw [if_neg, List.map_append, List.zip_append (by rw [List.length_map]; omega)]
      · rw [← he1]; rfl
      · intro z
        obtain ⟨⟨k', v'⟩, m, z⟩ := List.any_eq_true.mp z
        have m1 := (List.of_mem_zip m).1
        obtain ⟨e2, m2, z2⟩ := List.mem_map.mp m1
        have z : k' = kyI ns := of_decide_eq_true z
        exact hn e2 m2 (kyI_inj (z2.trans z))
    rw [pe]
    exact k _ _ ⟨B3, a3.put hp ⟨by rw [List.length_map, List.length_map], vs ++ [v0], upd_same, by rw [List.map_append]; exact rp.snoc (r0.mono (g2.trans g3).b)⟩⟩)
/-- return kept[key] -/
theorem go_retKey (hu : X.A.units + 64 < cLine) (hk : EV X G ek (.raw (.ref q))) (hd : EV X G ed (.raw (.ref p))) (hq : (q, oKey ns) ∈ O) (hp : (p, obT fk fd es) ∈ O) (he : ∃ e ∈ es, fk e = ns) (hs : NoSl ek)
    (k : ∀ e ∈ es, fk e = ns → ∀ s B H v, At X.K B0 H0 B G O s H → Rep X.K B (fd e) v → D.rt v H) : Go X B0 H0 G O (.Return (some (.Subscript ed ek tpos)) pos :: rest) D := fun s H ⟨B, a⟩ =>
  run_c (ps_ret (pe_dget (by omega) pe_wk pe_wk hs)) (hd s B H a.sl a.gr.s _ fun v1 B1 H1 g1 r1 => hk s B1 H1 (a.sl.mono g1.b) g1.s _ fun v2 B2 H2 g2 r2 => by
    have a2 := a.grow (g1.trans g2)
    obtain rfl : v1 = .ref p := r1
    obtain rfl : v2 = .ref q := r2
    obtain ⟨_, _, hq2⟩ := a2.ow q _ hq
    have hq2 : H2 q = some (.tup (ns.map fun n => V.int (n : Nat))) := hq2
    rw [← kyI_v] at hq2
    obtain ⟨_, _, l, vs, hp2, rp⟩ := a2.ow p _ hp
    rcases val_at (fk := fk) (ns := ns) rp with ⟨v1, v2⟩ | ⟨e, m, v1, v, v2, v3⟩
    · obtain ⟨e, m, z⟩ := he
      exact absurd z (v2 e m)
    · have g := DGet.t hp2 hq2
      rw [v2] at g
      exact ⟨p, v, rfl, g, k e m v1 s B2 H2 v a2 v3⟩)
end
/-- a def by any promise -/
theorem fn_okG {P : Program} {w : World} {K : PySem.W.Frag} {mg : Str → Option Value} {base : Heap} {x qual : Str} {st : Stmt} {f : Addr} {fd : FuncData} {N ps : List Str} {k : Nat} {sp : Sp} (F : FnP K x qual st f fd) (S : FnScope N ps (defScope st)) (hl : ∀ vs H Q E, sp vs H Q E → vs.length = ps.length)
    (body : ∀ (cdv : Value) (A : Around) (outer : List Env) (s : Shared) (H : Hp) (vs : List V) (Q : VK) (E : XK), Room k (A.deeper (envOfC qual (defScope st) s.heap.objs.size f cdv)) → sp vs H Q E →
      RunS (cxOf CX0 P w K mg base N qual (defScope st) f cdv A outer s H E).nox (defBody st) { nx := fun _ H' => Q .non H', rt := Q } (L2.start N vs) H) : FnOk P w K mg base CX0 (k + 1) f fd ps sp := by
  refine F.ok S hl fun cdv A outer s H vs Q E hr h => ?_
  exact ⟨fun D σ H' => D = { nx := fun _ H' => Q .non H', rt := Q } ∧ RunS (cxOf CX0 P w K mg base N qual (defScope st) f cdv A outer s H E).nox (defBody st) D σ H', PSs.nox ⟨fun pins sh σ H D I h => h.2.run pins sh I⟩, rfl, body cdv A outer s H vs Q E hr h⟩
end Dh
end SDhOwn2

section SDhFld
set_option Elab.async false
set_option linter.all false
set_option maxRecDepth 100000
set_option maxHeartbeats 4000000
/-! Fields of an own instance. -/
namespace Dh
open PySem PySem.Spec PyProof.Rows L2
theorem putF_at {f : Str} {v : V} : ∀ {ns : List Str} {vs : List V} {i : Nat}, ns.Nodup → ns[i]? = some f → ns.length = vs.length → putF f v (ns.zip vs) = ns.zip (vs.set i v)
  | [], vs, i, _, h, _ => by simp at h
  | n :: ns, [], i, _, h, l => by simp at l
  | n :: ns, x :: vs, 0, nd, h, l => by
    obtain rfl : n = f := by simpa using h
    show (if n = n then (n, v) :: ns.zip vs else _) = _
    rw [if_pos rfl]; rfl
  | n :: ns, x :: vs, i + 1, nd, h, l => by
    have h : ns[i]? = some f := by simpa using h
    have ne : n ≠ f := fun z => (List.nodup_cons.mp nd).1 (z ▸ List.mem_of_getElem? h)
    show (if n = f then (n, v) :: ns.zip vs else (n, x) :: putF f v (ns.zip vs)) = _
    rw [if_neg ne, putF_at (List.nodup_cons.mp nd).2 h (by simpa using l)]; rfl
section
variable {X : Cx} {B0 H0 : Hp} {G : List (Option Dt)} {O : List (Addr × Ob)} {rest : List Stmt} {D : Ends} {o e : Expr} {d : Dt} {pos ap : Pos} {i j : Nat} {p C dx : Addr} {ns : List Str} {ds : List Dt} {f : Str}
/-- self.f = e, f new -/
theorem go_newFld (h : EV X G e d) (ho : EV X G o (.raw (.ref p))) (hj : O[j]? = some (p, .ins C dx ns ds)) (hc : Cls X.K C) (hn : NoAttr X.K C f) (k : Go X B0 H0 G (O.set j (p, .ins C dx (ns ++ [f]) (ds ++ [d]))) rest D)
    (hl : ns.length = ds.length := by rfl) (hz : Nat.blt ns.length 1000 = true := by rfl) (hf : ns.all (fun n => !(f == n)) = true := by decide +kernel) (hs : swapsWith e (some (.Attribute o f ap)) pos.line X.env = pure false := by rfl) : Go X B0 H0 G O (.Assign [.Attribute o f ap] e pos :: rest) D := fun s H ⟨B, a⟩ =>
  run_c (ps_fld pe_wk pe_wk hs) (h s B H a.sl a.gr.s _ fun v B1 H1 g1 r1 => ho s B1 H1 (a.sl.mono g1.b) g1.s _ fun x B2 H2 g2 r2 => by
    have a2 := a.grow (g1.trans g2)
    obtain rfl : x = .ref p := r2
    obtain ⟨_, _, vs, hp, rp⟩ := a2.ow p _ (List.mem_of_getElem? hj)
    have vl := rp.length
    have hz := Nat.le_of_ble_eq_true hz
    refine ⟨p, C, dx, _, rfl, hp, hc, hn, by rw [List.length_zip]; omega, ?_⟩
    have e : putF f v (ns.zip vs) = (ns ++ [f]).zip (vs ++ [v]) := by
      rw [List.zip_append (by omega)]
      refine putF_new fun q hq => ?_
      have m := (List.of_mem_zip (a := q.1) (b := q.2) hq).1
      have := List.all_eq_true.mp hf _ m
      intro z
      rw [z] at this
      simp at this
    rw [e]
    exact k _ _ ⟨B2, a2.put hj ⟨vs ++ [v], upd_same, rp.snoc (r1.mono g2.b)⟩⟩)
/-- self.f = e, f there -/
theorem go_setFld (h : EV X G e d) (ho : EV X G o (.raw (.ref p))) (hj : O[j]? = some (p, .ins C dx ns ds)) (hc : Cls X.K C) (hn : NoAttr X.K C f) (hi : ns[i]? = some f) (hnd : ns.Nodup) (k : Go X B0 H0 G (O.set j (p, .ins C dx ns (ds.set i d))) rest D)
    (hl : ns.length = ds.length := by rfl) (hz : Nat.blt ns.length 1000 = true := by rfl) (hs : swapsWith e (some (.Attribute o f ap)) pos.line X.env = pure false := by rfl) : Go X B0 H0 G O (.Assign [.Attribute o f ap] e pos :: rest) D := fun s H ⟨B, a⟩ =>
  run_c (ps_fld pe_wk pe_wk hs) (h s B H a.sl a.gr.s _ fun v B1 H1 g1 r1 => ho s B1 H1 (a.sl.mono g1.b) g1.s _ fun x B2 H2 g2 r2 => by
    have a2 := a.grow (g1.trans g2)
    obtain rfl : x = .ref p := r2
    obtain ⟨_, _, vs, hp, rp⟩ := a2.ow p _ (List.mem_of_getElem? hj)
    have vl := rp.length
    have hz := Nat.le_of_ble_eq_true hz
    refine ⟨p, C, dx, _, rfl, hp, hc, hn, by rw [List.length_zip]; omega, ?_⟩
    rw [putF_at hnd hi (by omega)]
    exact k _ _ ⟨B2, a2.put hj ⟨vs.set i v, upd_same, rp.set i (r1.mono g2.b)⟩⟩)
end
end Dh
end SDhFld

section SDhOwn3
set_option Elab.async false
set_option linter.all false
set_option maxRecDepth 100000
set_option maxHeartbeats 4000000
/-! More rules for own things: stores into an own list, list(e) as an own list, a comprehension over an own list of own things, own instances: fields by a view, methods. -/
namespace Dh
open PySem PySem.Spec PyProof.Rows L2
section
variable {X : Cx} {G : List (Option Dt)} {pos p q : Pos}
theorem ev_neg {i : Int} {j : Nat} : EV X G (.UnaryOp .USub (.Constant (.int i) j p) q) (.int (-i)) := fun s B H hs hb Q k => run_e (pe_un un_neg pe_int) ⟨i, rfl, k (.int (-i)) B H (.refl hb) rfl⟩
end
theorem Vw.mono {G G' : List (Option Dt)} {O O' : List (Addr × Ob)} (h : Vw G O G') (sub : ∀ x ∈ O, x ∈ O') : Vw G O' G' := ⟨h.len, fun i d q => (h.at_ i d q).imp_right fun ⟨p, ob, m, a, b⟩ => ⟨p, ob, sub _ m, a, b⟩⟩
section
variable {X : Cx} {B0 H0 : Hp} {G G' G2 : List (Option Dt)} {O O' : List (Addr × Ob)} {rest body els : List Stmt} {D : Ends} {e o c ik iter elt tg : Expr} {d : Dt} {ds : List Dt} {pos px py tpos cpos spos : Pos} {x y : Str} {i j n : Nat} {p : Addr} {b : Bool} {scope : Scope} {ifs : List Expr}
/-- own things are let go -/
theorem go_drop {sts : List Stmt} (h : O'.Sublist O) (k : Go X B0 H0 G O' sts D) : Go X B0 H0 G O sts D := fun s H ⟨B, a⟩ => k s H ⟨B, a.gr, a.sl, fun p ob m => a.ow p ob (h.subset m), (h.map _).nodup a.nd⟩
/-- y[k] = e, e reading own things -/
theorem go_putLV {k : Int} {m : Nat} (vw : Vw G O G') (h : EV X G' e d) (n : nl d = true) (hy : EV X G o (.raw (.ref p))) (hj : O[j]? = some (p, .lst ds)) (hi : EV X G ik (.int k)) (hk : ixN ds.length k = some m) (kk : Go X B0 H0 G (O.set j (p, .lst (ds.set m d))) rest D)
    (hs : swapsWithSole [.Subscript o ik tpos] e pos.line X.env = pure false := by rfl) (hw : swappedStores [.Subscript o ik tpos] e X.env = pure none := by rfl) (h1 : (assignEach [.Subscript o ik tpos] X.env).map (·.2) = [assign (.Subscript o ik tpos) X.env] := by rfl)
    (ha : ∀ v, assign (.Subscript o ik tpos) X.env v = (do
      let ov ← holding [v] (eval o X.env)
      let iv ← holding [v, ov] (eval ik X.env)
      standAt tpos
      holding [v, ov, iv] (setItem ov iv v)
      release [v, ov, iv] []) := by intro _; rfl) : Go X B0 H0 G O (.Assign [.Subscript o ik tpos] e pos :: rest) D := fun s H ⟨B, a⟩ =>
  run_c (ps_asg pe_wk (pg_sub pe_wk pe_wk set_list ha) hs hw h1) (by
    obtain ⟨v1, v2, v3, v4⟩ := a.view vw
    refine h s _ H v1 v2 _ fun v B1 H1 g1 r1 => ?_
    obtain ⟨w1, _, w3⟩ := v4 B1 H1 g1
    have rv := w3 d v n r1
    refine hy s _ H1 w1.sl w1.gr.s _ fun ov B2 H2 g2 r2 => ?_
    have a2 := w1.grow g2
    obtain rfl : ov = .ref p := r2
    refine hi s _ H2 a2.sl a2.gr.s _ fun iv B3 H3 g3 r3 => ?_
    have a3 := a2.grow g3
    obtain rfl : iv = .int k := r3
    obtain ⟨_, _, xs, hx, rx⟩ := a3.ow p _ (List.mem_of_getElem? hj)
    refine ⟨p, xs, k, m, rfl, rfl, hx, by rw [rx.length]; exact hk, ?_⟩
    exact kk _ _ ⟨_, a3.put hj ⟨xs.set m v, upd_same, rx.set m (rv.mono (g2.trans g3).b)⟩⟩)
/-- x = list(e), e a tuple -/
theorem go_listOwn {ap : Pos} (h : EV X G e (.tup ds)) (k : ∀ q, Go X B0 H0 (G.set i (some (.raw (.ref q)))) ((q, .lst ds) :: O) rest D) (hg : Gl X "list") (hm : X.mg "list" = none) (hv : bootBuiltins "list" = some (.type "list")) (hN : X.N.Nodup) (hi : X.N[i]? = some x) (hx : Loc X.env.scope x)
    (he : starEach [e] X.env = (false, eval e X.env) :: starEach [] X.env := by rfl) (hpl : (backTo cpos (starEach [] X.env)).any (·.1) = false := by rfl)
    (hs : swapsWith (.Call (.Name "list" ap) [e] [] cpos) (some (.Name x px)) pos.line X.env = pure false := by rfl)
    (hf : X.fn x = true ∨ X.env.scope.names.lookup x = some .local := by first | exact .inl rfl | exact .inr rfl | assumption) : Go X B0 H0 G O (.Assign [.Name x px] (.Call (.Name "list" ap) [e] [] cpos) pos :: rest) D := fun s H ⟨B, a⟩ =>
  run_c (ps_set hN hi hx (pe_callTy call_list_of hg hm hv pa_wk (by decide) (by decide) he hpl) hs hf) (evs_cons h evs_nil he s B H a.sl a.gr.s _ fun vs B1 H1 g1 r1 => by
    obtain ⟨v, rfl, ad, xs, rfl, q1, q2⟩ := rep1 r1
    refine ⟨ad, xs, rfl, .inr (sqT_mono g1.s q1), fun l hl => ?_⟩
    exact k l _ _ ⟨B1, ((a.grow g1).own (ob := .lst ds) hl ⟨xs, upd_same, q2⟩).set (d := .raw (.ref l)) (v := .ref l) rfl i⟩)
/-- y.append(e), y read among own things -/
theorem go_appVV {apos : Pos} (vw : Vw G O G') (hy : EV X G' o (.raw (.ref p))) (hj : O[j]? = some (p, .lst ds)) (h : EV X G e d) (hz : ds.length < sizeLine) (k : Go X B0 H0 G (O.set j (p, .lst (ds ++ [d]))) rest D)
    (hbase : attributeBase o "append" X.env (eval o X.env) = eval o X.env := by rfl)
    (hfew : ((backTo cpos (starEach (e :: []) X.env)).all (fun x => !x.1) && (backToKw cpos (keywordEach [] X.env)).all (fun x => x.1.isSome)
      && decide ((e :: []).length + ([] : List Keyword).length + (if ([] : List Keyword).isEmpty then 0 else 1) < 30)) = true := by rfl)
    (hline : (apos.endLine == cpos.line) = true := by rfl) (hst : starEach (e :: []) X.env = (false, eval e X.env) :: starEach [] X.env := by rfl) (hplain : (backTo cpos (starEach [] X.env)).any (·.1) = false := by rfl)
    (hs : swapsWith (.Call (.Attribute o "append" apos) [e] [] cpos) none pos.line X.env = pure false := by rfl) : Go X B0 H0 G O (.Expr (.Call (.Attribute o "append" apos) [e] [] cpos) pos :: rest) D := fun s H ⟨B, a⟩ =>
  run_c (ps_expr (pe_bm PySem.F.plainAttrs_list PySem.F.slot_list_append PySem.F.type_list_append mt_append pe_wk pa_wk hbase hfew hline hst hplain) hs) (by
    obtain ⟨v1, v2, v3, v4⟩ := a.view vw
    refine hy s _ H v1 v2 _ fun v B1 H1 g1 r1 => ?_
    obtain ⟨a1, _, _⟩ := v4 B1 H1 g1
    obtain rfl : v = .ref p := r1
    obtain ⟨_, _, xs, hx, rx⟩ := a1.ow p _ (List.mem_of_getElem? hj)
    refine ⟨.inl ⟨rfl, xs, .of hx⟩, evs_cons h evs_nil hst s _ H1 a1.sl a1.gr.s _ fun vs B2 H2 g2 r2 => ?_⟩
    obtain ⟨w, rfl, rw'⟩ := rep1 r2
    have a2 := a1.grow g2
    have hx2 : H2 p = some (.lst xs) := g2.h _ _ hx
    refine ⟨p, xs, w, rfl, rfl, hx2, by rw [rx.length]; exact hz, ?_⟩
    exact k _ _ ⟨_, a2.put hj ⟨xs ++ [w], upd_same, (rx.mono g2.b).snoc rw'⟩⟩)
/-- y = [x for x in l if c], l an own list of own things that c reads: y is one's own -/
theorem go_setLcV {A : Type} {xs : List A} {qa : A → Addr} {P : A → Bool} (hit : EV X G iter (.raw (.ref p))) (hj : O[j]? = some (p, .lst (xs.map fun a => .raw (.ref (qa a))))) (hlt : i < G.length)
    (ht : ∀ a ∈ xs, ∃ G', Vw (G.set i (some (.raw (.ref (qa a))))) O G' ∧ ∀ s H C cl fp, ETs (Bk X scope s H C cl fp) G' ifs (P a))
    (he : ∀ a ∈ xs, ∀ s H C cl fp, EV (Bk X scope s H C cl fp) (G.set i (some (.raw (.ref (qa a))))) elt (.raw (.ref (qa a)))) (hsz : xs.length ≤ sizeLine)
    (k : ∀ r, Go X B0 H0 (G.set n (some (.raw (.ref r)))) ((r, .lst ((xs.filter P).map fun a => .raw (.ref (qa a)))) :: O) rest D) (hc : X.calm = true) (hN : X.N.Nodup) (hy : X.N[n]? = some y) (hyl : X.env.scope.names.lookup y = some .local)
    (hsw : swapsWith (.ListComp elt [⟨.Name x px, iter, ifs, 0⟩] scope pos) (some (.Name y py)) spos.line X.env = pure true) (ok : BlkOk X.N X.env.scope scope [(x, i)])
    (hg : ∀ (s : Shared) (H : Hp) (C : Addr) (cl : List (Str × Addr)) (fp : List Addr), L2.PG (Bk X scope s H C cl fp) (.Name x px) (gName i))
    (hf : ∀ x, foldedSetIterable iter X.env x = pure x := by intro _; rfl) : Go X B0 H0 G O (.Assign [.Name y py] (.ListComp elt [⟨.Name x px, iter, ifs, 0⟩] scope pos) spos :: rest) D := fun s H ⟨B, a⟩ =>
  run_c (ps_setLc (own := [(x, i)]) (tt := ttU X scope ifs) (te := teU X scope elt) hc hN hy hyl hsw (pi_list pe_wk) ok hg (fun s0 H0 C cl fp => ⟨fun pins sh s H Q I h => (h s0 H0 C cl fp).run pins sh I⟩) (fun s0 H0 C cl fp => ⟨fun pins sh s H Q I h => (h s0 H0 C cl fp).run pins sh I⟩) hf) (by
    refine hit s B H a.sl a.gr.s _ fun v B1 H1 g1 r1 => ?_
    have a1 := a.grow g1
    obtain rfl : v = .ref p := r1
    obtain ⟨_, _, xs0, hx0, rx0⟩ := a1.ow p _ (List.mem_of_getElem? hj)
    refine ⟨p, rfl, ⟨xs0, .of hx0⟩, ?_⟩
    have wk : Walk (Itl X.K p) xs.length (fun H => ∃ ys, H p = some (.lst ys) ∧ ys.length = xs.length) (fun i H x H' => H' = H ∧ ∀ ys, H p = some (.lst ys) → ys[i]? = some x) :=
      ⟨fun i H hi ⟨ys, h1, h2⟩ => ⟨ys, ys[i]'(by omega), .of h1, by simp⟩, fun H ⟨ys, h1, h2⟩ => ⟨ys, .of h1, by omega⟩, fun i H x H' hi h y => ⟨y.1, fun ys h1 => y.2 ys (.of h1)⟩⟩
    intro Da hDa
    refine lc_it (g := gName i) (tt := ttU X scope ifs) (te := teU X scope elt) (vs := [i]) (σ := s) (D := Da) wk (fun j Hj => ∃ Bj, At X.K B0 H0 Bj G ((Da, .lst (((xs.take j).filter P).map fun a => .raw (.ref (qa a)))) :: O) s Hj) ?_ ?_ ?_ ?_
    · exact ⟨B1, by rw [List.take_zero]; exact a1.own (ob := .lst []) hDa ⟨[], upd_same, rfl⟩⟩
    · rintro jj Hj _ ⟨Bj, aj⟩
      obtain ⟨_, _, ys, hy, ry⟩ := aj.ow p _ (List.mem_cons_of_mem _ (List.mem_of_getElem? hj))
      exact ⟨ys, hy, by rw [ry.length, List.length_map]⟩
    · rintro jj v Hj Hj' hjl ⟨Bj, aj⟩ ⟨rfl, hv⟩
      have hx : xs[jj]? = some xs[jj] := List.getElem?_eq_getElem hjl
      have hm : xs[jj] ∈ xs := List.getElem_mem hjl
      have tk : xs.take (jj + 1) = xs.take jj ++ [xs[jj]] := by rw [List.take_succ, hx]; rfl
      generalize xs[jj] = a0 at hx hm tk
      obtain ⟨_, _, ys0, hy0, ry0⟩ := aj.ow p _ (List.mem_cons_of_mem _ (List.mem_of_getElem? hj))
      have ev0 : v = .ref (qa a0) := by
        obtain ⟨d0, hd0, rd0⟩ := ry0.getV (hv _ hy0)
        rw [List.getElem?_map, hx] at hd0
        cases hd0
        exact rd0
      refine ⟨?_, fun s0 H00 C cl fp => ?_⟩
      · show ((wipe s [i]).set i (some v)).set i none = (s.set i none)
        show (((s.set i none).set i (some v)).set i none) = _
        rw [List.set_set, List.set_set]
      have slot : Sl X.K Bj (G.set i (some (.raw (.ref (qa a0))))) ((wipe s [i]).set i (some v)) := by
        have z := (aj.sl.wipe i).set (d := .raw (.ref (qa a0))) (v := v) ev0 i
        rw [List.set_set] at z
        exact z
      have a2 := aj.slots slot
      obtain ⟨G', vw, hT⟩ := ht a0 hm
      obtain ⟨v1, v2, v3, v4⟩ := a2.view (vw.mono (O' := (Da, .lst (((xs.take jj).filter P).map fun a => .raw (.ref (qa a)))) :: O) fun x m => List.mem_cons_of_mem _ m)
      refine hT s0 H00 C cl fp _ _ _ v1 v2 _ fun B3 H3 g3 => ?_
      obtain ⟨a3, _, _⟩ := v4 B3 H3 g3
      have sbc : Same Bj (cutB B3 ((Da, .lst (((xs.take jj).filter P).map fun a => .raw (.ref (qa a)))) :: O)) := fun q o e => by
        rw [cutB_not]
        · exact g3.b q o (v3 q o e)
        · rintro ⟨ob, m⟩
          rw [(a2.ow q ob m).1] at e; cases e
      cases hP : P a0 with
      | false =>
        have z := a3.slots (aj.sl.mono sbc)
        refine iteF ⟨cutB B3 ((Da, .lst (((xs.take jj).filter P).map fun a => .raw (.ref (qa a)))) :: O), ?_⟩
        rw [tk, List.filter_append, List.filter_cons_of_neg (by rw [hP]; simp), List.filter_nil, List.append_nil]
        exact z
      | true =>
        refine iteT fun s0 H0' C cl fp => he a0 hm s0 H0' C cl fp _ _ H3 a3.sl a3.gr.s _ fun y B4 H4 g4 r4 => ?_
        have a4 := a3.grow g4
        obtain rfl : y = .ref (qa a0) := r4
        obtain ⟨c1, c2, ys, hy4, ry⟩ := a4.ow Da _ List.mem_cons_self
        have lt : ys.length < sizeLine := by
          have z1 := ry.length
          rw [List.length_map] at z1
          have z2 := List.length_filter_le P (xs.take jj)
          rw [List.length_take] at z2
          omega
        have a5 := At.put (j := 0) (ob' := .lst ((((xs.take jj).filter P).map fun a => Dt.raw (.ref (qa a))) ++ [.raw (.ref (qa a0))])) (o := .lst (ys ++ [.ref (qa a0)])) a4 rfl ⟨ys ++ [.ref (qa a0)], upd_same, ry.snoc (d := .raw (.ref (qa a0))) (show Rep X.K B4 (.raw (.ref (qa a0))) (.ref (qa a0)) from rfl)⟩
        refine ⟨ys, hy4, lt, B4, ?_⟩
        rw [tk, List.filter_append, List.filter_cons_of_pos hP, List.filter_nil, List.map_append]
        exact a5.slots (aj.sl.mono (sbc.trans g4.b))
    · rintro Hn ⟨Bn, an⟩
      rw [List.take_length] at an
      exact k Da _ _ ⟨Bn, At.set (d := .raw (.ref Da)) (v := .ref Da) an rfl n⟩)
end
/-! ### a view where one's own things are instances -/
mutual
def nlI : Dt → Bool
  | .ins _ _ _ => false
  | .dic _ _ _ => false
  | .lst l => nlsI l
  | .tup l => nlsI l
  | .non => true
  | .bl _ => true
  | .int _ => true
  | .str _ => true
  | .raw _ => true
def nlsI : List Dt → Bool
  | [] => true
  | d :: ds => nlI d && nlsI ds
end
theorem nlsI_map {A : Type} (f : A → Dt) : ∀ l : List A, (∀ a ∈ l, nlI (f a) = true) → nlsI (l.map f) = true
  | [], _ => rfl
  | a :: l, h => by
    show (nlI (f a) && nlsI (l.map f)) = true
    rw [h a List.mem_cons_self, nlsI_map f l fun x hx => h x (List.mem_cons_of_mem _ hx)]
    rfl
section
variable {K : PySem.W.Frag} {B0 H0 B H : Hp} {G G' : List (Option Dt)} {O : List (Addr × Ob)} {s : L2.St}
def IsI (o : HO) : Prop := ∃ C dx fs, o = .ins C dx fs
theorem isI_no {o : HO} {P : Prop} (h : IsI o ∨ P) (n : ¬ IsI o) : P := h.resolve_left n
theorem sqT_cutI {B1 B2 : Hp} (hk : ∀ q o, B1 q = some o → IsI o ∨ B2 q = some o) {a : Addr} {xs : List V} (h : SqT K B1 a xs) : SqT K B2 a xs := by
  rcases h with (h | ⟨o, h⟩) | h
  · exact .inl (.inl (isI_no (hk a _ h) fun ⟨_, _, _, z⟩ => by cases z))
  · exact .inl (.inr ⟨o, isI_no (hk a _ h) fun ⟨_, _, _, z⟩ => by cases z⟩)
  · exact .inr h
theorem sqL_cutI {B1 B2 : Hp} (hk : ∀ q o, B1 q = some o → IsI o ∨ B2 q = some o) {a : Addr} {xs : List V} (h : SqL K B1 a xs) : SqL K B2 a xs := by
  rcases h with (h | ⟨o, h⟩) | h
  · exact .inl (.inl (isI_no (hk a _ h) fun ⟨_, _, _, z⟩ => by cases z))
  · exact .inl (.inr ⟨o, isI_no (hk a _ h) fun ⟨_, _, _, z⟩ => by cases z⟩)
  · exact .inr h
mutual
theorem nlI_cut {B1 B2 : Hp} (hk : ∀ q o, B1 q = some o → IsI o ∨ B2 q = some o) : ∀ {d : Dt} {v : V}, nlI d = true → Rep K B1 d v → Rep K B2 d v
  | .non, _, _, h => h
  | .bl _, _, _, h => h
  | .int _, _, _, h => h
  | .str _, _, _, h => h
  | .raw _, _, _, h => h
  | .lst l, v, n, h => by
    obtain ⟨a, xs, e, h1, h2⟩ := h
    exact ⟨a, xs, e, sqL_cutI hk h1, nlsI_cut hk n h2⟩
  | .dic _ _ _, v, n, h => absurd n Bool.false_ne_true
  | .tup l, v, n, h => by
    obtain ⟨a, xs, e, h1, h2⟩ := h
    exact ⟨a, xs, e, sqT_cutI hk h1, nlsI_cut hk n h2⟩
  | .ins C ns l, v, n, h => absurd n Bool.false_ne_true
theorem nlsI_cut {B1 B2 : Hp} (hk : ∀ q o, B1 q = some o → IsI o ∨ B2 q = some o) : ∀ {l : List Dt} {xs : List V}, nlsI l = true → RepAll K B1 l xs → RepAll K B2 l xs
  | [], _, _, h => h
  | d :: ds, xs, n, h => by
    obtain ⟨v, r, e, h2, h3⟩ := h
    have n' : (nlI d && nlsI ds) = true := n
    rw [Bool.and_eq_true] at n'
    exact ⟨v, r, e, nlI_cut hk n'.1 h2, nlsI_cut hk n'.2 h3⟩
end
def OnlyI (O : List (Addr × Ob)) : Prop := ∀ q ob, (q, ob) ∈ O → ∃ C dx ns ds, ob = Ob.ins C dx ns ds
theorem onlyI1 {p C dx : Addr} {ns : List Str} {ds : List Dt} : OnlyI [(p, .ins C dx ns ds)] := fun q ob m => by
  rw [List.mem_singleton] at m
  cases m
  exact ⟨_, _, _, _, rfl⟩
theorem At.viewI (a : At K B0 H0 B G O s H) (hI : OnlyI O) {B1 H1 : Hp} (g : Gr (joinB B H O) H B1 H1) {d : Dt} {v : V} (n : nlI d = true) (r : Rep K B1 d v) : Rep K (cutB B1 O) d v := nlI_cut (fun q o e => by
  by_cases m : ∃ ob, (q, ob) ∈ O
  · obtain ⟨ob, m⟩ := m
    obtain ⟨C, dx, ns, ds, rfl⟩ := hI q ob m
    obtain ⟨_, _, vs, hq, _⟩ := a.ow q _ m
    have h1 := g.s q o e
    rw [g.h q _ hq] at h1
    cases h1
    exact .inl ⟨_, _, _, rfl⟩
  · right
    rw [cutB_not m]
    exact e) n r
end
section
variable {X : Cx} {B0 H0 : Hp} {G G' G2 : List (Option Dt)} {O O' : List (Addr × Ob)} {rest body els : List Stmt} {D : Ends} {e o c iter tg : Expr} {d : Dt} {ds : List Dt} {pos ap : Pos} {i j n : Nat} {p C dx : Addr} {ns : List Str} {f : Str}
theorem go_newFldV (vw : Vw G O G') (hI : OnlyI O) (h : EV X G' e d) (nn : nlI d = true) (ho : EV X G o (.raw (.ref p))) (hj : O[j]? = some (p, .ins C dx ns ds)) (hc : Cls X.K C) (hn : NoAttr X.K C f) (k : Go X B0 H0 G (O.set j (p, .ins C dx (ns ++ [f]) (ds ++ [d]))) rest D)
    (hl : ns.length = ds.length := by rfl) (hz : Nat.blt ns.length 1000 = true := by rfl) (hf : ns.all (fun n => !(f == n)) = true := by decide +kernel) (hs : swapsWith e (some (.Attribute o f ap)) pos.line X.env = pure false := by rfl) : Go X B0 H0 G O (.Assign [.Attribute o f ap] e pos :: rest) D := fun s H ⟨B, a⟩ =>
  run_c (ps_fld pe_wk pe_wk hs) (by
    obtain ⟨v1, v2, v3, v4⟩ := a.view vw
    refine h s _ H v1 v2 _ fun v B1 H1 g1 r1 => ?_
    obtain ⟨a1, _, _⟩ := v4 B1 H1 g1
    have r1' := a.viewI hI g1 nn r1
    refine ho s _ H1 a1.sl a1.gr.s _ fun x B2 H2 g2 r2 => ?_
    have a2 := a1.grow g2
    obtain rfl : x = .ref p := r2
    obtain ⟨_, _, vs, hp, rp⟩ := a2.ow p _ (List.mem_of_getElem? hj)
    have vl := rp.length
    have hz := Nat.le_of_ble_eq_true hz
    refine ⟨p, C, dx, _, rfl, hp, hc, hn, by rw [List.length_zip]; omega, ?_⟩
    have e : putF f v (ns.zip vs) = (ns ++ [f]).zip (vs ++ [v]) := by
      rw [List.zip_append (by omega)]
      refine putF_new fun q hq => ?_
      have m := (List.of_mem_zip (a := q.1) (b := q.2) hq).1
      have := List.all_eq_true.mp hf _ m
      intro z
      rw [z] at this
      simp at this
    rw [e]
    exact k _ _ ⟨_, a2.put hj ⟨vs ++ [v], upd_same, rp.snoc (r1'.mono g2.b)⟩⟩)
theorem go_setFldV (vw : Vw G O G') (hI : OnlyI O) (h : EV X G' e d) (nn : nlI d = true) (ho : EV X G o (.raw (.ref p))) (hj : O[j]? = some (p, .ins C dx ns ds)) (hc : Cls X.K C) (hn : NoAttr X.K C f) (hi : ns[i]? = some f) (hnd : ns.Nodup) (k : Go X B0 H0 G (O.set j (p, .ins C dx ns (ds.set i d))) rest D)
    (hl : ns.length = ds.length := by rfl) (hz : Nat.blt ns.length 1000 = true := by rfl) (hs : swapsWith e (some (.Attribute o f ap)) pos.line X.env = pure false := by rfl) : Go X B0 H0 G O (.Assign [.Attribute o f ap] e pos :: rest) D := fun s H ⟨B, a⟩ =>
  run_c (ps_fld pe_wk pe_wk hs) (by
    obtain ⟨v1, v2, v3, v4⟩ := a.view vw
    refine h s _ H v1 v2 _ fun v B1 H1 g1 r1 => ?_
    obtain ⟨a1, _, _⟩ := v4 B1 H1 g1
    have r1' := a.viewI hI g1 nn r1
    refine ho s _ H1 a1.sl a1.gr.s _ fun x B2 H2 g2 r2 => ?_
    have a2 := a1.grow g2
    obtain rfl : x = .ref p := r2
    obtain ⟨_, _, vs, hp, rp⟩ := a2.ow p _ (List.mem_of_getElem? hj)
    have vl := rp.length
    have hz := Nat.le_of_ble_eq_true hz
    refine ⟨p, C, dx, _, rfl, hp, hc, hn, by rw [List.length_zip]; omega, ?_⟩
    rw [putF_at hnd hi (by omega)]
    exact k _ _ ⟨_, a2.put hj ⟨vs.set i v, upd_same, rp.set i (r1'.mono g2.b)⟩⟩)
theorem look_zip {f : Str} : ∀ {ns : List Str} {vs : List V} {i : Nat} {v : V}, ns.Nodup → ns[i]? = some f → vs[i]? = some v → (ns.zip vs).lookup f = some v
  | [], vs, i, v, _, h, _ => by simp at h
  | n :: ns, [], i, v, _, _, h => by simp at h
  | n :: ns, x :: vs, 0, v, nd, h, h2 => by
    obtain rfl : n = f := by simpa using h
    obtain rfl : x = v := by simpa using h2
    simp
  | n :: ns, x :: vs, i + 1, v, nd, h, h2 => by
    have h : ns[i]? = some f := by simpa using h
    have ne : n ≠ f := fun z => (List.nodup_cons.mp nd).1 (z ▸ List.mem_of_getElem? h)
    rw [List.zip_cons_cons, List.lookup_cons, beq_eq_false_iff_ne.mpr (Ne.symm ne)]
    exact look_zip (List.nodup_cons.mp nd).2 h (by simpa using h2)
/-- self.f += k, the field an int -/
theorem go_augFld {m k : Int} {q1 : Pos} {kk : Nat} (ho : EV X G o (.raw (.ref p))) (hj : O[j]? = some (p, .ins C dx ns ds)) (hc : Cls X.K C) (hn : NoAttr X.K C f) (hi : ns[i]? = some f) (hnd : ns.Nodup) (hd : ds[i]? = some (.int m)) (kn : Go X B0 H0 G (O.set j (p, .ins C dx ns (ds.set i (.int (m + k))))) rest D)
    (hl : ns.length = ds.length := by rfl) (hz : Nat.blt ns.length 1000 = true := by rfl) : Go X B0 H0 G O (.AugAssign (.Attribute o f ap) .Add (.Constant (.int k) kk q1) pos :: rest) D := fun s H ⟨B, a⟩ =>
  run_c (ps_fldaug pe_wk pe_int in_add) (by
    refine ho s B H a.sl a.gr.s _ fun x B2 H2 g2 r2 => ?_
    have a2 := a.grow g2
    obtain rfl : x = .ref p := r2
    obtain ⟨_, _, vs, hp, rp⟩ := a2.ow p _ (List.mem_of_getElem? hj)
    have vl := rp.length
    have hz := Nat.le_of_ble_eq_true hz
    obtain ⟨v, hv, rv⟩ := rp.get hd
    obtain rfl : v = .int m := rv
    refine ⟨p, C, dx, _, _, rfl, hp, hc, hn, look_zip hnd hi hv, m, k, rfl, rfl, dx, _, hp, by rw [List.length_zip]; omega, ?_⟩
    rw [putF_at hnd hi (by omega)]
    exact kn _ _ ⟨_, a2.put hj ⟨vs.set i (.int (m + k)), upd_same, rp.set i (d := .int (m + k)) rfl⟩⟩)
/-- return e, e reading own instances -/
theorem go_retVI (vw : Vw G O G') (hI : OnlyI O) (h : EV X G' e d) (nn : nlI d = true) (k : ∀ s B H v, At X.K B0 H0 B G O s H → Rep X.K B d v → D.rt v H) : Go X B0 H0 G O (.Return (some e) pos :: rest) D := fun s H ⟨B, a⟩ =>
  run_c (ps_ret pe_wk) (by
    obtain ⟨v1, v2, v3, v4⟩ := a.view vw
    refine h s _ H v1 v2 _ fun v B1 H1 g1 r1 => ?_
    obtain ⟨a1, _, _⟩ := v4 B1 H1 g1
    exact k s _ H1 v a1 (a.viewI hI g1 nn r1))
/-- for tg in e, e read among own instances -/
theorem go_forLV (hp : PassesOwn (model X.prog X.w) X.A X.env X.xe) (hc : X.calm = true) (vw : Vw G O G') (hI : OnlyI O) (hi : EV X G' iter (.lst ds)) (nn : nlsI ds = true) (W : Nat → List (Option Dt) → List (Addr × Ob) → Prop) (w0 : W 0 G O)
    (hs : ∀ B1, Up B0 H0 B1 → ∀ (j : Nat) (d : Dt) G1 O1, ds[j]? = some d → W j G1 O1 → ∃ G2, TGT X G1 tg d G2 ∧ Go X B1 H0 G2 O1 body { D with nx := InW X.K B1 H0 (W (j + 1)), ct := InW X.K B1 H0 (W (j + 1)), bk := fun s H => RunS X rest D s H })
    (hd : ∀ G1 O1, W ds.length G1 O1 → Go X B0 H0 G1 O1 rest D) (hf : ∀ x, foldedSetIterable iter X.env x = pure x := by intro _; rfl) : Go X B0 H0 G O (.For tg iter body [] pos :: rest) D := fun s H ⟨B, a⟩ =>
  run_c (ps_for hp hc (pi_list pe_wk) pg_wk pss_wk hf) (by
    obtain ⟨v1, v2, v3, v4⟩ := a.view vw
    refine hi s _ H v1 v2 _ fun v B1' H1 g1 r1 => ?_
    obtain ⟨a1, _, _⟩ := v4 B1' H1 g1
    obtain ⟨ad, xs, rfl, h1, h2⟩ := a.viewI hI g1 (d := .lst ds) nn r1
    refine ⟨ad, rfl, ⟨xs, a1.gr.s.seq h1⟩, ?_⟩
    have w : Walk (Itl X.K ad) ds.length (fun H => SqL X.K H ad xs) (YD X.K (cutB B1' O) ds) := by
      rw [← h2.length]
      exact walk_list.mono (fun _ h => h) fun i H x H' _ _ y => yd_same h2 i H x H' y
    refine for_it (g := fun v s H Q => RunG X tg v Q s H) (tb := fun D s H => RunS X body D s H) w (fun j s H => InW X.K (cutB B1' O) H0 (W j) s H) ⟨G, O, w0, _, a1.root⟩ ?_ ?_ ?_
    · rintro j s H _ ⟨G, O, _, B, a⟩
      exact (a.gr.b.trans a.gr.s).seq h1
    · rintro j v s1 H2 H3 hj ⟨G2, O2, w2, B2, a2⟩ y
      obtain ⟨d, B3, hd, g3, r3⟩ := y B2 a2.gr.b a2.gr.s
      obtain ⟨G4, ht, k⟩ := hs _ a1.up j d G2 O2 hd w2
      have a3 := a2.grow g3
      exact ht s1 B3 H3 v a3.sl g3.s r3 _ fun s' hs' => k s' H3 ⟨B3, a3.slots hs'⟩
    · rintro s1 H2 ⟨G2, O2, w2, i2⟩
      exact hd G2 O2 w2 s1 H2 (a1.up.in_ i2))
/-- return e, e changing own things -/
theorem go_retO {R : Dt → List (Addr × Ob) → Prop} (h : EVO X G O e R) (k : ∀ d O' s B H v, R d O' → At X.K B0 H0 B G O' s H → Rep X.K B d v → D.rt v H) : Go X B0 H0 G O (.Return (some e) pos :: rest) D := fun s H ⟨B, a⟩ =>
  run_c (ps_ret pe_wk) (h s B0 H0 B H [] a _ fun d v B' H' O' r a' _ rv => k d O' s B' H' v r a' rv)
theorem Up.at_ {B1 B : Hp} {K : PySem.W.Frag} {s : L2.St} {H : Hp} (u : Up B0 H0 B1) (a : At K B1 H0 B G O s H) : At K B0 H0 B G O s H := ⟨u.gr a.gr, a.sl, a.ow, a.nd⟩
end
/-! ### methods of own instances -/
/-- called with one's own instance at p, its fields st i -/
def spOwn (K : PySem.W.Frag) (C : Addr) (ns : List Str) {T : Type} (args st : T → List Dt) (pre : T → Prop) (res : T → Dt → List Dt → Prop) : Sp := fun vs H Q _ => ∃ (i : T) (B : Hp) (p dx : Addr) (ws : List V), vs = .ref p :: ws ∧ B p = none ∧ pre i ∧ Same B H ∧ ObAt K B H p (.ins C dx ns (st i)) ∧ RepAll K B (args i) ws ∧
  ∀ d st' v B' H', res i d st' → Wr K B H p B' H' (.ins C dx ns st') → Rep K B' d v → Q v H'
section
variable {P : Program} {w : World} {K : PySem.W.Frag} {mg : Str → Option Value} {base : Heap} {x qual : Str} {stt : Stmt} {f : Addr} {fd : FuncData}
theorem fn_okO {N ps : List Str} {k : Nat} {C : Addr} {ns : List Str} {T : Type} {args st : T → List Dt} {pre : T → Prop} {res : T → Dt → List Dt → Prop} (F : FnP K x qual stt f fd) (S : FnScope N ps (defScope stt)) (hl : ∀ i, (args i).length + 1 = ps.length)
    (body : ∀ (i : T) (p dx : Addr) (cdv : Value) (A : Around) (outer : List Env) (s : Shared) (Hc : Hp) (E : XK) (B0 H0 : Hp) (D : Ends), Room k (A.deeper (envOfC qual (defScope stt) s.heap.objs.size f cdv)) → pre i →
      (∀ d st' v G O σ B' H', res i d st' → At K B0 H0 B' G O σ H' → (p, Ob.ins C dx ns st') ∈ O → Rep K B' d v → D.rt v H') →
      (∀ st' G O σ B' H', res i .non st' → At K B0 H0 B' G O σ H' → (p, Ob.ins C dx ns st') ∈ O → D.nx σ H') →
      Go (cxOf CX0 P w K mg base N qual (defScope stt) f cdv A outer s Hc E).nox B0 H0 (some (.raw (.ref p)) :: ((args i).map some ++ List.replicate (N.length - ((args i).length + 1)) none)) [(p, .ins C dx ns (st i))] (defBody stt) D) : FnOk P w K mg base CX0 (k + 1) f fd ps (spOwn K C ns args st pre res) := by
  refine fn_okG F S (fun vs H Q E ⟨i, B, p, dx, ws, e, _, _, _, _, r, _⟩ => by rw [e, List.length_cons, r.length, hl]) fun cdv A outer s H vs Q E hr h => ?_
  obtain ⟨i, B, p, dx, ws, rfl, bp, hp, sb, hob, r, q⟩ := h
  have hN : (args i).length + 1 ≤ N.length := by
    have := congrArg List.length S.pre
    rw [List.length_take] at this
    rw [hl]
    omega
  have start := At.start sb bp hob (sl_start (ds := .raw (.ref p) :: args i) (N := N) ⟨.ref p, ws, rfl, rfl, r⟩ hN)
  exact body i p dx cdv A outer s _ E B (lessP H p) _ hr hp (fun d st' v G O σ B' H' hres a m rv => q d st' v B' H' hres (a.wr bp m) rv) (fun st' G O σ B' H' hres a m => q .non st' .non B' H' hres (a.wr bp m) rfl) _ _ ⟨B, start⟩
end
section
variable {X : Cx} {G : List (Option Dt)} {O : List (Addr × Ob)} {o e e1 e2 : Expr} {es : List Expr} {d1 d2 : Dt} {ds1 ds : List Dt} {pos apos ap mp : Pos} {j k k2 : Nat} {p C dx : Addr} {ns ps ps2 : List Str} {m x x2 : Str} {T T2 : Type} {args st : T → List Dt} {pre : T → Prop} {res : T → Dt → List Dt → Prop} {args2 fl2 : T2 → List Dt} {pre2 : T2 → Prop}
theorem evo_own0 {pl : Sem Bool} (F : CalM X.prog X.w X.K X.mg X.base k C m ps (spOwn X.K C ns args st pre res)) (hr : Room k X.A) (ho : EV X G o (.raw (.ref p))) (hc : Cls X.K C) (hno : ns.all (fun n => !(m == n)) = true) (hj : O[j]? = some (p, .ins C dx ns ds)) (i : T) (hst : st i = ds) (hargs : args i = []) (hp : pre i)
    (ht : eval (.Call (.Attribute o m apos) [] [] pos) X.env = (do
      let ov ← eval o X.env
      standAt apos.atName
      let (f, first) ← holding [ov] (getMethod ov m pl)
      callWith pos f first (backTo pos (starEach [] X.env)) (backToKw pos (keywordEach [] X.env))) := by rfl) :
    EVO X G O (.Call (.Attribute o m apos) [] [] pos) (fun d O' => ∃ st', res i d st' ∧ O' = O.set j (p, .ins C dx ns st')) := fun s B0 H0 B H F' a Q q => by
  obtain ⟨f, fd, F, hm, hB⟩ := F
  subst hst
  refine run_e (pe_meth0 pe_wk hc hm F hr hB .nil pass0 ht) (ho s B H a.sl a.gr.s _ fun v B1 H1 g1 r1 => ?_)
  obtain rfl : v = .ref p := r1
  have a1 := a.grow g1
  have hO' : (F' ++ O)[F'.length + j]? = some (p, .ins C dx ns (st i)) := by rw [List.getElem?_append_right (by omega), Nat.add_sub_cancel_left]; exact hj
  obtain ⟨b1, b2, vs, hv, rv⟩ := a1.ow p _ (List.mem_of_getElem? hO')
  refine ⟨p, dx, _, rfl, hv, rep_nolook vs hno, ?_⟩
  show spOwn X.K C ns args st pre res (.ref p :: ([] ++ [])) H1 Q E0
  refine ⟨i, B1, p, dx, [], rfl, b1, hp, a1.gr.s, ⟨vs, hv, rv⟩, by rw [hargs]; exact rfl, fun d st' v B2 H2 hd w rd => ?_⟩
  have a2 := a1.call hO' w
  rw [List.set_append_right _ _ (by omega), Nat.add_sub_cancel_left] at a2
  exact q d v B2 H2 _ ⟨st', hd, rfl⟩ a2 (g1.b.trans w.b) rd
theorem evo_own {pl : Sem Bool} (F : CalM X.prog X.w X.K X.mg X.base k C m ps (spOwn X.K C ns args st pre res)) (hr : Room k X.A) (ho : EV X G o (.raw (.ref p))) (hc : Cls X.K C) (hno : ns.all (fun n => !(m == n)) = true) (hj : O[j]? = some (p, .ins C dx ns ds)) (ha : EVs X G (e :: es) ds1) (i : T) (hst : st i = ds) (hargs : args i = ds1) (hp : pre i)
    (hsr : starEach (e :: es) X.env = (false, eval e X.env) :: starEach es X.env := by rfl) (hpl : (backTo pos (starEach es X.env)).any (·.1) = false := by rfl)
    (ht : eval (.Call (.Attribute o m apos) (e :: es) [] pos) X.env = (do
      let ov ← eval o X.env
      standAt apos.atName
      let (f, first) ← holding [ov] (getMethod ov m pl)
      callWith pos f first (backTo pos (starEach (e :: es) X.env)) (backToKw pos (keywordEach [] X.env))) := by rfl) :
    EVO X G O (.Call (.Attribute o m apos) (e :: es) [] pos) (fun d O' => ∃ st', res i d st' ∧ O' = O.set j (p, .ins C dx ns st')) := fun s B0 H0 B H F' a Q q => by
  obtain ⟨f, fd, F, hm, hB⟩ := F
  subst hst
  refine run_e (pe_meth pe_wk hc hm F hr hB .nil pass0 pa_wk hsr hpl ht) (ho s B H a.sl a.gr.s _ fun v B1 H1 g1 r1 => ?_)
  obtain rfl : v = .ref p := r1
  have a1 := a.grow g1
  have hO' : (F' ++ O)[F'.length + j]? = some (p, .ins C dx ns (st i)) := by rw [List.getElem?_append_right (by omega), Nat.add_sub_cancel_left]; exact hj
  obtain ⟨_, _, vs0, hv0, _⟩ := a1.ow p _ (List.mem_of_getElem? hO')
  refine ⟨p, dx, _, rfl, hv0, rep_nolook vs0 hno, ha s B1 H1 a1.sl a1.gr.s _ fun ws B2 H2 g2 r2 => ?_⟩
  have a2 := a1.grow g2
  obtain ⟨b1, b2, vs, hv, rv⟩ := a2.ow p _ (List.mem_of_getElem? hO')
  rw [List.append_nil]
  refine ⟨i, B2, p, dx, ws, rfl, b1, hp, a2.gr.s, ⟨vs, hv, rv⟩, by rw [hargs]; exact r2, fun d st' v B3 H3 hd w rd => ?_⟩
  have a3 := a2.call hO' w
  rw [List.set_append_right _ _ (by omega), Nat.add_sub_cancel_left] at a3
  exact q d v B3 H3 _ ⟨st', hd, rfl⟩ a3 (g1.b.trans (g2.b.trans w.b)) rd
/-- f(C(e1), e2): the new instance handed on -/
theorem evr_made (F : Cal X.prog X.w X.K X.mg X.base k x ps (spOwn X.K C ns args st pre res)) (M : CalC X.prog X.w X.K X.mg X.base k2 x2 C ps2 (spMk X.K C ns args2 pre2 fl2)) (hr : Room k X.A) (hr2 : Room (k2 + 1) X.A) (hg : Gl X x) (hg2 : Gl X x2)
    (h1 : EV X G e1 d1) (h2 : EV X G e2 d2) (i2 : T2) (ha2 : args2 i2 = [d1]) (hp2 : pre2 i2) (i : T) (hst : st i = fl2 i2) (hargs : args i = [d2]) (hp : pre i) (hdb : (x == ("__debug__" : Str)) = false := by decide) (hdb2 : (x2 == ("__debug__" : Str)) = false := by decide)
    (q1 : starEach [.Call (.Name x2 mp) [e1] [] apos, e2] X.env = (false, eval (.Call (.Name x2 mp) [e1] [] apos) X.env) :: starEach [e2] X.env := by rfl) (q2 : starEach [e2] X.env = (false, eval e2 X.env) :: starEach [] X.env := by rfl) (q3 : starEach [e1] X.env = (false, eval e1 X.env) :: starEach [] X.env := by rfl)
    (hpl : (backTo pos (starEach [e2] X.env)).any (·.1) = false := by rfl) (hpl2 : (backTo apos (starEach [] X.env)).any (·.1) = false := by rfl) :
    EVR X G (.Call (.Name x ap) [.Call (.Name x2 mp) [e1] [] apos, e2] [] pos) (fun d => ∃ st', res i d st') := fun s B H hs hb Q q => by
  obtain ⟨f, fd, F, hm, hk, hB⟩ := F
  obtain ⟨f2, fd2, F2, hm2, M, hB2⟩ := M
  refine run_e (pe_call F hr hg hm hk hB .nil pass0 (pa_cons (pe_make M F2 hr2 hg2 hm2 hB2 .nil pass0 (pa_cons pe_wk pa_nil q3) hdb2 q3 hpl2) (pa_cons pe_wk pa_nil q2) q1) hdb q1 hpl) (h1 s B H hs hb _ fun v1 B1 H1 g1 r1 => ?_)
  intro z dx hz hdx hne
  have bz : B1 z = none := g1.s.free hz
  have bd : B1 dx = none := g1.s.free hdx
  have h2' : ∀ q o, H1 q = some o → (upd (upd H1 dx (.own z)) z (.ins C dx [])) q = some o := fun q o e => by
    rw [upd_ne (ne_of_none e hz), upd_ne (ne_of_none e hdx)]; exact e
  refine ⟨i2, B1, z, dx, [v1], rfl, upd_same, bz, hp2, g1.s.trans h2', by rw [ha2]; exact ⟨v1, [], rfl, r1, rfl⟩, fun xs B' H' e1 e2 e3 e4 e5 e6 => ⟨rfl, ?_⟩⟩
  have b'z : B' z = none := by rw [e2 z (by rw [upd_same]; simp)]; exact bz
  refine h2 s B' H' (hs.mono (g1.b.trans e1)) e3 _ fun v2 B2 H2 g2 r2 => ?_
  have b2z : B2 z = none := by rw [g2.k z (by rw [e5]; simp)]; exact b'z
  have h2z : H2 z = some (.ins C dx (ns.zip xs)) := g2.h _ _ e5
  show spOwn X.K C ns args st pre res ([.ref z, v2] ++ []) H2 Q E0
  rw [List.append_nil]
  refine ⟨i, B2, z, dx, [v2], rfl, b2z, hp, g2.s, ⟨xs, h2z, hst ▸ e6.mono g2.b⟩, by rw [hargs]; exact ⟨v2, [], rfl, r2, rfl⟩, fun d st' v B3 H3 hd w rd => ?_⟩
  refine q d v B3 H3 ⟨st', hd⟩ (g1.trans ⟨e1.trans (g2.b.trans w.b), fun a o ea => ?_, w.s, fun a ha => ?_⟩) rd
  · have ne : a ≠ z := ne_of_none ea hz
    exact w.h a o ne (g2.h a o (e4 a o ne (h2' a o ea)))
  · have ne : a ≠ z := fun y => ha (y ▸ hz)
    have n1 : (upd (upd H1 dx (.own z)) z (.ins C dx [])) a ≠ none := by
      cases y : H1 a with
      | none => exact absurd y ha
      | some o => rw [h2' a o y]; simp
    have n2 : H' a ≠ none := by
      cases y : (upd (upd H1 dx (.own z)) z (.ins C dx [])) a with
      | none => exact absurd y n1
      | some o => rw [e4 a o ne y]; simp
    have n3 : H2 a ≠ none := by
      cases y : H' a with
      | none => exact absurd y n2
      | some o => rw [g2.h a o y]; simp
    rw [w.k a n3, g2.k a n2, e2 a n1]
end
end Dh
end SDhOwn3

section SDhBest
set_option Elab.async false
set_option linter.all false
set_option maxRecDepth 100000
set_option maxHeartbeats 4000000
local macro_rules | `(tactic| walk_at "bd") => `(tactic| first
  | exact Dh.b_in | exact Dh.b_notin | exact Dh.b_eqS | exact Dh.b_neS | exact Dh.b_isN | exact Dh.b_notN | exact Dh.b_add | exact Dh.b_sub | exact Dh.b_lt | exact Dh.b_le | exact Dh.b_gt | exact Dh.b_ge | exact Dh.b_eqI | exact Dh.b_neI | exact Dh.b_eqB | exact Dh.b_neB)
local macro_rules | `(tactic| walk_at "xd") => `(tactic| first | exact Dh.ix_t rfl | exact Dh.ix_l rfl)
namespace Dh
open PySem PySem.Spec PyProof.Rows L2
mutual
def encTr : Tr → Dt
  | .leaf l => .tup [.str "leaf", .lst (l.map natD)]
  | .ask a bs => .tup [.str "ask", natD a, .lst (encTrs bs)]
def encTrs : List Tr → List Dt
  | [] => []
  | t :: ts => encTr t :: encTrs ts
end
theorem encTrs_map : ∀ ts : List Tr, encTrs ts = ts.map encTr
  | [] => by rw [encTrs]; rfl
  | t :: ts => by rw [encTrs, encTrs_map ts]; rfl
theorem encTr_leaf (l : List Nat) : encTr (.leaf l) = .tup [.str "leaf", .lst (l.map natD)] := by rw [encTr]
theorem encTr_ask (a : Nat) (bs : List Tr) : encTr (.ask a bs) = .tup [.str "ask", natD a, .lst (bs.map encTr)] := by rw [encTr, encTrs_map]
/-- an entry: places, depth, tree -/
abbrev Ent := List Nat × Nat × Tr
abbrev fkE (e : Ent) : List Nat := e.1
abbrev bestD (e : Ent) : Dt := .tup [natD e.2.1, encTr e.2.2]
abbrev obK (es : List Ent) : Ob := obT fkE bestD es
def EsOk (rows : List RowA) (many : Nat) (es : List Ent) : Prop := ∀ e ∈ es, Proper (keyR rows) many e.2.2 e.1
def cB : Nat → Nat
  | 0 => 1
  | n + 1 => 1 + 6 * (4 * cB n)
theorem cB_mono : ∀ n, cB n ≤ cB (n + 1)
  | 0 => by show 1 ≤ 1 + 6 * (4 * cB 0); omega
  | n + 1 => by
    have := cB_mono n
    show 1 + 6 * (4 * cB n) ≤ 1 + 6 * (4 * cB (n + 1))
    omega
structure BOk (rows : List RowA) (many : Nat) (pl : List Nat) : Prop where
  ro : RowsOk rows many
  many : many ≤ 6
  lt : ∀ p ∈ pl, p < rows.length
  len : pl.length ≤ 4
def spBest (K : PySem.W.Frag) (n : Nat) : Sp := fun vs H Q _ => ∃ (rows : List RowA) (many : Nat) (pl : List Nat) (es : List Ent) (B : Hp) (p : Addr), RepAll K B [.lst (rows.map encRA), natD many, .lst (pl.map natD), .raw (.ref p)] vs ∧ Same B H ∧ B p = none ∧ ObAt K B H p (obK es) ∧ BOk rows many pl ∧ EsOk rows many es ∧
  pl.length ≤ n + 1 ∧ es.length + cB n ≤ 100000 ∧
  ∀ (e : Ent) (es' : List Ent) v B' H', e.1 = pl → Proper (keyR rows) many e.2.2 pl → EsOk rows many es' → es'.length ≤ es.length + cB n → (∀ e' ∈ es', e' ∈ es ∨ e'.1.length ≤ pl.length) → Wr K B H p B' H' (obK es') → Rep K B' (bestD e) v → Q v H'
theorem spBest.len {K : PySem.W.Frag} {n : Nat} : ∀ vs H Q E, spBest K n vs H Q E → vs.length = 4 := fun vs H Q E ⟨rows, many, pl, es, B, p, r, _⟩ => by rw [r.length]; rfl
theorem exists_max : ∀ (l : List Nat), l ≠ [] → ∃ m ∈ l, ∀ y ∈ l, y ≤ m
  | [], h => absurd rfl h
  | [x], _ => ⟨x, List.mem_singleton.mpr rfl, fun y hy => by rw [List.mem_singleton] at hy; omega⟩
  | x :: y :: l, _ => by
    obtain ⟨m, hm, h⟩ := exists_max (y :: l) (by simp)
    by_cases z : x ≤ m
    · exact ⟨m, List.mem_cons_of_mem _ hm, fun w hw => by
        rcases List.mem_cons.mp hw with rfl | hw
        · exact z
        · exact h w hw⟩
    · exact ⟨x, List.mem_cons_self, fun w hw => by
        rcases List.mem_cons.mp hw with rfl | hw
        · exact Nat.le_refl _
        · have := h w hw; omega⟩
section
variable {P : Program} {w : World} {K : PySem.W.Frag} {mg : Str → Option Value} {base : Heap} {f : Addr} {fd : FuncData} {A : Ad}
theorem evo_best {X : Cx} {G : List (Option Dt)} {O : List (Addr × Ob)} {k n j : Nat} {p : Addr} {ap pos : Pos} {e1 e2 e3 e4 : Expr} {rows : List RowA} {many : Nat} {pl : List Nat} {es : List Ent} (F : FnOk X.prog X.w X.K X.mg X.base CX0 k f fd ["answers", "many", "places", "kept"] (spBest X.K n)) (hm : X.mg "best_for" = some (.ref f)) (hk : PySem.W.keepIn X.K (.ref f) = true) (hB : Binds X.K fd ["answers", "many", "places", "kept"] [])
    (hr : Room k X.A) (hg : Gl X "best_for") (ha : EVs X G [e1, e2, e3, e4] [.lst (rows.map encRA), natD many, .lst (pl.map natD), .raw (.ref p)]) (hO : O[j]? = some (p, obK es)) (ok : BOk rows many pl) (eok : EsOk rows many es) (hn : pl.length ≤ n + 1) (hz : es.length + cB n ≤ 100000)
    (he : starEach [e1, e2, e3, e4] X.env = (false, eval e1 X.env) :: starEach [e2, e3, e4] X.env := by rfl) (hpl : (backTo pos (starEach [e2, e3, e4] X.env)).any (·.1) = false := by rfl) :
    EVO X G O (.Call (.Name "best_for" ap) [e1, e2, e3, e4] [] pos) (fun d O' => ∃ (e : Ent) (es' : List Ent), d = bestD e ∧ e.1 = pl ∧ Proper (keyR rows) many e.2.2 pl ∧ EsOk rows many es' ∧ es'.length ≤ es.length + cB n ∧ (∀ e' ∈ es', e' ∈ es ∨ e'.1.length ≤ pl.length) ∧ O' = O.set j (p, obK es')) := fun s B0 H0 B H F' a Q q =>
  run_e (pe_call F hr hg hm hk hB .nil pass0 pa_wk (by decide) he hpl) (ha s B H a.sl a.gr.s _ fun vs B1 H1 g1 r1 => by
    rw [List.append_nil]
    have a1 := a.grow g1
    have hO' : (F' ++ O)[F'.length + j]? = some (p, obK es) := by rw [List.getElem?_append_right (by omega), Nat.add_sub_cancel_left]; exact hO
    obtain ⟨b1, b2, b3⟩ := a1.ow p _ (List.mem_of_getElem? hO')
    refine ⟨rows, many, pl, es, B1, p, r1, a1.gr.s, b1, b3, ok, eok, hn, hz, fun e es' v B' H' h1 h2 h3 h4 h4' h5 h6 => ?_⟩
    have a2 := a1.call hO' h5
    rw [List.set_append_right _ _ (by omega), Nat.add_sub_cancel_left] at a2
    exact q _ v B' H' _ ⟨e, es', rfl, h1, h2, h3, h4, h4', rfl⟩ a2 (g1.b.trans h5.b) h6)
theorem EVO.mono {X : Cx} {G : List (Option Dt)} {O : List (Addr × Ob)} {e : Expr} {R R' : Dt → List (Addr × Ob) → Prop} (h : EVO X G O e R) (m : ∀ d O', R d O' → R' d O') : EVO X G O e R' := fun s B0 H0 B H F a Q q => h s B0 H0 B H F a Q fun d v B' H' O' r => q d v B' H' O' (m d O' r)
def Bst (rows : List RowA) (many : Nat) (pl : List Nat) (j : Nat) (x : Dt) : Prop := (x = .non ∧ ∀ a, a < j → (partsB (keyR rows) a pl).length ≤ 1) ∨ ∃ e : Ent, x = bestD e ∧ e.1 = pl ∧ Proper (keyR rows) many e.2.2 pl
theorem best_step (F : FnP K "best_for" "best_for" s_best_for f fd) (T : Tx K mg A) (F_pb : Cal P w K mg base 1 "parts_by" ["answers", "at", "places"] (spPartsBy K)) (hm : mg "best_for" = some (.ref f)) (hk : PySem.W.keepIn K (.ref f) = true) (hB : Binds K fd ["answers", "many", "places", "kept"] [])
    (n : Nat) (ih : ∀ m, n = m + 1 → FnOk P w K mg base CX0 (m + 2) f fd ["answers", "many", "places", "kept"] (spBest K m)) : FnOk P w K mg base CX0 (n + 2) f fd ["answers", "many", "places", "kept"] (spBest K n) := by
  refine fn_okG F sc_best_for spBest.len fun cdv A' outer sh H vs Q E hr hsp => ?_
  obtain ⟨rows, many, pl, es, B, p, r, sb, bp, hob, ok, eok, hn, hz, hQ⟩ := hsp
  have hu := hr.units
  have r1 : Room 1 _ := hr.mono (by omega)
  have m6 := ok.many
  have l4 := ok.len
  obtain ⟨c, c1, c2⟩ : ∃ c, 1 + 6 * c ≤ cB n ∧ ∀ m, n = m + 1 → c = 4 * cB m := by
    cases n with
    | zero => exact ⟨0, by show 1 + 6 * 0 ≤ 1; omega, fun m e => by omega⟩
    | succ m => exact ⟨4 * cB m, by show 1 + 6 * (4 * cB m) ≤ 1 + 6 * (4 * cB m); omega, fun m' e => by rw [show m = m' by omega]⟩
  have start := At.start sb bp hob (sl_start (N := ["answers", "many", "places", "kept", "key", "best", "at", "parts", "branches", "deep", "part", "branch"]) r (by show 4 ≤ 12; decide))
  refine (?_ : Go _ B (lessP H p) [some (.lst (rows.map encRA)), some (natD many), some (.lst (pl.map natD)), some (.raw (.ref p)), none, none, none, none, none, none, none, none] [(p, obK es)] (defBody s_best_for) _) _ _ ⟨B, start⟩
  refine go_tupOwn (i := 4) (ns := pl) (ev_v 2 rfl) (fun q => ?_) rfl T.b_tuple boot_tuple sc_best_for.nd rfl (.inl rfl)
  refine go_ifKey (ns := pl) (fk := fkE) (fd := bestD) (es := es) (p := p) (q := q) hu (ev_v 4 rfl) (ev_v 3 rfl) List.mem_cons_self (List.mem_cons_of_mem _ List.mem_cons_self) (fun new => ?_) (fun e he hek => ?_)
  · refine go_set (i := 5) ev_non ?_ sc_best_for.nd rfl (.inl rfl)
    refine go_for PassesOwn.never rfl (pit_range (n := many) (ev_v 1 rfl) (by omega) rfl T.b_range)
      (fun j G O => ∃ es' x5 x6 x7 x8 x9, es'.length ≤ es.length + j * c ∧ EsOk rows many es' ∧ (∀ e' ∈ es', e' ∈ es ∨ e'.1.length < pl.length) ∧ Bst rows many pl j x5 ∧ G = [some (.lst (rows.map encRA)), some (natD many), some (.lst (pl.map natD)), some (.raw (.ref p)), some (.raw (.ref q)), some x5, x6, x7, x8, x9, none, none] ∧ O = [(q, oKey pl), (p, obK es')])
      ⟨es, .non, none, none, none, none, by omega, eok, fun e' he' => .inl he', .inl ⟨rfl, fun a h => by omega⟩, rfl, rfl⟩ (fun B1 u j d G1 O1 hd W => ?_) (fun G1 O1 W => ?_)
    · obtain ⟨es', x5, x6, x7, x8, x9, le, eok', nw, bst, rfl, rfl⟩ := W
      obtain ⟨hj, rfl⟩ := rng_get hd
      refine ⟨_, (tgt_name (i := 6) sc_best_for.nd rfl (.inl rfl)), ?_⟩
      refine go_set (i := 7) (ev_call F_pb r1 (evs_cons (ev_v 0 rfl) (evs_cons (ev_v 6 rfl) (evs_cons (ev_v 2 rfl) evs_nil))) (rows, many, j, pl) rfl rfl ⟨ok.ro, hj, ok.lt, by show pl.length ≤ 8; omega⟩ rfl) ?_ sc_best_for.nd rfl (.inl rfl)
      have pln : (partsB (keyR rows) j pl).length ≤ pl.length := pgo_len (same_eqv _ _) _
      have PA := fun p h => parts_at (key := keyR rows) (a := j) (pl := pl) (p := p) h
      have PL := fun p h h2 => parts_len_lt (key := keyR rows) (a := j) (pl := pl) (p := p) h h2
      have PROP := fun bs h2 hl hp => Proper.ask (key := keyR rows) (many := many) (pl := pl) (a := j) (bs := bs) hj h2 hl hp
      have ONE : (partsB (keyR rows) j pl).length ≤ 1 → Bst rows many pl (j + 1) x5 := fun h => by
        rcases bst with ⟨e, all⟩ | q
        · refine .inl ⟨e, fun a ha => ?_⟩
          by_cases z : a = j
          · rw [z]; exact h
          · exact all a (by omega)
        · exact .inr q
      generalize partsB (keyR rows) j pl = parts at pln PA PL PROP ONE
      have jc : j * c + c ≤ 6 * c := by
        have : (j + 1) * c ≤ 6 * c := Nat.mul_le_mul_right c (by omega)
        rwa [Nat.succ_mul] at this
      refine go_if0 (et_cmp (ev_callB (c_lenL (l := parts.map grpD)) rfl T.b_len boot_len (evs_cons (ev_v 7 rfl) evs_nil)) ev_int (by walk_at "bd") (nomark _)) (fun h => ?_) (fun h => ?_)
      · have h2 : 1 < parts.length := by
          have h : (1 : Int) < ((parts.map grpD).length : Nat) := of_decide_eq_true h
          rw [List.length_map] at h
          omega
        obtain ⟨m, rfl⟩ : ∃ m, n = m + 1 := by
          cases n with
          | zero => omega
          | succ m => exact ⟨m, rfl⟩
        have cm := c2 m rfl
        have IH := ih m rfl
        have rm : Room (m + 2) _ := hr.mono (by omega)
        refine go_setLcO (n := 8) (i := 10) (xs := parts) (enc := grpD) (pit_list (ev_v 7 rfl)) (by show 10 < 12; decide)
          (fun i ds O => ∃ (bs : List Ent) (es'' : List Ent), ds = bs.map bestD ∧ bs.length = i ∧ (∀ (k : Nat) (e : Ent) (pk : List Nat), bs[k]? = some e → parts[k]? = some pk → e.1 = pk ∧ Proper (keyR rows) many e.2.2 pk) ∧ EsOk rows many es'' ∧ es''.length ≤ es'.length + i * cB m ∧ (∀ e' ∈ es'', e' ∈ es ∨ e'.1.length < pl.length) ∧ O = [(q, oKey pl), (p, obK es'')])
          ⟨[], es', rfl, rfl, fun k e pk h => (by cases h), eok', by omega, nw, rfl⟩ (fun i a ha ds O1 W => ?_) (fun i ds O1 ⟨bs, es'', e1, e2, _⟩ => by rw [e1, List.length_map, e2]; exact Nat.le_refl _) (sl_small (by omega)) (fun ds O' W => ?_) rfl sc_best_for.nd rfl rfl (sw_true rfl rfl rfl (by decide +kernel)) (blkOk_by rfl) (fun _ _ _ _ _ => pg_name (i := 10) sc_best_for.nd rfl (.inl rfl)) (by show 8 < 12; decide)
        · obtain ⟨bs, es'', rfl, bl, bp', eok'', le'', nw'', rfl⟩ := W
          have ham := List.mem_of_getElem? ha
          have hil := (List.getElem?_eq_some_iff.mp ha).1
          have al := PL a ham h2
          have asub : ∀ x ∈ a, x ∈ pl := fun x hx => by
            have := (PA a ham).2
            rw [this] at hx
            exact (List.mem_filter.mp hx).1
          have ic : i * cB m + cB m ≤ c := by
            have : (i + 1) * cB m ≤ 4 * cB m := Nat.mul_le_mul_right _ (by omega)
            rw [Nat.succ_mul] at this
            omega
          intro s H C cl fp
          refine EVO.mono (evo_best (j := 1) (es := es'') (pl := a) (rows := rows) (many := many) (n := m) IH hm hk hB rm rfl (evs_cons (ev_v 0 rfl) (evs_cons (ev_v 1 rfl) (evs_cons (ev_v 10 rfl) (evs_cons (ev_v 3 rfl) evs_nil)))) rfl ⟨ok.ro, m6, fun x hx => ok.lt x (asub x hx), by omega⟩ eok'' (by omega) (by omega)) ?_
          rintro d O' ⟨e, es3, rfl, h1, h3, h4, h5, h6, rfl⟩
          refine ⟨bs ++ [e], es3, by rw [List.map_append]; rfl, by rw [List.length_append, bl]; rfl, fun k e' pk hk1 hk2 => ?_, h4, by rw [Nat.succ_mul]; omega, fun e' he' => ?_, rfl⟩
          · by_cases z : k < bs.length
            · rw [List.getElem?_append_left z] at hk1
              exact bp' k e' pk hk1 hk2
            · have kl := (List.getElem?_eq_some_iff.mp hk1).1
              rw [List.length_append, List.length_singleton] at kl
              obtain rfl : k = i := by omega
              rw [← bl, List.getElem?_append_right (Nat.le_refl _), Nat.sub_self] at hk1
              cases hk1
              rw [ha] at hk2
              cases hk2
              exact ⟨h1, h3⟩
          · rcases h6 e' he' with z | z
            · exact nw'' e' z
            · exact .inr (by omega)
        · obtain ⟨bs, es'', rfl, bl, bp', eok'', le'', nw'', rfl⟩ := W
          have ne : bs.map (fun e : Ent => e.2.1) ≠ [] := fun z => by
            have := congrArg List.length z
            rw [List.length_map, bl, List.length_nil] at this
            omega
          obtain ⟨mx, hmx, hmx'⟩ := exists_max _ ne
          have e1 : Dt.lst (bs.map fun e : Ent => natD e.2.1) = .lst ((bs.map fun e : Ent => ((e.2.1 : Nat) : Int)).map Dt.int) := by rw [List.map_map]; rfl
          have lec : es''.length ≤ es.length + (j + 1) * c := by
            have : parts.length * cB m ≤ 4 * cB m := Nat.mul_le_mul_right _ (by omega)
            rw [Nat.succ_mul]
            omega
          refine go_set (i := 9) (d := natD (1 + mx)) (EV.to (ev_bin ev_int (ev_callB (c_maxL rfl (ns := bs.map fun e : Ent => ((e.2.1 : Nat) : Int)) (mx := (mx : Nat)) (by rw [List.length_map, bl]; omega) (by
              obtain ⟨e, he, z⟩ := List.mem_map.mp hmx
              exact List.mem_map.mpr ⟨e, he, by rw [z]⟩) (fun y hy => by
              obtain ⟨e, he, rfl⟩ := List.mem_map.mp hy
              have := hmx' _ (List.mem_map.mpr ⟨e, he, rfl⟩)
              show ((e.2.1 : Nat) : Int) ≤ (mx : Nat)
              omega)) rfl T.b_max boot_max (evs_cons (EV.to (ev_lcm (i := 11) (xs := bs) (enc := bestD) (g := fun e : Ent => natD e.2.1) rfl sc_best_for.nd (pit_list (ev_v 8 rfl)) (blkOk_by rfl) (fun _ _ _ _ _ => pg_name (i := 11) sc_best_for.nd rfl (.inl rfl)) (by show 11 < 12; decide) (fun a ha _ _ _ _ _ => (ev_ix (ev_v 11 rfl) ev_int (by walk_at "xd") (fun _ _ => rfl))) (sl_small (by omega))) e1) evs_nil)) (by walk_at "bd")) (by show Dt.int (1 + (mx : Int)) = .int ((1 + mx : Nat) : Int); rw [Int.natCast_add]; rfl)) ?_ sc_best_for.nd rfl (.inl rfl)
          have e2 : Dt.tup [natD (1 + mx), .tup [.str "ask", natD j, .lst (bs.map fun e : Ent => encTr e.2.2)]] = bestD (pl, 1 + mx, Tr.ask j (bs.map fun e : Ent => e.2.2)) := by
            show _ = Dt.tup [natD (1 + mx), encTr (Tr.ask j (bs.map fun e : Ent => e.2.2))]
            rw [encTr_ask, List.map_map]; rfl
          have proper : Proper (keyR rows) many (Tr.ask j (bs.map fun e : Ent => e.2.2)) pl := PROP _ h2 (by rw [List.length_map, bl]) fun i t p hi hp => by
            rw [List.getElem?_map] at hi
            obtain ⟨e, he, rfl⟩ := Option.map_eq_some_iff.mp hi
            exact (bp' i e p he hp).2
          rcases bst with ⟨rfl, all⟩ | ⟨e, rfl, ee, ep⟩
          · refine go_if0 (b := true || false) (EW.pt (ew_or (et_cmp (ev_v 5 rfl) ev_non (by walk_at "bd") (nomark _)) fun h => (by cases h))) (fun _ => ?_) (fun h => by cases h)
            refine go_set (i := 5) (EV.to (ev_tup (evs_cons (ev_v 9 rfl) (evs_cons (ev_tup (evs_cons ev_str (evs_cons (ev_v 6 rfl) (evs_cons (ev_lcm (i := 11) (xs := bs) (enc := bestD) (g := fun e : Ent => encTr e.2.2) rfl sc_best_for.nd (pit_list (ev_v 8 rfl)) (blkOk_by rfl) (fun _ _ _ _ _ => pg_name (i := 11) sc_best_for.nd rfl (.inl rfl)) (by show 11 < 12; decide) (fun a ha _ _ _ _ _ => (ev_ix (ev_v 11 rfl) ev_int (by walk_at "xd") (fun _ _ => rfl))) (sl_small (by omega))) evs_nil)))) evs_nil))) e2) ?_ sc_best_for.nd rfl (.inl rfl)
            refine go_done (go_done (go_nilW ⟨es'', _, _, _, _, _, lec, eok'', nw'', .inr ⟨_, rfl, rfl, proper⟩, rfl, rfl⟩ rfl) rfl) rfl
          · refine go_if0 (EW.pt (ew_or (et_cmp (ev_v 5 rfl) ev_non (by walk_at "bd") (nomark _)) fun h => (ew_or1 (et_cmp (ev_v 9 rfl) (ev_ix (ev_v 5 rfl) ev_int (by walk_at "xd") (fun _ _ => rfl)) (by walk_at "bd") (nomark _))))) (fun _ => ?_) (fun _ => ?_)
            · refine go_set (i := 5) (EV.to (ev_tup (evs_cons (ev_v 9 rfl) (evs_cons (ev_tup (evs_cons ev_str (evs_cons (ev_v 6 rfl) (evs_cons (ev_lcm (i := 11) (xs := bs) (enc := bestD) (g := fun e : Ent => encTr e.2.2) rfl sc_best_for.nd (pit_list (ev_v 8 rfl)) (blkOk_by rfl) (fun _ _ _ _ _ => pg_name (i := 11) sc_best_for.nd rfl (.inl rfl)) (by show 11 < 12; decide) (fun a ha _ _ _ _ _ => (ev_ix (ev_v 11 rfl) ev_int (by walk_at "xd") (fun _ _ => rfl))) (sl_small (by omega))) evs_nil)))) evs_nil))) e2) ?_ sc_best_for.nd rfl (.inl rfl)
              refine go_done (go_done (go_nilW ⟨es'', _, _, _, _, _, lec, eok'', nw'', .inr ⟨_, rfl, rfl, proper⟩, rfl, rfl⟩ rfl) rfl) rfl
            · exact go_done (go_nilW ⟨es'', _, _, _, _, _, lec, eok'', nw'', .inr ⟨e, rfl, ee, ep⟩, rfl, rfl⟩ rfl) rfl
      · have h2 : parts.length ≤ 1 := by
          have h : ¬ (1 : Int) < ((parts.map grpD).length : Nat) := of_decide_eq_false h
          rw [List.length_map] at h
          omega
        exact go_nilW ⟨es', x5, _, _, _, _, by rw [Nat.succ_mul]; omega, eok', nw, ONE h2, rfl, rfl⟩ rfl
    · obtain ⟨es', x5, x6, x7, x8, x9, le, eok', nw, bst, rfl, rfl⟩ := W
      have el : (rng many).length = many := by simp [rng]
      rw [el] at le bst
      have mc : many * c ≤ 6 * c := Nat.mul_le_mul_right c m6
      have fresh : ∀ e ∈ es', fkE e ≠ pl := fun e he z => by
        rcases nw e he with q | q
        · exact new e q z
        · rw [show e.1 = pl from z] at q; omega
      have allOk : ∀ {e : Ent}, Proper (keyR rows) many e.2.2 e.1 → EsOk rows many (es' ++ [e]) := fun {e} h e' he' => by
        rcases List.mem_append.mp he' with z | z
        · exact eok' e' z
        · rw [List.mem_singleton] at z; subst z; exact h
      rcases bst with ⟨rfl, all⟩ | ⟨e, rfl, ee, ep⟩
      · have leafOk : Proper (keyR rows) many ((pl, 0, Tr.leaf pl) : Ent).2.2 ((pl, 0, Tr.leaf pl) : Ent).1 := Proper.leaf all
        have e2 : Dt.tup [.int 0, .tup [.str "leaf", .lst (pl.map natD)]] = bestD (pl, 0, Tr.leaf pl) := by
          show _ = Dt.tup [natD 0, encTr (Tr.leaf pl)]
          rw [encTr_leaf]; rfl
        refine go_ifT (et_cmp (ev_v 5 rfl) ev_non (by walk_at "bd") (nomark _)) rfl ?_
        refine go_set (i := 5) (EV.to (ev_tup (evs_cons ev_int (evs_cons (ev_tup (evs_cons ev_str (evs_cons (ev_callTy c_listL rfl T.b_list boot_list (evs_cons (ev_v 2 rfl) evs_nil)) evs_nil))) evs_nil))) e2) ?_ sc_best_for.nd rfl (.inl rfl)
        refine go_done ?_ rfl
        refine go_putKey (ns := pl) (fk := fkE) (fd := bestD) (es := es') (e1 := ((pl, 0, Tr.leaf pl) : Ent)) (j := 1) (p := p) (q := q) hu (ev_v 5 rfl) rfl (ev_v 4 rfl) (ev_v 3 rfl) List.mem_cons_self rfl (by omega) fresh ?_
        refine go_done ?_ rfl
        refine go_retKey (ns := pl) (fk := fkE) (fd := bestD) (es := es' ++ [((pl, 0, Tr.leaf pl) : Ent)]) (p := p) (q := q) hu (ev_v 4 rfl) (ev_v 3 rfl) List.mem_cons_self (List.mem_cons_of_mem _ List.mem_cons_self) ⟨_, List.mem_append_right _ (List.mem_singleton.mpr rfl), rfl⟩ (fun _ _ => rfl) (fun e' he' hk' s B' H' v a r => ?_)
        have hk' : e'.1 = pl := hk'
        refine hQ e' (es' ++ [((pl, 0, Tr.leaf pl) : Ent)]) v B' H' hk' (hk' ▸ allOk leafOk e' he') (allOk leafOk) (by rw [List.length_append, List.length_singleton]; omega) (fun e' h => ?_) (At.wr a bp (List.mem_cons_of_mem _ List.mem_cons_self)) r
        rcases List.mem_append.mp h with z | z
        · exact (nw e' z).imp id (Nat.le_of_lt)
        · rw [List.mem_singleton] at z; subst z; exact .inr (by exact Nat.le_refl _)
      · refine go_ifN (et_cmp (ev_v 5 rfl) ev_non (by walk_at "bd") (nomark _)) rfl ?_
        have ep' : Proper (keyR rows) many e.2.2 e.1 := ee ▸ ep
        refine go_putKey (ns := pl) (fk := fkE) (fd := bestD) (es := es') (e1 := e) (j := 1) (p := p) (q := q) hu (ev_v 5 rfl) ee (ev_v 4 rfl) (ev_v 3 rfl) List.mem_cons_self rfl (by omega) fresh ?_
        refine go_done ?_ rfl
        refine go_retKey (ns := pl) (fk := fkE) (fd := bestD) (es := es' ++ [e]) (p := p) (q := q) hu (ev_v 4 rfl) (ev_v 3 rfl) List.mem_cons_self (List.mem_cons_of_mem _ List.mem_cons_self) ⟨_, List.mem_append_right _ (List.mem_singleton.mpr rfl), ee⟩ (fun _ _ => rfl) (fun e' he' hk' s B' H' v a r => ?_)
        have hk' : e'.1 = pl := hk'
        refine hQ e' (es' ++ [e]) v B' H' hk' (hk' ▸ allOk ep' e' he') (allOk ep') (by rw [List.length_append, List.length_singleton]; omega) (fun e' h => ?_) (At.wr a bp (List.mem_cons_of_mem _ List.mem_cons_self)) r
        rcases List.mem_append.mp h with z | z
        · exact (nw e' z).imp id (Nat.le_of_lt)
        · rw [List.mem_singleton] at z; subst z; exact .inr (by rw [ee]; exact Nat.le_refl _)
  · refine go_retKey (ns := pl) (fk := fkE) (fd := bestD) (es := es) (p := p) (q := q) hu (ev_v 4 rfl) (ev_v 3 rfl) List.mem_cons_self (List.mem_cons_of_mem _ List.mem_cons_self) ⟨e, he, hek⟩ (fun _ _ => rfl) (fun e' he' hk' s B' H' v a r => ?_)
    have hk' : e'.1 = pl := hk'
    exact hQ e' es v B' H' hk' (hk' ▸ eok e' he') eok (by omega) (fun e' h => .inl h) (At.wr a bp (List.mem_cons_of_mem _ List.mem_cons_self)) r
theorem ok_best_for (F : FnP K "best_for" "best_for" s_best_for f fd) (T : Tx K mg A) (F_pb : Cal P w K mg base 1 "parts_by" ["answers", "at", "places"] (spPartsBy K)) (hm : mg "best_for" = some (.ref f)) (hk : PySem.W.keepIn K (.ref f) = true) (hB : Binds K fd ["answers", "many", "places", "kept"] []) :
    ∀ n, FnOk P w K mg base CX0 (n + 2) f fd ["answers", "many", "places", "kept"] (spBest K n)
  | 0 => best_step F T F_pb hm hk hB 0 fun m e => by omega
  | n + 1 => best_step F T F_pb hm hk hB (n + 1) fun m e => by
    obtain rfl : n = m := by omega
    exact ok_best_for F T F_pb hm hk hB n
end
end Dh
end SDhBest

section SDhTree2
set_option Elab.async false
set_option linter.all false
set_option maxRecDepth 100000
set_option maxHeartbeats 4000000
local macro_rules | `(tactic| walk_at "bd") => `(tactic| first
  | exact Dh.b_in | exact Dh.b_notin | exact Dh.b_eqS | exact Dh.b_neS | exact Dh.b_isN | exact Dh.b_notN | exact Dh.b_add | exact Dh.b_sub | exact Dh.b_lt | exact Dh.b_le | exact Dh.b_gt | exact Dh.b_ge | exact Dh.b_eqI | exact Dh.b_neI | exact Dh.b_eqB | exact Dh.b_neB)
local macro_rules | `(tactic| walk_at "xd") => `(tactic| first | exact Dh.ix_t rfl | exact Dh.ix_l rfl)
namespace Dh
open PySem PySem.Spec PyProof.Rows L2
section
variable {X : Cx} {G : List (Option Dt)} {a b e : Expr} {d d2 : Dt} {pos p ap : Pos}
theorem nat_rng (n : Nat) : (List.range n).map natD = rng n := rfl
theorem ev_listRange {n : Nat} {lp rp rpos : Pos} (hc : X.calm = true) (h : EV X G e (.int (n : Nat))) (hn : n ≤ 1000) (hg : Gl X "list") (hm : X.mg "list" = none) (hg2 : Gl X "range") (hm2 : X.mg "range" = none)
    (na : starEach [e] X.env = (false, eval e X.env) :: starEach [] X.env := by rfl) (nb : starEach [.Call (.Name "range" rp) [e] [] rpos] X.env = (false, eval (.Call (.Name "range" rp) [e] [] rpos) X.env) :: starEach [] X.env := by rfl) :
    EV X G (.Call (.Name "list" lp) [.Call (.Name "range" rp) [e] [] rpos] [] pos) (.lst ((List.range n).map natD)) := fun s B H hs hb Q q =>
  run_e (pe_listRg hc hg hm (prg_1 hg2 hm2 pe_wk na) nb) (h s B H hs hb _ fun v B1 H1 g1 r1 => by
    obtain rfl : v = .int (n : Nat) := r1
    refine ⟨_, rfl, .of_le (by omega) (by omega) (by omega) (by omega), fun l hl => ?_⟩
    have e : rgV 0 (n : Nat) = ((List.range n).map fun i : Nat => ((i : Nat) : Int)).map V.int := by
      unfold rgV
      rw [List.map_map, show (((n : Nat) : Int) - 0).toNat = n by omega]
      exact List.map_congr_left fun i _ => by show V.int (0 + (i : Int)) = V.int (i : Int); rw [Int.zero_add]
    have e2 : (List.range n).map natD = ((List.range n).map fun i : Nat => ((i : Nat) : Int)).map Dt.int := by rw [List.map_map]; rfl
    refine q _ _ _ (g1.trans (.new g1.s hl)) ⟨l, _, rfl, .of upd_same, ?_⟩
    rw [e, e2]
    exact RepAll.of_ints _)
theorem ev_ixR {R R' : Dt → Prop} (ha : EVR X G a R) (hb : EV X G b d2) (hf : ∀ d, R d → ∃ d', IxD X d d2 d' ∧ R' d') (hs : PlainIx b) : EVR X G (.Subscript a b pos) R' :=
  fun s B H hsl e Q q => run_e (pe_ix ix_seq pe_wk pe_wk hs) (ha s B H hsl e _ fun d x B1 H1 hd g1 r1 => hb s B1 H1 (hsl.mono g1.b) g1.s _ fun y B2 H2 g2 r2 => by
    obtain ⟨d', hx, hr⟩ := hf d hd
    obtain ⟨v, rv, k⟩ := hx B2 H2 x y g2.s (r1.mono g2.b) r2
    exact k _ (q d' v B2 H2 hr (g1.trans g2) rv))
theorem evr_best0 {k n : Nat} {f : Addr} {fd : FuncData} {e1 e2 e3 : Expr} {dpos : Pos} {rows : List RowA} {many : Nat} {pl : List Nat} (F : FnOk X.prog X.w X.K X.mg X.base CX0 k f fd ["answers", "many", "places", "kept"] (spBest X.K n)) (hm : X.mg "best_for" = some (.ref f)) (hk : PySem.W.keepIn X.K (.ref f) = true) (hB : Binds X.K fd ["answers", "many", "places", "kept"] [])
    (hr : Room k X.A) (hg : Gl X "best_for") (h1 : EV X G e1 (.lst (rows.map encRA))) (h2 : EV X G e2 (natD many)) (h3 : EV X G e3 (.lst (pl.map natD))) (ok : BOk rows many pl) (hn : pl.length ≤ n + 1) (hz : cB n ≤ 100000)
    (q1 : starEach [e1, e2, e3, .Dict [] [] dpos] X.env = (false, eval e1 X.env) :: starEach [e2, e3, .Dict [] [] dpos] X.env := by rfl) (q2 : starEach [e2, e3, .Dict [] [] dpos] X.env = (false, eval e2 X.env) :: starEach [e3, .Dict [] [] dpos] X.env := by rfl)
    (q3 : starEach [e3, .Dict [] [] dpos] X.env = (false, eval e3 X.env) :: starEach [.Dict [] [] dpos] X.env := by rfl) (q4 : starEach [.Dict [] [] dpos] X.env = (false, eval (.Dict [] [] dpos) X.env) :: starEach [] X.env := by rfl)
    (hpl : (backTo pos (starEach [e2, e3, .Dict [] [] dpos] X.env)).any (·.1) = false := by rfl) :
    EVR X G (.Call (.Name "best_for" ap) [e1, e2, e3, .Dict [] [] dpos] [] pos) (fun d => ∃ e : Ent, d = bestD e ∧ Proper (keyR rows) many e.2.2 pl) := fun s B H hs hb Q q =>
  run_e (pe_call F hr hg hm hk hB .nil pass0 (pa_cons pe_wk (pa_cons pe_wk (pa_cons pe_wk (pa_cons pe_dnewT pa_nil q4) q3) q2) q1) (by decide) q1 hpl)
    (h1 s B H hs hb _ fun v1 B1 H1 g1 r1 => h2 s B1 H1 (hs.mono g1.b) g1.s _ fun v2 B2 H2 g2 r2 => h3 s B2 H2 (hs.mono (g1.trans g2).b) g2.s _ fun v3 B3 H3 g3 r3 => fun p hp => by
      have bp : B3 p = none := g3.s.free hp
      show spBest X.K n ([v1, v2, v3, .ref p] ++ []) (upd H3 p (.dT [])) Q E0
      rw [List.append_nil]
      refine ⟨rows, many, pl, [], B3, p, ⟨v1, _, rfl, r1.mono (g2.trans g3).b, v2, _, rfl, r2.mono g3.b, v3, _, rfl, r3, .ref p, [], rfl, rfl, rfl⟩, same_free g3.s hp, bp, ⟨rfl, [], upd_same, rfl⟩, ok, fun e he => (by cases he), hn, by show 0 + _ ≤ _; omega, fun e es' v B' H' z1 z2 z3 z4 z5 w z6 => ?_⟩
      refine q _ v B' H' ⟨e, rfl, z2⟩ (((g1.trans g2).trans g3).trans ⟨w.b, fun a o ea => ?_, w.s, fun a ha => ?_⟩) z6
      · have ne : a ≠ p := ne_of_none ea hp
        exact w.h a o ne (by rw [upd_ne ne]; exact ea)
      · have ne : a ≠ p := fun z => ha (z ▸ hp)
        exact w.k a (by rw [upd_ne ne]; exact ha))
end
/-! ### depth -/
mutual
def dep : Tr → Nat
  | .leaf _ => 0
  | .ask _ bs => 1 + deps bs
def deps : List Tr → Nat
  | [] => 0
  | t :: ts => max (dep t) (deps ts)
end
theorem dep_leaf (l : List Nat) : dep (.leaf l) = 0 := by rw [dep]
theorem dep_ask (a : Nat) (bs : List Tr) : dep (.ask a bs) = 1 + deps bs := by rw [dep]
theorem deps_le : ∀ {bs : List Tr} {t : Tr}, t ∈ bs → dep t ≤ deps bs
  | [], t, h => by cases h
  | b :: bs, t, h => by
    rw [deps]
    rcases List.mem_cons.mp h with rfl | h
    · exact Nat.le_max_left _ _
    · exact Nat.le_trans (deps_le h) (Nat.le_max_right _ _)
theorem deps_mem : ∀ {bs : List Tr}, bs ≠ [] → deps bs ∈ bs.map dep
  | [], h => absurd rfl h
  | [b], _ => by
    rw [deps, deps, Nat.max_zero]
    exact List.mem_singleton.mpr rfl
  | b :: c :: bs, _ => by
    have := deps_mem (bs := c :: bs) (by simp)
    rw [deps, List.map_cons]
    rcases Nat.le_total (dep b) (deps (c :: bs)) with h | h
    · rw [Nat.max_eq_right h]
      exact List.mem_cons_of_mem _ this
    · rw [Nat.max_eq_left h]
      exact List.mem_cons_self
theorem Proper.dep_le {β : Type} [DecidableEq β] {key : Nat → Nat → β} {many : Nat} {t : Tr} {pl : List Nat} (h : Proper key many t pl) : dep t ≤ splits key many pl := by
  induction h with
  | leaf _ => rw [dep_leaf]; exact Nat.zero_le _
  | @ask pl a bs ha h2 hl hp ih =>
    rw [dep_ask]
    have ne : bs ≠ [] := fun z => by rw [z] at hl; simp at hl; omega
    obtain ⟨t, ht, e⟩ := List.mem_map.mp (deps_mem ne)
    obtain ⟨i, hi⟩ := List.mem_iff_getElem?.mp ht
    have il := (List.getElem?_eq_some_iff.mp hi).1
    have hpi : (partsB key a pl)[i]? = some (partsB key a pl)[i] := List.getElem?_eq_getElem (by omega)
    have q1 := ih i t _ hi hpi
    have q2 := splits_lt (many := many) ha (List.mem_of_getElem? hpi) h2
    omega
section
variable {P : Program} {w : World} {K : PySem.W.Frag} {mg : Str → Option Value} {base : Heap} {f : Addr} {fd : FuncData} {A : Ad}
abbrev rowsOf (Ds : List Dia) (ts : List (List Nat)) : List RowA := Ds.map (rowOf ts)
theorem rows_ok {Ds : List Dia} {ts : List (List Nat)} (h : AOk Ds ts) : RowsOk (rowsOf Ds ts) ts.length := ⟨by rw [List.length_map]; exact h.1.1, fun r hr => by
  obtain ⟨D, _, rfl⟩ := List.mem_map.mp hr
  exact ⟨row_ok h.2.2 D, by show (List.map _ ts).length = _; rw [List.length_map]⟩⟩
abbrev spTree (K : PySem.W.Frag) (A : Ad) : Sp := spT K (T := List Dia × List (List Nat)) (fun i => [.lst (i.1.map (encD A)), .lst (i.2.map encTx)]) (fun i => AOk i.1 i.2 ∧ i.1.length ≤ 4 ∧ i.2.length ≤ 6) (fun i d => ∃ t, d = encTr t ∧ Proper (keyR (rowsOf i.1 i.2)) i.2.length t (List.range i.1.length))
theorem ok_tree_of (F : FnP K "tree_of" "tree_of" s_tree_of f fd) (T : Tx K mg A) (F_few : Cal P w K mg base 1 "need_few" ["dialects", "most"] (spFew K)) (F_text : Cal P w K mg base 2 "is_text" ["thing"] (spText K)) (F_ans : Cal P w K mg base 9 "answers_of" ["dialects", "texts"] (spAnswers K A)) (F_best : Cal P w K mg base 5 "best_for" ["answers", "many", "places", "kept"] (spBest K 3)) :
    FnOk P w K mg base CX0 10 f fd ["dialects", "texts"] (spTree K A) := by
  refine fn_ok F sc_tree_of (fun _ => rfl) fun ⟨Ds, ts⟩ cdv A' outer sh H0 E B0 D' hr hp hn hQ => ?_
  obtain ⟨aok, l4, l6⟩ := hp
  have aok : AOk Ds ts := aok
  have l4 : Ds.length ≤ 4 := l4
  have l6 : ts.length ≤ 6 := l6
  have r1 : Room 1 _ := hr.mono (by decide)
  have r2 : Room 2 _ := hr.mono (by decide)
  have r9 : Room 9 _ := hr.mono (by decide)
  have r5 : Room 5 _ := hr.mono (by decide)
  obtain ⟨bf, bfd, Fb, hmb, hkb, hBb⟩ := F_best
  have lenD : Dt.int (((Ds.map (encD A)).length : Nat) : Int) = .int ((Ds.length : Nat) : Int) := by rw [List.length_map]
  have lenT : Dt.int (((ts.map encTx).length : Nat) : Int) = .int ((ts.length : Nat) : Int) := by rw [List.length_map]
  refine go_exprR (EV.r (ev_call F_few r1 (evs_cons (ev_v 0 rfl) (evs_cons (EV.to (ev_gl T.cREADERS rfl) (show Dt.int 8 = .int ((8 : Nat) : Int) from rfl)) evs_nil)) (Ds.map (encD A), 8) rfl rfl (by show (Ds.map (encD A)).length ≤ 8; rw [List.length_map]; omega) rfl)) ?_
  refine go_ifN (et_cmp (ev_callB (c_lenL (l := ts.map encTx)) rfl T.b_len boot_len (evs_cons (ev_v 1 rfl) evs_nil)) (ev_gl T.cTEXTS rfl) (by walk_at "bd") (nomark _)) (decide_eq_false (by rw [List.length_map]; omega)) ?_
  refine go_for PassesOwn.never rfl (pit_list (ds := ts.map encTx) (ev_v 1 rfl)) (fun j G O => ∃ x2, G = [some (.lst (Ds.map (encD A))), some (.lst (ts.map encTx)), x2, none] ∧ O = []) ⟨none, rfl, rfl⟩ (fun B1 u j d G1 O1 hd W => ?_) (fun G1 O1 W => ?_)
  · obtain ⟨x2, rfl, rfl⟩ := W
    obtain ⟨t, ht, rfl⟩ := map_get hd
    refine ⟨_, (tgt_name (i := 2) sc_tree_of.nd rfl (.inl rfl)), ?_⟩
    refine go_ifN (et_not (et_val (ev_call F_text r2 (evs_cons (ev_v 2 rfl) evs_nil) t rfl rfl (aok.2.2 t (List.mem_of_getElem? ht)) rfl))) rfl ?_
    exact go_nilW ⟨_, rfl, rfl⟩ rfl
  · obtain ⟨x2, rfl, rfl⟩ := W
    have em : Dt.lst (Ds.map fun D => encRA (rowOf ts D)) = .lst ((rowsOf Ds ts).map encRA) := by rw [List.map_map]; rfl
    refine go_set (i := 3) (EV.to (ev_call F_ans r9 (evs_cons (ev_v 0 rfl) (evs_cons (ev_v 1 rfl) evs_nil)) (Ds, ts) rfl rfl aok rfl) em) ?_ sc_tree_of.nd rfl (.inl rfl)
    have bok : BOk (rowsOf Ds ts) ts.length (List.range Ds.length) := ⟨rows_ok aok, l6, fun p hp => by rw [List.length_map]; exact List.mem_range.mp hp, by rw [List.length_range]; exact l4⟩
    refine go_retR (ev_ixR (evr_best0 (n := 3) (rows := rowsOf Ds ts) (many := ts.length) (pl := List.range Ds.length) Fb hmb hkb hBb r5 rfl (ev_v 3 rfl) (EV.to (ev_callB (c_lenL (l := ts.map encTx)) rfl T.b_len boot_len (evs_cons (ev_v 1 rfl) evs_nil)) lenT) (ev_listRange rfl (EV.to (ev_callB (c_lenL (l := Ds.map (encD A))) rfl T.b_len boot_len (evs_cons (ev_v 0 rfl) evs_nil)) lenD) (by omega) rfl T.b_list rfl T.b_range) bok (by rw [List.length_range]; omega) (by decide)) ev_int (fun d hd => ?_) (fun _ _ => rfl)) hQ
    obtain ⟨e, rfl, hp⟩ := hd
    exact ⟨_, (by walk_at "xd"), e.2.2, rfl, hp⟩
abbrev spDepth (K : PySem.W.Frag) (n : Nat) : Sp := spT K (T := Tr) (fun t => [encTr t]) (fun t => dep t ≤ n ∧ ∃ (rows : List RowA) (many : Nat) (pl : List Nat), Proper (keyR rows) many t pl ∧ pl.length ≤ 8) (fun t d => d = natD (dep t))
theorem ok_depth_of (F : FnP K "depth_of" "depth_of" s_depth_of f fd) (T : Tx K mg A) (hm : mg "depth_of" = some (.ref f)) (hk : PySem.W.keepIn K (.ref f) = true) (hB : Binds K fd ["tree"] []) : ∀ n, FnOk P w K mg base CX0 (n + 1) f fd ["tree"] (spDepth K n) := by
  intro n
  induction n with
  | zero =>
    refine fn_ok F sc_depth_of (fun _ => rfl) fun t cdv A' outer sh H0 E B0 D' hr hp hn hQ => ?_
    obtain ⟨hd, rows, many, pl, hp, l8⟩ := hp
    cases t with
    | leaf l =>
      have et : Dt.tup [.str "leaf", .lst (l.map natD)] = encTr (.leaf l) := (encTr_leaf l).symm
      refine go_weak (G' := [some (.tup [.str "leaf", .lst (l.map natD)]), none]) ?_ rfl (fun i d h => by rw [et] at h; exact h)
      refine go_ifT (ET.to (et_cmp (ev_ix (ev_v 0 rfl) ev_int (by walk_at "xd") (fun _ _ => rfl)) ev_str (by walk_at "bd") (nomark _)) (by decide +kernel)) rfl ?_
      refine go_ret ev_int hQ ?_
      show Dt.int 0 = natD (dep (.leaf l))
      rw [dep_leaf]; rfl
    | ask a bs => rw [dep_ask] at hd; omega
  | succ n ih =>
    refine fn_ok F sc_depth_of (fun _ => rfl) fun t cdv A' outer sh H0 E B0 D' hr hp hn hQ => ?_
    obtain ⟨hd, rows, many, pl, hp, l8⟩ := hp
    cases t with
    | leaf l =>
      have et : Dt.tup [.str "leaf", .lst (l.map natD)] = encTr (.leaf l) := (encTr_leaf l).symm
      refine go_weak (G' := [some (.tup [.str "leaf", .lst (l.map natD)]), none]) ?_ rfl (fun i d h => by rw [et] at h; exact h)
      refine go_ifT (ET.to (et_cmp (ev_ix (ev_v 0 rfl) ev_int (by walk_at "xd") (fun _ _ => rfl)) ev_str (by walk_at "bd") (nomark _)) (by decide +kernel)) rfl ?_
      refine go_ret ev_int hQ ?_
      show Dt.int 0 = natD (dep (.leaf l))
      rw [dep_leaf]; rfl
    | ask a bs =>
      rw [dep_ask] at hd
      have et : Dt.tup [.str "ask", natD a, .lst (bs.map encTr)] = encTr (.ask a bs) := (encTr_ask a bs).symm
      refine go_weak (G' := [some (.tup [.str "ask", natD a, .lst (bs.map encTr)]), none]) ?_ rfl (fun i d h => by rw [et] at h; exact h)
      refine go_ifN (ET.to (et_cmp (ev_ix (ev_v 0 rfl) ev_int (by walk_at "xd") (fun _ _ => rfl)) ev_str (by walk_at "bd") (nomark _)) (by decide +kernel)) rfl ?_
      cases hp with
      | ask ha h2 hl hps =>
        have pln : (partsB (keyR rows) a pl).length ≤ pl.length := pgo_len (same_eqv _ _) _
        have ne : bs ≠ [] := fun z => by rw [z] at hl; simp at hl; omega
        have hmx := deps_mem ne
        have e1 : Dt.lst (bs.map fun t => natD (dep t)) = .lst ((bs.map fun t => ((dep t : Nat) : Int)).map Dt.int) := by rw [List.map_map]; rfl
        have C : Cal P w K mg base (n + 1) "depth_of" ["tree"] (spDepth K n) := ⟨f, fd, ih, hm, hk, hB⟩
        have rn : Room (n + 1) _ := hr
        refine go_ret (EV.to (ev_bin ev_int (ev_callB (c_maxL rfl (ns := bs.map fun t => ((dep t : Nat) : Int)) (mx := (deps bs : Nat)) (by rw [List.length_map]; omega) (by
            obtain ⟨t, ht, z⟩ := List.mem_map.mp hmx
            exact List.mem_map.mpr ⟨t, ht, by rw [z]⟩) (fun y hy => by
            obtain ⟨t, ht, rfl⟩ := List.mem_map.mp hy
            have := deps_le ht
            omega)) rfl T.b_max boot_max (evs_cons (EV.to (ev_lcm (i := 1) (xs := bs) (enc := encTr) (g := fun t => natD (dep t)) rfl sc_depth_of.nd (pit_list (ev_ix (ev_v 0 rfl) ev_int (by walk_at "xd") (fun _ _ => rfl))) (blkOk_by rfl) (fun _ _ _ _ _ => pg_name (i := 1) sc_depth_of.nd rfl (.inl rfl)) (by show 1 < 2; decide)
              (fun t ht _ _ _ _ _ => (ev_call C rn (evs_cons (ev_v 1 rfl) evs_nil) t rfl rfl ⟨by have := deps_le ht; omega, ?_⟩ rfl)) (sl_small (by omega))) e1) evs_nil)) (by walk_at "bd")) (by show Dt.int (1 + ((deps bs : Nat) : Int)) = natD (1 + deps bs); show _ = Dt.int ((1 + deps bs : Nat) : Int); rw [Int.natCast_add]; rfl)) hQ ?_
        · obtain ⟨i, hi⟩ := List.mem_iff_getElem?.mp ht
          have il := (List.getElem?_eq_some_iff.mp hi).1
          have hpi : (partsB (keyR rows) a pl)[i]? = some (partsB (keyR rows) a pl)[i] := List.getElem?_eq_getElem (by omega)
          have := parts_len_lt (List.mem_of_getElem? hpi) h2
          exact ⟨rows, many, _, hps i t _ hi hpi, by omega⟩
        · show natD (1 + deps bs) = natD (dep (.ask a bs))
          rw [dep_ask]
end
end Dh
end SDhTree2

section SDhTree3
set_option Elab.async false
set_option linter.all false
set_option maxRecDepth 100000
set_option maxHeartbeats 4000000
local macro_rules | `(tactic| walk_at "bd") => `(tactic| first
  | exact Dh.b_in | exact Dh.b_notin | exact Dh.b_eqS | exact Dh.b_neS | exact Dh.b_isN | exact Dh.b_notN | exact Dh.b_add | exact Dh.b_sub | exact Dh.b_lt | exact Dh.b_le | exact Dh.b_gt | exact Dh.b_ge | exact Dh.b_eqI | exact Dh.b_neI | exact Dh.b_eqB | exact Dh.b_neB)
local macro_rules | `(tactic| walk_at "xd") => `(tactic| first | exact Dh.ix_t rfl | exact Dh.ix_l rfl)
namespace Dh
open PySem PySem.Spec PyProof.Rows L2
/-- rows with the same answers are the same -/
theorem rows_eq {rows : List RowA} {many i j : Nat} {r q : RowA} (ro : RowsOk rows many) (hi : rows[i]? = some r) (hj : rows[j]? = some q) (h : ∀ a, a < many → keyR rows a i = keyR rows a j) : r = q := by
  have l1 := (ro.ok r (List.mem_of_getElem? hi)).2
  have l2 := (ro.ok q (List.mem_of_getElem? hj)).2
  apply List.ext_getElem?
  intro a
  by_cases ha : a < many
  · have := h a ha
    unfold keyR at this
    rw [hi, hj] at this
    exact this
  · rw [List.getElem?_eq_none (by omega), List.getElem?_eq_none (by omega)]
section
variable {P : Program} {w : World} {K : PySem.W.Frag} {mg : Str → Option Value} {base : Heap} {f : Addr} {fd : FuncData} {A : Ad}
abbrev spPlace (K : PySem.W.Frag) : Sp := spT K (T := Nat × Nat) (fun i => [natD i.1, natD i.2]) (fun _ => True) (fun i d => d = .bl (decide (i.1 < i.2)))
theorem ok_is_place (F : FnP K "is_place" "is_place" s_is_place f fd) (T : Tx K mg A) : FnOk P w K mg base CX0 1 f fd ["thing", "many"] (spPlace K) := by
  refine fn_ok F sc_is_place (fun _ => rfl) fun ⟨a, m⟩ cdv A' outer sh H0 E B0 D' hr hp hn hQ => ?_
  refine go_ret (EV.to (ev_and (t := true) (ev_isi (T := "int") (t := true) (ev_v 0 rfl) rfl (by decide +kernel) rfl T.b_isinstance rfl T.b_int boot_int) fun h => (ev_and (t := true) (ev_not (t := false) (ev_isi (T := "int") (t := false) (ev_v 0 rfl) rfl (by decide +kernel) rfl T.b_isinstance rfl T.b_bool boot_bool)) fun h => (ev_one (ev_chain ev_int (ev_v 0 rfl) (ev_v 1 rfl) b_le b_lt)))) ?_) hQ rfl
  show Dt.bl (true && (true && (decide ((0 : Int) ≤ (a : Nat)) && decide (((a : Nat) : Int) < (m : Nat))))) = .bl (decide (a < m))
  rw [decide_eq_true (show (0 : Int) ≤ (a : Nat) by omega), Bool.true_and, Bool.true_and, Bool.true_and]
  exact congrArg Dt.bl (decide_eq_decide.mpr ⟨fun h => by omega, fun h => by omega⟩)
structure SOk (rows : List RowA) (many : Nat) (t : Tr) (pl : List Nat) : Prop where
  ro : RowsOk rows many
  lt : ∀ p ∈ pl, p < rows.length
  len : pl.length ≤ 8
  ne : pl ≠ []
  pr : Proper (keyR rows) many t pl
def isLf : Tr → Bool
  | .leaf _ => true
  | .ask _ _ => false
abbrev spLeaf (K : PySem.W.Frag) : Sp := spT K (T := List RowA × Nat × Tr × List Nat) (fun i => [.lst (i.1.map encRA), encTr i.2.2.1, .lst (i.2.2.2.map natD)]) (fun i => SOk i.1 i.2.1 i.2.2.1 i.2.2.2) (fun i d => d = .bl (isLf i.2.2.1))
theorem ok_is_leaf (F : FnP K "is_leaf" "is_leaf" s_is_leaf f fd) (T : Tx K mg A) (F_place : Cal P w K mg base 1 "is_place" ["thing", "many"] (spPlace K)) : FnOk P w K mg base CX0 2 f fd ["answers", "tree", "places"] (spLeaf K) := by
  refine fn_ok F sc_is_leaf (fun _ => rfl) fun ⟨rows, many, t, pl⟩ cdv A' outer sh H0 E B0 D' hr hp hn hQ => ?_
  obtain ⟨ro, plt, pll, ne, pr⟩ := hp
  have ro : RowsOk rows many := ro
  have plt : ∀ p ∈ pl, p < rows.length := plt
  have pll : pl.length ≤ 8 := pll
  have ne : pl ≠ [] := ne
  have pr : Proper (keyR rows) many t pl := pr
  have r1 : Room 1 _ := hr
  have hu := hr.units
  cases t with
  | ask a bs =>
    have et : Dt.tup [.str "ask", natD a, .lst (bs.map encTr)] = encTr (.ask a bs) := (encTr_ask a bs).symm
    refine go_weak (G' := [some (.lst (rows.map encRA)), some (.tup [.str "ask", natD a, .lst (bs.map encTr)]), some (.lst (pl.map natD)), none, none]) ?_ rfl (fun i d h => by rw [et] at h; exact h)
    refine go_ifT (b := (!true) || true) (EW.pt (ew_or (et_not (t := true) (et_val (ev_isi (T := "tuple") (t := true) (ev_v 1 rfl) rfl (by decide +kernel) rfl T.b_isinstance rfl T.b_tuple boot_tuple))) fun h => (ew_or (t := true) (u := true) (ET.to (et_cmp (ev_callB (c_lenT (l := [.str "ask", natD a, .lst (bs.map encTr)])) rfl T.b_len boot_len (evs_cons (ev_v 1 rfl) evs_nil)) ev_int (by walk_at "bd") (nomark _)) (by rfl)) fun h => (by cases h)))) rfl ?_
    exact go_ret ev_bl hQ rfl
  | leaf l =>
    cases pr with
    | leaf all =>
      have et : Dt.tup [.str "leaf", .lst (pl.map natD)] = encTr (.leaf pl) := (encTr_leaf pl).symm
      refine go_weak (G' := [some (.lst (rows.map encRA)), some (.tup [.str "leaf", .lst (pl.map natD)]), some (.lst (pl.map natD)), none, none]) ?_ rfl (fun i d h => by rw [et] at h; exact h)
      refine go_ifN (b := (!true) || (false || ((!true) || false))) (EW.pt (ew_or (et_not (t := true) (et_val (ev_isi (T := "tuple") (t := true) (ev_v 1 rfl) rfl (by decide +kernel) rfl T.b_isinstance rfl T.b_tuple boot_tuple))) fun h => (ew_or (t := false) (ET.to (et_cmp (ev_callB (c_lenT (l := [.str "leaf", .lst (pl.map natD)])) rfl T.b_len boot_len (evs_cons (ev_v 1 rfl) evs_nil)) ev_int (by walk_at "bd") (nomark _)) (by rfl)) fun h => (ew_or (et_not (t := true) (et_val (ev_isi (T := "str") (t := true) (ev_ix (ev_v 1 rfl) ev_int (by walk_at "xd") (fun _ _ => rfl)) rfl (by decide +kernel) rfl T.b_isinstance rfl T.b_str boot_str))) fun h => (ew_or1 (ET.to (et_cmp (ev_ix (ev_v 1 rfl) ev_int (by walk_at "xd") (fun _ _ => rfl)) ev_str (by walk_at "bd") (nomark _)) (by decide +kernel))))))) rfl ?_
      refine go_ifN (b := (!true) || false) (EW.pt (ew_or (et_not (t := true) (et_val (ev_isi (T := "list") (t := true) (ev_ix (ev_v 1 rfl) ev_int (by walk_at "xd") (fun _ _ => rfl)) rfl (by decide +kernel) rfl T.b_isinstance rfl T.b_list boot_list))) fun h => (ew_or1 (ET.to (et_cmp (ev_callB (c_lenL (l := pl.map natD)) rfl T.b_len boot_len (evs_cons (ev_ix (ev_v 1 rfl) ev_int (by walk_at "xd") (fun _ _ => rfl)) evs_nil)) (ev_callB (c_lenL (l := pl.map natD)) rfl T.b_len boot_len (evs_cons (ev_v 2 rfl) evs_nil)) (by walk_at "bd") (nomark _)) (by simp))))) rfl ?_
      have lenP : Dt.int (((pl.map natD).length : Nat) : Int) = .int ((pl.length : Nat) : Int) := by rw [List.length_map]
      have lenR : Dt.int (((rows.map encRA).length : Nat) : Int) = natD rows.length := by rw [List.length_map]
      refine go_for PassesOwn.never rfl (pit_range (n := pl.length) (EV.to (ev_callB (c_lenL (l := pl.map natD)) rfl T.b_len boot_len (evs_cons (ev_v 2 rfl) evs_nil)) lenP) (by omega) rfl T.b_range) (fun j G O => ∃ x3, G = [some (.lst (rows.map encRA)), some (.tup [.str "leaf", .lst (pl.map natD)]), some (.lst (pl.map natD)), x3, none] ∧ O = []) ⟨none, rfl, rfl⟩ (fun B1 u j d G1 O1 hd W => ?_) (fun G1 O1 W => ?_)
      · obtain ⟨x3, rfl, rfl⟩ := W
        obtain ⟨hj, rfl⟩ := rng_get hd
        have hpj : pl[j]? = some pl[j] := List.getElem?_eq_getElem hj
        have pj := plt _ (List.getElem_mem hj)
        generalize pl[j] = p at hpj pj
        have ix : atI (pl.map natD) ((j : Nat) : Int) = some (natD p) := atI_nat (by rw [List.getElem?_map, hpj]; rfl)
        refine ⟨_, (tgt_name (i := 3) sc_is_leaf.nd rfl (.inl rfl)), ?_⟩
        refine go_ifN (b := (!true) || false) (EW.pt (ew_or (et_not (t := true) (et_val (EV.to (ev_call F_place r1 (evs_cons (ev_ix (ev_ix (ev_v 1 rfl) ev_int (by walk_at "xd") (fun _ _ => rfl)) (ev_v 3 rfl) (ix_l ix) (fun _ _ => rfl)) (evs_cons (EV.to (ev_callB (c_lenL (l := rows.map encRA)) rfl T.b_len boot_len (evs_cons (ev_v 0 rfl) evs_nil)) lenR) evs_nil)) (p, rows.length) rfl rfl trivial rfl) (congrArg Dt.bl (decide_eq_true pj))))) fun h => (ew_or1 (ET.to (et_cmp (ev_ix (ev_ix (ev_v 1 rfl) ev_int (by walk_at "xd") (fun _ _ => rfl)) (ev_v 3 rfl) (ix_l ix) (fun _ _ => rfl)) (ev_ix (ev_v 2 rfl) (ev_v 3 rfl) (ix_l ix) (fun _ _ => rfl)) (by walk_at "bd") (nomark _)) (by simp))))) rfl ?_
        exact go_nilW ⟨_, rfl, rfl⟩ rfl
      · obtain ⟨x3, rfl, rfl⟩ := W
        obtain ⟨p0, pl', rfl⟩ : ∃ p0 pl', pl = p0 :: pl' := by
          cases pl with
          | nil => exact absurd rfl ne
          | cons p0 pl' => exact ⟨p0, pl', rfl⟩
        have l0 := plt p0 List.mem_cons_self
        have h0 : rows[p0]? = some rows[p0] := List.getElem?_eq_getElem l0
        generalize rows[p0] = r0 at h0
        have ix0 : atI ((p0 :: pl').map natD) ((0 : Nat) : Int) = some (natD p0) := atI_nat (j := 0) rfl
        have ok0 := (ro.ok r0 (List.mem_of_getElem? h0)).1
        have e1 : Dt.lst ((p0 :: pl').map fun _ => Dt.bl true) = .lst (((p0 :: pl').map fun _ => true).map Dt.bl) := by rw [List.map_map]; rfl
        refine go_ret (EV.to (ev_callB (c_all rfl (bs := (p0 :: pl').map fun _ => true)) rfl T.b_all boot_all (evs_cons (EV.to (ev_lcm (i := 4) (xs := p0 :: pl') (enc := natD) (g := fun _ => Dt.bl true) rfl sc_is_leaf.nd (pit_list (ev_v 2 rfl)) (blkOk_by rfl) (fun _ _ _ _ _ => pg_name (i := 4) sc_is_leaf.nd rfl (.inl rfl)) (by show 4 < 5; decide) (fun p hp _ _ _ _ _ => ?_) (sl_small (by omega))) e1) evs_nil)) ?_) hQ rfl
        · have lp := plt p hp
          have hpr : rows[p]? = some rows[p] := List.getElem?_eq_getElem lp
          generalize rows[p] = r at hpr
          have okr := (ro.ok r (List.mem_of_getElem? hpr)).1
          have eq : r = r0 := rows_eq ro hpr h0 fun a ha => parts_one (all a ha) hp List.mem_cons_self
          exact EV.to (ev_cmp (ev_ix (ev_v 0 rfl) (ev_v 4 rfl) (ix_l (RowsOk.ixr hpr)) (fun _ _ => rfl)) (ev_ix (ev_v 0 rfl) (ev_ix (ev_v 2 rfl) ev_int (ix_l ix0) (fun _ _ => rfl)) (ix_l (RowsOk.ixr h0)) (fun _ _ => rfl)) (b_eqT hu ed_rowA (by decide) okr ok0) (nomark _)) (congrArg Dt.bl (decide_eq_true eq))
        · show Dt.bl _ = .bl true
          refine congrArg Dt.bl ?_
          rw [List.all_eq_true]
          intro x hx
          obtain ⟨_, _, rfl⟩ := List.mem_map.mp hx
          rfl
abbrev spSortsP (K : PySem.W.Frag) (n : Nat) : Sp := spT K (T := List RowA × Nat × Tr × List Nat) (fun i => [.lst (i.1.map encRA), natD i.2.1, encTr i.2.2.1, .lst (i.2.2.2.map natD)]) (fun i => SOk i.1 i.2.1 i.2.2.1 i.2.2.2 ∧ dep i.2.2.1 ≤ n) (fun i d => d = .bl true)
theorem sorts_step (F : FnP K "sorts_places" "sorts_places" s_sorts_places f fd) (T : Tx K mg A) (F_place : Cal P w K mg base 1 "is_place" ["thing", "many"] (spPlace K)) (F_leaf : Cal P w K mg base 2 "is_leaf" ["answers", "tree", "places"] (spLeaf K)) (F_pb : Cal P w K mg base 1 "parts_by" ["answers", "at", "places"] (spPartsBy K))
    (n : Nat) (ih : ∀ m, n = m + 1 → Cal P w K mg base (m + 3) "sorts_places" ["answers", "many", "tree", "places"] (spSortsP K m)) : FnOk P w K mg base CX0 (n + 3) f fd ["answers", "many", "tree", "places"] (spSortsP K n) := by
  refine fn_ok F sc_sorts_places (fun _ => rfl) fun ⟨rows, many, t, pl⟩ cdv A' outer sh H0 E B0 D' hr hp hn hQ => ?_
  obtain ⟨sok, hd⟩ := hp
  have sok : SOk rows many t pl := sok
  have hd : dep t ≤ n := hd
  have r1 : Room 1 _ := hr.mono (by omega)
  have r2 : Room 2 _ := hr.mono (by omega)
  have hu := hr.units
  cases t with
  | leaf l =>
    refine go_ifT (et_val (ev_call F_leaf r2 (evs_cons (ev_v 0 rfl) (evs_cons (ev_v 2 rfl) (evs_cons (ev_v 3 rfl) evs_nil))) (rows, many, .leaf l, pl) rfl rfl sok rfl)) rfl ?_
    exact go_ret ev_bl hQ rfl
  | ask a bs =>
    refine go_ifN (et_val (ev_call F_leaf r2 (evs_cons (ev_v 0 rfl) (evs_cons (ev_v 2 rfl) (evs_cons (ev_v 3 rfl) evs_nil))) (rows, many, .ask a bs, pl) rfl rfl sok rfl)) rfl ?_
    obtain ⟨ro, plt, pll, ne, pr⟩ := sok
    rw [dep_ask] at hd
    obtain ⟨m, rfl⟩ : ∃ m, n = m + 1 := ⟨n - 1, by omega⟩
    have C := ih m rfl
    have rm : Room (m + 3) _ := hr.mono (by omega)
    cases pr with
    | ask ha h2 hl hps =>
      have et : Dt.tup [.str "ask", natD a, .lst (bs.map encTr)] = encTr (.ask a bs) := (encTr_ask a bs).symm
      refine go_weak (G' := [some (.lst (rows.map encRA)), some (natD many), some (.tup [.str "ask", natD a, .lst (bs.map encTr)]), some (.lst (pl.map natD)), none, none, none]) ?_ rfl (fun i d h => by rw [et] at h; exact h)
      refine go_ifN (b := (!true) || (false || ((!true) || false))) (EW.pt (ew_or (et_not (t := true) (et_val (ev_isi (T := "tuple") (t := true) (ev_v 2 rfl) rfl (by decide +kernel) rfl T.b_isinstance rfl T.b_tuple boot_tuple))) fun h => (ew_or (t := false) (ET.to (et_cmp (ev_callB (c_lenT (l := [.str "ask", natD a, .lst (bs.map encTr)])) rfl T.b_len boot_len (evs_cons (ev_v 2 rfl) evs_nil)) ev_int (by walk_at "bd") (nomark _)) (by rfl)) fun h => (ew_or (et_not (t := true) (et_val (ev_isi (T := "str") (t := true) (ev_ix (ev_v 2 rfl) ev_int (by walk_at "xd") (fun _ _ => rfl)) rfl (by decide +kernel) rfl T.b_isinstance rfl T.b_str boot_str))) fun h => (ew_or1 (ET.to (et_cmp (ev_ix (ev_v 2 rfl) ev_int (by walk_at "xd") (fun _ _ => rfl)) ev_str (by walk_at "bd") (nomark _)) (by decide +kernel))))))) rfl ?_
      have nb : bs ≠ [] := fun z => by rw [z] at hl; simp at hl; omega
      have nbe : (bs.map encTr).isEmpty = false := by
        cases bs with
        | nil => exact absurd rfl nb
        | cons b bs => rfl
      refine go_ifN (b := (!true) || ((!true) || false)) (EW.pt (ew_or (et_not (t := true) (et_val (EV.to (ev_call F_place r1 (evs_cons (ev_ix (ev_v 2 rfl) ev_int (by walk_at "xd") (fun _ _ => rfl)) (evs_cons (ev_v 1 rfl) evs_nil)) (a, many) rfl rfl trivial rfl) (congrArg Dt.bl (decide_eq_true ha))))) fun h => (ew_or (et_not (t := true) (et_val (ev_isi (T := "list") (t := true) (ev_ix (ev_v 2 rfl) ev_int (by walk_at "xd") (fun _ _ => rfl)) rfl (by decide +kernel) rfl T.b_isinstance rfl T.b_list boot_list))) fun h => (ew_or1 (ET.to (et_cmp (ev_ix (ev_v 2 rfl) ev_int (by walk_at "xd") (fun _ _ => rfl)) (ev_lst evs_nil) (b_eqNil hu) (nomark _)) nbe))))) rfl ?_
      refine go_set (i := 4) (ev_call F_pb r1 (evs_cons (ev_v 0 rfl) (evs_cons (ev_ix (ev_v 2 rfl) ev_int (by walk_at "xd") (fun _ _ => rfl)) (evs_cons (ev_v 3 rfl) evs_nil))) (rows, many, a, pl) rfl rfl ⟨ro, ha, plt, pll⟩ rfl) ?_ sc_sorts_places.nd rfl (.inl rfl)
      refine go_ifN (ET.to (et_cmp (ev_callB (c_lenL (l := (partsB (keyR rows) a pl).map grpD)) rfl T.b_len boot_len (evs_cons (ev_v 4 rfl) evs_nil)) (ev_callB (c_lenL (l := bs.map encTr)) rfl T.b_len boot_len (evs_cons (ev_ix (ev_v 2 rfl) ev_int (by walk_at "xd") (fun _ _ => rfl)) evs_nil)) (by walk_at "bd") (nomark _)) (by rw [List.length_map, List.length_map, hl]; simp)) rfl ?_
      refine go_for PassesOwn.never rfl (pit_zip (as := (partsB (keyR rows) a pl).map grpD) (bs := bs.map encTr) (ev_v 4 rfl) (ev_ix (ev_v 2 rfl) ev_int (by walk_at "xd") (fun _ _ => rfl)) rfl T.b_zip) (fun j G O => ∃ x5 x6, G = [some (.lst (rows.map encRA)), some (natD many), some (.tup [.str "ask", natD a, .lst (bs.map encTr)]), some (.lst (pl.map natD)), some (.lst ((partsB (keyR rows) a pl).map grpD)), x5, x6] ∧ O = []) ⟨none, none, rfl, rfl⟩ (fun B1 u j d G1 O1 hd' W => ?_) (fun G1 O1 W => ?_)
      · obtain ⟨x5, x6, rfl, rfl⟩ := W
        obtain ⟨pk, t, hpk, ht, rfl⟩ : ∃ pk t, (partsB (keyR rows) a pl)[j]? = some pk ∧ bs[j]? = some t ∧ d = .tup [grpD pk, encTr t] := by
          unfold pairD at hd'
          rw [List.getElem?_zipWith, List.getElem?_map, List.getElem?_map] at hd'
          cases e1 : (partsB (keyR rows) a pl)[j]? with
          | none => rw [e1] at hd'; cases hd'
          | some pk =>
            cases e2 : bs[j]? with
            | none => rw [e1, e2] at hd'; cases hd'
            | some t => rw [e1, e2] at hd'; cases hd'; exact ⟨pk, t, rfl, rfl, rfl⟩
        have hpm := List.mem_of_getElem? hpk
        have PA := parts_at hpm
        have PL := parts_len_lt hpm h2
        have sub : ∀ x ∈ pk, x ∈ pl := fun x hx => by
          rw [PA.2] at hx
          exact (List.mem_filter.mp hx).1
        have dt := deps_le (List.mem_of_getElem? ht)
        refine ⟨_, (tgt_tup rfl (tgts_cons (tgt_name (i := 5) sc_sorts_places.nd rfl (.inl rfl)) (tgts_cons (tgt_name (i := 6) sc_sorts_places.nd rfl (.inl rfl)) tgts_nil))), ?_⟩
        refine go_ifN (et_not (t := true) (et_val (ev_call C rm (evs_cons (ev_v 0 rfl) (evs_cons (ev_v 1 rfl) (evs_cons (ev_v 6 rfl) (evs_cons (ev_v 5 rfl) evs_nil)))) (rows, many, t, pk) rfl rfl ⟨⟨ro, fun x hx => plt x (sub x hx), by show pk.length ≤ 8; have : pl.length ≤ 8 := pll; omega, PA.1, hps j t pk ht hpk⟩, by show dep t ≤ m; omega⟩ rfl))) rfl ?_
        exact go_nilW ⟨_, _, rfl, rfl⟩ rfl
      · obtain ⟨x5, x6, rfl, rfl⟩ := W
        exact go_ret ev_bl hQ rfl
theorem ok_sorts_places (F : FnP K "sorts_places" "sorts_places" s_sorts_places f fd) (T : Tx K mg A) (F_place : Cal P w K mg base 1 "is_place" ["thing", "many"] (spPlace K)) (F_leaf : Cal P w K mg base 2 "is_leaf" ["answers", "tree", "places"] (spLeaf K)) (F_pb : Cal P w K mg base 1 "parts_by" ["answers", "at", "places"] (spPartsBy K))
    (hm : mg "sorts_places" = some (.ref f)) (hk : PySem.W.keepIn K (.ref f) = true) (hB : Binds K fd ["answers", "many", "tree", "places"] []) : ∀ n, FnOk P w K mg base CX0 (n + 3) f fd ["answers", "many", "tree", "places"] (spSortsP K n)
  | 0 => sorts_step F T F_place F_leaf F_pb 0 fun m e => by omega
  | n + 1 => sorts_step F T F_place F_leaf F_pb (n + 1) fun m e => by
    obtain rfl : n = m := by omega
    exact ⟨f, fd, ok_sorts_places F T F_place F_leaf F_pb hm hk hB n, hm, hk, hB⟩
abbrev spSorts (K : PySem.W.Frag) (A : Ad) : Sp := spT K (T := List Dia × List (List Nat) × Tr) (fun i => [.lst (i.1.map (encD A)), .lst (i.2.1.map encTx), encTr i.2.2]) (fun i => AOk i.1 i.2.1 ∧ i.1.length ≤ 4 ∧ i.1 ≠ [] ∧ i.2.1.length ≤ 6 ∧ Proper (keyR (rowsOf i.1 i.2.1)) i.2.1.length i.2.2 (List.range i.1.length)) (fun i d => d = .bl true)
theorem ok_sorts (F : FnP K "sorts" "sorts" s_sorts f fd) (T : Tx K mg A) (F_ans : Cal P w K mg base 9 "answers_of" ["dialects", "texts"] (spAnswers K A)) (F_sp : Cal P w K mg base 9 "sorts_places" ["answers", "many", "tree", "places"] (spSortsP K 6)) : FnOk P w K mg base CX0 10 f fd ["dialects", "texts", "tree"] (spSorts K A) := by
  refine fn_ok F sc_sorts (fun _ => rfl) fun ⟨Ds, ts, t⟩ cdv A' outer sh H0 E B0 D' hr hp hn hQ => ?_
  obtain ⟨aok, l4, ne, l6, pr⟩ := hp
  have aok : AOk Ds ts := aok
  have l4 : Ds.length ≤ 4 := l4
  have ne : Ds ≠ [] := ne
  have l6 : ts.length ≤ 6 := l6
  have pr : Proper (keyR (rowsOf Ds ts)) ts.length t (List.range Ds.length) := pr
  have r9 : Room 9 _ := hr.mono (by decide)
  have lenD : Dt.int (((Ds.map (encD A)).length : Nat) : Int) = .int ((Ds.length : Nat) : Int) := by rw [List.length_map]
  have lenT : Dt.int (((ts.map encTx).length : Nat) : Int) = .int ((ts.length : Nat) : Int) := by rw [List.length_map]
  have em : Dt.lst (Ds.map fun D => encRA (rowOf ts D)) = .lst ((rowsOf Ds ts).map encRA) := by rw [List.map_map]; rfl
  have dp := pr.dep_le
  have sp := splits_le (key := keyR (rowsOf Ds ts)) (many := ts.length) (pl := List.range Ds.length)
  have sok : SOk (rowsOf Ds ts) ts.length t (List.range Ds.length) := ⟨rows_ok aok, fun p hp => by rw [List.length_map]; exact List.mem_range.mp hp, by rw [List.length_range]; omega, fun z => ne (by
    have := congrArg List.length z
    rw [List.length_range] at this
    exact List.length_eq_zero_iff.mp this), pr⟩
  refine go_ret (ev_call F_sp r9 (evs_cons (EV.to (ev_call F_ans r9 (evs_cons (ev_v 0 rfl) (evs_cons (ev_v 1 rfl) evs_nil)) (Ds, ts) rfl rfl aok rfl) em) (evs_cons (EV.to (ev_callB (c_lenL (l := ts.map encTx)) rfl T.b_len boot_len (evs_cons (ev_v 1 rfl) evs_nil)) lenT) (evs_cons (ev_v 2 rfl) (evs_cons (ev_listRange rfl (EV.to (ev_callB (c_lenL (l := Ds.map (encD A))) rfl T.b_len boot_len (evs_cons (ev_v 0 rfl) evs_nil)) lenD) (by omega) rfl T.b_list rfl T.b_range) evs_nil)))) (rowsOf Ds ts, ts.length, t, List.range Ds.length) rfl rfl ⟨sok, by show dep t ≤ 6; omega⟩ rfl) hQ rfl
end
end Dh
end SDhTree3

section SDhLaw1
set_option Elab.async false
set_option linter.all false
set_option maxRecDepth 100000
set_option maxHeartbeats 4000000
local macro_rules | `(tactic| walk_at "bd") => `(tactic| first
  | exact Dh.b_in | exact Dh.b_notin | exact Dh.b_eqS | exact Dh.b_neS | exact Dh.b_isN | exact Dh.b_notN | exact Dh.b_add | exact Dh.b_sub | exact Dh.b_lt | exact Dh.b_le | exact Dh.b_gt | exact Dh.b_ge | exact Dh.b_eqI | exact Dh.b_neI | exact Dh.b_eqB | exact Dh.b_neB
  | exact Dh.b_mod (by decide) | exact Dh.b_fdiv ⟨by decide, by decide⟩ | exact Dh.b_mul (.inl ⟨by decide, by decide⟩) | exact Dh.b_mul (.inr ⟨by decide, by decide⟩) | exact Dh.b_pow ⟨by decide, by decide, by decide⟩)
local macro_rules | `(tactic| walk_at "xd") => `(tactic| first | exact Dh.ix_t rfl | exact Dh.ix_l rfl)
namespace Dh
open PySem PySem.Spec PyProof.Rows L2
def mixO (n s : Int) : Int := (n * (1299709 + 210 * s) + 7919 * s) % 15485863
def mixT (n s : Int) : Int := (mixO n s * mixO n s + s) % 32452843
def mixI (n s : Int) : Int := (mixT n s * mixT n s + mixO n s) % 49979687
theorem mod_b (a : Int) {m : Int} (h : 0 < m) : 0 ≤ a % m ∧ a % m < m := ⟨Int.emod_nonneg _ (by omega), Int.emod_lt_of_pos _ h⟩
section
variable {P : Program} {w : World} {K : PySem.W.Frag} {mg : Str → Option Value} {base : Heap} {f : Addr} {fd : FuncData} {A : Ad}
abbrev spCell (K : PySem.W.Frag) : Sp := spT K (T := List Int × Nat) (fun i => [.lst (i.1.map .int), natD i.2]) (fun _ => True) (fun i d => d = .int (i.1.getD i.2 0))
theorem ok_law_cell_at (F : FnP K "_law_cell_at" "_law_cell_at" s_law_cell_at f fd) (T : Tx K mg A) : FnOk P w K mg base CX0 1 f fd ["_law_script", "_law_k"] (spCell K) := by
  refine fn_ok F sc_law_cell_at (fun _ => rfl) fun ⟨ns, k⟩ cdv A' outer sh H0 E B0 D' hr hp hn hQ => ?_
  refine go_if0 (et_cmp (ev_v 1 rfl) (ev_callB (c_lenL (l := ns.map .int)) rfl T.b_len boot_len (evs_cons (ev_v 0 rfl) evs_nil)) (by walk_at "bd") (nomark _)) (fun h => ?_) (fun h => ?_)
  · have h : k < ns.length := by
      have := of_decide_eq_true h
      rw [List.length_map] at this
      omega
    have e : ns[k]? = some ns[k] := List.getElem?_eq_getElem h
    refine go_ret (ev_ix (ev_v 0 rfl) (ev_v 1 rfl) (ix_l (d := .int ns[k]) (atI_nat (by rw [List.getElem?_map, e]; rfl))) (fun _ _ => rfl)) hQ ?_
    show Dt.int ns[k] = .int (ns.getD k 0)
    rw [List.getD_eq_getElem?_getD, e]; rfl
  · have h : ns.length ≤ k := by
      have := of_decide_eq_false h
      rw [List.length_map] at this
      omega
    refine go_ret ev_int hQ ?_
    show Dt.int 0 = .int (ns.getD k 0)
    rw [List.getD_eq_getElem?_getD, List.getElem?_eq_none h]; rfl
abbrev spMixed (K : PySem.W.Frag) : Sp := spT K (T := Int × Int) (fun i => [.int i.1, .int i.2]) (fun i => 0 ≤ i.2 ∧ i.2 ≤ 1000) (fun i d => d = .int (mixI i.1 i.2))
theorem ok_law_mixed (F : FnP K "_law_mixed" "_law_mixed" s_law_mixed f fd) (T : Tx K mg A) : FnOk P w K mg base CX0 1 f fd ["_law_number_here", "_law_salt"] (spMixed K) := by
  refine fn_ok F sc_law_mixed (fun _ => rfl) fun ⟨n, s⟩ cdv A' outer sh H0 E B0 D' hr hp hn hQ => ?_
  have h0 : 0 ≤ s := hp.1
  have h1 : s ≤ 1000 := hp.2
  have o := mod_b (n * (1299709 + 210 * s) + 7919 * s) (m := 15485863) (by decide)
  have o : 0 ≤ mixO n s ∧ mixO n s < 15485863 := o
  have t : 0 ≤ mixT n s ∧ mixT n s < 32452843 := mod_b (mixO n s * mixO n s + s) (m := 32452843) (by decide)
  refine go_set (i := 2) (d := .int (mixO n s)) (ev_bin (ev_bin (ev_bin (ev_v 0 rfl) (ev_bin ev_int (ev_bin ev_int (ev_v 1 rfl) (by walk_at "bd")) (by walk_at "bd")) (b_mul (.inr ⟨by omega, by omega⟩))) (ev_bin ev_int (ev_v 1 rfl) (by walk_at "bd")) (by walk_at "bd")) ev_int (by walk_at "bd")) ?_ sc_law_mixed.nd rfl (.inl rfl)
  refine go_set (i := 3) (d := .int (mixT n s)) (ev_bin (ev_bin (ev_bin (ev_v 2 rfl) (ev_v 2 rfl) (b_mul (.inr ⟨by omega, by omega⟩))) (ev_v 1 rfl) (by walk_at "bd")) ev_int (by walk_at "bd")) ?_ sc_law_mixed.nd rfl (.inl rfl)
  exact go_ret (d := .int (mixI n s)) (ev_bin (ev_bin (ev_bin (ev_v 3 rfl) (ev_v 3 rfl) (b_mul (.inr ⟨by omega, by omega⟩))) (ev_v 2 rfl) (by walk_at "bd")) ev_int (by walk_at "bd")) hQ rfl
abbrev spNumber (K : PySem.W.Frag) : Sp := spT K (T := Int × Int) (fun i => [.int i.1, .int i.2]) (fun i => 0 ≤ i.2 ∧ i.2 ≤ 900) (fun i d => ∃ n, d = .int n)
theorem ok_law_number (F : FnP K "_law_number" "_law_number" s_law_number f fd) (T : Tx K mg A) (F_mixed : Cal P w K mg base 1 "_law_mixed" ["_law_number_here", "_law_salt"] (spMixed K)) : FnOk P w K mg base CX0 2 f fd ["_law_cell", "_law_salt"] (spNumber K) := by
  refine fn_ok F sc_law_number (fun _ => rfl) fun ⟨c, s⟩ cdv A' outer sh H0 E B0 D' hr hp hn hQ => ?_
  have h0 : 0 ≤ s := hp.1
  have h1 : s ≤ 900 := hp.2
  have r1 : Room 1 _ := hr
  refine go_if0 (EW.pt (ew_and (et_cmp (ev_bin (ev_v 0 rfl) ev_int (by walk_at "bd")) ev_int (by walk_at "bd") (nomark _)) fun h => (ew_and1 (et_cmp (ev_v 0 rfl) (ev_bin ev_int (ev_bin ev_int ev_int (by walk_at "bd")) (by walk_at "bd")) (by walk_at "bd") (nomark _))))) (fun h => ?_) (fun h => ?_)
  · exact go_ret (ev_bin (ev_bin (ev_v 0 rfl) ev_int (by walk_at "bd")) (ev_bin ev_int ev_int (by walk_at "bd")) (by walk_at "bd")) hQ ⟨_, rfl⟩
  · refine go_set (i := 2) (ev_bin (ev_v 0 rfl) ev_int (by walk_at "bd")) ?_ sc_law_number.nd rfl (.inl rfl)
    refine go_set (i := 3) (ev_bin (ev_bin (ev_call F_mixed r1 (evs_cons (ev_v 2 rfl) (evs_cons (ev_v 1 rfl) evs_nil)) (_, s) rfl rfl ⟨h0, by show s ≤ 1000; omega⟩ rfl) ev_int (by walk_at "bd")) (ev_call F_mixed r1 (evs_cons (ev_v 2 rfl) (evs_cons (ev_bin (ev_v 1 rfl) ev_int (by walk_at "bd")) evs_nil)) (_, s + 1) rfl rfl ⟨by show 0 ≤ s + 1; omega, by show s + 1 ≤ 1000; omega⟩ rfl) (by walk_at "bd")) ?_ sc_law_number.nd rfl (.inl rfl)
    exact go_ret (ev_bin (ev_bin (ev_v 3 rfl) ev_int (by walk_at "bd")) (ev_call F_mixed r1 (evs_cons (ev_v 2 rfl) (evs_cons (ev_bin (ev_v 1 rfl) ev_int (by walk_at "bd")) evs_nil)) (_, s + 2) rfl rfl ⟨by show 0 ≤ s + 2; omega, by show s + 2 ≤ 1000; omega⟩ rfl) (by walk_at "bd")) hQ ⟨_, rfl⟩
structure SomeR (many : Nat) (menu l : List Nat) : Prop where
  nd : l.Nodup
  len : l.length ≤ many
  ne : 1 ≤ many → 1 ≤ l.length
  sub : ∀ c ∈ l, c ∈ menu
abbrev spSome (K : PySem.W.Frag) : Sp := spT K (T := Int × Nat × List Nat) (fun i => [.int i.1, natD i.2.1, .str (S i.2.2)]) (fun i => i.2.1 ≤ 3 ∧ 1 ≤ i.2.2.length ∧ i.2.2.length ≤ 100) (fun i d => ∃ l n, d = .tup [.str (S l), .int n] ∧ SomeR i.2.1 i.2.2 l)
theorem ok_law_some (F : FnP K "_law_some" "_law_some" s_law_some f fd) (T : Tx K mg A) : FnOk P w K mg base CX0 1 f fd ["_law_number_here", "_law_many", "_law_menu"] (spSome K) := by
  refine fn_ok F sc_law_some (fun _ => rfl) fun ⟨n, many, menu⟩ cdv A' outer sh H0 E B0 D' hr hp hn hQ => ?_
  have m3 : many ≤ 3 := hp.1
  have l1 : 1 ≤ menu.length := hp.2.1
  have l2 : menu.length ≤ 100 := hp.2.2
  have lz : (S menu).length ≤ sizeLine := by rw [S_len]; exact sl_small (by omega)
  have le : Dt.int (((S menu).length : Nat) : Int) = natD menu.length := by rw [S_len]
  refine go_set (i := 3) (EV.to ev_str (show Dt.str "" = .str (S []) from rfl)) ?_ sc_law_some.nd rfl (.inl rfl)
  refine go_for PassesOwn.never rfl (pit_range (n := many) (ev_v 1 rfl) (by omega) rfl T.b_range) (fun j G O => ∃ n l x4 x5, l.Nodup ∧ l.length ≤ j ∧ (1 ≤ j → 1 ≤ l.length) ∧ (∀ c ∈ l, c ∈ menu) ∧ G = [some (.int n), some (natD many), some (.str (S menu)), some (.str (S l)), x4, x5] ∧ O = [])
    ⟨n, [], none, none, List.nodup_nil, Nat.le_refl _, fun h => by omega, fun c h => (by cases h), rfl, rfl⟩ (fun B1 u j d G1 O1 hd W => ?_) (fun G1 O1 W => ?_)
  · obtain ⟨n, l, x4, x5, nd, ll, lp, sub, rfl, rfl⟩ := W
    obtain ⟨hj, rfl⟩ := rng_get hd
    obtain ⟨q1, q2⟩ := mod_b n (m := (menu.length : Nat)) (by omega)
    obtain ⟨k, hk⟩ : ∃ k : Nat, n % ((menu.length : Nat) : Int) = (k : Nat) := ⟨_, (Int.toNat_of_nonneg q1).symm⟩
    have kl : k < menu.length := by omega
    have hc : menu[k]? = some menu[k] := List.getElem?_eq_getElem kl
    have hcm := List.getElem_mem kl
    generalize menu[k] = c at hc hcm
    refine ⟨_, (tgt_name (i := 4) sc_law_some.nd rfl (.inl rfl)), ?_⟩
    refine go_set (i := 5) (d := .str (sg c)) (ev_ix (ev_v 2 rfl) (ev_bin (ev_v 0 rfl) (EV.to (ev_callB (c_lenS lz) rfl T.b_len boot_len (evs_cons (ev_v 2 rfl) evs_nil)) le) (b_mod (by omega))) (by
      rw [hk]
      exact ix_s lz (by rw [S_cps]; exact atI_nat hc)) (fun _ _ => rfl)) ?_ sc_law_some.nd rfl (.inl rfl)
    refine go_set (i := 0) (ev_bin (ev_v 0 rfl) (EV.to (ev_callB (c_lenS lz) rfl T.b_len boot_len (evs_cons (ev_v 2 rfl) evs_nil)) le) (b_fdiv ⟨by omega, by omega⟩)) ?_ sc_law_some.nd rfl (.inl rfl)
    refine go_if0 (et_cmp (ev_v 5 rfl) (ev_v 3 rfl) (by walk_at "bd") rfl) (fun h => ?_) (fun h => ?_)
    · have h : c ∉ l := by
        have h2 : (!decide (c ∈ (S l).cps.toList)) = true := h
        rw [S_cps] at h2
        simpa using h2
      refine go_set (i := 3) (ev_addS (ev_v 3 rfl) (ev_v 5 rfl) (sl_small (by show l.length + 1 ≤ _; omega))) ?_ sc_law_some.nd rfl (.inl rfl)
      refine go_done (go_nilW ⟨_, l ++ [c], _, _, ?_, by rw [List.length_append, List.length_singleton]; omega, fun _ => by rw [List.length_append, List.length_singleton]; omega, fun x hx => ?_, rfl, rfl⟩ rfl) rfl
      · rw [List.nodup_append]
        exact ⟨nd, by simp, fun a ha b hb e => by rw [List.mem_singleton] at hb; subst hb; subst e; exact h ha⟩
      · rcases List.mem_append.mp hx with z | z
        · exact sub x z
        · rw [List.mem_singleton] at z; subst z; exact hcm
    · have h : c ∈ l := by
        have h2 : (!decide (c ∈ (S l).cps.toList)) = false := h
        rw [S_cps] at h2
        simpa using h2
      exact go_nilW ⟨_, l, _, _, nd, by omega, fun _ => List.length_pos_of_mem h, sub, rfl, rfl⟩ rfl
  · obtain ⟨n, l, x4, x5, nd, ll, lp, sub, rfl, rfl⟩ := W
    have e : (rng many).length = many := by simp [rng]
    rw [e] at ll lp
    exact go_ret (ev_tup (evs_cons (ev_v 3 rfl) (evs_cons (ev_v 0 rfl) evs_nil))) hQ ⟨l, n, rfl, nd, ll, lp, sub⟩
def MenuOk (m : List Nat) : Prop := 1 ≤ m.length ∧ m.length ≤ 100 ∧ ∀ c ∈ m, Prn c
abbrev spMenus (K : PySem.W.Frag) : Sp := spT K (T := Int) (fun i => [.int i]) (fun _ => True) (fun i d => ∃ a b c, d = .lst [.str (S a), .str (S b), .str (S c)] ∧ MenuOk a ∧ MenuOk b ∧ MenuOk c)
theorem menu_ok (m : List Nat) (h : (decide (1 ≤ m.length) && decide (m.length ≤ 100) && m.all fun c => decide (32 ≤ c ∧ c ≤ 126 ∧ c ≠ 37)) = true) : MenuOk m := by
  rw [Bool.and_eq_true, Bool.and_eq_true] at h
  exact ⟨of_decide_eq_true h.1.1, of_decide_eq_true h.1.2, fun c hc => (show 32 ≤ c ∧ c ≤ 126 ∧ c ≠ 37 from of_decide_eq_true (List.all_eq_true.mp h.2 c hc))⟩
theorem str_S (z : Str) : z = S z.cps.toList := by
  show z = ⟨z.cps.toList.toArray⟩
  rw [Array.toArray_toList]
theorem ok_law_menus (F : FnP K "_law_menus" "_law_menus" s_law_menus f fd) (T : Tx K mg A) : FnOk P w K mg base CX0 1 f fd ["_law_way"] (spMenus K) := by
  refine fn_ok F sc_law_menus (fun _ => rfl) fun i cdv A' outer sh H0 E B0 D' hr hp hn hQ => ?_
  refine go_set (i := 1) (EV.to ev_str (congrArg Dt.str (str_S _))) ?_ sc_law_menus.nd rfl (.inl rfl)
  refine go_if0 (et_cmp (ev_v 0 rfl) ev_int (by walk_at "bd") (nomark _)) (fun h => ?_) (fun h => ?_)
  · exact go_ret (ev_lst (evs_cons (EV.to ev_str (congrArg Dt.str (str_S _))) (evs_cons (EV.to ev_str (congrArg Dt.str (str_S _))) (evs_cons (EV.to ev_str (congrArg Dt.str (str_S _))) evs_nil)))) hQ ⟨_, _, _, rfl, menu_ok _ (by decide +kernel), menu_ok _ (by decide +kernel), menu_ok _ (by decide +kernel)⟩
  · refine go_if0 (et_cmp (ev_v 0 rfl) ev_int (by walk_at "bd") (nomark _)) (fun h => ?_) (fun h => ?_)
    · exact go_ret (ev_lst (evs_cons (EV.to ev_str (congrArg Dt.str (str_S _))) (evs_cons (EV.to ev_str (congrArg Dt.str (str_S _))) (evs_cons (EV.to ev_str (congrArg Dt.str (str_S _))) evs_nil)))) hQ ⟨_, _, _, rfl, menu_ok _ (by decide +kernel), menu_ok _ (by decide +kernel), menu_ok _ (by decide +kernel)⟩
    · exact go_ret (ev_lst (evs_cons (ev_v 1 rfl) (evs_cons (ev_v 1 rfl) (evs_cons (ev_v 1 rfl) evs_nil)))) hQ ⟨_, _, _, rfl, menu_ok _ (by decide +kernel), menu_ok _ (by decide +kernel), menu_ok _ (by decide +kernel)⟩
end
end Dh
end SDhLaw1

section SDhLaw2
set_option Elab.async false
set_option linter.all false
set_option maxRecDepth 100000
set_option maxHeartbeats 4000000
local macro_rules | `(tactic| walk_at "bd") => `(tactic| first
  | exact Dh.b_in | exact Dh.b_notin | exact Dh.b_eqS | exact Dh.b_neS | exact Dh.b_isN | exact Dh.b_notN | exact Dh.b_add | exact Dh.b_sub | exact Dh.b_lt | exact Dh.b_le | exact Dh.b_gt | exact Dh.b_ge | exact Dh.b_eqI | exact Dh.b_neI | exact Dh.b_eqB | exact Dh.b_neB
  | exact Dh.b_mod (by decide) | exact Dh.b_fdiv ⟨by decide, by decide⟩ | exact Dh.b_mul (.inl ⟨by decide, by decide⟩) | exact Dh.b_mul (.inr ⟨by decide, by decide⟩) | exact Dh.b_pow ⟨by decide, by decide, by decide⟩)
local macro_rules | `(tactic| walk_at "xd") => `(tactic| first | exact Dh.ix_t rfl | exact Dh.ix_l rfl)
namespace Dh
open PySem PySem.Spec PyProof.Rows L2
/-- a told tuple -/
def encT7 (D : Dia) : Dt := .tup [.str (S D.parts), .str (S D.quotes), .str (S D.frees), .bl D.twin, .bl D.wide, .bl D.thin, .bl D.stray]
section
variable {P : Program} {w : World} {K : PySem.W.Frag} {mg : Str → Option Value} {base : Heap} {f : Addr} {fd : FuncData} {A : Ad}
theorem int_nat {i : Int} (h : 0 ≤ i) : Dt.int i = natD i.toNat := by show Dt.int i = Dt.int (i.toNat : Nat); rw [Int.toNat_of_nonneg h]
abbrev spTold7 (K : PySem.W.Frag) : Sp := spT K (T := Int) (fun i => [.int i]) (fun _ => True) (fun i d => ∃ D, d = encT7 D ∧ Ok D)
theorem ok_law_told (F : FnP K "_law_told" "_law_told" s_law_told f fd) (T : Tx K mg A) (F_number : Cal P w K mg base 2 "_law_number" ["_law_cell", "_law_salt"] (spNumber K)) (F_menus : Cal P w K mg base 1 "_law_menus" ["_law_way"] (spMenus K)) (F_some : Cal P w K mg base 1 "_law_some" ["_law_number_here", "_law_many", "_law_menu"] (spSome K)) :
    FnOk P w K mg base CX0 3 f fd ["_law_cell"] (spTold7 K) := by
  refine fn_ok F sc_law_told (fun _ => rfl) fun c cdv A' outer sh H0 E B0 D' hr hp hn hQ => ?_
  have r1 : Room 1 _ := hr.mono (by decide)
  have r2 : Room 2 _ := hr
  refine go_setR (i := 1) (ev_callR F_number r2 (evs_cons (ev_v 0 rfl) (evs_cons ev_int evs_nil)) (c, 11) rfl ⟨(by show (0 : Int) ≤ 11; decide), (by show (11 : Int) ≤ 900; decide)⟩ rfl) (fun d hd => ?_) sc_law_told.nd rfl (.inl rfl)
  obtain ⟨n, rfl⟩ := hd
  have b1 := mod_b (n / 16) (m := 3) (by decide)
  have b2 := mod_b (n / 48) (m := 3) (by decide)
  have b3 := mod_b (n / 144) (m := 3) (by decide)
  refine go_set (i := 2) (ev_bin (ev_v 1 rfl) ev_int (by walk_at "bd")) ?_ sc_law_told.nd rfl (.inl rfl)
  refine go_set (i := 3) (d := .lst [natD (1 + n / 16 % 3).toNat, natD (n / 48 % 3).toNat, natD (n / 144 % 3).toNat]) (ev_lst (evs_cons (EV.to (ev_bin ev_int (ev_bin (ev_bin (ev_v 1 rfl) ev_int (by walk_at "bd")) ev_int (by walk_at "bd")) (by walk_at "bd")) (int_nat (by omega))) (evs_cons (EV.to (ev_bin (ev_bin (ev_v 1 rfl) ev_int (by walk_at "bd")) ev_int (by walk_at "bd")) (int_nat (by omega))) (evs_cons (EV.to (ev_bin (ev_bin (ev_v 1 rfl) ev_int (by walk_at "bd")) ev_int (by walk_at "bd")) (int_nat (by omega))) evs_nil)))) ?_ sc_law_told.nd rfl (.inl rfl)
  refine go_setR (i := 4) (ev_callR F_menus r1 (evs_cons (ev_bin (ev_bin (ev_v 1 rfl) ev_int (by walk_at "bd")) ev_int (by walk_at "bd")) evs_nil) (n / 432 % 3) rfl trivial rfl) (fun d hd => ?_) sc_law_told.nd rfl (.inl rfl)
  obtain ⟨ma, mb, mc, rfl, oa, ob, oc⟩ := hd
  refine go_asgR (ev_callR F_some r1 (evs_cons (ev_bin (ev_v 1 rfl) ev_int (by walk_at "bd")) (evs_cons (ev_ix (ev_v 3 rfl) ev_int (by walk_at "xd") (fun _ _ => rfl)) (evs_cons (ev_ix (ev_v 4 rfl) ev_int (by walk_at "xd") (fun _ _ => rfl)) evs_nil))) (_, (1 + n / 16 % 3).toNat, ma) rfl ⟨by show (1 + n / 16 % 3).toNat ≤ 3; omega, oa.1, oa.2.1⟩ rfl) (fun d hd => ?_)
  obtain ⟨la, na, rfl, sa⟩ := hd
  refine ⟨_, (tgt_tup rfl (tgts_cons (tgt_name (i := 5) sc_law_told.nd rfl (.inl rfl)) (tgts_cons (tgt_name (i := 1) sc_law_told.nd rfl (.inl rfl)) tgts_nil))), ?_⟩
  refine go_asgR (ev_callR F_some r1 (evs_cons (ev_v 1 rfl) (evs_cons (ev_ix (ev_v 3 rfl) ev_int (by walk_at "xd") (fun _ _ => rfl)) (evs_cons (ev_ix (ev_v 4 rfl) ev_int (by walk_at "xd") (fun _ _ => rfl)) evs_nil))) (na, (n / 48 % 3).toNat, mb) rfl ⟨by show (n / 48 % 3).toNat ≤ 3; omega, ob.1, ob.2.1⟩ rfl) (fun d hd => ?_)
  obtain ⟨lb, nb, rfl, sb⟩ := hd
  refine ⟨_, (tgt_tup rfl (tgts_cons (tgt_name (i := 6) sc_law_told.nd rfl (.inl rfl)) (tgts_cons (tgt_name (i := 1) sc_law_told.nd rfl (.inl rfl)) tgts_nil))), ?_⟩
  refine go_asgR (ev_callR F_some r1 (evs_cons (ev_v 1 rfl) (evs_cons (ev_ix (ev_v 3 rfl) ev_int (by walk_at "xd") (fun _ _ => rfl)) (evs_cons (ev_ix (ev_v 4 rfl) ev_int (by walk_at "xd") (fun _ _ => rfl)) evs_nil))) (nb, (n / 144 % 3).toNat, mc) rfl ⟨by show (n / 144 % 3).toNat ≤ 3; omega, oc.1, oc.2.1⟩ rfl) (fun d hd => ?_)
  obtain ⟨lc, nc, rfl, sc⟩ := hd
  refine ⟨_, (tgt_tup rfl (tgts_cons (tgt_name (i := 7) sc_law_told.nd rfl (.inl rfl)) (tgts_cons (tgt_name (i := 1) sc_law_told.nd rfl (.inl rfl)) tgts_nil))), ?_⟩
  refine go_set (i := 8) (ev_lst (evs_cons (ev_cmp (ev_bin (ev_v 2 rfl) ev_int (by walk_at "bd")) ev_int (by walk_at "bd") (nomark _)) (evs_cons (ev_cmp (ev_bin (ev_bin (ev_v 2 rfl) ev_int (by walk_at "bd")) ev_int (by walk_at "bd")) ev_int (by walk_at "bd") (nomark _)) (evs_cons (ev_cmp (ev_bin (ev_bin (ev_v 2 rfl) ev_int (by walk_at "bd")) ev_int (by walk_at "bd")) ev_int (by walk_at "bd") (nomark _)) (evs_cons (ev_cmp (ev_bin (ev_bin (ev_v 2 rfl) ev_int (by walk_at "bd")) ev_int (by walk_at "bd")) ev_int (by walk_at "bd") (nomark _)) evs_nil))))) ?_ sc_law_told.nd rfl (.inl rfl)
  have l1 : la.length ≤ (1 + n / 16 % 3).toNat := sa.len
  have l2 : lb.length ≤ (n / 48 % 3).toNat := sb.len
  have l3 : lc.length ≤ (n / 144 % 3).toNat := sc.len
  have l4 : 1 ≤ la.length := sa.ne (by show 1 ≤ (1 + n / 16 % 3).toNat; omega)
  refine go_ret (ev_tup (evs_cons (ev_v 5 rfl) (evs_cons (ev_v 6 rfl) (evs_cons (ev_v 7 rfl) (evs_cons (ev_ix (ev_v 8 rfl) ev_int (by walk_at "xd") (fun _ _ => rfl)) (evs_cons (ev_ix (ev_v 8 rfl) ev_int (by walk_at "xd") (fun _ _ => rfl)) (evs_cons (ev_ix (ev_v 8 rfl) ev_int (by walk_at "xd") (fun _ _ => rfl)) (evs_cons (ev_ix (ev_v 8 rfl) ev_int (by walk_at "xd") (fun _ _ => rfl)) evs_nil)))))))) hQ
    ⟨⟨la, lb, lc, _, _, _, _⟩, rfl, ⟨l4, by show la.length ≤ 3; omega, sa.nd, fun c hc => oa.2.2 c (sa.sub c hc), by show lb.length ≤ 2; omega, sb.nd, fun c hc => ob.2.2 c (sb.sub c hc), by show lc.length ≤ 2; omega, sc.nd, fun c hc => oc.2.2 c (sc.sub c hc)⟩⟩
abbrev spDrawn (K : PySem.W.Frag) : Sp := spT K (T := Int × Nat) (fun i => [.int i.1, natD i.2]) (fun i => i.2 ≤ 100) (fun i d => ∃ xs : List Int, d = .lst (xs.map .int) ∧ xs.length = i.2)
theorem ok_law_drawn (F : FnP K "_law_drawn" "_law_drawn" s_law_drawn f fd) (T : Tx K mg A) (F_mixed : Cal P w K mg base 1 "_law_mixed" ["_law_number_here", "_law_salt"] (spMixed K)) : FnOk P w K mg base CX0 2 f fd ["_law_cell", "_law_many"] (spDrawn K) := by
  refine fn_ok F sc_law_drawn (fun _ => rfl) fun ⟨c, many⟩ cdv A' outer sh H0 E B0 D' hr hp hn hQ => ?_
  have hm : many ≤ 100 := hp
  have r1 : Room 1 _ := hr
  refine go_if0 (EW.pt (ew_or (et_cmp (ev_bin (ev_v 0 rfl) ev_int (by walk_at "bd")) ev_int (by walk_at "bd") (nomark _)) fun h => (ew_or1 (et_cmp (ev_v 0 rfl) (ev_bin ev_int (ev_bin ev_int ev_int (by walk_at "bd")) (by walk_at "bd")) (by walk_at "bd") (nomark _))))) (fun h => ?_) (fun h => ?_)
  · refine go_set (i := 2) (ev_bin (ev_v 0 rfl) ev_int (by walk_at "bd")) ?_ sc_law_drawn.nd rfl (.inr rfl)
    refine go_ret (ev_lcm (i := 4) (xs := List.range many) (enc := natD) (g := fun k => Dt.int (mixI (c % 1000000007) (71 + 2 * (k : Nat)))) rfl sc_law_drawn.nd (pit_range (n := many) (ev_v 1 rfl) (by omega) rfl T.b_range) (blkOk_by rfl) (fun _ _ _ _ _ => pg_name (i := 4) sc_law_drawn.nd rfl (.inl rfl)) (by show 4 < 5; decide) (fun k hk _ _ _ _ _ => (ev_call F_mixed r1 (evs_cons (ev_v 2 rfl) (evs_cons (ev_bin ev_int (ev_bin ev_int (ev_v 4 rfl) (by walk_at "bd")) (by walk_at "bd")) evs_nil)) (c % 1000000007, 71 + 2 * ((k : Nat) : Int)) rfl rfl ⟨by show 0 ≤ 71 + 2 * ((k : Nat) : Int); omega, by have := List.mem_range.mp hk; show 71 + 2 * ((k : Nat) : Int) ≤ 1000; omega⟩ rfl)) (sl_small (by rw [List.length_range]; omega))) hQ ⟨(List.range many).map fun k => mixI (c % 1000000007) (71 + 2 * (k : Nat)), by rw [List.map_map]; rfl, by rw [List.length_map, List.length_range]⟩
  · refine go_new (i := 3) evs_nil (fun p3 => ?_) sc_law_drawn.nd rfl (.inl rfl)
    refine go_set (i := 2) (ev_bin (ev_bin (ev_v 0 rfl) ev_int (by walk_at "bd")) (ev_bin ev_int ev_int (by walk_at "bd")) (by walk_at "bd")) ?_ sc_law_drawn.nd rfl (.inr rfl)
    refine go_for PassesOwn.never rfl (pit_range (n := many) (ev_v 1 rfl) (by omega) rfl T.b_range) (fun j G O => ∃ (xs : List Int) (n : Int) (x4 : Option Dt), xs.length = j ∧ G = [some (.int c), some (natD many), some (.int n), some (.raw (.ref p3)), x4] ∧ O = [(p3, .lst (xs.map .int))]) ⟨[], _, none, rfl, rfl, rfl⟩ (fun B1 u j d G1 O1 hd W => ?_) (fun G1 O1 W => ?_)
    · obtain ⟨xs, n, x4, xl, rfl, rfl⟩ := W
      obtain ⟨hj, rfl⟩ := rng_get hd
      refine ⟨_, (tgt_name (i := 4) sc_law_drawn.nd rfl (.inl rfl)), ?_⟩
      refine go_app (j := 0) (ev_v 3 rfl) rfl (ev_bin (ev_v 2 rfl) ev_int (by walk_at "bd")) (Nat.lt_of_lt_of_le (m := 101) (by rw [List.length_map]; omega) (sl_small (by decide))) ?_
      refine go_set (i := 2) (ev_bin (ev_v 2 rfl) ev_int (by walk_at "bd")) ?_ sc_law_drawn.nd rfl (.inr rfl)
      exact go_nilW ⟨xs ++ [_], _, _, by rw [List.length_append, xl]; rfl, rfl, by rw [List.map_append]; rfl⟩ rfl
    · obtain ⟨xs, n, x4, xl, rfl, rfl⟩ := W
      have e : (rng many).length = many := by simp [rng]
      rw [e] at xl
      refine go_frz (j := 0) (G' := [none, none, none, some (.lst (xs.map .int)), none]) rfl rfl (fun i d hi => ?_) ?_
      · match i with
        | 0 => cases hi
        | 1 => cases hi
        | 2 => cases hi
        | 3 => cases hi; exact .inr ⟨rfl, rfl⟩
        | 4 => cases hi
        | n + 5 => cases hi
      exact go_ret (ev_v 3 rfl) hQ ⟨xs, rfl, xl⟩
end
end Dh
end SDhLaw2

section SDhRole
set_option Elab.async false
set_option linter.all false
set_option maxRecDepth 100000
set_option maxHeartbeats 4000000
local macro_rules | `(tactic| walk_at "bd") => `(tactic| first
  | exact Dh.b_in | exact Dh.b_notin | exact Dh.b_eqS | exact Dh.b_neS | exact Dh.b_isN | exact Dh.b_notN | exact Dh.b_add | exact Dh.b_sub | exact Dh.b_lt | exact Dh.b_le | exact Dh.b_gt | exact Dh.b_ge | exact Dh.b_eqI | exact Dh.b_neI | exact Dh.b_eqB | exact Dh.b_neB)
local macro_rules | `(tactic| walk_at "xd") => `(tactic| first | exact Dh.ix_t rfl | exact Dh.ix_l rfl)
namespace Dh
open PySem PySem.Spec PyProof.Rows L2
section
variable {P : Program} {w : World} {K : PySem.W.Frag} {mg : Str → Option Value} {base : Heap} {f : Addr} {fd : FuncData} {A : Ad}
structure RoleOk (l : List Nat) (a b : Nat) : Prop where
  nd : l.Nodup
  pr : ∀ c ∈ l, Prn c
  lo : a ≤ l.length
  hi : l.length ≤ b
  b3 : b ≤ 3
abbrev spRole (K : PySem.W.Frag) : Sp := spT K (T := List Nat × Nat × Nat) (fun i => [.str (S i.1), natD i.2.1, natD i.2.2]) (fun i => RoleOk i.1 i.2.1 i.2.2) (fun _ d => d = .non)
theorem ok_check_role (F : FnP K "check_role" "check_role" s_check_role f fd) (T : Tx K mg A) : FnOk P w K mg base CX0 1 f fd ["thing", "least", "most"] (spRole K) := by
  refine fn_ok F sc_check_role (fun _ => rfl) fun ⟨l, a, b⟩ cdv A' outer sh H0 E B0 D' hr hp hn hQ => ?_
  obtain ⟨nd, pr, lo, hi, b3⟩ := hp
  have nd : l.Nodup := nd
  have pr : ∀ c ∈ l, Prn c := pr
  have lo : a ≤ l.length := lo
  have hi : l.length ≤ b := hi
  have b3 : b ≤ 3 := b3
  have lz : (S l).length ≤ sizeLine := by rw [S_len]; exact sl_small (by omega)
  have le : Dt.int (((S l).length : Nat) : Int) = natD l.length := by rw [S_len]
  have ml : (memb (S l).cps.toList).length = l.length := by rw [S_cps]; exact memb_nodup nd
  have hu := hr.units
  refine go_ifN (b := (!true) || ((!(true && true)) || false)) (EW.pt (ew_or (et_not (t := true) (et_val (ev_isi (T := "str") (t := true) (ev_v 0 rfl) rfl (by decide +kernel) rfl T.b_isinstance rfl T.b_str boot_str))) fun h => (ew_or (et_not (t := true && true) (ET.to (et_chain (ev_v 1 rfl) (EV.to (ev_callB (c_lenS lz) rfl T.b_len boot_len (evs_cons (ev_v 0 rfl) evs_nil)) le) (ev_v 2 rfl) b_le b_le) (by rw [decide_eq_true (show ((a : Nat) : Int) ≤ (l.length : Nat) by omega), decide_eq_true (show ((l.length : Nat) : Int) ≤ (b : Nat) by omega)]))) fun h => (ew_or1 (ET.to (et_cmp (d1 := natD l.length) (EV.to (ev_lenSet rfl rfl T.b_len rfl T.b_set (ev_v 0 rfl) (by rw [S_len]; omega)) (by rw [ml])) (EV.to (ev_callB (c_lenS lz) rfl T.b_len boot_len (evs_cons (ev_v 0 rfl) evs_nil)) le) b_lt (nomark _)) (decide_eq_false (by omega))))))) rfl ?_
  refine go_for PassesOwn.never rfl (pit_str (z := S l) (ev_v 0 rfl)) (fun j G O => ∃ x3, G = [some (.str (S l)), some (natD a), some (natD b), x3] ∧ O = []) ⟨none, rfl, rfl⟩ (fun B1 u j d G1 O1 hd W => ?_) (fun G1 O1 W => ?_)
  · obtain ⟨x3, rfl, rfl⟩ := W
    obtain ⟨c, hc, rfl⟩ := signs_get hd
    rw [S_cps] at hc
    have hpr := prn_print (pr c (List.mem_of_getElem? hc))
    refine ⟨_, (tgt_name (i := 3) sc_check_role.nd rfl (.inl rfl)), ?_⟩
    refine go_ifN (et_cmp (ev_v 3 rfl) (ev_gl T.cPRINTABLE rfl) (by walk_at "bd") rfl) (by
      show (!decide (c ∈ (S printL).cps.toList)) = false
      rw [S_cps, decide_eq_true hpr]; rfl) ?_
    exact go_nilW ⟨_, rfl, rfl⟩ rfl
  · obtain ⟨x3, rfl, rfl⟩ := W
    exact go_nil fun s H ⟨B, a⟩ => hn B H a.gr rfl s
end
end Dh
end SDhRole

section SDhMake
set_option Elab.async false
set_option linter.all false
set_option maxRecDepth 100000
set_option maxHeartbeats 4000000
local macro_rules | `(tactic| walk_at "bd") => `(tactic| first
  | exact Dh.b_in | exact Dh.b_notin | exact Dh.b_eqS | exact Dh.b_neS | exact Dh.b_isN | exact Dh.b_notN | exact Dh.b_add | exact Dh.b_sub | exact Dh.b_lt | exact Dh.b_le | exact Dh.b_gt | exact Dh.b_ge | exact Dh.b_eqI | exact Dh.b_neI | exact Dh.b_eqB | exact Dh.b_neB)
local macro_rules | `(tactic| walk_at "xd") => `(tactic| first | exact Dh.ix_t rfl | exact Dh.ix_l rfl)
namespace Dh
open PySem PySem.Spec PyProof.Rows L2
theorem fn_okD {P : Program} {w : World} {K : PySem.W.Frag} {mg : Str → Option Value} {base : Heap} {x qual : Str} {st : Stmt} {f : Addr} {fd : FuncData} {N ps : List Str} {k : Nat} {sp : Sp} {dvs : List V} {kws : List (Str × V)} (F : FunD K x qual (defArgs st) (defBody st) (defScope st) dvs kws f fd) (S : FnScope N ps (defScope st)) (hl : ∀ vs H Q E, sp vs H Q E → vs.length = ps.length)
    (body : ∀ (cdv : Value) (A : Around) (outer : List Env) (s : Shared) (H : Hp) (vs : List V) (Q : VK) (E : XK), Room k (A.deeper (envOfC qual (defScope st) s.heap.objs.size f cdv)) → sp vs H Q E →
      RunS (cxOf CX0 P w K mg base N qual (defScope st) f cdv A outer s H E).nox (defBody st) { nx := fun _ H' => Q .non H', rt := Q } (L2.start N vs) H) : FnOk P w K mg base CX0 (k + 1) f fd ps sp := by
  refine F.ok S hl fun cdv A outer s H vs Q E hr h => ?_
  exact ⟨fun D σ H' => D = { nx := fun _ H' => Q .non H', rt := Q } ∧ RunS (cxOf CX0 P w K mg base N qual (defScope st) f cdv A outer s H E).nox (defBody st) D σ H', PSs.nox ⟨fun pins sh σ H D I h => h.2.run pins sh I⟩, rfl, body cdv A outer s H vs Q E hr h⟩
section
variable {P : Program} {w : World} {K : PySem.W.Frag} {mg : Str → Option Value} {base : Heap} {f : Addr} {fd : FuncData} {A : Ad}
abbrev spDia (K : PySem.W.Frag) (A : Ad) : Sp := spMk K A.dia dnames (T := Dia) dvals Ok dvals
theorem ok_Dialect_init {dvs : List V} {kws : List (Str × V)} (F : FunD K "__init__" "Dialect.__init__" (defArgs s_Dialect_init) (defBody s_Dialect_init) (defScope s_Dialect_init) dvs kws f fd) (T : Tx K mg A) (F_role : Cal P w K mg base 1 "check_role" ["thing", "least", "most"] (spRole K)) :
    FnOk P w K mg base CX0 2 f fd ["self", "parts", "quotes", "frees", "twin", "wide", "thin", "stray"] (spDia K A) := by
  refine fn_okD F sc_Dialect_init (sp_mk_len fun _ => rfl) fun cdv A' outer sh H vs Q E hr h => ?_
  obtain ⟨D, B, p, dx, ws, rfl, hp, bp, ok, sb, r, k⟩ := h
  have r1 : Room 1 _ := hr
  have start := At.start (ob := .ins A.dia dx [] []) sb bp ⟨[], hp, rfl⟩ (sl_start (ds := .raw (.ref p) :: dvals D) (N := ["self", "parts", "quotes", "frees", "twin", "wide", "thin", "stray", "flag"]) ⟨.ref p, ws, rfl, rfl, r⟩ (by show 8 ≤ 9; decide))
  refine (?_ : Go _ B (lessP H p) [some (.raw (.ref p)), some (.str (S D.parts)), some (.str (S D.quotes)), some (.str (S D.frees)), some (.bl D.twin), some (.bl D.wide), some (.bl D.thin), some (.bl D.stray), none] [(p, .ins A.dia dx [] [])] (defBody s_Dialect_init) _) _ _ ⟨B, start⟩
  refine go_exprR (EV.r (ev_call F_role r1 (evs_cons (ev_v 1 rfl) (evs_cons (EV.to ev_int (show Dt.int 1 = natD 1 from rfl)) (evs_cons (EV.to (ev_gl T.cMOST_PARTS rfl) (show Dt.int 3 = natD 3 from rfl)) evs_nil))) (D.parts, 1, 3) rfl rfl ⟨ok.pn, ok.pp, ok.p1, ok.p3, Nat.le_refl _⟩ rfl)) ?_
  refine go_exprR (EV.r (ev_call F_role r1 (evs_cons (ev_v 2 rfl) (evs_cons (EV.to ev_int (show Dt.int 0 = natD 0 from rfl)) (evs_cons (EV.to (ev_gl T.cMOST_QUOTES rfl) (show Dt.int 2 = natD 2 from rfl)) evs_nil))) (D.quotes, 0, 2) rfl rfl ⟨ok.qn, ok.qp, Nat.zero_le _, ok.q2, (by show 2 ≤ 3; decide)⟩ rfl)) ?_
  refine go_exprR (EV.r (ev_call F_role r1 (evs_cons (ev_v 3 rfl) (evs_cons (EV.to ev_int (show Dt.int 0 = natD 0 from rfl)) (evs_cons (EV.to (ev_gl T.cMOST_FREES rfl) (show Dt.int 2 = natD 2 from rfl)) evs_nil))) (D.frees, 0, 2) rfl rfl ⟨ok.fn, ok.fp, Nat.zero_le _, ok.f2, (by show 2 ≤ 3; decide)⟩ rfl)) ?_
  refine go_for PassesOwn.never rfl (pit_list (ev_lst (evs_cons (ev_v 4 rfl) (evs_cons (ev_v 5 rfl) (evs_cons (ev_v 6 rfl) (evs_cons (ev_v 7 rfl) evs_nil)))))) (fun j G O => ∃ x8, G = [some (.raw (.ref p)), some (.str (S D.parts)), some (.str (S D.quotes)), some (.str (S D.frees)), some (.bl D.twin), some (.bl D.wide), some (.bl D.thin), some (.bl D.stray), x8] ∧ O = [(p, .ins A.dia dx [] [])]) ⟨none, rfl, rfl⟩ (fun B1 u j d G1 O1 hd W => ?_) (fun G1 O1 W => ?_)
  · obtain ⟨x8, rfl, rfl⟩ := W
    obtain ⟨b, rfl⟩ : ∃ b, d = .bl b := by
      match j with
      | 0 => cases hd; exact ⟨_, rfl⟩
      | 1 => cases hd; exact ⟨_, rfl⟩
      | 2 => cases hd; exact ⟨_, rfl⟩
      | 3 => cases hd; exact ⟨_, rfl⟩
      | n + 4 => cases hd
    refine ⟨_, (tgt_name (i := 8) sc_Dialect_init.nd rfl (.inl rfl)), ?_⟩
    refine go_ifN (et_not (t := true) (et_val (ev_isi (T := "bool") (t := true) (ev_v 8 rfl) rfl (by decide +kernel) rfl T.b_isinstance rfl T.b_bool boot_bool))) rfl ?_
    exact go_nilW ⟨_, rfl, rfl⟩ rfl
  · obtain ⟨x8, rfl, rfl⟩ := W
    refine go_newFld (j := 0) (ev_v 1 rfl) (ev_v 0 rfl) rfl T.k_dia T.d_parts ?_
    refine go_newFld (j := 0) (ev_v 2 rfl) (ev_v 0 rfl) rfl T.k_dia T.d_quotes ?_
    refine go_newFld (j := 0) (ev_v 3 rfl) (ev_v 0 rfl) rfl T.k_dia T.d_frees ?_
    refine go_newFld (j := 0) (ev_v 4 rfl) (ev_v 0 rfl) rfl T.k_dia T.d_twin ?_
    refine go_newFld (j := 0) (ev_v 5 rfl) (ev_v 0 rfl) rfl T.k_dia T.d_wide ?_
    refine go_newFld (j := 0) (ev_v 6 rfl) (ev_v 0 rfl) rfl T.k_dia T.d_thin ?_
    refine go_newFld (j := 0) (ev_v 7 rfl) (ev_v 0 rfl) rfl T.k_dia T.d_stray ?_
    refine go_nil fun s H' ⟨B', a⟩ => ?_
    have w := At.wr a bp (List.mem_singleton.mpr rfl)
    obtain ⟨xs, hx, rx⟩ := w.at_
    exact k xs B' H' w.b w.k w.s w.h hx rx
abbrev spDof (K : PySem.W.Frag) (A : Ad) : Sp := spT K (T := Dia) (fun D => [encT7 D]) Ok (fun D d => d = encD A D)
theorem ok_dialect_of (F : FnP K "dialect_of" "dialect_of" s_dialect_of f fd) (T : Tx K mg A) (F_D : CalC P w K mg base 2 "Dialect" A.dia ["self", "parts", "quotes", "frees", "twin", "wide", "thin", "stray"] (spDia K A)) : FnOk P w K mg base CX0 4 f fd ["told"] (spDof K A) := by
  refine fn_ok F sc_dialect_of (fun _ => rfl) fun D cdv A' outer sh H0 E B0 D' hr hp hn hQ => ?_
  have r3 : Room (2 + 1) _ := hr
  refine go_ifN (b := (!true) || false) (EW.pt (ew_or (et_not (t := true) (et_val (ev_isi (d := encT7 D) (T := "tuple") (t := true) (ev_v 0 rfl) rfl (by decide +kernel) rfl T.b_isinstance rfl T.b_tuple boot_tuple))) fun h => (ew_or1 (ET.to (et_cmp (ev_callB (c_lenT (l := [.str (S D.parts), .str (S D.quotes), .str (S D.frees), .bl D.twin, .bl D.wide, .bl D.thin, .bl D.stray])) rfl T.b_len boot_len (evs_cons (ev_v 0 rfl) evs_nil)) ev_int (by walk_at "bd") (nomark _)) (by rfl))))) rfl ?_
  exact go_ret (ev_make (vs := dvals D) F_D r3 (evs_cons (ev_ix (ev_v 0 rfl) ev_int (by walk_at "xd") (fun _ _ => rfl)) (evs_cons (ev_ix (ev_v 0 rfl) ev_int (by walk_at "xd") (fun _ _ => rfl)) (evs_cons (ev_ix (ev_v 0 rfl) ev_int (by walk_at "xd") (fun _ _ => rfl)) (evs_cons (ev_ix (ev_v 0 rfl) ev_int (by walk_at "xd") (fun _ _ => rfl)) (evs_cons (ev_ix (ev_v 0 rfl) ev_int (by walk_at "xd") (fun _ _ => rfl)) (evs_cons (ev_ix (ev_v 0 rfl) ev_int (by walk_at "xd") (fun _ _ => rfl)) (evs_cons (ev_ix (ev_v 0 rfl) ev_int (by walk_at "xd") (fun _ _ => rfl)) evs_nil))))))) D rfl rfl hp rfl) hQ rfl
end
end Dh
end SDhMake

section SDhStep
set_option Elab.async false
set_option linter.all false
set_option maxRecDepth 100000
set_option maxHeartbeats 4000000
local macro_rules | `(tactic| walk_at "bd") => `(tactic| first
  | exact Dh.b_in | exact Dh.b_notin | exact Dh.b_eqS | exact Dh.b_neS | exact Dh.b_isN | exact Dh.b_notN | exact Dh.b_add | exact Dh.b_sub | exact Dh.b_lt | exact Dh.b_le | exact Dh.b_gt | exact Dh.b_ge | exact Dh.b_eqI | exact Dh.b_neI | exact Dh.b_eqB | exact Dh.b_neB)
local macro_rules | `(tactic| walk_at "xd") => `(tactic| first | exact Dh.ix_t rfl | exact Dh.ix_l rfl)
namespace Dh
open PySem PySem.Spec PyProof.Rows L2
section
variable {P : Program} {w : World} {K : PySem.W.Frag} {mg : Str → Option Value} {base : Heap} {f : Addr} {fd : FuncData} {A : Ad}
/-- the step of row, cell and plain, by one list of tests -/
theorem step_open {D : Dia} {s : Sta} {c : Nat} {pl : Bool} (hp : (s = .plain ∧ pl = true) ∨ ((s = .row ∨ s = .cell) ∧ pl = false)) : step D s c =
    if c ∈ D.frees then .go .skip .freed else if c = 10 then .go .fin .row else if pl = false ∧ c ∈ D.quotes then .go .skip (.within c) else if c ∈ D.parts then .go .part .cell
    else if pl = false ∧ D.thin = true ∧ c = 32 then .go .skip s else if c ∈ D.quotes ∧ D.stray = false ∧ pl = true then .fault .quote else .go .put .plain := by
  rcases hp with ⟨rfl, rfl⟩ | ⟨rfl | rfl, rfl⟩
  · show stepPlain D c = _
    unfold stepPlain
    simp
  · show stepFresh D .row c = _
    unfold stepFresh
    simp only [and_comm]
    simp
  · show stepFresh D .cell c = _
    unfold stepFresh
    simp only [and_comm]
    simp
abbrev spOpen (K : PySem.W.Frag) : Sp := spT K (T := Dia × Sta × Nat) (fun i => [encT7 i.1, encS i.2.1, .str (sg i.2.2)]) (fun i => i.2.1 = .plain ∨ i.2.1 = .row ∨ i.2.1 = .cell) (fun i d => d = encR (step i.1 i.2.1 i.2.2))
theorem ok_law_open (F : FnP K "_law_open" "_law_open" s_law_open f fd) (T : Tx K mg A) : FnOk P w K mg base CX0 1 f fd ["_law_told_here", "_law_state", "_law_sign"] (spOpen K) := by
  refine fn_ok F sc_law_open (fun _ => rfl) fun ⟨D, s, c⟩ cdv A' outer sh H0 E B0 D' hr hp hn hQ => ?_
  obtain ⟨pl, hpl, hw⟩ : ∃ pl, ((s = .plain ∧ pl = true) ∨ ((s = .row ∨ s = .cell) ∧ pl = false)) ∧ (wrd s == ("plain" : Str)) = pl := by
    have hp : s = .plain ∨ s = .row ∨ s = .cell := hp
    rcases hp with rfl | rfl | rfl
    · exact ⟨true, .inl ⟨rfl, rfl⟩, by decide +kernel⟩
    · exact ⟨false, .inr ⟨.inl rfl, rfl⟩, by decide +kernel⟩
    · exact ⟨false, .inr ⟨.inr rfl, rfl⟩, by decide +kernel⟩
  have st := step_open (D := D) (c := c) hpl
  have hQ : Rt K B0 H0 (fun d => d = encR (step D s c)) D'.rt := hQ
  rw [st] at hQ
  refine go_asg (ev_v 0 rfl) (tgt_tup rfl (tgts_cons (tgt_name (i := 3) sc_law_open.nd rfl (.inl rfl)) (tgts_cons (tgt_name (i := 4) sc_law_open.nd rfl (.inl rfl)) (tgts_cons (tgt_name (i := 5) sc_law_open.nd rfl (.inl rfl)) (tgts_cons (tgt_name (i := 6) sc_law_open.nd rfl (.inl rfl)) (tgts_cons (tgt_name (i := 7) sc_law_open.nd rfl (.inl rfl)) (tgts_cons (tgt_name (i := 8) sc_law_open.nd rfl (.inl rfl)) (tgts_cons (tgt_name (i := 9) sc_law_open.nd rfl (.inl rfl)) tgts_nil)))))))) ?_
  refine go_if0 (et_cmp (ev_v 2 rfl) (ev_v 5 rfl) (by walk_at "bd") rfl) (fun h => ?_) (fun h1 => ?_)
  · exact go_ret (ev_tup (evs_cons ev_str (evs_cons (ev_tup (evs_cons ev_str (evs_cons ev_str evs_nil))) evs_nil))) hQ (by rw [if_pos (mem_of_dec h)]; rfl)
  rw [if_neg (nmem_of_dec h1)] at hQ
  refine go_if0 (et_cmp (ev_v 2 rfl) ev_str (by walk_at "bd") (nomark _)) (fun h => ?_) (fun h2 => ?_)
  · rw [sg_line] at h
    exact go_ret (ev_tup (evs_cons ev_str (evs_cons (ev_tup (evs_cons ev_str (evs_cons ev_str evs_nil))) evs_nil))) hQ (by rw [if_pos (of_decide_eq_true h)]; rfl)
  rw [sg_line] at h2
  rw [if_neg (of_decide_eq_false h2)] at hQ
  refine go_if0 (EW.pt (ew_and (ET.to (et_cmp (ev_ix (ev_v 1 rfl) ev_int (by walk_at "xd") (fun _ _ => rfl)) ev_str b_neS (nomark _)) (by rw [hw])) fun h => (ew_and1 (et_cmp (ev_v 2 rfl) (ev_v 4 rfl) (by walk_at "bd") rfl)))) (fun h => ?_) (fun h3 => ?_)
  · have h' : pl = false ∧ c ∈ D.quotes := by simpa using h
    exact go_ret (ev_tup (evs_cons ev_str (evs_cons (ev_tup (evs_cons ev_str (evs_cons (ev_v 2 rfl) evs_nil))) evs_nil))) hQ (by rw [if_pos h']; rfl)
  have h3' : ¬ (pl = false ∧ c ∈ D.quotes) := by simpa using h3
  rw [if_neg h3'] at hQ
  refine go_if0 (et_cmp (ev_v 2 rfl) (ev_v 3 rfl) (by walk_at "bd") rfl) (fun h => ?_) (fun h4 => ?_)
  · exact go_ret (ev_tup (evs_cons ev_str (evs_cons (ev_tup (evs_cons ev_str (evs_cons ev_str evs_nil))) evs_nil))) hQ (by rw [if_pos (mem_of_dec h)]; rfl)
  rw [if_neg (nmem_of_dec h4)] at hQ
  refine go_if0 (EW.pt (ew_and (ET.to (et_cmp (ev_ix (ev_v 1 rfl) ev_int (by walk_at "xd") (fun _ _ => rfl)) ev_str b_neS (nomark _)) (by rw [hw])) fun h => (ew_and (et_val (ev_v 8 rfl)) fun h => (ew_and1 (et_cmp (ev_v 2 rfl) ev_str (by walk_at "bd") (nomark _)))))) (fun h => ?_) (fun h5 => ?_)
  · rw [sg_blank] at h
    have h' : pl = false ∧ D.thin = true ∧ c = 32 := by simpa using h
    exact go_ret (ev_tup (evs_cons ev_str (evs_cons (ev_v 1 rfl) evs_nil))) hQ (by rw [if_pos h']; rfl)
  rw [sg_blank] at h5
  have h5' : ¬ (pl = false ∧ D.thin = true ∧ c = 32) := by simpa using h5
  rw [if_neg h5'] at hQ
  refine go_if0 (EW.pt (ew_and (et_cmp (ev_v 2 rfl) (ev_v 4 rfl) (by walk_at "bd") rfl) fun h => (ew_and (et_not (et_val (ev_v 9 rfl))) fun h => (ew_and1 (ET.to (et_cmp (ev_ix (ev_v 1 rfl) ev_int (by walk_at "xd") (fun _ _ => rfl)) ev_str b_eqS (nomark _)) hw))))) (fun h => ?_) (fun h6 => ?_)
  · have h' : c ∈ D.quotes ∧ D.stray = false ∧ pl = true := by simpa using h
    exact go_ret (ev_tup (evs_cons ev_str (evs_cons ev_str evs_nil))) hQ (by rw [if_pos h']; rfl)
  have h6' : ¬ (c ∈ D.quotes ∧ D.stray = false ∧ pl = true) := by simpa using h6
  rw [if_neg h6'] at hQ
  exact go_ret (ev_tup (evs_cons ev_str (evs_cons (ev_tup (evs_cons ev_str (evs_cons ev_str evs_nil))) evs_nil))) hQ rfl
theorem sg_ne (q : Nat) : ((sg q == ("" : Str)) : Bool) = false := by
  refine beq_eq_false_iff_ne.mpr fun z => ?_
  have := congrArg Str.length z
  exact absurd this (by show ¬ (1 = 0); decide)
abbrev spLstep (K : PySem.W.Frag) : Sp := spT K (T := Dia × Sta × Nat) (fun i => [encT7 i.1, encS i.2.1, .str (sg i.2.2)]) (fun _ => True) (fun i d => d = encR (step i.1 i.2.1 i.2.2))
theorem ok_law_step (F : FnP K "_law_step" "_law_step" s_law_step f fd) (T : Tx K mg A) (F_open : Cal P w K mg base 1 "_law_open" ["_law_told_here", "_law_state", "_law_sign"] (spOpen K)) : FnOk P w K mg base CX0 2 f fd ["_law_told_here", "_law_state", "_law_sign"] (spLstep K) := by
  refine fn_ok F sc_law_step (fun _ => rfl) fun ⟨D, s, c⟩ cdv A' outer sh H0 E B0 D' hr hp hn hQ => ?_
  have r1 : Room 1 _ := hr
  have hQ : Rt K B0 H0 (fun d => d = encR (step D s c)) D'.rt := hQ
  refine go_asg (ev_v 0 rfl) (tgt_tup rfl (tgts_cons (tgt_name (i := 3) sc_law_step.nd rfl (.inl rfl)) (tgts_cons (tgt_name (i := 4) sc_law_step.nd rfl (.inl rfl)) (tgts_cons (tgt_name (i := 5) sc_law_step.nd rfl (.inl rfl)) (tgts_cons (tgt_name (i := 6) sc_law_step.nd rfl (.inl rfl)) (tgts_cons (tgt_name (i := 7) sc_law_step.nd rfl (.inl rfl)) (tgts_cons (tgt_name (i := 8) sc_law_step.nd rfl (.inl rfl)) (tgts_cons (tgt_name (i := 9) sc_law_step.nd rfl (.inl rfl)) tgts_nil)))))))) ?_
  refine go_asg (ev_v 1 rfl) (tgt_tup rfl (tgts_cons (tgt_name (i := 10) sc_law_step.nd rfl (.inl rfl)) (tgts_cons (tgt_name (i := 11) sc_law_step.nd rfl (.inl rfl)) tgts_nil))) ?_
  show Go _ B0 H0 [some (encT7 D), some (encS s), some (.str (sg c)), some (.str (S D.parts)), some (.str (S D.quotes)), some (.str (S D.frees)), some (.bl D.twin), some (.bl D.wide), some (.bl D.thin), some (.bl D.stray), some (.str (wrd s)), some (.str (quo s))] [] _ _
  cases s with
  | row =>
    refine go_ifN (ET.to (et_cmp (ev_v 10 rfl) ev_str b_eqS (nomark _)) (wrd_within .row)) rfl ?_
    refine go_ifN (ET.to (et_cmp (ev_v 10 rfl) ev_str b_eqS (nomark _)) (wrd_freed .row)) rfl ?_
    refine go_ifN (b := false && false) (EW.pt (ew_and (t := false) (u := false) (ET.to (et_cmp (ev_v 10 rfl) ev_str b_eqS (nomark _)) (wrd_doubt .row)) fun h => (by cases h))) rfl ?_
    refine go_ifN (b := false || false) (EW.pt (ew_or (t := false) (ET.to (et_cmp (ev_v 10 rfl) ev_str b_eqS (nomark _)) (wrd_doubt .row)) fun h => (ew_or1 (ET.to (et_cmp (ev_v 10 rfl) ev_str b_eqS (nomark _)) (wrd_behind .row))))) rfl ?_
    exact go_ret (ev_call F_open r1 (evs_cons (ev_v 0 rfl) (evs_cons (ev_v 1 rfl) (evs_cons (ev_v 2 rfl) evs_nil))) (D, .row, c) rfl rfl (.inr (.inl rfl)) rfl) hQ rfl
  | cell =>
    refine go_ifN (ET.to (et_cmp (ev_v 10 rfl) ev_str b_eqS (nomark _)) (wrd_within .cell)) rfl ?_
    refine go_ifN (ET.to (et_cmp (ev_v 10 rfl) ev_str b_eqS (nomark _)) (wrd_freed .cell)) rfl ?_
    refine go_ifN (b := false && false) (EW.pt (ew_and (t := false) (u := false) (ET.to (et_cmp (ev_v 10 rfl) ev_str b_eqS (nomark _)) (wrd_doubt .cell)) fun h => (by cases h))) rfl ?_
    refine go_ifN (b := false || false) (EW.pt (ew_or (t := false) (ET.to (et_cmp (ev_v 10 rfl) ev_str b_eqS (nomark _)) (wrd_doubt .cell)) fun h => (ew_or1 (ET.to (et_cmp (ev_v 10 rfl) ev_str b_eqS (nomark _)) (wrd_behind .cell))))) rfl ?_
    exact go_ret (ev_call F_open r1 (evs_cons (ev_v 0 rfl) (evs_cons (ev_v 1 rfl) (evs_cons (ev_v 2 rfl) evs_nil))) (D, .cell, c) rfl rfl (.inr (.inr rfl)) rfl) hQ rfl
  | plain =>
    refine go_ifN (ET.to (et_cmp (ev_v 10 rfl) ev_str b_eqS (nomark _)) (wrd_within .plain)) rfl ?_
    refine go_ifN (ET.to (et_cmp (ev_v 10 rfl) ev_str b_eqS (nomark _)) (wrd_freed .plain)) rfl ?_
    refine go_ifN (b := false && false) (EW.pt (ew_and (t := false) (u := false) (ET.to (et_cmp (ev_v 10 rfl) ev_str b_eqS (nomark _)) (wrd_doubt .plain)) fun h => (by cases h))) rfl ?_
    refine go_ifN (b := false || false) (EW.pt (ew_or (t := false) (ET.to (et_cmp (ev_v 10 rfl) ev_str b_eqS (nomark _)) (wrd_doubt .plain)) fun h => (ew_or1 (ET.to (et_cmp (ev_v 10 rfl) ev_str b_eqS (nomark _)) (wrd_behind .plain))))) rfl ?_
    exact go_ret (ev_call F_open r1 (evs_cons (ev_v 0 rfl) (evs_cons (ev_v 1 rfl) (evs_cons (ev_v 2 rfl) evs_nil))) (D, .plain, c) rfl rfl (.inl rfl) rfl) hQ rfl
  | behind =>
    refine go_ifN (ET.to (et_cmp (ev_v 10 rfl) ev_str b_eqS (nomark _)) (wrd_within .behind)) rfl ?_
    refine go_ifN (ET.to (et_cmp (ev_v 10 rfl) ev_str b_eqS (nomark _)) (wrd_freed .behind)) rfl ?_
    refine go_ifN (b := false && false) (EW.pt (ew_and (t := false) (u := false) (ET.to (et_cmp (ev_v 10 rfl) ev_str b_eqS (nomark _)) (wrd_doubt .behind)) fun h => (by cases h))) rfl ?_
    refine go_ifT (b := false || true) (EW.pt (ew_or (t := false) (ET.to (et_cmp (ev_v 10 rfl) ev_str b_eqS (nomark _)) (wrd_doubt .behind)) fun h => (ew_or1 (ET.to (et_cmp (ev_v 10 rfl) ev_str b_eqS (nomark _)) (wrd_behind .behind))))) rfl ?_
    rw [show step D .behind c = stepBehind D c from rfl] at hQ
    refine go_if0 (et_cmp (ev_v 2 rfl) ev_str b_eqS (nomark _)) (fun h => ?_) (fun h1 => ?_)
    · rw [sg_line] at h
      exact go_ret (ev_tup (evs_cons ev_str (evs_cons (ev_tup (evs_cons ev_str (evs_cons ev_str evs_nil))) evs_nil))) hQ (by rw [stepBehind, if_pos (of_decide_eq_true h)]; rfl)
    rw [sg_line] at h1
    refine go_if0 (et_cmp (ev_v 2 rfl) (ev_v 3 rfl) b_in rfl) (fun h => ?_) (fun h2 => ?_)
    · exact go_ret (ev_tup (evs_cons ev_str (evs_cons (ev_tup (evs_cons ev_str (evs_cons ev_str evs_nil))) evs_nil))) hQ (by rw [stepBehind, if_neg (of_decide_eq_false h1), if_pos (mem_of_dec h)]; rfl)
    refine go_if0 (EW.pt (ew_and (et_val (ev_v 8 rfl)) fun h => (ew_and1 (et_cmp (ev_v 2 rfl) ev_str b_eqS (nomark _))))) (fun h => ?_) (fun h3 => ?_)
    · rw [sg_blank] at h
      have h' : D.thin = true ∧ c = 32 := by simpa using h
      exact go_ret (ev_tup (evs_cons ev_str (evs_cons (ev_tup (evs_cons ev_str (evs_cons ev_str evs_nil))) evs_nil))) hQ (by rw [stepBehind, if_neg (of_decide_eq_false h1), if_neg (nmem_of_dec h2), if_pos h'.symm]; rfl)
    rw [sg_blank] at h3
    have h3' : ¬ (D.thin = true ∧ c = 32) := by simpa using h3
    exact go_ret (ev_tup (evs_cons ev_str (evs_cons ev_str evs_nil))) hQ (by rw [stepBehind, if_neg (of_decide_eq_false h1), if_neg (nmem_of_dec h2), if_neg fun z => h3' z.symm]; rfl)
  | freed =>
    refine go_ifN (ET.to (et_cmp (ev_v 10 rfl) ev_str b_eqS (nomark _)) (wrd_within .freed)) rfl ?_
    refine go_ifT (ET.to (et_cmp (ev_v 10 rfl) ev_str b_eqS (nomark _)) (wrd_freed .freed)) rfl ?_
    refine go_if0 (EW.pt (ew_and (et_cmp (ev_v 2 rfl) ev_str b_eqS (nomark _)) fun h => (ew_and1 (et_not (et_val (ev_v 7 rfl)))))) (fun h => ?_) (fun h1 => ?_)
    · rw [sg_line] at h
      have h' : c = 10 ∧ D.wide = false := by simpa using h
      exact go_ret (ev_tup (evs_cons ev_str (evs_cons ev_str evs_nil))) hQ (by rw [step, if_pos h']; rfl)
    rw [sg_line] at h1
    have h1' : ¬ (c = 10 ∧ D.wide = false) := by simpa using h1
    exact go_ret (ev_tup (evs_cons ev_str (evs_cons (ev_ix (ev_lst (evs_cons (ev_tup (evs_cons ev_str (evs_cons (ev_v 11 rfl) evs_nil))) (evs_cons (ev_tup (evs_cons ev_str (evs_cons ev_str evs_nil))) evs_nil))) (ev_callTy c_intB rfl T.b_int boot_int (evs_cons (EV.to (ev_cmp (ev_v 11 rfl) ev_str b_eqS (nomark _)) (show _ = Dt.bl true from congrArg Dt.bl (quo_nil .freed))) evs_nil)) (by walk_at "xd") (fun _ _ => rfl)) evs_nil))) hQ (by rw [step, if_neg h1']; rfl)
  | within q =>
    refine go_ifT (ET.to (et_cmp (ev_v 10 rfl) ev_str b_eqS (nomark _)) (wrd_within (.within q))) rfl ?_
    refine go_if0 (et_cmp (ev_v 2 rfl) (ev_v 5 rfl) b_in rfl) (fun h => ?_) (fun h1 => ?_)
    · exact go_ret (ev_tup (evs_cons ev_str (evs_cons (ev_tup (evs_cons ev_str (evs_cons (ev_v 11 rfl) evs_nil))) evs_nil))) hQ (by rw [step, if_pos (mem_of_dec h)]; rfl)
    have h1 := nmem_of_dec h1
    refine go_if0 (et_cmp (ev_v 2 rfl) (ev_v 11 rfl) b_eqS (nomark _)) (fun h => ?_) (fun h2 => ?_)
    · have h : c = q := of_decide_eq_true ((sg_sg c q).symm.trans h)
      refine go_ret (ev_tup (evs_cons ev_str (evs_cons (ev_ix (d := if D.twin = true then encS (.doubt q) else encS .behind) (ev_lst (evs_cons (ev_tup (evs_cons ev_str (evs_cons ev_str evs_nil))) (evs_cons (ev_tup (evs_cons ev_str (evs_cons (ev_v 11 rfl) evs_nil))) evs_nil))) (ev_callTy c_intB rfl T.b_int boot_int (evs_cons (ev_v 6 rfl) evs_nil)) (ix_l ?_) (fun _ _ => rfl)) evs_nil))) hQ ?_
      · cases D.twin <;> rfl
      · rw [step, if_neg h1, if_pos h]
        cases D.twin <;> rfl
    have h2 : ¬ c = q := of_decide_eq_false ((sg_sg c q).symm.trans h2)
    refine go_if0 (EW.pt (ew_and (et_cmp (ev_v 2 rfl) ev_str b_eqS (nomark _)) fun h => (ew_and1 (et_not (et_val (ev_v 7 rfl)))))) (fun h => ?_) (fun h3 => ?_)
    · rw [sg_line] at h
      have h' : c = 10 ∧ D.wide = false := by simpa using h
      exact go_ret (ev_tup (evs_cons ev_str (evs_cons ev_str evs_nil))) hQ (by rw [step, if_neg h1, if_neg h2, if_pos h']; rfl)
    rw [sg_line] at h3
    have h3' : ¬ (c = 10 ∧ D.wide = false) := by simpa using h3
    exact go_ret (ev_tup (evs_cons ev_str (evs_cons (ev_v 1 rfl) evs_nil))) hQ (by rw [step, if_neg h1, if_neg h2, if_neg h3']; rfl)
  | doubt q =>
    refine go_ifN (ET.to (et_cmp (ev_v 10 rfl) ev_str b_eqS (nomark _)) (wrd_within (.doubt q))) rfl ?_
    refine go_ifN (ET.to (et_cmp (ev_v 10 rfl) ev_str b_eqS (nomark _)) (wrd_freed (.doubt q))) rfl ?_
    refine go_if0 (EW.pt (ew_and (t := true) (ET.to (et_cmp (ev_v 10 rfl) ev_str b_eqS (nomark _)) (wrd_doubt (.doubt q))) fun h => (ew_and1 (et_cmp (ev_v 2 rfl) (ev_v 11 rfl) b_eqS (nomark _))))) (fun h => ?_) (fun h0 => ?_)
    · have h : c = q := of_decide_eq_true ((sg_sg c q).symm.trans (show (sg c == sg q) = true from h))
      exact go_ret (ev_tup (evs_cons ev_str (evs_cons (ev_tup (evs_cons ev_str (evs_cons (ev_v 11 rfl) evs_nil))) evs_nil))) hQ (by rw [step, if_pos h]; rfl)
    have h0 : ¬ c = q := of_decide_eq_false ((sg_sg c q).symm.trans (show (sg c == sg q) = false from h0))
    rw [show step D (.doubt q) c = stepBehind D c by rw [step, if_neg h0]] at hQ
    refine go_ifT (b := true || false) (EW.pt (ew_or (t := true) (u := false) (ET.to (et_cmp (ev_v 10 rfl) ev_str b_eqS (nomark _)) (wrd_doubt (.doubt q))) fun h => (by cases h))) rfl ?_
    refine go_if0 (et_cmp (ev_v 2 rfl) ev_str b_eqS (nomark _)) (fun h => ?_) (fun h1 => ?_)
    · rw [sg_line] at h
      exact go_ret (ev_tup (evs_cons ev_str (evs_cons (ev_tup (evs_cons ev_str (evs_cons ev_str evs_nil))) evs_nil))) hQ (by rw [stepBehind, if_pos (of_decide_eq_true h)]; rfl)
    rw [sg_line] at h1
    refine go_if0 (et_cmp (ev_v 2 rfl) (ev_v 3 rfl) b_in rfl) (fun h => ?_) (fun h2 => ?_)
    · exact go_ret (ev_tup (evs_cons ev_str (evs_cons (ev_tup (evs_cons ev_str (evs_cons ev_str evs_nil))) evs_nil))) hQ (by rw [stepBehind, if_neg (of_decide_eq_false h1), if_pos (mem_of_dec h)]; rfl)
    refine go_if0 (EW.pt (ew_and (et_val (ev_v 8 rfl)) fun h => (ew_and1 (et_cmp (ev_v 2 rfl) ev_str b_eqS (nomark _))))) (fun h => ?_) (fun h3 => ?_)
    · rw [sg_blank] at h
      have h' : D.thin = true ∧ c = 32 := by simpa using h
      exact go_ret (ev_tup (evs_cons ev_str (evs_cons (ev_tup (evs_cons ev_str (evs_cons ev_str evs_nil))) evs_nil))) hQ (by rw [stepBehind, if_neg (of_decide_eq_false h1), if_neg (nmem_of_dec h2), if_pos h'.symm]; rfl)
    rw [sg_blank] at h3
    have h3' : ¬ (D.thin = true ∧ c = 32) := by simpa using h3
    exact go_ret (ev_tup (evs_cons ev_str (evs_cons ev_str evs_nil))) hQ (by rw [stepBehind, if_neg (of_decide_eq_false h1), if_neg (nmem_of_dec h2), if_neg fun z => h3' z.symm]; rfl)
  | freedq q =>
    refine go_ifN (ET.to (et_cmp (ev_v 10 rfl) ev_str b_eqS (nomark _)) (wrd_within (.freedq q))) rfl ?_
    refine go_ifT (ET.to (et_cmp (ev_v 10 rfl) ev_str b_eqS (nomark _)) (wrd_freed (.freedq q))) rfl ?_
    refine go_if0 (EW.pt (ew_and (et_cmp (ev_v 2 rfl) ev_str b_eqS (nomark _)) fun h => (ew_and1 (et_not (et_val (ev_v 7 rfl)))))) (fun h => ?_) (fun h1 => ?_)
    · rw [sg_line] at h
      have h' : c = 10 ∧ D.wide = false := by simpa using h
      exact go_ret (ev_tup (evs_cons ev_str (evs_cons ev_str evs_nil))) hQ (by rw [step, if_pos h']; rfl)
    rw [sg_line] at h1
    have h1' : ¬ (c = 10 ∧ D.wide = false) := by simpa using h1
    exact go_ret (ev_tup (evs_cons ev_str (evs_cons (ev_ix (ev_lst (evs_cons (ev_tup (evs_cons ev_str (evs_cons (ev_v 11 rfl) evs_nil))) (evs_cons (ev_tup (evs_cons ev_str (evs_cons ev_str evs_nil))) evs_nil))) (ev_callTy c_intB rfl T.b_int boot_int (evs_cons (EV.to (ev_cmp (ev_v 11 rfl) ev_str b_eqS (nomark _)) (show _ = Dt.bl false from congrArg Dt.bl (sg_ne q))) evs_nil)) (by walk_at "xd") (fun _ _ => rfl)) evs_nil))) hQ (by rw [step, if_neg h1']; rfl)
end
end Dh
end SDhStep

section SDhWalk2
set_option Elab.async false
set_option linter.all false
set_option maxRecDepth 100000
set_option maxHeartbeats 4000000
local macro_rules | `(tactic| walk_at "bd") => `(tactic| first
  | exact Dh.b_in | exact Dh.b_notin | exact Dh.b_eqS | exact Dh.b_neS | exact Dh.b_isN | exact Dh.b_notN | exact Dh.b_add | exact Dh.b_sub | exact Dh.b_lt | exact Dh.b_le | exact Dh.b_gt | exact Dh.b_ge | exact Dh.b_eqI | exact Dh.b_neI | exact Dh.b_eqB | exact Dh.b_neB)
local macro_rules | `(tactic| walk_at "xd") => `(tactic| first | exact Dh.ix_t rfl | exact Dh.ix_l rfl)
namespace Dh
open PySem PySem.Spec PyProof.Rows L2
def wdOf (r : List Kd × Sta × Option Wd) : Str := match r.2.2 with
  | some w => wds w
  | none => if r.2.1 = .row then "" else "cut"
theorem wds_nil (w : Wd) : ((wds w == ("" : Str)) : Bool) = false := by cases w <;> (simp only [wds]; decide +kernel)
theorem wdOf_ok (r : List Kd × Sta × Option Wd) : ((wdOf r == ("" : Str)) : Bool) = okW r := by
  obtain ⟨ks, s, w⟩ := r
  cases w with
  | some w => exact wds_nil w
  | none =>
    show ((if s = .row then ("" : Str) else "cut") == ("" : Str)) = (true && decide (s = .row))
    by_cases h : s = .row
    · rw [if_pos h, decide_eq_true h]; decide +kernel
    · rw [if_neg h, decide_eq_false h]; decide +kernel
abbrev encWl (r : List Kd × Sta × Option Wd) : Dt := .tup [.lst (encKs r.1), .str (wdOf r)]
section
variable {P : Program} {w : World} {K : PySem.W.Frag} {mg : Str → Option Value} {base : Heap} {f : Addr} {fd : FuncData} {A : Ad}
abbrev spLwalked (K : PySem.W.Frag) : Sp := spT K (T := Dia × List Nat) (fun i => [encT7 i.1, .str (S i.2)]) (fun i => Ok i.1 ∧ TxSg i.2) (fun i d => d = encWl (wlk i.1 .row i.2))
theorem ok_law_walked (F : FnP K "_law_walked" "_law_walked" s_law_walked f fd) (T : Tx K mg A) (F_step : Cal P w K mg base 2 "_law_step" ["_law_told_here", "_law_state", "_law_sign"] (spLstep K)) : FnOk P w K mg base CX0 3 f fd ["_law_told_here", "_law_text"] (spLwalked K) := by
  refine fn_ok F sc_law_walked (fun _ => rfl) fun ⟨D, t⟩ cdv A' outer sh H0 E B0 D' hr hp hn hQ => ?_
  obtain ⟨ok, hp⟩ := hp
  have ok : Ok D := ok
  have hp : TxSg t := hp
  have hQ : Rt K B0 H0 (fun d => d = encWl (wlk D .row t)) D'.rt := hQ
  have r2 : Room 2 _ := hr
  have wl := wlk_len (D := D) t .row
  have gdw := gd_ok ok (wlk_good (D := D) t .row trivial)
  have hp2 := hp.2
  have lz : (S t).length ≤ sizeLine := by rw [S_len]; exact sl_small (by omega)
  have le : Dt.int (((S t).length : Nat) : Int) = natD t.length := by rw [S_len]
  refine go_set (i := 2) (EV.to (ev_tup (evs_cons ev_str (evs_cons ev_str evs_nil))) (show _ = encS .row from rfl)) ?_ sc_law_walked.nd rfl (.inl rfl)
  refine go_new (i := 3) evs_nil (fun p3 => ?_) sc_law_walked.nd rfl (.inl rfl)
  refine go_for PassesOwn.never rfl (pit_range (n := t.length) (EV.to (ev_callB (c_lenS lz) rfl T.b_len boot_len (evs_cons (ev_v 1 rfl) evs_nil)) le) (by omega) rfl T.b_range) (fun j G O => ∃ sj x4 x5 x6, j ≤ (wlk D .row t).1.length ∧ wlk D sj (t.drop j) = ((wlk D .row t).1.drop j, (wlk D .row t).2.1, (wlk D .row t).2.2) ∧
      G = [some (encT7 D), some (.str (S t)), some (encS sj), some (.raw (.ref p3)), x4, x5, x6] ∧ O = [(p3, .lst (encKs ((wlk D .row t).1.take j)))])
    ⟨.row, none, none, none, Nat.zero_le _, rfl, rfl, rfl⟩ (fun B1 u j d G1 O1 hd W => ?_) (fun G1 O1 W => ?_)
  · obtain ⟨sj, x4, x5, x6, jl, e, rfl, rfl⟩ := W
    obtain ⟨hj, rfl⟩ := rng_get hd
    have hc : t[j]? = some t[j] := List.getElem?_eq_getElem hj
    generalize t[j] = c at hc
    have ed : t.drop j = c :: t.drop (j + 1) := by
      rw [List.drop_eq_getElem_cons (List.getElem?_eq_some_iff.mp hc).1, (List.getElem?_eq_some_iff.mp hc).2]
    rw [ed] at e
    refine ⟨_, (tgt_name (i := 4) sc_law_walked.nd rfl (.inl rfl)), ?_⟩
    cases es : step D sj c with
    | fault wd =>
      rw [wlk_fault es] at e
      have e1 : (wlk D .row t).1.drop j = [] := (congrArg (·.1) e).symm
      have e3 : some wd = (wlk D .row t).2.2 := congrArg (·.2.2) e
      have e4 : (wlk D .row t).1.take j = (wlk D .row t).1 := by
        have := List.take_append_drop j (wlk D .row t).1
        rw [e1, List.append_nil] at this
        exact this
      refine go_asg (EV.to (ev_call F_step r2 (evs_cons (ev_v 0 rfl) (evs_cons (ev_v 2 rfl) (evs_cons (ev_ix (ev_v 1 rfl) (ev_v 4 rfl) (ix_s (c := c) lz (by rw [S_cps]; exact atI_nat hc)) (fun _ _ => rfl)) evs_nil))) (D, sj, c) rfl rfl trivial rfl) (by show encR (step D sj c) = encR (.fault wd); rw [es])) (tgt_tup rfl (tgts_cons (tgt_name (i := 5) sc_law_walked.nd rfl (.inl rfl)) (tgts_cons (tgt_name (i := 6) sc_law_walked.nd rfl (.inl rfl)) tgts_nil))) ?_
      refine go_ifT (ET.to (et_cmp (ev_v 5 rfl) ev_str (by walk_at "bd") (nomark _)) (by decide +kernel)) rfl ?_
      refine go_frz (j := 0) (G' := [some (encT7 D), some (.str (S t)), some (encS sj), some (.lst (encKs ((wlk D .row t).1.take j))), some (.int (j : Nat)), some (.str "fault"), some (.str (wds wd))]) rfl rfl (fun i d hi => ?_) ?_
      · match i with
        | 0 => exact .inl hi
        | 1 => exact .inl hi
        | 2 => exact .inl hi
        | 3 => cases hi; exact .inr ⟨rfl, rfl⟩
        | 4 => exact .inl hi
        | 5 => exact .inl hi
        | 6 => exact .inl hi
        | n + 7 => cases hi
      refine go_ret (ev_tup (evs_cons (ev_v 3 rfl) (evs_cons (ev_v 6 rfl) evs_nil))) (u.rt hQ) ?_
      show Dt.tup [.lst (encKs ((wlk D .row t).1.take j)), .str (wds wd)] = encWl (wlk D .row t)
      rw [e4]
      unfold encWl wdOf
      rw [← e3]
    | go k s' =>
      rw [wlk_go es] at e
      have e1 : k :: (wlk D s' (t.drop (j + 1))).1 = (wlk D .row t).1.drop j := congrArg (·.1) e
      have e2 : (wlk D s' (t.drop (j + 1))).2.1 = (wlk D .row t).2.1 := congrArg (·.2.1) e
      have e3 : (wlk D s' (t.drop (j + 1))).2.2 = (wlk D .row t).2.2 := congrArg (·.2.2) e
      have hk : (wlk D .row t).1[j]? = some k := by
        have : ((wlk D .row t).1.drop j)[0]? = some k := by rw [← e1]; rfl
        rw [List.getElem?_drop] at this
        exact this
      have hjk := (List.getElem?_eq_some_iff.mp hk).1
      have e4 : (wlk D s' (t.drop (j + 1))).1 = (wlk D .row t).1.drop (j + 1) := by
        have : ((wlk D .row t).1.drop j).drop 1 = (wlk D s' (t.drop (j + 1))).1 := by rw [← e1]; rfl
        rw [← this, List.drop_drop]
      refine go_asg (EV.to (ev_call F_step r2 (evs_cons (ev_v 0 rfl) (evs_cons (ev_v 2 rfl) (evs_cons (ev_ix (ev_v 1 rfl) (ev_v 4 rfl) (ix_s (c := c) lz (by rw [S_cps]; exact atI_nat hc)) (fun _ _ => rfl)) evs_nil))) (D, sj, c) rfl rfl trivial rfl) (by show encR (step D sj c) = encR (.go k s'); rw [es])) (tgt_tup rfl (tgts_cons (tgt_name (i := 5) sc_law_walked.nd rfl (.inl rfl)) (tgts_cons (tgt_name (i := 6) sc_law_walked.nd rfl (.inl rfl)) tgts_nil))) ?_
      refine go_ifN (ET.to (et_cmp (ev_v 5 rfl) ev_str (by walk_at "bd") (nomark _)) (kds_fault k)) rfl ?_
      refine go_app (j := 0) (ev_v 3 rfl) rfl (ev_v 5 rfl) (Nat.lt_of_lt_of_le (m := 2001) (by rw [List.length_map, List.length_take]; omega) (sl_small (by decide))) ?_
      refine go_set (i := 2) (ev_v 6 rfl) ?_ sc_law_walked.nd rfl (.inl rfl)
      refine go_nilW ⟨s', some (.int (j : Nat)), some (.str (kds k)), some (encS s'), hjk, ?_, rfl, ?_⟩ rfl
      · rw [← e4, ← e2, ← e3]
      · rw [take_snoc hk]
        unfold encKs
        rw [List.map_append]
        rfl
  · obtain ⟨sj, x4, x5, x6, jl, e, rfl, rfl⟩ := W
    have hj : (rng t.length).length = t.length := by simp [rng]
    rw [hj] at e jl ⊢
    rw [List.drop_length] at e
    have e2 : sj = (wlk D .row t).2.1 := congrArg (·.2.1) e
    have e3 : none = (wlk D .row t).2.2 := congrArg (·.2.2) e
    have e4 : (wlk D .row t).1.take t.length = (wlk D .row t).1 := List.take_of_length_le wl
    rw [e4]
    have ws : wdOf (wlk D .row t) = if sj = .row then ("" : Str) else ("cut" : Str) := by
      unfold wdOf
      rw [← e3]
      show (if (wlk D .row t).2.1 = .row then ("" : Str) else "cut") = _
      rw [← e2]
    rw [← e2] at gdw
    refine go_if0 (et_cmp (ev_v 2 rfl) (EV.to (ev_tup (evs_cons ev_str (evs_cons ev_str evs_nil))) (show _ = encS .row from rfl)) (b_eqT hr.units ed_sta (by decide) gdw trivial) (nomark _)) (fun h => ?_) (fun h => ?_)
    · have h : sj = .row := of_decide_eq_true h
      rw [if_pos h] at ws
      refine go_frz (j := 0) (G' := [some (encT7 D), some (.str (S t)), some (encS sj), some (.lst (encKs (wlk D .row t).1)), x4, x5, x6]) rfl rfl (fun i d hi => ?_) ?_
      · match i with
        | 0 => exact .inl hi
        | 1 => exact .inl hi
        | 2 => exact .inl hi
        | 3 => cases hi; exact .inr ⟨rfl, rfl⟩
        | 4 => exact .inl hi
        | 5 => exact .inl hi
        | 6 => exact .inl hi
        | n + 7 => cases hi
      refine go_ret (ev_tup (evs_cons (ev_v 3 rfl) (evs_cons ev_str evs_nil))) hQ ?_
      unfold encWl
      rw [ws]
    · have h : ¬ sj = .row := of_decide_eq_false h
      rw [if_neg h] at ws
      refine go_frz (j := 0) (G' := [some (encT7 D), some (.str (S t)), some (encS sj), some (.lst (encKs (wlk D .row t).1)), x4, x5, x6]) rfl rfl (fun i d hi => ?_) ?_
      · match i with
        | 0 => exact .inl hi
        | 1 => exact .inl hi
        | 2 => exact .inl hi
        | 3 => cases hi; exact .inr ⟨rfl, rfl⟩
        | 4 => exact .inl hi
        | 5 => exact .inl hi
        | 6 => exact .inl hi
        | n + 7 => cases hi
      refine go_ret (ev_tup (evs_cons (ev_v 3 rfl) (evs_cons ev_str evs_nil))) hQ ?_
      unfold encWl
      rw [ws]
abbrev spLtable (K : PySem.W.Frag) : Sp := spT K (T := List Nat × List Kd) (fun i => [.str (S i.1), .lst (encKs i.2)]) (fun i => i.1.length ≤ 2000 ∧ i.2.length ≤ i.1.length) (fun i d => d = encTab (tabGo [] [] (outs i.1 i.2)))
theorem ok_law_table (F : FnP K "_law_table" "_law_table" s_law_table f fd) (T : Tx K mg A) : FnOk P w K mg base CX0 1 f fd ["_law_text", "_law_kinds"] (spLtable K) := by
  refine fn_ok F sc_law_table (fun _ => rfl) fun ⟨t, ks⟩ cdv A' outer sh H0 E B0 D' hr hp hn hQ => ?_
  obtain ⟨hp, hl⟩ := hp
  have hp : t.length ≤ 2000 := hp
  have hl : ks.length ≤ t.length := hl
  have lz : (S t).length ≤ sizeLine := by rw [S_len]; exact sl_small (by omega)
  have big : ∀ n, n ≤ 3000 → n < sizeLine := fun n h => Nat.lt_of_lt_of_le (m := 3001) (by omega) (sl_small (by decide))
  have lk : Dt.int ((encKs ks).length : Nat) = natD ks.length := by rw [List.length_map]
  refine go_new (i := 2) evs_nil (fun p2 => ?_) sc_law_table.nd rfl (.inl rfl)
  refine go_new (i := 3) (evs_cons ev_str evs_nil) (fun p3 => ?_) sc_law_table.nd rfl (.inl rfl)
  refine go_for PassesOwn.never rfl (pit_range (n := ks.length) (EV.to (ev_callB (c_lenL (l := encKs ks)) rfl T.b_len boot_len (evs_cons (ev_v 1 rfl) evs_nil)) lk) (by omega) rfl T.b_range) (fun j G O => ∃ p3 x4,
      G = [some (.str (S t)), some (.lst (encKs ks)), some (.raw (.ref p2)), some (.raw (.ref p3)), x4] ∧ O = [(p3, .lst (((tfold ⟨[], [], []⟩ ((t.zip ks).take j)).row ++ [(tfold ⟨[], [], []⟩ ((t.zip ks).take j)).cell]).map fun c => .str (S c))), (p2, .lst ((tfold ⟨[], [], []⟩ ((t.zip ks).take j)).tab.map encRow))])
    ⟨p3, none, rfl, by rw [List.take_zero]; show _ = [(p3, Ob.lst [.str (S [])]), (p2, Ob.lst [])]; rw [← str_nil]⟩ (fun B1 u j d G1 O1 hd W => ?_) (fun G1 O1 W => ?_)
  · obtain ⟨p3, x4, rfl, rfl⟩ := W
    obtain ⟨hj, rfl⟩ := rng_get hd
    have hk : ks[j]? = some ks[j] := List.getElem?_eq_getElem hj
    have hc : t[j]? = some t[j] := List.getElem?_eq_getElem (by omega)
    generalize ks[j] = k at hk
    generalize t[j] = c at hc
    have hz : (t.zip ks)[j]? = some (c, k) := by rw [List.getElem?_zip_eq_some]; exact ⟨hc, hk⟩
    have nx : tfold ⟨[], [], []⟩ ((t.zip ks).take (j + 1)) = tstep (tfold ⟨[], [], []⟩ ((t.zip ks).take j)) c k := by
      rw [take_snoc hz]
      unfold tfold
      rw [List.foldl_append]; rfl
    obtain ⟨z1, z2, z3⟩ := tfold_sz ((t.zip ks).take j) ⟨[], [], []⟩
    have zt : ((t.zip ks).take j).length ≤ 2000 := by rw [List.length_take]; omega
    generalize tfold ⟨[], [], []⟩ ((t.zip ks).take j) = a at nx z1 z2 z3
    rw [nx]
    have z1 : a.cell.length ≤ 2000 := by simpa using Nat.le_trans z1 (by simpa using zt)
    have z2 : a.row.length ≤ 2000 := by simpa using Nat.le_trans z2 (by simpa using zt)
    have z3 : a.tab.length ≤ 2000 := by simpa using Nat.le_trans z3 (by simpa using zt)
    have z4 : a.cell.length + [c].length ≤ sizeLine := sl_small (by rw [List.length_singleton]; omega)
    have hkk : atI (encKs ks) ((j : Nat) : Int) = some (.str (kds k)) := atI_nat (by rw [List.getElem?_map, hk]; rfl)
    have rl : ((a.row ++ [a.cell]).map fun c => Dt.str (S c)).length = a.row.length + 1 := by rw [List.length_map, List.length_append]; rfl
    have hix : ixN ((a.row ++ [a.cell]).map fun c => Dt.str (S c)).length (-1) = some a.row.length := by
      rw [rl]
      unfold ixN
      rw [if_neg (by omega), if_pos (by omega)]
      congr 1
      omega
    have hlast : atI ((a.row ++ [a.cell]).map fun c => Dt.str (S c)) (-1) = some (.str (S a.cell)) := by
      unfold atI
      rw [hix]
      show ((a.row ++ [a.cell]).map fun c => Dt.str (S c))[a.row.length]? = _
      rw [List.getElem?_map, List.getElem?_append_right (Nat.le_refl _), Nat.sub_self]
      rfl
    refine ⟨_, (tgt_name (i := 4) sc_law_table.nd rfl (.inl rfl)), ?_⟩
    cases k with
    | put =>
      refine go_ifT (ET.to (et_cmp (ev_ix (ev_v 1 rfl) (ev_v 4 rfl) (ix_l hkk) (fun _ _ => rfl)) ev_str b_eqS (nomark _)) (by decide +kernel)) rfl ?_
      refine go_putLV (j := 0) (Vw.refl.set (j := 0) (i := 3) rfl rfl rfl) (ev_addS (m := [c]) (ev_ix (ev_v 3 rfl) ev_neg (ix_l hlast) (fun _ _ => rfl)) (ev_ix (ev_v 0 rfl) (ev_v 4 rfl) (ix_s (c := c) lz (by rw [S_cps]; exact atI_nat hc)) (fun _ _ => rfl)) z4) rfl (ev_v 3 rfl) rfl ev_neg hix ?_
      refine go_done ?_ rfl
      refine go_ifN (ET.to (et_cmp (ev_ix (ev_v 1 rfl) (ev_v 4 rfl) (ix_l hkk) (fun _ _ => rfl)) ev_str b_eqS (nomark _)) (by decide +kernel)) rfl ?_
      refine go_ifN (ET.to (et_cmp (ev_ix (ev_v 1 rfl) (ev_v 4 rfl) (ix_l hkk) (fun _ _ => rfl)) ev_str b_eqS (nomark _)) (by decide +kernel)) rfl ?_
      refine go_nilW ⟨p3, some (.int (j : Nat)), rfl, ?_⟩ rfl
      have e : ((a.row ++ [a.cell]).map fun c => Dt.str (S c)).set a.row.length (.str (S (a.cell ++ [c]))) = (a.row ++ [a.cell ++ [c]]).map fun c => Dt.str (S c) := by
        rw [List.map_append, List.map_append, List.set_append_right _ _ (by rw [List.length_map]; exact Nat.le_refl _), List.length_map, Nat.sub_self]
        rfl
      rw [List.set_cons_zero, e]
      rfl
    | skip =>
      refine go_ifN (ET.to (et_cmp (ev_ix (ev_v 1 rfl) (ev_v 4 rfl) (ix_l hkk) (fun _ _ => rfl)) ev_str b_eqS (nomark _)) (by decide +kernel)) rfl ?_
      refine go_ifN (ET.to (et_cmp (ev_ix (ev_v 1 rfl) (ev_v 4 rfl) (ix_l hkk) (fun _ _ => rfl)) ev_str b_eqS (nomark _)) (by decide +kernel)) rfl ?_
      refine go_ifN (ET.to (et_cmp (ev_ix (ev_v 1 rfl) (ev_v 4 rfl) (ix_l hkk) (fun _ _ => rfl)) ev_str b_eqS (nomark _)) (by decide +kernel)) rfl ?_
      exact go_nilW ⟨p3, some (.int (j : Nat)), rfl, rfl⟩ rfl
    | part =>
      refine go_ifN (ET.to (et_cmp (ev_ix (ev_v 1 rfl) (ev_v 4 rfl) (ix_l hkk) (fun _ _ => rfl)) ev_str b_eqS (nomark _)) (by decide +kernel)) rfl ?_
      refine go_ifT (ET.to (et_cmp (ev_ix (ev_v 1 rfl) (ev_v 4 rfl) (ix_l hkk) (fun _ _ => rfl)) ev_str b_eqS (nomark _)) (by decide +kernel)) rfl ?_
      refine go_app (j := 0) (ev_v 3 rfl) rfl (EV.to ev_str (show Dt.str "" = .str (S []) by rw [str_nil])) (big _ (by rw [rl]; omega)) ?_
      refine go_done ?_ rfl
      refine go_ifN (ET.to (et_cmp (ev_ix (ev_v 1 rfl) (ev_v 4 rfl) (ix_l hkk) (fun _ _ => rfl)) ev_str b_eqS (nomark _)) (by decide +kernel)) rfl ?_
      refine go_nilW ⟨p3, some (.int (j : Nat)), rfl, ?_⟩ rfl
      simp only [tstep, List.map_append, List.set_cons_zero]; rfl
    | fin =>
      refine go_ifN (ET.to (et_cmp (ev_ix (ev_v 1 rfl) (ev_v 4 rfl) (ix_l hkk) (fun _ _ => rfl)) ev_str b_eqS (nomark _)) (by decide +kernel)) rfl ?_
      refine go_ifN (ET.to (et_cmp (ev_ix (ev_v 1 rfl) (ev_v 4 rfl) (ix_l hkk) (fun _ _ => rfl)) ev_str b_eqS (nomark _)) (by decide +kernel)) rfl ?_
      refine go_ifT (ET.to (et_cmp (ev_ix (ev_v 1 rfl) (ev_v 4 rfl) (ix_l hkk) (fun _ _ => rfl)) ev_str b_eqS (nomark _)) (by decide +kernel)) rfl ?_
      refine go_frz (j := 0) (G' := [some (.str (S t)), some (.lst (encKs ks)), some (.raw (.ref p2)), some (encRow (a.row ++ [a.cell])), some (.int (j : Nat))]) rfl rfl (fun i d hi => ?_) ?_
      · match i with
        | 0 => exact .inl hi
        | 1 => exact .inl hi
        | 2 => exact .inl hi
        | 3 => cases hi; exact .inr ⟨rfl, rfl⟩
        | 4 => exact .inl hi
        | n + 5 => cases hi
      refine go_app (j := 0) (ev_v 2 rfl) rfl (ev_v 3 rfl) (big _ (by rw [List.length_map]; omega)) ?_
      refine go_new (i := 3) (evs_cons ev_str evs_nil) (fun p3' => ?_) sc_law_table.nd rfl (.inl rfl)
      refine go_done (go_nilW ⟨p3', some (.int (j : Nat)), rfl, ?_⟩ rfl) rfl
      simp only [tstep, List.map_append, List.map_cons, List.map_nil, List.nil_append]; rw [← str_nil]; rfl
  · obtain ⟨p3, x4, rfl, rfl⟩ := W
    have e : (t.zip ks).take (rng ks.length).length = t.zip ks := List.take_of_length_le (by
      have e1 : (rng ks.length).length = ks.length := by simp [rng]
      rw [e1, List.length_zip]; omega)
    rw [e]
    refine go_frz (j := 1) (G' := [some (.str (S t)), some (.lst (encKs ks)), some (encTab (tfold ⟨[], [], []⟩ (t.zip ks)).tab), none, none]) rfl rfl (fun i d hi => ?_) ?_
    · match i with
      | 0 => exact .inl hi
      | 1 => exact .inl hi
      | 2 => cases hi; exact .inr ⟨rfl, rfl⟩
      | 3 => cases hi
      | 4 => cases hi
      | n + 5 => cases hi
    refine go_ret (ev_v 2 rfl) hQ ?_
    rw [tab_outs]
abbrev spLans (K : PySem.W.Frag) : Sp := spT K (T := Dia × List Nat) (fun i => [encT7 i.1, .str (S i.2)]) (fun i => Ok i.1 ∧ TxSg i.2) (fun i d => d = encAns (ans i.1 i.2))
theorem ok_law_answer (F : FnP K "_law_answer" "_law_answer" s_law_answer f fd) (F_w : Cal P w K mg base 3 "_law_walked" ["_law_told_here", "_law_text"] (spLwalked K)) (F_t : Cal P w K mg base 1 "_law_table" ["_law_text", "_law_kinds"] (spLtable K)) : FnOk P w K mg base CX0 4 f fd ["_law_told_here", "_law_text"] (spLans K) := by
  refine fn_ok F sc_law_answer (fun _ => rfl) fun ⟨D, t⟩ cdv A' outer sh H0 E B0 D' hr hp hn hQ => ?_
  have hp0 := hp
  obtain ⟨ok, hp⟩ := hp
  have hp : TxSg t := hp
  have hQ : Rt K B0 H0 (fun d => d = encAns (ans D t)) D'.rt := hQ
  refine go_asg (ev_call F_w hr (evs_cons (ev_v 0 rfl) (evs_cons (ev_v 1 rfl) evs_nil)) (D, t) rfl rfl hp0 rfl) (tgt_tup rfl (tgts_cons (tgt_name (i := 2) sc_law_answer.nd rfl (.inl rfl)) (tgts_cons (tgt_name (i := 3) sc_law_answer.nd rfl (.inl rfl)) tgts_nil))) ?_
  refine go_if0 (ET.to (et_cmp (ev_v 3 rfl) ev_str b_neS (nomark _)) (congrArg Bool.not (wdOf_ok (wlk D .row t)))) (fun h => ?_) (fun h => ?_)
  · have h : okW (wlk D .row t) = false := by simpa using h
    refine go_ret ev_non hQ ?_
    rw [ans_wlk, if_neg (by rw [h]; exact Bool.false_ne_true)]; rfl
  · have h : okW (wlk D .row t) = true := by simpa using h
    refine go_ret (ev_call F_t (hr.mono (by decide)) (evs_cons (ev_v 1 rfl) (evs_cons (ev_v 2 rfl) evs_nil)) (t, (wlk D .row t).1) rfl rfl ⟨hp.2, wlk_len t .row⟩ rfl) hQ ?_
    rw [ans_wlk, if_pos h]; rfl
abbrev spLled (K : PySem.W.Frag) : Sp := spT K (T := Dia × Sta × Nat) (fun i => [encT7 i.1, encS i.2.1, .str (sg i.2.2)]) (fun i => Gd i.1 i.2.1) (fun i d => d = encL (led i.1 i.2.1 i.2.2))
theorem ok_law_led (F : FnP K "_law_led" "_law_led" s_law_led f fd) (F_step : Cal P w K mg base 2 "_law_step" ["_law_told_here", "_law_state", "_law_sign"] (spLstep K)) : FnOk P w K mg base CX0 3 f fd ["_law_told_here", "_law_state", "_law_sign"] (spLled K) := by
  refine fn_ok F sc_law_led (fun _ => rfl) fun ⟨D, s, c⟩ cdv A' outer sh H0 E B0 D' hr hp hn hQ => ?_
  have g : Gd D s := hp
  have hQ : Rt K B0 H0 (fun d => d = encL (led D s c)) D'.rt := hQ
  have r2 : Room 2 _ := hr
  cases es : step D s c with
  | fault wd =>
    rw [led_fault es] at hQ
    refine go_asg (EV.to (ev_call F_step r2 (evs_cons (ev_v 0 rfl) (evs_cons (ev_v 1 rfl) (evs_cons (ev_v 2 rfl) evs_nil))) (D, s, c) rfl rfl trivial rfl) (by show encR (step D s c) = encR (.fault wd); rw [es])) (tgt_tup rfl (tgts_cons (tgt_name (i := 3) sc_law_led.nd rfl (.inl rfl)) (tgts_cons (tgt_name (i := 4) sc_law_led.nd rfl (.inl rfl)) tgts_nil))) ?_
    refine go_ifT (b := true || false) (EW.pt (ew_or (t := true) (u := false) (ET.to (et_cmp (ev_v 3 rfl) ev_str b_eqS (nomark _)) (by decide +kernel)) fun h => nomatch h)) rfl ?_
    exact go_ret ev_non hQ rfl
  | go k s' =>
    have g' := step_good g es
    rw [led_go es] at hQ
    refine go_asg (EV.to (ev_call F_step r2 (evs_cons (ev_v 0 rfl) (evs_cons (ev_v 1 rfl) (evs_cons (ev_v 2 rfl) evs_nil))) (D, s, c) rfl rfl trivial rfl) (by show encR (step D s c) = encR (.go k s'); rw [es])) (tgt_tup rfl (tgts_cons (tgt_name (i := 3) sc_law_led.nd rfl (.inl rfl)) (tgts_cons (tgt_name (i := 4) sc_law_led.nd rfl (.inl rfl)) tgts_nil))) ?_
    have kf := kds_fault k
    have two : (quo s' = "" ∨ ∃ q, quo s' = sg q ∧ q ∉ D.frees) := by
      cases s' with
      | within q => exact .inr ⟨q, rfl, g'.2⟩
      | doubt q => exact .inr ⟨q, rfl, g'.2⟩
      | freedq q => exact .inr ⟨q, rfl, g'.2⟩
      | _ => exact .inl rfl
    have fin : Go (cxOf CX0 P w K mg base ["_law_told_here", "_law_state", "_law_sign", "_law_kind", "_law_then"] "_law_led" (defScope s_law_led) f cdv A' outer sh H0 E).nox B0 H0 [some (encT7 D), some (encS s), some (.str (sg c)), some (.str (kds k)), some (encS s')] [] ((defBody s_law_led).drop 2) D' := go_ret (ev_tup (evs_cons (ev_v 3 rfl) (evs_cons (ev_v 4 rfl) evs_nil))) hQ rfl
    rcases two with hq | ⟨q, hq, hf⟩
    · refine go_ifN (b := false || (false && false)) (EW.pt (ew_or (t := false) (ET.to (et_cmp (ev_v 3 rfl) ev_str b_eqS (nomark _)) kf) fun h => ew_or1 (EW.pt (ew_and (t := false) (u := false) (ET.to (et_cmp (ev_ix (ev_v 4 rfl) ev_int (by walk_at "xd") (fun _ _ => rfl)) ev_str b_neS (nomark _)) (by rw [hq]; decide +kernel)) fun h => nomatch h)))) rfl ?_
      exact fin
    · refine go_ifN (b := false || (true && false)) (EW.pt (ew_or (t := false) (ET.to (et_cmp (ev_v 3 rfl) ev_str b_eqS (nomark _)) kf) fun h => ew_or1 (EW.pt (ew_and (t := true) (u := false) (ET.to (et_cmp (ev_ix (ev_v 4 rfl) ev_int (by walk_at "xd") (fun _ _ => rfl)) ev_str b_neS (nomark _)) (by rw [hq, sg_nil]; rfl)) fun h => ew_and1 (ET.to (et_cmp (EV.to (ev_ix (ev_v 4 rfl) ev_int (by walk_at "xd") (fun _ _ => rfl)) (congrArg Dt.str hq)) (ev_ix (ev_v 0 rfl) ev_int (by walk_at "xd") (fun _ _ => rfl)) b_in rfl) (by rw [S_cps]; exact decide_eq_false hf)))))) rfl ?_
      exact fin
end
end Dh
end SDhWalk2

section SDhAlike
set_option Elab.async false
set_option linter.all false
set_option maxRecDepth 100000
set_option maxHeartbeats 4000000
local macro_rules | `(tactic| walk_at "bd") => `(tactic| first
  | exact Dh.b_in | exact Dh.b_notin | exact Dh.b_eqS | exact Dh.b_neS | exact Dh.b_isN | exact Dh.b_notN | exact Dh.b_add | exact Dh.b_sub | exact Dh.b_lt | exact Dh.b_le | exact Dh.b_gt | exact Dh.b_ge | exact Dh.b_eqI | exact Dh.b_neI | exact Dh.b_eqB | exact Dh.b_neB)
local macro_rules | `(tactic| walk_at "xd") => `(tactic| first | exact Dh.ix_t rfl | exact Dh.ix_l rfl)
namespace Dh
open PySem PySem.Spec PyProof.Rows L2
/-! ### a new dict, its key read among own things -/
section
variable {K : PySem.W.Frag} {B0 H0 B H : Hp} {G G' : List (Option Dt)} {O : List (Addr × Ob)} {s : L2.St}
theorem At.viewK (a : At K B0 H0 B G O s H) {B1 H1 : Hp} (g : Gr (joinB B H O) H B1 H1) (a1 : At K B0 H0 (cutB B1 O) G O s H1) : ∀ q o, B1 q = some o → NotTI o ∨ cutB B1 O q = some o := fun q o e => by
  by_cases m : ∃ ob, (q, ob) ∈ O
  · left
    by_cases r : ∃ ob d, (q, ob) ∈ O ∧ obD ob = some d
    · obtain ⟨ob, d, m1, hd⟩ := r
      exact own_kind a1 m1 hd (g.s q o e)
    · exfalso
      obtain ⟨ob, m⟩ := m
      obtain ⟨b1, _, c⟩ := a.ow q ob m
      have h := g.k q c.ne
      rw [e] at h
      unfold joinB at h
      rw [if_neg r, b1] at h
      cases h
  · right
    rw [cutB_not m]
    exact e
theorem keyIs_cut {B1 B2 : Hp} (hk : ∀ q o, B1 q = some o → NotTI o ∨ B2 q = some o) {k : KyL} {a : Addr} (h : KeyIs K B1 k a) : KeyIs K B2 k a := by
  obtain ⟨xs, h1, h2⟩ := h
  refine ⟨xs, sqT_cut hk h1, ?_⟩
  clear h1
  induction h2 with
  | nil => exact .nil
  | cons q1 _ ih => exact .cons (sqT_cut hk q1) ih
end
section
variable {X : Cx} {B0 H0 : Hp} {G G' : List (Option Dt)} {O : List (Addr × Ob)} {rest : List Stmt} {D : Ends} {a b e ek ev : Expr} {d : Dt} {k : KyL} {v : V} {pos px dpos apos : Pos} {x : Str} {i j : Nat} {R : Dt → Prop}
theorem go_newDicV (vw : Vw G O G') (hu : X.A.units + 64 < cLine) (h1 : EV X G' ek (keyD k)) (h2 : EV X G' ev d) (rd : ∀ B v', Rep X.K B d v' → v' = v) (kk : ∀ p, Go X B0 H0 (G.set i (some (.raw (.ref p)))) ((p, .dic X.prog X.w [(k, v)]) :: O) rest D) (hN : X.N.Nodup) (hi : X.N[i]? = some x) (hx : Loc X.env.scope x)
    (hs : swapsWith (.Dict [some ek] [ev] dpos) (some (.Name x px)) pos.line X.env = pure false := by rfl) (hf : X.fn x = true ∨ X.env.scope.names.lookup x = some .local := by first | exact .inl rfl | exact .inr rfl | assumption) :
    Go X B0 H0 G O (.Assign [.Name x px] (.Dict [some ek] [ev] dpos) pos :: rest) D := fun s H ⟨B, a⟩ =>
  run_c (ps_set hN hi hx pe_wk hs hf) (by
    obtain ⟨v1, v2, v3, v4⟩ := a.view vw
    refine run_dic hu h1 h2 rd v1 v2 fun q ad B1 H1 hq g1 bq hq1 hk => ?_
    obtain ⟨a1, _, _⟩ := v4 B1 H1 g1
    have hk' := keyIs_cut (a.viewK g1 a1) hk
    have fresh : ∀ r ob, (r, ob) ∈ O → r ≠ q := fun r ob hr z => by
      have := (a.ow r ob hr).2.2.ne
      rw [z] at this
      exact this hq
    have bq' : cutB B1 O q = none := by
      rw [cutB_not]
      · exact bq
      · rintro ⟨ob, m⟩
        exact fresh q ob m rfl
    have a2 : At X.K B0 H0 (cutB B1 O) G ((q, .dic X.prog X.w [(k, v)]) :: O) s H1 := by
      refine ⟨a1.gr, a1.sl, fun r ob hr => ?_, ?_⟩
      · rcases List.mem_cons.mp hr with e | hr
        · cases e
          exact ⟨bq', a.gr.h.free hq, [(k, ad, v)], hq1, rfl, fun e he => by rw [List.mem_singleton] at he; subst he; exact hk'⟩
        · exact a1.ow r ob hr
      · rw [List.map_cons, List.nodup_cons]
        refine ⟨fun hm => ?_, a.nd⟩
        obtain ⟨⟨r, ob⟩, hr, e⟩ := List.mem_map.mp hm
        exact fresh r ob hr e
    exact kk q _ _ ⟨_, a2.set (d := .raw (.ref q)) (v := .ref q) rfl i⟩)
/-! ### "".join(sorted(set(text))) + text -/
theorem ev_joinR {Py : List (List Nat) → Prop} (ho : EV X G a (.str "")) (he : EVR X G e (fun d => ∃ ys : List (List Nat), d = .lst (ys.map fun l => .str (S l)) ∧ ys.flatten.length ≤ 16777216 ∧ Py ys)) (hs : starEach [e] X.env = [(false, eval e X.env)] := by rfl) (hbase : attributeBase a "join" X.env (eval a X.env) = eval a X.env := by rfl) (hline : (apos.endLine == pos.line) = true := by rfl) :
    EVR X G (.Call (.Attribute a "join" apos) [e] [] pos) (fun d => ∃ ys, d = .str (S ys.flatten) ∧ Py ys) := fun s B H hsl hb Q q =>
  run_e (pe_join pe_wk pe_wk hs hbase hline) (ho s B H hsl hb _ fun v B1 H1 g1 r1 => by
    rw [show v = .str "" from r1]
    refine ⟨⟨_, rfl⟩, he s B1 H1 (hsl.mono g1.b) g1.s _ fun d w B2 H2 hd g2 r2 => ?_⟩
    obtain ⟨ys, rfl, hz, hP⟩ := hd
    obtain ⟨p, xs, rfl, h1, h2⟩ := r2
    have e1 : (ys.map fun l => Dt.str (S l)) = (ys.map S).map Dt.str := by rw [List.map_map]; rfl
    rw [e1] at h2
    rw [h2.strs] at h1
    have len : ∀ ys : List (List Nat), ((ys.map S).map (·.length)).sum = ys.flatten.length := by
      intro ys
      induction ys with
      | nil => rfl
      | cons y ys ih => rw [List.map_cons, List.map_cons, List.sum_cons, ih, List.flatten_cons, List.length_append]; rfl
    have e2 : Txt.join "" (ys.map S) = S ys.flatten := by
      rw [TL.join_eq]
      apply TL.ext_tl
      rw [TL.tl_join, show TL.tl ("" : Str) = [] from by decide +kernel, joinL_nil, List.map_map]
      have : (ys.map (TL.tl ∘ S)) = ys := by
        have : (TL.tl ∘ S) = id := by funext l; rfl
        rw [this, List.map_id]
      rw [this]
    refine ⟨"", p, ys.map S, rfl, rfl, .inl (g2.s.seq h1), ?_, ?_⟩
    · rw [len, show ("" : Str).length = 0 from by decide +kernel, Nat.mul_zero]
      exact hz
    · rw [e2]
      exact q _ _ B2 H2 ⟨ys, rfl, hP⟩ (g1.trans g2) rfl)
theorem ev_binR {op : Operator} {R' : Dt → Prop} {d2 : Dt} (ha : EVR X G a R) (hb : EV X G b d2) (hf : ∀ d, R d → ∃ d', BinD X (binaryOp op) d d2 d' ∧ R' d') : EVR X G (.BinOp a op b pos) R' :=
  fun s B H hs e Q q => run_e (pe_op (opr _) pe_wk pe_wk) (ha s B H hs e _ fun d x B1 H1 hd g1 r1 => hb s B1 H1 (hs.mono g1.b) g1.s _ fun y B2 H2 g2 r2 => by
    obtain ⟨d', hx, hr⟩ := hf d hd
    exact hx B2 H2 x y _ g2.s (r1.mono g2.b) r2 fun v B3 H3 g3 r3 => q d' v B3 H3 hr ((g1.trans g2).trans g3) r3)
theorem bin_app {l m : List Nat} (h : l.length + m.length ≤ sizeLine) : BinD X (binaryOp .Add) (.str (S l)) (.str (S m)) (.str (S (l ++ m))) := by
  have := b_addS (X := X) (i := S l) (j := S m) (by rw [S_len, S_len]; exact h)
  rw [S_app] at this
  exact this
theorem EVR.mono {R' : Dt → Prop} (h : EVR X G e R) (m : ∀ d, R d → R' d) : EVR X G e R' := fun s B H hs hb Q q => h s B H hs hb Q fun d v B' H' hd => q d v B' H' (m d hd)
end
theorem set_join {z : List Nat} {ns : List Str} (h : ns.Perm (memb z)) : ∃ ys : List (List Nat), ns.map Dt.str = ys.map (fun l => .str (S l)) ∧ ys.flatten.length ≤ z.length ∧ ∀ c, c ∈ ys.flatten ↔ c ∈ z := by
  refine ⟨ns.map fun s => s.cps.toList, ?_, ?_, fun c => ?_⟩
  · rw [List.map_map]
    exact List.map_congr_left fun s _ => congrArg Dt.str (str_S s)
  · have one : ∀ s ∈ ns, s.cps.toList.length = 1 := fun s hs => by
      obtain ⟨c, _, rfl⟩ := (mem_memb z s).mp (h.mem_iff.mp hs)
      rfl
    have : ∀ ns : List Str, (∀ s ∈ ns, s.cps.toList.length = 1) → (ns.map fun s => s.cps.toList).flatten.length = ns.length := by
      intro ns
      induction ns with
      | nil => intro _; rfl
      | cons s ns ih =>
        intro o
        rw [List.map_cons, List.flatten_cons, List.length_append, o s List.mem_cons_self, ih fun x hx => o x (List.mem_cons_of_mem _ hx), List.length_cons]
        omega
    rw [this ns one, h.length_eq]
    exact memb_len z
  · rw [List.mem_flatten]
    constructor
    · rintro ⟨l, hl, hc⟩
      obtain ⟨s, hs, rfl⟩ := List.mem_map.mp hl
      obtain ⟨c', hc', rfl⟩ := (mem_memb z s).mp (h.mem_iff.mp hs)
      have : c = c' := List.mem_singleton.mp (show c ∈ [c'] from hc)
      rw [this]
      exact hc'
    · intro hc
      exact ⟨[c], List.mem_map.mpr ⟨Froz.sing c, h.mem_iff.mpr ((mem_memb z _).mpr ⟨c, hc, rfl⟩), rfl⟩, List.mem_singleton.mpr rfl⟩
def lsg (D1 D2 : Dia) : List Nat := D1.parts ++ D1.quotes ++ D1.frees ++ D2.parts ++ D2.quotes ++ D2.frees
theorem mem_lsg {D1 D2 : Dia} {x : Nat} : x ∈ lsg D1 D2 ↔ x ∈ special D1 ∨ x ∈ special D2 := by
  rw [mem_special, mem_special]
  unfold lsg
  simp only [List.mem_append]
  constructor
  · rintro (((((h | h) | h) | h) | h) | h) <;> simp [h]
  · rintro ((h | h | h) | (h | h | h)) <;> simp [h]
theorem lsg_len {D1 D2 : Dia} (h1 : Ok D1) (h2 : Ok D2) : (lsg D1 D2).length ≤ 14 := by
  have := h1.p3; have := h1.q2; have := h1.f2
  have := h2.p3; have := h2.q2; have := h2.f2
  unfold lsg
  simp only [List.length_append]
  omega
def abc : List Nat := ("abcdefghijklmnopqrstuvwxyz" : Str).cps.toList
theorem abc_eq : abc = (List.range 26).map (97 + ·) := by decide +kernel
theorem abc_len : abc.length = 26 := by rw [abc_eq]; rfl
theorem abc_nodup : abc.Nodup := by rw [abc_eq]; decide
theorem abc_prn : ∀ c ∈ abc, Prn c ∧ c ≠ 10 ∧ c ≠ 32 := by
  intro c hc
  rw [abc_eq] at hc
  obtain ⟨i, hi, rfl⟩ := List.mem_map.mp hc
  have := List.mem_range.mp hi
  unfold Prn
  omega
theorem lcover {D1 D2 : Dia} (h1 : Ok D1) (h2 : Ok D2) {sgs : List Nat} {x : Nat} (hs : ∀ c, c ∈ sgs ↔ c ∈ lsg D1 D2 ++ [10, 32]) (hx : x ∈ abc) (hn : x ∉ lsg D1 D2) : Cover D1 D2 (sgs ++ [x]) := by
  have inn : ∀ c, c ∈ lsg D1 D2 ++ [10, 32] → c ∈ sgs ++ [x] := fun c hc => List.mem_append_left _ ((hs c).mpr hc)
  obtain ⟨p1, p2, p3⟩ := abc_prn x hx
  refine ⟨fun c hc => inn c (List.mem_append_left _ (mem_lsg.mpr (.inl hc))), fun c hc => inn c (List.mem_append_left _ (mem_lsg.mpr (.inr hc))), inn 10 (by simp), inn 32 (by simp), ⟨x, by simp, fun q => hn (mem_lsg.mpr (.inl q)), fun q => hn (mem_lsg.mpr (.inr q)), p2, p3⟩, fun c hc => ?_⟩
  rcases List.mem_append.mp hc with q | q
  · rcases List.mem_append.mp ((hs c).mp q) with q | q
    · rcases mem_lsg.mp q with q | q
      · exact .inr (special_prn h1 q)
      · exact .inr (special_prn h2 q)
    · rcases List.mem_cons.mp q with q | q
      · exact .inl q
      · rw [List.mem_singleton] at q
        subst q
        exact .inr (by unfold Prn; omega)
  · rw [List.mem_singleton] at q
    subst q
    exact .inr p1
theorem letters_head {L : List Nat} (h : L.length < 26) : ∃ x, (abc.filter fun c => !decide (c ∈ (S L).cps.toList))[0]? = some x ∧ x ∈ abc ∧ x ∉ L := by
  obtain ⟨y, hy, hn⟩ := pigeon (s := L) abc_nodup (by rw [abc_len]; exact h)
  have hm : y ∈ abc.filter fun c => !decide (c ∈ (S L).cps.toList) := List.mem_filter.mpr ⟨hy, by rw [S_cps, decide_eq_false hn]; rfl⟩
  cases e : abc.filter fun c => !decide (c ∈ (S L).cps.toList) with
  | nil => rw [e] at hm; cases hm
  | cons x r =>
    have hx : x ∈ abc.filter fun c => !decide (c ∈ (S L).cps.toList) := by rw [e]; exact List.mem_cons_self
    have := List.mem_filter.mp hx
    refine ⟨x, rfl, this.1, fun q => ?_⟩
    have h2 := this.2
    rw [S_cps, decide_eq_true q] at h2
    cases h2
theorem lstep_nn {D1 D2 : Dia} {p : Sta × Sta} {ps : List (Sta × Sta)} {c : Nat} (h1 : led D1 p.1 c = none) (h2 : led D2 p.2 c = none) : lstep D1 D2 p ps c = some ps := by unfold lstep; rw [h1, h2]
theorem lstep_ns {D1 D2 : Dia} {p : Sta × Sta} {ps : List (Sta × Sta)} {c : Nat} {k : Kd × Sta} (h1 : led D1 p.1 c = none) (h2 : led D2 p.2 c = some k) : lstep D1 D2 p ps c = none := by unfold lstep; rw [h1, h2]
theorem lstep_sn {D1 D2 : Dia} {p : Sta × Sta} {ps : List (Sta × Sta)} {c : Nat} {k : Kd × Sta} (h1 : led D1 p.1 c = some k) (h2 : led D2 p.2 c = none) : lstep D1 D2 p ps c = none := by unfold lstep; rw [h1, h2]
theorem lstep_ss {D1 D2 : Dia} {p : Sta × Sta} {ps : List (Sta × Sta)} {c : Nat} {k1 k2 : Kd} {s1 s2 : Sta} (h1 : led D1 p.1 c = some (k1, s1)) (h2 : led D2 p.2 c = some (k2, s2)) : lstep D1 D2 p ps c = if k1 = k2 then (if (s1, s2) ∈ ps then some ps else some (ps ++ [(s1, s2)])) else none := by unfold lstep; rw [h1, h2]
abbrev kvL (ps : List SP2) : List (KyL × V) := ps.map fun p => (keyP p, V.bl true)
theorem kvL_keys (ps : List SP2) : (kvL ps).map (·.1) = ps.map keyP := by unfold kvL; rw [List.map_map]; rfl
section
variable {P : Program} {w : World} {K : PySem.W.Frag} {mg : Str → Option Value} {base : Heap} {f : Addr} {fd : FuncData} {A : Ad}
abbrev spLalike (K : PySem.W.Frag) : Sp := spT K (T := Dia × Dia) (fun i => [encT7 i.1, encT7 i.2]) (fun i => Ok i.1 ∧ Ok i.2) (fun i d => d = .bl (alk i.1 i.2))
abbrev gA (D1 D2 : Dia) (sgs : List Nat) (y3 : Option Dt) (q4 q5 : Addr) (n : Nat) (r : List (Option Dt)) : List (Option Dt) := [some (encT7 D1), some (encT7 D2), some (.str (S sgs)), y3, some (.raw (.ref q4)), some (.raw (.ref q5)), some (natD n)] ++ r
abbrev oA (P : Program) (w : World) (q4 q5 : Addr) (ps : List SP2) : List (Addr × Ob) := [(q5, .dic P w (kvL ps)), (q4, .lst (ps.map encPr))]
theorem ok_law_alike (F : FnP K "_law_alike" "_law_alike" s_law_alike f fd) (T : Tx K mg A) (F_led : Cal P w K mg base 3 "_law_led" ["_law_told_here", "_law_state", "_law_sign"] (spLled K)) : FnOk P w K mg base CX0 4 f fd ["_law_one", "_law_other"] (spLalike K) := by
  refine fn_ok F sc_law_alike (fun _ => rfl) fun ⟨D1, D2⟩ cdv A' outer sh H0 E B0 D' hr hp hn hQ => ?_
  obtain ⟨ok1, ok2⟩ := hp
  have ok1 : Ok D1 := ok1
  have ok2 : Ok D2 := ok2
  have hQ : Rt K B0 H0 (fun d => d = .bl (alk D1 D2)) D'.rt := hQ
  have r3 : Room 3 _ := hr
  have hu := hr.units
  have ll := lsg_len ok1 ok2
  have no : ¬ Alike D1 D2 → Dt.bl false = .bl (alk D1 D2) := fun h => by rw [alk_false.mpr h]
  have zz : ∀ {l m : List Nat}, (l ++ m).length ≤ 14 → l.length + m.length ≤ sizeLine := fun h => by rw [List.length_append] at h; exact sl_small (by omega)
  have b5 : (D1.parts ++ D1.quotes ++ D1.frees ++ D2.parts ++ D2.quotes).length ≤ 14 := by unfold lsg at ll; rw [List.length_append] at ll; omega
  have b4 : (D1.parts ++ D1.quotes ++ D1.frees ++ D2.parts).length ≤ 14 := by rw [List.length_append] at b5; omega
  have b3 : (D1.parts ++ D1.quotes ++ D1.frees).length ≤ 14 := by rw [List.length_append] at b4; omega
  have b2 : (D1.parts ++ D1.quotes).length ≤ 14 := by rw [List.length_append] at b3; omega
  refine go_set (i := 2) (d := .str (S (lsg D1 D2))) (ev_addS (ev_addS (ev_addS (ev_addS (ev_addS (ev_ix (ev_v 0 rfl) ev_int (by walk_at "xd") (fun _ _ => rfl)) (ev_ix (ev_v 0 rfl) ev_int (by walk_at "xd") (fun _ _ => rfl)) (zz b2)) (ev_ix (ev_v 0 rfl) ev_int (by walk_at "xd") (fun _ _ => rfl)) (zz b3)) (ev_ix (ev_v 1 rfl) ev_int (by walk_at "xd") (fun _ _ => rfl)) (zz b4)) (ev_ix (ev_v 1 rfl) ev_int (by walk_at "xd") (fun _ _ => rfl)) (zz b5)) (ev_ix (ev_v 1 rfl) ev_int (by walk_at "xd") (fun _ _ => rfl)) (zz ll)) ?_ sc_law_alike.nd rfl (.inr rfl)
  obtain ⟨x, hx0, hxa, hxn⟩ := letters_head (L := lsg D1 D2) (by omega)
  refine go_setLc (xs := abc) (enc := fun c => .str (sg c)) (g := fun c => .str (sg c)) (P := fun c => !decide (c ∈ (S (lsg D1 D2)).cps.toList)) (i := 12) (n := 3) (pit_list (ev_callTy (c_listS rfl (by decide +kernel)) rfl T.b_list boot_list (evs_cons ev_str evs_nil))) (by show 12 < 13; decide) (fun a ha _ _ _ _ _ => ets_one (et_cmp (ev_v 12 rfl) (ev_v 2 rfl) b_notin rfl)) (fun a ha hP _ _ _ _ _ => ev_v 12 rfl) (by rw [abc_len]; exact sl_small (by decide)) ?_ rfl sc_law_alike.nd rfl rfl rfl (blkOk_by rfl) (fun _ _ _ _ _ => pg_name (i := 12) sc_law_alike.nd rfl (.inl rfl))
  generalize hlt : (abc.filter fun c => !decide (c ∈ (S (lsg D1 D2)).cps.toList)) = lt at hx0
  have hix0 : atI (lt.map fun c => Dt.str (sg c)) 0 = some (.str (sg x)) := atI_nat (j := 0) (by rw [List.getElem?_map, hx0]; rfl)
  refine go_setR (i := 2) (ev_binR (R' := fun d => ∃ sgs, d = .str (S (sgs ++ [x])) ∧ sgs.length ≤ 16 ∧ ∀ c, c ∈ sgs ↔ c ∈ lsg D1 D2 ++ [10, 32]) (ev_joinR (Py := fun ys => ys.flatten.length ≤ 16 ∧ ∀ c, c ∈ ys.flatten ↔ c ∈ lsg D1 D2 ++ [10, 32]) ev_str (EVR.mono (ev_sortedSet rfl rfl T.b_sorted rfl T.b_set (ev_addS (m := [10, 32]) (ev_v 2 rfl) (EV.to ev_str (congrArg Dt.str (by decide +kernel : ("\n " : Str) = S [10, 32]))) (sl_small (by show (lsg D1 D2).length + 2 ≤ _; omega))) (by rw [S_len, List.length_append]; show (lsg D1 D2).length + 2 < 63; omega)) fun d hd => ?_)) (ev_ix (ev_v 3 rfl) ev_int (ix_l hix0) (fun _ _ => rfl)) fun d hd => ?_) (fun d hd => ?_) sc_law_alike.nd rfl (.inr rfl)
  · obtain ⟨ns, rfl, hp⟩ := hd
    rw [S_cps] at hp
    obtain ⟨ys, e1, e2, e3⟩ := set_join hp
    have e2' : ys.flatten.length ≤ 16 := by
      rw [List.length_append] at e2
      have : ([10, 32] : List Nat).length = 2 := rfl
      omega
    exact ⟨ys, by rw [e1], by omega, e2', e3⟩
  · obtain ⟨ys, rfl, e2, e3⟩ := hd
    exact ⟨_, bin_app (m := [x]) (sl_small (by rw [List.length_singleton]; omega)), ys.flatten, rfl, e2, e3⟩
  obtain ⟨sg0, rfl, sl16, smem⟩ := hd
  have cov := lcover ok1 ok2 smem hxa hxn
  have sl17 : (sg0 ++ [x]).length ≤ 17 := by rw [List.length_append, List.length_singleton]; omega
  generalize sg0 ++ [x] = sgs at cov sl17
  have lz : (S sgs).length ≤ sizeLine := by rw [S_len]; exact sl_small (by omega)
  have le : Dt.int (((S sgs).length : Nat) : Int) = natD sgs.length := by rw [S_len]
  refine go_new (i := 4) (evs_cons (EV.to (ev_tup (evs_cons (ev_tup (evs_cons ev_str (evs_cons ev_str evs_nil))) (evs_cons (ev_tup (evs_cons ev_str (evs_cons ev_str evs_nil))) evs_nil))) (show _ = encPr (.row, .row) from rfl)) evs_nil) (fun q4 => ?_) sc_law_alike.nd rfl (.inl rfl)
  refine go_newDicV (i := 5) (k := keyP (.row, .row)) (v := .bl true) (Vw.refl.set (j := 0) (i := 4) rfl rfl rfl) hu (ev_ix (ev_v 4 rfl) ev_int (ix_l (d := encPr (.row, .row)) rfl) (fun _ _ => rfl)) ev_bl (fun _ _ h => h) (fun q5 => ?_) sc_law_alike.nd rfl (.inl rfl)
  refine go_set (i := 6) (EV.to ev_int (show Dt.int 0 = natD 0 from rfl)) ?_ sc_law_alike.nd rfl (.inl rfl)
  refine go_whileV PassesOwn.never (m0 := 121) (fun m G O => ∃ ps n r, LInv D1 D2 ps ∧ (∀ (i : Nat) (p : SP2), ps[i]? = some p → i < n → (p.1 = .row ↔ p.2 = .row) ∧ ∀ c ∈ sgs, Both D1 D2 (· ∈ ps) p c) ∧ m = 121 - n ∧ n ≤ ps.length ∧ r.length = 6 ∧ G = gA D1 D2 sgs (some (.lst (lt.map fun c => .str (sg c)))) q4 q5 n r ∧ O = oA P w q4 q5 ps)
    ⟨[(.row, .row)], 0, [none, none, none, none, none, none], linv0, fun i p _ hi => absurd hi (Nat.not_lt_zero _), rfl, Nat.zero_le _, rfl, rfl, rfl⟩ (fun m G1 O1 W => ?_)
  obtain ⟨ps, n, r, I, done, rfl, nle, hr6, rfl, rfl⟩ := W
  obtain ⟨x7, x8, x9, x10, x11, x12, rfl⟩ : ∃ x7 x8 x9 x10 x11 x12, r = [x7, x8, x9, x10, x11, x12] := by
    match r, hr6 with
    | [a, b, c, d, e, f], _ => exact ⟨a, b, c, d, e, f, rfl⟩
  have len := I.len ok1 ok2
  have hl1 : ((ps.map encPr).length : Int) = (ps.length : Int) := by rw [List.length_map]
  refine ⟨_, decide (((n : Nat) : Int) < ((ps.map encPr).length : Int)), (Vw.refl.set (j := 1) (i := 4) rfl rfl rfl), et_cmp (ev_v 6 rfl) (ev_callB c_lenL rfl T.b_len boot_len (evs_cons (ev_v 4 rfl) evs_nil)) b_lt (nomark _), fun h => ?_, fun h => ?_⟩
  · have hlt' : n < ps.length := by have := of_decide_eq_true h; omega
    have hp : ps[n]? = some ps[n] := List.getElem?_eq_getElem hlt'
    generalize ps[n] = p at hp
    have hpm := List.mem_of_getElem? hp
    obtain ⟨gd1, gd2⟩ := I.good hpm
    have hix : atI (ps.map encPr) (n : Int) = some (encPr p) := atI_nat (by rw [List.getElem?_map, hp]; rfl)
    obtain ⟨a, b⟩ := p
    refine go_asgV (d := encPr (a, b)) (Vw.refl.set (j := 1) (i := 4) rfl rfl rfl) (ev_ix (ev_v 4 rfl) (ev_v 6 rfl) (ix_l hix) (fun _ _ => rfl)) rfl (tgt_tup rfl (tgts_cons (tgt_name (i := 7) sc_law_alike.nd rfl (.inl rfl)) (tgts_cons (tgt_name (i := 8) sc_law_alike.nd rfl (.inl rfl)) tgts_nil))) ?_
    refine go_set (i := 6) (EV.to (ev_bin (ev_v 6 rfl) ev_int b_add) (show Dt.int ((n : Int) + 1) = natD (n + 1) from congrArg Dt.int (by omega))) ?_ sc_law_alike.nd rfl (.inl rfl)
    refine go_if0 (et_cmp (ev_cmp (ev_v 7 rfl) (EV.to (ev_tup (evs_cons ev_str (evs_cons ev_str evs_nil))) (show _ = encS .row from rfl)) (b_eqT hu ed_sta (by decide) (gd_ok ok1 gd1) trivial) (nomark _)) (ev_cmp (ev_v 8 rfl) (EV.to (ev_tup (evs_cons ev_str (evs_cons ev_str evs_nil))) (show _ = encS .row from rfl)) (b_eqT hu ed_sta (by decide) (gd_ok ok2 gd2) trivial) (nomark _)) b_neB (nomark _)) (fun h => ?_) (fun h => ?_)
    · refine go_ret ev_bl hQ (no (lrow_bad I hpm fun z => ?_))
      have h : (!(decide (a = .row) == decide (b = .row))) = true := h
      rw [decide_eq_decide.mpr z, beq_self_eq_true] at h
      cases h
    have rowi : a = .row ↔ b = .row := by
      have h : (!(decide (a = .row) == decide (b = .row))) = false := h
      simpa using h
    refine go_for PassesOwn.never rfl (pit_range (n := sgs.length) (EV.to (ev_callB (c_lenS lz) rfl T.b_len boot_len (evs_cons (ev_v 2 rfl) evs_nil)) le) (by omega) rfl T.b_range) (fun j G O => ∃ ps' y9 y10 y11, LInv D1 D2 ps' ∧ (∃ more, ps' = ps ++ more) ∧ (∀ c ∈ sgs.take j, Both D1 D2 (· ∈ ps') (a, b) c) ∧ G = gA D1 D2 sgs (some (.lst (lt.map fun c => .str (sg c)))) q4 q5 (n + 1) [some (encS a), some (encS b), y9, y10, y11, x12] ∧ O = oA P w q4 q5 ps')
      ⟨ps, x9, x10, x11, I, ⟨[], by simp⟩, fun c hc => (by rw [List.take_zero] at hc; cases hc), rfl, rfl⟩ (fun B1 u j d G1 O1 hd W => ?_) (fun G1 O1 W => ?_)
    · obtain ⟨ps', y9, y10, y11, I', ⟨more, em⟩, bth, rfl, rfl⟩ := W
      obtain ⟨hj, rfl⟩ := rng_get hd
      have hc : sgs[j]? = some sgs[j] := List.getElem?_eq_getElem hj
      generalize sgs[j] = c at hc
      have hpm' : (a, b) ∈ ps' := by rw [em]; exact List.mem_append_left _ hpm
      have tk := take_snoc hc
      have len' := I'.len ok1 ok2
      have evl : ∀ {G : List (Option Dt)}, True := fun {_} => trivial
      refine ⟨_, (tgt_name (i := 9) sc_law_alike.nd rfl (.inl rfl)), ?_⟩
      have nextB : ∀ ps2, lstep D1 D2 (a, b) ps' c = some ps2 → LInv D1 D2 ps2 ∧ (∃ more, ps2 = ps ++ more) ∧ ∀ c ∈ sgs.take (j + 1), Both D1 D2 (· ∈ ps2) (a, b) c := fun ps2 e => by
        obtain ⟨i1, i2, m2, i3⟩ := lstep_ok I' hpm' e
        refine ⟨i1, ⟨more ++ m2, by rw [i3, em, List.append_assoc]⟩, fun x hx => ?_⟩
        rw [tk] at hx
        rcases List.mem_append.mp hx with hx | hx
        · rcases bth x hx with q | ⟨k, a', b', z1, z2, z3⟩
          · exact .inl q
          · exact .inr ⟨k, a', b', z1, z2, by rw [i3]; exact List.mem_append_left _ z3⟩
        · rw [List.mem_singleton] at hx
          subst hx
          exact i2
      have bad : lstep D1 D2 (a, b) ps' c = none → Dt.bl false = .bl (alk D1 D2) := fun e => no (lstep_bad ok1 ok2 I' hpm' e)
      have hsg : atI (S sgs).cps.toList ((j : Nat) : Int) = some c := by rw [S_cps]; exact atI_nat hc
      cases e1 : led D1 a c with
      | none =>
        refine go_set (i := 10) (EV.to (ev_call F_led r3 (evs_cons (ev_v 0 rfl) (evs_cons (ev_v 7 rfl) (evs_cons (ev_ix (ev_v 2 rfl) (ev_v 9 rfl) (ix_s (c := c) lz hsg) (fun _ _ => rfl)) evs_nil))) (D1, a, c) rfl rfl gd1 rfl) (show encL (led D1 a c) = .non by rw [e1]; rfl)) ?_ sc_law_alike.nd rfl (.inl rfl)
        cases e2 : led D2 b c with
        | none =>
          refine go_set (i := 11) (EV.to (ev_call F_led r3 (evs_cons (ev_v 1 rfl) (evs_cons (ev_v 8 rfl) (evs_cons (ev_ix (ev_v 2 rfl) (ev_v 9 rfl) (ix_s (c := c) lz hsg) (fun _ _ => rfl)) evs_nil))) (D2, b, c) rfl rfl gd2 rfl) (show encL (led D2 b c) = .non by rw [e2]; rfl)) ?_ sc_law_alike.nd rfl (.inl rfl)
          refine go_ifN (b := false || (false && false)) (EW.pt (ew_or (t := false) (ET.to (et_cmp (ev_cmp (ev_v 10 rfl) ev_non b_isN (nomark _)) (ev_cmp (ev_v 11 rfl) ev_non b_isN (nomark _)) b_neB (nomark _)) rfl) fun _ => (ew_or1 (EW.pt (ew_and (t := false) (u := false) (et_cmp (ev_v 10 rfl) ev_non b_notN (nomark _)) fun h => nomatch h))))) rfl ?_
          refine go_ifN (b := false && false) (EW.pt (ew_and (t := false) (u := false) (et_cmp (ev_v 10 rfl) ev_non b_notN (nomark _)) fun h => nomatch h)) rfl ?_
          obtain ⟨i1, i2, i3⟩ := nextB ps' (lstep_nn e1 e2)
          exact go_nilW ⟨ps', _, _, _, i1, i2, i3, rfl, rfl⟩ rfl
        | some k =>
          refine go_set (i := 11) (EV.to (ev_call F_led r3 (evs_cons (ev_v 1 rfl) (evs_cons (ev_v 8 rfl) (evs_cons (ev_ix (ev_v 2 rfl) (ev_v 9 rfl) (ix_s (c := c) lz hsg) (fun _ _ => rfl)) evs_nil))) (D2, b, c) rfl rfl gd2 rfl) (show encL (led D2 b c) = encL (some k) by rw [e2])) ?_ sc_law_alike.nd rfl (.inl rfl)
          refine go_ifT (b := true || false) (EW.pt (ew_or (t := true) (u := false) (ET.to (et_cmp (ev_cmp (ev_v 10 rfl) ev_non b_isN (nomark _)) (ev_cmp (ev_v 11 rfl) ev_non b_isN (nomark _)) b_neB (nomark _)) rfl) fun h => nomatch h)) rfl ?_
          exact go_ret ev_bl (u.rt hQ) (bad (lstep_ns e1 e2))
      | some h =>
        obtain ⟨k1, s1⟩ := h
        refine go_set (i := 10) (EV.to (ev_call F_led r3 (evs_cons (ev_v 0 rfl) (evs_cons (ev_v 7 rfl) (evs_cons (ev_ix (ev_v 2 rfl) (ev_v 9 rfl) (ix_s (c := c) lz hsg) (fun _ _ => rfl)) evs_nil))) (D1, a, c) rfl rfl gd1 rfl) (show encL (led D1 a c) = encL (some (k1, s1)) by rw [e1])) ?_ sc_law_alike.nd rfl (.inl rfl)
        cases e2 : led D2 b c with
        | none =>
          refine go_set (i := 11) (EV.to (ev_call F_led r3 (evs_cons (ev_v 1 rfl) (evs_cons (ev_v 8 rfl) (evs_cons (ev_ix (ev_v 2 rfl) (ev_v 9 rfl) (ix_s (c := c) lz hsg) (fun _ _ => rfl)) evs_nil))) (D2, b, c) rfl rfl gd2 rfl) (show encL (led D2 b c) = .non by rw [e2]; rfl)) ?_ sc_law_alike.nd rfl (.inl rfl)
          refine go_ifT (b := true || false) (EW.pt (ew_or (t := true) (u := false) (ET.to (et_cmp (ev_cmp (ev_v 10 rfl) ev_non b_isN (nomark _)) (ev_cmp (ev_v 11 rfl) ev_non b_isN (nomark _)) b_neB (nomark _)) rfl) fun h => nomatch h)) rfl ?_
          exact go_ret ev_bl (u.rt hQ) (bad (lstep_sn e1 e2))
        | some k =>
          obtain ⟨k2, s2⟩ := k
          have lss := lstep_ss (ps := ps') (p := (a, b)) e1 e2
          refine go_set (i := 11) (EV.to (ev_call F_led r3 (evs_cons (ev_v 1 rfl) (evs_cons (ev_v 8 rfl) (evs_cons (ev_ix (ev_v 2 rfl) (ev_v 9 rfl) (ix_s (c := c) lz hsg) (fun _ _ => rfl)) evs_nil))) (D2, b, c) rfl rfl gd2 rfl) (show encL (led D2 b c) = encL (some (k2, s2)) by rw [e2])) ?_ sc_law_alike.nd rfl (.inl rfl)
          refine go_if0 (b := false || (true && !(kds k1 == kds k2))) (EW.pt (ew_or (t := false) (ET.to (et_cmp (ev_cmp (ev_v 10 rfl) ev_non b_isN (nomark _)) (ev_cmp (ev_v 11 rfl) ev_non b_isN (nomark _)) b_neB (nomark _)) rfl) fun _ => (ew_or1 (EW.pt (ew_and (t := true) (et_cmp (ev_v 10 rfl) ev_non b_notN (nomark _)) fun _ => ew_and1 (et_cmp (ev_ix (ev_v 10 rfl) ev_int (by walk_at "xd") (fun _ _ => rfl)) (ev_ix (ev_v 11 rfl) ev_int (by walk_at "xd") (fun _ _ => rfl)) b_neS (nomark _))))))) (fun h => ?_) (fun h => ?_)
          · rw [kds_inj] at h
            have h : ¬ k1 = k2 := by simpa using h
            rw [if_neg h] at lss
            exact go_ret ev_bl (u.rt hQ) (bad lss)
          rw [kds_inj] at h
          have h : k1 = k2 := by simpa using h
          rw [if_pos h] at lss
          refine go_if0V (b := true && !decide (keyP (s1, s2) ∈ (kvL ps').map (·.1))) (Vw.refl.set (j := 0) (i := 5) rfl rfl rfl) (EW.pt (ew_and (t := true) (et_cmp (ev_v 10 rfl) ev_non b_notN (nomark _)) fun _ => (ew_and1 (et_cmp (ev_tup (evs_cons (ev_ix (ev_v 10 rfl) ev_int (by walk_at "xd") (fun _ _ => rfl)) (evs_cons (ev_ix (ev_v 11 rfl) ev_int (by walk_at "xd") (fun _ _ => rfl)) evs_nil))) (ev_v 5 rfl) (b_notind (k := keyP (s1, s2)) hu) rfl)))) (fun h => ?_) (fun h => ?_)
          · have h : keyP (s1, s2) ∉ (kvL ps').map (·.1) := by simpa using h
            have h' : (s1, s2) ∉ ps' := fun z => h (by rw [kvL_keys]; exact keys_mem.mpr z)
            rw [if_neg h'] at lss
            refine go_setDic (j := 0) (p := q5) (k := keyP (s1, s2)) (v := .bl true) hu ev_bl (fun _ _ h => h) (ev_v 5 rfl) rfl (ev_tup (evs_cons (ev_ix (ev_v 10 rfl) ev_int (by walk_at "xd") (fun _ _ => rfl)) (evs_cons (ev_ix (ev_v 11 rfl) ev_int (by walk_at "xd") (fun _ _ => rfl)) evs_nil))) h (by rw [List.length_map]; omega) ?_
            refine go_app (j := 1) (ev_v 4 rfl) rfl (ev_tup (evs_cons (ev_ix (ev_v 10 rfl) ev_int (by walk_at "xd") (fun _ _ => rfl)) (evs_cons (ev_ix (ev_v 11 rfl) ev_int (by walk_at "xd") (fun _ _ => rfl)) evs_nil))) (Nat.lt_of_lt_of_le (m := 1000) (by rw [List.length_map]; omega) (sl_small (by decide))) ?_
            obtain ⟨i1, i2, i3⟩ := nextB _ lss
            refine go_done (go_nilW ⟨ps' ++ [(s1, s2)], _, _, _, i1, i2, i3, rfl, ?_⟩ rfl) rfl
            unfold oA kvL
            rw [List.map_append, List.map_append]
            rfl
          · have h : keyP (s1, s2) ∈ (kvL ps').map (·.1) := by simpa using h
            have h' : (s1, s2) ∈ ps' := by rw [kvL_keys] at h; exact keys_mem.mp h
            rw [if_pos h'] at lss
            obtain ⟨i1, i2, i3⟩ := nextB _ lss
            exact go_nilW ⟨ps', _, _, _, i1, i2, i3, rfl, rfl⟩ rfl
    · obtain ⟨ps', y9, y10, y11, I', ⟨more, em⟩, bth, rfl, rfl⟩ := W
      have hs : (rng sgs.length).length = sgs.length := by simp [rng]
      rw [hs, List.take_length] at bth
      refine go_nilW ⟨121 - (n + 1), by omega, ps', n + 1, _, I', fun i p hp' hi => ?_, rfl, by rw [em, List.length_append]; omega, rfl, rfl, rfl⟩ rfl
      by_cases e : i = n
      · subst e
        have : ps'[i]? = some (a, b) := by rw [em, List.getElem?_append_left hlt']; exact hp
        rw [hp'] at this
        cases this
        exact ⟨rowi, bth⟩
      · have hi2 : i < ps.length := by omega
        have : ps[i]? = some p := by rw [em, List.getElem?_append_left hi2] at hp'; exact hp'
        obtain ⟨z1, z2⟩ := done i p this (by omega)
        refine ⟨z1, fun c hc => ?_⟩
        rcases z2 c hc with q | ⟨k, a', b', y1, y2, y3⟩
        · exact .inl q
        · exact .inr ⟨k, a', b', y1, y2, by rw [em]; exact List.mem_append_left _ y3⟩
  · have hle : ps.length ≤ n := by have := of_decide_eq_false h; omega
    have al : Alike D1 D2 := lalike cov I (fun p hp => by
      obtain ⟨i, hi⟩ := List.mem_iff_getElem?.mp hp
      have := (List.getElem?_eq_some_iff.mp hi).1
      exact (done i p hi (by omega)).1) (fun p hp => by
      obtain ⟨i, hi⟩ := List.mem_iff_getElem?.mp hp
      have := (List.getElem?_eq_some_iff.mp hi).1
      exact (done i p hi (by omega)).2)
    exact go_ret ev_bl hQ (by rw [alk_iff.mpr al])
end
end Dh
end SDhAlike

section SDhKin
set_option Elab.async false
set_option linter.all false
set_option maxRecDepth 100000
set_option maxHeartbeats 4000000
local macro_rules | `(tactic| walk_at "bd") => `(tactic| first
  | exact Dh.b_in | exact Dh.b_notin | exact Dh.b_eqS | exact Dh.b_neS | exact Dh.b_isN | exact Dh.b_notN | exact Dh.b_add | exact Dh.b_sub | exact Dh.b_lt | exact Dh.b_le | exact Dh.b_gt | exact Dh.b_ge | exact Dh.b_eqI | exact Dh.b_neI | exact Dh.b_eqB | exact Dh.b_neB)
local macro_rules | `(tactic| walk_at "xd") => `(tactic| first | exact Dh.ix_t rfl | exact Dh.ix_l rfl)
namespace Dh
open PySem PySem.Spec PyProof.Rows L2
section
variable {X : Cx} {B0 H0 : Hp} {G G' : List (Option Dt)} {O : List (Addr × Ob)} {rest body : List Stmt} {D : Ends} {c e o : Expr} {pos : Pos} {b : Bool} {j : Nat} {p : Addr} {R : Dt → Prop}
/-- an if without else: what holds behind it -/
theorem go_ifWV {W : List (Option Dt) → List (Addr × Ob) → Prop} (vw : Vw G O G') (h : ET X G' c b) (ht : b = true → Go X B0 H0 G O body { D with nx := InW X.K B0 H0 W }) (hf : b = false → W G O) (k : ∀ G1 O1, W G1 O1 → Go X B0 H0 G1 O1 rest D) : Go X B0 H0 G O (.If c body [] pos :: rest) D :=
  go_if0V vw h (fun e s H a => ⟨fun pins sh I => thn ((ht e s H a).run pins sh I) fun f s' hh => by
    cases f with
    | next => obtain ⟨s2, H2, I2, G1, O1, w, i2⟩ := hh; exact ⟨s2, H2, I2, k G1 O1 w s2 H2 i2⟩
    | ret v => exact hh
    | brk => exact hh
    | cont => exact hh⟩) fun e => k G O (hf e)
/-- y.append(e), e some datum that R takes, read among own things -/
theorem go_appVR {ds : List Dt} {apos cpos : Pos} (vw : Vw G O G') (hy : EV X G o (.raw (.ref p))) (hj : O[j]? = some (p, .lst ds)) (h : EVR X G' e R) (n : ∀ d, R d → nl d = true) (hz : ds.length < sizeLine) (k : ∀ d, R d → Go X B0 H0 G (O.set j (p, .lst (ds ++ [d]))) rest D)
    (hbase : attributeBase o "append" X.env (eval o X.env) = eval o X.env := by rfl)
    (hfew : ((backTo cpos (starEach (e :: []) X.env)).all (fun x => !x.1) && (backToKw cpos (keywordEach [] X.env)).all (fun x => x.1.isSome)
      && decide ((e :: []).length + ([] : List Keyword).length + (if ([] : List Keyword).isEmpty then 0 else 1) < 30)) = true := by rfl)
    (hline : (apos.endLine == cpos.line) = true := by rfl) (hst : starEach (e :: []) X.env = (false, eval e X.env) :: starEach [] X.env := by rfl) (hplain : (backTo cpos (starEach [] X.env)).any (·.1) = false := by rfl)
    (hs : swapsWith (.Call (.Attribute o "append" apos) [e] [] cpos) none pos.line X.env = pure false := by rfl) : Go X B0 H0 G O (.Expr (.Call (.Attribute o "append" apos) [e] [] cpos) pos :: rest) D := fun s H ⟨B, a⟩ =>
  run_c (ps_expr (pe_bm PySem.F.plainAttrs_list PySem.F.slot_list_append PySem.F.type_list_append mt_append pe_wk (pa_cons pe_wk pa_nil hst) hbase hfew hline hst hplain) hs) (hy s B H a.sl a.gr.s _ fun v B1 H1 g1 r1 => by
    have a1 := a.grow g1
    obtain ⟨b1, b2, xs, hx, rx⟩ := a1.ow p _ (List.mem_of_getElem? hj)
    rw [show v = .ref p from r1]
    obtain ⟨v1, v2, v3, v4⟩ := a1.view vw
    refine ⟨.inl ⟨rfl, xs, .of hx⟩, h s _ H1 v1 v2 _ fun d w B2 H2 hd g2 r2 => ?_⟩
    obtain ⟨a2, _, w3⟩ := v4 B2 H2 g2
    have hx2 : H2 p = some (.lst xs) := g2.h _ _ hx
    obtain ⟨c1, c2, xs', hx', rx'⟩ := a2.ow p _ (List.mem_of_getElem? hj)
    rw [hx2] at hx'
    cases hx'
    refine ⟨p, xs, w, rfl, rfl, hx2, by rw [rx.length]; exact hz, ?_⟩
    exact k d hd _ _ ⟨_, a2.put hj ⟨xs ++ [w], upd_same, rx'.snoc (w3 d w (n d hd) r2)⟩⟩)
end
theorem ev_callR' {X : Cx} {G : List (Option Dt)} {e : Expr} {es : List Expr} {ds : List Dt} {pos p : Pos} {x : Str} {k : Nat} {ps : List Str} {T : Type} {args : T → List Dt} {pre : T → Prop} {res : T → Dt → Prop} {R : Dt → Prop} (F : Cal X.prog X.w X.K X.mg X.base k x ps (spT X.K args pre res)) (hr : Room k X.A) (ha : EVs X G (e :: es) ds) (i : T) (hi : ds = args i) (hp : pre i) (h : ∀ d, res i d → R d) (hg : Gl X x)
    (hdb : (x == ("__debug__" : Str)) = false := by decide) (he : starEach (e :: es) X.env = (false, eval e X.env) :: starEach es X.env := by rfl) (hpl : (backTo pos (starEach es X.env)).any (·.1) = false := by rfl) :
    EVR X G (.Call (.Name x p) (e :: es) [] pos) R := EVR.mono (ev_callR F hr ha i hi hp hg hdb he hpl) h
theorem cutS_to {l : List Nat} {k : Nat} : cutS (S l) none (some (k : Int)) = S (l.take k) := by
  unfold cutS
  rw [HT.sIx_none, HT.sIx_nat, S_len, S_cps, List.drop_zero, Nat.sub_zero]
  rcases Nat.le_total k l.length with h | h
  · rw [Nat.min_eq_left h]
  · rw [Nat.min_eq_right h, List.take_of_length_le (Nat.le_refl _), List.take_of_length_le h]
theorem nodup_rev {l : List Nat} (h : l.Nodup) : l.reverse.Nodup := List.pairwise_reverse.mpr (h.imp fun n => n.symm)
theorem Ok.rev0 {D : Dia} (h : Ok D) : Ok { D with parts := D.parts.reverse } := ⟨by show 1 ≤ D.parts.reverse.length; rw [List.length_reverse]; exact h.p1, by show D.parts.reverse.length ≤ 3; rw [List.length_reverse]; exact h.p3, nodup_rev h.pn, fun c hc => h.pp c (List.mem_reverse.mp hc), h.q2, h.qn, h.qp, h.f2, h.fn, h.fp⟩
theorem Ok.rev1 {D : Dia} (h : Ok D) : Ok { D with quotes := D.quotes.reverse } := ⟨h.p1, h.p3, h.pn, h.pp, by show D.quotes.reverse.length ≤ 2; rw [List.length_reverse]; exact h.q2, nodup_rev h.qn, fun c hc => h.qp c (List.mem_reverse.mp hc), h.f2, h.fn, h.fp⟩
theorem Ok.rev2 {D : Dia} (h : Ok D) : Ok { D with frees := D.frees.reverse } := ⟨h.p1, h.p3, h.pn, h.pp, h.q2, h.qn, h.qp, by show D.frees.reverse.length ≤ 2; rw [List.length_reverse]; exact h.f2, nodup_rev h.fn, fun c hc => h.fp c (List.mem_reverse.mp hc)⟩
theorem Ok.flag {D : Dia} (h : Ok D) (a b c d : Bool) : Ok ⟨D.parts, D.quotes, D.frees, a, b, c, d⟩ := ⟨h.p1, h.p3, h.pn, h.pp, h.q2, h.qn, h.qp, h.f2, h.fn, h.fp⟩
theorem take1_len (l : List Nat) : (l.take 1).length ≤ 2 := by rw [List.length_take]; omega
theorem Ok.qf {D : Dia} (h : Ok D) : Ok { D with frees := D.quotes.take 1 } := ⟨h.p1, h.p3, h.pn, h.pp, h.q2, h.qn, h.qp, take1_len _, h.qn.sublist (List.take_sublist _ _), fun c hc => h.qp c (List.mem_of_mem_take hc)⟩
theorem Ok.qq {D : Dia} (h : Ok D) : Ok { D with quotes := D.quotes.take 1 } := ⟨h.p1, h.p3, h.pn, h.pp, take1_len _, h.qn.sublist (List.take_sublist _ _), fun c hc => h.qp c (List.mem_of_mem_take hc), h.f2, h.fn, h.fp⟩
abbrev t7 (D : Dia) : List Dt := [.str (S D.parts), .str (S D.quotes), .str (S D.frees), .bl D.twin, .bl D.wide, .bl D.thin, .bl D.stray]
def WK (D0 : Dia) (x way : Int) (p : Addr) (G : List (Option Dt)) (O : List (Addr × Ob)) : Prop := ∃ D, Ok D ∧ G = [some (encT7 D0), some (.int x), some (.int way), some (.raw (.ref p))] ∧ O = [(p, .lst (t7 D))]
section
variable {P : Program} {w : World} {K : PySem.W.Frag} {mg : Str → Option Value} {base : Heap} {f : Addr} {fd : FuncData} {A : Ad}
abbrev spKin (K : PySem.W.Frag) : Sp := spT K (T := Dia × Int) (fun i => [encT7 i.1, .int i.2]) (fun i => Ok i.1) (fun i d => ∃ D, d = encT7 D ∧ Ok D)
theorem ok_law_kin (F : FnP K "_law_kin" "_law_kin" s_law_kin f fd) (T : Tx K mg A) : FnOk P w K mg base CX0 1 f fd ["_law_told_here", "_law_x"] (spKin K) := by
  refine fn_ok F sc_law_kin (fun _ => rfl) fun ⟨D0, x⟩ cdv A' outer sh H0 E B0 D' hr hp hn hQ => ?_
  have ok0 : Ok D0 := hp
  refine go_set (i := 2) (ev_bin (ev_v 1 rfl) ev_int (b_mod (by decide))) ?_ sc_law_kin.nd rfl (.inl rfl)
  obtain ⟨w0, w1⟩ := mod_b x (m := 12) (by decide)
  generalize x % 12 = way at w0 w1 ⊢
  refine go_listOwn (i := 3) (ds := t7 D0) (ev_v 0 rfl) (fun p => ?_) rfl T.b_list boot_list sc_law_kin.nd rfl (.inl rfl)
  have sz : ∀ {l : List Nat}, l.length ≤ 3 → l.length ≤ sizeLine := fun h => sl_small (by omega)
  refine go_ifWV (W := WK D0 x way p) Vw.refl (et_cmp (ev_v 2 rfl) ev_int b_lt (nomark _)) (fun h => ?_) (fun _ => ⟨D0, ok0, rfl, rfl⟩) (fun G1 O1 W => ?_)
  · have h : way < 3 := of_decide_eq_true h
    obtain h | h | h : way = 0 ∨ way = 1 ∨ way = 2 := by omega
    · subst h
      refine go_putLV (j := 0) (m := 0) (Vw.refl.set (j := 0) (i := 3) rfl rfl rfl) (ev_revS (l := D0.parts) (sz ok0.p3) (ev_ix (ev_v 3 rfl) (ev_v 2 rfl) (ix_l rfl) (fun _ _ => rfl))) rfl (ev_v 3 rfl) rfl (ev_v 2 rfl) rfl ?_
      exact go_nilW ⟨{ D0 with parts := D0.parts.reverse }, ok0.rev0, rfl, rfl⟩ rfl
    · subst h
      refine go_putLV (j := 0) (m := 1) (Vw.refl.set (j := 0) (i := 3) rfl rfl rfl) (ev_revS (l := D0.quotes) (sz (Nat.le_succ_of_le ok0.q2)) (ev_ix (ev_v 3 rfl) (ev_v 2 rfl) (ix_l rfl) (fun _ _ => rfl))) rfl (ev_v 3 rfl) rfl (ev_v 2 rfl) rfl ?_
      exact go_nilW ⟨{ D0 with quotes := D0.quotes.reverse }, ok0.rev1, rfl, rfl⟩ rfl
    · subst h
      refine go_putLV (j := 0) (m := 2) (Vw.refl.set (j := 0) (i := 3) rfl rfl rfl) (ev_revS (l := D0.frees) (sz (Nat.le_succ_of_le ok0.f2)) (ev_ix (ev_v 3 rfl) (ev_v 2 rfl) (ix_l rfl) (fun _ _ => rfl))) rfl (ev_v 3 rfl) rfl (ev_v 2 rfl) rfl ?_
      exact go_nilW ⟨{ D0 with frees := D0.frees.reverse }, ok0.rev2, rfl, rfl⟩ rfl
  obtain ⟨D, ok, rfl, rfl⟩ := W
  refine go_ifWV (W := WK D0 x way p) (Vw.refl.set (j := 0) (i := 3) rfl rfl rfl) (EW.pt (ew_and (et_cmp (ev_v 2 rfl) ev_int b_eqI (nomark _)) fun h => (ew_and1 (et_cmp (ev_ix (ev_v 3 rfl) ev_int (ix_l rfl) (fun _ _ => rfl)) ev_str b_eqS (nomark _))))) (fun h => ?_) (fun _ => ⟨D, ok, rfl, rfl⟩) (fun G1 O1 W => ?_)
  · refine go_putLV (j := 0) (m := 3) (Vw.refl.set (j := 0) (i := 3) rfl rfl rfl) (ev_not (t := D.twin) (ev_ix (ev_v 3 rfl) ev_int (ix_l rfl) (fun _ _ => rfl))) rfl (ev_v 3 rfl) rfl ev_int rfl ?_
    exact go_nilW ⟨⟨D.parts, D.quotes, D.frees, !D.twin, D.wide, D.thin, D.stray⟩, ok.flag _ _ _ _, rfl, rfl⟩ rfl
  clear ok
  obtain ⟨D, ok, rfl, rfl⟩ := W
  refine go_ifWV (W := WK D0 x way p) (Vw.refl.set (j := 0) (i := 3) rfl rfl rfl) (EW.pt (ew_and (et_cmp (ev_v 2 rfl) ev_int b_eqI (nomark _)) fun h => (ew_and1 (et_cmp (ev_addS (ev_ix (ev_v 3 rfl) ev_int (ix_l (d := .str (S D.quotes)) rfl) (fun _ _ => rfl)) (ev_ix (ev_v 3 rfl) ev_int (ix_l (d := .str (S D.frees)) rfl) (fun _ _ => rfl)) (sl_small (by have := ok.q2; have := ok.f2; omega))) ev_str b_eqS (nomark _))))) (fun h => ?_) (fun _ => ⟨D, ok, rfl, rfl⟩) (fun G1 O1 W => ?_)
  · refine go_putLV (j := 0) (m := 4) (Vw.refl.set (j := 0) (i := 3) rfl rfl rfl) (ev_not (t := D.wide) (ev_ix (ev_v 3 rfl) ev_int (ix_l rfl) (fun _ _ => rfl))) rfl (ev_v 3 rfl) rfl ev_int rfl ?_
    exact go_nilW ⟨⟨D.parts, D.quotes, D.frees, D.twin, !D.wide, D.thin, D.stray⟩, ok.flag _ _ _ _, rfl, rfl⟩ rfl
  clear ok
  obtain ⟨D, ok, rfl, rfl⟩ := W
  refine go_ifWV (W := WK D0 x way p) Vw.refl (EW.pt (ew_and (et_cmp (ev_v 2 rfl) ev_int b_gt (nomark _)) fun h => (ew_and1 (et_cmp (ev_v 2 rfl) ev_int b_lt (nomark _))))) (fun h => ?_) (fun _ => ⟨D, ok, rfl, rfl⟩) (fun G1 O1 W => ?_)
  · rw [Bool.and_eq_true] at h
    have h1 : 4 < way := of_decide_eq_true h.1
    have h2 : way < 9 := of_decide_eq_true h.2
    obtain h | h | h | h : way = 5 ∨ way = 6 ∨ way = 7 ∨ way = 8 := by omega
    · subst h
      refine go_putLV (j := 0) (k := 5 - 2) (m := 3) (Vw.refl.set (j := 0) (i := 3) rfl rfl rfl) (ev_not (t := D.twin) (ev_ix (ev_v 3 rfl) (ev_bin (ev_v 2 rfl) ev_int b_sub) (ix_l rfl) (fun _ _ => rfl))) rfl (ev_v 3 rfl) rfl (ev_bin (ev_v 2 rfl) ev_int b_sub) rfl ?_
      exact go_nilW ⟨⟨D.parts, D.quotes, D.frees, !D.twin, D.wide, D.thin, D.stray⟩, ok.flag _ _ _ _, rfl, rfl⟩ rfl
    · subst h
      refine go_putLV (j := 0) (k := 6 - 2) (m := 4) (Vw.refl.set (j := 0) (i := 3) rfl rfl rfl) (ev_not (t := D.wide) (ev_ix (ev_v 3 rfl) (ev_bin (ev_v 2 rfl) ev_int b_sub) (ix_l rfl) (fun _ _ => rfl))) rfl (ev_v 3 rfl) rfl (ev_bin (ev_v 2 rfl) ev_int b_sub) rfl ?_
      exact go_nilW ⟨⟨D.parts, D.quotes, D.frees, D.twin, !D.wide, D.thin, D.stray⟩, ok.flag _ _ _ _, rfl, rfl⟩ rfl
    · subst h
      refine go_putLV (j := 0) (k := 7 - 2) (m := 5) (Vw.refl.set (j := 0) (i := 3) rfl rfl rfl) (ev_not (t := D.thin) (ev_ix (ev_v 3 rfl) (ev_bin (ev_v 2 rfl) ev_int b_sub) (ix_l rfl) (fun _ _ => rfl))) rfl (ev_v 3 rfl) rfl (ev_bin (ev_v 2 rfl) ev_int b_sub) rfl ?_
      exact go_nilW ⟨⟨D.parts, D.quotes, D.frees, D.twin, D.wide, !D.thin, D.stray⟩, ok.flag _ _ _ _, rfl, rfl⟩ rfl
    · subst h
      refine go_putLV (j := 0) (k := 8 - 2) (m := 6) (Vw.refl.set (j := 0) (i := 3) rfl rfl rfl) (ev_not (t := D.stray) (ev_ix (ev_v 3 rfl) (ev_bin (ev_v 2 rfl) ev_int b_sub) (ix_l rfl) (fun _ _ => rfl))) rfl (ev_v 3 rfl) rfl (ev_bin (ev_v 2 rfl) ev_int b_sub) rfl ?_
      exact go_nilW ⟨⟨D.parts, D.quotes, D.frees, D.twin, D.wide, D.thin, !D.stray⟩, ok.flag _ _ _ _, rfl, rfl⟩ rfl
  clear ok
  obtain ⟨D, ok, rfl, rfl⟩ := W
  have cut1 : cutS (S D.quotes) none (some 1) = S (D.quotes.take 1) := cutS_to (k := 1)
  refine go_ifWV (W := WK D0 x way p) Vw.refl (et_cmp (ev_v 2 rfl) ev_int b_eqI (nomark _)) (fun h => ?_) (fun _ => ⟨D, ok, rfl, rfl⟩) (fun G1 O1 W => ?_)
  · refine go_putLV (j := 0) (m := 2) (Vw.refl.set (j := 0) (i := 3) rfl rfl rfl) (EV.to (ev_slice (ev_ix (ev_v 3 rfl) ev_int (ix_l (d := .str (S D.quotes)) rfl) (fun _ _ => rfl)) rfl ⟨_, rfl, ev_int⟩ (sl_s (by rw [S_len]; exact sz (Nat.le_succ_of_le ok.q2)))) (congrArg Dt.str cut1)) rfl (ev_v 3 rfl) rfl ev_int rfl ?_
    exact go_nilW ⟨{ D with frees := D.quotes.take 1 }, ok.qf, rfl, rfl⟩ rfl
  clear ok cut1
  obtain ⟨D, ok, rfl, rfl⟩ := W
  have cut1 : cutS (S D.quotes) none (some 1) = S (D.quotes.take 1) := cutS_to (k := 1)
  refine go_ifWV (W := WK D0 x way p) Vw.refl (et_cmp (ev_v 2 rfl) ev_int b_eqI (nomark _)) (fun h => ?_) (fun _ => ⟨D, ok, rfl, rfl⟩) (fun G1 O1 W => ?_)
  · refine go_putLV (j := 0) (m := 1) (Vw.refl.set (j := 0) (i := 3) rfl rfl rfl) (EV.to (ev_slice (ev_ix (ev_v 3 rfl) ev_int (ix_l (d := .str (S D.quotes)) rfl) (fun _ _ => rfl)) rfl ⟨_, rfl, ev_int⟩ (sl_s (by rw [S_len]; exact sz (Nat.le_succ_of_le ok.q2)))) (congrArg Dt.str cut1)) rfl (ev_v 3 rfl) rfl ev_int rfl ?_
    exact go_nilW ⟨{ D with quotes := D.quotes.take 1 }, ok.qq, rfl, rfl⟩ rfl
  clear ok cut1
  obtain ⟨D, ok, rfl, rfl⟩ := W
  refine go_frz (j := 0) (G' := [none, none, none, some (.lst (t7 D))]) rfl rfl (fun i d hi => ?_) ?_
  · match i with
    | 0 => cases hi
    | 1 => cases hi
    | 2 => cases hi
    | 3 => cases hi; exact .inr ⟨rfl, rfl⟩
    | n + 4 => cases hi
  exact go_ret (ev_callTy (c_tupL (l := t7 D)) rfl T.b_tuple boot_tuple (evs_cons (ev_v 3 rfl) evs_nil)) hQ ⟨D, rfl, ok⟩
abbrev spTolds (K : PySem.W.Frag) : Sp := spT K (T := List Int × Nat) (fun i => [.lst (i.1.map .int), natD i.2]) (fun i => i.2 ≤ 4) (fun i d => ∃ Ds : List Dia, d = .lst (Ds.map encT7) ∧ Ds.length = i.2 ∧ ∀ D ∈ Ds, Ok D)
theorem ok_law_tolds (F : FnP K "_law_tolds" "_law_tolds" s_law_tolds f fd) (T : Tx K mg A) (F_cell : Cal P w K mg base 1 "_law_cell_at" ["_law_script", "_law_k"] (spCell K)) (F_drawn : Cal P w K mg base 2 "_law_drawn" ["_law_cell", "_law_many"] (spDrawn K)) (F_told : Cal P w K mg base 3 "_law_told" ["_law_cell"] (spTold7 K)) (F_kin : Cal P w K mg base 1 "_law_kin" ["_law_told_here", "_law_x"] (spKin K)) :
    FnOk P w K mg base CX0 4 f fd ["_law_cells", "_law_many"] (spTolds K) := by
  refine fn_ok F sc_law_tolds (fun _ => rfl) fun ⟨ns, many⟩ cdv A' outer sh H0 E B0 D' hr hp hn hQ => ?_
  have hm : many ≤ 4 := hp
  have r3 : Room 3 _ := hr
  have r2 : Room 2 _ := hr.mono (by decide)
  have r1 : Room 1 _ := hr.mono (by decide)
  have hu := hr.units
  refine go_new (i := 2) evs_nil (fun p2 => ?_) sc_law_tolds.nd rfl (.inl rfl)
  refine go_for PassesOwn.never rfl (pit_range (n := many) (ev_v 1 rfl) (by omega) rfl T.b_range) (fun j G O => ∃ (Ds : List Dia) (x3 x4 x5 : Option Dt), Ds.length = j ∧ (∀ D ∈ Ds, Ok D) ∧ G = [some (.lst (ns.map .int)), some (natD many), some (.raw (.ref p2)), x3, x4, x5] ∧ O = [(p2, .lst (Ds.map encT7))])
    ⟨[], none, none, none, rfl, fun D h => (by cases h), rfl, rfl⟩ (fun B1 u j d G1 O1 hd W => ?_) (fun G1 O1 W => ?_)
  · obtain ⟨Ds, x3, x4, x5, dl, oks, rfl, rfl⟩ := W
    obtain ⟨hj, rfl⟩ := rng_get hd
    have small : (Ds.map encT7).length < sizeLine := Nat.lt_of_lt_of_le (m := 10) (by rw [List.length_map]; omega) (sl_small (by decide))
    have add : ∀ {D : Dia}, Ok D → ∀ D2 ∈ Ds ++ [D], Ok D2 := fun ok D2 h => by
      rcases List.mem_append.mp h with h | h
      · exact oks D2 h
      · rw [List.mem_singleton] at h; subst h; exact ok
    have nlt : ∀ d : Dt, (∃ D, d = encT7 D ∧ Ok D) → nl d = true := fun d ⟨D, e, _⟩ => by rw [e]; rfl
    refine ⟨_, (tgt_name (i := 3) sc_law_tolds.nd rfl (.inl rfl)), ?_⟩
    have mp : (0 : Int) < (if ((ns.map Dt.int).length : Int) > 1 then ((ns.map Dt.int).length : Int) else 1) := by split <;> omega
    generalize hmx : (if ((ns.map Dt.int).length : Int) > 1 then ((ns.map Dt.int).length : Int) else 1) = mx at mp
    refine go_set (i := 4) (ev_bin (ev_call F_cell r1 (evs_cons (ev_v 0 rfl) (evs_cons (EV.to (ev_bin (ev_v 3 rfl) (EV.to (ev_callB (c_max2 rfl) rfl T.b_max boot_max (evs_cons ev_int (evs_cons (ev_callB c_lenL rfl T.b_len boot_len (evs_cons (ev_v 0 rfl) evs_nil)) evs_nil))) (congrArg Dt.int hmx)) (b_mod mp)) (int_nat (Int.emod_nonneg _ (by omega)))) evs_nil)) (ns, _) rfl rfl trivial rfl) (ev_bin ev_int (ev_v 3 rfl) (b_mul (.inl ⟨by decide, by decide⟩))) b_add) ?_ sc_law_tolds.nd rfl (.inl rfl)
    refine go_setR (i := 5) (ev_callR F_drawn r2 (evs_cons (ev_v 4 rfl) (evs_cons (EV.to ev_int (show Dt.int 2 = natD 2 from rfl)) evs_nil)) (_, 2) rfl (by show 2 ≤ 100; decide) rfl) (fun d hd => ?_) sc_law_tolds.nd rfl (.inl rfl)
    obtain ⟨xs, rfl, xl⟩ := hd
    obtain ⟨a, b, rfl⟩ : ∃ a b, xs = [a, b] := by
      match xs, xl with
      | [a, b], _ => exact ⟨a, b, rfl⟩
    refine go_ifV (Vw.refl.set (j := 0) (i := 2) rfl rfl rfl) (EW.pt (ew_or (et_cmp (ev_v 2 rfl) (ev_lst evs_nil) (b_eqNil hu) (nomark _)) fun h => (ew_or1 (et_cmp (ev_bin (ev_ix (ev_v 5 rfl) ev_int (ix_l (d := .int a) rfl) (fun _ _ => rfl)) ev_int (b_mod (by decide))) ev_int b_eqI (nomark _))))) (fun h => ?_) (fun h => ?_)
    · refine go_appVR (R := fun d => ∃ D, d = encT7 D ∧ Ok D) (j := 0) Vw.refl (ev_v 2 rfl) rfl ?_ nlt small (fun d hd => ?_)
      · exact ev_callR' F_told r3 (evs_cons (ev_bin (ev_v 4 rfl) ev_int (b_fdiv ⟨by decide, by decide⟩)) evs_nil) _ rfl trivial (fun d hd => hd) rfl
      obtain ⟨D, rfl, ok⟩ := hd
      exact go_done (go_nilW ⟨Ds ++ [D], _, _, _, by rw [List.length_append, dl]; rfl, add ok, rfl, by rw [List.map_append]; rfl⟩ rfl) rfl
    · have ne : 0 < Ds.length := by
        cases Ds with
        | nil => exact absurd (show true = false from h) (by decide)
        | cons _ _ => exact Nat.succ_pos _
      obtain ⟨q1, q2⟩ := mod_b b (m := ((Ds.map encT7).length : Int)) (by rw [List.length_map]; omega)
      have hl : ((Ds.map encT7).length : Int) = (Ds.length : Int) := by rw [List.length_map]
      obtain ⟨i, hi⟩ : ∃ i : Nat, b % ((Ds.map encT7).length : Int) = (i : Int) := ⟨_, (Int.toNat_of_nonneg q1).symm⟩
      have il : i < Ds.length := by omega
      have hD : Ds[i]? = some Ds[i] := List.getElem?_eq_getElem il
      have okD := oks _ (List.getElem_mem il)
      generalize Ds[i] = D at hD okD
      refine go_appVR (R := fun d => ∃ D, d = encT7 D ∧ Ok D) (j := 0) (Vw.refl.set (j := 0) (i := 2) rfl rfl rfl) (ev_v 2 rfl) rfl ?_ nlt small (fun d hd => ?_)
      · exact ev_callR' F_kin r1 (evs_cons (ev_ix (d := encT7 D) (ev_v 2 rfl) (ev_bin (ev_ix (ev_v 5 rfl) ev_int (ix_l (d := .int b) rfl) (fun _ _ => rfl)) (ev_callB c_lenL rfl T.b_len boot_len (evs_cons (ev_v 2 rfl) evs_nil)) (b_mod (by omega))) (by
        rw [hi]
        exact ix_l (atI_nat (by rw [List.getElem?_map, hD]; rfl))) (fun _ _ => rfl)) (evs_cons (ev_bin (ev_ix (ev_v 5 rfl) ev_int (ix_l (d := .int b) rfl) (fun _ _ => rfl)) ev_int (b_fdiv ⟨by decide, by decide⟩)) evs_nil)) (D, _) rfl okD (fun d hd => hd) rfl
      obtain ⟨D2, rfl, ok⟩ := hd
      exact go_done (go_nilW ⟨Ds ++ [D2], _, _, _, by rw [List.length_append, dl]; rfl, add ok, rfl, by rw [List.map_append]; rfl⟩ rfl) rfl
  · obtain ⟨Ds, x3, x4, x5, dl, oks, rfl, rfl⟩ := W
    have e : (rng many).length = many := by simp [rng]
    rw [e] at dl
    refine go_frz (j := 0) (G' := [none, none, some (.lst (Ds.map encT7)), none, none, none]) rfl rfl (fun i d hi => ?_) ?_
    · match i with
      | 0 => cases hi
      | 1 => cases hi
      | 2 => cases hi; exact .inr ⟨rfl, rfl⟩
      | 3 => cases hi
      | 4 => cases hi
      | 5 => cases hi
      | n + 6 => cases hi
    exact go_ret (ev_v 2 rfl) hQ ⟨Ds, rfl, dl, oks⟩
end
end Dh
end SDhKin

section SDhLGroups
set_option Elab.async false
set_option linter.all false
set_option maxRecDepth 100000
set_option maxHeartbeats 4000000
local macro_rules | `(tactic| walk_at "bd") => `(tactic| first
  | exact Dh.b_in | exact Dh.b_notin | exact Dh.b_eqS | exact Dh.b_neS | exact Dh.b_isN | exact Dh.b_notN | exact Dh.b_add | exact Dh.b_sub | exact Dh.b_lt | exact Dh.b_le | exact Dh.b_gt | exact Dh.b_ge | exact Dh.b_eqI | exact Dh.b_neI | exact Dh.b_eqB | exact Dh.b_neB)
local macro_rules | `(tactic| walk_at "xd") => `(tactic| first | exact Dh.ix_t rfl | exact Dh.ix_l rfl)
namespace Dh
open PySem PySem.Spec PyProof.Rows L2
abbrev hdP (al : Nat → Nat → Bool) (p : Nat) (x : Addr × List Nat) : Bool := al (x.2.headD 0) p
theorem first_at {al : Nat → Nat → Bool} {p : Nat} : ∀ {qs : List Addr} {gs : List (List Nat)}, qs.length = gs.length →
    (gs.findIdx? (fun g => al (g.headD 0) p) = none ∧ (qs.zip gs).filter (hdP al p) = []) ∨ ∃ i q g r, gs.findIdx? (fun g => al (g.headD 0) p) = some i ∧ qs[i]? = some q ∧ gs[i]? = some g ∧ (qs.zip gs).filter (hdP al p) = (q, g) :: r
  | [], [], _ => .inl ⟨rfl, rfl⟩
  | [], g :: gs, h => by simp at h
  | q :: qs, [], h => by simp at h
  | q :: qs, g :: gs, h => by
    have ih := first_at (al := al) (p := p) (qs := qs) (gs := gs) (by simpa using h)
    rw [List.findIdx?_cons, List.zip_cons_cons]
    by_cases z : al (g.headD 0) p = true
    · rw [if_pos z, List.filter_cons_of_pos (show hdP al p (q, g) = true from z)]
      exact .inr ⟨0, q, g, _, rfl, rfl, rfl, rfl⟩
    · rw [if_neg z, List.filter_cons_of_neg (show ¬ hdP al p (q, g) = true from z)]
      rcases ih with ⟨h1, h2⟩ | ⟨i, q', g', r, h1, h2, h3, h4⟩
      · exact .inl ⟨by rw [h1]; rfl, h2⟩
      · exact .inr ⟨i + 1, q', g', r, by rw [h1]; rfl, h2, h3, h4⟩
theorem zip_raw {qs : List Addr} {gs : List (List Nat)} (h : qs.length = gs.length) : (qs.map fun q => Dt.raw (.ref q)) = (qs.zip gs).map fun x => Dt.raw (.ref x.1) := by
  have e : ((qs.zip gs).map Prod.fst) = qs := List.map_fst_zip (by omega)
  rw [show (fun x : Addr × List Nat => Dt.raw (.ref x.1)) = (fun q => Dt.raw (.ref q)) ∘ Prod.fst from rfl, ← List.map_map, e]
theorem oM_hd {p : Addr} {qs : List Addr} {gs : List (List Nat)} (h : qs.length = gs.length) : (oM p qs gs)[0]? = some (p, .lst ((qs.zip gs).map fun x => Dt.raw (.ref x.1))) := by
  unfold oM
  rw [← zip_raw h]; rfl
theorem zip_at {qs : List Addr} {gs : List (List Nat)} {x : Addr × List Nat} (h : x ∈ qs.zip gs) : ∃ k : Nat, qs[k]? = some x.1 ∧ gs[k]? = some x.2 := by
  obtain ⟨k, hk⟩ := List.mem_iff_getElem?.mp h
  exact ⟨k, List.getElem?_zip_eq_some.mp hk⟩
section
variable {P : Program} {w : World} {K : PySem.W.Frag} {mg : Str → Option Value} {base : Heap} {f : Addr} {fd : FuncData} {A : Ad}
abbrev spLgroups (K : PySem.W.Frag) : Sp := spT K (T := List Dia) (fun Ds => [.lst (Ds.map encT7)]) (fun Ds => Ds.length ≤ 8 ∧ ∀ D ∈ Ds, Ok D) (fun Ds d => d = .lst ((pgo (alI Ds) (List.range Ds.length)).map grpD))
theorem ok_law_groups (F : FnP K "_law_groups" "_law_groups" s_law_groups f fd) (T : Tx K mg A) (F_alike : Cal P w K mg base 4 "_law_alike" ["_law_one", "_law_other"] (spLalike K)) : FnOk P w K mg base CX0 5 f fd ["_law_tolds_here"] (spLgroups K) := by
  refine fn_ok F sc_law_groups (fun _ => rfl) fun Ds cdv A' outer sh H0 E B0 D' hr hp hn hQ => ?_
  obtain ⟨len, ok⟩ := hp
  have r4 : Room 4 _ := hr
  have hu := hr.units
  have big : ∀ n, n ≤ 100 → n < sizeLine := fun n h => Nat.lt_of_lt_of_le (m := 101) (by omega) (sl_small (by decide))
  have ld : Dt.int (((Ds.map encT7).length : Nat) : Int) = natD Ds.length := by rw [List.length_map]
  refine go_new (i := 1) evs_nil (fun p1 => ?_) sc_law_groups.nd rfl (.inl rfl)
  refine go_for PassesOwn.never rfl (pit_range (n := Ds.length) (EV.to (ev_callB (c_lenL (l := Ds.map encT7)) rfl T.b_len boot_len (evs_cons (ev_v 0 rfl) evs_nil)) ld) (by omega) rfl T.b_range) (fun j G O => ∃ qs x2 x3, qs.length = (pgo (alI Ds) (List.range j)).length ∧ G = [some (.lst (Ds.map encT7)), some (.raw (.ref p1)), x2, x3, none] ∧ O = oM p1 qs (pgo (alI Ds) (List.range j)))
    ⟨[], none, none, rfl, rfl, rfl⟩ (fun B1 u j d G1 O1 hd W => ?_) (fun G1 O1 W => ?_)
  · obtain ⟨qs, x2, x3, ql, rfl, rfl⟩ := W
    obtain ⟨hj, rfl⟩ := rng_get hd
    have hD : Ds[j]? = some Ds[j] := List.getElem?_eq_getElem hj
    have okD : Ok Ds[j] := ok _ (List.getElem_mem hj)
    generalize Ds[j] = D at hD okD
    have PG := pg_go (alI_eqv Ds) (List.range j)
    have gl := pgo_len (alI_eqv Ds) (List.range j)
    rw [List.length_range] at gl
    rw [pgo_succ]
    generalize pgo (alI Ds) (List.range j) = gs at ql PG gl
    refine ⟨_, (tgt_name (i := 2) sc_law_groups.nd rfl (.inr rfl)), ?_⟩
    have ixD : ∀ {i : Nat} {D : Dia}, Ds[i]? = some D → atI (Ds.map encT7) ((i : Nat) : Int) = some (encT7 D) := fun h => atI_nat (by rw [List.getElem?_map, h]; rfl)
    refine go_setLcV (xs := qs.zip gs) (qa := fun x => x.1) (P := hdP (alI Ds) j) (i := 4) (n := 3) (ev_v 1 rfl) (oM_hd ql) (by show 4 < 5; decide) (fun x hx => ?_) (fun x hx _ _ _ _ _ => ev_v 4 rfl) (by rw [List.length_zip]; exact sl_small (by omega)) (fun r => ?_) rfl sc_law_groups.nd rfl rfl rfl (blkOk_by rfl) (fun _ _ _ _ _ => pg_name (i := 4) sc_law_groups.nd rfl (.inl rfl))
    · obtain ⟨k, hq, hg⟩ := zip_at hx
      obtain ⟨q, g⟩ := x
      have hq : qs[k]? = some q := hq
      have hg : gs[k]? = some g := hg
      have hgm := List.mem_of_getElem? hg
      have hh := PG.head hgm
      have hhj := List.mem_range.mp hh.2
      have hDg : Ds[g.headD 0]? = some Ds[g.headD 0] := List.getElem?_eq_getElem (by omega)
      have okg : Ok Ds[g.headD 0] := ok _ (List.getElem_mem _)
      generalize Ds[g.headD 0] = Dg at hDg okg
      have al1 : alI Ds (g.headD 0) j = alk Dg D := alI_at hDg hD
      have ixg : atI (g.map fun n => Dt.int (n : Nat)) 0 = some (.int ((g.headD 0 : Nat) : Int)) := by
        cases g with
        | nil => exact absurd rfl (PG.ne _ hgm)
        | cons x r => exact atI_nat (j := 0) rfl
      refine ⟨_, Vw.refl.set (j := k + 1) (i := 4) (oM_get hq hg) rfl rfl, fun _ _ _ _ _ => ?_⟩
      refine ets_one (ET.to (et_val (ev_call F_alike r4 (evs_cons (ev_ix (ev_v 0 rfl) (ev_ix (ev_v 4 rfl) ev_int (ix_l ixg) (fun _ _ => rfl)) (ix_l (ixD hDg)) (fun _ _ => rfl)) (evs_cons (ev_ix (ev_v 0 rfl) (ev_v 2 rfl) (ix_l (ixD hD)) (fun _ _ => rfl)) evs_nil)) (Dg, D) rfl rfl ⟨okg, okD⟩ rfl)) al1.symm)
    rcases first_at (al := alI Ds) (p := j) ql with ⟨e1, e2⟩ | ⟨i, q, g, rest, e1, hq, hg, e2⟩
    · rw [e2]
      unfold addG
      rw [e1]
      refine go_ifV (Vw.refl.set (j := 0) (i := 3) rfl rfl rfl) (et_cmp (ev_v 3 rfl) (ev_lst evs_nil) (b_eqNil hu) (nomark _)) (fun h => ?_) (fun h => nomatch h)
      refine go_drop (List.sublist_cons_self _ _) ?_
      refine go_appNew (j := 0) (dsi := [.int (j : Nat)]) (ev_v 1 rfl) rfl (evs_cons (ev_v 2 rfl) evs_nil) (big _ (by rw [List.length_map, ql]; omega)) fun q => ?_
      refine go_perm (oM_new ql) ?_
      exact go_done (go_nilW ⟨qs ++ [q], _, _, by simp [ql], rfl, rfl⟩ rfl) rfl
    · rw [e2]
      unfold addG
      rw [e1]
      have hgl : g.length ≤ 8 := by
        have : g.length ≤ (List.range j).length := by
          rw [PG.eq _ (List.mem_of_getElem? hg)]
          exact List.length_filter_le _ _
        rw [List.length_range] at this
        omega
      refine go_ifV (Vw.refl.set (j := 0) (i := 3) rfl rfl rfl) (et_cmp (ev_v 3 rfl) (ev_lst evs_nil) (b_eqNil hu) (nomark _)) (fun h => nomatch h) (fun h => ?_)
      refine go_appVV (j := i + 2) (Vw.refl.set (j := 0) (i := 3) rfl rfl rfl) (ev_ix (d := .raw (.ref q)) (ev_v 3 rfl) ev_int (ix_l (atI_nat (j := 0) rfl)) (fun _ _ => rfl)) (oM_get (p := p1) hq hg) (ev_v 2 rfl) (big _ (by rw [List.length_map]; omega)) ?_
      rw [List.set_cons_succ]
      refine go_drop (List.sublist_cons_self _ _) ?_
      rw [oM_app hq hg]
      exact go_done (go_nilW ⟨qs, _, _, by rw [List.length_modify]; exact ql, rfl, rfl⟩ rfl) rfl
  · obtain ⟨qs, x2, x3, ql, rfl, rfl⟩ := W
    have e : (rng Ds.length).length = Ds.length := by simp [rng]
    rw [e] at ql ⊢
    refine go_frzM (G' := [some (.lst (Ds.map encT7)), some (.lst ((pgo (alI Ds) (List.range Ds.length)).map grpD)), none, none, none]) ql rfl (fun i d hi => ?_) ?_
    · match i with
      | 0 => exact .inl hi
      | 1 => cases hi; exact .inr ⟨rfl, rfl⟩
      | 2 => cases hi
      | 3 => cases hi
      | 4 => cases hi
      | n + 5 => cases hi
    exact go_ret (ev_v 1 rfl) hQ rfl
theorem ok_law_parts (F : FnP K "_law_parts" "_law_parts" s_law_parts f fd) (T : Tx K mg A) : FnOk P w K mg base CX0 1 f fd ["_law_answers", "_law_at", "_law_places"] (spPartsBy K) := by
  refine fn_ok F sc_law_parts (fun _ => rfl) fun ⟨rows, many, a, pl⟩ cdv A' outer sh H0 E B0 D' hr hp hn hQ => ?_
  obtain ⟨RO, ha, plt, pll⟩ := hp
  have ha : a < many := ha
  have RO : RowsOk rows many := RO
  have plt : ∀ p ∈ pl, p < rows.length := plt
  have pll : pl.length ≤ 8 := pll
  have hu := hr.units
  have big : ∀ n, n ≤ 100 → n < sizeLine := fun n h => Nat.lt_of_lt_of_le (m := 101) (by omega) (sl_small (by decide))
  refine go_new (i := 3) evs_nil (fun p1 => ?_) sc_law_parts.nd rfl (.inl rfl)
  refine go_for PassesOwn.never rfl (pit_list (ds := pl.map natD) (ev_v 2 rfl)) (fun j G O => ∃ qs x4 x5, qs.length = (partsB (keyR rows) a (pl.take j)).length ∧ G = [some (.lst (rows.map encRA)), some (natD a), some (.lst (pl.map natD)), some (.raw (.ref p1)), x4, x5, none] ∧ O = oM p1 qs (partsB (keyR rows) a (pl.take j)))
    ⟨[], none, none, by rw [List.take_zero]; rfl, rfl, by rw [List.take_zero]; rfl⟩ (fun B1 u j d G1 O1 hd W => ?_) (fun G1 O1 W => ?_)
  · obtain ⟨qs, x4, x5, ql, rfl, rfl⟩ := W
    obtain ⟨p, hp, rfl⟩ := map_get hd
    have hj := (List.getElem?_eq_some_iff.mp hp).1
    have hpl := plt p (List.mem_of_getElem? hp)
    have PG : PGr (same (keyR rows) a) (pl.take j) (partsB (keyR rows) a (pl.take j)) := pg_go (same_eqv _ _) _
    have gl : (partsB (keyR rows) a (pl.take j)).length ≤ (pl.take j).length := pgo_len (same_eqv _ _) _
    have tkl : (pl.take j).length ≤ 8 := Nat.le_trans (List.length_take_le _ _) (by omega)
    rw [partsB_snoc hp]
    generalize partsB (keyR rows) a (pl.take j) = gs at ql PG gl
    obtain ⟨rp, xp, hrp, hxp, okp, kp⟩ := RO.at_ ha hpl
    refine ⟨_, (tgt_name (i := 4) sc_law_parts.nd rfl (.inr rfl)), ?_⟩
    refine go_setLcV (xs := qs.zip gs) (qa := fun x => x.1) (P := hdP (same (keyR rows) a) p) (i := 6) (n := 5) (ev_v 3 rfl) (oM_hd ql) (by show 6 < 7; decide) (fun x hx => ?_) (fun x hx _ _ _ _ _ => ev_v 6 rfl) (by rw [List.length_zip]; exact sl_small (by omega)) (fun r => ?_) rfl sc_law_parts.nd rfl rfl rfl (blkOk_by rfl) (fun _ _ _ _ _ => pg_name (i := 6) sc_law_parts.nd rfl (.inl rfl))
    · obtain ⟨k, hq, hg⟩ := zip_at hx
      obtain ⟨q, g⟩ := x
      have hq : qs[k]? = some q := hq
      have hg : gs[k]? = some g := hg
      have hgm := List.mem_of_getElem? hg
      have hh := PG.head hgm
      have hhl := plt _ (List.mem_of_mem_take hh.2)
      obtain ⟨rg, xg, hrg, hxg, okg, kg⟩ := RO.at_ ha hhl
      have sm : decide (xg = xp) = same (keyR rows) a (g.headD 0) p := by
        unfold same
        rw [kp, kg]
        exact decide_eq_decide.mpr ⟨fun e => by rw [e], fun e => Option.some.inj e⟩
      have ixg : atI (g.map fun n => Dt.int (n : Nat)) 0 = some (.int ((g.headD 0 : Nat) : Int)) := by
        cases g with
        | nil => exact absurd rfl (PG.ne _ hgm)
        | cons x r => exact atI_nat (j := 0) rfl
      refine ⟨_, Vw.refl.set (j := k + 1) (i := 6) (oM_get hq hg) rfl rfl, fun _ _ _ _ _ => ?_⟩
      refine ets_one (ET.to (et_cmp (ev_ix (ev_ix (ev_v 0 rfl) (ev_ix (ev_v 6 rfl) ev_int (ix_l ixg) (fun _ _ => rfl)) (ix_l (RowsOk.ixr hrg)) (fun _ _ => rfl)) (ev_v 1 rfl) (ix_l (RowsOk.ixa hxg)) (fun _ _ => rfl)) (ev_ix (ev_ix (ev_v 0 rfl) (ev_v 4 rfl) (ix_l (RowsOk.ixr hrp)) (fun _ _ => rfl)) (ev_v 1 rfl) (ix_l (RowsOk.ixa hxp)) (fun _ _ => rfl)) (b_eqT hu ed_ans (by decide) okg okp) (nomark _)) sm)
    rcases first_at (al := same (keyR rows) a) (p := p) ql with ⟨e1, e2⟩ | ⟨i, q, g, rest, e1, hq, hg, e2⟩
    · rw [e2]
      unfold addG
      rw [e1]
      refine go_ifV (Vw.refl.set (j := 0) (i := 5) rfl rfl rfl) (et_cmp (ev_v 5 rfl) (ev_lst evs_nil) (b_eqNil hu) (nomark _)) (fun h => ?_) (fun h => nomatch h)
      refine go_drop (List.sublist_cons_self _ _) ?_
      refine go_appNew (j := 0) (dsi := [natD p]) (ev_v 3 rfl) rfl (evs_cons (ev_v 4 rfl) evs_nil) (big _ (by rw [List.length_map, ql]; omega)) fun q => ?_
      refine go_perm (oM_new ql) ?_
      exact go_done (go_nilW ⟨qs ++ [q], _, _, by simp [ql], rfl, rfl⟩ rfl) rfl
    · rw [e2]
      unfold addG
      rw [e1]
      have hgl : g.length ≤ 8 := by
        have : g.length ≤ (pl.take j).length := by
          rw [PG.eq _ (List.mem_of_getElem? hg)]
          exact List.length_filter_le _ _
        omega
      refine go_ifV (Vw.refl.set (j := 0) (i := 5) rfl rfl rfl) (et_cmp (ev_v 5 rfl) (ev_lst evs_nil) (b_eqNil hu) (nomark _)) (fun h => nomatch h) (fun h => ?_)
      refine go_appVV (j := i + 2) (Vw.refl.set (j := 0) (i := 5) rfl rfl rfl) (ev_ix (d := .raw (.ref q)) (ev_v 5 rfl) ev_int (ix_l (atI_nat (j := 0) rfl)) (fun _ _ => rfl)) (oM_get (p := p1) hq hg) (ev_v 4 rfl) (big _ (by rw [List.length_map]; omega)) ?_
      rw [List.set_cons_succ]
      refine go_drop (List.sublist_cons_self _ _) ?_
      rw [oM_app hq hg]
      exact go_done (go_nilW ⟨qs, _, _, by rw [List.length_modify]; exact ql, rfl, rfl⟩ rfl) rfl
  · obtain ⟨qs, x4, x5, ql, rfl, rfl⟩ := W
    have e : pl.take (pl.map natD).length = pl := List.take_of_length_le (by rw [List.length_map]; exact Nat.le_refl _)
    rw [e] at ql ⊢
    refine go_frzM (G' := [some (.lst (rows.map encRA)), some (natD a), some (.lst (pl.map natD)), some (.lst ((partsB (keyR rows) a pl).map grpD)), none, none, none]) ql rfl (fun i d hi => ?_) ?_
    · match i with
      | 0 => exact .inl hi
      | 1 => exact .inl hi
      | 2 => exact .inl hi
      | 3 => cases hi; exact .inr ⟨rfl, rfl⟩
      | 4 => cases hi
      | 5 => cases hi
      | 6 => cases hi
      | n + 7 => cases hi
    exact go_ret (ev_v 3 rfl) hQ rfl
end
end Dh
end SDhLGroups

section SDhLeaf
set_option Elab.async false
set_option linter.all false
set_option maxRecDepth 100000
set_option maxHeartbeats 4000000
local macro_rules | `(tactic| walk_at "bd") => `(tactic| first
  | exact Dh.b_in | exact Dh.b_notin | exact Dh.b_eqS | exact Dh.b_neS | exact Dh.b_isN | exact Dh.b_notN | exact Dh.b_add | exact Dh.b_sub | exact Dh.b_lt | exact Dh.b_le | exact Dh.b_gt | exact Dh.b_ge | exact Dh.b_eqI | exact Dh.b_neI | exact Dh.b_eqB | exact Dh.b_neB)
local macro_rules | `(tactic| walk_at "xd") => `(tactic| first | exact Dh.ix_t rfl | exact Dh.ix_l rfl)
namespace Dh
open PySem PySem.Spec PyProof.Rows L2
theorem keyR_of {Ds : List Dia} {ts : List (List Nat)} {a i : Nat} {D : Dia} {t : List Nat} (hD : Ds[i]? = some D) (ht : ts[a]? = some t) : keyR (rowsOf Ds ts) a i = some (ans D t) := by
  unfold keyR
  rw [List.getElem?_map, hD]
  show (rowOf ts D)[a]? = _
  rw [List.getElem?_map, ht]; rfl
theorem keyR_al {Ds : List Dia} {ts : List (List Nat)} {a i j : Nat} (hi : i < Ds.length) (hj : j < Ds.length) (h : alI Ds i j = true) : keyR (rowsOf Ds ts) a i = keyR (rowsOf Ds ts) a j := by
  have h1 : Ds[i]? = some Ds[i] := List.getElem?_eq_getElem hi
  have h2 : Ds[j]? = some Ds[j] := List.getElem?_eq_getElem hj
  rw [alI_at h1 h2] at h
  have al := alk_iff.mp h
  cases e : ts[a]? with
  | some t => rw [keyR_of h1 e, keyR_of h2 e, al t]
  | none =>
    unfold keyR
    rw [List.getElem?_map, List.getElem?_map, h1, h2]
    show (rowOf ts _)[a]? = (rowOf ts _)[a]?
    rw [List.getElem?_map, List.getElem?_map, e]; rfl
abbrev Tells2 (Ds : List Dia) (ts : List (List Nat)) : Prop := ∀ (i j : Nat) (Di Dj : Dia), Ds[i]? = some Di → Ds[j]? = some Dj → (∀ t ∈ ts, ans Di t = ans Dj t) → alI Ds i j = true
theorem al_keyR {Ds : List Dia} {ts : List (List Nat)} (T : Tells2 Ds ts) {i j : Nat} (hi : i < Ds.length) (hj : j < Ds.length) (h : ∀ a, a < ts.length → keyR (rowsOf Ds ts) a i = keyR (rowsOf Ds ts) a j) : alI Ds i j = true := by
  have h1 : Ds[i]? = some Ds[i] := List.getElem?_eq_getElem hi
  have h2 : Ds[j]? = some Ds[j] := List.getElem?_eq_getElem hj
  refine T i j _ _ h1 h2 fun t ht => ?_
  obtain ⟨a, ha⟩ := List.mem_iff_getElem?.mp ht
  have := h a (List.getElem?_eq_some_iff.mp ha).1
  rw [keyR_of h1 ha, keyR_of h2 ha] at this
  exact Option.some.inj this
structure LeafOk (t : Tr) (Ds : List Dia) (ts : List (List Nat)) (p : Nat) : Prop where
  ok : AOk Ds ts
  te : Tells2 Ds ts
  pr : Proper (keyR (rowsOf Ds ts)) ts.length t (List.range Ds.length)
  lt : p < Ds.length
def hasP (parts : List (List Nat)) (p k : Nat) : Bool := decide (p ∈ parts.getD k [])
theorem hasP_first {parts : List (List Nat)} {p : Nat} (h : ∃ g ∈ parts, p ∈ g) : ∃ k g r, (List.range parts.length).filter (hasP parts p) = k :: r ∧ parts[k]? = some g ∧ p ∈ g := by
  obtain ⟨g, hg, hp⟩ := h
  obtain ⟨k, hk⟩ := List.mem_iff_getElem?.mp hg
  have hkl := (List.getElem?_eq_some_iff.mp hk).1
  have m : k ∈ (List.range parts.length).filter (hasP parts p) := List.mem_filter.mpr ⟨List.mem_range.mpr hkl, decide_eq_true (by rw [List.getD_eq_getElem?_getD, hk]; exact hp)⟩
  cases e : (List.range parts.length).filter (hasP parts p) with
  | nil => rw [e] at m; cases m
  | cons k0 r =>
    have m0 : k0 ∈ (List.range parts.length).filter (hasP parts p) := by rw [e]; exact List.mem_cons_self
    obtain ⟨h1, h2⟩ := List.mem_filter.mp m0
    have hl := List.mem_range.mp h1
    have h0 : parts[k0]? = some parts[k0] := List.getElem?_eq_getElem hl
    have h2 := of_decide_eq_true h2
    rw [List.getD_eq_getElem?_getD, h0] at h2
    exact ⟨k0, parts[k0], r, rfl, h0, h2⟩
section
variable {P : Program} {w : World} {K : PySem.W.Frag} {mg : Str → Option Value} {base : Heap} {f : Addr} {fd : FuncData} {A : Ad}
abbrev leafR (Ds : List Dia) (p : Nat) (d : Dt) : Prop := ∃ asked, asked < (pgo (alI Ds) (List.range Ds.length)).length ∧ d = .tup [grpD ((List.range Ds.length).filter (alI Ds p)), natD asked]
abbrev spLleaf (K : PySem.W.Frag) : Sp := spT K (T := Tr × List Dia × List (List Nat) × Nat) (fun i => [encTr i.1, .lst ((rowsOf i.2.1 i.2.2.1).map encRA), natD i.2.2.2]) (fun i => LeafOk i.1 i.2.1 i.2.2.1 i.2.2.2) (fun i d => leafR i.2.1 i.2.2.2 d)
theorem ok_law_leaf (F : FnP K "_law_leaf" "_law_leaf" s_law_leaf f fd) (T : Tx K mg A) (F_parts : Cal P w K mg base 1 "_law_parts" ["_law_answers", "_law_at", "_law_places"] (spPartsBy K)) : FnOk P w K mg base CX0 2 f fd ["_law_tree", "_law_answers", "_law_place"] (spLleaf K) := by
  refine fn_ok F sc_law_leaf (fun _ => rfl) fun ⟨t, Ds, ts, p⟩ cdv A' outer sh H0 E B0 D' hr hp hn hQ => ?_
  obtain ⟨ok, te, pr, lt⟩ := hp
  have ok : AOk Ds ts := ok
  have te : Tells2 Ds ts := te
  have pr : Proper (keyR (rowsOf Ds ts)) ts.length t (List.range Ds.length) := pr
  have lt : p < Ds.length := lt
  have hQ : Rt K B0 H0 (leafR Ds p) D'.rt := hQ
  have r1 : Room 1 _ := hr
  have hun : Around.units (A'.deeper (envOfC "_law_leaf" (defScope s_law_leaf) sh.heap.objs.size f cdv)) + 65 < cLine := by have := hr.un; omega
  have ro := rows_ok ok
  have len8 := ok.1.1
  have Eq := alI_eqv Ds
  have PG := pg_go Eq (List.range Ds.length)
  have ca := cnt_all PG
  unfold leafR at hQ
  generalize pgo (alI Ds) (List.range Ds.length) = made at PG ca hQ
  have rl : (rowsOf Ds ts).length = Ds.length := List.length_map _
  have ln : Dt.int ((((rowsOf Ds ts).map encRA).length : Nat) : Int) = .int ((Ds.length : Nat) : Int) := by rw [List.length_map, rl]
  refine go_set (i := 3) (ev_listRange (n := Ds.length) rfl (EV.to (ev_callB c_lenL rfl T.b_len boot_len (evs_cons (ev_v 1 rfl) evs_nil)) ln) (by omega) rfl T.b_list rfl T.b_range) ?_ sc_law_leaf.nd rfl (.inl rfl)
  refine go_set (i := 4) (EV.to ev_int (show Dt.int 0 = natD 0 from rfl)) ?_ sc_law_leaf.nd rfl (.inl rfl)
  refine go_while PassesOwn.never (m0 := Ds.length) (fun m G O => ∃ (t' : Tr) (pl : List Nat) (asked : Nat) (x5 x6 : Option Dt), Proper (keyR (rowsOf Ds ts)) ts.length t' pl ∧ p ∈ pl ∧ Lf (alI Ds) Ds.length pl ∧ asked + cnt made pl ≤ made.length ∧ m = pl.length ∧
      G = [some (encTr t'), some (.lst ((rowsOf Ds ts).map encRA)), some (natD p), some (.lst (pl.map natD)), some (natD asked), x5, x6, none] ∧ O = [])
    ⟨t, List.range Ds.length, 0, none, none, pr, List.mem_range.mpr lt, Lf.all, by rw [ca]; omega, by rw [List.length_range], rfl, rfl⟩ (fun m G1 O1 W => ?_)
  obtain ⟨t', pl, asked, x5, x6, pr', hpp, L, ac, rfl, rfl, rfl⟩ := W
  cases pr' with
  | leaf one =>
    rw [encTr_leaf]
    refine ⟨false, ET.to (et_cmp (ev_ix (ev_v 0 rfl) ev_int (by walk_at "xd") (fun _ _ => rfl)) ev_str b_eqS (nomark _)) (by decide +kernel), fun h => (nomatch h), fun _ => ?_⟩
    have e : pl = (List.range Ds.length).filter (alI Ds p) := Lf.group Eq L hpp fun i hi => al_keyR te lt (L.lt hi) fun a ha => parts_one (one a ha) hpp hi
    have cp := cnt_pos Eq PG L hpp
    refine go_ret (ev_tup (evs_cons (ev_ix (ev_v 0 rfl) ev_int (by walk_at "xd") (fun _ _ => rfl)) (evs_cons (ev_v 4 rfl) evs_nil))) hQ ⟨asked, by omega, ?_⟩
    rw [← e]
  | @ask _ a bs ha two bl sub =>
    rw [encTr_ask]
    refine ⟨true, ET.to (et_cmp (ev_ix (ev_v 0 rfl) ev_int (by walk_at "xd") (fun _ _ => rfl)) ev_str b_eqS (nomark _)) (by decide +kernel), fun _ => ?_, fun h => (nomatch h)⟩
    have pllt : ∀ x ∈ pl, x < (rowsOf Ds ts).length := fun x hx => by rw [rl]; exact L.lt hx
    have pll : pl.length ≤ 8 := by have := L.sub.length_le; rw [List.length_range] at this; omega
    have PGa := pg_go (same_eqv (keyR (rowsOf Ds ts)) a) pl
    have pal : (partsB (keyR (rowsOf Ds ts)) a pl).length ≤ pl.length := pgo_len (same_eqv _ _) _
    have hpa : ∀ g ∈ partsB (keyR (rowsOf Ds ts)) a pl, g = pl.filter fun i => decide (keyR (rowsOf Ds ts) a i = keyR (rowsOf Ds ts) a (g.headD 0)) := fun g hg => (parts_at hg).2
    have h2a : ∀ g ∈ partsB (keyR (rowsOf Ds ts)) a pl, ∃ i ∈ pl, keyR (rowsOf Ds ts) a i ≠ keyR (rowsOf Ds ts) a (g.headD 0) := fun g hg => parts_two hg two
    have h3a : ∀ g ∈ partsB (keyR (rowsOf Ds ts)) a pl, g.length < pl.length := fun g hg => parts_len_lt hg two
    have ex : ∃ g ∈ partsB (keyR (rowsOf Ds ts)) a pl, p ∈ g := PGa.all p hpp
    refine go_set (i := 5) (d := .lst ((partsB (keyR (rowsOf Ds ts)) a pl).map grpD)) (ev_call F_parts r1 (evs_cons (ev_v 1 rfl) (evs_cons (ev_ix (ev_v 0 rfl) ev_int (by walk_at "xd") (fun _ _ => rfl)) (evs_cons (ev_v 3 rfl) evs_nil))) (rowsOf Ds ts, ts.length, a, pl) rfl rfl ⟨ro, ha, pllt, pll⟩ rfl) ?_ sc_law_leaf.nd rfl (.inr rfl)
    generalize partsB (keyR (rowsOf Ds ts)) a pl = parts at bl sub pal hpa h2a h3a ex
    obtain ⟨k, g, r, ek, hg, hpg⟩ := hasP_first ex
    have hgm := List.mem_of_getElem? hg
    have hkl := (List.getElem?_eq_some_iff.mp hg).1
    have hb : bs[k]? = some bs[k] := List.getElem?_eq_getElem (by omega)
    have pr2 := sub k _ g hb hg
    generalize bs[k] = t2 at hb pr2
    have lp : Dt.int (((parts.map grpD).length : Nat) : Int) = .int ((parts.length : Nat) : Int) := by rw [List.length_map]
    have ixp : ∀ {k : Nat} {g : List Nat}, parts[k]? = some g → atI (parts.map grpD) ((k : Nat) : Int) = some (grpD g) := fun h => atI_nat (by rw [List.getElem?_map, h]; rfl)
    refine go_set (i := 6) (d := natD k) (ev_ix (d1 := .lst (((List.range parts.length).filter (hasP parts p)).map natD)) (ev_lc (xs := List.range parts.length) (enc := natD) (g := natD) (P := hasP parts p) (i := 7) rfl sc_law_leaf.nd (pit_range (n := parts.length) (EV.to (ev_callB (c_lenL (l := parts.map grpD)) rfl T.b_len boot_len (evs_cons (ev_v 5 rfl) evs_nil)) lp) (by omega) rfl T.b_range) (blkOk_by rfl) (fun _ _ _ _ _ => pg_name (i := 7) sc_law_leaf.nd rfl (.inl rfl)) (by show 7 < 8; decide) (fun k' hk' _ _ _ _ _ => ?_) (fun k' hk' hP _ _ _ _ _ => ev_v 7 rfl) (by rw [List.length_range]; exact sl_small (by omega))) ev_int (ix_l (atI_nat (j := 0) (by rw [ek]; rfl))) (fun _ _ => rfl)) ?_ sc_law_leaf.nd rfl (.inl rfl)
    · have hl' := List.mem_range.mp hk'
      have hg' : parts[k']? = some parts[k'] := List.getElem?_eq_getElem hl'
      have e : decide (p ∈ parts[k']) = hasP parts p k' := by
        unfold hasP
        rw [List.getD_eq_getElem?_getD, hg']; rfl
      generalize parts[k'] = g' at hg' e
      exact ets_one (ET.to (et_cmp (ev_v 2 rfl) (ev_ix (ev_v 5 rfl) (ev_v 7 rfl) (ix_l (ixp hg')) (fun _ _ => rfl)) (b_inT hun ed_nat (by decide) trivial (fun _ _ => trivial)) rfl) e)
    refine go_set (i := 3) (ev_ix (ev_v 5 rfl) (ev_v 6 rfl) (ix_l (ixp hg)) (fun _ _ => rfl)) ?_ sc_law_leaf.nd rfl (.inl rfl)
    refine go_set (i := 0) (d := encTr t2) (ev_ix (ev_ix (d := .lst (bs.map encTr)) (ev_v 0 rfl) ev_int (by walk_at "xd") (fun _ _ => rfl)) (ev_v 6 rfl) (ix_l (atI_nat (by rw [List.getElem?_map, hb]; rfl))) (fun _ _ => rfl)) ?_ sc_law_leaf.nd rfl (.inl rfl)
    refine go_set (i := 4) (EV.to (ev_bin (ev_v 4 rfl) ev_int b_add) (show Dt.int ((asked : Int) + 1) = natD (asked + 1) from congrArg Dt.int (by omega))) ?_ sc_law_leaf.nd rfl (.inl rfl)
    obtain ⟨i, hi, hne⟩ := h2a g hgm
    have eg := hpa g hgm
    have hf : ∀ i j, i < Ds.length → j < Ds.length → alI Ds i j = true → keyR (rowsOf Ds ts) a i = keyR (rowsOf Ds ts) a j := fun i j hi hj h => keyR_al hi hj h
    have L2' : Lf (alI Ds) Ds.length g := by
      rw [eg]
      exact L.filter _ _ hf
    have cl := cnt_lt Eq PG L (keyR (rowsOf Ds ts) a) _ hf hi hne
    rw [← eg] at cl
    exact go_nilW ⟨g.length, h3a g hgm, t2, g, asked + 1, _, _, pr2, hpg, L2', by omega, rfl, rfl, rfl⟩ rfl
end
end Dh
end SDhLeaf

section SDhAsk
set_option Elab.async false
set_option linter.all false
set_option maxRecDepth 100000
set_option maxHeartbeats 4000000
local macro_rules | `(tactic| walk_at "bd") => `(tactic| first
  | exact Dh.b_in | exact Dh.b_notin | exact Dh.b_eqS | exact Dh.b_neS | exact Dh.b_isN | exact Dh.b_notN | exact Dh.b_add | exact Dh.b_sub | exact Dh.b_lt | exact Dh.b_le | exact Dh.b_gt | exact Dh.b_ge | exact Dh.b_eqI | exact Dh.b_neI | exact Dh.b_eqB | exact Dh.b_neB)
local macro_rules | `(tactic| walk_at "xd") => `(tactic| first | exact Dh.ix_t rfl | exact Dh.ix_l rfl)
namespace Dh
open PySem PySem.Spec PyProof.Rows L2
section
variable {X : Cx} {B0 H0 : Hp} {G G' : List (Option Dt)} {O : List (Addr × Ob)} {rest : List Stmt} {D : Ends} {o e : Expr} {pos ap : Pos} {i j : Nat} {p C dx : Addr} {ns : List Str} {ds : List Dt} {f : Str} {R : Dt → Prop}
theorem go_setFldVR (vw : Vw G O G') (hI : OnlyI O) (h : EVR X G' e R) (nn : ∀ d, R d → nlI d = true) (ho : EV X G o (.raw (.ref p))) (hj : O[j]? = some (p, .ins C dx ns ds)) (hc : Cls X.K C) (hn : NoAttr X.K C f) (hi : ns[i]? = some f) (hnd : ns.Nodup) (k : ∀ d, R d → Go X B0 H0 G (O.set j (p, .ins C dx ns (ds.set i d))) rest D)
    (hl : ns.length = ds.length := by rfl) (hz : Nat.blt ns.length 1000 = true := by rfl) (hs : swapsWith e (some (.Attribute o f ap)) pos.line X.env = pure false := by rfl) : Go X B0 H0 G O (.Assign [.Attribute o f ap] e pos :: rest) D := fun s H ⟨B, a⟩ =>
  run_c (ps_fld pe_wk pe_wk hs) (by
    obtain ⟨v1, v2, v3, v4⟩ := a.view vw
    refine h s _ H v1 v2 _ fun d v B1 H1 hd g1 r1 => ?_
    obtain ⟨a1, _, _⟩ := v4 B1 H1 g1
    have r1' := a.viewI hI g1 (nn d hd) r1
    refine ho s _ H1 a1.sl a1.gr.s _ fun x B2 H2 g2 r2 => ?_
    have a2 := a1.grow g2
    obtain rfl : x = .ref p := r2
    obtain ⟨_, _, vs, hp, rp⟩ := a2.ow p _ (List.mem_of_getElem? hj)
    have vl := rp.length
    have hz := Nat.le_of_ble_eq_true hz
    refine ⟨p, C, dx, _, rfl, hp, hc, hn, by rw [List.length_zip]; omega, ?_⟩
    rw [putF_at hnd hi (by omega)]
    exact k d hd _ _ ⟨_, a2.put hj ⟨vs.set i v, upd_same, rp.set i (r1'.mono g2.b)⟩⟩)
end
theorem cutD_from {l : List Dt} {k : Nat} : cutD l (some (k : Int)) none = l.drop k := by
  unfold cutD
  rw [HT.sIx_none, HT.sIx_nat]
  rcases Nat.le_total k l.length with h | h
  · rw [Nat.min_eq_left h]
    exact List.take_of_length_le (by rw [List.length_drop]; exact Nat.le_refl _)
  · rw [Nat.min_eq_right h, List.drop_eq_nil_of_le (Nat.le_refl _), List.drop_eq_nil_of_le h, List.take_nil]
abbrev anames : List Str := ["readers", "still", "question", "heard"]
theorem and_ : anames.Nodup := by decide +kernel
abbrev askD (A : Ad) (Ds : List Dia) (pl : List Nat) (q : Option (List Nat)) (h : Int) : List Dt := [.lst (Ds.map (encD A)), .lst (pl.map natD), encM q, .int h]
theorem nlI_nats (pl : List Nat) : nlI (.lst (pl.map natD)) = true := nlsI_map natD pl fun _ _ => rfl
theorem nlI_encM (q : Option (List Nat)) : nlI (encM q) = true := by cases q <;> rfl
abbrev FewOk (Ds : List Dia) : Prop := Ds.length ≤ 4 ∧ ∀ D ∈ Ds, Ok D
/-- what an asker asks -/
def AskR (Ds : List Dia) (pl : List Nat) : Option (List Nat) → Prop
  | none => ∀ x ∈ pl, alI Ds (pl.headD 0) x = true
  | some m => TxSg m ∧ ∃ i ∈ pl, ∃ j ∈ pl, ∃ Di Dj, Ds[i]? = some Di ∧ Ds[j]? = some Dj ∧ ans Di m ≠ ans Dj m
def ansAt (Ds : List Dia) (m : List Nat) (i : Nat) : Option (Option (List (List (List Nat)))) := (Ds[i]?).map fun D => ans D m
abbrev hrP (Ds : List Dia) (m : List Nat) (a : Option (List (List (List Nat)))) (i : Nat) : Bool := decide (ansAt Ds m i = some a)
section
variable {P : Program} {w : World} {K : PySem.W.Frag} {mg : Str → Option Value} {base : Heap} {f : Addr} {fd : FuncData} {A : Ad}
abbrev spAsk0 (K : PySem.W.Frag) (A : Ad) : Sp := spMk K A.asker anames (T := List Dia) (fun Ds => [.lst (Ds.map (encD A))]) FewOk (fun Ds => askD A Ds (List.range Ds.length) none 0)
theorem ok_Asker_init (F : FnP K "__init__" "Asker.__init__" s_Asker_init f fd) (T : Tx K mg A) (F_few : Cal P w K mg base 1 "need_few" ["dialects", "most"] (spFew K)) : FnOk P w K mg base CX0 2 f fd ["self", "dialects"] (spAsk0 K A) := by
  refine fn_okG F sc_Asker_init (sp_mk_len fun _ => rfl) fun cdv A' outer sh H vs Q E hr h => ?_
  obtain ⟨Ds, B, p, dx, ws, rfl, hp, bp, ok, sb, r, k⟩ := h
  have r1 : Room 1 _ := hr
  have len : Ds.length ≤ 4 := ok.1
  have ln : Dt.int (((Ds.map (encD A)).length : Nat) : Int) = .int ((Ds.length : Nat) : Int) := by rw [List.length_map]
  have start := At.start (ob := .ins A.asker dx [] []) sb bp ⟨[], hp, rfl⟩ (sl_start (ds := [.raw (.ref p), .lst (Ds.map (encD A))]) (N := ["self", "dialects"]) ⟨.ref p, ws, rfl, rfl, r⟩ (by show 2 ≤ 2; decide))
  refine (?_ : Go _ B (lessP H p) [some (.raw (.ref p)), some (.lst (Ds.map (encD A)))] [(p, .ins A.asker dx [] [])] (defBody s_Asker_init) _) _ _ ⟨B, start⟩
  refine go_exprR (EV.r (ev_call F_few r1 (evs_cons (ev_v 1 rfl) (evs_cons (EV.to (ev_gl T.cMOST rfl) (show Dt.int 12 = .int ((12 : Nat) : Int) from rfl)) evs_nil)) (Ds.map (encD A), 12) rfl rfl (by show (Ds.map (encD A)).length ≤ 12; rw [List.length_map]; omega) rfl)) ?_
  refine go_newFld (j := 0) (ev_callTy (c_listL (l := Ds.map (encD A))) rfl T.b_list boot_list (evs_cons (ev_v 1 rfl) evs_nil)) (ev_v 0 rfl) rfl T.k_asker T.a_readers ?_
  refine go_newFldV (j := 0) (Vw.refl.set (j := 0) (i := 0) rfl rfl rfl) onlyI1 (ev_listRange (n := Ds.length) rfl (EV.to (ev_callB (c_lenL (l := Ds.map (encD A))) rfl T.b_len boot_len (evs_cons (ev_fldI (i := 0) (ev_v 0 rfl) T.k_asker T.a_readers (by decide +kernel) rfl rfl) evs_nil)) ln) (by omega) rfl T.b_list rfl T.b_range) (nlI_nats _) (ev_v 0 rfl) rfl T.k_asker T.a_still ?_
  refine go_newFld (j := 0) ev_non (ev_v 0 rfl) rfl T.k_asker T.a_question ?_
  refine go_newFld (j := 0) ev_int (ev_v 0 rfl) rfl T.k_asker T.a_heard ?_
  refine go_nil fun s H' ⟨B', a⟩ => ?_
  have w := At.wr a bp (List.mem_singleton.mpr rfl)
  obtain ⟨xs, hx, rx⟩ := w.at_
  exact k xs B' H' w.b w.k w.s w.h hx rx
abbrev spLeft (K : PySem.W.Frag) (A : Ad) : Sp := spOwn K A.asker anames (T := List Dia × List Nat × Int) (fun _ => []) (fun i => askD A i.1 i.2.1 none i.2.2) (fun _ => True) (fun i d _ => d = grpD i.2.1)
theorem ok_Asker_left (F : FnP K "left" "Asker.left" s_Asker_left f fd) (T : Tx K mg A) : FnOk P w K mg base CX0 1 f fd ["self"] (spLeft K A) := by
  refine fn_okO F sc_Asker_left (fun _ => rfl) fun ⟨Ds, pl, h⟩ p dx cdv A' outer sh Hc E B0 H0 D' hr hp hret hnx => ?_
  exact go_retVI (Vw.refl.set (j := 0) (i := 0) rfl rfl rfl) onlyI1 (ev_callTy (c_listL (l := pl.map natD)) rfl T.b_list boot_list (evs_cons (ev_fldI (i := 1) (ev_v 0 rfl) T.k_asker T.a_still and_ rfl rfl) evs_nil)) (nlI_nats _) fun s B H v a rv => hret _ _ v _ _ s B H rfl a (List.mem_singleton.mpr rfl) rv
structure AskOk (Ds : List Dia) (pl : List Nat) : Prop where
  few : FewOk Ds
  lt : ∀ x ∈ pl, x < Ds.length
  small : pl.length ≤ 100
abbrev spAskQ (K : PySem.W.Frag) (A : Ad) : Sp := spOwn K A.asker anames (T := List Dia × List Nat × Int) (fun _ => []) (fun i => askD A i.1 i.2.1 none i.2.2) (fun i => AskOk i.1 i.2.1) (fun i d st => ∃ q, d = encM q ∧ st = askD A i.1 i.2.1 q i.2.2 ∧ AskR i.1 i.2.1 q)
theorem ok_Asker_ask (F : FnP K "ask" "Asker.ask" s_Asker_ask f fd) (T : Tx K mg A) (F_pg : Cal P w K mg base 7 "parting_groups" ["one", "other"] (spPg K A)) : FnOk P w K mg base CX0 8 f fd ["self"] (spAskQ K A) := by
  refine fn_okO F sc_Asker_ask (fun _ => rfl) fun ⟨Ds, pl, h⟩ p dx cdv A' outer sh Hc E B0 H0 D' hr hp hret hnx => ?_
  obtain ⟨⟨len, oks⟩, lt, small⟩ := hp
  have oks : ∀ D ∈ Ds, Ok D := oks
  have lt : ∀ x ∈ pl, x < Ds.length := lt
  have r7 : Room 7 _ := hr
  have hret : ∀ q, AskR Ds pl q → ∀ σ B' H' v, At K B0 H0 B' [some (.raw (.ref p)), none] [(p, Ob.ins A.asker dx anames (askD A Ds pl q h))] σ H' → Rep K B' (encM q) v → D'.rt v H' := fun q hq σ B' H' v a rv => hret _ _ v _ _ σ B' H' ⟨q, rfl, rfl, hq⟩ a (List.mem_singleton.mpr rfl) rv
  have ixD : ∀ {i : Nat} {D : Dia}, Ds[i]? = some D → atI (Ds.map (encD A)) ((i : Nat) : Int) = some (encD A D) := fun h => atI_nat (by rw [List.getElem?_map, h]; rfl)
  have cut : cutD (pl.map natD) (some 1) none = (pl.drop 1).map natD := by rw [List.map_drop]; exact cutD_from (k := 1)
  refine go_ifV (Vw.refl.set (j := 0) (i := 0) rfl rfl rfl) (et_cmp (ev_fldI (i := 2) (ev_v 0 rfl) T.k_asker T.a_question and_ rfl rfl) ev_non b_isN (nomark _)) (fun _ => ?_) (fun h => nomatch h)
  refine go_forLV PassesOwn.never rfl (Vw.refl.set (j := 0) (i := 0) rfl rfl rfl) onlyI1 (ds := (pl.drop 1).map natD) (EV.to (ev_slice (ev_fldI (i := 1) (ev_v 0 rfl) T.k_asker T.a_still and_ rfl rfl) ⟨_, rfl, ev_int⟩ rfl sl_l) (congrArg Dt.lst cut)) (nlsI_map natD _ fun _ _ => rfl)
    (fun j G O => ∃ q x1, G = [some (.raw (.ref p)), x1] ∧ O = [(p, Ob.ins A.asker dx anames (askD A Ds pl q h))] ∧ (q = none → ∀ (k x : Nat), k < j → (pl.drop 1)[k]? = some x → alI Ds (pl.headD 0) x = true) ∧ (∀ m, q = some m → AskR Ds pl (some m)))
    ⟨none, none, rfl, rfl, fun _ k x hk => absurd hk (Nat.not_lt_zero _), fun m e => (by cases e)⟩ (fun B1 u j d G1 O1 hd W => ?_) (fun G1 O1 W => ?_)
  · obtain ⟨q, x1, rfl, rfl, h1, h2⟩ := W
    obtain ⟨x, hx, rfl⟩ := map_get hd
    refine ⟨_, (tgt_name (i := 1) sc_Asker_ask.nd rfl (.inl rfl)), ?_⟩
    have hxm : x ∈ pl := List.mem_of_mem_drop (List.mem_of_getElem? hx)
    obtain ⟨p0, pr, rfl⟩ : ∃ p0 pr, pl = p0 :: pr := by
      cases pl with
      | nil => cases hxm
      | cons a b => exact ⟨a, b, rfl⟩
    have l0 := lt p0 List.mem_cons_self
    have lx := lt x hxm
    have e0 : Ds[p0]? = some Ds[p0] := List.getElem?_eq_getElem l0
    have ex : Ds[x]? = some Ds[x] := List.getElem?_eq_getElem lx
    have ok0 := oks _ (List.getElem_mem l0)
    have okx := oks _ (List.getElem_mem lx)
    generalize Ds[p0] = D0 at e0 ok0
    generalize Ds[x] = Dx at ex okx
    cases q with
    | some m =>
      refine go_if0V (Vw.refl.set (j := 0) (i := 0) rfl rfl rfl) (et_cmp (ev_fldI (i := 2) (ev_v 0 rfl) T.k_asker T.a_question and_ rfl rfl) ev_non b_isN (nomark _)) (fun h => nomatch h) (fun _ => ?_)
      exact go_nilW ⟨some m, _, rfl, rfl, fun e => (by cases e), h2⟩ rfl
    | none =>
      refine go_if0V (Vw.refl.set (j := 0) (i := 0) rfl rfl rfl) (et_cmp (ev_fldI (i := 2) (ev_v 0 rfl) T.k_asker T.a_question and_ rfl rfl) ev_non b_isN (nomark _)) (fun _ => ?_) (fun h => nomatch h)
      refine go_setFldVR (i := 2) (j := 0) (R := fun d => ∃ r, CmpR D0 Dx r ∧ d = encM r) (Vw.refl.set (j := 0) (i := 0) rfl rfl rfl) onlyI1 ?_ (fun d ⟨r, _, e⟩ => by rw [e]; exact nlI_encM r) (ev_v 0 rfl) rfl T.k_asker T.a_question rfl and_ (fun d hd => ?_)
      · exact ev_callR' F_pg r7 (evs_cons (ev_ix (ev_fldI (i := 0) (ev_v 0 rfl) T.k_asker T.a_readers and_ rfl rfl) (ev_ix (d := natD p0) (ev_fldI (i := 1) (ev_v 0 rfl) T.k_asker T.a_still and_ rfl rfl) ev_int (ix_l (atI_nat (j := 0) rfl)) (fun _ _ => rfl)) (ix_l (ixD e0)) (fun _ _ => rfl)) (evs_cons (ev_ix (ev_fldI (i := 0) (ev_v 0 rfl) T.k_asker T.a_readers and_ rfl rfl) (ev_v 1 rfl) (ix_l (ixD ex)) (fun _ _ => rfl)) evs_nil)) (D0, Dx) rfl ⟨ok0, okx⟩ (fun d hd => hd) rfl
      obtain ⟨r, hr', rfl⟩ := hd
      refine go_done (go_nilW ⟨r, _, rfl, rfl, fun e k y hk hy => ?_, fun m e => ?_⟩ rfl) rfl
      · subst e
        by_cases z : k = j
        · subst z
          rw [hx] at hy
          cases hy
          show alI Ds p0 x = true
          rw [alI_at e0 ex]
          exact alk_iff.mpr hr'
        · exact h1 rfl k y (by omega) hy
      · subst e
        obtain ⟨c1, c2, c3⟩ := hr'
        exact ⟨⟨c1, by omega⟩, p0, List.mem_cons_self, x, hxm, D0, Dx, e0, ex, c3⟩
  · obtain ⟨q, x1, rfl, rfl, h1, h2⟩ := W
    have aq : AskR Ds pl q := by
      cases q with
      | some m => exact h2 m rfl
      | none =>
        intro x hx
        cases pl with
        | nil => cases hx
        | cons p0 pr =>
          rcases List.mem_cons.mp hx with e | hx
          · rw [e]; exact (alI_eqv Ds).rfl _
          · obtain ⟨k, hk⟩ := List.mem_iff_getElem?.mp hx
            exact h1 rfl k x (by have := (List.getElem?_eq_some_iff.mp hk).1; rw [List.length_map]; exact this) hk
    refine go_done ?_ rfl
    refine go_weak (G' := [some (.raw (.ref p)), none]) ?_ rfl (fun i d hi => ?_)
    · exact go_retVI (Vw.refl.set (j := 0) (i := 0) rfl rfl rfl) onlyI1 (ev_fldI (i := 2) (ev_v 0 rfl) T.k_asker T.a_question and_ rfl rfl) (nlI_encM q) fun s B H v a rv => hret q aq s B H v a rv
    · match i with
      | 0 => exact hi
      | 1 => cases hi
      | n + 2 => cases hi
abbrev spHear (K : PySem.W.Frag) (A : Ad) : Sp := spOwn K A.asker anames (T := List Dia × List Nat × List Nat × Int × Dia) (fun i => [encAns (ans i.2.2.2.2 i.2.2.1)]) (fun i => askD A i.1 i.2.1 (some i.2.2.1) i.2.2.2.1) (fun i => AskOk i.1 i.2.1 ∧ TxSg i.2.2.1) (fun i d st => d = .non ∧ st = askD A i.1 (i.2.1.filter (hrP i.1 i.2.2.1 (ans i.2.2.2.2 i.2.2.1))) none (i.2.2.2.1 + 1))
theorem ok_Asker_hear (F : FnP K "hear" "Asker.hear" s_Asker_hear f fd) (T : Tx K mg A) (F_ans : Cal P w K mg base 8 "answer_of" ["dialect", "text"] (spAns K A)) : FnOk P w K mg base CX0 9 f fd ["self", "answer"] (spHear K A) := by
  refine fn_okO F sc_Asker_hear (fun _ => rfl) fun ⟨Ds, pl, m, h, D⟩ p dx cdv A' outer sh Hc E B0 H0 D' hr hp hret hnx => ?_
  obtain ⟨⟨⟨len, oks⟩, lt, small⟩, tx⟩ := hp
  have oks : ∀ D ∈ Ds, Ok D := oks
  have lt : ∀ x ∈ pl, x < Ds.length := lt
  have tx : TxSg m := tx
  have r8 : Room 8 _ := hr
  have hu := hr.units
  have hnx : ∀ G σ B' H', At K B0 H0 B' G [(p, Ob.ins A.asker dx anames (askD A Ds (pl.filter (hrP Ds m (ans D m))) none (h + 1)))] σ H' → D'.nx σ H' := fun G σ B' H' a => hnx _ G _ σ B' H' ⟨rfl, rfl⟩ a (List.mem_singleton.mpr rfl)
  have ixD : ∀ {i : Nat} {D : Dia}, Ds[i]? = some D → atI (Ds.map (encD A)) ((i : Nat) : Int) = some (encD A D) := fun h => atI_nat (by rw [List.getElem?_map, h]; rfl)
  refine go_if0V (Vw.refl.set (j := 0) (i := 0) rfl rfl rfl) (et_cmp (ev_fldI (i := 2) (ev_v 0 rfl) T.k_asker T.a_question and_ rfl rfl) ev_non b_isN (nomark _)) (fun h => nomatch h) (fun _ => ?_)
  refine go_setFldV (i := 1) (j := 0) (Vw.refl.set (j := 0) (i := 0) rfl rfl rfl) onlyI1 (ev_lc (xs := pl) (enc := natD) (g := natD) (P := hrP Ds m (ans D m)) (i := 2) rfl sc_Asker_hear.nd (pit_list (ev_fldI (i := 1) (ev_v 0 rfl) T.k_asker T.a_still and_ rfl rfl)) (blkOk_by rfl) (fun _ _ _ _ _ => pg_name (i := 2) sc_Asker_hear.nd rfl (.inl rfl)) (by show 2 < 3; decide) (fun x hx _ _ _ _ _ => ?_) (fun x hx hP _ _ _ _ _ => ev_v 2 rfl) ?_) (nlI_nats _) (ev_v 0 rfl) rfl T.k_asker T.a_still rfl and_ ?_
  · have lx := lt x hx
    have ex : Ds[x]? = some Ds[x] := List.getElem?_eq_getElem lx
    have okx := oks _ (List.getElem_mem lx)
    generalize Ds[x] = Dx at ex okx
    have e : decide (ans Dx m = ans D m) = hrP Ds m (ans D m) x := by
      unfold hrP ansAt
      rw [ex]
      exact decide_eq_decide.mpr ⟨fun e => congrArg some e, fun e => Option.some.inj e⟩
    exact ets_one (ET.to (et_cmp (ev_call F_ans r8 (evs_cons (ev_ix (ev_fldI (i := 0) (ev_v 0 rfl) T.k_asker T.a_readers and_ rfl rfl) (ev_v 2 rfl) (ix_l (ixD ex)) (fun _ _ => rfl)) (evs_cons (ev_fldI (i := 2) (ev_v 0 rfl) T.k_asker T.a_question and_ rfl rfl) evs_nil)) (Dx, m) rfl rfl ⟨okx, tx⟩ rfl) (ev_v 1 rfl) (b_eqT hu ed_ans (by decide) (ans_ok tx) (ans_ok tx)) (nomark _)) e)
  · exact sl_small (Nat.le_trans small (by decide))
  refine go_setFld (i := 2) (j := 0) ev_non (ev_v 0 rfl) rfl T.k_asker T.a_question rfl and_ ?_
  refine go_augFld (i := 3) (j := 0) (m := h) (ev_v 0 rfl) rfl T.k_asker T.a_heard rfl and_ rfl ?_
  exact go_nil fun s H' ⟨B', a⟩ => hnx _ s B' H' a
structure FoOk (Ds : List Dia) (t : Nat) (D : Dia) : Prop where
  few : FewOk Ds
  at_ : Ds[t]? = some D
abbrev spFound (K : PySem.W.Frag) (A : Ad) : Sp := spOwn K A.asker anames (T := List Dia × Nat × Dia) (fun i => [encT7 i.2.2]) (fun i => askD A i.1 (List.range i.1.length) none 0) (fun i => FoOk i.1 i.2.1 i.2.2) (fun i d _ => d = grpD ((List.range i.1.length).filter (alI i.1 i.2.1)))
theorem ok_law_found_out (F : FnP K "_law_found_out" "_law_found_out" s_law_found_out f fd) (T : Tx K mg A) (F_ask : CalM P w K mg base 8 A.asker "ask" ["self"] (spAskQ K A)) (F_left : CalM P w K mg base 1 A.asker "left" ["self"] (spLeft K A)) (F_hear : CalM P w K mg base 9 A.asker "hear" ["self", "answer"] (spHear K A)) (F_ans : Cal P w K mg base 4 "_law_answer" ["_law_told_here", "_law_text"] (spLans K)) :
    FnOk P w K mg base CX0 10 f fd ["_law_asker", "_law_told_here"] (spFound K A) := by
  refine fn_okO F sc_law_found_out (fun _ => rfl) fun ⟨Ds, t, D⟩ p dx cdv A' outer sh Hc E B0 H0 D' hr hp hret hnx => ?_
  obtain ⟨few, hD⟩ := hp
  have few : FewOk Ds := few
  have hD : Ds[t]? = some D := hD
  obtain ⟨len, oks⟩ := id few
  have okD : Ok D := oks D (List.mem_of_getElem? hD)
  have tl := (List.getElem?_eq_some_iff.mp hD).1
  have r9 : Room 9 _ := hr
  have r8 : Room 8 _ := hr.mono (by decide)
  have r4 : Room 4 _ := hr.mono (by decide)
  have r1 : Room 1 _ := hr.mono (by decide)
  have Eqq := alI_eqv Ds
  have hret : ∀ pl : List Nat, pl = (List.range Ds.length).filter (alI Ds t) → ∀ G O st v σ B' H', At K B0 H0 B' G O σ H' → (p, Ob.ins A.asker dx anames st) ∈ O → Rep K B' (grpD pl) v → D'.rt v H' := fun pl e G O st v σ B' H' a m rv => hret _ st v G O σ B' H' (by rw [e]) a m rv
  refine go_for PassesOwn.never rfl (pit_range (n := 12) (EV.to ev_int (show Dt.int 12 = .int ((12 : Nat) : Int) from rfl)) (by decide) rfl T.b_range) (fun j G O => ∃ pl h x2 x3, t ∈ pl ∧ Lf (alI Ds) Ds.length pl ∧ pl.length + j ≤ Ds.length ∧ G = [some (.raw (.ref p)), some (encT7 D), x2, x3] ∧ O = [(p, Ob.ins A.asker dx anames (askD A Ds pl none h))])
    ⟨List.range Ds.length, 0, none, none, List.mem_range.mpr tl, Lf.all, by rw [List.length_range]; exact Nat.le_refl _, rfl, rfl⟩ (fun B1 u j d G1 O1 hd W => ?_) (fun G1 O1 W => ?_)
  · obtain ⟨pl, h, x2, x3, tp, L, pj, rfl, rfl⟩ := W
    obtain ⟨hj, rfl⟩ := rng_get hd
    have aok : AskOk Ds pl := ⟨few, fun x hx => L.lt hx, by omega⟩
    refine ⟨_, (tgt_name (i := 2) sc_law_found_out.nd rfl (.inl rfl)), ?_⟩
    refine go_setO (i := 3) (evo_own0 F_ask r8 (ev_v 0 rfl) T.k_asker (by decide +kernel) (j := 0) rfl (Ds, pl, h) rfl rfl aok) (fun d O' hR => ?_) sc_law_found_out.nd rfl (.inl rfl)
    obtain ⟨st', ⟨q, rfl, rfl, aq⟩, rfl⟩ := hR
    cases q with
    | none =>
      have e : pl = (List.range Ds.length).filter (alI Ds t) := Lf.group Eqq L tp fun i hi => Eqq.trans _ _ _ (Eqq.symm _ _ (aq t tp)) (aq i hi)
      refine go_if0 (et_cmp (ev_v 3 rfl) ev_non b_isN (nomark _)) (fun _ => ?_) (fun h => nomatch h)
      exact go_retO (evo_own0 F_left r1 (ev_v 0 rfl) T.k_asker (by decide +kernel) (j := 0) rfl (Ds, pl, h) rfl rfl trivial) fun d O' s B H v hR a rv => by
        obtain ⟨st', rfl, rfl⟩ := hR
        exact hret pl e _ _ st' v s B H (u.at_ a) (List.mem_singleton.mpr rfl) rv
    | some m =>
      obtain ⟨tx, i, hi, j2, hj2, Di, Dj, ei, ej, ne⟩ := aq
      refine go_if0 (et_cmp (ev_v 3 rfl) ev_non b_isN (nomark _)) (fun h => nomatch h) (fun _ => ?_)
      refine go_exprO (evo_own (ds1 := [encAns (ans D m)]) F_hear r9 (ev_v 0 rfl) T.k_asker (by decide +kernel) (j := 0) rfl ?_ (Ds, pl, m, h, D) rfl rfl ⟨aok, tx⟩) fun d O' hR => ?_
      · exact evs_cons (ev_call F_ans r4 (evs_cons (ev_v 1 rfl) (evs_cons (ev_v 3 rfl) evs_nil)) (D, m) rfl rfl ⟨okD, tx⟩ rfl) evs_nil
      obtain ⟨st', ⟨rfl, rfl⟩, rfl⟩ := hR
      have hf : ∀ i j, i < Ds.length → j < Ds.length → alI Ds i j = true → ansAt Ds m i = ansAt Ds m j := fun i j hi hj h => by
        have h1 : Ds[i]? = some Ds[i] := List.getElem?_eq_getElem hi
        have h2 : Ds[j]? = some Ds[j] := List.getElem?_eq_getElem hj
        rw [alI_at h1 h2] at h
        unfold ansAt
        rw [h1, h2]
        exact congrArg some (alk_iff.mp h m)
      have L' : Lf (alI Ds) Ds.length (pl.filter (hrP Ds m (ans D m))) := L.filter (ansAt Ds m) (some (ans D m)) hf
      have tp' : t ∈ pl.filter (hrP Ds m (ans D m)) := List.mem_filter.mpr ⟨tp, decide_eq_true (by unfold ansAt; rw [hD]; rfl)⟩
      have sm : (pl.filter (hrP Ds m (ans D m))).length < pl.length := by
        refine Nat.lt_of_lt_of_le (filter_lt (hrP Ds m (ans D m)) (fun _ => true) pl (fun _ _ _ => rfl) ?_) (List.length_filter_le _ _)
        by_cases z : ans Di m = ans D m
        · refine ⟨j2, hj2, rfl, decide_eq_false ?_⟩
          unfold ansAt
          rw [ej]
          exact fun q => ne (z.trans (Option.some.inj q).symm)
        · refine ⟨i, hi, rfl, decide_eq_false ?_⟩
          unfold ansAt
          rw [ei]
          exact fun q => z (Option.some.inj q)
      exact go_nilW ⟨_, h + 1, _, _, tp', L', by omega, rfl, rfl⟩ rfl
  · obtain ⟨pl, h, x2, x3, tp, L, pj, rfl, rfl⟩ := W
    have e : (rng 12).length = 12 := by simp [rng]
    rw [e] at pj
    omega
end
end Dh
end SDhAsk

section SDhLaw
set_option Elab.async false
set_option linter.all false
set_option maxRecDepth 100000
set_option maxHeartbeats 4000000
local macro_rules | `(tactic| walk_at "bd") => `(tactic| first
  | exact Dh.b_in | exact Dh.b_notin | exact Dh.b_eqS | exact Dh.b_neS | exact Dh.b_isN | exact Dh.b_notN | exact Dh.b_add | exact Dh.b_sub | exact Dh.b_lt | exact Dh.b_le | exact Dh.b_gt | exact Dh.b_ge | exact Dh.b_eqI | exact Dh.b_neI | exact Dh.b_eqB | exact Dh.b_neB)
local macro_rules | `(tactic| walk_at "xd") => `(tactic| first | exact Dh.ix_t rfl | exact Dh.ix_l rfl)
namespace Dh
open PySem PySem.Spec PyProof.Rows L2
theorem ev_of {X : Cx} {G : List (Option Dt)} {e : Expr} {R : Dt → Prop} {d0 : Dt} (h : EVR X G e R) (q : ∀ d, R d → d = d0) : EV X G e d0 := fun s B H hs hb Q k => h s B H hs hb Q fun d v B' H' hd g r => k v B' H' g (q d hd ▸ r)
theorem ev_made {X : Cx} {G : List (Option Dt)} {e1 e2 : Expr} {d0 d1 d2 : Dt} {pos apos ap mp : Pos} {k k2 : Nat} {C : Addr} {ns ps ps2 : List Str} {x x2 : Str} {T T2 : Type} {args st : T → List Dt} {pre : T → Prop} {res : T → Dt → List Dt → Prop} {args2 fl2 : T2 → List Dt} {pre2 : T2 → Prop}
    (F : Cal X.prog X.w X.K X.mg X.base k x ps (spOwn X.K C ns args st pre res)) (M : CalC X.prog X.w X.K X.mg X.base k2 x2 C ps2 (spMk X.K C ns args2 pre2 fl2)) (hr : Room k X.A) (hr2 : Room (k2 + 1) X.A) (h1 : EV X G e1 d1) (h2 : EV X G e2 d2) (i2 : T2) (ha2 : args2 i2 = [d1]) (hp2 : pre2 i2) (i : T) (hst : st i = fl2 i2) (hargs : args i = [d2]) (hp : pre i) (h : ∀ d st', res i d st' → d = d0) (hg : Gl X x) (hg2 : Gl X x2) (hdb : (x == ("__debug__" : Str)) = false := by decide) (hdb2 : (x2 == ("__debug__" : Str)) = false := by decide)
    (q1 : starEach [.Call (.Name x2 mp) [e1] [] apos, e2] X.env = (false, eval (.Call (.Name x2 mp) [e1] [] apos) X.env) :: starEach [e2] X.env := by rfl) (q2 : starEach [e2] X.env = (false, eval e2 X.env) :: starEach [] X.env := by rfl) (q3 : starEach [e1] X.env = (false, eval e1 X.env) :: starEach [] X.env := by rfl)
    (hpl : (backTo pos (starEach [e2] X.env)).any (·.1) = false := by rfl) (hpl2 : (backTo apos (starEach [] X.env)).any (·.1) = false := by rfl) :
    EV X G (.Call (.Name x ap) [.Call (.Name x2 mp) [e1] [] apos, e2] [] pos) d0 := ev_of (evr_made F M hr hr2 hg hg2 h1 h2 i2 ha2 hp2 i hst hargs hp hdb hdb2 q1 q2 q3 hpl hpl2) fun d ⟨st', q⟩ => h d st' q
theorem cutD_map {A : Type} (f : A → Dt) (l : List A) (lo hi : Option Int) : ∃ l' : List A, cutD (l.map f) lo hi = l'.map f := by
  unfold cutD
  exact ⟨(l.drop (HT.sIx (l.map f).length 0 lo)).take (HT.sIx (l.map f).length (l.map f).length hi - HT.sIx (l.map f).length 0 lo), by rw [List.map_take, List.map_drop]⟩
theorem ed_grps : ED 2 (fun l : List (List Nat) => Dt.lst (l.map grpD)) (fun l => ∀ g ∈ l, ∀ n ∈ g, True) := ed_nat.list.list
theorem grps_ok (l : List (List Nat)) : ∀ g ∈ l, ∀ n ∈ g, True := fun _ _ _ _ => trivial
theorem filter_true {A : Type} (l : List A) : (l.filter fun _ => true) = l := List.filter_eq_self.mpr fun _ _ => rfl
def WM (ns : List Int) (G : List (Option Dt)) (O : List (Addr × Ob)) : Prop := ∃ many : Nat, 1 ≤ many ∧ many ≤ 4 ∧ G = [some (.lst (ns.map .int)), some (natD many), none, none, none, none, none, none, none, none, none, none, none, none] ∧ O = []
section
variable {P : Program} {w : World} {K : PySem.W.Frag} {mg : Str → Option Value} {base : Heap} {f : Addr} {fd : FuncData} {A : Ad}
abbrev spLaw (K : PySem.W.Frag) : Sp := spT K (T := List Int) (fun ns => [.lst (ns.map .int)]) (fun _ => True) (fun _ d => d = .bl true)
structure LawF (P : Program) (w : World) (K : PySem.W.Frag) (mg : Str → Option Value) (base : Heap) (A : Ad) : Prop where
  cell : Cal P w K mg base 1 "_law_cell_at" ["_law_script", "_law_k"] (spCell K)
  tolds : Cal P w K mg base 4 "_law_tolds" ["_law_cells", "_law_many"] (spTolds K)
  dof : Cal P w K mg base 4 "dialect_of" ["told"] (spDof K A)
  lgroups : Cal P w K mg base 5 "_law_groups" ["_law_tolds_here"] (spLgroups K)
  telling : Cal P w K mg base 10 "telling" ["dialects"] (spTelling K A)
  lans : Cal P w K mg base 4 "_law_answer" ["_law_told_here", "_law_text"] (spLans K)
  tree : Cal P w K mg base 10 "tree_of" ["dialects", "texts"] (spTree K A)
  groups : Cal P w K mg base 8 "groups" ["dialects"] (spGroups K A)
  depth : Cal P w K mg base 7 "depth_of" ["tree"] (spDepth K 6)
  sorts : Cal P w K mg base 10 "sorts" ["dialects", "texts", "tree"] (spSorts K A)
  leaf : Cal P w K mg base 2 "_law_leaf" ["_law_tree", "_law_answers", "_law_place"] (spLleaf K)
  found : Cal P w K mg base 10 "_law_found_out" ["_law_asker", "_law_told_here"] (spFound K A)
  asker : CalC P w K mg base 2 "Asker" A.asker ["self", "dialects"] (spAsk0 K A)
theorem ok_law (F : FnP K "law" "law" s_law f fd) (T : Tx K mg A) (L : LawF P w K mg base A) : FnOk P w K mg base CX0 11 f fd ["_law_script"] (spLaw K) := by
  refine fn_ok F sc_law (fun _ => rfl) fun ns cdv A' outer sh H0 E B0 D' hr hp hn hQ => ?_
  have hQ : Rt K B0 H0 (fun d => d = .bl true) D'.rt := hQ
  have r10 : Room 10 _ := hr
  have r8 : Room 8 _ := hr.mono (by decide)
  have r7 : Room 7 _ := hr.mono (by decide)
  have r5 : Room 5 _ := hr.mono (by decide)
  have r4 : Room 4 _ := hr.mono (by decide)
  have r3 : Room (2 + 1) _ := hr.mono (by decide)
  have r2 : Room 2 _ := hr.mono (by decide)
  have r1 : Room 1 _ := hr.mono (by decide)
  have hu := hr.units
  have hun : Around.units (A'.deeper (envOfC "law" (defScope s_law) sh.heap.objs.size f cdv)) + 65 < cLine := by have := hr.un; omega
  have b1 := mod_b (ns.getD 0 0) (m := 3) (by decide)
  refine go_set (i := 1) (d := natD (1 + ns.getD 0 0 % 3).toNat) (EV.to (ev_bin ev_int (ev_bin (ev_call L.cell r1 (evs_cons (ev_v 0 rfl) (evs_cons (EV.to ev_int (show Dt.int 0 = natD 0 from rfl)) evs_nil)) (ns, 0) rfl rfl trivial rfl) ev_int (b_mod (by decide))) b_add) (int_nat (by show (0 : Int) ≤ 1 + ns.getD 0 0 % 3; omega))) ?_ sc_law.nd rfl (.inl rfl)
  refine go_ifWV (W := WM ns) Vw.refl (et_cmp (ev_bin (ev_bin (ev_call L.cell r1 (evs_cons (ev_v 0 rfl) (evs_cons (EV.to ev_int (show Dt.int 0 = natD 0 from rfl)) evs_nil)) (ns, 0) rfl rfl trivial rfl) ev_int (b_fdiv ⟨by decide, by decide⟩)) ev_int (b_mod (by decide))) ev_int b_eqI (nomark _)) (fun _ => ?_) (fun _ => ⟨_, by omega, by omega, rfl, rfl⟩) (fun G1 O1 W => ?_)
  · refine go_set (i := 1) (EV.to ev_int (show Dt.int 4 = natD 4 from rfl)) ?_ sc_law.nd rfl (.inl rfl)
    exact go_nilW ⟨4, by decide, by decide, rfl, rfl⟩ rfl
  obtain ⟨many, m1, m4, rfl, rfl⟩ := W
  obtain ⟨cs, hcs⟩ := cutD_map Dt.int ns (some 1) (some 5)
  refine go_setR (i := 2) (ev_callR L.tolds r4 (evs_cons (EV.to (ev_slice (ev_v 0 rfl) (show EO _ _ (some _) (some 1) from ⟨1, rfl, ev_int⟩) (show EO _ _ (some _) (some 5) from ⟨5, rfl, ev_int⟩) sl_l) (congrArg Dt.lst hcs)) (evs_cons (ev_v 1 rfl) evs_nil)) (cs, many) rfl m4 rfl) (fun d hd => ?_) sc_law.nd rfl (.inl rfl)
  obtain ⟨Ds, rfl, dl, oks⟩ := hd
  have dl : Ds.length = many := dl
  have oks : ∀ D ∈ Ds, Ok D := oks
  have few : FewOk Ds := ⟨by omega, oks⟩
  have ok8 : Ds.length ≤ 8 ∧ ∀ D ∈ Ds, Ok D := ⟨by omega, oks⟩
  have zD : Ds.length ≤ sizeLine := sl_small (by omega)
  refine go_setLc (n := 3) (i := 11) (xs := Ds) (enc := encT7) (g := encD A) (P := fun _ => true) (pit_list (ev_v 2 rfl)) (by show 11 < 14; decide) (fun _ _ _ _ _ _ _ => ets_nil) (fun D hD _ _ _ _ _ _ => ev_call L.dof r4 (evs_cons (ev_v 11 rfl) evs_nil) D rfl rfl (oks D hD) rfl) zD ?_ rfl sc_law.nd rfl rfl rfl (blkOk_by rfl) (fun _ _ _ _ _ => pg_name (i := 11) sc_law.nd rfl (.inl rfl))
  rw [filter_true]
  refine go_set (i := 4) (ev_call L.lgroups r5 (evs_cons (ev_v 2 rfl) evs_nil) Ds rfl rfl ok8 rfl) ?_ sc_law.nd rfl (.inl rfl)
  refine go_setR (i := 5) (ev_callR L.telling r10 (evs_cons (ev_v 3 rfl) evs_nil) Ds rfl few rfl) (fun d hd => ?_) sc_law.nd rfl (.inr rfl)
  obtain ⟨ts, rfl, tx, tl6, te⟩ := hd
  have tx : ∀ t ∈ ts, TxSg t := tx
  have te : Tells2 Ds ts := te
  have aok : AOk Ds ts := ⟨ok8, by omega, tx⟩
  have zT : ts.length ≤ sizeLine := sl_small (by omega)
  have em : ∀ D : Dia, Dt.lst (ts.map fun t => encAns (ans D t)) = encRA (rowOf ts D) := fun D => by
    show _ = Dt.lst (List.map encAns (List.map _ ts))
    rw [List.map_map]; rfl
  refine go_setLc (n := 6) (i := 11) (xs := Ds) (enc := encT7) (g := fun D => encRA (rowOf ts D)) (P := fun _ => true) (pit_list (ev_v 2 rfl)) (by show 11 < 14; decide) (fun _ _ _ _ _ _ _ => ets_nil) (fun D hD _ _ _ _ _ _ => ?_) zD ?_ rfl sc_law.nd rfl rfl rfl (blkOk_by rfl) (fun _ _ _ _ _ => pg_name (i := 11) sc_law.nd rfl (.inr rfl))
  · exact EV.to (ev_lcm (i := 12) (xs := ts) (enc := encTx) (g := fun t => encAns (ans D t)) rfl sc_law.nd (pit_list (ds := ts.map encTx) (ev_v 5 rfl)) (blkOk_by rfl) (fun _ _ _ _ _ => pg_name (i := 12) sc_law.nd rfl (.inl rfl)) (by show 12 < 14; decide) (fun t ht _ _ _ _ _ => ev_call L.lans r4 (evs_cons (ev_v 11 rfl) (evs_cons (ev_v 12 rfl) evs_nil)) (D, t) rfl rfl ⟨oks D hD, tx t ht⟩ rfl) zT) (em D)
  rw [filter_true]
  have er : (Ds.map fun D => encRA (rowOf ts D)) = (rowsOf Ds ts).map encRA := by rw [List.map_map]; rfl
  rw [er]
  refine go_setR (i := 7) (ev_callR L.tree r10 (evs_cons (ev_v 3 rfl) (evs_cons (ev_v 5 rfl) evs_nil)) (Ds, ts) rfl ⟨aok, few.1, tl6⟩ rfl) (fun d hd => ?_) sc_law.nd rfl (.inl rfl)
  obtain ⟨t, rfl, pr⟩ := hd
  have pr : Proper (keyR (rowsOf Ds ts)) ts.length t (List.range Ds.length) := pr
  have dle : dep t ≤ ts.length := Nat.le_trans pr.dep_le splits_le
  have ne : Ds ≠ [] := fun z => by rw [z] at dl; simp at dl; omega
  have PG := pg_go (alI_eqv Ds) (List.range Ds.length)
  have one := fun p (hp : p ∈ List.range Ds.length) => PG.one (alI_eqv Ds) hp
  have ln : Dt.int (((ts.map encTx).length : Nat) : Int) = natD ts.length := by rw [List.length_map]
  have gl := pgo_len (alI_eqv Ds) (List.range Ds.length)
  rw [List.length_range] at gl
  refine go_ifN (b := false || (false || false)) (EW.pt (ew_or (t := false) (ET.to (et_cmp (ev_call L.groups r8 (evs_cons (ev_v 3 rfl) evs_nil) Ds rfl rfl ok8 rfl) (ev_v 4 rfl) (b_neT (A := List (List Nat)) (a := pgo (alI Ds) (List.range Ds.length)) (b := pgo (alI Ds) (List.range Ds.length)) hu ed_grps (by decide) (grps_ok _) (grps_ok _)) (nomark _)) (by rw [decide_eq_true rfl]; rfl)) fun _ => ew_or (t := false) (ET.to (et_cmp (ev_call L.depth r7 (evs_cons (ev_v 7 rfl) evs_nil) t rfl rfl ⟨by omega, rowsOf Ds ts, ts.length, _, pr, by rw [List.length_range]; omega⟩ rfl) (EV.to (ev_callB c_lenL rfl T.b_len boot_len (evs_cons (ev_v 5 rfl) evs_nil)) ln) b_gt (nomark _)) (decide_eq_false (by omega))) fun _ => ew_or1 (ET.to (et_cmp (ev_call L.sorts r10 (evs_cons (ev_v 3 rfl) (evs_cons (ev_v 5 rfl) (evs_cons (ev_v 7 rfl) evs_nil))) (Ds, ts, t) rfl rfl ⟨aok, few.1, ne, tl6, pr⟩ rfl) ev_bl b_notB (nomark _)) rfl))) rfl ?_
  have lf := fun p (hp : p < Ds.length) => (⟨aok, te, pr, hp⟩ : LeafOk t Ds ts p)
  have leafp : ∀ (p : Nat) (d : Dt), leafR Ds p d → ∃ asked, asked < (pgo (alI Ds) (List.range Ds.length)).length ∧ d = .tup [grpD ((List.range Ds.length).filter (alI Ds p)), natD asked] := fun _ _ h => h
  refine go_for PassesOwn.never rfl (pit_range (n := many) (ev_v 1 rfl) (by omega) rfl T.b_range) (fun j G O => ∃ x8 x9 x10, G = [some (.lst (ns.map .int)), some (natD many), some (.lst (Ds.map encT7)), some (.lst (Ds.map (encD A))), some (.lst ((pgo (alI Ds) (List.range Ds.length)).map grpD)), some (.lst (ts.map encTx)), some (.lst ((rowsOf Ds ts).map encRA)), some (encTr t), x8, x9, x10, none, none, none] ∧ O = []) ⟨none, none, none, rfl, rfl⟩ (fun B1 u j d G1 O1 hd W => ?_) (fun G1 O1 W => ?_)
  · obtain ⟨x8, x9, x10, rfl, rfl⟩ := W
    obtain ⟨hj, rfl⟩ := rng_get hd
    have hjD : j < Ds.length := by omega
    have oj := one j (List.mem_range.mpr hjD)
    refine ⟨_, (tgt_name (i := 8) sc_law.nd rfl (.inr rfl)), ?_⟩
    refine go_asgR (ev_callR L.leaf r2 (evs_cons (ev_v 7 rfl) (evs_cons (ev_v 6 rfl) (evs_cons (ev_v 8 rfl) evs_nil))) (t, Ds, ts, j) rfl (lf j hjD) rfl) (fun d hd => ?_)
    obtain ⟨asked, ak, rfl⟩ := leafp j d hd
    refine ⟨_, (tgt_tup rfl (tgts_cons (tgt_name (i := 9) sc_law.nd rfl (.inl rfl)) (tgts_cons (tgt_name (i := 10) sc_law.nd rfl (.inl rfl)) tgts_nil))), ?_⟩
    generalize pgo (alI Ds) (List.range Ds.length) = made at oj ak gl
    have lm : Dt.int (((made.map grpD).length : Nat) : Int) = natD made.length := by rw [List.length_map]
    refine go_ifN (b := false || false) (EW.pt (ew_or (t := false) (ET.to (et_cmp (ev_v 10 rfl) (EV.to (ev_callB c_lenL rfl T.b_len boot_len (evs_cons (ev_v 4 rfl) evs_nil)) lm) b_ge (nomark _)) (decide_eq_false (by omega))) fun _ => ew_or1 (ET.to (et_cmp (ev_lc (i := 13) (xs := made) (enc := grpD) (g := grpD) (P := fun g => decide (j ∈ g)) rfl sc_law.nd (pit_list (ev_v 4 rfl)) (blkOk_by rfl) (fun _ _ _ _ _ => pg_name (i := 13) sc_law.nd rfl (.inl rfl)) (by show 13 < 14; decide) (fun g hg _ _ _ _ _ => ets_one (et_cmp (ev_v 8 rfl) (ev_v 13 rfl) (b_inT hun ed_nat (by decide) trivial (fun _ _ => trivial)) rfl)) (fun g hg hP _ _ _ _ _ => ev_v 13 rfl) (sl_small (by omega))) (ev_lst (evs_cons (ev_v 9 rfl) evs_nil)) (b_neT (A := List (List Nat)) (a := made.filter fun g => decide (j ∈ g)) (b := [(List.range Ds.length).filter (alI Ds j)]) hu ed_grps (by decide) (grps_ok _) (grps_ok _)) (nomark _)) (by rw [oj, decide_eq_true rfl]; rfl)))) rfl ?_
    exact go_nilW ⟨_, _, _, rfl, rfl⟩ rfl
  · obtain ⟨x8, x9, x10, rfl, rfl⟩ := W
    obtain ⟨q1, q2⟩ := mod_b (ns.getD 0 0 / 15) (m := ((many : Nat) : Int)) (by omega)
    refine go_set (i := 8) (d := natD (ns.getD 0 0 / 15 % ((many : Nat) : Int)).toNat) (EV.to (ev_bin (ev_bin (ev_call L.cell r1 (evs_cons (ev_v 0 rfl) (evs_cons (EV.to ev_int (show Dt.int 0 = natD 0 from rfl)) evs_nil)) (ns, 0) rfl rfl trivial rfl) ev_int (b_fdiv ⟨by decide, by decide⟩)) (ev_v 1 rfl) (b_mod (by omega))) (int_nat q1)) ?_ sc_law.nd rfl (.inr rfl)
    have hp : (ns.getD 0 0 / 15 % ((many : Nat) : Int)).toNat < Ds.length := by omega
    generalize (ns.getD 0 0 / 15 % ((many : Nat) : Int)).toNat = p at hp
    have op := one p (List.mem_range.mpr hp)
    have hD : Ds[p]? = some Ds[p] := List.getElem?_eq_getElem hp
    generalize Ds[p] = D at hD
    have fo : FoOk Ds p D := ⟨few, hD⟩
    have hev : EV (cxOf CX0 P w K mg base ["_law_script", "_law_many", "_law_tolds_here", "_law_lent", "_law_made", "_law_texts", "_law_answers", "_law_tree", "_law_place", "_law_leaf_here", "_law_asked", "_law_told_here", "_law_text", "_law_group"] "law" (defScope s_law) f cdv A' outer sh H0 E).nox
        [some (.lst (ns.map .int)), some (natD many), some (.lst (Ds.map encT7)), some (.lst (Ds.map (encD A))), some (.lst ((pgo (alI Ds) (List.range Ds.length)).map grpD)), some (.lst (ts.map encTx)), some (.lst ((rowsOf Ds ts).map encRA)), some (encTr t), some (natD p), x9, x10, none, none, none]
        (match (defBody s_law).getLast? with | some (.Return (some (.Compare (.List [e] _) _ _ _)) _) => e | _ => .Constant .none 0 default) (grpD ((List.range Ds.length).filter (alI Ds p))) :=
      ev_made L.found L.asker r10 r3 (ev_v 3 rfl) (ev_ix (ev_v 2 rfl) (ev_v 8 rfl) (ix_l (d := encT7 D) (atI_nat (by rw [List.getElem?_map, hD]; rfl))) (fun _ _ => rfl)) Ds rfl few (Ds, p, D) rfl rfl fo (fun d st' hd => hd) rfl rfl
    generalize pgo (alI Ds) (List.range Ds.length) = made at op gl hev
    refine go_ret (EV.to (ev_cmp (ev_lst (evs_cons hev evs_nil)) (ev_lc (i := 13) (xs := made) (enc := grpD) (g := grpD) (P := fun g => decide (p ∈ g)) rfl sc_law.nd (pit_list (ev_v 4 rfl)) (blkOk_by rfl) (fun _ _ _ _ _ => pg_name (i := 13) sc_law.nd rfl (.inl rfl)) (by show 13 < 14; decide) (fun g hg _ _ _ _ _ => ets_one (et_cmp (ev_v 8 rfl) (ev_v 13 rfl) (b_inT hun ed_nat (by decide) trivial (fun _ _ => trivial)) rfl)) (fun g hg hP _ _ _ _ _ => ev_v 13 rfl) (sl_small (by omega))) (b_eqT (A := List (List Nat)) (a := [(List.range Ds.length).filter (alI Ds p)]) (b := made.filter fun g => decide (p ∈ g)) hu ed_grps (by decide) (grps_ok _) (grps_ok _)) (nomark _)) (congrArg Dt.bl (decide_eq_true op.symm))) hQ rfl
end
end Dh
end SDhLaw

section SDhFacts
set_option Elab.async false
set_option linter.all false
set_option maxRecDepth 100000
set_option maxHeartbeats 4000000
/-! The facts of the top, def by def. -/
namespace Dh
open PySem PySem.Spec PyProof.Rows L2
theorem exB_ok {K : PySem.W.Frag} {C : Addr} (h : exB K C = true) : ∃ nm q N bs bm sn sub ab col dd k0 k1 k2 k3 k5, K.lookup C = some (excClassObj nm q C N bs bm true sn sub ab col dd k0 k1 k2 k3 k5 "ValueError.__new__") ∧ PySem.HandSPX.refsVE bm = true := by
  unfold exB at h
  split at h
  · rename_i c od cd sl ho
    split at h
    · rename_i C' bm k0 k1 k2 k3 n k5 hm hs
      obtain ⟨h1, h⟩ := He.ba h
      obtain ⟨h2, h⟩ := He.ba h
      obtain ⟨h3, h⟩ := He.ba h
      obtain ⟨h4, h⟩ := He.ba h
      obtain ⟨h5, h6⟩ := He.ba h
      have h1 := of_decide_eq_true h1
      have h2 := of_decide_eq_true h2
      have h3 := of_decide_eq_true h3
      subst h1 h2 h3
      obtain ⟨nm, bs, mro, ns, qn, hd, sn, sub, ab, col, del⟩ := cd
      have hm : mro = .ref C' :: bm := hm
      have q5 : hd = true := h5
      have q4 : del = false := by
        have q : (!del) = true := h4
        simpa using q
      have es : sl = #[k0, k1, k2, k3, some (.builtin "ValueError.__new__"), k5] := by
        apply Array.toList_inj.mp
        exact hs
      have hm2 := hm
      clear h4 h5 h hm
      subst hm2 q4 q5 es
      exact ⟨nm, qn, ns, bs, bm, sn, sub, ab, col, od, k0, k1, k2, k3, k5, ho, h6⟩
    · cases h
  · cases h
theorem valB_ok {K : PySem.W.Frag} {C f : Addr} {m : Str} (h : valB K C m f = true) : ClX.CVal K C (.type "type") m (.ref f) (.ref f) := by
  unfold valB at h
  split at h
  · rename_i u e
    have h := of_decide_eq_true h
    subst h
    exact ⟨e, rfl⟩
  · cases h
structure ExM (K : PySem.W.Frag) : Prop where
  oex : OexC K (He.ga K "Broken")
  ini : PySem.W.findIn K (.ref (He.ga K "Broken")) "__init__" = some (some (.ref (He.ma K (He.ga K "Broken") "__init__")))
  tyi : PySem.W.typeIn K (.ref (He.ma K (He.ga K "Broken") "__init__")) = some (.type "function")
  row : He.tupB K "START" [.str "row", .str ""] = true
  cell : He.tupB K "CELL" [.str "cell", .str ""] = true
  plain : He.tupB K "PLAIN" [.str "plain", .str ""] = true
  behind : He.tupB K "BEHIND" [.str "behind", .str ""] = true
  rd : ClX.CRead K (He.ga K "Behind") (.type "type")
  vl : ClX.CVal K (He.ga K "Behind") (.type "type") "step" (.ref (He.ma K (He.ga K "Behind") "step")) (.ref (He.ma K (He.ga K "Behind") "step"))
theorem exL_ok {K : PySem.W.Frag} (h : exL K = true) : ExM K := by
  obtain ⟨h1, h⟩ := He.ba h
  obtain ⟨h2, h⟩ := He.ba h
  obtain ⟨h3, h⟩ := He.ba h
  obtain ⟨h4, h⟩ := He.ba h
  obtain ⟨h5, h⟩ := He.ba h
  obtain ⟨h6, h⟩ := He.ba h
  obtain ⟨h7, h⟩ := He.ba h
  obtain ⟨h8, h⟩ := He.ba h
  obtain ⟨h9, h⟩ := He.ba h
  obtain ⟨h10, h⟩ := He.ba h
  obtain ⟨h11, h⟩ := He.ba h
  obtain ⟨h12, h⟩ := He.ba h
  obtain ⟨h13, h14⟩ := He.ba h
  exact ⟨⟨exB_ok h1, He.eqO_ok h2, of_decide_eq_true h3, of_decide_eq_true h4, h5⟩, He.eqO_ok h6, of_decide_eq_true h7, h8, h9, h10, h11, ⟨h12, He.eqO_ok h13⟩, valB_ok h14⟩
abbrev adM (K : PySem.W.Frag) : Ad := ⟨He.ga K "Dialect", He.ga K "Turn", He.ga K "Plain", He.ga K "Fresh", He.ga K "Within", He.ga K "Behind", He.ga K "Doubt", He.ga K "Freed", He.ga K "Asker"⟩
section
variable {K : PySem.W.Frag} {mg : Str → Option Value} {h : Heap}
theorem gcStr {x z : Str} (q : ∃ t, mg x = some (.str z t)) : GC K mg x (.str z) := by
  obtain ⟨t, e⟩ := q
  exact ⟨_, .str z, e, ⟨t, rfl⟩, fun _ => rfl⟩
theorem gcInt {x : Str} {i : Int} (q : ∃ t, mg x = some (.int i t)) : GC K mg x (.int i) := by
  obtain ⟨t, e⟩ := q
  exact ⟨_, .int i, e, ⟨t, rfl⟩, fun _ => rfl⟩
theorem gcTup {x a b : Str} (q : mg x = some (.ref (He.ga K x))) (h : He.tupB K x [.str a, .str b] = true) : GC K mg x (.tup [.str a, .str b]) :=
  ⟨_, .ref (He.ga K x), q, rfl, fun B => ⟨He.ga K x, _, rfl, He.tupB_ok h B, .str a, [.str b], rfl, rfl, .str b, [], rfl, rfl, rfl⟩⟩
theorem diaBinds {f : Addr} {fd : FuncData} (F : FunD K "__init__" "Dialect.__init__" (defArgs s_Dialect_init) (defBody s_Dialect_init) (defScope s_Dialect_init) [.str "", .str "", .bl false, .bl false, .bl false, .bl false] [] f fd) : Binds K fd ["self", "parts", "quotes", "frees", "twin", "wide", "thin", "stray"] [] := by
  obtain ⟨ds, hv, hb⟩ := F.binds1 (ps := ["self", "parts", "quotes", "frees", "twin", "wide", "thin", "stray"]) 8 6 (by simp) rfl fun T kV doc pm an cdv ct us its h1 h2 => by
    match us, h1, its, h2 with
    | [_, _, _, _, _, _, _, _], _, [_, _, _, _, _, _], _ => exact ⟨_, rfl, rfl⟩
  cases hv
  exact hb
theorem txOf (X : K.In h) (G : h.Ns mainGlobals mg) (c : SaysM K) : Tx K mg (adM K) := by
  have e := exL_ok c.ex
  exact {
    cLINE := gcStr (He.str_ok X G (z := "\n") (c.d.fact 87 rfl)),
    cLETTERS := gcStr (He.str_ok X G (c.d.fact 88 rfl)),
    cPRINTABLE := gcStr (He.str_ok X G (c.d.fact 89 rfl)),
    cMOST_SIGNS := gcInt (He.int_ok X G (c.d.fact 80 rfl)),
    cSTART := gcTup (He.glo_ok X G (c.d.fact 62 rfl)) e.row,
    cCELL := gcTup (He.glo_ok X G (c.d.fact 63 rfl)) e.cell,
    cPLAIN := gcTup (He.glo_ok X G (c.d.fact 64 rfl)) e.plain,
    cBEHIND := gcTup (He.glo_ok X G (c.d.fact 65 rfl)) e.behind,
    cBLANK_turns := gcStr (He.str_ok X G (c.d.fact 90 rfl)),
    cBLANK_pairs := gcStr (He.str_ok X G (c.d.fact 91 rfl)),
    cMOST := gcInt (He.int_ok X G (c.d.fact 81 rfl)),
    cREADERS := gcInt (He.int_ok X G (c.d.fact 82 rfl)),
    cTEXTS := gcInt (He.int_ok X G (c.d.fact 83 rfl)),
    cMOST_PARTS := gcInt (He.int_ok X G (c.d.fact 84 rfl)),
    cMOST_QUOTES := gcInt (He.int_ok X G (c.d.fact 85 rfl)),
    cMOST_FREES := gcInt (He.int_ok X G (c.d.fact 86 rfl)),
    b_len := He.free_ok X G (c.d.fact 66 rfl),
    b_range := He.free_ok X G (c.d.fact 67 rfl),
    b_max := He.free_ok X G (c.d.fact 68 rfl),
    b_int := He.free_ok X G (c.d.fact 69 rfl),
    b_list := He.free_ok X G (c.d.fact 70 rfl),
    b_tuple := He.free_ok X G (c.d.fact 71 rfl),
    b_sorted := He.free_ok X G (c.d.fact 72 rfl),
    b_set := He.free_ok X G (c.d.fact 73 rfl),
    b_isinstance := He.free_ok X G (c.d.fact 74 rfl),
    b_all := He.free_ok X G (c.d.fact 75 rfl),
    b_zip := He.free_ok X G (c.d.fact 76 rfl),
    b_enumerate := He.free_ok X G (c.d.fact 77 rfl),
    b_str := He.free_ok X G (c.d.fact 78 rfl),
    b_bool := He.free_ok X G (c.d.fact 79 rfl),
    k_dia := He.cls_ok (c.d.fact 92 rfl),
    k_turn := He.cls_ok (c.d.fact 93 rfl),
    k_plain := He.cls_ok (c.d.fact 94 rfl),
    k_fresh := He.cls_ok (c.d.fact 95 rfl),
    k_within := He.cls_ok (c.d.fact 96 rfl),
    k_behind := He.cls_ok (c.d.fact 97 rfl),
    k_doubt := He.cls_ok (c.d.fact 98 rfl),
    k_freed := He.cls_ok (c.d.fact 99 rfl),
    k_asker := He.cls_ok (c.d.fact 100 rfl),
    d_parts := He.noat_ok (c.d.fact 101 rfl),
    d_quotes := He.noat_ok (c.d.fact 102 rfl),
    d_frees := He.noat_ok (c.d.fact 103 rfl),
    d_twin := He.noat_ok (c.d.fact 104 rfl),
    d_wide := He.noat_ok (c.d.fact 105 rfl),
    d_thin := He.noat_ok (c.d.fact 106 rfl),
    d_stray := He.noat_ok (c.d.fact 107 rfl),
    t_dialect := He.noat_ok (c.d.fact 108 rfl),
    plain_dialect := He.noat_ok (c.d.fact 109 rfl),
    plain_state := He.noat_ok (c.d.fact 110 rfl),
    fresh_dialect := He.noat_ok (c.d.fact 111 rfl),
    fresh_state := He.noat_ok (c.d.fact 112 rfl),
    within_dialect := He.noat_ok (c.d.fact 113 rfl),
    within_state := He.noat_ok (c.d.fact 114 rfl),
    behind_dialect := He.noat_ok (c.d.fact 115 rfl),
    behind_state := He.noat_ok (c.d.fact 116 rfl),
    doubt_dialect := He.noat_ok (c.d.fact 117 rfl),
    doubt_state := He.noat_ok (c.d.fact 118 rfl),
    freed_dialect := He.noat_ok (c.d.fact 119 rfl),
    freed_state := He.noat_ok (c.d.fact 120 rfl),
    a_readers := He.noat_ok (c.d.fact 121 rfl),
    a_still := He.noat_ok (c.d.fact 122 rfl),
    a_question := He.noat_ok (c.d.fact 123 rfl),
    a_heard := He.noat_ok (c.d.fact 124 rfl) }
theorem brOf (X : K.In h) (G : h.Ns mainGlobals mg) (c : SaysM K) : BrT K mg (He.ga K "Broken") := by
  have e := exL_ok c.ex
  exact ⟨e.oex, He.glo_ok X G (c.d.fact 61 rfl), He.noat_ok (c.d.fact 125 rfl), He.noat_ok (c.d.fact 126 rfl), He.noat_ok (c.d.fact 127 rfl), He.exm_ok (c.d.fact 155 rfl)⟩
theorem lawFOf {P : Program} {w : World} {base : Heap} (X : K.In h) (G : h.Ns mainGlobals mg) (c : SaysM K) : LawF P w K mg base (adM K) := by
  have e := exL_ok c.ex
  have T := txOf X G c
  have TB := brOf X G c
  obtain ⟨fd_d_are_signs, F_d_are_signs⟩ := c.d.def_ 0 (d := d_are_signs) rfl
  have B_d_are_signs : Binds K fd_d_are_signs ["thing"] [] := F_d_are_signs.bindsN fun _ _ _ _ _ _ us hl => match us, hl with | [_], _ => rfl
  have g_d_are_signs := He.glo_ok X G (c.d.fact 0 rfl)
  have C_d_are_signs : Cal P w K mg base 1 "are_signs" ["thing"] (spSigns K) := ⟨_, _, ok_are_signs F_d_are_signs T, g_d_are_signs, F_d_are_signs.kp, B_d_are_signs⟩
  obtain ⟨fd_d_is_text, F_d_is_text⟩ := c.d.def_ 1 (d := d_is_text) rfl
  have B_d_is_text : Binds K fd_d_is_text ["thing"] [] := F_d_is_text.bindsN fun _ _ _ _ _ _ us hl => match us, hl with | [_], _ => rfl
  have g_d_is_text := He.glo_ok X G (c.d.fact 1 rfl)
  have C_d_is_text : Cal P w K mg base 2 "is_text" ["thing"] (spText K) := ⟨_, _, ok_is_text F_d_is_text T C_d_are_signs, g_d_is_text, F_d_is_text.kp, B_d_is_text⟩
  obtain ⟨fd_d_others, F_d_others⟩ := c.d.def_ 2 (d := d_others) rfl
  have B_d_others : Binds K fd_d_others ["some", "many"] [] := F_d_others.bindsN fun _ _ _ _ _ _ us hl => match us, hl with | [_, _], _ => rfl
  have g_d_others := He.glo_ok X G (c.d.fact 2 rfl)
  have C_d_others : Cal P w K mg base 1 "others" ["some", "many"] (spOth K) := ⟨_, _, ok_others F_d_others T, g_d_others, F_d_others.kp, B_d_others⟩
  obtain ⟨fd_m_Dialect_special, F_m_Dialect_special⟩ := c.d.def_ 52 (d := m_Dialect_special) rfl
  have B_m_Dialect_special : Binds K fd_m_Dialect_special ["self"] [] := F_m_Dialect_special.bindsN fun _ _ _ _ _ _ us hl => match us, hl with | [_], _ => rfl
  have C_m_Dialect_special : CalM P w K mg base 1 (He.ga K "Dialect") "special" ["self"] (spSpecial K (adM K)) := ⟨_, _, ok_special F_m_Dialect_special T, He.meth_ok (c.d.fact 128 rfl), B_m_Dialect_special⟩
  obtain ⟨fd_d_is_live, F_d_is_live⟩ := c.d.def_ 3 (d := d_is_live) rfl
  have B_d_is_live : Binds K fd_d_is_live ["dialect", "state"] [] := F_d_is_live.bindsN fun _ _ _ _ _ _ us hl => match us, hl with | [_, _], _ => rfl
  have g_d_is_live := He.glo_ok X G (c.d.fact 3 rfl)
  have C_d_is_live : Cal P w K mg base 1 "is_live" ["dialect", "state"] (spLive K (adM K)) := ⟨_, _, ok_is_live F_d_is_live T, g_d_is_live, F_d_is_live.kp, B_d_is_live⟩
  obtain ⟨fd_d_ending, F_d_ending⟩ := c.d.def_ 4 (d := d_ending) rfl
  have B_d_ending : Binds K fd_d_ending ["dialect", "state"] [] := F_d_ending.bindsN fun _ _ _ _ _ _ us hl => match us, hl with | [_, _], _ => rfl
  have g_d_ending := He.glo_ok X G (c.d.fact 4 rfl)
  have C_d_ending : Cal P w K mg base 2 "ending" ["dialect", "state"] (spEnding K (adM K)) := ⟨_, _, ok_ending F_d_ending T C_d_is_live C_d_others C_m_Dialect_special, g_d_ending, F_d_ending.kp, B_d_ending⟩
  obtain ⟨fd_d_signs_for, F_d_signs_for⟩ := c.d.def_ 5 (d := d_signs_for) rfl
  have B_d_signs_for : Binds K fd_d_signs_for ["dialects"] [] := F_d_signs_for.bindsN fun _ _ _ _ _ _ us hl => match us, hl with | [_], _ => rfl
  have g_d_signs_for := He.glo_ok X G (c.d.fact 5 rfl)
  have C_d_signs_for : Cal P w K mg base 2 "signs_for" ["dialects"] (spSignsFor K (adM K)) := ⟨_, _, ok_signs_for F_d_signs_for T C_d_others C_m_Dialect_special, g_d_signs_for, F_d_signs_for.kp, B_d_signs_for⟩
  obtain ⟨fd_m_Turn_init, F_m_Turn_init⟩ := c.d.def_ 53 (d := m_Turn_init) rfl
  have B_m_Turn_init : Binds K fd_m_Turn_init ["self", "dialect"] [] := F_m_Turn_init.bindsN fun _ _ _ _ _ _ us hl => match us, hl with | [_, _], _ => rfl
  have C_m_Turn_init : CalC P w K mg base 1 "Turn" (He.ga K "Turn") ["self", "dialect"] (spMk K (adM K).turn tnames (T := Dt) (fun i => [i]) (fun _ => True) (fun i => [i])) := ⟨_, _, ok_Turn_init F_m_Turn_init T, He.glo_ok X G (c.d.fact 53 rfl), He.mkr_ok (c.d.fact 147 rfl), B_m_Turn_init⟩
  obtain ⟨fd_m_Within_init, F_m_Within_init⟩ := c.d.def_ 64 (d := m_Within_init) rfl
  have B_m_Within_init : Binds K fd_m_Within_init ["self", "dialect", "state"] [] := F_m_Within_init.bindsN fun _ _ _ _ _ _ us hl => match us, hl with | [_, _, _], _ => rfl
  have C_m_Within_init : CalC P w K mg base 1 "Within" (He.ga K "Within") ["self", "dialect", "state"] (spPl K (adM K).within) := ⟨_, _, ok_Place_init F_m_Within_init T.k_within T.within_dialect T.within_state, He.glo_ok X G (c.d.fact 56 rfl), He.mkr_ok (c.d.fact 150 rfl), B_m_Within_init⟩
  obtain ⟨fd_m_Doubt_init, F_m_Doubt_init⟩ := c.d.def_ 67 (d := m_Doubt_init) rfl
  have B_m_Doubt_init : Binds K fd_m_Doubt_init ["self", "dialect", "state"] [] := F_m_Doubt_init.bindsN fun _ _ _ _ _ _ us hl => match us, hl with | [_, _, _], _ => rfl
  have C_m_Doubt_init : CalC P w K mg base 1 "Doubt" (He.ga K "Doubt") ["self", "dialect", "state"] (spPl K (adM K).doubt) := ⟨_, _, ok_Place_init F_m_Doubt_init T.k_doubt T.doubt_dialect T.doubt_state, He.glo_ok X G (c.d.fact 58 rfl), He.mkr_ok (c.d.fact 152 rfl), B_m_Doubt_init⟩
  obtain ⟨fd_m_Behind_init, F_m_Behind_init⟩ := c.d.def_ 69 (d := m_Behind_init) rfl
  have B_m_Behind_init : Binds K fd_m_Behind_init ["self", "dialect", "state"] [] := F_m_Behind_init.bindsN fun _ _ _ _ _ _ us hl => match us, hl with | [_, _, _], _ => rfl
  have C_m_Behind_init : CalC P w K mg base 1 "Behind" (He.ga K "Behind") ["self", "dialect", "state"] (spPl K (adM K).behind) := ⟨_, _, ok_Place_init F_m_Behind_init T.k_behind T.behind_dialect T.behind_state, He.glo_ok X G (c.d.fact 57 rfl), He.mkr_ok (c.d.fact 151 rfl), B_m_Behind_init⟩
  obtain ⟨fd_m_Freed_init, F_m_Freed_init⟩ := c.d.def_ 71 (d := m_Freed_init) rfl
  have B_m_Freed_init : Binds K fd_m_Freed_init ["self", "dialect", "state"] [] := F_m_Freed_init.bindsN fun _ _ _ _ _ _ us hl => match us, hl with | [_, _, _], _ => rfl
  have C_m_Freed_init : CalC P w K mg base 1 "Freed" (He.ga K "Freed") ["self", "dialect", "state"] (spPl K (adM K).freed) := ⟨_, _, ok_Place_init F_m_Freed_init T.k_freed T.freed_dialect T.freed_state, He.glo_ok X G (c.d.fact 59 rfl), He.mkr_ok (c.d.fact 153 rfl), B_m_Freed_init⟩
  obtain ⟨fd_m_Plain_init, F_m_Plain_init⟩ := c.d.def_ 56 (d := m_Plain_init) rfl
  have B_m_Plain_init : Binds K fd_m_Plain_init ["self", "dialect", "state"] [] := F_m_Plain_init.bindsN fun _ _ _ _ _ _ us hl => match us, hl with | [_, _, _], _ => rfl
  have C_m_Plain_init : CalC P w K mg base 1 "Plain" (He.ga K "Plain") ["self", "dialect", "state"] (spPl K (adM K).plain) := ⟨_, _, ok_Place_init F_m_Plain_init T.k_plain T.plain_dialect T.plain_state, He.glo_ok X G (c.d.fact 54 rfl), He.mkr_ok (c.d.fact 148 rfl), B_m_Plain_init⟩
  obtain ⟨fd_m_Fresh_init, F_m_Fresh_init⟩ := c.d.def_ 60 (d := m_Fresh_init) rfl
  have B_m_Fresh_init : Binds K fd_m_Fresh_init ["self", "dialect", "state"] [] := F_m_Fresh_init.bindsN fun _ _ _ _ _ _ us hl => match us, hl with | [_, _, _], _ => rfl
  have C_m_Fresh_init : CalC P w K mg base 1 "Fresh" (He.ga K "Fresh") ["self", "dialect", "state"] (spPl K (adM K).fresh) := ⟨_, _, ok_Place_init F_m_Fresh_init T.k_fresh T.fresh_dialect T.fresh_state, He.glo_ok X G (c.d.fact 55 rfl), He.mkr_ok (c.d.fact 149 rfl), B_m_Fresh_init⟩
  obtain ⟨fd_m_Turn_at_state, F_m_Turn_at_state⟩ := c.d.def_ 54 (d := m_Turn_at_state) rfl
  have B_m_Turn_at_state : Binds K fd_m_Turn_at_state ["self", "state"] [] := F_m_Turn_at_state.bindsN fun _ _ _ _ _ _ us hl => match us, hl with | [_, _], _ => rfl
  have C_m_Turn_at_state : CalM P w K mg base 3 (He.ga K "Turn") "at_state" ["self", "state"] (spT K (T := Dia × Sta) (fun i => [encTurn (adM K) i.1, encS i.2]) (fun _ => True) (fun i d => d = encP (adM K) (plc (adM K) i.2) i.1 i.2)) := ⟨_, _, ok_at_state F_m_Turn_at_state T C_m_Within_init C_m_Doubt_init C_m_Behind_init C_m_Freed_init C_m_Plain_init C_m_Fresh_init, He.meth_ok (c.d.fact 129 rfl), B_m_Turn_at_state⟩
  obtain ⟨fd_m_Plain_opens, F_m_Plain_opens⟩ := c.d.def_ 57 (d := m_Plain_opens) rfl
  have B_m_Plain_opens : Binds K fd_m_Plain_opens ["self", "sign"] [] := F_m_Plain_opens.bindsN fun _ _ _ _ _ _ us hl => match us, hl with | [_, _], _ => rfl
  have C_m_Plain_opens : CalM P w K mg base 1 (He.ga K "Plain") "opens" ["self", "sign"] (spT K (T := Dia × Nat) (fun i => [encP (adM K) (adM K).plain i.1 .plain, .str (sg i.2)]) (fun _ => True) (fun i d => d = .bl false)) := ⟨_, _, ok_Plain_opens F_m_Plain_opens, He.meth_ok (c.d.fact 131 rfl), B_m_Plain_opens⟩
  obtain ⟨fd_m_Plain_own, F_m_Plain_own⟩ := c.d.def_ 58 (d := m_Plain_own) rfl
  have B_m_Plain_own : Binds K fd_m_Plain_own ["self", "sign"] [] := F_m_Plain_own.bindsN fun _ _ _ _ _ _ us hl => match us, hl with | [_, _], _ => rfl
  have C_m_Plain_own : CalM P w K mg base 1 (He.ga K "Plain") "own" ["self", "sign"] (spT K (T := Dia × Nat) (fun i => [encP (adM K) (adM K).plain i.1 .plain, .str (sg i.2)]) (fun _ => True) (fun i d => d = encR (if i.2 ∈ i.1.quotes ∧ i.1.stray = false then .fault .quote else .go .put .plain))) := ⟨_, _, ok_Plain_own F_m_Plain_own T, He.meth_ok (c.d.fact 132 rfl), B_m_Plain_own⟩
  obtain ⟨fd_m_Plain_step, F_m_Plain_step⟩ := c.d.def_ 59 (d := m_Plain_step) rfl
  have B_m_Plain_step : Binds K fd_m_Plain_step ["self", "sign"] [] := F_m_Plain_step.bindsN fun _ _ _ _ _ _ us hl => match us, hl with | [_, _], _ => rfl
  have C_m_Plain_step : CalM P w K mg base 2 (He.ga K "Plain") "step" ["self", "sign"] (spT K (T := Dia × Nat) (fun i => [encP (adM K) (adM K).plain i.1 .plain, .str (sg i.2)]) (fun _ => True) (fun i d => d = encR (stepPlain i.1 i.2))) := ⟨_, _, ok_Plain_step F_m_Plain_step T C_m_Plain_opens C_m_Plain_own, He.meth_ok (c.d.fact 133 rfl), B_m_Plain_step⟩
  obtain ⟨fd_m_Fresh_opens, F_m_Fresh_opens⟩ := c.d.def_ 61 (d := m_Fresh_opens) rfl
  have B_m_Fresh_opens : Binds K fd_m_Fresh_opens ["self", "sign"] [] := F_m_Fresh_opens.bindsN fun _ _ _ _ _ _ us hl => match us, hl with | [_, _], _ => rfl
  have C_m_Fresh_opens : CalM P w K mg base 1 (He.ga K "Fresh") "opens" ["self", "sign"] (spT K (T := Dia × Sta × Nat) (fun i => [encP (adM K) (adM K).fresh i.1 i.2.1, .str (sg i.2.2)]) (fun _ => True) (fun i d => d = .bl (decide (i.2.2 ∈ i.1.quotes)))) := ⟨_, _, ok_Fresh_opens F_m_Fresh_opens T, He.meth_ok (c.d.fact 134 rfl), B_m_Fresh_opens⟩
  obtain ⟨fd_m_Fresh_own, F_m_Fresh_own⟩ := c.d.def_ 62 (d := m_Fresh_own) rfl
  have B_m_Fresh_own : Binds K fd_m_Fresh_own ["self", "sign"] [] := F_m_Fresh_own.bindsN fun _ _ _ _ _ _ us hl => match us, hl with | [_, _], _ => rfl
  have C_m_Fresh_own : CalM P w K mg base 1 (He.ga K "Fresh") "own" ["self", "sign"] (spT K (T := Dia × Sta × Nat) (fun i => [encP (adM K) (adM K).fresh i.1 i.2.1, .str (sg i.2.2)]) (fun _ => True) (fun i d => d = encR (if i.2.2 = 32 ∧ i.1.thin = true then .go .skip i.2.1 else .go .put .plain))) := ⟨_, _, ok_Fresh_own F_m_Fresh_own T, He.meth_ok (c.d.fact 135 rfl), B_m_Fresh_own⟩
  obtain ⟨fd_m_Fresh_step, F_m_Fresh_step⟩ := c.d.def_ 63 (d := m_Fresh_step) rfl
  have B_m_Fresh_step : Binds K fd_m_Fresh_step ["self", "sign"] [] := F_m_Fresh_step.bindsN fun _ _ _ _ _ _ us hl => match us, hl with | [_, _], _ => rfl
  have C_m_Fresh_step : CalM P w K mg base 2 (He.ga K "Fresh") "step" ["self", "sign"] (spT K (T := Dia × Sta × Nat) (fun i => [encP (adM K) (adM K).fresh i.1 i.2.1, .str (sg i.2.2)]) (fun _ => True) (fun i d => d = encR (stepFresh i.1 i.2.1 i.2.2))) := ⟨_, _, ok_Fresh_step F_m_Fresh_step T C_m_Fresh_opens C_m_Fresh_own, He.meth_ok (c.d.fact 136 rfl), B_m_Fresh_step⟩
  obtain ⟨fd_m_Within_is_barred, F_m_Within_is_barred⟩ := c.d.def_ 65 (d := m_Within_is_barred) rfl
  have B_m_Within_is_barred : Binds K fd_m_Within_is_barred ["self", "sign"] [] := F_m_Within_is_barred.bindsN fun _ _ _ _ _ _ us hl => match us, hl with | [_, _], _ => rfl
  have C_m_Within_is_barred : CalM P w K mg base 1 (He.ga K "Within") "is_barred" ["self", "sign"] (spBar K (adM K) (adM K).within) := ⟨_, _, ok_is_barred F_m_Within_is_barred T T.k_within T.within_dialect, He.meth_ok (c.d.fact 137 rfl), B_m_Within_is_barred⟩
  obtain ⟨fd_m_Within_step, F_m_Within_step⟩ := c.d.def_ 66 (d := m_Within_step) rfl
  have B_m_Within_step : Binds K fd_m_Within_step ["self", "sign"] [] := F_m_Within_step.bindsN fun _ _ _ _ _ _ us hl => match us, hl with | [_, _], _ => rfl
  have C_m_Within_step : CalM P w K mg base 2 (He.ga K "Within") "step" ["self", "sign"] (spStep K (adM K) (adM K).within fun s => ∃ q, s = .within q) := ⟨_, _, ok_Within_step F_m_Within_step T C_m_Within_is_barred, He.meth_ok (c.d.fact 138 rfl), B_m_Within_step⟩
  obtain ⟨fd_m_Behind_step, F_m_Behind_step⟩ := c.d.def_ 70 (d := m_Behind_step) rfl
  have B_m_Behind_step : Binds K fd_m_Behind_step ["self", "sign"] [] := F_m_Behind_step.bindsN fun _ _ _ _ _ _ us hl => match us, hl with | [_, _], _ => rfl
  have C_m_Behind_step : CalM P w K mg base 1 (He.ga K "Behind") "step" ["self", "sign"] (spT K (T := Dia × Sta × Nat) (fun i => [encP (adM K) (adM K).behind i.1 i.2.1, .str (sg i.2.2)]) (fun _ => True) (fun i d => d = encR (stepBehind i.1 i.2.2))) := ⟨_, _, ok_Behind_step F_m_Behind_step T T.k_behind T.behind_dialect, He.meth_ok (c.d.fact 140 rfl), B_m_Behind_step⟩
  have C_cf : CalF P w K mg base 1 "Behind" "step" ["self", "sign"] (spT K (T := Dia × Sta × Nat) (fun i => [encP (adM K) (adM K).doubt i.1 i.2.1, .str (sg i.2.2)]) (fun _ => True) (fun i d => d = encR (stepBehind i.1 i.2.2))) := ⟨_, _, _, .type "type", ok_Behind_step F_m_Behind_step T T.k_doubt T.doubt_dialect, He.glo_ok X G (c.d.fact 57 rfl), e.rd, e.vl, F_m_Behind_step.kp, B_m_Behind_step⟩
  obtain ⟨fd_m_Doubt_step, F_m_Doubt_step⟩ := c.d.def_ 68 (d := m_Doubt_step) rfl
  have B_m_Doubt_step : Binds K fd_m_Doubt_step ["self", "sign"] [] := F_m_Doubt_step.bindsN fun _ _ _ _ _ _ us hl => match us, hl with | [_, _], _ => rfl
  have C_m_Doubt_step : CalM P w K mg base 2 (He.ga K "Doubt") "step" ["self", "sign"] (spStep K (adM K) (adM K).doubt fun s => ∃ q, s = .doubt q) := ⟨_, _, ok_Doubt_step F_m_Doubt_step T C_cf, He.meth_ok (c.d.fact 139 rfl), B_m_Doubt_step⟩
  obtain ⟨fd_m_Freed_is_barred, F_m_Freed_is_barred⟩ := c.d.def_ 72 (d := m_Freed_is_barred) rfl
  have B_m_Freed_is_barred : Binds K fd_m_Freed_is_barred ["self", "sign"] [] := F_m_Freed_is_barred.bindsN fun _ _ _ _ _ _ us hl => match us, hl with | [_, _], _ => rfl
  have C_m_Freed_is_barred : CalM P w K mg base 1 (He.ga K "Freed") "is_barred" ["self", "sign"] (spBar K (adM K) (adM K).freed) := ⟨_, _, ok_is_barred F_m_Freed_is_barred T T.k_freed T.freed_dialect, He.meth_ok (c.d.fact 141 rfl), B_m_Freed_is_barred⟩
  obtain ⟨fd_m_Freed_step, F_m_Freed_step⟩ := c.d.def_ 73 (d := m_Freed_step) rfl
  have B_m_Freed_step : Binds K fd_m_Freed_step ["self", "sign"] [] := F_m_Freed_step.bindsN fun _ _ _ _ _ _ us hl => match us, hl with | [_, _], _ => rfl
  have C_m_Freed_step : CalM P w K mg base 2 (He.ga K "Freed") "step" ["self", "sign"] (spStep K (adM K) (adM K).freed fun s => s = .freed ∨ ∃ q, s = .freedq q) := ⟨_, _, ok_Freed_step F_m_Freed_step T C_m_Freed_is_barred, He.meth_ok (c.d.fact 142 rfl), B_m_Freed_step⟩
  obtain ⟨fd_m_Turn_step, F_m_Turn_step⟩ := c.d.def_ 55 (d := m_Turn_step) rfl
  have B_m_Turn_step : Binds K fd_m_Turn_step ["self", "state", "sign"] [] := F_m_Turn_step.bindsN fun _ _ _ _ _ _ us hl => match us, hl with | [_, _, _], _ => rfl
  have C_m_Turn_step : CalM P w K mg base 4 (He.ga K "Turn") "step" ["self", "state", "sign"] (spTurn K (adM K)) := ⟨_, _, ok_Turn_step F_m_Turn_step T C_m_Turn_at_state C_m_Within_step C_m_Doubt_step C_m_Behind_step C_m_Freed_step C_m_Plain_step C_m_Fresh_step, He.meth_ok (c.d.fact 130 rfl), B_m_Turn_step⟩
  obtain ⟨fd_d_led, F_d_led⟩ := c.d.def_ 6 (d := d_led) rfl
  have B_d_led : Binds K fd_d_led ["dialect", "state", "sign"] [] := F_d_led.bindsN fun _ _ _ _ _ _ us hl => match us, hl with | [_, _, _], _ => rfl
  have g_d_led := He.glo_ok X G (c.d.fact 6 rfl)
  have C_d_led : Cal P w K mg base 5 "led" ["dialect", "state", "sign"] (spLed K (adM K)) := ⟨_, _, ok_led F_d_led T C_d_is_live C_m_Turn_init C_m_Turn_step, g_d_led, F_d_led.kp, B_d_led⟩
  obtain ⟨fd_d_parting_p, F_d_parting_p⟩ := c.d.def_ 7 (d := d_parting_p) rfl
  have B_d_parting_p : Binds K fd_d_parting_p ["one", "other", "here", "there"] [] := F_d_parting_p.bindsN fun _ _ _ _ _ _ us hl => match us, hl with | [_, _, _, _], _ => rfl
  have g_d_parting_p := He.glo_ok X G (c.d.fact 7 rfl)
  have C_d_parting_p : Cal P w K mg base 3 "parting_parted" ["one", "other", "here", "there"] (spPart K (adM K)) := ⟨_, _, ok_parting_p F_d_parting_p T C_d_ending, g_d_parting_p, F_d_parting_p.kp, B_d_parting_p⟩
  obtain ⟨fd_d_compare, F_d_compare⟩ := c.d.def_ 8 (d := d_compare) rfl
  have B_d_compare : Binds K fd_d_compare ["one", "other"] [] := F_d_compare.bindsN fun _ _ _ _ _ _ us hl => match us, hl with | [_, _], _ => rfl
  have g_d_compare := He.glo_ok X G (c.d.fact 8 rfl)
  have C_d_compare : Cal P w K mg base 6 "compare" ["one", "other"] (spCompare K (adM K)) := ⟨_, _, ok_compare F_d_compare T C_d_signs_for C_d_led C_d_parting_p, g_d_compare, F_d_compare.kp, B_d_compare⟩
  obtain ⟨fd_d_walked, F_d_walked⟩ := c.d.def_ 9 (d := d_walked) rfl
  have B_d_walked : Binds K fd_d_walked ["dialect", "text"] [] := F_d_walked.bindsN fun _ _ _ _ _ _ us hl => match us, hl with | [_, _], _ => rfl
  have g_d_walked := He.glo_ok X G (c.d.fact 9 rfl)
  have C_d_walked : Cal P w K mg base 5 "walked" ["dialect", "text"] (spWalked K (adM K)) := ⟨_, _, ok_walked F_d_walked T C_d_is_text C_m_Turn_init C_m_Turn_step, g_d_walked, F_d_walked.kp, B_d_walked⟩
  obtain ⟨fd_d_kinds_of, F_d_kinds_of⟩ := c.d.def_ 10 (d := d_kinds_of) rfl
  have B_d_kinds_of : Binds K fd_d_kinds_of ["dialect", "text"] [] := F_d_kinds_of.bindsN fun _ _ _ _ _ _ us hl => match us, hl with | [_, _], _ => rfl
  have g_d_kinds_of := He.glo_ok X G (c.d.fact 10 rfl)
  have C_d_kinds_of : Cal P w K mg base 6 "kinds_of" ["dialect", "text"] (spKinds K (adM K)) := ⟨_, _, ok_kinds_of F_d_kinds_of C_d_walked, g_d_kinds_of, F_d_kinds_of.kp, B_d_kinds_of⟩
  obtain ⟨fd_d_table_of, F_d_table_of⟩ := c.d.def_ 11 (d := d_table_of) rfl
  have B_d_table_of : Binds K fd_d_table_of ["text", "kinds"] [] := F_d_table_of.bindsN fun _ _ _ _ _ _ us hl => match us, hl with | [_, _], _ => rfl
  have g_d_table_of := He.glo_ok X G (c.d.fact 11 rfl)
  have C_d_table_of : Cal P w K mg base 1 "table_of" ["text", "kinds"] (spTable K) := ⟨_, _, ok_table_of F_d_table_of T, g_d_table_of, F_d_table_of.kp, B_d_table_of⟩
  obtain ⟨fd_d_furthest, F_d_furthest⟩ := c.d.def_ 12 (d := d_furthest) rfl
  have B_d_furthest : Binds K fd_d_furthest ["dialect", "text"] [] := F_d_furthest.bindsN fun _ _ _ _ _ _ us hl => match us, hl with | [_, _], _ => rfl
  have g_d_furthest := He.glo_ok X G (c.d.fact 12 rfl)
  have C_d_furthest : Cal P w K mg base 6 "furthest" ["dialect", "text"] (spFur K (adM K)) := ⟨_, _, ok_furthest F_d_furthest T C_d_walked, g_d_furthest, F_d_furthest.kp, B_d_furthest⟩
  obtain ⟨fd_m_Broken_init, F_m_Broken_init⟩ := c.d.def_ 78 (d := m_Broken_init) rfl
  have B_m_Broken_init : Binds K fd_m_Broken_init ["self", "row", "place", "word"] [] := F_m_Broken_init.bindsN fun _ _ _ _ _ _ us hl => match us, hl with | [_, _, _, _], _ => rfl
  obtain ⟨fd_d_read, F_d_read⟩ := c.d.def_ 13 (d := d_read) rfl
  have B_d_read : Binds K fd_d_read ["dialect", "text"] [] := F_d_read.bindsN fun _ _ _ _ _ _ us hl => match us, hl with | [_, _], _ => rfl
  have C_d_read : CalRead P w K mg base (adM K) (He.ga K "Broken") := ⟨_, _, ok_read F_d_read T TB e.ini e.tyi (ok_Broken_init F_m_Broken_init TB) B_m_Broken_init C_d_furthest C_d_kinds_of C_d_table_of, He.glo_ok X G (c.d.fact 13 rfl), F_d_read.kp, B_d_read⟩
  obtain ⟨fd_d_need_few, F_d_need_few⟩ := c.d.def_ 14 (d := d_need_few) rfl
  have B_d_need_few : Binds K fd_d_need_few ["dialects", "most"] [] := F_d_need_few.bindsN fun _ _ _ _ _ _ us hl => match us, hl with | [_, _], _ => rfl
  have g_d_need_few := He.glo_ok X G (c.d.fact 14 rfl)
  have C_d_need_few : Cal P w K mg base 1 "need_few" ["dialects", "most"] (spFew K) := ⟨_, _, ok_need_few F_d_need_few T, g_d_need_few, F_d_need_few.kp, B_d_need_few⟩
  obtain ⟨fd_d_answer_of, F_d_answer_of⟩ := c.d.def_ 15 (d := d_answer_of) rfl
  have B_d_answer_of : Binds K fd_d_answer_of ["dialect", "text"] [] := F_d_answer_of.bindsN fun _ _ _ _ _ _ us hl => match us, hl with | [_, _], _ => rfl
  have g_d_answer_of := He.glo_ok X G (c.d.fact 15 rfl)
  have C_d_answer_of : Cal P w K mg base 8 "answer_of" ["dialect", "text"] (spAns K (adM K)) := ⟨_, _, ok_answer_of F_d_answer_of TB C_d_read, g_d_answer_of, F_d_answer_of.kp, B_d_answer_of⟩
  obtain ⟨fd_d_parting_g, F_d_parting_g⟩ := c.d.def_ 16 (d := d_parting_g) rfl
  have B_d_parting_g : Binds K fd_d_parting_g ["one", "other"] [] := F_d_parting_g.bindsN fun _ _ _ _ _ _ us hl => match us, hl with | [_, _], _ => rfl
  have g_d_parting_g := He.glo_ok X G (c.d.fact 16 rfl)
  have C_d_parting_g : Cal P w K mg base 7 "parting_groups" ["one", "other"] (spPg K (adM K)) := ⟨_, _, ok_parting_g F_d_parting_g C_d_compare, g_d_parting_g, F_d_parting_g.kp, B_d_parting_g⟩
  obtain ⟨fd_d_groups, F_d_groups⟩ := c.d.def_ 17 (d := d_groups) rfl
  have B_d_groups : Binds K fd_d_groups ["dialects"] [] := F_d_groups.bindsN fun _ _ _ _ _ _ us hl => match us, hl with | [_], _ => rfl
  have g_d_groups := He.glo_ok X G (c.d.fact 17 rfl)
  have C_d_groups : Cal P w K mg base 8 "groups" ["dialects"] (spGroups K (adM K)) := ⟨_, _, ok_groups F_d_groups T C_d_need_few C_d_parting_g, g_d_groups, F_d_groups.kp, B_d_groups⟩
  obtain ⟨fd_d_are_told, F_d_are_told⟩ := c.d.def_ 18 (d := d_are_told) rfl
  have B_d_are_told : Binds K fd_d_are_told ["answers"] [] := F_d_are_told.bindsN fun _ _ _ _ _ _ us hl => match us, hl with | [_], _ => rfl
  have g_d_are_told := He.glo_ok X G (c.d.fact 18 rfl)
  have C_d_are_told : Cal P w K mg base 1 "are_told" ["answers"] (spTold K) := ⟨_, _, ok_are_told F_d_are_told T, g_d_are_told, F_d_are_told.kp, B_d_are_told⟩
  obtain ⟨fd_d_answers_of, F_d_answers_of⟩ := c.d.def_ 19 (d := d_answers_of) rfl
  have B_d_answers_of : Binds K fd_d_answers_of ["dialects", "texts"] [] := F_d_answers_of.bindsN fun _ _ _ _ _ _ us hl => match us, hl with | [_, _], _ => rfl
  have g_d_answers_of := He.glo_ok X G (c.d.fact 19 rfl)
  have C_d_answers_of : Cal P w K mg base 9 "answers_of" ["dialects", "texts"] (spAnswers K (adM K)) := ⟨_, _, ok_answers_of F_d_answers_of C_d_answer_of, g_d_answers_of, F_d_answers_of.kp, B_d_answers_of⟩
  obtain ⟨fd_d_telling, F_d_telling⟩ := c.d.def_ 20 (d := d_telling) rfl
  have B_d_telling : Binds K fd_d_telling ["dialects"] [] := F_d_telling.bindsN fun _ _ _ _ _ _ us hl => match us, hl with | [_], _ => rfl
  have g_d_telling := He.glo_ok X G (c.d.fact 20 rfl)
  have C_d_telling : Cal P w K mg base 10 "telling" ["dialects"] (spTelling K (adM K)) := ⟨_, _, ok_telling F_d_telling T C_d_groups C_d_parting_g C_d_answers_of C_d_are_told, g_d_telling, F_d_telling.kp, B_d_telling⟩
  obtain ⟨fd_d_parts_by, F_d_parts_by⟩ := c.d.def_ 21 (d := d_parts_by) rfl
  have B_d_parts_by : Binds K fd_d_parts_by ["answers", "at", "places"] [] := F_d_parts_by.bindsN fun _ _ _ _ _ _ us hl => match us, hl with | [_, _, _], _ => rfl
  have g_d_parts_by := He.glo_ok X G (c.d.fact 21 rfl)
  have C_d_parts_by : Cal P w K mg base 1 "parts_by" ["answers", "at", "places"] (spPartsBy K) := ⟨_, _, ok_parts_by F_d_parts_by T, g_d_parts_by, F_d_parts_by.kp, B_d_parts_by⟩
  obtain ⟨fd_d_best_for, F_d_best_for⟩ := c.d.def_ 22 (d := d_best_for) rfl
  have B_d_best_for : Binds K fd_d_best_for ["answers", "many", "places", "kept"] [] := F_d_best_for.bindsN fun _ _ _ _ _ _ us hl => match us, hl with | [_, _, _, _], _ => rfl
  have g_d_best_for := He.glo_ok X G (c.d.fact 22 rfl)
  have C_d_best_for : Cal P w K mg base 5 "best_for" ["answers", "many", "places", "kept"] (spBest K 3) := ⟨_, _, ok_best_for F_d_best_for T C_d_parts_by g_d_best_for F_d_best_for.kp B_d_best_for 3, g_d_best_for, F_d_best_for.kp, B_d_best_for⟩
  obtain ⟨fd_d_tree_of, F_d_tree_of⟩ := c.d.def_ 23 (d := d_tree_of) rfl
  have B_d_tree_of : Binds K fd_d_tree_of ["dialects", "texts"] [] := F_d_tree_of.bindsN fun _ _ _ _ _ _ us hl => match us, hl with | [_, _], _ => rfl
  have g_d_tree_of := He.glo_ok X G (c.d.fact 23 rfl)
  have C_d_tree_of : Cal P w K mg base 10 "tree_of" ["dialects", "texts"] (spTree K (adM K)) := ⟨_, _, ok_tree_of F_d_tree_of T C_d_need_few C_d_is_text C_d_answers_of C_d_best_for, g_d_tree_of, F_d_tree_of.kp, B_d_tree_of⟩
  obtain ⟨fd_d_depth_of, F_d_depth_of⟩ := c.d.def_ 24 (d := d_depth_of) rfl
  have B_d_depth_of : Binds K fd_d_depth_of ["tree"] [] := F_d_depth_of.bindsN fun _ _ _ _ _ _ us hl => match us, hl with | [_], _ => rfl
  have g_d_depth_of := He.glo_ok X G (c.d.fact 24 rfl)
  have C_d_depth_of : Cal P w K mg base 7 "depth_of" ["tree"] (spDepth K 6) := ⟨_, _, ok_depth_of F_d_depth_of T g_d_depth_of F_d_depth_of.kp B_d_depth_of 6, g_d_depth_of, F_d_depth_of.kp, B_d_depth_of⟩
  obtain ⟨fd_d_is_place, F_d_is_place⟩ := c.d.def_ 25 (d := d_is_place) rfl
  have B_d_is_place : Binds K fd_d_is_place ["thing", "many"] [] := F_d_is_place.bindsN fun _ _ _ _ _ _ us hl => match us, hl with | [_, _], _ => rfl
  have g_d_is_place := He.glo_ok X G (c.d.fact 25 rfl)
  have C_d_is_place : Cal P w K mg base 1 "is_place" ["thing", "many"] (spPlace K) := ⟨_, _, ok_is_place F_d_is_place T, g_d_is_place, F_d_is_place.kp, B_d_is_place⟩
  obtain ⟨fd_d_is_leaf, F_d_is_leaf⟩ := c.d.def_ 26 (d := d_is_leaf) rfl
  have B_d_is_leaf : Binds K fd_d_is_leaf ["answers", "tree", "places"] [] := F_d_is_leaf.bindsN fun _ _ _ _ _ _ us hl => match us, hl with | [_, _, _], _ => rfl
  have g_d_is_leaf := He.glo_ok X G (c.d.fact 26 rfl)
  have C_d_is_leaf : Cal P w K mg base 2 "is_leaf" ["answers", "tree", "places"] (spLeaf K) := ⟨_, _, ok_is_leaf F_d_is_leaf T C_d_is_place, g_d_is_leaf, F_d_is_leaf.kp, B_d_is_leaf⟩
  obtain ⟨fd_d_sorts_places, F_d_sorts_places⟩ := c.d.def_ 27 (d := d_sorts_places) rfl
  have B_d_sorts_places : Binds K fd_d_sorts_places ["answers", "many", "tree", "places"] [] := F_d_sorts_places.bindsN fun _ _ _ _ _ _ us hl => match us, hl with | [_, _, _, _], _ => rfl
  have g_d_sorts_places := He.glo_ok X G (c.d.fact 27 rfl)
  have C_d_sorts_places : Cal P w K mg base 9 "sorts_places" ["answers", "many", "tree", "places"] (spSortsP K 6) := ⟨_, _, ok_sorts_places F_d_sorts_places T C_d_is_place C_d_is_leaf C_d_parts_by g_d_sorts_places F_d_sorts_places.kp B_d_sorts_places 6, g_d_sorts_places, F_d_sorts_places.kp, B_d_sorts_places⟩
  obtain ⟨fd_d_sorts, F_d_sorts⟩ := c.d.def_ 28 (d := d_sorts) rfl
  have B_d_sorts : Binds K fd_d_sorts ["dialects", "texts", "tree"] [] := F_d_sorts.bindsN fun _ _ _ _ _ _ us hl => match us, hl with | [_, _, _], _ => rfl
  have g_d_sorts := He.glo_ok X G (c.d.fact 28 rfl)
  have C_d_sorts : Cal P w K mg base 10 "sorts" ["dialects", "texts", "tree"] (spSorts K (adM K)) := ⟨_, _, ok_sorts F_d_sorts T C_d_answers_of C_d_sorts_places, g_d_sorts, F_d_sorts.kp, B_d_sorts⟩
  obtain ⟨fd_d_check_role, F_d_check_role⟩ := c.d.def_ 29 (d := d_check_role) rfl
  have B_d_check_role : Binds K fd_d_check_role ["thing", "least", "most"] [] := F_d_check_role.bindsN fun _ _ _ _ _ _ us hl => match us, hl with | [_, _, _], _ => rfl
  have g_d_check_role := He.glo_ok X G (c.d.fact 29 rfl)
  have C_d_check_role : Cal P w K mg base 1 "check_role" ["thing", "least", "most"] (spRole K) := ⟨_, _, ok_check_role F_d_check_role T, g_d_check_role, F_d_check_role.kp, B_d_check_role⟩
  obtain ⟨fd_m_Dialect_init, F_m_Dialect_init⟩ := c.d.def_ 79 (d := m_Dialect_init) rfl
  have B_m_Dialect_init : Binds K fd_m_Dialect_init ["self", "parts", "quotes", "frees", "twin", "wide", "thin", "stray"] [] := diaBinds F_m_Dialect_init
  have C_m_Dialect_init : CalC P w K mg base 2 "Dialect" (adM K).dia ["self", "parts", "quotes", "frees", "twin", "wide", "thin", "stray"] (spDia K (adM K)) := ⟨_, _, ok_Dialect_init F_m_Dialect_init T C_d_check_role, He.glo_ok X G (c.d.fact 52 rfl), He.mkr_ok (c.d.fact 146 rfl), B_m_Dialect_init⟩
  obtain ⟨fd_d_dialect_of, F_d_dialect_of⟩ := c.d.def_ 30 (d := d_dialect_of) rfl
  have B_d_dialect_of : Binds K fd_d_dialect_of ["told"] [] := F_d_dialect_of.bindsN fun _ _ _ _ _ _ us hl => match us, hl with | [_], _ => rfl
  have g_d_dialect_of := He.glo_ok X G (c.d.fact 30 rfl)
  have C_d_dialect_of : Cal P w K mg base 4 "dialect_of" ["told"] (spDof K (adM K)) := ⟨_, _, ok_dialect_of F_d_dialect_of T C_m_Dialect_init, g_d_dialect_of, F_d_dialect_of.kp, B_d_dialect_of⟩
  obtain ⟨fd_d_law_cell_at, F_d_law_cell_at⟩ := c.d.def_ 31 (d := d_law_cell_at) rfl
  have B_d_law_cell_at : Binds K fd_d_law_cell_at ["_law_script", "_law_k"] [] := F_d_law_cell_at.bindsN fun _ _ _ _ _ _ us hl => match us, hl with | [_, _], _ => rfl
  have g_d_law_cell_at := He.glo_ok X G (c.d.fact 31 rfl)
  have C_d_law_cell_at : Cal P w K mg base 1 "_law_cell_at" ["_law_script", "_law_k"] (spCell K) := ⟨_, _, ok_law_cell_at F_d_law_cell_at T, g_d_law_cell_at, F_d_law_cell_at.kp, B_d_law_cell_at⟩
  obtain ⟨fd_d_law_mixed, F_d_law_mixed⟩ := c.d.def_ 32 (d := d_law_mixed) rfl
  have B_d_law_mixed : Binds K fd_d_law_mixed ["_law_number_here", "_law_salt"] [] := F_d_law_mixed.bindsN fun _ _ _ _ _ _ us hl => match us, hl with | [_, _], _ => rfl
  have g_d_law_mixed := He.glo_ok X G (c.d.fact 32 rfl)
  have C_d_law_mixed : Cal P w K mg base 1 "_law_mixed" ["_law_number_here", "_law_salt"] (spMixed K) := ⟨_, _, ok_law_mixed F_d_law_mixed T, g_d_law_mixed, F_d_law_mixed.kp, B_d_law_mixed⟩
  obtain ⟨fd_d_law_number, F_d_law_number⟩ := c.d.def_ 33 (d := d_law_number) rfl
  have B_d_law_number : Binds K fd_d_law_number ["_law_cell", "_law_salt"] [] := F_d_law_number.bindsN fun _ _ _ _ _ _ us hl => match us, hl with | [_, _], _ => rfl
  have g_d_law_number := He.glo_ok X G (c.d.fact 33 rfl)
  have C_d_law_number : Cal P w K mg base 2 "_law_number" ["_law_cell", "_law_salt"] (spNumber K) := ⟨_, _, ok_law_number F_d_law_number T C_d_law_mixed, g_d_law_number, F_d_law_number.kp, B_d_law_number⟩
  obtain ⟨fd_d_law_some, F_d_law_some⟩ := c.d.def_ 34 (d := d_law_some) rfl
  have B_d_law_some : Binds K fd_d_law_some ["_law_number_here", "_law_many", "_law_menu"] [] := F_d_law_some.bindsN fun _ _ _ _ _ _ us hl => match us, hl with | [_, _, _], _ => rfl
  have g_d_law_some := He.glo_ok X G (c.d.fact 34 rfl)
  have C_d_law_some : Cal P w K mg base 1 "_law_some" ["_law_number_here", "_law_many", "_law_menu"] (spSome K) := ⟨_, _, ok_law_some F_d_law_some T, g_d_law_some, F_d_law_some.kp, B_d_law_some⟩
  obtain ⟨fd_d_law_menus, F_d_law_menus⟩ := c.d.def_ 35 (d := d_law_menus) rfl
  have B_d_law_menus : Binds K fd_d_law_menus ["_law_way"] [] := F_d_law_menus.bindsN fun _ _ _ _ _ _ us hl => match us, hl with | [_], _ => rfl
  have g_d_law_menus := He.glo_ok X G (c.d.fact 35 rfl)
  have C_d_law_menus : Cal P w K mg base 1 "_law_menus" ["_law_way"] (spMenus K) := ⟨_, _, ok_law_menus F_d_law_menus T, g_d_law_menus, F_d_law_menus.kp, B_d_law_menus⟩
  obtain ⟨fd_d_law_told, F_d_law_told⟩ := c.d.def_ 36 (d := d_law_told) rfl
  have B_d_law_told : Binds K fd_d_law_told ["_law_cell"] [] := F_d_law_told.bindsN fun _ _ _ _ _ _ us hl => match us, hl with | [_], _ => rfl
  have g_d_law_told := He.glo_ok X G (c.d.fact 36 rfl)
  have C_d_law_told : Cal P w K mg base 3 "_law_told" ["_law_cell"] (spTold7 K) := ⟨_, _, ok_law_told F_d_law_told T C_d_law_number C_d_law_menus C_d_law_some, g_d_law_told, F_d_law_told.kp, B_d_law_told⟩
  obtain ⟨fd_d_law_drawn, F_d_law_drawn⟩ := c.d.def_ 37 (d := d_law_drawn) rfl
  have B_d_law_drawn : Binds K fd_d_law_drawn ["_law_cell", "_law_many"] [] := F_d_law_drawn.bindsN fun _ _ _ _ _ _ us hl => match us, hl with | [_, _], _ => rfl
  have g_d_law_drawn := He.glo_ok X G (c.d.fact 37 rfl)
  have C_d_law_drawn : Cal P w K mg base 2 "_law_drawn" ["_law_cell", "_law_many"] (spDrawn K) := ⟨_, _, ok_law_drawn F_d_law_drawn T C_d_law_mixed, g_d_law_drawn, F_d_law_drawn.kp, B_d_law_drawn⟩
  obtain ⟨fd_d_law_open, F_d_law_open⟩ := c.d.def_ 39 (d := d_law_open) rfl
  have B_d_law_open : Binds K fd_d_law_open ["_law_told_here", "_law_state", "_law_sign"] [] := F_d_law_open.bindsN fun _ _ _ _ _ _ us hl => match us, hl with | [_, _, _], _ => rfl
  have g_d_law_open := He.glo_ok X G (c.d.fact 39 rfl)
  have C_d_law_open : Cal P w K mg base 1 "_law_open" ["_law_told_here", "_law_state", "_law_sign"] (spOpen K) := ⟨_, _, ok_law_open F_d_law_open T, g_d_law_open, F_d_law_open.kp, B_d_law_open⟩
  obtain ⟨fd_d_law_step, F_d_law_step⟩ := c.d.def_ 38 (d := d_law_step) rfl
  have B_d_law_step : Binds K fd_d_law_step ["_law_told_here", "_law_state", "_law_sign"] [] := F_d_law_step.bindsN fun _ _ _ _ _ _ us hl => match us, hl with | [_, _, _], _ => rfl
  have g_d_law_step := He.glo_ok X G (c.d.fact 38 rfl)
  have C_d_law_step : Cal P w K mg base 2 "_law_step" ["_law_told_here", "_law_state", "_law_sign"] (spLstep K) := ⟨_, _, ok_law_step F_d_law_step T C_d_law_open, g_d_law_step, F_d_law_step.kp, B_d_law_step⟩
  obtain ⟨fd_d_law_walked, F_d_law_walked⟩ := c.d.def_ 40 (d := d_law_walked) rfl
  have B_d_law_walked : Binds K fd_d_law_walked ["_law_told_here", "_law_text"] [] := F_d_law_walked.bindsN fun _ _ _ _ _ _ us hl => match us, hl with | [_, _], _ => rfl
  have g_d_law_walked := He.glo_ok X G (c.d.fact 40 rfl)
  have C_d_law_walked : Cal P w K mg base 3 "_law_walked" ["_law_told_here", "_law_text"] (spLwalked K) := ⟨_, _, ok_law_walked F_d_law_walked T C_d_law_step, g_d_law_walked, F_d_law_walked.kp, B_d_law_walked⟩
  obtain ⟨fd_d_law_table, F_d_law_table⟩ := c.d.def_ 41 (d := d_law_table) rfl
  have B_d_law_table : Binds K fd_d_law_table ["_law_text", "_law_kinds"] [] := F_d_law_table.bindsN fun _ _ _ _ _ _ us hl => match us, hl with | [_, _], _ => rfl
  have g_d_law_table := He.glo_ok X G (c.d.fact 41 rfl)
  have C_d_law_table : Cal P w K mg base 1 "_law_table" ["_law_text", "_law_kinds"] (spLtable K) := ⟨_, _, ok_law_table F_d_law_table T, g_d_law_table, F_d_law_table.kp, B_d_law_table⟩
  obtain ⟨fd_d_law_led, F_d_law_led⟩ := c.d.def_ 42 (d := d_law_led) rfl
  have B_d_law_led : Binds K fd_d_law_led ["_law_told_here", "_law_state", "_law_sign"] [] := F_d_law_led.bindsN fun _ _ _ _ _ _ us hl => match us, hl with | [_, _, _], _ => rfl
  have g_d_law_led := He.glo_ok X G (c.d.fact 42 rfl)
  have C_d_law_led : Cal P w K mg base 3 "_law_led" ["_law_told_here", "_law_state", "_law_sign"] (spLled K) := ⟨_, _, ok_law_led F_d_law_led C_d_law_step, g_d_law_led, F_d_law_led.kp, B_d_law_led⟩
  obtain ⟨fd_d_law_alike, F_d_law_alike⟩ := c.d.def_ 43 (d := d_law_alike) rfl
  have B_d_law_alike : Binds K fd_d_law_alike ["_law_one", "_law_other"] [] := F_d_law_alike.bindsN fun _ _ _ _ _ _ us hl => match us, hl with | [_, _], _ => rfl
  have g_d_law_alike := He.glo_ok X G (c.d.fact 43 rfl)
  have C_d_law_alike : Cal P w K mg base 4 "_law_alike" ["_law_one", "_law_other"] (spLalike K) := ⟨_, _, ok_law_alike F_d_law_alike T C_d_law_led, g_d_law_alike, F_d_law_alike.kp, B_d_law_alike⟩
  obtain ⟨fd_d_law_kin, F_d_law_kin⟩ := c.d.def_ 44 (d := d_law_kin) rfl
  have B_d_law_kin : Binds K fd_d_law_kin ["_law_told_here", "_law_x"] [] := F_d_law_kin.bindsN fun _ _ _ _ _ _ us hl => match us, hl with | [_, _], _ => rfl
  have g_d_law_kin := He.glo_ok X G (c.d.fact 44 rfl)
  have C_d_law_kin : Cal P w K mg base 1 "_law_kin" ["_law_told_here", "_law_x"] (spKin K) := ⟨_, _, ok_law_kin F_d_law_kin T, g_d_law_kin, F_d_law_kin.kp, B_d_law_kin⟩
  obtain ⟨fd_d_law_tolds, F_d_law_tolds⟩ := c.d.def_ 45 (d := d_law_tolds) rfl
  have B_d_law_tolds : Binds K fd_d_law_tolds ["_law_cells", "_law_many"] [] := F_d_law_tolds.bindsN fun _ _ _ _ _ _ us hl => match us, hl with | [_, _], _ => rfl
  have g_d_law_tolds := He.glo_ok X G (c.d.fact 45 rfl)
  have C_d_law_tolds : Cal P w K mg base 4 "_law_tolds" ["_law_cells", "_law_many"] (spTolds K) := ⟨_, _, ok_law_tolds F_d_law_tolds T C_d_law_cell_at C_d_law_drawn C_d_law_told C_d_law_kin, g_d_law_tolds, F_d_law_tolds.kp, B_d_law_tolds⟩
  obtain ⟨fd_d_law_answer, F_d_law_answer⟩ := c.d.def_ 46 (d := d_law_answer) rfl
  have B_d_law_answer : Binds K fd_d_law_answer ["_law_told_here", "_law_text"] [] := F_d_law_answer.bindsN fun _ _ _ _ _ _ us hl => match us, hl with | [_, _], _ => rfl
  have g_d_law_answer := He.glo_ok X G (c.d.fact 46 rfl)
  have C_d_law_answer : Cal P w K mg base 4 "_law_answer" ["_law_told_here", "_law_text"] (spLans K) := ⟨_, _, ok_law_answer F_d_law_answer C_d_law_walked C_d_law_table, g_d_law_answer, F_d_law_answer.kp, B_d_law_answer⟩
  obtain ⟨fd_d_law_groups, F_d_law_groups⟩ := c.d.def_ 47 (d := d_law_groups) rfl
  have B_d_law_groups : Binds K fd_d_law_groups ["_law_tolds_here"] [] := F_d_law_groups.bindsN fun _ _ _ _ _ _ us hl => match us, hl with | [_], _ => rfl
  have g_d_law_groups := He.glo_ok X G (c.d.fact 47 rfl)
  have C_d_law_groups : Cal P w K mg base 5 "_law_groups" ["_law_tolds_here"] (spLgroups K) := ⟨_, _, ok_law_groups F_d_law_groups T C_d_law_alike, g_d_law_groups, F_d_law_groups.kp, B_d_law_groups⟩
  obtain ⟨fd_d_law_parts, F_d_law_parts⟩ := c.d.def_ 48 (d := d_law_parts) rfl
  have B_d_law_parts : Binds K fd_d_law_parts ["_law_answers", "_law_at", "_law_places"] [] := F_d_law_parts.bindsN fun _ _ _ _ _ _ us hl => match us, hl with | [_, _, _], _ => rfl
  have g_d_law_parts := He.glo_ok X G (c.d.fact 48 rfl)
  have C_d_law_parts : Cal P w K mg base 1 "_law_parts" ["_law_answers", "_law_at", "_law_places"] (spPartsBy K) := ⟨_, _, ok_law_parts F_d_law_parts T, g_d_law_parts, F_d_law_parts.kp, B_d_law_parts⟩
  obtain ⟨fd_d_law_leaf, F_d_law_leaf⟩ := c.d.def_ 49 (d := d_law_leaf) rfl
  have B_d_law_leaf : Binds K fd_d_law_leaf ["_law_tree", "_law_answers", "_law_place"] [] := F_d_law_leaf.bindsN fun _ _ _ _ _ _ us hl => match us, hl with | [_, _, _], _ => rfl
  have g_d_law_leaf := He.glo_ok X G (c.d.fact 49 rfl)
  have C_d_law_leaf : Cal P w K mg base 2 "_law_leaf" ["_law_tree", "_law_answers", "_law_place"] (spLleaf K) := ⟨_, _, ok_law_leaf F_d_law_leaf T C_d_law_parts, g_d_law_leaf, F_d_law_leaf.kp, B_d_law_leaf⟩
  obtain ⟨fd_m_Asker_init, F_m_Asker_init⟩ := c.d.def_ 74 (d := m_Asker_init) rfl
  have B_m_Asker_init : Binds K fd_m_Asker_init ["self", "dialects"] [] := F_m_Asker_init.bindsN fun _ _ _ _ _ _ us hl => match us, hl with | [_, _], _ => rfl
  have C_m_Asker_init : CalC P w K mg base 2 "Asker" (He.ga K "Asker") ["self", "dialects"] (spAsk0 K (adM K)) := ⟨_, _, ok_Asker_init F_m_Asker_init T C_d_need_few, He.glo_ok X G (c.d.fact 60 rfl), He.mkr_ok (c.d.fact 154 rfl), B_m_Asker_init⟩
  obtain ⟨fd_m_Asker_left, F_m_Asker_left⟩ := c.d.def_ 75 (d := m_Asker_left) rfl
  have B_m_Asker_left : Binds K fd_m_Asker_left ["self"] [] := F_m_Asker_left.bindsN fun _ _ _ _ _ _ us hl => match us, hl with | [_], _ => rfl
  have C_m_Asker_left : CalM P w K mg base 1 (He.ga K "Asker") "left" ["self"] (spLeft K (adM K)) := ⟨_, _, ok_Asker_left F_m_Asker_left T, He.meth_ok (c.d.fact 143 rfl), B_m_Asker_left⟩
  obtain ⟨fd_m_Asker_ask, F_m_Asker_ask⟩ := c.d.def_ 76 (d := m_Asker_ask) rfl
  have B_m_Asker_ask : Binds K fd_m_Asker_ask ["self"] [] := F_m_Asker_ask.bindsN fun _ _ _ _ _ _ us hl => match us, hl with | [_], _ => rfl
  have C_m_Asker_ask : CalM P w K mg base 8 (He.ga K "Asker") "ask" ["self"] (spAskQ K (adM K)) := ⟨_, _, ok_Asker_ask F_m_Asker_ask T C_d_parting_g, He.meth_ok (c.d.fact 144 rfl), B_m_Asker_ask⟩
  obtain ⟨fd_m_Asker_hear, F_m_Asker_hear⟩ := c.d.def_ 77 (d := m_Asker_hear) rfl
  have B_m_Asker_hear : Binds K fd_m_Asker_hear ["self", "answer"] [] := F_m_Asker_hear.bindsN fun _ _ _ _ _ _ us hl => match us, hl with | [_, _], _ => rfl
  have C_m_Asker_hear : CalM P w K mg base 9 (He.ga K "Asker") "hear" ["self", "answer"] (spHear K (adM K)) := ⟨_, _, ok_Asker_hear F_m_Asker_hear T C_d_answer_of, He.meth_ok (c.d.fact 145 rfl), B_m_Asker_hear⟩
  obtain ⟨fd_d_law_found_out, F_d_law_found_out⟩ := c.d.def_ 50 (d := d_law_found_out) rfl
  have B_d_law_found_out : Binds K fd_d_law_found_out ["_law_asker", "_law_told_here"] [] := F_d_law_found_out.bindsN fun _ _ _ _ _ _ us hl => match us, hl with | [_, _], _ => rfl
  have g_d_law_found_out := He.glo_ok X G (c.d.fact 50 rfl)
  have C_d_law_found_out : Cal P w K mg base 10 "_law_found_out" ["_law_asker", "_law_told_here"] (spFound K (adM K)) := ⟨_, _, ok_law_found_out F_d_law_found_out T C_m_Asker_ask C_m_Asker_left C_m_Asker_hear C_d_law_answer, g_d_law_found_out, F_d_law_found_out.kp, B_d_law_found_out⟩
  exact ⟨C_d_law_cell_at, C_d_law_tolds, C_d_dialect_of, C_d_law_groups, C_d_telling, C_d_law_answer, C_d_tree_of, C_d_groups, C_d_depth_of, C_d_sorts, C_d_law_leaf, C_d_law_found_out, C_m_Asker_init⟩
theorem lawOf {P : Program} {w : World} (X : K.In h) (G : h.Ns mainGlobals mg) (c : SaysM K) {fa : Addr} (hfa : mg ("law" : Str) = some (.ref fa)) :
    ∃ fd : FuncData, (∀ (s : Shared) (v : Value), BindsTo s fd ⟨[v], []⟩ [("_law_script", v)]) ∧ ∀ base : Heap, FnOk P w K mg base CX0 11 fa fd ["_law_script"] (spLaw K) := by
  obtain ⟨fd, F⟩ := c.d.def_ 51 (d := d_law) rfl
  have e := hfa.symm.trans (He.glo_ok X G (c.d.fact 51 rfl))
  cases e
  have b := FunD.bindsA (ps := ["_law_script"]) F fun _ _ _ _ _ _ us hl => match us, hl with | [_], _ => rfl
  exact ⟨fd, fun s v => b s [v] rfl, fun base => ok_law F (txOf X G c) (lawFOf X G c)⟩
end
end Dh
end SDhFacts

section SDhEnd
set_option Elab.async false
set_option linter.all false
set_option maxRecDepth 100000
set_option maxHeartbeats 0
/-! The law. -/
open PySem PySem.W PySem.Calls PyProof.Rows
theorem PySem.Challenge.cw_dialecthall_k88_whole_sorted_to_groups_holds : PySem.Challenge.rw_dialecthall_k88_whole_sorted_to_groups.Holds := by
  w_on; o_law
  refine HandSHeadRun.head_any (r := Dh.RM) (q := view Dh.RM.prog [97]) (H := Dh.hkM) (ob := Dh.obM) (M := 6400) (loose := Dh.looseL) (d := HandSHeadRun.topDef Dh.RM.prog 97) (kwd := []) Dh.obM_eq
    (by kernel_rfl) (fun s => by kernel_rfl) Dh.runM (by kernel_rfl) (by kernel_rfl) (by kernel_rfl) (by rfl) (by first | assumption | decide +kernel) (by decide +kernel) ⟨rfl, rfl, rfl, rfl, rfl, by decide +kernel⟩ ?hw ?hc
  case hw => w_witness2
  case hc =>
    refine L2.walk_ofE (l := PySem.Challenge.rw_dialecthall_k88_whole_sorted_to_groups) (n := 63) (k := 11) (x := "_law_script") (CX := L2.CX0) rfl (by decide) (by kernel_rfl) ⟨rfl, by decide, by decide⟩ ?F (fun _ _ _ _ z => z)
    intro w mg fa h Y G hmg0
    obtain ⟨K, KX, c⟩ := Y
    have hmg : mg ("law" : PySem.Str) = some (.ref fa) := by
      have e : (HandSHeadRun.topDef Dh.RM.prog 97).name = ("law" : PySem.Str) := by kernel_rfl
      rw [← e]
      exact hmg0
    obtain ⟨fd, hb, hF⟩ := Dh.lawOf (P := (PySem.Challenge.rw_dialecthall_k88_whole_sorted_to_groups).prog) (w := w) KX G c hmg
    exact ⟨K, fd, Dh.spLaw K, KX, hb, fun H a ns _ _ hS => ⟨ns, H, trivial, L2.Same.refl H, ⟨.ref a, [], rfl, ⟨a, ns.map L2.V.int, rfl, hS, Dh.RepAll.of_ints ns⟩, rfl⟩, fun d v B' H' hd _ r => by
      have hd : d = .bl true := hd
      rw [hd] at r
      exact r⟩, fun base _ _ => hF base⟩
end SDhEnd

