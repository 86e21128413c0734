import PyProof.Rows.All
import Wide.All
import OpenK.AllK
import Wide.FinOn
import KE.DataMinMax
import HandS.ForMost
import HandS.TupMul
import HandS.TupAny
import HandS.StrMore
import HandS.Exc
import HandS.TryOnly
import HandS.ExcOwn
import HandS.WordsExc
import HandS.NoneIn
import HandS.IsInst
import HandS.Flow
import PySem.Challenge.RW_hushedpages_k58_whole_files_back
import HandS.Codes
import KE.KExcSuper
set_option linter.all false
namespace Kw
abbrev T := List Nat

/-! ### order of texts: length first -/
def SL (a b : T) : Prop := a.length < b.length ∨ (a.length = b.length ∧ ¬ b < a)
theorem sl_refl (a : T) : SL a a := .inr ⟨rfl, List.lt_irrefl a⟩
theorem sl_trans {a b c : T} (h1 : SL a b) (h2 : SL b c) : SL a c := by
  rcases h1 with h1 | ⟨e1, n1⟩
  · rcases h2 with h2 | ⟨e2, _⟩
    · exact .inl (by omega)
    · exact .inl (by omega)
  · rcases h2 with h2 | ⟨e2, n2⟩
    · exact .inl (by omega)
    · refine .inr ⟨by omega, ?_⟩
      have x1 : a ≤ b := List.not_lt.mp n1
      have x2 : b ≤ c := List.not_lt.mp n2
      exact List.not_lt.mpr (List.le_trans x1 x2)
theorem lt_app (p : T) {a b : T} : p ++ a < p ++ b → a < b := by
  induction p with
  | nil => exact id
  | cons x p ih =>
    intro h
    rw [List.cons_append, List.cons_append, List.cons_lt_cons_iff] at h
    rcases h with h | ⟨_, h⟩
    · exact absurd h (Nat.lt_irrefl _)
    · exact ih h
theorem sl_app (p : T) {a b : T} (h : SL a b) : SL (p ++ a) (p ++ b) := by
  rcases h with h | ⟨e, n⟩
  · exact .inl (by rw [List.length_append, List.length_append]; omega)
  · exact .inr ⟨by rw [List.length_append, List.length_append]; omega, fun z => n (lt_app p z)⟩

/-! ### numbers as texts -/
def digs (n : Nat) : T := if n < 10 then [48 + n] else if n < 100 then [48 + n / 10, 48 + n % 10] else [48 + n / 100, 48 + n / 10 % 10, 48 + n % 10]
def cmdT (n g : Nat) : T := if n = 1 then [g] else digs n ++ [g]
def isDig (x : Nat) : Bool := Nat.ble 48 x && Nat.ble x 57
theorem isDig_iff {x : Nat} : isDig x = true ↔ 48 ≤ x ∧ x ≤ 57 := by
  unfold isDig
  rw [Bool.and_eq_true, Nat.ble_eq, Nat.ble_eq]
def numOf (ds : T) : Nat := ds.foldl (fun a d => 10 * a + (d - 48)) 0
def countOf (ds : T) : Option Nat :=
  if ds = [] then some 1 else if ds.length > 3 ∨ ds.head? = some 48 ∨ ds = [49] then none else some (numOf ds)
theorem cnt_ne (n g : Nat) : cmdT n g ≠ [] := by
  unfold cmdT
  split <;> simp
theorem digs_len (n : Nat) : (digs n).length ≤ 3 ∧ 1 ≤ (digs n).length := by
  unfold digs
  split
  · simp
  · split <;> simp
theorem cnt_len (n g : Nat) : (cmdT n g).length ≤ 4 ∧ 1 ≤ (cmdT n g).length := by
  unfold cmdT
  split
  · simp
  · have := digs_len n
    rw [List.length_append]
    simp
    omega
theorem digs_dig {n x : Nat} (h : n < 1000) (hx : x ∈ digs n) : isDig x = true := by
  rw [isDig_iff]
  unfold digs at hx
  split at hx
  · simp at hx; omega
  · split at hx
    · simp at hx; omega
    · simp at hx; omega
theorem countOf_digs {n : Nat} (h1 : 2 ≤ n) (h2 : n < 1000) : countOf (digs n) = some n := by
  unfold countOf digs numOf
  split
  · rw [if_neg (by simp), if_neg (by simp; omega)]
    simp
  · split
    · rw [if_neg (by simp), if_neg (by simp; omega)]
      simp
      omega
    · rw [if_neg (by simp), if_neg (by simp; omega)]
      simp
      omega
/-- a run of digits that is a count -/
theorem countOf_some {ds : T} {n : Nat} (hd : ∀ x ∈ ds, isDig x = true) (h : countOf ds = some n) : 1 ≤ n ∧ n < 1000 ∧ ds = (if n = 1 then [] else digs n) := by
  unfold countOf at h
  by_cases e : ds = []
  · rw [if_pos e] at h
    cases h
    refine ⟨Nat.le_refl _, by omega, ?_⟩
    rw [if_pos rfl, e]
  · rw [if_neg e] at h
    split at h
    · cases h
    · rename_i hn
      simp only [not_or] at hn
      obtain ⟨hl, hh, h1⟩ := hn
      have h := Option.some.inj h
      have rg : ∀ x ∈ ds, 48 ≤ x ∧ x ≤ 57 := fun x hx => isDig_iff.mp (hd x hx)
      match ds, e, hl, hh, h1, h, rg with
      | [a], _, _, hh, h1, h, rg =>
        have ra := rg a (by simp)
        have ha : a ≠ 48 := fun z => hh (by rw [z]; rfl)
        have ha1 : a ≠ 49 := fun z => h1 (by rw [z])
        have hv : a - 48 = n := by
          rw [← h]
          simp [numOf]
        refine ⟨by omega, by omega, ?_⟩
        rw [if_neg (by omega)]
        unfold digs
        rw [if_pos (by omega)]
        congr 1
        omega
      | [a, b], _, _, hh, _, h, rg =>
        have ra := rg a (by simp)
        have rb := rg b (by simp)
        have ha : a ≠ 48 := fun z => hh (by rw [z]; rfl)
        have hv : 10 * (a - 48) + (b - 48) = n := by
          rw [← h]
          simp [numOf]
        refine ⟨by omega, by omega, ?_⟩
        rw [if_neg (by omega)]
        unfold digs
        rw [if_neg (by omega), if_pos (by omega)]
        have e1 : 48 + n / 10 = a := by omega
        have e2 : 48 + n % 10 = b := by omega
        rw [e1, e2]
      | [a, b, c], _, _, hh, _, h, rg =>
        have ra := rg a (by simp)
        have rb := rg b (by simp)
        have rc := rg c (by simp)
        have ha : a ≠ 48 := fun z => hh (by rw [z]; rfl)
        have hv : 10 * (10 * (a - 48) + (b - 48)) + (c - 48) = n := by
          rw [← h]
          simp [numOf]
        refine ⟨by omega, by omega, ?_⟩
        rw [if_neg (by omega)]
        unfold digs
        rw [if_neg (by omega), if_neg (by omega)]
        have e1 : 48 + n / 100 = a := by omega
        have e2 : 48 + n / 10 % 10 = b := by omega
        have e3 : 48 + n % 10 = c := by omega
        rw [e1, e2, e3]
      | a :: b :: c :: d :: r, _, hl, _, _, _, _ =>
        exact absurd (show (a :: b :: c :: d :: r).length > 3 by simp) hl

/-! ### commands -/
/-- count, sign, what is quoted, how many signs the command has -/
structure Cmd where
  n : Nat
  g : Nat
  cells : T
  k : Nat
deriving DecidableEq
def four (g : Nat) : Bool := g == 62 || g == 35 || g == 47 || g == 94
def cmdAt (s : T) : Option Cmd :=
  match countOf (s.takeWhile isDig) with
  | none => none
  | some n =>
    match s.drop (s.takeWhile isDig).length with
    | [] => none
    | g :: r =>
      if four g = true then some ⟨n, g, [], (s.takeWhile isDig).length + 1⟩
      else if (s.takeWhile isDig).length > 0 then none
      else if g = 59 then some ⟨1, 59, [], 1⟩
      else if g = 34 ∧ (r.takeWhile (· != 34)).length > 0 ∧ (r.takeWhile (· != 34)).length < r.length then some ⟨1, 34, r.takeWhile (· != 34), (r.takeWhile (· != 34)).length + 2⟩
      else none
theorem four_iff {g : Nat} : four g = true ↔ g = 62 ∨ g = 35 ∨ g = 47 ∨ g = 94 := by
  unfold four
  simp [or_assoc]
theorem four_dig {g : Nat} (h : four g = true) : isDig g = false := by
  rcases four_iff.mp h with rfl | rfl | rfl | rfl <;> rfl
theorem tw_app {p : Nat → Bool} {a : T} {x : Nat} {r : T} (h : ∀ y ∈ a, p y = true) (hx : p x = false) : (a ++ x :: r).takeWhile p = a := by
  induction a with
  | nil => rw [List.nil_append, List.takeWhile_cons_of_neg (by rw [hx]; simp)]
  | cons y a ih =>
    rw [List.cons_append, List.takeWhile_cons_of_pos (h y (by simp)), ih fun z hz => h z (by simp [hz])]
theorem tw_mem {p : Nat → Bool} : ∀ {a : T} {x : Nat}, x ∈ a.takeWhile p → p x = true
  | [], x, h => by simp at h
  | y :: a, x, h => by
    by_cases hy : p y = true
    · rw [List.takeWhile_cons_of_pos hy] at h
      rcases List.mem_cons.mp h with rfl | h
      · exact hy
      · exact tw_mem h
    · rw [List.takeWhile_cons_of_neg hy] at h
      simp at h
theorem tw_split (p : Nat → Bool) : ∀ a : T, a = a.takeWhile p ++ a.drop (a.takeWhile p).length
  | [] => rfl
  | y :: a => by
    by_cases hy : p y = true
    · rw [List.takeWhile_cons_of_pos hy]
      show y :: a = y :: (a.takeWhile p ++ a.drop (a.takeWhile p).length)
      rw [← tw_split p a]
    · rw [List.takeWhile_cons_of_neg hy]
      rfl
/-- the sign behind the run is no member of it -/
theorem tw_next (p : Nat → Bool) : ∀ {a : T} {x : Nat} {r : T}, a.drop (a.takeWhile p).length = x :: r → p x = false
  | [], x, r, h => by simp at h
  | y :: a, x, r, h => by
    by_cases hy : p y = true
    · rw [List.takeWhile_cons_of_pos hy] at h
      exact tw_next p (a := a) h
    · rw [List.takeWhile_cons_of_neg hy] at h
      have h' : y :: a = x :: r := h
      cases h'
      simpa using hy
theorem cmdAt_cnt {n g : Nat} {s : T} (h1 : 1 ≤ n) (h2 : n < 1000) (hg : four g = true) : cmdAt (cmdT n g ++ s) = some ⟨n, g, [], (cmdT n g).length⟩ := by
  have hd := four_dig hg
  unfold cmdT
  by_cases e : n = 1
  · subst e
    rw [if_pos rfl]
    have e1 : ([g] ++ s).takeWhile isDig = [] := by
      show (g :: s).takeWhile isDig = []
      rw [List.takeWhile_cons_of_neg (by rw [hd]; simp)]
    unfold cmdAt
    rw [e1]
    show (if four g = true then _ else _) = _
    rw [if_pos hg]
    rfl
  · rw [if_neg e]
    have e1 : (digs n ++ [g] ++ s).takeWhile isDig = digs n := by
      rw [List.append_assoc]
      exact tw_app (fun y hy => digs_dig h2 hy) hd
    have e2 : (digs n ++ [g] ++ s).drop (digs n).length = g :: s := by
      rw [List.append_assoc, List.drop_left]
      rfl
    unfold cmdAt
    rw [e1, e2, countOf_digs (by omega) h2]
    show (if four g = true then _ else _) = _
    rw [if_pos hg]
    simp
theorem cmdAt_end (s : T) : cmdAt (59 :: s) = some ⟨1, 59, [], 1⟩ := by
  unfold cmdAt
  rw [List.takeWhile_cons_of_neg (by decide)]
  rfl
def quoted (c : T) : T := 34 :: (c ++ [34])
theorem cmdAt_quoted {c s : T} (hc : c ≠ []) (hq : ∀ x ∈ c, x ≠ 34) : cmdAt (quoted c ++ s) = some ⟨1, 34, c, c.length + 2⟩ := by
  have e0 : quoted c ++ s = 34 :: (c ++ 34 :: s) := by
    unfold quoted
    simp
  have e1 : (c ++ 34 :: s).takeWhile (· != 34) = c := tw_app (fun y hy => by simpa using hq y hy) (by decide)
  have hl : c.length > 0 := List.length_pos_iff.mpr hc
  rw [e0]
  unfold cmdAt
  rw [List.takeWhile_cons_of_neg (show ¬ isDig 34 = true by decide)]
  show (if four 34 = true then _ else if 0 > 0 then _ else if (34 : Nat) = 59 then _ else if (34 : Nat) = 34 ∧ ((c ++ 34 :: s).takeWhile (· != 34)).length > 0 ∧ ((c ++ 34 :: s).takeWhile (· != 34)).length < (c ++ 34 :: s).length then _ else _) = _
  rw [if_neg (by decide), if_neg (by omega), if_neg (by decide), e1, if_pos ⟨rfl, hl, by rw [List.length_append, List.length_cons]; omega⟩]
/-- what a command's text is -/
inductive Form : Cmd → T → Prop
  | four (n g : Nat) : 1 ≤ n → n < 1000 → four g = true → Form ⟨n, g, [], (cmdT n g).length⟩ (cmdT n g)
  | fin : Form ⟨1, 59, [], 1⟩ [59]
  | quo (c : T) : c ≠ [] → (∀ x ∈ c, x ≠ 34) → Form ⟨1, 34, c, c.length + 2⟩ (quoted c)
theorem cmdAt_form {s : T} {c : Cmd} (h : cmdAt s = some c) : ∃ t s', s = t ++ s' ∧ s.drop c.k = s' ∧ c.k = t.length ∧ Form c t := by
  unfold cmdAt at h
  have hd : ∀ x ∈ s.takeWhile isDig, isDig x = true := fun x hx => tw_mem hx
  have sp := tw_split isDig s
  generalize eds : s.takeWhile isDig = ds at h hd sp
  cases hc : countOf ds with
  | none => rw [hc] at h; cases h
  | some n =>
    rw [hc] at h
    obtain ⟨h1, h2, h3⟩ := countOf_some hd hc
    cases hr : s.drop ds.length with
    | nil => rw [hr] at h; cases h
    | cons g r =>
      rw [hr] at h
      rw [hr] at sp
      simp only at h
      by_cases hf : four g = true
      · rw [if_pos hf] at h
        cases h
        have et : ds ++ [g] = cmdT n g := by
          unfold cmdT
          rw [h3]
          split <;> rfl
        have el : ds.length + 1 = (cmdT n g).length := by
          rw [← et, List.length_append]
          rfl
        refine ⟨cmdT n g, r, ?_, ?_, el, ?_⟩
        · rw [← et, sp]
          simp
        · show s.drop (ds.length + 1) = r
          rw [← List.drop_drop, hr]
          rfl
        · rw [el]
          exact .four n g h1 h2 hf
      · rw [if_neg hf] at h
        by_cases hl : ds.length > 0
        · rw [if_pos hl] at h
          cases h
        · rw [if_neg hl] at h
          have e0 : ds = [] := List.length_eq_zero_iff.mp (by omega)
          subst e0
          have sp' : s = g :: r := sp
          by_cases h9 : g = 59
          · rw [if_pos h9] at h
            cases h
            subst h9
            exact ⟨[59], r, sp', by rw [sp']; rfl, rfl, .fin⟩
          · rw [if_neg h9] at h
            split at h
            · rename_i hq
              obtain ⟨hq, hp, hlt⟩ := hq
              cases h
              subst hq
              have sr := tw_split (· != 34) r
              have hm : ∀ x ∈ r.takeWhile (· != 34), x ≠ 34 := fun x hx => by simpa using tw_mem hx
              have hx := @tw_next (· != 34) r
              generalize r.takeWhile (· != 34) = q at hp hlt sr hm hx
              cases hd : r.drop q.length with
              | nil =>
                have := List.drop_eq_nil_iff.mp hd
                omega
              | cons y r2 =>
                have e34 : y = 34 := by simpa using hx hd
                subst e34
                rw [hd] at sr
                refine ⟨quoted q, r2, ?_, ?_, ?_, .quo q (List.length_pos_iff.mp hp) hm⟩
                · rw [sp']
                  conv => lhs; rw [sr]
                  unfold quoted
                  simp
                · show s.drop (q.length + 2) = r2
                  rw [sp']
                  show r.drop (q.length + 1) = r2
                  rw [← List.drop_drop, hd]
                  rfl
                · unfold quoted
                  simp
            · cases h
theorem Form.back {c : Cmd} {t : T} (f : Form c t) (s : T) : cmdAt (t ++ s) = some c := by
  cases f with
  | four n g h1 h2 h3 => exact cmdAt_cnt h1 h2 h3
  | fin => exact cmdAt_end s
  | quo c h1 h2 => exact cmdAt_quoted h1 h2
theorem Form.len {c : Cmd} {t : T} (f : Form c t) : c.k = t.length := by
  cases f with
  | four n g h1 h2 h3 => rfl
  | fin => rfl
  | quo c h1 h2 => simp [quoted]
theorem Form.pos {c : Cmd} {t : T} (f : Form c t) : 1 ≤ c.k := by
  cases f with
  | four n g h1 h2 h3 => exact (cnt_len n g).2
  | fin => exact Nat.le_refl _
  | quo c h1 h2 => show 1 ≤ c.length + 2; omega
theorem cmdAt_k {s : T} {c : Cmd} (h : cmdAt s = some c) : 1 ≤ c.k ∧ c.k ≤ s.length := by
  obtain ⟨t, s', e, _, ek, f⟩ := cmdAt_form h
  refine ⟨f.pos, ?_⟩
  rw [e, List.length_append]
  omega
end Kw
set_option linter.all false
namespace Kw
abbrev Pg := List T
structure Sta where
  rows : Pg
  line : T
deriving DecidableEq
def sta0 : Sta := ⟨[], []⟩
def bl (n : Nat) : T := List.replicate n 32
def lastRow (p : Pg) : T := p.getLastD []
def inkOf (n g : Nat) (cells : T) : T := if g = 62 then bl n else if g = 35 then List.replicate n 35 else cells
def downBy (w : Nat) (s : Sta) (n : Nat) : Pg := s.rows ++ [s.line ++ bl (w - s.line.length)] ++ List.replicate (n - 1) (bl w)
def after (w h : Nat) (s : Sta) (n g : Nat) (cells : T) : Option Sta :=
  if g = 47 then (if n > h - s.rows.length then none else some ⟨downBy w s n, []⟩)
  else if g = 94 then (if s.line ≠ [] ∨ s.rows = [] ∨ n > h - s.rows.length then none else some ⟨s.rows ++ List.replicate n (lastRow s.rows), []⟩)
  else (if h - s.rows.length = 0 ∨ s.line.length + (inkOf n g cells).length > w then none else some ⟨s.rows, s.line ++ inkOf n g cells⟩)
def endPg (w h : Nat) (s : Sta) : Pg := if h - s.rows.length = 0 then s.rows else downBy w s (h - s.rows.length)
/-- the device: e: the last command was an end; ps: the pages that are ended -/
def devGo (w h : Nat) (e : Bool) (ps : List Pg) (st : Sta) (s : T) : Option (List Pg) :=
  if hs : s = [] then (if e = true then some ps else none)
  else match hc : cmdAt s with
    | none => none
    | some c =>
      if c.g = 59 then devGo w h true (ps ++ [endPg w h st]) sta0 (s.drop c.k)
      else match after w h st c.n c.g c.cells with
        | none => none
        | some st' => devGo w h false ps st' (s.drop c.k)
termination_by s.length
decreasing_by
  all_goals (have := cmdAt_k hc; rw [List.length_drop]; omega)
theorem devGo_nil (w h : Nat) (e : Bool) (ps : List Pg) (st : Sta) : devGo w h e ps st [] = if e = true then some ps else none := by
  rw [devGo]
  simp
theorem devGo_cmd {w h : Nat} {e : Bool} {ps : List Pg} {st : Sta} {s : T} (hs : s ≠ []) : devGo w h e ps st s = match cmdAt s with
    | none => none
    | some c => if c.g = 59 then devGo w h true (ps ++ [endPg w h st]) sta0 (s.drop c.k) else match after w h st c.n c.g c.cells with
        | none => none
        | some st' => devGo w h false ps st' (s.drop c.k) := by
  rw [devGo, dif_neg hs]
  split
  · rename_i h1
    rw [h1]
  · rename_i c h1
    rw [h1]
theorem devGo_none {w h : Nat} {e : Bool} {ps : List Pg} {st : Sta} {s : T} (hs : s ≠ []) (hc : cmdAt s = none) : devGo w h e ps st s = none := by
  rw [devGo_cmd hs, hc]
theorem devGo_end {w h : Nat} {e : Bool} {ps : List Pg} {st : Sta} {s : T} {c : Cmd} (hs : s ≠ []) (hc : cmdAt s = some c) (hg : c.g = 59) : devGo w h e ps st s = devGo w h true (ps ++ [endPg w h st]) sta0 (s.drop c.k) := by
  rw [devGo_cmd hs, hc]
  exact if_pos hg
theorem devGo_bad {w h : Nat} {e : Bool} {ps : List Pg} {st : Sta} {s : T} {c : Cmd} (hs : s ≠ []) (hc : cmdAt s = some c) (hg : c.g ≠ 59) (ha : after w h st c.n c.g c.cells = none) : devGo w h e ps st s = none := by
  rw [devGo_cmd hs, hc]
  show (if c.g = 59 then _ else _) = _
  rw [if_neg hg, ha]
theorem devGo_go {w h : Nat} {e : Bool} {ps : List Pg} {st st' : Sta} {s : T} {c : Cmd} (hs : s ≠ []) (hc : cmdAt s = some c) (hg : c.g ≠ 59) (ha : after w h st c.n c.g c.cells = some st') : devGo w h e ps st s = devGo w h false ps st' (s.drop c.k) := by
  rw [devGo_cmd hs, hc]
  show (if c.g = 59 then _ else _) = _
  rw [if_neg hg, ha]
def dev (w h : Nat) (s : T) : Option (List Pg) := devGo w h true [] sta0 s

theorem after_ink {w h : Nat} {s : Sta} {n g : Nat} {cells k : T} (h1 : g ≠ 47) (h2 : g ≠ 94) (e : inkOf n g cells = k) (hr : s.rows.length < h) (hw : s.line.length + k.length ≤ w) : after w h s n g cells = some ⟨s.rows, s.line ++ k⟩ := by
  subst e
  unfold after
  rw [if_neg h1, if_neg h2, if_neg (by omega)]
/-! ### pages, and which strings draw them -/
structure Right (w h : Nat) (p : Pg) : Prop where
  len : p.length = h
  wid : ∀ t ∈ p, t.length = w
  noq : ∀ t ∈ p, ∀ x ∈ t, x ≠ 34
def rowOf (p : Pg) (r : Nat) : T := p.getD r []
def seg (p : Pg) (r c n : Nat) : T := ((rowOf p r).drop c).take n
/-- one command but the end: from row r, column c to r', c' -/
inductive Go (w : Nat) (p : Pg) : Nat → Nat → T → Nat → Nat → Prop
  | right (r c n : Nat) : r < p.length → 1 ≤ n → n < 1000 → c + n ≤ w → seg p r c n = bl n → Go w p r c (cmdT n 62) r (c + n)
  | bar (r c n : Nat) : r < p.length → 1 ≤ n → n < 1000 → c + n ≤ w → seg p r c n = List.replicate n 35 → Go w p r c (cmdT n 35) r (c + n)
  | quo (r c n : Nat) : r < p.length → 1 ≤ n → c + n ≤ w → (∀ x ∈ seg p r c n, x ≠ 34) → Go w p r c (quoted (seg p r c n)) r (c + n)
  | down (r c n : Nat) : 1 ≤ n → n < 1000 → r + n ≤ p.length → (rowOf p r).drop c = bl (w - c) → (∀ i, 1 ≤ i → i < n → rowOf p (r + i) = bl w) → Go w p r c (cmdT n 47) (r + n) 0
  | copy (r n : Nat) : 1 ≤ n → n < 1000 → 1 ≤ r → r + n ≤ p.length → (∀ i, i < n → rowOf p (r + i) = rowOf p (r - 1)) → Go w p r 0 (cmdT n 94) (r + n) 0
def Fin (w : Nat) (p : Pg) (r c : Nat) : Prop := (r = p.length ∧ c = 0) ∨ (r < p.length ∧ (rowOf p r).drop c = bl (w - c) ∧ ∀ i, r < i → i < p.length → rowOf p i = bl w)
inductive Draws (w : Nat) (p : Pg) : Nat → Nat → T → Prop
  | fin {r c : Nat} : Fin w p r c → Draws w p r c [59]
  | go {r c r' c' : Nat} {t s : T} : Go w p r c t r' c' → Draws w p r' c' s → Draws w p r c (t ++ s)
/-- where the device is -/
def at_ (p : Pg) (r c : Nat) : Sta := ⟨p.take r, (rowOf p r).take c⟩
theorem rowOf_mem {p : Pg} {r : Nat} (h : r < p.length) : rowOf p r ∈ p := by
  unfold rowOf
  rw [List.getD_eq_getElem?_getD, List.getElem?_eq_getElem h]
  exact List.getElem_mem h
theorem Right.row {w h : Nat} {p : Pg} (R : Right w h p) {r : Nat} (hr : r < p.length) : (rowOf p r).length = w := R.wid _ (rowOf_mem hr)
theorem take_seg (t : T) (c n : Nat) : t.take c ++ (t.drop c).take n = t.take (c + n) := by
  rw [List.take_add]
theorem seg_len {w h : Nat} {p : Pg} (R : Right w h p) {r c n : Nat} (hr : r < p.length) (hc : c + n ≤ w) : (seg p r c n).length = n := by
  unfold seg
  rw [List.length_take, List.length_drop, R.row hr]
  omega
theorem take_succ_row {p : Pg} {r : Nat} (h : r < p.length) : p.take (r + 1) = p.take r ++ [rowOf p r] := by
  rw [List.take_add_one, List.getElem?_eq_getElem h]
  unfold rowOf
  rw [List.getD_eq_getElem?_getD, List.getElem?_eq_getElem h]
  rfl
/-- rows r .. r + n - 1 all the same -/
theorem take_rep {p : Pg} {r : Nat} {t : T} : ∀ {n : Nat}, r + n ≤ p.length → (∀ i, i < n → rowOf p (r + i) = t) → p.take (r + n) = p.take r ++ List.replicate n t
  | 0, _, _ => by simp
  | n + 1, h, e => by
    rw [show r + (n + 1) = r + n + 1 by omega, take_succ_row (by omega), take_rep (n := n) (by omega) (fun i hi => e i (by omega)), e n (by omega), List.replicate_succ', List.append_assoc]
theorem bl_len (n : Nat) : (bl n).length = n := List.length_replicate
theorem row_split {w h : Nat} {p : Pg} (R : Right w h p) {r c : Nat} (hr : r < p.length) (hc : c ≤ w) (hd : (rowOf p r).drop c = bl (w - c)) : (rowOf p r).take c ++ bl (w - ((rowOf p r).take c).length) = rowOf p r := by
  have e : ((rowOf p r).take c).length = c := by
    rw [List.length_take, R.row hr]
    omega
  rw [e, ← hd]
  exact List.take_append_drop c _
theorem down_at {w h : Nat} {p : Pg} (R : Right w h p) {r c n : Nat} (hn : 1 ≤ n) (hr : r + n ≤ p.length) (hc : c ≤ w) (hd : (rowOf p r).drop c = bl (w - c)) (hb : ∀ i, 1 ≤ i → i < n → rowOf p (r + i) = bl w) : downBy w (at_ p r c) n = p.take (r + n) := by
  unfold downBy at_
  rw [row_split R (by omega) hc hd]
  have e1 := take_succ_row (p := p) (r := r) (by omega)
  have e2 := take_rep (p := p) (r := r + 1) (t := bl w) (n := n - 1) (by omega) (fun i hi => by
    have := hb (i + 1) (by omega) (by omega)
    rw [show r + (i + 1) = r + 1 + i by omega] at this
    exact this)
  rw [show r + n = r + 1 + (n - 1) by omega, e2, e1]
/-- where a state may stand -/
def Ok (w h : Nat) (r c : Nat) : Prop := c ≤ w ∧ r ≤ h ∧ (r = h → c = 0)
theorem Go.ok {w h : Nat} {p : Pg} (R : Right w h p) {r c r' c' : Nat} {t : T} (g : Go w p r c t r' c') (o : Ok w h r c) : Ok w h r' c' := by
  have := R.len
  obtain ⟨o1, o2, o3⟩ := o
  cases g with
  | right c n h1 h2 h3 h4 h5 => exact ⟨h4, o2, by omega⟩
  | bar c n h1 h2 h3 h4 h5 => exact ⟨h4, o2, by omega⟩
  | quo c n h1 h2 h4 h5 => exact ⟨h4, o2, by omega⟩
  | down c n h1 h2 h3 h4 h5 => exact ⟨by omega, by omega, fun _ => rfl⟩
  | copy n h1 h2 h3 h4 h5 => exact ⟨by omega, by omega, fun _ => rfl⟩
theorem at_zero (p : Pg) (r : Nat) : at_ p r 0 = ⟨p.take r, []⟩ := by
  unfold at_
  rw [List.take_zero]
theorem len_take {p : Pg} {r : Nat} (h : r ≤ p.length) : (p.take r).length = r := by
  rw [List.length_take]
  omega
theorem last_take {p : Pg} {r : Nat} (h1 : 1 ≤ r) (h2 : r ≤ p.length) : lastRow (p.take r) = rowOf p (r - 1) := by
  obtain ⟨k, rfl⟩ : ∃ k, r = k + 1 := ⟨r - 1, by omega⟩
  rw [take_succ_row (by omega)]
  unfold lastRow
  simp
/-- a step of the relation is one of the device -/
theorem Go.dev {w h : Nat} {p : Pg} (R : Right w h p) {r c r' c' : Nat} {t : T} (g : Go w p r c t r' c') (o : Ok w h r c) :
    ∃ cm, Form cm t ∧ cm.g ≠ 59 ∧ after w h (at_ p r c) cm.n cm.g cm.cells = some (at_ p r' c') := by
  have hl := R.len
  obtain ⟨o1, o2, o3⟩ := o
  have lr : ∀ {r c : Nat}, r ≤ p.length → (at_ p r c).rows.length = r := fun h => len_take h
  have ll : ∀ {r c : Nat}, r < p.length → c ≤ w → (at_ p r c).line.length = c := fun {r c} h hc => by
    show ((rowOf p r).take c).length = c
    rw [List.length_take, R.row h]
    omega
  cases g with
  | right c n h1 h2 h3 h4 h5 =>
    refine ⟨⟨n, 62, [], (cmdT n 62).length⟩, .four n 62 h2 h3 rfl, by show (62 : Nat) ≠ 59; decide, ?_⟩
    rw [after_ink (h := h) (n := n) (g := 62) (cells := []) (k := seg p r c n) (by show (62 : Nat) ≠ 47; decide) (by show (62 : Nat) ≠ 94; decide) h5.symm (by rw [lr (by omega)]; omega) (by rw [ll h1 o1, seg_len R h1 h4]; exact h4)]
    unfold at_ seg
    rw [take_seg]
  | bar c n h1 h2 h3 h4 h5 =>
    refine ⟨⟨n, 35, [], (cmdT n 35).length⟩, .four n 35 h2 h3 rfl, by show (35 : Nat) ≠ 59; decide, ?_⟩
    rw [after_ink (h := h) (n := n) (g := 35) (cells := []) (k := seg p r c n) (by show (35 : Nat) ≠ 47; decide) (by show (35 : Nat) ≠ 94; decide) h5.symm (by rw [lr (by omega)]; omega) (by rw [ll h1 o1, seg_len R h1 h4]; exact h4)]
    unfold at_ seg
    rw [take_seg]
  | quo c n h1 h2 h4 h5 =>
    have sl := seg_len R h1 h4
    refine ⟨⟨1, 34, seg p r c n, (seg p r c n).length + 2⟩, .quo _ (fun z => by rw [z] at sl; simp at sl; omega) h5, by show (34 : Nat) ≠ 59; decide, ?_⟩
    rw [after_ink (h := h) (n := 1) (g := 34) (cells := seg p r c n) (k := seg p r c n) (by show (34 : Nat) ≠ 47; decide) (by show (34 : Nat) ≠ 94; decide) rfl (by rw [lr (by omega)]; omega) (by rw [ll h1 o1, seg_len R h1 h4]; exact h4)]
    unfold at_ seg
    rw [take_seg]
  | down c n h1 h2 h3 h4 h5 =>
    refine ⟨⟨n, 47, [], (cmdT n 47).length⟩, .four n 47 h1 h2 rfl, by show (47 : Nat) ≠ 59; decide, ?_⟩
    show after w h (at_ p r c) n 47 [] = _
    unfold after
    rw [if_pos rfl, if_neg (by rw [lr (by omega)]; omega), down_at R h1 h3 o1 h4 h5, at_zero]
  | copy n h1 h2 h3 h4 h5 =>
    refine ⟨⟨n, 94, [], (cmdT n 94).length⟩, .four n 94 h1 h2 rfl, by show (94 : Nat) ≠ 59; decide, ?_⟩
    have nz : (at_ p r 0).rows ≠ [] := fun z => by
      have := lr (r := r) (c := 0) (by omega)
      rw [z] at this
      simp at this
      omega
    have lz : (at_ p r 0).line = [] := by rw [at_zero]
    show after w h (at_ p r 0) n 94 [] = _
    unfold after
    rw [if_neg (by decide), if_pos rfl, if_neg (by rw [lr (by omega), lz]; simp [nz]; omega), at_zero, at_zero]
    congr 2
    rw [last_take h3 (by omega), ← take_rep h4 h5]
theorem Fin.dev {w h : Nat} {p : Pg} (R : Right w h p) {r c : Nat} (f : Fin w p r c) (o : Ok w h r c) : endPg w h (at_ p r c) = p := by
  have hl := R.len
  obtain ⟨o1, o2, o3⟩ := o
  have lr : (at_ p r c).rows.length = r := len_take (by omega)
  unfold endPg
  rcases f with ⟨e, ec⟩ | ⟨hr, hd, hb⟩
  · rw [if_pos (by rw [lr]; omega)]
    show p.take r = p
    rw [e, List.take_length]
  · rw [if_neg (by rw [lr]; omega), lr, down_at R (by omega) (by omega) o1 hd (fun i h1 h2 => hb _ (by omega) (by omega)), show r + (h - r) = p.length by omega, List.take_length]
theorem app_drop (a b : T) : (a ++ b).drop a.length = b := List.drop_left
theorem Form.drop {c : Cmd} {t s : T} (f : Form c t) : (t ++ s).drop c.k = s := by rw [f.len, app_drop]
theorem Form.ne {c : Cmd} {t : T} (f : Form c t) : t ≠ [] := fun z => by
  have h1 := f.pos
  rw [f.len, z] at h1
  simp at h1
/-- SOUND: what draws a page is drawn as it by the device -/
theorem Draws.dev {w h : Nat} {p : Pg} (R : Right w h p) {r c : Nat} {s : T} (d : Draws w p r c s) : Ok w h r c → ∀ (e : Bool) (ps : List Pg) (s2 : T), devGo w h e ps (at_ p r c) (s ++ s2) = devGo w h true (ps ++ [p]) sta0 s2 := by
  induction d with
  | fin f =>
    intro o e ps s2
    show devGo w h e ps _ (59 :: s2) = _
    rw [devGo_end (by simp) (cmdAt_end s2) rfl, f.dev R o]
    rfl
  | go g d ih =>
    rename_i r c r' c' t s
    intro o e ps s2
    obtain ⟨cm, f, hg, ha⟩ := g.dev R o
    have hne : t ++ s ++ s2 ≠ [] := by
      have := f.ne
      simp [this]
    rw [List.append_assoc] at hne ⊢
    rw [devGo_go hne (f.back _) hg ha, f.drop]
    exact ih (g.ok R o) false ps s2
end Kw
set_option linter.all false
namespace Kw
theorem rowOf_take {p : Pg} {m i : Nat} (h : i < m) : rowOf (p.take m) i = rowOf p i := by
  unfold rowOf
  rw [List.getD_eq_getElem?_getD, List.getD_eq_getElem?_getD, List.getElem?_take, if_pos h]
theorem rowOf_left {a b : Pg} {i : Nat} (h : i < a.length) : rowOf (a ++ b) i = rowOf a i := by
  unfold rowOf
  rw [List.getD_eq_getElem?_getD, List.getD_eq_getElem?_getD, List.getElem?_append_left h]
theorem rowOf_right {a b : Pg} {i : Nat} : rowOf (a ++ b) (a.length + i) = rowOf b i := by
  unfold rowOf
  rw [List.getD_eq_getElem?_getD, List.getD_eq_getElem?_getD, List.getElem?_append_right (by omega), Nat.add_sub_cancel_left]
theorem rowOf_rep {n i : Nat} {t : T} (h : i < n) : rowOf (List.replicate n t) i = t := by
  unfold rowOf
  rw [List.getD_eq_getElem?_getD, List.getElem?_replicate, if_pos h]
  rfl
theorem down_len (w : Nat) (s : Sta) {n : Nat} (h : 1 ≤ n) : (downBy w s n).length = s.rows.length + n := by
  unfold downBy
  rw [List.length_append, List.length_append, List.length_replicate]
  simp
  omega
theorem down_take (w : Nat) (s : Sta) (n : Nat) : (downBy w s n).take s.rows.length = s.rows := by
  unfold downBy
  rw [List.append_assoc, List.take_left]
theorem down_row (w : Nat) (s : Sta) (n : Nat) : rowOf (downBy w s n) s.rows.length = s.line ++ bl (w - s.line.length) := by
  unfold downBy
  rw [List.append_assoc]
  exact rowOf_right (i := 0)
theorem down_more (w : Nat) (s : Sta) {n i : Nat} (h1 : 1 ≤ i) (h2 : i < n) : rowOf (downBy w s n) (s.rows.length + i) = bl w := by
  unfold downBy
  rw [List.append_assoc, rowOf_right]
  obtain ⟨j, rfl⟩ : ∃ j, i = j + 1 := ⟨i - 1, by omega⟩
  show rowOf ((s.line ++ bl (w - s.line.length)) :: List.replicate (n - 1) (bl w)) (j + 1) = bl w
  show rowOf (List.replicate (n - 1) (bl w)) j = bl w
  exact rowOf_rep (by omega)
theorem drop_app (a b : T) : (a ++ b).drop a.length = b := List.drop_left
theorem take_app (a b : T) : (a ++ b).take a.length = a := List.take_left
/-- the states that a device can be in -/
def Fit (w h : Nat) (s : Sta) : Prop := s.line.length ≤ w ∧ s.rows.length ≤ h ∧ (s.rows.length = h → s.line = [])
theorem fit0 (w h : Nat) : Fit w h sta0 := ⟨Nat.zero_le _, Nat.zero_le _, fun _ => rfl⟩
theorem after_fit {w h : Nat} {s s' : Sta} {n g : Nat} {cells : T} (hn : 1 ≤ n) (f : Fit w h s) (ha : after w h s n g cells = some s') : Fit w h s' := by
  obtain ⟨f1, f2, f3⟩ := f
  unfold after at ha
  split at ha
  · split at ha
    · cases ha
    · cases ha
      refine ⟨Nat.zero_le _, ?_, fun _ => rfl⟩
      rw [down_len w s hn]
      omega
  · split at ha
    · split at ha
      · cases ha
      · rename_i hx
        cases ha
        refine ⟨Nat.zero_le _, ?_, fun _ => rfl⟩
        rw [List.length_append, List.length_replicate]
        simp only [not_or] at hx
        omega
    · split at ha
      · cases ha
      · rename_i hx
        cases ha
        simp only [not_or] at hx
        refine ⟨?_, f2, fun z => ?_⟩
        · rw [List.length_append]
          omega
        · have z' : s.rows.length = h := z
          omega
theorem devGo_pre {w h : Nat} : ∀ (m : Nat) (s : T), s.length ≤ m → ∀ (e : Bool) (ps : List Pg) (st : Sta) (P : List Pg), devGo w h e ps st s = some P → ∃ q, P = ps ++ q := by
  intro m
  induction m with
  | zero =>
    intro s hs e ps st P h
    have e0 : s = [] := List.length_eq_zero_iff.mp (by omega)
    subst e0
    rw [devGo_nil] at h
    split at h
    · cases h
      exact ⟨[], by simp⟩
    · cases h
  | succ m ih =>
    intro s hs e ps st P h
    by_cases e0 : s = []
    · subst e0
      rw [devGo_nil] at h
      split at h
      · cases h
        exact ⟨[], by simp⟩
      · cases h
    · cases hc : cmdAt s with
      | none =>
        rw [devGo_none e0 hc] at h
        cases h
      | some c =>
        have hk := cmdAt_k hc
        have hl : (s.drop c.k).length ≤ m := by
          rw [List.length_drop]
          omega
        by_cases hg : c.g = 59
        · rw [devGo_end e0 hc hg] at h
          obtain ⟨q, e⟩ := ih _ hl _ _ _ _ h
          exact ⟨[endPg w _ st] ++ q, by rw [e, List.append_assoc]⟩
        · cases ha : after w _ st c.n c.g c.cells with
          | none =>
            rw [devGo_bad e0 hc hg ha] at h
            cases h
          | some st' =>
            rw [devGo_go e0 hc hg ha] at h
            exact ih _ hl _ _ _ _ h
theorem Form.n1 {c : Cmd} {t : T} (f : Form c t) : 1 ≤ c.n := by
  cases f with
  | four n g h1 h2 h3 => exact h1
  | fin => exact Nat.le_refl _
  | quo c h1 h2 => exact Nat.le_refl _
theorem after_ink' {w h : Nat} {s s' : Sta} {n g : Nat} {cells k : T} (h1 : g ≠ 47) (h2 : g ≠ 94) (e : inkOf n g cells = k) (ha : after w h s n g cells = some s') :
    s.rows.length < h ∧ s.line.length + k.length ≤ w ∧ s' = ⟨s.rows, s.line ++ k⟩ := by
  subst e
  unfold after at ha
  rw [if_neg h1, if_neg h2] at ha
  split at ha
  · cases ha
  · rename_i hx
    simp only [not_or] at hx
    cases ha
    exact ⟨by omega, by omega, rfl⟩
/-- a state that is on the way to a page stands in it -/
def On (p : Pg) (s : Sta) : Prop := s = at_ p s.rows.length s.line.length
theorem on_ink {w h : Nat} {p : Pg} (R : Right w h p) {rows : Pg} {line k : T} (hr : rows.length < h) (o : On p ⟨rows, line ++ k⟩) : On p ⟨rows, line⟩ ∧ seg p rows.length line.length k.length = k := by
  have e : (⟨rows, line ++ k⟩ : Sta) = at_ p rows.length (line ++ k).length := o
  have e1 : rows = p.take rows.length := congrArg Sta.rows e
  have e2 : line ++ k = (rowOf p rows.length).take (line ++ k).length := congrArg Sta.line e
  rw [List.length_append, ← take_seg] at e2
  have l1 : ((rowOf p rows.length).take line.length).length = line.length := by
    have q := congrArg List.length e2
    rw [List.length_append, List.length_append, List.length_take, List.length_take, List.length_drop] at q
    rw [List.length_take]
    omega
  obtain ⟨a, b⟩ := List.append_inj e2 l1.symm
  refine ⟨?_, b.symm⟩
  show (⟨rows, line⟩ : Sta) = ⟨p.take rows.length, (rowOf p rows.length).take line.length⟩
  rw [← e1, ← a]
theorem on_down {w : Nat} {p : Pg} {s : Sta} {n : Nat} (hn : 1 ≤ n) (e : downBy w s n = p.take (s.rows.length + n)) (hl : s.rows.length + n ≤ p.length) :
    On p s ∧ rowOf p s.rows.length = s.line ++ bl (w - s.line.length) ∧ ∀ i, 1 ≤ i → i < n → rowOf p (s.rows.length + i) = bl w := by
  have e1 : s.rows = p.take s.rows.length := by
    have q := down_take w s n
    rw [e, List.take_take, Nat.min_eq_left (by omega)] at q
    exact q.symm
  have e2 : rowOf p s.rows.length = s.line ++ bl (w - s.line.length) := by
    have q := down_row w s n
    rw [e, rowOf_take (by omega)] at q
    exact q
  refine ⟨?_, e2, fun i h1 h2 => ?_⟩
  · show s = ⟨p.take s.rows.length, (rowOf p s.rows.length).take s.line.length⟩
    rw [← e1, e2, take_app]
  · have q := down_more w s h1 h2
    rw [e, rowOf_take (by omega)] at q
    exact q
theorem Form.cases {c : Cmd} {t : T} (f : Form c t) : (∃ n g, c.n = n ∧ c.g = g ∧ t = cmdT n g ∧ 1 ≤ n ∧ n < 1000 ∧ Kw.four g = true) ∨ (c.g = 59 ∧ t = [59]) ∨ (c.n = 1 ∧ c.g = 34 ∧ t = quoted c.cells ∧ c.cells ≠ [] ∧ ∀ x ∈ c.cells, x ≠ 34) := by
  cases f with
  | four n g h1 h2 h3 => exact .inl ⟨n, g, rfl, rfl, rfl, h1, h2, h3⟩
  | fin => exact .inr (.inl ⟨rfl, rfl⟩)
  | quo c h1 h2 => exact .inr (.inr ⟨rfl, rfl, rfl, h1, h2⟩)
/-- COMPLETE: what the device draws as right pages begins with a string that draws the first of them -/
theorem devGo_split {w h : Nat} : ∀ (m : Nat) (s : T), s.length ≤ m → ∀ (e : Bool) (ps : List Pg) (st : Sta) (P : List Pg), Fit w h st → (∀ p ∈ P, Right w h p) → devGo w h e ps st s = some P →
    (s = [] ∧ e = true ∧ P = ps) ∨ ∃ p s1 s2, s = s1 ++ s2 ∧ s2.length < s.length ∧ p ∈ P ∧ On p st ∧ Draws w p st.rows.length st.line.length s1 ∧ devGo w h true (ps ++ [p]) sta0 s2 = some P := by
  intro m
  induction m with
  | zero =>
    intro s hs e ps st P _ _ hh
    have e0 : s = [] := List.length_eq_zero_iff.mp (by omega)
    subst e0
    rw [devGo_nil] at hh
    split at hh
    · cases hh
      exact .inl ⟨rfl, by assumption, rfl⟩
    · cases hh
  | succ m ih =>
    intro s hs e ps st P ft hP hh
    by_cases e0 : s = []
    · subst e0
      rw [devGo_nil] at hh
      split at hh
      · cases hh
        exact .inl ⟨rfl, by assumption, rfl⟩
      · cases hh
    · refine .inr ?_
      cases hc : cmdAt s with
      | none =>
        rw [devGo_none e0 hc] at hh
        cases hh
      | some c =>
        have hk := cmdAt_k hc
        obtain ⟨t, s', es, ed, ek, f⟩ := cmdAt_form hc
        have hl : s'.length ≤ m := by
          rw [← ed, List.length_drop]
          omega
        have hlt : s'.length < s.length := by
          rw [← ed, List.length_drop]
          omega
        obtain ⟨f1, f2, f3⟩ := id ft
        by_cases hg : c.g = 59
        · rw [devGo_end e0 hc hg, ed] at hh
          rcases f.cases with ⟨n, g, _, eg, _, _, _, hf⟩ | ⟨_, et⟩ | ⟨_, eg, _⟩
          · rw [hg] at eg
            rw [← eg] at hf
            cases hf
          · obtain ⟨q, eP⟩ := devGo_pre _ _ (Nat.le_refl _) _ _ _ _ hh
            have hm : endPg w h st ∈ P := by
              rw [eP]
              simp
            have R := hP _ hm
            have hlen := R.len
            refine ⟨endPg w h st, [59], s', by rw [es, et], hlt, hm, ?_, .fin ?_, hh⟩
            · unfold endPg at hlen ⊢
              split
              · rename_i hz
                rw [if_pos hz] at hlen
                have hline : st.line = [] := f3 (by omega)
                show st = ⟨st.rows.take st.rows.length, _⟩
                rw [List.take_length, hline]
                obtain ⟨rows, line⟩ := st
                subst hline
                rfl
              · rename_i hz
                rw [if_neg hz] at hlen
                have hd := down_len w st (n := h - st.rows.length) (Nat.one_le_iff_ne_zero.mpr hz)
                exact (on_down (n := h - st.rows.length) (Nat.one_le_iff_ne_zero.mpr hz) (by rw [← hd, List.take_length]) (by rw [hd]; exact Nat.le_refl _)).1
            · unfold endPg at hlen ⊢
              split
              · rename_i hz
                rw [if_pos hz] at hlen
                have hline : st.line = [] := f3 (by omega)
                exact .inl ⟨rfl, by rw [hline]; rfl⟩
              · rename_i hz
                rw [if_neg hz] at hlen
                have hd := down_len w st (n := h - st.rows.length) (Nat.one_le_iff_ne_zero.mpr hz)
                obtain ⟨_, o2, o3⟩ := on_down (n := h - st.rows.length) (w := w) (p := downBy w st (h - st.rows.length)) (Nat.one_le_iff_ne_zero.mpr hz) (by rw [← hd, List.take_length]) (by rw [hd]; exact Nat.le_refl _)
                refine .inr ⟨by omega, ?_, fun i h1 h2 => ?_⟩
                · rw [o2, drop_app]
                · have q := o3 (i - st.rows.length) (by omega) (by omega)
                  rw [show st.rows.length + (i - st.rows.length) = i by omega] at q
                  exact q
          · rw [hg] at eg
            cases eg
        · cases ha : after w h st c.n c.g c.cells with
          | none =>
            rw [devGo_bad e0 hc hg ha] at hh
            cases hh
          | some st' =>
            rw [devGo_go e0 hc hg ha, ed] at hh
            have ft' := after_fit f.n1 ft ha
            rcases ih s' hl false ps st' P ft' hP hh with ⟨_, z, _⟩ | ⟨p, s1, s2, e1, h2, hm, on, dr, hd⟩
            · cases z
            · have R := hP p hm
              have hlen := R.len
              suffices hs : On p st ∧ Go w p st.rows.length st.line.length t st'.rows.length st'.line.length from
                ⟨p, t ++ s1, s2, by rw [es, e1, List.append_assoc], by omega, hm, hs.1, .go hs.2 dr, hd⟩
              rcases f.cases with ⟨n, g, en, eg, et, n1, n2, hf⟩ | ⟨z, _⟩ | ⟨en, eg, et, q1, q2⟩
              · rw [en, eg] at ha
                subst et
                rcases four_iff.mp hf with rfl | rfl | rfl | rfl
                · obtain ⟨a1, a2, rfl⟩ := after_ink' (k := bl n) (by decide) (by decide) rfl ha
                  obtain ⟨o1, o2⟩ := on_ink R (rows := st.rows) (line := st.line) (k := bl n) a1 on
                  rw [bl_len] at a2 o2
                  refine ⟨o1, ?_⟩
                  show Go w p _ _ _ st.rows.length (st.line ++ bl n).length
                  rw [List.length_append, bl_len]
                  exact .right _ _ _ (by omega) n1 n2 a2 o2
                · obtain ⟨a1, a2, rfl⟩ := after_ink' (k := List.replicate n 35) (by decide) (by decide) rfl ha
                  obtain ⟨o1, o2⟩ := on_ink R (rows := st.rows) (line := st.line) (k := List.replicate n 35) a1 on
                  rw [List.length_replicate] at a2 o2
                  refine ⟨o1, ?_⟩
                  show Go w p _ _ _ st.rows.length (st.line ++ List.replicate n 35).length
                  rw [List.length_append, List.length_replicate]
                  exact .bar _ _ _ (by omega) n1 n2 a2 o2
                · unfold after at ha
                  rw [if_pos rfl] at ha
                  split at ha
                  · cases ha
                  · cases ha
                    have dl := down_len w st n1
                    have on' : (⟨downBy w st n, []⟩ : Sta) = ⟨p.take (downBy w st n).length, _⟩ := on
                    have e1 : downBy w st n = p.take (st.rows.length + n) := by
                      rw [← dl]
                      exact congrArg Sta.rows on'
                    obtain ⟨o1, o2, o3⟩ := on_down n1 e1 (by omega)
                    refine ⟨o1, ?_⟩
                    show Go w p _ _ _ (downBy w st n).length 0
                    rw [dl]
                    exact .down _ _ _ n1 n2 (by omega) (by rw [o2, drop_app]) o3
                · unfold after at ha
                  rw [if_neg (by decide), if_pos rfl] at ha
                  split at ha
                  · cases ha
                  · rename_i hx
                    simp only [not_or] at hx
                    cases ha
                    obtain ⟨x1, x2, x3⟩ := hx
                    have x1 : st.line = [] := Decidable.not_not.mp x1
                    have lr : (st.rows ++ List.replicate n (lastRow st.rows)).length = st.rows.length + n := by rw [List.length_append, List.length_replicate]
                    have on' : (⟨st.rows ++ List.replicate n (lastRow st.rows), []⟩ : Sta) = ⟨p.take (st.rows ++ List.replicate n (lastRow st.rows)).length, _⟩ := on
                    have e1 : st.rows ++ List.replicate n (lastRow st.rows) = p.take (st.rows.length + n) := by
                      rw [← lr]
                      exact congrArg Sta.rows on'
                    have e2 : st.rows = p.take st.rows.length := by
                      have q := congrArg (List.take st.rows.length) e1
                      rw [List.take_left, List.take_take, Nat.min_eq_left (by omega)] at q
                      exact q
                    have r1 : 1 ≤ st.rows.length := List.length_pos_iff.mpr x2
                    refine ⟨?_, ?_⟩
                    · show st = ⟨p.take st.rows.length, (rowOf p st.rows.length).take st.line.length⟩
                      rw [← e2, x1]
                      obtain ⟨rows, line⟩ := st
                      have x1 : line = [] := x1
                      subst x1
                      rfl
                    · show Go w p _ st.line.length _ (st.rows ++ List.replicate n (lastRow st.rows)).length 0
                      rw [lr, x1]
                      refine .copy _ _ n1 n2 r1 (by omega) fun i hi => ?_
                      rw [← rowOf_take (p := p) (m := st.rows.length + n) (i := st.rows.length + i) (by omega), ← e1, rowOf_right, rowOf_rep hi]
                      conv => lhs; rw [e2]
                      exact last_take r1 (by omega)
              · exact absurd z hg
              · rw [en, eg] at ha
                obtain ⟨a1, a2, rfl⟩ := after_ink' (k := c.cells) (by decide) (by decide) rfl ha
                obtain ⟨o1, o2⟩ := on_ink R (rows := st.rows) (line := st.line) (k := c.cells) a1 on
                refine ⟨o1, ?_⟩
                show Go w p _ _ _ st.rows.length (st.line ++ c.cells).length
                rw [List.length_append]
                have g := Go.quo (w := w) (p := p) st.rows.length st.line.length c.cells.length (by omega) (List.length_pos_iff.mpr q1) a2 (by rw [o2]; exact q2)
                rw [o2] at g
                rw [et]
                exact g
end Kw
set_option linter.all false
namespace Kw
def Least (w : Nat) (p : Pg) (r c : Nat) (z : T) : Prop := Draws w p r c z ∧ ∀ s, Draws w p r c s → SL z s
def MinLen (w : Nat) (p : Pg) (r c : Nat) (n : Nat) : Prop := (∃ s, Draws w p r c s ∧ s.length = n) ∧ ∀ s, Draws w p r c s → n ≤ s.length
theorem sl_len {a b : T} (h : SL a b) : a.length ≤ b.length := by
  rcases h with h | ⟨h, _⟩ <;> omega
theorem Least.minLen {w : Nat} {p : Pg} {r c : Nat} {z : T} (l : Least w p r c z) : MinLen w p r c z.length := ⟨⟨z, l.1, rfl⟩, fun s d => sl_len (l.2 s d)⟩
theorem MinLen.eq {w : Nat} {p : Pg} {r c n m : Nat} (a : MinLen w p r c n) (b : MinLen w p r c m) : n = m := by
  obtain ⟨s, d, e⟩ := a.1
  obtain ⟨t, d', e'⟩ := b.1
  have h1 := a.2 t d'
  have h2 := b.2 s d
  omega
/-- how many in a row -/
def RunOf (P : Nat → Prop) (b k : Nat) : Prop := k ≤ b ∧ (∀ i, i < k → P i) ∧ (k < b → ¬ P k)
theorem RunOf.le {P : Nat → Prop} {b k n : Nat} (h : RunOf P b k) (hn : n ≤ b) (hp : ∀ i, i < n → P i) : n ≤ k := by
  obtain ⟨h1, h2, h3⟩ := h
  by_cases e : k < n
  · exact absurd (hp k e) (h3 (by omega))
  · omega
abbrev rng (k : Nat) : List Nat := (List.range k).map (· + 1)
theorem mem_rng {k n : Nat} : n ∈ rng k ↔ 1 ≤ n ∧ n ≤ k := by
  constructor
  · intro h
    obtain ⟨a, h1, h2⟩ := List.mem_map.mp h
    have := List.mem_range.mp h1
    omega
  · rintro ⟨h1, h2⟩
    exact List.mem_map.mpr ⟨n - 1, List.mem_range.mpr (by omega), by omega⟩
abbrev Ch := T × T
def cat (x : Ch) : T := x.1 ++ x.2
def acrossL (t : T) (bs : Nat → T) (k1 k2 : Nat) : List Ch :=
  (rng k1).map (fun n => (cmdT n 62, bs n)) ++ (rng k2).map (fun n => (cmdT n 35, bs n)) ++ (rng t.length).map (fun n => (quoted (t.take n), bs n))
def downL (below : Nat → T) (r k h : Nat) : List Ch := (rng (k + 1)).map (fun n => (cmdT n 47, below (r + n))) ++ (if r + 1 + k = h then [([59], [])] else [])
def copL (below : Nat → T) (r k : Nat) : List Ch := (rng k).map (fun n => (cmdT n 94, below (r + n)))
def Best (L : List Ch) (z : T) : Prop := (∃ x ∈ L, z = cat x) ∧ ∀ x ∈ L, SL z (cat x)
def isBl (t : T) : Prop := ∀ x ∈ t, x = 32
instance (t : T) : Decidable (isBl t) := inferInstanceAs (Decidable (∀ x ∈ t, x = 32))
theorem isBl_iff {t : T} : isBl t ↔ t = bl t.length := by
  constructor
  · intro h
    exact List.eq_replicate_iff.mpr ⟨rfl, h⟩
  · intro h x hx
    rw [h] at hx
    exact (List.mem_replicate.mp hx).2
theorem isBl_bl {t : T} {n : Nat} (h : t.length = n) : isBl t ↔ t = bl n := by
  rw [isBl_iff, h]
theorem seg_drop (p : Pg) (r c n : Nat) : ((rowOf p r).drop c).take n = seg p r c n := rfl
theorem seg_eq {w h : Nat} {p : Pg} (R : Right w h p) {r c n x : Nat} (hr : r < p.length) (hc : c + n ≤ w) : seg p r c n = List.replicate n x ↔ ∀ i, i < n → ((rowOf p r).drop c)[i]? = some x := by
  have hl := seg_len R hr hc
  constructor
  · intro e i hi
    have q : (seg p r c n)[i]? = some x := by
      rw [e, List.getElem?_replicate, if_pos hi]
    unfold seg at q
    rw [List.getElem?_take, if_pos hi] at q
    exact q
  · intro e
    refine List.eq_replicate_iff.mpr ⟨hl, fun y hy => ?_⟩
    obtain ⟨i, hi⟩ := List.mem_iff_getElem?.mp hy
    have hin : i < n := by
      have := (List.getElem?_eq_some_iff.mp hi).1
      omega
    unfold seg at hi
    rw [List.getElem?_take, if_pos hin, e i hin] at hi
    exact (Option.some.inj hi).symm
/-- all the choices at a place -/
structure Rm (w h : Nat) (p : Pg) (r c : Nat) : Prop where
  R : Right w h p
  hr : r < h
  hc : c ≤ w
  hh : h < 1000
  hw : w < 1000
structure Runs (w h : Nat) (p : Pg) (r c k1 k2 kd ka : Nat) : Prop where
  k1 : RunOf (fun i => ((rowOf p r).drop c)[i]? = some 32) (w - c) k1
  k2 : RunOf (fun i => ((rowOf p r).drop c)[i]? = some 35) (w - c) k2
  kd : isBl ((rowOf p r).drop c) → RunOf (fun i => isBl (rowOf p (r + 1 + i))) (h - (r + 1)) kd
  ka : c = 0 → r ≠ 0 → RunOf (fun i => rowOf p (r + i) = rowOf p (r - 1)) (h - r) ka
def choices (p : Pg) (h r c : Nat) (bs below : Nat → T) (k1 k2 kd ka : Nat) : List Ch :=
  acrossL ((rowOf p r).drop c) bs k1 k2 ++ (if isBl ((rowOf p r).drop c) then downL below r kd h else []) ++ (if c = 0 ∧ r ≠ 0 then copL below r ka else [])
theorem mem_choices {p : Pg} {h r c : Nat} {bs below : Nat → T} {k1 k2 kd ka : Nat} {x : Ch} : x ∈ choices p h r c bs below k1 k2 kd ka ↔
    (∃ n, 1 ≤ n ∧ n ≤ k1 ∧ x = (cmdT n 62, bs n)) ∨ (∃ n, 1 ≤ n ∧ n ≤ k2 ∧ x = (cmdT n 35, bs n)) ∨ (∃ n, 1 ≤ n ∧ n ≤ ((rowOf p r).drop c).length ∧ x = (quoted (seg p r c n), bs n)) ∨
    (isBl ((rowOf p r).drop c) ∧ ((∃ n, 1 ≤ n ∧ n ≤ kd + 1 ∧ x = (cmdT n 47, below (r + n))) ∨ (r + 1 + kd = h ∧ x = ([59], [])))) ∨
    ((c = 0 ∧ r ≠ 0) ∧ ∃ n, 1 ≤ n ∧ n ≤ ka ∧ x = (cmdT n 94, below (r + n))) := by
  have mm : ∀ {f : Nat → Ch} {k : Nat}, x ∈ (rng k).map f ↔ ∃ n, 1 ≤ n ∧ n ≤ k ∧ x = f n := by
    intro f k
    constructor
    · intro hx
      obtain ⟨n, h1, h2⟩ := List.mem_map.mp hx
      have := mem_rng.mp h1
      exact ⟨n, this.1, this.2, h2.symm⟩
    · rintro ⟨n, h1, h2, h3⟩
      exact List.mem_map.mpr ⟨n, mem_rng.mpr ⟨h1, h2⟩, h3.symm⟩
  unfold choices acrossL downL copL
  rw [List.mem_append, List.mem_append, List.mem_append, List.mem_append, mm, mm, mm]
  have e1 : x ∈ (if isBl ((rowOf p r).drop c) then (rng (kd + 1)).map (fun n => (cmdT n 47, below (r + n))) ++ (if r + 1 + kd = h then [([59], [])] else []) else []) ↔ (isBl ((rowOf p r).drop c) ∧ ((∃ n, 1 ≤ n ∧ n ≤ kd + 1 ∧ x = (cmdT n 47, below (r + n))) ∨ (r + 1 + kd = h ∧ x = ([59], [])))) := by
    by_cases hb : isBl ((rowOf p r).drop c)
    · rw [if_pos hb, List.mem_append, mm]
      by_cases hk : r + 1 + kd = h
      · rw [if_pos hk]
        simp [hb, hk]
      · rw [if_neg hk]
        simp [hb, hk]
    · rw [if_neg hb]
      simp [hb]
  have e2 : x ∈ (if c = 0 ∧ r ≠ 0 then (rng ka).map (fun n => (cmdT n 94, below (r + n))) else []) ↔ ((c = 0 ∧ r ≠ 0) ∧ ∃ n, 1 ≤ n ∧ n ≤ ka ∧ x = (cmdT n 94, below (r + n))) := by
    by_cases hb : c = 0 ∧ r ≠ 0
    · rw [if_pos hb, mm]
      exact ⟨fun z => ⟨hb, z⟩, fun z => z.2⟩
    · rw [if_neg hb]
      simp only [hb, false_and, iff_false]
      simp
  rw [e1, e2, or_assoc, or_assoc, or_assoc]
  rfl
section
variable {w h : Nat} {p : Pg} {r c k1 k2 kd ka : Nat}
theorem drop_len (M : Rm w h p r c) : ((rowOf p r).drop c).length = w - c := by
  rw [List.length_drop, M.R.row (by have := M.R.len; have := M.hr; omega)]
theorem blank_iff (M : Rm w h p r c) : isBl ((rowOf p r).drop c) ↔ (rowOf p r).drop c = bl (w - c) := isBl_bl (drop_len M)
theorem row_blank (M : Rm w h p r c) {i : Nat} (hi : i < h) : isBl (rowOf p i) ↔ rowOf p i = bl w := isBl_bl (M.R.row (by have := M.R.len; omega))
/-- what stands among the choices is a step -/
theorem step1 (M : Rm w h p r c) (K : Runs w h p r c k1 k2 kd ka) :
    (∀ n, 1 ≤ n → n ≤ k1 → Go w p r c (cmdT n 62) r (c + n)) ∧ (∀ n, 1 ≤ n → n ≤ k2 → Go w p r c (cmdT n 35) r (c + n)) ∧ (∀ n, 1 ≤ n → n ≤ ((rowOf p r).drop c).length → Go w p r c (quoted (seg p r c n)) r (c + n)) ∧
    (isBl ((rowOf p r).drop c) → (∀ n, 1 ≤ n → n ≤ kd + 1 → Go w p r c (cmdT n 47) (r + n) 0 ∧ r + n ≤ h) ∧ (r + 1 + kd = h → Fin w p r c)) ∧
    ((c = 0 ∧ r ≠ 0) → ∀ n, 1 ≤ n → n ≤ ka → Go w p r c (cmdT n 94) (r + n) 0 ∧ r + n ≤ h) := by
  have hl := M.R.len
  have hr := M.hr
  have hw := M.hw
  have hh := M.hh
  have hc := M.hc
  have dl := drop_len M
  refine ⟨fun n h1 h2 => ?_, fun n h1 h2 => ?_, fun n h1 h2 => ?_, fun hb => ⟨fun n h1 h2 => ?_, fun e => ?_⟩, fun hb n h1 h2 => ?_⟩
  · obtain ⟨a, b, _⟩ := K.k1
    exact .right _ _ _ (by omega) h1 (by omega) (by omega) ((seg_eq M.R (by omega) (by omega)).mpr fun i hi => b i (by omega))
  · obtain ⟨a, b, _⟩ := K.k2
    exact .bar _ _ _ (by omega) h1 (by omega) (by omega) ((seg_eq M.R (by omega) (by omega)).mpr fun i hi => b i (by omega))
  · refine .quo _ _ _ (by omega) h1 (by omega) fun x hx => ?_
    exact M.R.noq _ (rowOf_mem (by omega)) x (List.mem_of_mem_drop (List.mem_of_mem_take hx))
  · obtain ⟨a, b, _⟩ := K.kd hb
    refine ⟨.down _ _ _ h1 (by omega) (by omega) ((blank_iff M).mp hb) fun i h3 h4 => ?_, by omega⟩
    have q : isBl (rowOf p (r + 1 + (i - 1))) := b (i - 1) (by omega)
    rw [show r + 1 + (i - 1) = r + i by omega] at q
    exact (row_blank M (by omega)).mp q
  · obtain ⟨a, b, _⟩ := K.kd hb
    refine .inr ⟨by omega, (blank_iff M).mp hb, fun i h1 h2 => ?_⟩
    have q : isBl (rowOf p (r + 1 + (i - (r + 1)))) := b (i - (r + 1)) (by omega)
    rw [show r + 1 + (i - (r + 1)) = i by omega] at q
    exact (row_blank M (by omega)).mp q
  · obtain ⟨hb1, hb2⟩ := hb
    obtain ⟨a, b, _⟩ := K.ka hb1 hb2
    subst hb1
    exact ⟨.copy _ _ h1 (by omega) (by omega) (by omega) fun i hi => b i (by omega), by omega⟩
/-- each step stands among them -/
theorem step2 (M : Rm w h p r c) (K : Runs w h p r c k1 k2 kd ka) {t : T} {r' c' : Nat} (g : Go w p r c t r' c') :
    (∃ n, 1 ≤ n ∧ n ≤ k1 ∧ t = cmdT n 62 ∧ r' = r ∧ c' = c + n) ∨ (∃ n, 1 ≤ n ∧ n ≤ k2 ∧ t = cmdT n 35 ∧ r' = r ∧ c' = c + n) ∨ (∃ n, 1 ≤ n ∧ n ≤ ((rowOf p r).drop c).length ∧ t = quoted (seg p r c n) ∧ r' = r ∧ c' = c + n) ∨
    (isBl ((rowOf p r).drop c) ∧ ∃ n, 1 ≤ n ∧ n ≤ kd + 1 ∧ t = cmdT n 47 ∧ r' = r + n ∧ c' = 0) ∨
    ((c = 0 ∧ r ≠ 0) ∧ ∃ n, 1 ≤ n ∧ n ≤ ka ∧ t = cmdT n 94 ∧ r' = r + n ∧ c' = 0) := by
  have hl := M.R.len
  have hr := M.hr
  have dl := drop_len M
  cases g with
  | right c n h1 h2 h3 h4 h5 => exact .inl ⟨n, h2, K.k1.le (by omega) ((seg_eq M.R h1 h4).mp h5), rfl, rfl, rfl⟩
  | bar c n h1 h2 h3 h4 h5 => exact .inr (.inl ⟨n, h2, K.k2.le (by omega) ((seg_eq M.R h1 h4).mp h5), rfl, rfl, rfl⟩)
  | quo c n h1 h2 h4 h5 => exact .inr (.inr (.inl ⟨n, h2, by omega, rfl, rfl, rfl⟩))
  | down c n h1 h2 h3 h4 h5 =>
    have hb := (blank_iff M).mpr h4
    refine .inr (.inr (.inr (.inl ⟨hb, n, h1, ?_, rfl, rfl, rfl⟩)))
    have q := (K.kd hb).le (n := n - 1) (by omega) fun i hi => by
      have q := h5 (i + 1) (by omega) (by omega)
      rw [show r + (i + 1) = r + 1 + i by omega] at q
      exact (row_blank M (by omega)).mpr q
    omega
  | copy n h1 h2 h3 h4 h5 => exact .inr (.inr (.inr (.inr ⟨⟨rfl, by omega⟩, n, h1, (K.ka rfl (by omega)).le (by omega) h5, rfl, rfl, rfl⟩)))
theorem fin_in (M : Rm w h p r c) (K : Runs w h p r c k1 k2 kd ka) (f : Fin w p r c) : isBl ((rowOf p r).drop c) ∧ r + 1 + kd = h := by
  have hl := M.R.len
  have hr := M.hr
  rcases f with ⟨e, _⟩ | ⟨h1, h2, h3⟩
  · omega
  · have hb := (blank_iff M).mpr h2
    refine ⟨hb, ?_⟩
    have q := (K.kd hb).le (n := h - (r + 1)) (by omega) fun i hi => (row_blank M (by omega)).mpr (h3 _ (by omega) (by omega))
    have := (K.kd hb).1
    omega
theorem best_least (M : Rm w h p r c) (K : Runs w h p r c k1 k2 kd ka) {bs below : Nat → T} (hb : ∀ n, 1 ≤ n → c + n ≤ w → Least w p r (c + n) (bs n)) (hd : ∀ j, r < j → j ≤ h → Least w p j 0 (below j))
    {z : T} (hz : Best (choices p h r c bs below k1 k2 kd ka) z) : Least w p r c z := by
  have dl := drop_len M
  have k1l := K.k1.1
  have k2l := K.k2.1
  have hc := M.hc
  obtain ⟨s1, s2, s3, s4, s5⟩ := step1 M K
  obtain ⟨⟨x, hx, rfl⟩, hmin⟩ := hz
  refine ⟨?_, fun s d => ?_⟩
  · rcases mem_choices.mp hx with ⟨n, h1, h2, rfl⟩ | ⟨n, h1, h2, rfl⟩ | ⟨n, h1, h2, rfl⟩ | ⟨hbl, ⟨n, h1, h2, rfl⟩ | ⟨e, rfl⟩⟩ | ⟨hbl, n, h1, h2, rfl⟩
    · exact .go (s1 n h1 h2) (hb n h1 (by omega)).1
    · exact .go (s2 n h1 h2) (hb n h1 (by omega)).1
    · exact .go (s3 n h1 h2) (hb n h1 (by omega)).1
    · have q := (s4 hbl).1 n h1 h2
      exact .go q.1 (hd (r + n) (by omega) q.2).1
    · exact .fin ((s4 hbl).2 e)
    · have q := s5 hbl n h1 h2
      exact .go q.1 (hd (r + n) (by omega) q.2).1
  · cases d with
    | fin f =>
      obtain ⟨a, b⟩ := fin_in M K f
      exact hmin ([59], []) (mem_choices.mpr (.inr (.inr (.inr (.inl ⟨a, .inr ⟨b, rfl⟩⟩)))))
    | go g d =>
      rename_i r' c' t s'
      rcases step2 M K g with ⟨n, h1, h2, et, er, ec⟩ | ⟨n, h1, h2, et, er, ec⟩ | ⟨n, h1, h2, et, er, ec⟩ | ⟨hbl, n, h1, h2, et, er, ec⟩ | ⟨hbl, n, h1, h2, et, er, ec⟩
      · rw [er, ec] at d
        rw [et]
        exact sl_trans (hmin (cmdT n 62, bs n) (mem_choices.mpr (.inl ⟨n, h1, h2, rfl⟩))) (sl_app _ ((hb n h1 (by omega)).2 _ d))
      · rw [er, ec] at d
        rw [et]
        exact sl_trans (hmin (cmdT n 35, bs n) (mem_choices.mpr (.inr (.inl ⟨n, h1, h2, rfl⟩)))) (sl_app _ ((hb n h1 (by omega)).2 _ d))
      · rw [er, ec] at d
        rw [et]
        exact sl_trans (hmin (quoted (seg p r c n), bs n) (mem_choices.mpr (.inr (.inr (.inl ⟨n, h1, h2, rfl⟩))))) (sl_app _ ((hb n h1 (by omega)).2 _ d))
      · rw [er, ec] at d
        rw [et]
        have q := (s4 hbl).1 n h1 h2
        exact sl_trans (hmin (cmdT n 47, below (r + n)) (mem_choices.mpr (.inr (.inr (.inr (.inl ⟨hbl, .inl ⟨n, h1, h2, rfl⟩⟩)))))) (sl_app _ ((hd (r + n) (by omega) q.2).2 _ d))
      · rw [er, ec] at d
        rw [et]
        have q := s5 hbl n h1 h2
        exact sl_trans (hmin (cmdT n 94, below (r + n)) (mem_choices.mpr (.inr (.inr (.inr (.inr ⟨hbl, n, h1, h2, rfl⟩)))))) (sl_app _ ((hd (r + n) (by omega) q.2).2 _ d))
/-- the same of the lengths alone -/
def lens (p : Pg) (h r c : Nat) (need below : Nat → Nat) (k1 k2 kd ka : Nat) (x : Nat) : Prop :=
  (∃ n, 1 ≤ n ∧ n ≤ w - c ∧ x = n + 2 + need n) ∨ (∃ n, 1 ≤ n ∧ (n ≤ k1 ∨ n ≤ k2) ∧ x = (cmdT n 0).length + need n) ∨
    (isBl ((rowOf p r).drop c) ∧ ((∃ n, 1 ≤ n ∧ n ≤ kd + 1 ∧ x = (cmdT n 0).length + below (r + n)) ∨ (r + 1 + kd = h ∧ x = 1))) ∨
    ((c = 0 ∧ r ≠ 0) ∧ ∃ n, 1 ≤ n ∧ n ≤ ka ∧ x = (cmdT n 0).length + below (r + n))
theorem cnt_len_any (n g g' : Nat) : (cmdT n g).length = (cmdT n g').length := by
  unfold cmdT
  split
  · rfl
  · rw [List.length_append, List.length_append]
    rfl
theorem quoted_len (t : T) : (quoted t).length = t.length + 2 := by
  unfold quoted
  simp
theorem min_lens (M : Rm w h p r c) (K : Runs w h p r c k1 k2 kd ka) {need below : Nat → Nat} (hb : ∀ n, 1 ≤ n → c + n ≤ w → MinLen w p r (c + n) (need n)) (hd : ∀ j, r < j → j ≤ h → MinLen w p j 0 (below j))
    {m : Nat} (h1 : lens (w := w) p h r c need below k1 k2 kd ka m) (h2 : ∀ x, lens (w := w) p h r c need below k1 k2 kd ka x → m ≤ x) : MinLen w p r c m := by
  have hl := M.R.len
  have hr := M.hr
  have dl := drop_len M
  have k1l := K.k1.1
  have k2l := K.k2.1
  have hc := M.hc
  obtain ⟨s1, s2, s3, s4, s5⟩ := step1 M K
  refine ⟨?_, fun s d => ?_⟩
  · have mk : ∀ {t : T} {r' c' a : Nat}, Go w p r c t r' c' → MinLen w p r' c' a → ∃ s, Draws w p r c s ∧ s.length = t.length + a := by
      intro t r' c' a g ml
      obtain ⟨s, d, e⟩ := ml.1
      exact ⟨t ++ s, .go g d, by rw [List.length_append, e]⟩
    rcases h1 with ⟨n, h1, h3, rfl⟩ | ⟨n, h1, h3 | h3, rfl⟩ | ⟨hbl, ⟨n, h1, h3, rfl⟩ | ⟨e, rfl⟩⟩ | ⟨hbl, n, h1, h3, rfl⟩
    · obtain ⟨s, d, e⟩ := mk (s3 n h1 (by omega)) (hb n h1 (by omega))
      exact ⟨s, d, by rw [e, quoted_len, seg_len M.R (by omega) (by omega)]⟩
    · obtain ⟨s, d, e⟩ := mk (s1 n h1 h3) (hb n h1 (by omega))
      exact ⟨s, d, by rw [e, cnt_len_any n 62 0]⟩
    · obtain ⟨s, d, e⟩ := mk (s2 n h1 h3) (hb n h1 (by omega))
      exact ⟨s, d, by rw [e, cnt_len_any n 35 0]⟩
    · have q := (s4 hbl).1 n h1 h3
      obtain ⟨s, d, e⟩ := mk q.1 (hd (r + n) (by omega) q.2)
      exact ⟨s, d, by rw [e, cnt_len_any n 47 0]⟩
    · exact ⟨[59], .fin ((s4 hbl).2 e), rfl⟩
    · have q := s5 hbl n h1 h3
      obtain ⟨s, d, e⟩ := mk q.1 (hd (r + n) (by omega) q.2)
      exact ⟨s, d, by rw [e, cnt_len_any n 94 0]⟩
  · cases d with
    | fin f =>
      obtain ⟨a, b⟩ := fin_in M K f
      exact h2 1 (.inr (.inr (.inl ⟨a, .inr ⟨b, rfl⟩⟩)))
    | go g d =>
      rename_i r' c' t s'
      rw [List.length_append]
      rcases step2 M K g with ⟨n, h1, h3, et, er, ec⟩ | ⟨n, h1, h3, et, er, ec⟩ | ⟨n, h1, h3, et, er, ec⟩ | ⟨hbl, n, h1, h3, et, er, ec⟩ | ⟨hbl, n, h1, h3, et, er, ec⟩
      · rw [er, ec] at d
        rw [et]
        have a := h2 _ (.inr (.inl ⟨n, h1, .inl h3, rfl⟩))
        have b := (hb n h1 (by omega)).2 _ d
        rw [cnt_len_any n 62 0]
        omega
      · rw [er, ec] at d
        rw [et]
        have a := h2 _ (.inr (.inl ⟨n, h1, .inr h3, rfl⟩))
        have b := (hb n h1 (by omega)).2 _ d
        rw [cnt_len_any n 35 0]
        omega
      · rw [er, ec] at d
        rw [et]
        have a := h2 _ (.inl ⟨n, h1, by omega, rfl⟩)
        have b := (hb n h1 (by omega)).2 _ d
        rw [quoted_len, seg_len M.R (by omega) (by omega)]
        omega
      · rw [er, ec] at d
        rw [et]
        have q := (s4 hbl).1 n h1 h3
        have a := h2 _ (.inr (.inr (.inl ⟨hbl, .inl ⟨n, h1, h3, rfl⟩⟩)))
        have b := (hd (r + n) (by omega) q.2).2 _ d
        rw [cnt_len_any n 47 0]
        omega
      · rw [er, ec] at d
        rw [et]
        have q := s5 hbl n h1 h3
        have a := h2 _ (.inr (.inr (.inr ⟨hbl, n, h1, h3, rfl⟩)))
        have b := (hd (r + n) (by omega) q.2).2 _ d
        rw [cnt_len_any n 94 0]
        omega
end
/-- at the end of the page -/
theorem least_end {w : Nat} {p : Pg} : Least w p p.length 0 [59] := by
  refine ⟨.fin (.inl ⟨rfl, rfl⟩), fun s d => ?_⟩
  generalize er : p.length = r at d
  generalize ec : (0 : Nat) = c at d
  cases d with
  | fin f => exact sl_refl _
  | go g d =>
    exfalso
    cases g <;> omega
/-- a bound -/
theorem some_draw {w h : Nat} {p : Pg} (R : Right w h p) (hw : 1 ≤ w) : ∀ (k r : Nat), r + k = h → ∃ s, Draws w p r 0 s ∧ s.length ≤ (w + 3) * k + 1 := by
  intro k
  have hl := R.len
  induction k with
  | zero =>
    intro r hr
    have e : r = p.length := by omega
    exact ⟨[59], .fin (.inl ⟨e, rfl⟩), by simp⟩
  | succ k ih =>
    intro r hr
    obtain ⟨s, d, hs⟩ := ih (r + 1) (by omega)
    have g1 : Go w p r 0 (quoted (seg p r 0 w)) r (0 + w) := .quo _ _ _ (by omega) hw (by omega) fun x hx => R.noq _ (rowOf_mem (by omega)) x (List.mem_of_mem_drop (List.mem_of_mem_take hx))
    have g2 : Go w p r (0 + w) (cmdT 1 47) (r + 1) 0 := .down _ _ _ (by omega) (by omega) (by omega) (by rw [Nat.zero_add, Nat.sub_self]; exact List.drop_eq_nil_iff.mpr (by rw [R.row (by omega)]; exact Nat.le_refl _)) fun i h1 h2 => by omega
    refine ⟨_, .go g1 (.go g2 d), ?_⟩
    rw [List.length_append, List.length_append, quoted_len, seg_len R (by omega) (by omega)]
    show w + 2 + (1 + s.length) ≤ _
    rw [Nat.mul_add]
    omega
theorem least_len {w h : Nat} {p : Pg} (R : Right w h p) (hw : 1 ≤ w) {r c : Nat} {z : T} (l : Least w p r c z) (hr : r ≤ h) (hc : c ≤ w) (hrc : r = h → c = 0) : z.length ≤ (w + 3) * h + 1 := by
  have hl := R.len
  have mono : ∀ k, k ≤ h → (w + 3) * k + 1 ≤ (w + 3) * h + 1 := fun k hk => by
    have := Nat.mul_le_mul_left (w + 3) hk
    omega
  by_cases e : c = 0
  · subst e
    obtain ⟨s, d, hs⟩ := some_draw R hw (h - r) r (by omega)
    have a := sl_len (l.2 s d)
    have b := mono (h - r) (by omega)
    omega
  · have hr' : r < h := by omega
    obtain ⟨s, d, hs⟩ := some_draw R hw (h - (r + 1)) (r + 1) (by omega)
    have g2 : Go w p r w (cmdT 1 47) (r + 1) 0 := .down _ _ _ (by omega) (by omega) (by omega) (by rw [Nat.sub_self]; exact List.drop_eq_nil_iff.mpr (by rw [R.row (by omega)]; exact Nat.le_refl _)) fun i h1 h2 => by omega
    have b := mono (h - (r + 1) + 1) (by omega)
    rw [Nat.mul_add] at b
    by_cases ec : c = w
    · subst ec
      have a := sl_len (l.2 _ (.go g2 d))
      rw [List.length_append] at a
      have : (cmdT 1 47).length = 1 := rfl
      omega
    · have g1 : Go w p r c (quoted (seg p r c (w - c))) r (c + (w - c)) := .quo _ _ _ (by omega) (by omega) (by omega) fun x hx => R.noq _ (rowOf_mem (by omega)) x (List.mem_of_mem_drop (List.mem_of_mem_take hx))
      rw [show c + (w - c) = w by omega] at g1
      have a := sl_len (l.2 _ (.go g1 (.go g2 d)))
      rw [List.length_append, List.length_append, quoted_len, seg_len R (by omega) (by omega)] at a
      have : (cmdT 1 47).length = 1 := rfl
      omega
/-! ### whole files -/
def AllD (D : Pg → T → Prop) : List Pg → List T → Prop
  | [], [] => True
  | p :: P, s :: S => D p s ∧ AllD D P S
  | _, _ => False
theorem file_sound {w h : Nat} : ∀ (P : List Pg) (zs : List T) (e : Bool) (ps : List Pg), (∀ p ∈ P, Right w h p) → AllD (fun p s => Draws w p 0 0 s) P zs → (P = [] → e = true) → devGo w h e ps sta0 zs.flatten = some (ps ++ P)
  | [], [], e, ps, _, _, he => by
    rw [List.flatten_nil, devGo_nil, he rfl]
    simp
  | [], _ :: _, _, _, _, h, _ => h.elim
  | _ :: _, [], _, _, _, h, _ => h.elim
  | p :: P, z :: zs, e, ps, R, ⟨hd, ht⟩, _ => by
    have e0 : sta0 = at_ p 0 0 := rfl
    rw [List.flatten_cons, e0, hd.dev (R p (by simp)) ⟨Nat.zero_le _, Nat.zero_le _, fun _ => rfl⟩ e ps zs.flatten, file_sound P zs true (ps ++ [p]) (fun q hq => R q (by simp [hq])) ht (fun _ => rfl), List.append_assoc]
    rfl
theorem file_split {w h : Nat} : ∀ (m : Nat) (s : T), s.length ≤ m → ∀ (ps P : List Pg), (∀ p ∈ P, Right w h p) → devGo w h true ps sta0 s = some P → ∃ Q ss, P = ps ++ Q ∧ s = ss.flatten ∧ AllD (fun p s => Draws w p 0 0 s) Q ss := by
  intro m
  induction m with
  | zero =>
    intro s hs ps P hP hd
    rcases devGo_split _ s (Nat.le_refl _) true ps sta0 P (fit0 w h) hP hd with ⟨e, _, e2⟩ | ⟨p, s1, s2, e, hl, _⟩
    · exact ⟨[], [], by rw [e2, List.append_nil], e, trivial⟩
    · omega
  | succ m ih =>
    intro s hs ps P hP hd
    rcases devGo_split _ s (Nat.le_refl _) true ps sta0 P (fit0 w h) hP hd with ⟨e, _, e2⟩ | ⟨p, s1, s2, e, hl, hm, _, dr, hd2⟩
    · exact ⟨[], [], by rw [e2, List.append_nil], e, trivial⟩
    · obtain ⟨Q, ss, e1, e2, a⟩ := ih s2 (by omega) _ _ hP hd2
      exact ⟨p :: Q, s1 :: ss, by rw [e1, List.append_assoc]; rfl, by rw [e, e2]; rfl, dr, a⟩
theorem all_len {w : Nat} : ∀ (P : List Pg) (zs ss : List T), AllD (fun p z => Least w p 0 0 z) P zs → AllD (fun p s => Draws w p 0 0 s) P ss → zs.flatten.length ≤ ss.flatten.length
  | [], [], [], _, _ => Nat.le_refl _
  | p :: P, z :: zs, s :: ss, ⟨h1, h2⟩, ⟨g1, g2⟩ => by
    rw [List.flatten_cons, List.flatten_cons, List.length_append, List.length_append]
    have a := sl_len (h1.2 s g1)
    have b := all_len P zs ss h2 g2
    omega
theorem all_draws {w : Nat} : ∀ (P : List Pg) (zs : List T), AllD (fun p z => Least w p 0 0 z) P zs → AllD (fun p s => Draws w p 0 0 s) P zs
  | [], [], _ => trivial
  | _ :: P, _ :: zs, ⟨h1, h2⟩ => ⟨h1.1, all_draws P zs h2⟩
/-- the file of pages -/
theorem file_dev {w h : Nat} {P : List Pg} {zs : List T} (R : ∀ p ∈ P, Right w h p) (l : AllD (fun p z => Least w p 0 0 z) P zs) : dev w h zs.flatten = some P := by
  have q := file_sound P zs true [] R (all_draws P zs l) fun _ => rfl
  rw [List.nil_append] at q
  exact q
/-- nothing shorter is drawn as these pages -/
theorem file_min {w h : Nat} {P : List Pg} {zs : List T} (R : ∀ p ∈ P, Right w h p) (l : AllD (fun p z => Least w p 0 0 z) P zs) {s : T} (hd : dev w h s = some P) : zs.flatten.length ≤ s.length := by
  obtain ⟨Q, ss, e1, e2, a⟩ := file_split _ s (Nat.le_refl _) [] P R hd
  rw [List.nil_append] at e1
  subst e1
  rw [e2]
  exact all_len P zs ss l a
/-- for one page none is less -/
theorem file_one {w h : Nat} {p : Pg} {z : T} (R : Right w h p) (l : Least w p 0 0 z) {s : T} (hd : dev w h s = some [p]) : SL z s := by
  obtain ⟨Q, ss, e1, e2, a⟩ := file_split _ s (Nat.le_refl _) [] [p] (fun q hq => by rw [List.mem_singleton.mp hq]; exact R) hd
  rw [List.nil_append] at e1
  subst e1
  match ss, a with
  | [s1], ⟨d, _⟩ =>
    rw [e2]
    rw [List.flatten_cons, List.flatten_nil, List.append_nil]
    exact l.2 _ d
  | [], a => exact a.elim
  | _ :: _ :: _, ⟨_, a⟩ => exact a.elim
end Kw
set_option linter.all false
namespace Kw
/-- one single step of the device -/
def Stp (w h g : Nat) (s : Sta) (c : Nat) (s' : Sta) : Prop := s.rows.length < h ∧
  ((g = 47 ∧ s' = ⟨downBy w s 1, []⟩) ∨ (g = 94 ∧ s.rows ≠ [] ∧ s.line = [] ∧ s' = ⟨s.rows ++ [lastRow s.rows], []⟩) ∨ (g ≠ 47 ∧ g ≠ 94 ∧ s.line.length < w ∧ s' = ⟨s.rows, s.line ++ [c]⟩))
inductive Stps (w h g : Nat) : Sta → T → Sta → Prop
  | nil (s : Sta) : Stps w h g s [] s
  | cons {s s1 s' : Sta} {c : Nat} {r : T} : Stp w h g s c s1 → Stps w h g s1 r s' → Stps w h g s (c :: r) s'
theorem Stps.head {w h g : Nat} {s s' : Sta} {c : Nat} {r : T} (k : Stps w h g s (c :: r) s') : ∃ s1, Stp w h g s c s1 ∧ Stps w h g s1 r s' := by
  cases k with
  | cons a b => exact ⟨_, a, b⟩
theorem Stps.none {w h g : Nat} {s s' : Sta} (k : Stps w h g s [] s') : s' = s := by
  cases k with
  | nil => rfl
theorem ink_stps {w h g : Nat} (h1 : g ≠ 47) (h2 : g ≠ 94) {rows : Pg} (hr : rows.length < h) : ∀ (k line : T), line.length + k.length ≤ w → Stps w h g ⟨rows, line⟩ k ⟨rows, line ++ k⟩
  | [], line, _ => by
    rw [List.append_nil]
    exact .nil _
  | c :: r, line, hl => by
    rw [List.length_cons] at hl
    have z := ink_stps (w := w) (h := h) h1 h2 hr r (line ++ [c]) (by rw [List.length_append]; simp; omega)
    rw [List.append_assoc] at z
    have hw : line.length < w := by omega
    exact .cons (s1 := ⟨rows, line ++ [c]⟩) ⟨hr, .inr (.inr ⟨h1, h2, hw, rfl⟩)⟩ z
theorem down_stps {w h : Nat} (c : Nat) : ∀ (n : Nat) (s : Sta), s.rows.length + (n + 1) ≤ h → Stps w h 47 s (List.replicate (n + 1) c) ⟨downBy w s (n + 1), []⟩
  | 0, s, hl => .cons ⟨by omega, .inl ⟨rfl, rfl⟩⟩ (.nil _)
  | n + 1, s, hl => by
    have z := down_stps (w := w) (h := h) c n ⟨downBy w s 1, []⟩ (by show (downBy w s 1).length + (n + 1) ≤ h; rw [down_len w s (Nat.le_refl 1)]; omega)
    have e : downBy w ⟨downBy w s 1, []⟩ (n + 1) = downBy w s (n + 2) := by
      unfold downBy
      simp [List.replicate_succ]
    rw [e] at z
    exact .cons ⟨by omega, .inl ⟨rfl, rfl⟩⟩ z
theorem copy_stps {w h : Nat} (c : Nat) : ∀ (n : Nat) (rows : Pg), rows ≠ [] → rows.length + n ≤ h → Stps w h 94 ⟨rows, []⟩ (List.replicate n c) ⟨rows ++ List.replicate n (lastRow rows), []⟩
  | 0, rows, _, _ => by
    rw [List.replicate_zero, List.replicate_zero, List.append_nil]
    exact .nil _
  | n + 1, rows, h1, hl => by
    have z := copy_stps (w := w) (h := h) c n (rows ++ [lastRow rows]) (by simp) (by rw [List.length_append]; simp; omega)
    have e : lastRow (rows ++ [lastRow rows]) = lastRow rows := by
      show (rows ++ [lastRow rows]).getLastD [] = _
      simp
    rw [e, List.append_assoc] at z
    rw [List.replicate_succ, List.replicate_succ]
    exact .cons ⟨by show rows.length < h; omega, .inr (.inl ⟨rfl, h1, rfl, rfl⟩)⟩ z
def cellsOf (n g : Nat) (cells : T) : T := if g = 62 then bl n else if g = 34 then cells else List.replicate n 35
theorem after_stps {w h : Nat} {s s' : Sta} {n g : Nat} {cells : T} (hn : 1 ≤ n) (hg : g = 62 ∨ g = 35 ∨ g = 47 ∨ g = 94 ∨ g = 34) (ha : after w h s n g cells = some s') : Stps w h g s (cellsOf n g cells) s' := by
  unfold after at ha
  split at ha
  · rename_i e
    subst e
    split at ha
    · cases ha
    · cases ha
      obtain ⟨m, rfl⟩ : ∃ m, n = m + 1 := ⟨n - 1, by omega⟩
      exact down_stps 35 m s (by omega)
  · rename_i e1
    split at ha
    · rename_i e2
      subst e2
      split at ha
      · cases ha
      · rename_i e3
        cases ha
        obtain ⟨rows, line⟩ := s
        have e4 : line = [] := Classical.byContradiction fun z => e3 (.inl z)
        have e5 : rows ≠ [] := fun z => e3 (.inr (.inl z))
        have e6 : ¬ n > h - rows.length := fun z => e3 (.inr (.inr z))
        subst e4
        have : rows.length ≠ 0 := fun z => e5 (List.length_eq_zero_iff.mp z)
        exact copy_stps 35 n rows e5 (by omega)
    · rename_i e2
      have ec : cellsOf n g cells = inkOf n g cells := by
        unfold cellsOf inkOf
        rcases hg with rfl | rfl | rfl | rfl | rfl
        · rfl
        · rfl
        · exact absurd rfl e1
        · exact absurd rfl e2
        · rfl
      rw [ec]
      generalize inkOf n g cells = k at ha ⊢
      split at ha
      · cases ha
      · rename_i e3
        cases ha
        obtain ⟨rows, line⟩ := s
        have e4 : ¬ (h - rows.length = 0) := fun z => e3 (.inl z)
        have e5 : ¬ (line.length + k.length > w) := fun z => e3 (.inr z)
        exact ink_stps e1 e2 (by omega) k line (by omega)
theorem end_open {w h : Nat} {s : Sta} (hr : s.rows.length < h) : endPg w h s = s.rows ++ ((s.line ++ bl (w - s.line.length)) :: List.replicate (h - s.rows.length - 1) (bl w)) := by
  unfold endPg
  rw [if_neg (by omega)]
  unfold downBy
  rw [List.append_assoc]
  rfl
theorem end_full {w h : Nat} {s : Sta} (hr : s.rows.length = h) : endPg w h s = s.rows := by
  unfold endPg
  rw [if_pos (by omega)]
theorem end_len {w h : Nat} {s : Sta} (hr : s.rows.length ≤ h) : (endPg w h s).length = h := by
  by_cases e : s.rows.length = h
  · rw [end_full e, e]
  · rw [end_open (by omega)]
    simp
    omega
theorem end_zero (w h : Nat) : endPg w h sta0 = List.replicate h (bl w) := by
  by_cases e : h = 0
  · subst e
    rfl
  · rw [end_open (show sta0.rows.length < h by show 0 < h; omega)]
    obtain ⟨m, rfl⟩ : ∃ m, h = m + 1 := ⟨h - 1, by omega⟩
    simp [sta0, List.replicate_succ]
theorem end_row {w h : Nat} {s : Sta} (hr : s.rows.length < h) : (endPg w h s)[s.rows.length]? = some (s.line ++ bl (w - s.line.length)) := by
  rw [end_open hr, List.getElem?_append_right (Nat.le_refl _), Nat.sub_self]
  rfl
theorem end_down {w h : Nat} {s : Sta} (hr : s.rows.length < h) : endPg w h ⟨downBy w s 1, []⟩ = endPg w h s := by
  have hl : (downBy w s 1).length = s.rows.length + 1 := down_len w s (Nat.le_refl 1)
  have hd : downBy w s 1 = s.rows ++ [s.line ++ bl (w - s.line.length)] := by
    unfold downBy
    simp
  by_cases e : s.rows.length + 1 = h
  · rw [end_full (by show (downBy w s 1).length = h; omega), end_open hr, hd]
    have : h - s.rows.length - 1 = 0 := by omega
    rw [this]
    rfl
  · rw [end_open (show (downBy w s 1).length < h by omega), end_open hr]
    show downBy w s 1 ++ (([] ++ bl (w - 0)) :: List.replicate (h - (downBy w s 1).length - 1) (bl w)) = _
    rw [hl, hd, List.append_assoc]
    obtain ⟨m, hm⟩ : ∃ m, h - s.rows.length - 1 = m + 1 := ⟨h - s.rows.length - 2, by omega⟩
    have hm2 : h - (s.rows.length + 1) - 1 = m := by omega
    rw [hm, hm2, List.replicate_succ]
    rfl
theorem set_mid {a b : Pg} {x y : T} : (a ++ x :: b).set a.length y = a ++ y :: b := by
  rw [List.set_append_right _ _ (Nat.le_refl _), Nat.sub_self]
  rfl
theorem end_copy {w h : Nat} {rows : Pg} {t : T} (hr : rows.length < h) : endPg w h ⟨rows ++ [t], []⟩ = (endPg w h ⟨rows, []⟩).set rows.length t := by
  rw [end_open (s := ⟨rows, []⟩) hr]
  show _ = (rows ++ (([] ++ bl (w - 0)) :: List.replicate (h - rows.length - 1) (bl w))).set rows.length t
  rw [set_mid]
  have hl : (rows ++ [t]).length = rows.length + 1 := by simp
  by_cases e : rows.length + 1 = h
  · rw [end_full (by show (rows ++ [t]).length = h; omega)]
    have : h - rows.length - 1 = 0 := by omega
    rw [this]
    rfl
  · rw [end_open (show (rows ++ [t]).length < h by omega)]
    show (rows ++ [t]) ++ (([] ++ bl (w - 0)) :: List.replicate (h - (rows ++ [t]).length - 1) (bl w)) = _
    rw [hl, List.append_assoc]
    obtain ⟨m, hm⟩ : ∃ m, h - rows.length - 1 = m + 1 := ⟨h - rows.length - 2, by omega⟩
    have hm2 : h - (rows.length + 1) - 1 = m := by omega
    rw [hm, hm2, List.replicate_succ]
    rfl
theorem end_ink {w h : Nat} {rows : Pg} {line : T} {c : Nat} (hr : rows.length < h) (hw : line.length < w) : endPg w h ⟨rows, line ++ [c]⟩ = (endPg w h ⟨rows, line⟩).set rows.length ((line ++ bl (w - line.length)).set line.length c) := by
  rw [end_open (s := ⟨rows, line⟩) hr, end_open (s := ⟨rows, line ++ [c]⟩) hr]
  show rows ++ _ = (rows ++ _).set rows.length _
  rw [set_mid]
  have hl : (line ++ [c]).length = line.length + 1 := by simp
  show rows ++ (((line ++ [c]) ++ bl (w - (line ++ [c]).length)) :: _) = rows ++ ((line ++ bl (w - line.length)).set line.length c :: _)
  rw [hl]
  obtain ⟨m, hm⟩ : ∃ m, w - line.length = m + 1 := ⟨w - line.length - 1, by omega⟩
  have hm2 : w - (line.length + 1) = m := by omega
  rw [hm, hm2]
  have : (line ++ bl (m + 1)).set line.length c = (line ++ [c]) ++ bl m := by
    unfold bl
    rw [List.replicate_succ, List.set_append_right _ _ (Nat.le_refl _), Nat.sub_self, List.append_assoc]
    rfl
  rw [this]
theorem end_last {w h : Nat} {rows : Pg} {line : T} (hr : rows.length < h) (hn : rows ≠ []) : (endPg w h ⟨rows, line⟩)[rows.length - 1]? = some (lastRow rows) := by
  rw [end_open (s := ⟨rows, line⟩) hr]
  have hp : 0 < rows.length := by
    rcases Nat.eq_zero_or_pos rows.length with z | z
    · exact absurd (List.length_eq_zero_iff.mp z) hn
    · exact z
  show (rows ++ _)[rows.length - 1]? = _
  rw [List.getElem?_append_left (by omega)]
  unfold lastRow
  rw [List.getLastD_eq_getLast?, List.getLast?_eq_getElem?]
  rw [List.getElem?_eq_getElem (by omega)]
  rfl
theorem Stp.fit {w h g c : Nat} {s s' : Sta} (f : Fit w h s) (k : Stp w h g s c s') : Fit w h s' := by
  obtain ⟨f1, f2, f3⟩ := f
  obtain ⟨hr, ⟨_, rfl⟩ | ⟨_, h1, h2, rfl⟩ | ⟨_, _, hw, rfl⟩⟩ := k
  · refine ⟨Nat.zero_le _, ?_, fun _ => rfl⟩
    show (downBy w s 1).length ≤ h
    rw [down_len w s (Nat.le_refl 1)]
    exact hr
  · refine ⟨Nat.zero_le _, ?_, fun _ => rfl⟩
    show (s.rows ++ _).length ≤ h
    simp
    exact hr
  · refine ⟨?_, f2, fun e => ?_⟩
    · show (s.line ++ _).length ≤ w
      simp
      exact hw
    · exact absurd e (Nat.ne_of_lt hr)
end Kw
set_option Elab.async false
set_option linter.all false
set_option maxRecDepth 100000
set_option maxHeartbeats 4000000
/-! rules over texts as lists of codes -/
namespace Kl
open PySem PySem.Spec PyProof.Rows L2 Kw
def S (t : T) : Str := ⟨t.toArray⟩
abbrev tx (t : T) : V := .str (S t)
theorem S_len (t : T) : (S t).length = t.length := by
  show t.toArray.size = _
  simp
theorem S_list (t : T) : (S t).cps.toList = t := rfl
theorem S_app (a b : T) : S a ++ S b = S (a ++ b) := by
  show (⟨a.toArray ++ b.toArray⟩ : Str) = ⟨(a ++ b).toArray⟩
  rw [List.append_toArray]
theorem S_inj {a b : T} (h : S a = S b) : a = b := by
  have q := congrArg (fun z : Str => z.cps.toList) h
  exact q
theorem tx_inj {a b : T} (h : tx a = tx b) : a = b := S_inj (V.str.inj h)
theorem dec_tx (a b : T) : decide (tx a = tx b) = decide (a = b) := by
  by_cases h : a = b
  · subst h
    simp
  · rw [decide_eq_false h, decide_eq_false fun z => h (tx_inj z)]
theorem S_one (c : Nat) : (⟨#[c]⟩ : Str) = S [c] := rfl
theorem big (n : Nat) (h : n ≤ 10000000) : n ≤ sizeLine := by
  rw [sizeLine_eq]
  omega
theorem S_big {t : T} (h : t.length ≤ 10000000) : (S t).length ≤ sizeLine := by
  rw [S_len]
  exact big _ h
section
variable {X : Cx}
theorem opMono {f : Value → Value → Sem Value} {r r' : R2} (h : OpR X f r) (w : ∀ x y H Q, r' x y H Q → r x y H Q) : OpR X f r' :=
  fun pins s σ H x y v u Q I rx ry q => h pins s σ H x y v u Q I rx ry (w x y H Q q)
theorem callMono {f : Value} {r r' : List V → Hp → VK → Prop} (h : CallR X f r) (w : ∀ xs H Q, r' xs H Q → r xs H Q) : CallR X f r' :=
  fun pins s σ H xs us Q I rs q => h pins s σ H xs us Q I rs (w xs H Q q)
theorem mtMono {id : String} {r r' : V → List V → Hp → VK → Prop} (h : MtR X id r) (w : ∀ x xs H Q, r' x xs H Q → r x xs H Q) : MtR X id r' :=
  fun pins s σ H x xs v us Q I rx rs q => h pins s σ H x xs v us Q I rx rs (w x xs H Q q)
/-! ### + and * -/
def rAddT : R2 := fun x y H Q => ∃ a b : T, x = tx a ∧ y = tx b ∧ a.length + b.length ≤ 10000000 ∧ Q (tx (a ++ b)) H
theorem o_addT : OpR X (binaryOp .Add) rAddT := opMono op_add_str fun x y H Q ⟨a, b, e1, e2, hz, q⟩ => ⟨S a, S b, e1, e2, by rw [S_len, S_len]; exact big _ hz, by rw [S_app]; exact q⟩
theorem fold_rep (c : Nat) : ∀ (n : Nat) (acc : Array Nat), (List.replicate n #[c]).foldl (· ++ ·) acc = acc ++ (List.replicate n c).toArray
  | 0, acc => by simp
  | n + 1, acc => by
    rw [List.replicate_succ, List.foldl_cons, fold_rep c n, List.replicate_succ]
    apply Array.ext'
    simp
theorem mul_one_sign (c : Nat) (n : Int) : Txt.mul (S [c]) n = S (List.replicate n.toNat c) := by
  unfold Txt.mul
  by_cases h1 : n < 1
  · rw [if_pos h1]
    have e : n.toNat = 0 := by omega
    rw [e]
    rfl
  · rw [if_neg h1]
    by_cases h2 : n = 1
    · subst h2
      rfl
    · have e : (n == 1 || (S [c]).length == 0) = false := by
        rw [S_len]
        simp [h2]
      rw [e]
      show (⟨(List.replicate n.toNat #[c]).foldl (· ++ ·) #[]⟩ : Str) = _
      rw [fold_rep]
      unfold S
      simp
def rMulT : R2 := fun x y H Q => ∃ (c : Nat) (n : Int), x = tx [c] ∧ y = .int n ∧ -100000 ≤ n ∧ n ≤ 100000 ∧ Q (tx (List.replicate n.toNat c)) H
theorem o_mulT : OpR X (binaryOp .Mult) rMulT := by
  intro pins s σ H x y v u Q I rx ry h
  obtain ⟨c, n, rfl, rfl, h1, h2, q⟩ := h
  obtain ⟨t, rfl⟩ := rx
  obtain ⟨t', rfl⟩ := ry
  refine SB.mul (n := n) ⟨?_, fun a b => ?_, fun a b => ?_⟩ fun t' k => ⟨tx (List.replicate n.toNat c), H, I.tok _, ⟨_, by rw [mul_one_sign]⟩, q⟩
  · rw [decide_eq_false (by omega), decide_eq_false (by omega)]
    rfl
  · have e : (S [c]).length = 1 := S_len _
    rw [e]
    have h3 : (1 : Int) ≤ (2 ^ 63 - 1) / n := (Int.le_ediv_iff_mul_le (by omega)).mpr (by omega)
    omega
  · have e : (S [c]).length = 1 := S_len _
    unfold Builtin.Str.tooLong
    rw [e, sizeLine_eq]
    exact decide_eq_false (by omega)
/-! ### lengths, places, slices -/
def rLenT : List V → Hp → VK → Prop := fun xs H Q => ∃ t : T, xs = [tx t] ∧ t.length ≤ 10000000 ∧ Q (.int t.length) H
theorem c_lenT : CallR X (.builtin "len") rLenT := callMono call_len_str fun xs H Q ⟨t, e, hz, q⟩ => ⟨S t, e, S_big hz, by rw [S_len]; exact q⟩
def rIxT1 : R2 := fun x y H Q => ∃ (t : T) (i : Int) (c : Nat), x = tx t ∧ y = .int i ∧ t.length ≤ 10000000 ∧ atI t i = some c ∧ Q (tx [c]) H
theorem ix_txt : IxR X rIxT1 := fun value slice pins s σ H x y v u Q I rx ry h hs => by
  obtain ⟨t, i, c, e1, e2, hz, hc, q⟩ := h
  exact ix_str value slice pins s σ H x y v u Q I rx ry ⟨S t, i, c, e1, e2, S_big hz, hc, q⟩ hs
theorem cut_both (t : T) {i j : Nat} (h1 : i ≤ j) (h2 : j ≤ t.length) : cutS (S t) (some (i : Int)) (some (j : Int)) = S ((t.drop i).take (j - i)) := by
  unfold cutS
  rw [S_len, HT.sIx_nat, HT.sIx_nat, Nat.min_eq_left h2, Nat.min_eq_left (show i ≤ t.length by omega), S_list]
  rfl
theorem cut_from (t : T) {i : Nat} (h1 : i ≤ t.length) : cutS (S t) (some (i : Int)) none = S (t.drop i) := by
  unfold cutS
  rw [S_len, HT.sIx_nat, HT.sIx_none, Nat.min_eq_left h1, S_list]
  show S _ = _
  rw [List.take_of_length_le (by rw [List.length_drop]; exact Nat.le_refl _)]
theorem cut_to (t : T) {j : Nat} (h1 : j ≤ t.length) : cutS (S t) none (some (j : Int)) = S (t.take j) := by
  unfold cutS
  rw [S_len, HT.sIx_nat, HT.sIx_none, Nat.min_eq_left h1, S_list, Nat.sub_zero]
  rfl
/-- z[i:j], 0 <= i <= j <= len | z[i:] | z[:j] -/
def rSlT : V → Option Int → Option Int → Hp → VK → Prop := fun x lo hi H Q => ∃ t : T, x = tx t ∧ t.length ≤ 10000000 ∧
  ((∃ i j : Nat, lo = some (i : Int) ∧ hi = some (j : Int) ∧ i ≤ j ∧ j ≤ t.length ∧ Q (tx ((t.drop i).take (j - i))) H) ∨ (∃ i : Nat, lo = some (i : Int) ∧ hi = none ∧ i ≤ t.length ∧ Q (tx (t.drop i)) H) ∨
    (∃ j : Nat, lo = none ∧ hi = some (j : Int) ∧ j ≤ t.length ∧ Q (tx (t.take j)) H))
theorem sl_txt : SlR X rSlT := by
  intro pins s σ H x v vl vu lo hi sl Q I rx hs pl pu h
  obtain ⟨t, rfl, hz, h⟩ := h
  refine sl_str pins s σ H (tx t) v vl vu lo hi sl Q I rx hs pl pu ⟨S t, rfl, S_big hz, ?_⟩
  rcases h with ⟨i, j, rfl, rfl, h1, h2, q⟩ | ⟨i, rfl, rfl, h1, q⟩ | ⟨j, rfl, rfl, h1, q⟩
  · rw [cut_both t h1 h2]
    exact q
  · rw [cut_from t h1]
    exact q
  · rw [cut_to t h1]
    exact q
/-! ### == of texts -/
def rEqT : R2 := fun x y H Q => ∃ a b : T, x = tx a ∧ y = tx b ∧ Q (.bl (decide (a = b))) H
theorem o_eqT : OpR X (compareOp .Eq) rEqT := opMono op_eq fun x y H Q ⟨a, b, e1, e2, q⟩ => by
  subst e1
  subst e2
  exact ⟨rfl, by rw [dec_tx]; exact q⟩
def rNeT : R2 := fun x y H Q => ∃ a b : T, x = tx a ∧ y = tx b ∧ Q (.bl (!decide (a = b))) H
theorem o_neT : OpR X (compareOp .NotEq) rNeT := opMono op_ne fun x y H Q ⟨a, b, e1, e2, q⟩ => by
  subst e1
  subst e2
  exact ⟨rfl, by rw [dec_tx]; exact q⟩
/-! ### one sign in a written text -/
def rInT (z : T) : R2 := fun x y H Q => ∃ c : Nat, x = tx [c] ∧ y = tx z ∧ Q (.bl (decide (c ∈ z))) H
theorem o_inT (z : T) : OpR X (compareOp .In) (rInT z) := opMono op_in_sign fun x y H Q ⟨c, e1, e2, q⟩ => ⟨c, S z, e1, e2, q⟩
def rNotInT (z : T) : R2 := fun x y H Q => ∃ c : Nat, x = tx [c] ∧ y = tx z ∧ Q (.bl (!decide (c ∈ z))) H
theorem o_notInT (z : T) : OpR X (compareOp .NotIn) (rNotInT z) := opMono op_notIn_sign fun x y H Q ⟨c, e1, e2, q⟩ => ⟨c, S z, e1, e2, q⟩
/-! ### strip, lstrip -/
theorem sub_S (t : T) (i j : Nat) : Builtin.Str.strSub (S t) i j = S ((t.drop i).take (j - i)) := by
  show (⟨t.toArray.extract i j⟩ : Str) = ⟨((t.drop i).take (j - i)).toArray⟩
  congr 1
  rw [List.extract_toArray, List.extract_eq_take_drop]
theorem lstrip_S (t : T) (c : Nat) : Txt.lstripChars (S t) (S [c]) = S (t.drop (t.takeWhile (· == c)).length) := by
  have eg : (S [c]).cps.contains = fun x => x == c := by
    funext x
    show #[c].contains x = _
    by_cases h : x = c <;> simp [h]
  unfold Txt.lstripChars Txt.stripBy
  rw [eg]
  have e1 : stripLo (fun x => x == c) true (S t) = (t.takeWhile (· == c)).length := rfl
  have e2 : ∀ k, stripHi (fun x => x == c) false (S t) k = t.length := fun k => S_len t
  unfold stripSame stripped
  rw [e1, e2, sub_S, S_len]
  split
  · rename_i h
    have h0 : (t.takeWhile (· == c)).length = 0 := by simpa using h
    rw [h0]
    rfl
  · rw [List.take_of_length_le (by rw [List.length_drop]; exact Nat.le_refl _)]
theorem tw_none {c : Nat} : ∀ {t : T}, (∃ x ∈ t, x ≠ c) → (t.takeWhile (· == c)).length < t.length
  | [], ⟨x, h, _⟩ => by simp at h
  | y :: t, ⟨x, h, hn⟩ => by
    by_cases hy : y = c
    · have hp : (y == c) = true := by simpa using hy
      rw [List.takeWhile_cons_of_pos (p := (· == c)) hp, List.length_cons, List.length_cons]
      rcases List.mem_cons.mp h with e | h
      · exact absurd (e.trans hy) hn
      · have := tw_none ⟨x, h, hn⟩
        omega
    · rw [List.takeWhile_cons_of_neg (p := (· == c)) (by simpa using hy)]
      simp
theorem tw_all {c : Nat} {t : T} (h : ∀ x ∈ t, x = c) : t.takeWhile (· == c) = t := by
  induction t with
  | nil => rfl
  | cons y t ih =>
    have hp : (y == c) = true := by simpa using h y (by simp)
    rw [List.takeWhile_cons_of_pos (p := (· == c)) hp, ih fun x hx => h x (by simp [hx])]
theorem strip_S (t : T) : ∃ u : T, Txt.stripChars (S t) (S [32]) = S u ∧ u.length ≤ t.length ∧ (u = [] ↔ isBl t) := by
  have eg : (S [32]).cps.contains = fun x => x == 32 := by
    funext x
    show #[32].contains x = _
    by_cases h : x = 32 <;> simp [h]
  unfold Txt.stripChars Txt.stripBy
  rw [eg]
  have e1 : stripLo (fun x => x == 32) true (S t) = (t.takeWhile (· == 32)).length := rfl
  have e2 : ∀ k, stripHi (fun x => x == 32) true (S t) k = t.length - ((t.drop k).reverse.takeWhile (· == 32)).length := fun k => by
    show (S t).length - _ = _
    rw [S_len]
    rfl
  unfold stripSame stripped
  rw [e1, e2, sub_S, S_len]
  split
  · rename_i h
    rw [Bool.and_eq_true, beq_iff_eq, beq_iff_eq] at h
    refine ⟨t, rfl, Nat.le_refl _, ?_⟩
    constructor
    · intro e
      rw [e]
      intro x hx
      simp at hx
    · intro hb
      have q := h.1
      rw [tw_all hb] at q
      exact List.length_eq_zero_iff.mp q
  · refine ⟨_, rfl, by rw [List.length_take, List.length_drop]; omega, ?_⟩
    generalize hk : (t.takeWhile (· == 32)).length = k
    constructor
    · intro e
      have e0 := congrArg List.length e
      rw [List.length_take, List.length_drop, List.length_nil] at e0
      by_cases hb : isBl t
      · exact hb
      · exfalso
        have hx : ∃ x ∈ t, x ≠ 32 := Classical.byContradiction fun hn => hb fun x hx => Classical.byContradiction fun hx2 => hn ⟨x, hx, hx2⟩
        have hlt := tw_none hx
        rw [hk] at hlt
        have hd : ∃ x ∈ t.drop k, x ≠ 32 := by
          cases hc : t.drop k with
          | nil =>
            have := List.drop_eq_nil_iff.mp hc
            omega
          | cons y r =>
            rw [← hk] at hc
            have q := tw_next (· == 32) hc
            exact ⟨y, by simp, by simpa using q⟩
        obtain ⟨x, hx1, hx2⟩ := hd
        have h2 := tw_none (c := 32) (t := (t.drop k).reverse) ⟨x, List.mem_reverse.mpr hx1, hx2⟩
        rw [List.length_reverse, List.length_drop] at h2
        omega
    · intro hb
      have hk2 : k = t.length := by
        rw [← hk, tw_all hb]
      rw [hk2, List.drop_length]
      simp
def rStripT : V → List V → Hp → VK → Prop := fun x xs H Q => ∃ t : T, x = tx t ∧ xs = [tx [32]] ∧ t.length ≤ 10000000 ∧ ∀ u : T, u.length ≤ t.length → (u = [] ↔ isBl t) → Q (tx u) H
theorem m_stripT : MtR X "str.strip" rStripT := mtMono mt_stripChars fun x xs H Q ⟨t, e1, e2, hz, q⟩ => by
  obtain ⟨u, h1, h2, h3⟩ := strip_S t
  exact ⟨S t, S [32], e1, e2, S_big hz, by rw [h1]; exact q u h2 h3⟩
def rLstripT : V → List V → Hp → VK → Prop := fun x xs H Q => ∃ (t : T) (c : Nat), x = tx t ∧ xs = [tx [c]] ∧ t.length ≤ 10000000 ∧ Q (tx (t.drop (t.takeWhile (· == c)).length)) H
theorem m_lstripT : MtR X "str.lstrip" rLstripT := mtMono mt_lstripChars fun x xs H Q ⟨t, c, e1, e2, hz, q⟩ => ⟨S t, S [c], e1, e2, S_big hz, by rw [lstrip_S]; exact q⟩
/-! ### find of one sign from a place -/
theorem find_S (t : T) (c i : Nat) (hi : i ≤ t.length) : Txt.find3 (S t) (S [c]) (i : Int) = if ((t.drop i).takeWhile (· != c)).length < (t.drop i).length then ((i + ((t.drop i).takeWhile (· != c)).length : Nat) : Int) else -1 := by
  have fi : fromIndex (S t).length (i : Int) = i := by
    unfold fromIndex
    rw [if_neg (by omega)]
    omega
  have hq : ∀ v, (hv : v < t.length) → (S t).cps.getD v 0 = t[v] := fun v hv => by
    show t.toArray.getD v 0 = _
    simp [Array.getD, hv]
  generalize hk : ((t.drop i).takeWhile (· != c)).length = k
  have hdl : (t.drop i).length = t.length - i := List.length_drop
  have hin : ∀ v, v < k → ∀ (hv : i + v < t.length), t[i + v] ≠ c := fun v hvk hv => by
    have h1 : v < ((t.drop i).takeWhile (· != c)).length := by omega
    have h2 := List.takeWhile_append_dropWhile (p := (· != c)) (l := t.drop i)
    have h3 : ((t.drop i).takeWhile (· != c))[v] ∈ (t.drop i).takeWhile (· != c) := List.getElem_mem h1
    have h4 := tw_mem h3
    have h5 : (t.drop i)[v]? = some ((t.drop i).takeWhile (· != c))[v] := by
      conv => lhs; rw [← h2]
      rw [List.getElem?_append_left h1, List.getElem?_eq_getElem h1]
    rw [List.getElem?_drop, List.getElem?_eq_getElem hv] at h5
    rw [Option.some.inj h5]
    simpa using h4
  have hat : k < (t.drop i).length → ∀ (hv : i + k < t.length), t[i + k] = c := fun hlt hv => by
    cases hc : (t.drop i).drop k with
    | nil =>
      have := List.drop_eq_nil_iff.mp hc
      omega
    | cons y r =>
      rw [← hk] at hc
      have q := tw_next (· != c) hc
      have h5 : (t.drop i)[k]? = some y := by
        rw [hk] at hc
        have z : ((t.drop i).drop k)[0]? = some y := by rw [hc]; rfl
        rw [List.getElem?_drop] at z
        exact z
      rw [List.getElem?_drop, List.getElem?_eq_getElem hv] at h5
      rw [Option.some.inj h5]
      simpa using q
  rcases StrLaws.find3_spec (S t) c (i : Int) with ⟨h1, h2⟩ | ⟨m, h1, h2, h3, h4, h5⟩
  · rw [fi] at h2
    show Txt.find3 (S t) ⟨#[c]⟩ (i : Int) = _
    rw [h1]
    by_cases hlt : k < (t.drop i).length
    · exfalso
      have hv : i + k < t.length := by omega
      have a := h2 (i + k) (by omega) (by rw [S_len]; exact hv)
      rw [hq _ hv] at a
      exact a (hat hlt hv)
    · rw [if_neg hlt]
  · rw [fi] at h2 h5
    rw [S_len] at h3
    rw [hq m h3] at h4
    show Txt.find3 (S t) ⟨#[c]⟩ (i : Int) = _
    rw [h1]
    have hmk : ¬ m - i < k := fun z => hin (m - i) z (by omega) (by simp only [show i + (m - i) = m by omega]; exact h4)
    have hlt : k < (t.drop i).length := by omega
    rw [if_pos hlt]
    by_cases e : i + k = m
    · rw [e]
    · exfalso
      have hv : i + k < t.length := by omega
      have a := h5 (i + k) (by omega) (by omega)
      rw [hq _ hv] at a
      exact a (hat hlt hv)
def rFindT : V → List V → Hp → VK → Prop := fun x xs H Q => ∃ (t : T) (c i : Nat), x = tx t ∧ xs = [tx [c], .int (i : Int)] ∧ i ≤ t.length ∧
  Q (.int (if ((t.drop i).takeWhile (· != c)).length < (t.drop i).length then ((i + ((t.drop i).takeWhile (· != c)).length : Nat) : Int) else -1)) H
theorem m_findT : MtR X "str.find" rFindT := mtMono mt_find3 fun x xs H Q ⟨t, c, i, e1, e2, hi, q⟩ => ⟨S t, S [c], (i : Int), e1, e2, by rw [find_S t c i hi]; exact q⟩
/-! ### join with nothing between -/
theorem glue_S : ∀ (r : List T) (acc : Array Nat), (r.map S).foldl (fun acc p => acc ++ Str.empty.cps ++ p.cps) acc = acc ++ r.flatten.toArray
  | [], acc => by simp
  | a :: r, acc => by
    rw [List.map_cons, List.foldl_cons, glue_S r]
    apply Array.ext'
    simp [Str.empty, S]
theorem join_S (ts : List T) : Txt.join Str.empty (ts.map S) = S ts.flatten := by
  unfold Txt.join Builtin.Str.glued
  cases ts with
  | nil => rfl
  | cons a r =>
    show (⟨(r.map S).foldl (fun acc p => acc ++ Str.empty.cps ++ p.cps) (S a).cps⟩ : Str) = _
    rw [glue_S]
    unfold S
    simp
def rJoinT (K : PySem.W.Frag) : V → List V → Hp → VK → Prop := fun x xs H Q => ∃ (p : Addr) (ts : List T), x = tx [] ∧ xs = [.ref p] ∧ (SqL K H p (ts.map tx) ∨ SqT K H p (ts.map tx)) ∧ ts.flatten.length ≤ 10000000 ∧ Q (tx ts.flatten) H
theorem sum_lens : ∀ ts : List T, ((ts.map S).map (·.length)).sum = ts.flatten.length
  | [] => rfl
  | a :: ts => by
    rw [List.map_cons, List.map_cons, List.sum_cons, sum_lens ts, S_len, List.flatten_cons, List.length_append]
theorem m_joinT : MtR X "str.join" (rJoinT X.K) := mtMono mt_join fun x xs H Q ⟨p, ts, e1, e2, hp, hz, q⟩ => by
  refine ⟨S [], p, ts.map S, e1, e2, by rw [List.map_map]; exact hp, ?_, ?_⟩
  · rw [sum_lens, S_len]
    show ts.flatten.length + _ * 0 ≤ _
    omega
  · rw [show S [] = Str.empty from rfl, join_S]
    exact q
end
end Kl
set_option Elab.async false
set_option linter.all false
set_option maxRecDepth 100000
set_option maxHeartbeats 4000000
namespace Kl
open PySem PySem.Spec PyProof.Rows L2 Kw
/-! ### t * 0, t * 1 -/
theorem tmul_one (l : Addr) (items : Array Value) (n : Nat) (dd : Option Addr) (sl : Array (Option Value)) (u : Tok) :
    Meets (Builtin.«tuple.__mul__» ⟨[.ref l, .int 1 u], []⟩) (fun _ R s => s.heap.get? l = some { cls := .type "tuple", dict := dd, data := .seq items n, slots := sl } ∧ R (.ok (.ret (Value.ref l))) s) :=
  .of_wp fun prog w A R s h => by
    obtain ⟨hp, g, d, tk, os⟩ := s
    obtain ⟨hl, h⟩ := h
    have f1 := AutoSeq1.idx_int
    have c0 : (decide ((1 : Int) < -(2 ^ 63)) || decide ((1 : Int) ≥ 2 ^ 63)) = false := by decide
    have c1 : (items.isEmpty || (1 : Int) == 1) = true := by simp
    wp_walk using wpAny_loadPart' hl
    repeat (first
      | (refine wpAny_ite_false (decide_eq_false (by rw [c0]; exact Bool.false_ne_true)) ?_; wp_walk using wpAny_loadPart' hl)
      | (refine wpAny_ite_true (decide_eq_true c1) ?_; wp_walk using wpAny_loadPart' hl))
    exact ⟨_, rfl, h⟩
theorem tmul_zero (l : Addr) (items : Array Value) (n : Nat) (dd : Option Addr) (sl : Array (Option Value)) (u : Tok) (c1 : items.isEmpty = false) :
    Meets (Builtin.«tuple.__mul__» ⟨[.ref l, .int 0 u], []⟩) (fun _ R s => s.heap.get? l = some { cls := .type "tuple", dict := dd, data := .seq items n, slots := sl } ∧
      R (.ok (.ret (Value.ref s.heap.objs.size))) { s with heap := s.heap.push { cls := Value.type "tuple", data := Data.seq #[] } }) :=
  .of_wp fun prog w A R s h => by
    obtain ⟨hp, g, d, tk, os⟩ := s
    obtain ⟨hl, h⟩ := h
    have f1 := AutoSeq1.idx_int
    have c0 : (decide ((0 : Int) < -(2 ^ 63)) || decide ((0 : Int) ≥ 2 ^ 63)) = false := by decide
    have c2 : (items.isEmpty || (0 : Int) == 1) = false := by rw [c1]; rfl
    have c3 : (decide ((0 : Int) ≤ 0) || items.isEmpty) = true := by simp
    wp_walk using wpAny_loadPart' hl
    repeat (first
      | (refine wpAny_ite_false (decide_eq_false (by rw [c0]; exact Bool.false_ne_true)) ?_; wp_walk using wpAny_loadPart' hl)
      | (refine wpAny_ite_false (decide_eq_false (by rw [c2]; exact Bool.false_ne_true)) ?_; wp_walk using wpAny_loadPart' hl)
      | (refine wpAny_ite_true (decide_eq_true c3) ?_; wp_walk using wpAny_loadPart' hl))
    exact ⟨_, rfl, h⟩
theorem same_new {H : Hp} {p : Addr} {o : HO} (h : H p = none) : Same H (upd H p o) := fun b x e => by
  rw [upd_ne (ne_of_none e h)]
  exact e
section
variable {X : Cx}
/-- (v,) * k -/
def rRep1 : R2 := fun x y H Q => ∃ (l : Addr) (k : Nat) (v : V), x = .ref l ∧ y = .int (k : Int) ∧ H l = some (.tup [v]) ∧ k ≤ 1000 ∧ ∀ H' p, Same H H' → H' p = some (.tup (List.replicate k v)) → Q (.ref p) H'
theorem flat_rep (v : V) (k : Nat) : (List.replicate k [v]).flatten = List.replicate k v := by
  induction k with
  | zero => rfl
  | succ k ih => rw [List.replicate_succ, List.flatten_cons, ih, List.replicate_succ]; rfl
theorem o_rep1 : OpR X (binaryOp .Mult) rRep1 := by
  intro pins s σ H x y vv u Q I rx ry h
  obtain ⟨l, k, v, rfl, rfl, hT, hk, q⟩ := h
  by_cases h2 : 2 ≤ k
  · refine op_repT pins s σ H _ _ vv u Q I rx ry ⟨l, (k : Int), [v], rfl, rfl, SqT.of hT, by simp, by omega, by omega, by simp, fun p hp => ?_⟩
    refine q _ p (same_new hp) ?_
    rw [upd_same, Int.toNat_natCast, flat_rep]
  · cases rx
    obtain ⟨t, rfl⟩ := ry
    obtain ⟨its, r, ⟨⟨cls, dd, data, sl⟩, ho, hc, n, hd⟩, hs⟩ := I.tuple (SqT.of hT)
    simp only at hc hd
    subst hc hd
    have hi : its.toArray.isEmpty = false := by
      cases r with
      | cons a b => rfl
    by_cases h1 : k = 1
    · subst h1
      refine wpAny_binaryOp_repeat_ref (T := "tuple") (U := "int") (by decide) ⟨_, ho, rfl⟩ (fun s' => typeIs_int s' (1 : Int) t) noFill_tuple_mul F.fills_int_mul F.slot_int_rmul repeat_tuple F.slot_int_index.lookup
        (call_meets F.slot_int_rmul (typeIs_int s (1 : Int) t) F.entry_int_rmul (F.args_int_rmul_2 _ _) (int_rmul_tuple (1 : Int) t l its.toArray n dd sl)
          ⟨ho, rfl, ⟨_, ho, rfl⟩, call_meets F.slot_tuple_mul ⟨_, ho, rfl⟩ F.entry_tuple_mul (F.args_tuple_mul_2 _ _) (tmul_one l its.toArray n dd sl t) ⟨ho, ?_⟩⟩)
      exact ⟨.ref l, H, I, rfl, q H l (Same.refl H) hT⟩
    · obtain rfl : k = 0 := by omega
      refine wpAny_binaryOp_repeat_ref (T := "tuple") (U := "int") (by decide) ⟨_, ho, rfl⟩ (fun s' => typeIs_int s' (0 : Int) t) noFill_tuple_mul F.fills_int_mul F.slot_int_rmul repeat_tuple F.slot_int_index.lookup
        (call_meets F.slot_int_rmul (typeIs_int s (0 : Int) t) F.entry_int_rmul (F.args_int_rmul_2 _ _) (int_rmul_tuple (0 : Int) t l its.toArray n dd sl)
          ⟨ho, rfl, ⟨_, ho, rfl⟩, call_meets F.slot_tuple_mul ⟨_, ho, rfl⟩ F.entry_tuple_mul (F.args_tuple_mul_2 _ _) (tmul_zero l its.toArray n dd sl t hi) ⟨ho, ?_⟩⟩)
      have hnew := I.hok.fresh (Nat.le_refl s.heap.objs.size)
      exact ⟨.ref s.heap.objs.size, _, I.laid (t' := s.toks) (o := .tup []) (fun b ob q => Heap.get?_push_of_some _ q) (Nat.le_refl _) ⟨Nat.zero_le _, [], .nil, IsTup.new _ _⟩, rfl, q _ _ (same_new hnew) upd_same⟩
/-- t + u, both tracked -/
def rCat2 : R2 := fun x y H Q => ∃ (a b : Addr) (xs ys : List V), x = .ref a ∧ y = .ref b ∧ H a = some (.tup xs) ∧ H b = some (.tup ys) ∧ xs.length + ys.length ≤ 10000000 ∧ ∀ H' p, Same H H' → H' p = some (.tup (xs ++ ys)) → Q (.ref p) H'
theorem o_cat2 : OpR X (binaryOp .Add) rCat2 := opMono op_catA fun x y H Q ⟨a, b, xs, ys, e1, e2, ha, hb, hz, q⟩ => by
  refine ⟨a, b, xs, ys, e1, e2, SqT.of ha, SqT.of hb, big _ hz, fun e => ?_, fun _ e => ?_, fun _ _ p hp => q _ p (same_new hp) upd_same⟩
  · subst e
    exact q H b (Same.refl H) hb
  · subst e
    rw [List.append_nil] at q
    exact q H a (Same.refl H) ha
/-! ### the least of texts -/
theorem lt_str_data (a b : T) : PySem.W.dataLt (.str (S a)) (.str (S b)) = decide (a < b) := by
  unfold PySem.W.dataLt PySem.W.keyToks
  rw [PyProof.Rows.lex_cons]
  show (decide (a < b) || (!decide (b < a) && false)) = _
  rw [Bool.and_false, Bool.or_false]
def minT (x : T) (ts : List T) : T := ts.foldl (fun a y => if y < a then y else a) x
theorem minD_T : ∀ (ts : List T) (x : T), PySem.W.minD (.str (S x)) (ts.map fun t => .str (S t)) = .str (S (minT x ts))
  | [], x => rfl
  | y :: ts, x => by
    unfold PySem.W.minD minT
    rw [List.map_cons, List.foldl_cons, List.foldl_cons, lt_str_data]
    by_cases h : y < x
    · rw [decide_eq_true h, if_pos rfl, if_pos h]
      exact minD_T ts y
    · rw [decide_eq_false h, if_neg Bool.false_ne_true, if_neg h]
      exact minD_T ts x
theorem minT_ok : ∀ (ts : List T) (x : T), minT x ts ∈ x :: ts ∧ ∀ y ∈ x :: ts, ¬ y < minT x ts
  | [], x => ⟨by simp [minT], fun y hy => by
    rw [List.mem_singleton.mp hy]
    exact List.lt_irrefl x⟩
  | z :: ts, x => by
    have e : minT x (z :: ts) = minT (if z < x then z else x) ts := rfl
    obtain ⟨h1, h2⟩ := minT_ok ts (if z < x then z else x)
    rw [e]
    refine ⟨?_, fun y hy => ?_⟩
    · rcases List.mem_cons.mp h1 with h | h
      · rw [h]
        split <;> simp
      · simp [h]
    · rcases List.mem_cons.mp hy with rfl | hy
      · by_cases hz : z < y
        · have q := h2 (if z < y then z else y) (by simp)
          rw [if_pos hz] at q ⊢
          intro hc
          have l1 : minT z ts ≤ z := List.not_lt.mp q
          exact List.not_lt.mpr l1 (List.lt_trans hz hc)
        · have q := h2 (if z < y then z else y) (by simp)
          rw [if_neg hz] at q ⊢
          exact q
      · rcases List.mem_cons.mp hy with rfl | hy
        · have q := h2 (if y < x then y else x) (by simp)
          by_cases hz : y < x
          · rw [if_pos hz] at q ⊢
            exact q
          · rw [if_neg hz] at q ⊢
            intro hc
            have l1 : minT x ts ≤ x := List.not_lt.mp q
            have l2 : x ≤ y := List.not_lt.mp hz
            exact List.not_lt.mpr (List.le_trans l1 l2) hc
        · exact h2 y (by simp [hy])
theorem dpAll_txt {K : PySem.W.Frag} {H : Hp} : ∀ ts : List T, DpAll K H (ts.map tx) (ts.map fun t => .str (S t))
  | [] => .nil
  | t :: ts => .cons (.str (S t)) (dpAll_txt ts)
theorem alike_txt (ts : List T) : PySem.W.AlikeAll (ts.map fun t => .str (S t)) := by
  refine ⟨fun x hx y hy => ?_, fun x hx => ?_⟩
  · obtain ⟨a, _, rfl⟩ := List.mem_map.mp hx
    obtain ⟨b, _, rfl⟩ := List.mem_map.mp hy
    rfl
  · obtain ⟨a, _, rfl⟩ := List.mem_map.mp hx
    intro z
    cases z
theorem depth_txt : ∀ ts : List T, PyData.depthAll (ts.map fun t => PyData.str (S t)) ≤ 1
  | [] => by simp [PyData.depthAll]
  | t :: ts => by
    have := depth_txt ts
    simp [PyData.depthAll, PyData.depth]
    omega
def rMinT (K : PySem.W.Frag) : List V → Hp → VK → Prop := fun vs H Q => ∃ (a : Addr) (ts : List T), vs = [V.ref a] ∧ SqL K H a (ts.map tx) ∧ ts ≠ [] ∧ ∀ z, z ∈ ts → (∀ y ∈ ts, ¬ y < z) → Q (tx z) H
theorem c_minT (hc : X.calm = true) (hu : X.A.units + 3 < cLine) : CallR X (.builtin "min") (rMinT X.K) := by
  intro pins s σ H vs us Q I r h
  obtain ⟨a, ts, rfl, hs, hne, q⟩ := h
  obtain ⟨its, rv, hl, _⟩ := I.list hs
  rw [Vals.ref1 r]
  cases ts with
  | nil => exact absurd rfl hne
  | cons x ts =>
    obtain ⟨as, hr⟩ := Dp.readsAll I _ _ its (dpAll_txt (K := X.K) (H := H) (x :: ts)) rv
    obtain ⟨m1, m2⟩ := minT_ok ts x
    refine PySem.W.min_list_data (I.ok.hd hc) hl.isList (vs := its.toArray) (x := .str (S x)) (xs := ts.map fun t => .str (S t)) (as := as) hr (alike_txt (x :: ts)) ?_ fun i v h' tk bs hv hR hk => ?_
    · have := depth_txt (x :: ts)
      rw [List.map_cons] at this
      omega
    · rw [minD_T] at hR
      cases hR
      exact ⟨tx (minT x ts), H, I.kept hk, ⟨_, rfl⟩, q _ m1 m2⟩
/-! ### (length, text) < (length, text) -/
def rLtP : R2 := fun x y H Q => ∃ (a b : Addr) (n m : Nat) (s t : T), x = .ref a ∧ y = .ref b ∧ H a = some (.tup [.int (n : Int), tx s]) ∧ H b = some (.tup [.int (m : Int), tx t]) ∧ Q (.bl (decide (n < m ∨ (n = m ∧ s < t)))) H
theorem lt_pair (n m : Nat) (s t : T) : PySem.W.dataLt (.tuple [.int (n : Int), .str (S s)]) (.tuple [.int (m : Int), .str (S t)]) = decide (n < m ∨ (n = m ∧ s < t)) := by
  unfold PySem.W.dataLt
  show PyProof.Rows.lexLt PyProof.Rows.itemOrd [.inl 1, .inl (n : Int), .inl 1, .inr s, .inl 0] [.inl 1, .inl (m : Int), .inl 1, .inr t, .inl 0] = _
  rw [PyProof.Rows.lex_cons, PyProof.Rows.lex_cons, PyProof.Rows.lex_cons, PyProof.Rows.lex_cons, PyProof.Rows.lex_cons]
  show (decide ((1 : Int) < 1) || (!decide ((1 : Int) < 1) && (decide ((n : Int) < m) || (!decide ((m : Int) < n) && (decide ((1 : Int) < 1) || (!decide ((1 : Int) < 1) && (decide (s < t) || (!decide (t < s) && (decide ((0 : Int) < 0) || (!decide ((0 : Int) < 0) && false)))))))))) = _
  rw [Bool.eq_iff_iff]
  simp only [Int.lt_irrefl, decide_false, Bool.not_false, Bool.true_and, Bool.false_or, Bool.and_false, Bool.or_false, Bool.or_eq_true, Bool.and_eq_true, Bool.not_eq_true', decide_eq_true_eq, decide_eq_false_iff_not]
  constructor
  · rintro (h | ⟨h1, h2⟩)
    · exact .inl (by omega)
    · by_cases e : n = m
      · exact .inr ⟨e, h2⟩
      · exact .inl (by omega)
  · rintro (h | ⟨h1, h2⟩)
    · exact .inl (by omega)
    · exact .inr ⟨by omega, h2⟩
theorem o_ltP (hu : X.A.units + 70 < cLine) : OpR X (compareOp .Lt) rLtP := by
  intro pins s0 σ H x y v u Q I rx ry h
  obtain ⟨a, b, n, m, s, t, rfl, rfl, ha, hb, q⟩ := h
  obtain ⟨as, r1⟩ := Dp.reads I (.tuple [.int (n : Int), .str (S s)]) (.ref a) v (.tup (SqT.of ha) (.cons (.int _) (.cons (.str _) .nil))) rx
  obtain ⟨bs, r2⟩ := Dp.reads I (.tuple [.int (m : Int), .str (S t)]) (.ref b) u (.tup (SqT.of hb) (.cons (.int _) (.cons (.str _) .nil))) ry
  refine PySem.W.lt_data r1 r2 rfl (by intro z; cases z) ?_ ?_
  · have e : min (PyData.depth (.tuple [.int (n : Int), .str (S s)])) (PyData.depth (.tuple [.int (m : Int), .str (S t)])) ≤ 60 := by
      simp [PyData.depth, PyData.depthAll]
    omega
  · rw [lt_pair]
    exact ⟨.bl _, H, I, rfl, q⟩
end
end Kl
set_option Elab.async false
set_option linter.all false
set_option maxRecDepth 100000
set_option maxHeartbeats 4000000
namespace Kl
open PySem PySem.Spec PyProof.Rows L2 Kw
theorem str_tab : (List.range 1000).all (fun n => decide (Str.ofString (toString (n : Int)) = S (digs n))) = true := by decide +kernel
theorem int_tab : (List.range 1000).all (fun n => decide (PySem.intText? (S (digs n)) = some (n : Int))) = true := by decide +kernel
theorem str_digs {n : Nat} (h : n < 1000) : Str.ofString (toString (n : Int)) = S (digs n) := of_decide_eq_true (List.all_eq_true.mp str_tab n (List.mem_range.mpr h))
theorem int_digs {n : Nat} (h : n < 1000) : PySem.intText? (S (digs n)) = some (n : Int) := of_decide_eq_true (List.all_eq_true.mp int_tab n (List.mem_range.mpr h))
section
variable {X : Cx}
def rStrT : List V → Hp → VK → Prop := fun xs H Q => ∃ n : Nat, xs = [.int (n : Int)] ∧ n < 1000 ∧ Q (tx (digs n)) H
theorem c_strT : CallR X (.type "str") rStrT := callMono call_str_int fun xs H Q ⟨n, e, hn, q⟩ => by
  refine ⟨(n : Int), e, ?_, ?_⟩
  · rw [Int.natAbs_natCast]
    by_cases h0 : n = 0
    · subst h0
      decide
    · exact (Nat.log2_lt h0).mpr (Nat.lt_of_lt_of_le hn (show 1000 ≤ 2 ^ 1920 from Nat.le_trans (show 1000 ≤ 2 ^ 10 by decide) (Nat.pow_le_pow_right (by decide) (by decide))))
  · have z := str_digs hn
    rw [z]
    exact q
def rIntT : List V → Hp → VK → Prop := fun xs H Q => ∃ n : Nat, xs = [tx (digs n)] ∧ n < 1000 ∧ Q (.int (n : Int)) H
theorem c_intT : CallR X (.type "int") rIntT := callMono call_int_str fun xs H Q ⟨n, e, hn, q⟩ => ⟨S (digs n), (n : Int), e, int_digs hn, by
  rw [S_len]
  have := digs_len n
  omega, q⟩
end
end Kl
set_option Elab.async false
set_option linter.all false
set_option maxRecDepth 100000
set_option maxHeartbeats 4000000
namespace Kl
open PySem PySem.Spec PyProof.Rows L2 Kw
/-! ### the text -/
def topS (i : Nat) : Stmt := PySem.Challenge.pw_hushedpages_k58_whole_files_back.main.body.getD i (.Pass ⟨0, 0, 0, 0⟩)
/- 1 is_blank: 0 cells -/
abbrev s_is_blank : Stmt := topS 1
abbrev n_is_blank : List Str := ["cells"]
theorem sc_is_blank : FnScope n_is_blank ["cells"] (defScope s_is_blank) := ⟨rfl, rfl, rfl, by decide +kernel, rfl, by decide +kernel, by decide +kernel⟩
/- 2 counted: 0 times, 1 sign -/
abbrev s_counted : Stmt := topS 2
abbrev n_counted : List Str := ["times", "sign"]
theorem sc_counted : FnScope n_counted ["times", "sign"] (defScope s_counted) := ⟨rfl, rfl, rfl, by decide +kernel, rfl, by decide +kernel, by decide +kernel⟩
/- 3 run_of: 0 cells, 1 sign -/
abbrev s_run_of : Stmt := topS 3
abbrev n_run_of : List Str := ["cells", "sign"]
theorem sc_run_of : FnScope n_run_of ["cells", "sign"] (defScope s_run_of) := ⟨rfl, rfl, rfl, by decide +kernel, rfl, by decide +kernel, by decide +kernel⟩
/- 4 blank_rows: 0 page, 1 row, 2 found -/
abbrev s_blank_rows : Stmt := topS 4
abbrev n_blank_rows : List Str := ["page", "row", "found"]
theorem sc_blank_rows : FnScope n_blank_rows ["page", "row"] (defScope s_blank_rows) := ⟨rfl, rfl, rfl, by decide +kernel, rfl, by decide +kernel, by decide +kernel⟩
/- 5 alike_rows: 0 page, 1 row, 2 found -/
abbrev s_alike_rows : Stmt := topS 5
abbrev n_alike_rows : List Str := ["page", "row", "found"]
theorem sc_alike_rows : FnScope n_alike_rows ["page", "row"] (defScope s_alike_rows) := ⟨rfl, rfl, rfl, by decide +kernel, rfl, by decide +kernel, by decide +kernel⟩
/- 6 best: 0 choices, 1 length, 2 command, 3 rest (comprehension: ['command', 'rest']) -/
abbrev s_best : Stmt := topS 6
abbrev n_best : List Str := ["choices", "length", "command", "rest"]
theorem sc_best : FnScope n_best ["choices"] (defScope s_best) := ⟨rfl, rfl, rfl, by decide +kernel, rfl, by decide +kernel, by decide +kernel⟩
/- 7 across: 0 cells, 1 behind, 2 found, 3 n -/
abbrev s_across : Stmt := topS 7
abbrev n_across : List Str := ["cells", "behind", "found", "n"]
theorem sc_across : FnScope n_across ["cells", "behind"] (defScope s_across) := ⟨rfl, rfl, rfl, by decide +kernel, rfl, by decide +kernel, by decide +kernel⟩
/- 8 downward: 0 page, 1 row, 2 below, 3 blank, 4 found, 5 n (comprehension: ['n']) -/
abbrev s_downward : Stmt := topS 8
abbrev n_downward : List Str := ["page", "row", "below", "blank", "found", "n"]
theorem sc_downward : FnScope n_downward ["page", "row", "below"] (defScope s_downward) := ⟨rfl, rfl, rfl, by decide +kernel, rfl, by decide +kernel, by decide +kernel⟩
/- 9 copies: 0 page, 1 row, 2 below, 3 n (comprehension: ['n']) -/
abbrev s_copies : Stmt := topS 9
abbrev n_copies : List Str := ["page", "row", "below", "n"]
theorem sc_copies : FnScope n_copies ["page", "row", "below"] (defScope s_copies) := ⟨rfl, rfl, rfl, by decide +kernel, rfl, by decide +kernel, by decide +kernel⟩
/- 10 row_commands: 0 page, 1 row, 2 below, 3 cells, 4 behind, 5 place, 6 choices -/
abbrev s_row_commands : Stmt := topS 10
abbrev n_row_commands : List Str := ["page", "row", "below", "cells", "behind", "place", "choices"]
theorem sc_row_commands : FnScope n_row_commands ["page", "row", "below"] (defScope s_row_commands) := ⟨rfl, rfl, rfl, by decide +kernel, rfl, by decide +kernel, by decide +kernel⟩
/- 11 page_commands: 0 page, 1 below, 2 row -/
abbrev s_page_commands : Stmt := topS 11
abbrev n_page_commands : List Str := ["page", "below", "row"]
theorem sc_page_commands : FnScope n_page_commands ["page"] (defScope s_page_commands) := ⟨rfl, rfl, rfl, by decide +kernel, rfl, by decide +kernel, by decide +kernel⟩
/- 12 file_of: 0 pages, 1 first, 2 page (comprehension: ['page']) -/
abbrev s_file_of : Stmt := topS 12
abbrev n_file_of : List Str := ["pages", "first", "page"]
theorem sc_file_of : FnScope n_file_of ["pages"] (defScope s_file_of) := ⟨rfl, rfl, rfl, by decide +kernel, rfl, by decide +kernel, by decide +kernel⟩
/- 19 count_of: 0 digits -/
abbrev s_count_of : Stmt := topS 19
abbrev n_count_of : List Str := ["digits"]
theorem sc_count_of : FnScope n_count_of ["digits"] (defScope s_count_of) := ⟨rfl, rfl, rfl, by decide +kernel, rfl, by decide +kernel, by decide +kernel⟩
/- 20 command_at: 0 commands, 1 at, 2 place, 3 count, 4 sign, 5 behind -/
abbrev s_command_at : Stmt := topS 20
abbrev n_command_at : List Str := ["commands", "at", "place", "count", "sign", "behind"]
theorem sc_command_at : FnScope n_command_at ["commands", "at"] (defScope s_command_at) := ⟨rfl, rfl, rfl, by decide +kernel, rfl, by decide +kernel, by decide +kernel⟩
/- 21 drawn_on: 0 width, 1 left, 2 page, 3 cells, 4 rows, 5 line -/
abbrev s_drawn_on : Stmt := topS 21
abbrev n_drawn_on : List Str := ["width", "left", "page", "cells", "rows", "line"]
theorem sc_drawn_on : FnScope n_drawn_on ["width", "left", "page", "cells"] (defScope s_drawn_on) := ⟨rfl, rfl, rfl, by decide +kernel, rfl, by decide +kernel, by decide +kernel⟩
/- 22 gone_down: 0 width, 1 left, 2 page, 3 count, 4 rows, 5 line, 6 row -/
abbrev s_gone_down : Stmt := topS 22
abbrev n_gone_down : List Str := ["width", "left", "page", "count", "rows", "line", "row"]
theorem sc_gone_down : FnScope n_gone_down ["width", "left", "page", "count"] (defScope s_gone_down) := ⟨rfl, rfl, rfl, by decide +kernel, rfl, by decide +kernel, by decide +kernel⟩
/- 23 copied: 0 left, 1 page, 2 count, 3 rows, 4 line -/
abbrev s_copied : Stmt := topS 23
abbrev n_copied : List Str := ["left", "page", "count", "rows", "line"]
theorem sc_copied : FnScope n_copied ["left", "page", "count"] (defScope s_copied) := ⟨rfl, rfl, rfl, by decide +kernel, rfl, by decide +kernel, by decide +kernel⟩
/- 24 after: 0 width, 1 height, 2 page, 3 command, 4 count, 5 sign, 6 cells, 7 behind, 8 left -/
abbrev s_after : Stmt := topS 24
abbrev n_after : List Str := ["width", "height", "page", "command", "count", "sign", "cells", "behind", "left"]
theorem sc_after : FnScope n_after ["width", "height", "page", "command"] (defScope s_after) := ⟨rfl, rfl, rfl, by decide +kernel, rfl, by decide +kernel, by decide +kernel⟩
/- 25 ended: 0 width, 1 height, 2 page, 3 left -/
abbrev s_ended : Stmt := topS 25
abbrev n_ended : List Str := ["width", "height", "page", "left"]
theorem sc_ended : FnScope n_ended ["width", "height", "page"] (defScope s_ended) := ⟨rfl, rfl, rfl, by decide +kernel, rfl, by decide +kernel, by decide +kernel⟩
/- 26 drawn: 0 file, 1 width, 2 height, 3 commands, 4 pages, 5 page, 6 at, 7 command -/
abbrev s_drawn : Stmt := topS 26
abbrev n_drawn : List Str := ["file", "width", "height", "commands", "pages", "page", "at", "command"]
theorem sc_drawn : FnScope n_drawn ["file"] (defScope s_drawn) := ⟨rfl, rfl, rfl, by decide +kernel, rfl, by decide +kernel, by decide +kernel⟩
/- 28 _law_begin: 0 _law_script -/
abbrev s_l_begin : Stmt := topS 28
abbrev n_l_begin : List Str := ["_law_script"]
theorem sc_l_begin : FnScope n_l_begin ["_law_script"] (defScope s_l_begin) := ⟨rfl, rfl, rfl, by decide +kernel, rfl, by decide +kernel, by decide +kernel⟩
/- 29 _law_draw: 0 _law_d, 1 _law_many, 2 _law_cell, 3 _law_found -/
abbrev s_l_draw : Stmt := topS 29
abbrev n_l_draw : List Str := ["_law_d", "_law_many", "_law_cell", "_law_found"]
theorem sc_l_draw : FnScope n_l_draw ["_law_d", "_law_many"] (defScope s_l_draw) := ⟨rfl, rfl, rfl, by decide +kernel, rfl, by decide +kernel, by decide +kernel⟩
/- 30 _law_pick: 0 _law_d, 1 _law_row -/
abbrev s_l_pick : Stmt := topS 30
abbrev n_l_pick : List Str := ["_law_d", "_law_row"]
theorem sc_l_pick : FnScope n_l_pick ["_law_d", "_law_row"] (defScope s_l_pick) := ⟨rfl, rfl, rfl, by decide +kernel, rfl, by decide +kernel, by decide +kernel⟩
/- 31 _law_exact: 0 _law_told, 1 _law_due, 2 _law_k -/
abbrev s_l_exact : Stmt := topS 31
abbrev n_l_exact : List Str := ["_law_told", "_law_due", "_law_k"]
theorem sc_l_exact : FnScope n_l_exact ["_law_told", "_law_due"] (defScope s_l_exact) := ⟨rfl, rfl, rfl, by decide +kernel, rfl, by decide +kernel, by decide +kernel⟩
/- 32 _law_all_signs: 0 _law_signs -/
abbrev s_l_all_signs : Stmt := topS 32
abbrev n_l_all_signs : List Str := ["_law_signs"]
theorem sc_l_all_signs : FnScope n_l_all_signs [] (defScope s_l_all_signs) := ⟨rfl, rfl, rfl, by decide +kernel, rfl, by decide +kernel, by decide +kernel⟩
/- 33 _law_few: 0 _law_d, 1 _law_room, 2 _law_kind -/
abbrev s_l_few : Stmt := topS 33
abbrev n_l_few : List Str := ["_law_d", "_law_room", "_law_kind"]
theorem sc_l_few : FnScope n_l_few ["_law_d", "_law_room"] (defScope s_l_few) := ⟨rfl, rfl, rfl, by decide +kernel, rfl, by decide +kernel, by decide +kernel⟩
/- 34 _law_some_row: 0 _law_d, 1 _law_wide, 2 _law_menu, 3 _law_row, 4 _law_k -/
abbrev s_l_some_row : Stmt := topS 34
abbrev n_l_some_row : List Str := ["_law_d", "_law_wide", "_law_menu", "_law_row", "_law_k"]
theorem sc_l_some_row : FnScope n_l_some_row ["_law_d", "_law_wide"] (defScope s_l_some_row) := ⟨rfl, rfl, rfl, by decide +kernel, rfl, by decide +kernel, by decide +kernel⟩
/- 35 _law_some_page: 0 _law_d, 1 _law_wide, 2 _law_high, 3 _law_rows, 4 _law_k, 5 _law_kind, 6 _law_row, 7 _law_at -/
abbrev s_l_some_page : Stmt := topS 35
abbrev n_l_some_page : List Str := ["_law_d", "_law_wide", "_law_high", "_law_rows", "_law_k", "_law_kind", "_law_row", "_law_at"]
theorem sc_l_some_page : FnScope n_l_some_page ["_law_d", "_law_wide", "_law_high"] (defScope s_l_some_page) := ⟨rfl, rfl, rfl, by decide +kernel, rfl, by decide +kernel, by decide +kernel⟩
/- 36 _law_command_at: 0 _law_commands, 1 _law_at, 2 _law_behind, 3 _law_digits, 4 _law_sign, 5 _law_end -/
abbrev s_l_command_at : Stmt := topS 36
abbrev n_l_command_at : List Str := ["_law_commands", "_law_at", "_law_behind", "_law_digits", "_law_sign", "_law_end"]
theorem sc_l_command_at : FnScope n_l_command_at ["_law_commands", "_law_at"] (defScope s_l_command_at) := ⟨rfl, rfl, rfl, by decide +kernel, rfl, by decide +kernel, by decide +kernel⟩
/- 37 _law_new_page: 0 _law_wide, 1 _law_high, 2 _law_k (comprehension: ['_law_k']) -/
abbrev s_l_new_page : Stmt := topS 37
abbrev n_l_new_page : List Str := ["_law_wide", "_law_high", "_law_k"]
theorem sc_l_new_page : FnScope n_l_new_page ["_law_wide", "_law_high"] (defScope s_l_new_page) := ⟨rfl, rfl, rfl, by decide +kernel, rfl, by decide +kernel, by decide +kernel⟩
/- 38 _law_once: 0 _law_page, 1 _law_sign, 2 _law_cell, 3 _law_wide, 4 _law_high, 5 _law_grid, 6 _law_row, 7 _law_col, 8 _law_line -/
abbrev s_l_once : Stmt := topS 38
abbrev n_l_once : List Str := ["_law_page", "_law_sign", "_law_cell", "_law_wide", "_law_high", "_law_grid", "_law_row", "_law_col", "_law_line"]
theorem sc_l_once : FnScope n_l_once ["_law_page", "_law_sign", "_law_cell"] (defScope s_l_once) := ⟨rfl, rfl, rfl, by decide +kernel, rfl, by decide +kernel, by decide +kernel⟩
/- 39 _law_can: 0 _law_page, 1 _law_command, 2 _law_sign, 3 _law_many, 4 _law_cells, 5 _law_behind, 6 _law_cell -/
abbrev s_l_can : Stmt := topS 39
abbrev n_l_can : List Str := ["_law_page", "_law_command", "_law_sign", "_law_many", "_law_cells", "_law_behind", "_law_cell"]
theorem sc_l_can : FnScope n_l_can ["_law_page", "_law_command"] (defScope s_l_can) := ⟨rfl, rfl, rfl, by decide +kernel, rfl, by decide +kernel, by decide +kernel⟩
/- 40 _law_device: 0 _law_file, 1 _law_wide, 2 _law_high, 3 _law_commands, 4 _law_pages, 5 _law_page, 6 _law_at, 7 _law_ended, 8 _law_command, 9 _law_line (comprehension: ['_law_line']) -/
abbrev s_l_device : Stmt := topS 40
abbrev n_l_device : List Str := ["_law_file", "_law_wide", "_law_high", "_law_commands", "_law_pages", "_law_page", "_law_at", "_law_ended", "_law_command", "_law_line"]
theorem sc_l_device : FnScope n_l_device ["_law_file"] (defScope s_l_device) := ⟨rfl, rfl, rfl, by decide +kernel, rfl, by decide +kernel, by decide +kernel⟩
/- 41 _law_signs_for: 0 _law_n -/
abbrev s_l_signs_for : Stmt := topS 41
abbrev n_l_signs_for : List Str := ["_law_n"]
theorem sc_l_signs_for : FnScope n_l_signs_for ["_law_n"] (defScope s_l_signs_for) := ⟨rfl, rfl, rfl, by decide +kernel, rfl, by decide +kernel, by decide +kernel⟩
/- 42 _law_ways_on: 0 _law_cells, 1 _law_need, 2 _law_found, 3 _law_alike, 4 _law_n -/
abbrev s_l_ways_on : Stmt := topS 42
abbrev n_l_ways_on : List Str := ["_law_cells", "_law_need", "_law_found", "_law_alike", "_law_n"]
theorem sc_l_ways_on : FnScope n_l_ways_on ["_law_cells", "_law_need"] (defScope s_l_ways_on) := ⟨rfl, rfl, rfl, by decide +kernel, rfl, by decide +kernel, by decide +kernel⟩
/- 43 _law_ways_down: 0 _law_rows, 1 _law_row, 2 _law_below, 3 _law_found, 4 _law_n -/
abbrev s_l_ways_down : Stmt := topS 43
abbrev n_l_ways_down : List Str := ["_law_rows", "_law_row", "_law_below", "_law_found", "_law_n"]
theorem sc_l_ways_down : FnScope n_l_ways_down ["_law_rows", "_law_row", "_law_below"] (defScope s_l_ways_down) := ⟨rfl, rfl, rfl, by decide +kernel, rfl, by decide +kernel, by decide +kernel⟩
/- 44 _law_ways_alike: 0 _law_rows, 1 _law_row, 2 _law_below, 3 _law_found, 4 _law_n -/
abbrev s_l_ways_alike : Stmt := topS 44
abbrev n_l_ways_alike : List Str := ["_law_rows", "_law_row", "_law_below", "_law_found", "_law_n"]
theorem sc_l_ways_alike : FnScope n_l_ways_alike ["_law_rows", "_law_row", "_law_below"] (defScope s_l_ways_alike) := ⟨rfl, rfl, rfl, by decide +kernel, rfl, by decide +kernel, by decide +kernel⟩
/- 45 _law_needs: 0 _law_rows, 1 _law_below, 2 _law_row, 3 _law_wide, 4 _law_need, 5 _law_col, 6 _law_cells, 7 _law_found -/
abbrev s_l_needs : Stmt := topS 45
abbrev n_l_needs : List Str := ["_law_rows", "_law_below", "_law_row", "_law_wide", "_law_need", "_law_col", "_law_cells", "_law_found"]
theorem sc_l_needs : FnScope n_l_needs ["_law_rows"] (defScope s_l_needs) := ⟨rfl, rfl, rfl, by decide +kernel, rfl, by decide +kernel, by decide +kernel⟩
/- 46 _law_drawn_as: 0 _law_file, 1 _law_pages -/
abbrev s_l_drawn_as : Stmt := topS 46
abbrev n_l_drawn_as : List Str := ["_law_file", "_law_pages"]
theorem sc_l_drawn_as : FnScope n_l_drawn_as ["_law_file", "_law_pages"] (defScope s_l_drawn_as) := ⟨rfl, rfl, rfl, by decide +kernel, rfl, by decide +kernel, by decide +kernel⟩
/- 47 _law_short_strings: 0 _law_signs, 1 _law_found, 2 _law_a, 3 _law_b, 4 _law_c -/
abbrev s_l_short_strings : Stmt := topS 47
abbrev n_l_short_strings : List Str := ["_law_signs", "_law_found", "_law_a", "_law_b", "_law_c"]
theorem sc_l_short_strings : FnScope n_l_short_strings ["_law_signs"] (defScope s_l_short_strings) := ⟨rfl, rfl, rfl, by decide +kernel, rfl, by decide +kernel, by decide +kernel⟩
/- 48 _law_world: 0 _law_d, 1 _law_wide, 2 _law_high, 3 _law_many, 4 _law_kind, 5 _law_k (comprehension: ['_law_k']) -/
abbrev s_l_world : Stmt := topS 48
abbrev n_l_world : List Str := ["_law_d", "_law_wide", "_law_high", "_law_many", "_law_kind", "_law_k"]
theorem sc_l_world : FnScope n_l_world ["_law_d"] (defScope s_l_world) := ⟨rfl, rfl, rfl, by decide +kernel, rfl, by decide +kernel, by decide +kernel⟩
/- 49 _law_nothing_shorter: 0 _law_d, 1 _law_file, 2 _law_pages, 3 _law_wide, 4 _law_high, 5 _law_commands, 6 _law_k, 7 _law_at, 8 _law_text -/
abbrev s_l_nothing_shorter : Stmt := topS 49
abbrev n_l_nothing_shorter : List Str := ["_law_d", "_law_file", "_law_pages", "_law_wide", "_law_high", "_law_commands", "_law_k", "_law_at", "_law_text"]
theorem sc_l_nothing_shorter : FnScope n_l_nothing_shorter ["_law_d", "_law_file", "_law_pages"] (defScope s_l_nothing_shorter) := ⟨rfl, rfl, rfl, by decide +kernel, rfl, by decide +kernel, by decide +kernel⟩
/- 50 law: 0 _law_script, 1 _law_d, 2 _law_pages, 3 _law_file, 4 _law_page (comprehension: ['_law_page']) -/
abbrev s_law : Stmt := topS 50
abbrev n_law : List Str := ["_law_script", "_law_d", "_law_pages", "_law_file", "_law_page"]
theorem sc_law : FnScope n_law ["_law_script"] (defScope s_law) := ⟨rfl, rfl, rfl, by decide +kernel, rfl, by decide +kernel, by decide +kernel⟩
/-! ### a def that stands, and one that keeps its promise -/
def Def (K : PySem.W.Frag) (mg : Str → Option Value) (x : Str) (st : Stmt) (ps : List Str) : Prop := ∃ f fd, Fun K x x st f fd ∧ mg x = some (.ref f) ∧ Binds K fd ps []
def OkX (P : Program) (w : World) (K : PySem.W.Frag) (mg : Str → Option Value) (base : Heap) (CX : CXT) (k : Nat) (x : Str) (ps : List Str) (sp : Sp) : Prop :=
  ∃ f fd, mg x = some (.ref f) ∧ PySem.W.keepIn K (.ref f) = true ∧ Binds K fd ps [] ∧ FnOk P w K mg base CX k f fd ps sp
abbrev Ok (P : Program) (w : World) (K : PySem.W.Frag) (mg : Str → Option Value) (base : Heap) (k : Nat) (x : Str) (ps : List Str) (sp : Sp) : Prop := OkX P w K mg base CX0 k x ps sp
section
variable {P : Program} {w : World} {K : PySem.W.Frag} {mg : Str → Option Value} {base : Heap}
theorem Ok.up {j k : Nat} {x : Str} {ps : List Str} {sp : Sp} (G : Ok P w K mg base j x ps sp) (h : j ≤ k) : Ok P w K mg base k x ps sp := by
  obtain ⟨f, fd, a, b, c, F⟩ := G
  exact ⟨f, fd, a, b, c, F.mono h⟩
/-- a def's promise from its body -/
theorem def_ok {x : Str} {st : Stmt} {N ps : List Str} {k : Nat} {sp : Sp} (D : Def K mg x st ps) (S : FnScope N ps (defScope st)) (len : ∀ vs H Q E, sp vs H Q E → vs.length = ps.length)
    (hbody : ∀ (f : Addr) (cdv : Value) (A : Around) (outer : List Env) (s : Shared) (H : Hp) (vs : List V) (Q : VK) (E : XK), L2.Room k (A.deeper (envOfC x (defScope st) s.heap.objs.size f cdv)) → sp vs H Q E →
      ∃ t, PSs (cxOf CX0 P w K mg base N x (defScope st) f cdv A outer s H E).nox (defBody st) t ∧ t { nx := fun _ H' => Q .non H', rt := Q } (start N vs) H) : Ok P w K mg base (k + 1) x ps sp := by
  obtain ⟨f, fd, F, g, b⟩ := D
  exact ⟨f, fd, g, F.kp, b, F.ok S len fun cdv A outer s H vs Q E hr h => hbody f cdv A outer s H vs Q E hr h⟩
end
section
variable {X : Cx}
/-- f(e, ..) by the promise of f -/
theorem pe_f {k : Nat} {x : Str} {ps : List Str} {sp : Sp} {p pos : Pos} {e : Expr} {es : List Expr} {t : TA} (G : Ok X.prog X.w X.K X.mg X.base k x ps sp) (hr : L2.Room k X.A) (hg : Gl X x) (ha : PA X (e :: es) t)
    (hst : starEach (e :: es) X.env = (false, eval e X.env) :: starEach es X.env := by rfl) (hpl : (backTo pos (starEach es X.env)).any (·.1) = false := by rfl) (hdb : (x == ("__debug__" : Str)) = false := by decide) :
    PE X (.Call (.Name x p) (e :: es) [] pos) (tCall sp [] E0 t) := by
  obtain ⟨f, fd, a, b, c, F⟩ := G
  exact pe_call F hr hg a b c .nil pass0 ha (hdb := hdb) (he := hst) (hpl := hpl)
theorem pe_f0 {k : Nat} {x : Str} {sp : Sp} {p pos : Pos} (G : Ok X.prog X.w X.K X.mg X.base k x [] sp) (hr : L2.Room k X.A) (hg : Gl X x) (hdb : (x == ("__debug__" : Str)) = false := by decide) : PE X (.Call (.Name x p) [] [] pos) (tCall sp [] E0 tNil) := by
  obtain ⟨f, fd, a, b, c, F⟩ := G
  exact pe_call0 F hr hg a b c .nil pass0 (hdb := hdb)
end
/-- what the module's top leaves free of the built-in names -/
structure Free (mg : Str → Option Value) : Prop where
  len : mg "len" = none
  str : mg "str" = none
  int : mg "int" = none
  min : mg "min" = none
  sum : mg "sum" = none
  range : mg "range" = none
  tuple : mg "tuple" = none
  list : mg "list" = none
  isinstance : mg "isinstance" = none
  bool : mg "bool" = none
end Kl
set_option Elab.async false
set_option linter.all false
set_option maxRecDepth 100000
set_option maxHeartbeats 4000000
namespace Kl
open PySem PySem.Spec PyProof.Rows L2 Kw
/-! ### written texts -/
theorem lit_sp : V.str (Str.ofString " ") = tx [32] := by decide +kernel
theorem lit_e : V.str (Str.ofString "") = tx [] := by decide +kernel
theorem lit_bar : V.str (Str.ofString "#") = tx [35] := by decide +kernel
theorem lit_gt : V.str (Str.ofString ">") = tx [62] := by decide +kernel
theorem lit_sl : V.str (Str.ofString "/") = tx [47] := by decide +kernel
theorem lit_up : V.str (Str.ofString "^") = tx [94] := by decide +kernel
theorem lit_semi : V.str (Str.ofString ";") = tx [59] := by decide +kernel
theorem lit_quo : V.str (Str.ofString "\"") = tx [34] := by decide +kernel
theorem lit_0 : V.str (Str.ofString "0") = tx [48] := by decide +kernel
theorem lit_1 : V.str (Str.ofString "1") = tx [49] := by decide +kernel
/-! ### how many of a sign stand ahead -/
theorem tw_le (p : Nat → Bool) (t : T) : (t.takeWhile p).length ≤ t.length := by
  have q := congrArg List.length (tw_split p t)
  rw [List.length_append] at q
  omega
theorem run_tw (t : T) (c : Nat) : RunOf (fun i => t[i]? = some c) t.length (t.takeWhile (· == c)).length := by
  refine ⟨tw_le _ t, fun i hi => ?_, fun hlt hc => ?_⟩
  · have h1 : t[i]? = (t.takeWhile (· == c))[i]? := by
      conv => lhs; rw [tw_split (· == c) t]
      rw [List.getElem?_append_left hi]
    have h2 := tw_mem (List.getElem_mem hi)
    show t[i]? = some c
    rw [h1, List.getElem?_eq_getElem hi]
    congr 1
    simpa using h2
  · cases hd : t.drop (t.takeWhile (· == c)).length with
    | nil =>
      have := List.drop_eq_nil_iff.mp hd
      omega
    | cons y r =>
      have q := tw_next (· == c) hd
      have z : (t.drop (t.takeWhile (· == c)).length)[0]? = some y := by rw [hd]; rfl
      rw [List.getElem?_drop, Nat.add_zero] at z
      have hc' : t[(t.takeWhile (· == c)).length]? = some c := hc
      rw [z] at hc'
      have e := Option.some.inj hc'
      rw [e] at q
      simp at q
section
variable {P : Program} {w : World} {K : PySem.W.Frag} {mg : Str → Option Value} {base : Heap}
def sp_is_blank : Sp := fun vs H Q _ => ∃ t : T, vs = [tx t] ∧ t.length ≤ 1000000 ∧ Q (.bl (decide (isBl t))) H
theorem ok_is_blank (D : Def K mg "is_blank" s_is_blank ["cells"]) : Ok P w K mg base 1 "is_blank" ["cells"] sp_is_blank := by
  refine def_ok D sc_is_blank (fun vs H Q E h => ?_) fun f cdv A outer s H vs Q E hr h => ?_
  · obtain ⟨t, rfl, _⟩ := h
    rfl
  · obtain ⟨t, rfl, hz, q⟩ := h
    refine ⟨_, pss_one (ps_ret (pe_cmpR o_eqT (pe_bm PySem.F.plainAttrs_str PySem.F.slot_str_strip PySem.F.type_str_strip m_stripT (pv 0) (pa_cons pe_str pa_nil)) pe_str (nomark _))), ?_⟩
    refine ⟨_, rfl, rfl, t, rfl, congrArg (· :: []) lit_sp, by omega, fun u _ hu => ?_⟩
    refine ⟨u, [], rfl, lit_e, ?_⟩
    rw [show decide (u = []) = decide (isBl t) from decide_eq_decide.mpr hu]
    exact q
def sp_counted : Sp := fun vs H Q _ => ∃ (n g : Nat), vs = [.int (n : Int), tx [g]] ∧ 1 ≤ n ∧ n < 1000 ∧ Q (tx (cmdT n g)) H
theorem ok_counted (D : Def K mg "counted" s_counted ["times", "sign"]) (fr : Free mg) : Ok P w K mg base 1 "counted" ["times", "sign"] sp_counted := by
  refine def_ok D sc_counted (fun vs H Q E h => ?_) fun f cdv A outer s H vs Q E hr h => ?_
  · obtain ⟨n, g, rfl, _⟩ := h
    rfl
  · obtain ⟨n, g, rfl, h1, h2, q⟩ := h
    refine ⟨_, pss_one (ps_ret (pe_ifExp (pt_cmpR op_eq (pv 0) pe_int (nomark _)) (pv 1) (pe_op o_addT (pe_callTy c_strT (by rfl) fr.str (by decide +kernel) (pa_cons (pv 0) pa_nil)) (pv 1)))), ?_⟩
    refine ⟨_, rfl, rfl, _, rfl, ite2 (fun e => ?_) (fun e => ?_)⟩
    · have e1 : n = 1 := by
        have := V.int.inj (of_decide_eq_true e)
        omega
      refine ⟨_, rfl, ?_⟩
      unfold cmdT at q
      rw [if_pos e1] at q
      exact q
    · have e1 : n ≠ 1 := fun z => e (by rw [z]; rfl)
      refine ⟨_, rfl, n, rfl, h2, _, rfl, digs n, [g], rfl, rfl, ?_, ?_⟩
      · have := digs_len n
        simp
        omega
      · unfold cmdT at q
        rw [if_neg e1] at q
        exact q
def sp_run_of : Sp := fun vs H Q _ => ∃ (t : T) (c : Nat), vs = [tx t, tx [c]] ∧ t.length ≤ 1000000 ∧ Q (.int ((t.takeWhile (· == c)).length : Int)) H
theorem ok_run_of (D : Def K mg "run_of" s_run_of ["cells", "sign"]) (fr : Free mg) : Ok P w K mg base 1 "run_of" ["cells", "sign"] sp_run_of := by
  refine def_ok D sc_run_of (fun vs H Q E h => ?_) fun f cdv A outer s H vs Q E hr h => ?_
  · obtain ⟨t, c, rfl, _⟩ := h
    rfl
  · obtain ⟨t, c, rfl, hz, q⟩ := h
    refine ⟨_, pss_one (ps_ret (pe_op op_sub (pe_callB c_lenT (by rfl) fr.len PySem.boot_len (pa_cons (pv 0) pa_nil))
      (pe_callB c_lenT (by rfl) fr.len PySem.boot_len (pa_cons (pe_bm PySem.F.plainAttrs_str PySem.F.slot_str_lstrip PySem.F.type_str_lstrip m_lstripT (pv 0) (pa_cons (pv 1) pa_nil)) pa_nil)))), ?_⟩
    have hd : (t.drop (t.takeWhile (· == c)).length).length = t.length - (t.takeWhile (· == c)).length := List.length_drop
    have hle := tw_le (· == c) t
    refine ⟨_, rfl, t, rfl, by omega, _, rfl, rfl, _, rfl, t, c, rfl, rfl, by omega, _, rfl, by omega, _, _, rfl, rfl, ?_⟩
    rw [hd]
    show Q (.int ((t.length : Int) - ((t.length - (t.takeWhile (· == c)).length : Nat) : Int))) H
    rw [show (t.length : Int) - ((t.length - (t.takeWhile (· == c)).length : Nat) : Int) = ((t.takeWhile (· == c)).length : Int) by omega]
    exact q
end
end Kl
set_option Elab.async false
set_option linter.all false
set_option maxRecDepth 100000
set_option maxHeartbeats 4000000
namespace Kl
open PySem PySem.Spec PyProof.Rows L2 Kw
/-! ### pages in memory -/
abbrev pgv (p : Pg) : List V := p.map tx
theorem row_at (p : Pg) {i : Nat} (h : i < p.length) : (pgv p)[i]? = some (tx (rowOf p i)) := by
  rw [List.getElem?_map, List.getElem?_eq_getElem h]
  unfold rowOf
  rw [List.getD_eq_getElem?_getD, List.getElem?_eq_getElem h]
  rfl
theorem row_atI (p : Pg) {i : Nat} {z : Int} (h : i < p.length) (e : z = (i : Int)) : atI (pgv p) z = some (tx (rowOf p i)) := by
  rw [e]
  exact atI_nat (row_at p h)
section
variable {P : Program} {w : World} {K : PySem.W.Frag} {mg : Str → Option Value} {base : Heap}
def sp_blank_rows : Sp := fun vs H Q _ => ∃ (a : Addr) (p : Pg) (r : Nat), vs = [.ref a, .int (r : Int)] ∧ H a = some (.tup (pgv p)) ∧ (∀ t ∈ p, t.length ≤ 1000) ∧ r ≤ p.length ∧
  ∀ k : Nat, RunOf (fun i => isBl (rowOf p (r + i))) (p.length - r) k → Q (.int (k : Int)) H
theorem ok_blank_rows (D : Def K mg "blank_rows" s_blank_rows ["page", "row"]) (fr : Free mg) (G : Ok P w K mg base 1 "is_blank" ["cells"] sp_is_blank) : Ok P w K mg base 2 "blank_rows" ["page", "row"] sp_blank_rows := by
  refine def_ok D sc_blank_rows (fun vs H Q E h => ?_) fun f cdv A outer s H vs Q E hr h => ?_
  · obtain ⟨a, p, r, rfl, _⟩ := h
    rfl
  · obtain ⟨a, p, r, rfl, hp, hz, hle, q⟩ := h
    refine ⟨_, pss_cons (ps_set (i := 2) sc_blank_rows.nd rfl (.inl rfl) pe_int)
      (pss_cons (ps_while PassesOwn.never (PW.pt (pw_and (pt_cmpR op_lt (pe_op op_add (pv 1) (pv 2)) (pe_callB call_len (by rfl) fr.len PySem.boot_len (pa_cons (pv 0) pa_nil)) (nomark _))
          (pw_and1 (pt_val (pe_f G hr (by rfl) (pa_cons (pe_ix ix_tup (pv 0) (pe_op op_add (pv 1) (pv 2)) (fun _ _ => rfl)) pa_nil))))))
        (pss_one (ps_set (i := 2) sc_blank_rows.nd rfl (.inl rfl) (pe_op op_add (pv 2) pe_int))))
      (pss_one (ps_ret (pv 2)))), ?_⟩
    refine ⟨fun m σ H' => ∃ k : Nat, H' = H ∧ σ = [some (.ref a), some (.int (r : Int)), some (.int (k : Int))] ∧ k + m = p.length - r ∧ ∀ i, i < k → isBl (rowOf p (r + i)), ⟨p.length - r, 0, rfl, rfl, by omega, fun i hi => by omega⟩, ?_⟩
    rintro m σ H' ⟨k, rfl, rfl, hk, hb⟩
    refine ⟨_, rfl, _, rfl, _, _, rfl, rfl, _, rfl, _, _, rfl, .inr ⟨_, SqT.of hp, rfl⟩, _, _, rfl, rfl, _, rfl, ?_⟩
    rw [List.length_map]
    by_cases hlt : r + k < p.length
    · rw [decide_eq_true (show (r : Int) + (k : Int) < (p.length : Int) by omega)]
      refine iteT ⟨_, rfl, _, rfl, _, rfl, _, _, rfl, rfl, _, _, _, _, rfl, rfl, SqT.of hp, row_atI p hlt (by omega), rowOf p (r + k), rfl, ?_, _, rfl, ?_⟩
      · have := hz _ (rowOf_mem hlt)
        omega
      · by_cases hbl : isBl (rowOf p (r + k))
        · rw [decide_eq_true hbl]
          refine iteT ⟨fun σ' H'' => H'' = H' ∧ σ' = [some (.ref a), some (.int (r : Int)), some (.int ((k + 1 : Nat) : Int))], ?_, ?_⟩
          · rintro σ' H'' ⟨rfl, rfl⟩
            refine ⟨m - 1, by omega, k + 1, rfl, rfl, by omega, fun i hi => ?_⟩
            by_cases e : i = k
            · rw [e]
              exact hbl
            · exact hb i (by omega)
          · exact ⟨_, rfl, _, _, rfl, rfl, rfl, rfl⟩
        · rw [decide_eq_false hbl]
          exact iteF ⟨_, rfl, q k ⟨by omega, hb, fun _ => hbl⟩⟩
    · rw [decide_eq_false (show ¬ (r : Int) + (k : Int) < (p.length : Int) by omega)]
      exact iteF (iteF ⟨_, rfl, q k ⟨by omega, hb, fun z => by omega⟩⟩)
def sp_alike_rows : Sp := fun vs H Q _ => ∃ (a : Addr) (p : Pg) (r : Nat), vs = [.ref a, .int (r : Int)] ∧ H a = some (.tup (pgv p)) ∧ 1 ≤ r ∧ r ≤ p.length ∧
  ∀ k : Nat, RunOf (fun i => rowOf p (r + i) = rowOf p (r - 1)) (p.length - r) k → Q (.int (k : Int)) H
theorem ok_alike_rows (D : Def K mg "alike_rows" s_alike_rows ["page", "row"]) (fr : Free mg) : Ok P w K mg base 1 "alike_rows" ["page", "row"] sp_alike_rows := by
  refine def_ok D sc_alike_rows (fun vs H Q E h => ?_) fun f cdv A outer s H vs Q E hr h => ?_
  · obtain ⟨a, p, r, rfl, _⟩ := h
    rfl
  · obtain ⟨a, p, r, rfl, hp, hr1, hle, q⟩ := h
    refine ⟨_, pss_cons (ps_set (i := 2) sc_alike_rows.nd rfl (.inl rfl) pe_int)
      (pss_cons (ps_while PassesOwn.never (PW.pt (pw_and (pt_cmpR op_lt (pe_op op_add (pv 1) (pv 2)) (pe_callB call_len (by rfl) fr.len PySem.boot_len (pa_cons (pv 0) pa_nil)) (nomark _))
          (pw_and1 (pt_cmpR o_eqT (pe_ix ix_tup (pv 0) (pe_op op_add (pv 1) (pv 2)) (fun _ _ => rfl)) (pe_ix ix_tup (pv 0) (pe_op op_sub (pe_op op_add (pv 1) (pv 2)) pe_int) (fun _ _ => rfl)) (nomark _)))))
        (pss_one (ps_set (i := 2) sc_alike_rows.nd rfl (.inl rfl) (pe_op op_add (pv 2) pe_int))))
      (pss_one (ps_ret (pv 2)))), ?_⟩
    refine ⟨fun m σ H' => ∃ k : Nat, H' = H ∧ σ = [some (.ref a), some (.int (r : Int)), some (.int (k : Int))] ∧ k + m = p.length - r ∧ ∀ i, i < k → rowOf p (r + i) = rowOf p (r - 1), ⟨p.length - r, 0, rfl, rfl, by omega, fun i hi => by omega⟩, ?_⟩
    rintro m σ H' ⟨k, rfl, rfl, hk, hb⟩
    refine ⟨_, rfl, _, rfl, _, _, rfl, rfl, _, rfl, _, _, rfl, .inr ⟨_, SqT.of hp, rfl⟩, _, _, rfl, rfl, _, rfl, ?_⟩
    rw [List.length_map]
    have hab : rowOf p (r + k - 1) = rowOf p (r - 1) := by
      by_cases e : k = 0
      · rw [e]
        rfl
      · have := hb (k - 1) (by omega)
        rw [show r + (k - 1) = r + k - 1 by omega] at this
        exact this
    by_cases hlt : r + k < p.length
    · rw [decide_eq_true (show (r : Int) + (k : Int) < (p.length : Int) by omega)]
      refine iteT ⟨_, rfl, _, rfl, _, rfl, _, _, rfl, rfl, _, _, _, _, rfl, rfl, SqT.of hp, row_atI p hlt (by omega), _, rfl, _, rfl, _, rfl, _, _, rfl, rfl, _, _, rfl, rfl, _, _, _, _, rfl, rfl, SqT.of hp,
        row_atI p (i := r + k - 1) (by omega) (by omega), _, _, rfl, rfl, _, rfl, ?_⟩
      rw [hab]
      by_cases hbl : rowOf p (r + k) = rowOf p (r - 1)
      · rw [decide_eq_true hbl]
        refine iteT ⟨fun σ' H'' => H'' = H' ∧ σ' = [some (.ref a), some (.int (r : Int)), some (.int ((k + 1 : Nat) : Int))], ?_, ?_⟩
        · rintro σ' H'' ⟨rfl, rfl⟩
          refine ⟨m - 1, by omega, k + 1, rfl, rfl, by omega, fun i hi => ?_⟩
          by_cases e : i = k
          · rw [e]
            exact hbl
          · exact hb i (by omega)
        · exact ⟨_, rfl, _, _, rfl, rfl, rfl, rfl⟩
      · rw [decide_eq_false hbl]
        exact iteF ⟨_, rfl, q k ⟨by omega, hb, fun _ => hbl⟩⟩
    · rw [decide_eq_false (show ¬ (r : Int) + (k : Int) < (p.length : Int) by omega)]
      exact iteF (iteF ⟨_, rfl, q k ⟨by omega, hb, fun z => by omega⟩⟩)
end
end Kl
set_option Elab.async false
set_option linter.all false
set_option maxRecDepth 100000
set_option maxHeartbeats 4000000
namespace Kl
open PySem PySem.Spec PyProof.Rows L2 Kw
/-! ### choices in memory -/
def PairsL (H : Hp) : List Addr → List Ch → Prop := Paired fun a x => H a = some (.tup [tx x.1, tx x.2])
def ChAt (H : Hp) (p : Addr) (L : List Ch) : Prop := ∃ as : List Addr, H p = some (.lst (as.map V.ref)) ∧ PairsL H as L
theorem paired_app {α β : Type} {F : α → β → Prop} : ∀ {a b : List α} {c d : List β}, Paired F a c → Paired F b d → Paired F (a ++ b) (c ++ d)
  | _, _, _, _, .nil, h => h
  | _, _, _, _, .cons r t, h => .cons r (paired_app t h)
theorem paired_get {α β : Type} {F : α → β → Prop} : ∀ {a : List α} {c : List β} {i : Nat} {x : α}, Paired F a c → a[i]? = some x → ∃ y, c[i]? = some y ∧ F x y
  | _, _, _, _, .nil, h => by simp at h
  | _, _, 0, _, .cons r t, h => ⟨_, rfl, by
    have e := Option.some.inj h
    rw [← e]
    exact r⟩
  | _, _, i + 1, x, .cons r t, h => by
    obtain ⟨y, h1, h2⟩ := paired_get (i := i) (x := x) t h
    exact ⟨y, h1, h2⟩
theorem paired_imp {α β : Type} {F G : α → β → Prop} (h : ∀ a b, F a b → G a b) : ∀ {a : List α} {c : List β}, Paired F a c → Paired G a c
  | _, _, .nil => .nil
  | _, _, .cons r t => .cons (h _ _ r) (paired_imp h t)
theorem PairsL.same {H H' : Hp} {as : List Addr} {L : List Ch} (h : PairsL H as L) (s : Same H H') : PairsL H' as L := paired_imp (fun _ _ e => s _ _ e) h
theorem ChAt.same {H H' : Hp} {p : Addr} {L : List Ch} (h : ChAt H p L) (s : Same H H') : ChAt H' p L := by
  obtain ⟨as, h1, h2⟩ := h
  exact ⟨as, s _ _ h1, h2.same s⟩
theorem take_one {α : Type} {l : List α} {i : Nat} {x : α} (h : l[i]? = some x) : l.take (i + 1) = l.take i ++ [x] := by
  rw [List.take_add_one, h]
  rfl
section
variable {P : Program} {w : World} {K : PySem.W.Frag} {mg : Str → Option Value} {base : Heap}
def plus (x : Ch) : Int := (x.1.length : Int) + (x.2.length : Int)
theorem plus_cat (x : Ch) : plus x = ((cat x).length : Int) := by
  unfold plus cat
  rw [List.length_append]
  omega
def sp_best : Sp := fun vs H Q _ => ∃ (a : Addr) (L : List Ch), vs = [.ref a] ∧ ChAt H a L ∧ L ≠ [] ∧ L.length ≤ 1000000 ∧ (∀ x ∈ L, x.1.length + x.2.length ≤ 1000000) ∧ ∀ z H', Same H H' → Best L z → Q (tx z) H'
theorem ok_best (D : Def K mg "best" s_best ["choices"]) (fr : Free mg) : Ok P w K mg base 1 "best" ["choices"] sp_best := by
  refine def_ok D sc_best (fun vs H Q E h => ?_) fun f cdv A outer s H vs Q E hr h => ?_
  · obtain ⟨a, L, rfl, _⟩ := h
    rfl
  · obtain ⟨a, L, rfl, ⟨as, hl, hp⟩, hne, hn, hz, q⟩ := h
    have hlen : as.length = L.length := hp.length
    have hu : A.units + 200 < cLine := by
      have := hr.un
      have e : (A.deeper (envOfC "best" (defScope s_best) s.heap.objs.size f cdv)).units = A.units + 3 := rfl
      omega
    refine ⟨_, pss_cons (ps_set (i := 1) sc_best.nd rfl (.inr rfl) (pe_callB (cr_min rfl) (by rfl) fr.min (by decide +kernel) (pa_cons
        (pe_lc (own := [("command", 2), ("rest", 3)]) (g := gTup K 2 (gCons (gName 2) (gCons (gName 3) gNil))) (by rfl) sc_best.nd (pi_list (pv 0)) (blkOk_by (own := [("command", 2), ("rest", 3)]) (N := n_best) (sc := defScope s_best) (by decide +kernel))
          (fun _ _ _ _ _ => pg_tup rfl (pgs_cons (pg_name (i := 2) sc_best.nd rfl (.inl rfl) (hf := .inr rfl)) (pgs_cons (pg_name (i := 3) sc_best.nd rfl (.inl rfl) (hf := .inr rfl)) pgs_nil))) (fun _ _ _ _ _ => pts_nil)
          (fun _ _ _ _ _ => pe_op op_add (pe_callB c_lenT (by rfl) fr.len PySem.boot_len (pa_cons (pv 2) pa_nil)) (pe_callB c_lenT (by rfl) fr.len PySem.boot_len (pa_cons (pv 3) pa_nil)))) pa_nil)))
      (pss_one (ps_ret (pe_callB (c_minT rfl (by show A.units + 3 + 3 < _; omega)) (by rfl) fr.min (by decide +kernel) (pa_cons
        (pe_lc (own := [("command", 2), ("rest", 3)]) (g := gTup K 2 (gCons (gName 2) (gCons (gName 3) gNil))) (by rfl) sc_best.nd (pi_list (pv 0)) (blkOk_by (own := [("command", 2), ("rest", 3)]) (N := n_best) (sc := defScope s_best) (by decide +kernel))
          (fun _ _ _ _ _ => pg_tup rfl (pgs_cons (pg_name (i := 2) sc_best.nd rfl (.inl rfl) (hf := .inr rfl)) (pgs_cons (pg_name (i := 3) sc_best.nd rfl (.inl rfl) (hf := .inr rfl)) pgs_nil)))
          (fun _ _ _ _ _ => pts_one (pt_cmpR op_eq (pe_op op_add (pe_callB c_lenT (by rfl) fr.len PySem.boot_len (pa_cons (pv 2) pa_nil)) (pe_callB c_lenT (by rfl) fr.len PySem.boot_len (pa_cons (pv 3) pa_nil))) (pv 1) (nomark _)))
          (fun _ _ _ _ _ => pe_op o_addT (pv 2) (pv 3))) pa_nil)))), ?_⟩
    -- the least length
    refine ⟨_, rfl, a, rfl, ⟨_, SqL.of hl⟩, fun D1 new1 => lc_list (xs := as.map V.ref) (fun i H' => Same H H' ∧ H' D1 = some (.lst ((L.take i).map fun x => V.int (plus x)))) ⟨same_new new1, by rw [upd_same]; rfl⟩ (fun i H' _ h => SqL.of (h.1 _ _ hl)) (fun i v H' hv h => ?_) fun H1 h1 => ?_⟩
    · obtain ⟨sm, hD⟩ := h
      rw [List.getElem?_map] at hv
      obtain ⟨ai, e1, e2⟩ := Option.map_eq_some_iff.mp hv
      obtain ⟨x, hx, ht⟩ := paired_get hp e1
      have hb := hz x (List.mem_of_getElem? hx)
      refine ⟨ai, _, e2.symm, SqT.of (sm _ _ ht), rfl, _, _, rfl, _, _, rfl, rfl, rfl, ?_⟩
      refine ⟨_, rfl, x.1, rfl, by omega, _, rfl, x.2, rfl, by omega, _, _, rfl, rfl, _, hD, ?_, fun b o e => ?_, ?_⟩
      · rw [List.length_map, List.length_take, sizeLine_eq]
        omega
      · rw [upd_ne (ne_of_none e new1)]
        exact sm b o e
      · rw [upd_same, take_one hx, List.map_append]
        rfl
    · obtain ⟨sm1, hD1⟩ := h1
      have e0 : L.take (as.map V.ref).length = L := by rw [List.length_map, hlen, List.take_length]
      rw [e0] at hD1
      refine ⟨D1, L.map plus, rfl, ?_, ?_, fun m hm hmin => ?_⟩
      · rw [List.map_map]
        exact SqL.of hD1
      · rw [List.length_map]
        exact List.length_pos_iff.mpr hne
      -- the least of the texts of this length
      obtain ⟨x0, hx0, rfl⟩ := List.mem_map.mp hm
      refine ⟨_, rfl, a, rfl, ⟨_, SqL.of (sm1 _ _ hl)⟩, fun D2 new2 => lc_list (xs := as.map V.ref) (fun i H' => Same H1 H' ∧ H' D2 = some (.lst (((L.take i).filter fun x => decide (plus x = plus x0)).map fun x => tx (cat x)))) ⟨same_new new2, by rw [upd_same]; rfl⟩
        (fun i H' _ h => SqL.of (h.1 _ _ (sm1 _ _ hl))) (fun i v H' hv h => ?_) fun H2 h2 => ?_⟩
      · obtain ⟨sm, hD⟩ := h
        rw [List.getElem?_map] at hv
        obtain ⟨ai, e1, e2⟩ := Option.map_eq_some_iff.mp hv
        obtain ⟨x, hx, ht⟩ := paired_get hp e1
        have hb := hz x (List.mem_of_getElem? hx)
        refine ⟨ai, _, e2.symm, SqT.of (sm _ _ (sm1 _ _ ht)), rfl, _, _, rfl, _, _, rfl, rfl, rfl, ?_⟩
        refine ⟨_, rfl, x.1, rfl, by omega, _, rfl, x.2, rfl, by omega, _, _, rfl, rfl, _, rfl, rfl, _, rfl, ?_⟩
        have ed : decide (V.int ((x.1.length : Int) + (x.2.length : Int)) = V.int (plus x0)) = decide (plus x = plus x0) := decide_eq_decide.mpr ⟨fun z => V.int.inj z, fun z => congrArg V.int z⟩
        rw [ed]
        by_cases hc : plus x = plus x0
        · rw [decide_eq_true hc]
          refine iteT ⟨_, rfl, _, rfl, x.1, x.2, rfl, rfl, by omega, _, hD, ?_, fun b o e => ?_, ?_⟩
          · have := List.length_filter_le (fun x => decide (plus x = plus x0)) (L.take i)
            rw [List.length_map, sizeLine_eq]
            rw [List.length_take] at this
            omega
          · rw [upd_ne (ne_of_none e new2)]
            exact sm b o e
          · rw [upd_same, take_one hx, List.filter_append, List.map_append, List.filter_cons_of_pos (by simpa using hc)]
            rfl
        · rw [decide_eq_false hc]
          refine iteF ⟨sm, ?_⟩
          rw [take_one hx, List.filter_append, List.filter_cons_of_neg (by simpa using hc), List.filter_nil, List.append_nil]
          exact hD
      · obtain ⟨sm2, hD2⟩ := h2
        rw [e0] at hD2
        refine ⟨D2, (L.filter fun x => decide (plus x = plus x0)).map cat, rfl, ?_, ?_, fun z hz1 hz2 => ?_⟩
        · rw [List.map_map]
          exact SqL.of hD2
        · intro e
          have : x0 ∈ L.filter fun x => decide (plus x = plus x0) := List.mem_filter.mpr ⟨hx0, by simp⟩
          rw [List.map_eq_nil_iff.mp e] at this
          cases this
        · refine q z H2 (sm1.trans sm2) ?_
          obtain ⟨x, hx, rfl⟩ := List.mem_map.mp hz1
          obtain ⟨hxL, hxe⟩ := List.mem_filter.mp hx
          have hxe : plus x = plus x0 := of_decide_eq_true hxe
          refine ⟨⟨x, hxL, rfl⟩, fun y hy => ?_⟩
          have h3 := hmin (plus y) (List.mem_map.mpr ⟨y, hy, rfl⟩)
          rw [← hxe, plus_cat, plus_cat] at h3
          by_cases e : (cat x).length = (cat y).length
          · refine .inr ⟨e, hz2 (cat y) (List.mem_map.mpr ⟨y, List.mem_filter.mpr ⟨hy, ?_⟩, rfl⟩)⟩
            apply decide_eq_true
            rw [← hxe, plus_cat, plus_cat, e]
          · exact .inl (by omega)
end
end Kl
set_option Elab.async false
set_option linter.all false
set_option maxRecDepth 100000
set_option maxHeartbeats 4000000
namespace Kl
open PySem PySem.Spec PyProof.Rows L2 Kw
theorem rng_succ (k : Nat) : rng (k + 1) = rng k ++ [k + 1] := by
  show (List.range (k + 1)).map (· + 1) = _
  rw [List.range_succ, List.map_append]
  rfl
theorem rng_zero : rng 0 = [] := rfl
/-- a list of pairs that is being made at p over H -/
def Made1 (H : Hp) (p : Addr) (L : List Ch) (H' : Hp) : Prop := Same H H' ∧ H p = none ∧ ChAt H' p L
theorem Made1.start {H : Hp} {p : Addr} (h : H p = none) : Made1 H p [] (upd H p (.lst [])) := ⟨same_new h, h, [], upd_same, .nil⟩
theorem lst_ne_tup {H : Hp} {a p : Addr} {xs ys : List V} (h : H a = some (.tup xs)) (h' : H p = some (.lst ys)) : a ≠ p := ne_of h h' (by intro z; cases z)
theorem Made1.more {H H' : Hp} {p a : Addr} {L : List Ch} {as : List Addr} {x : Ch} (m : Made1 H p L H') (hp : H' p = some (.lst (as.map V.ref))) (hl : PairsL H' as L) (ha : H' a = none) :
    Made1 H p (L ++ [x]) (upd (upd H' a (.tup [tx x.1, tx x.2])) p (.lst (as.map V.ref ++ [V.ref a]))) := by
  obtain ⟨sm, hn, _⟩ := m
  have nap : a ≠ p := fun e => by
    rw [e, hp] at ha
    cases ha
  refine ⟨fun b o e => ?_, hn, as ++ [a], ?_, paired_app (paired_imp' hl hp ha) (.cons ?_ .nil)⟩
  · rw [upd_ne (ne_of_none e hn), upd_ne (ne_of_none (sm _ _ e) ha)]
    exact sm _ _ e
  · rw [upd_same, List.map_append]
    rfl
  · rw [upd_ne nap, upd_same]
where
  paired_imp' {H' : Hp} {p a : Addr} {as as' : List Addr} {L : List Ch} {x : Ch} (hl : PairsL H' as L) (hp : H' p = some (.lst (as'.map V.ref))) (ha : H' a = none) : PairsL (upd (upd H' a (.tup [tx x.1, tx x.2])) p (.lst (as'.map V.ref ++ [V.ref a]))) as L :=
    paired_imp (fun b y e => by rw [upd_ne (lst_ne_tup e hp), upd_ne (ne_of_none e ha)]; exact e) hl
theorem Made1.get {H H' : Hp} {p : Addr} {L : List Ch} (m : Made1 H p L H') : ∃ as : List Addr, H' p = some (.lst (as.map V.ref)) ∧ PairsL H' as L ∧ as.length = L.length := by
  obtain ⟨_, _, as, h1, h2⟩ := m
  exact ⟨as, h1, h2, h2.length⟩
theorem two_eq {a b c d : V} (h1 : a = c) (h2 : b = d) : ([a, b] ++ [] : List V) = [c, d] := by
  rw [h1, h2]
  rfl
theorem one_eq {a c : V} (h1 : a = c) : ([a] ++ [] : List V) = [c] := by
  rw [h1]
  rfl
theorem getD_at {bs : List T} {n : Nat} {z : Int} (h : n < bs.length) (e : z = (n : Int)) : atI (bs.map tx) z = some (tx (bs.getD n [])) := by
  rw [e]
  refine atI_nat ?_
  rw [List.getElem?_map, List.getElem?_eq_getElem h, List.getD_eq_getElem?_getD, List.getElem?_eq_getElem h]
  rfl
section
variable {P : Program} {w : World} {K : PySem.W.Frag} {mg : Str → Option Value} {base : Heap}
def sp_across : Sp := fun vs H Q _ => ∃ (t : T) (b : Addr) (bs : List T), vs = [tx t, .ref b] ∧ H b = some (.lst (bs.map tx)) ∧ bs.length = t.length + 1 ∧ t.length < 999 ∧
  ∀ p H', Same H H' → ChAt H' p (acrossL t (fun n => bs.getD n []) (t.takeWhile (· == 32)).length (t.takeWhile (· == 35)).length) → Q (.ref p) H'
theorem ok_across (D : Def K mg "across" s_across ["cells", "behind"]) (fr : Free mg) (Gr : Ok P w K mg base 1 "run_of" ["cells", "sign"] sp_run_of) (Gc : Ok P w K mg base 1 "counted" ["times", "sign"] sp_counted) :
    Ok P w K mg base 2 "across" ["cells", "behind"] sp_across := by
  refine def_ok D sc_across (fun vs H Q E h => ?_) fun f cdv A outer s H vs Q E hr h => ?_
  · obtain ⟨t, b, bs, rfl, _⟩ := h
    rfl
  · obtain ⟨t, b, bs, rfl, hb, hbl, hz, q⟩ := h
    have hk1 := tw_le (· == 32) t
    have hk2 := tw_le (· == 35) t
    have e1 : t.length + 1 + 1 = t.length + 2 := rfl
    refine ⟨_, pss_cons (ps_set (i := 2) sc_across.nd rfl (.inl rfl) (pe_lst pa_nil))
      (pss_cons (ps_for PassesOwn.never rfl (pi_range2 (by rfl) fr.range (pa_cons pe_int (pa_cons (pe_op op_add (pe_f Gr hr (by rfl) (pa_cons (pv 0) (pa_cons pe_str pa_nil))) pe_int) pa_nil))) (pg_name (i := 3) sc_across.nd rfl (.inl rfl))
        (pss_one (ps_expr (pe_bm PySem.F.plainAttrs_list PySem.F.slot_list_append PySem.F.type_list_append mt_append (pv 2) (pa_cons (pe_tup (pa_cons (pe_f Gc hr (by rfl) (pa_cons (pv 3) (pa_cons pe_str pa_nil))) (pa_cons (pe_ix ix_list (pv 1) (pv 3) (fun _ _ => rfl)) pa_nil))) pa_nil)))))
      (pss_cons (ps_for PassesOwn.never rfl (pi_range2 (by rfl) fr.range (pa_cons pe_int (pa_cons (pe_op op_add (pe_f Gr hr (by rfl) (pa_cons (pv 0) (pa_cons pe_str pa_nil))) pe_int) pa_nil))) (pg_name (i := 3) sc_across.nd rfl (.inl rfl))
        (pss_one (ps_expr (pe_bm PySem.F.plainAttrs_list PySem.F.slot_list_append PySem.F.type_list_append mt_append (pv 2) (pa_cons (pe_tup (pa_cons (pe_f Gc hr (by rfl) (pa_cons (pv 3) (pa_cons pe_str pa_nil))) (pa_cons (pe_ix ix_list (pv 1) (pv 3) (fun _ _ => rfl)) pa_nil))) pa_nil)))))
      (pss_cons (ps_for PassesOwn.never rfl (pi_range2 (by rfl) fr.range (pa_cons pe_int (pa_cons (pe_op op_add (pe_callB c_lenT (by rfl) fr.len PySem.boot_len (pa_cons (pv 0) pa_nil)) pe_int) pa_nil))) (pg_name (i := 3) sc_across.nd rfl (.inl rfl))
        (pss_one (ps_expr (pe_bm PySem.F.plainAttrs_list PySem.F.slot_list_append PySem.F.type_list_append mt_append (pv 2) (pa_cons (pe_tup (pa_cons (pe_op o_addT (pe_op o_addT pe_str (pe_slice sl_txt (pv 0) po_none (po_some (pv 3)))) pe_str) (pa_cons (pe_ix ix_list (pv 1) (pv 3) (fun _ _ => rfl)) pa_nil))) pa_nil)))))
      (pss_one (ps_ret (pv 2)))))), ?_⟩
    refine ⟨Nat.zero_le _, fun p np => ?_⟩
    -- a turn's end: the pair is laid, the list is one longer
    have turn : ∀ {L : List Ch} {H' : Hp} (x : Ch), L.length ≤ 3000 → Made1 H p L H' → ∀ a, H' a = none → ∃ as : List Addr, (upd H' a (.tup [tx x.1, tx x.2])) p = some (.lst (as.map V.ref)) ∧ (as.map V.ref).length < sizeLine ∧ Made1 H p (L ++ [x]) (upd (upd H' a (.tup [tx x.1, tx x.2])) p (.lst (as.map V.ref ++ [V.ref a]))) := by
      intro L H' x hL m a ha
      obtain ⟨as, h1, h2, h3⟩ := m.get
      refine ⟨as, ?_, ?_, m.more h1 h2 ha⟩
      · rw [upd_ne (ne_of_none h1 ha)]
        exact h1
      · rw [List.length_map, sizeLine_eq]
        omega
    -- blanks
    refine ⟨_, rfl, t, 32, two_eq rfl lit_sp, by omega, _, _, rfl, rfl, 1, _, rfl, ⟨by omega, by omega, by omega, by omega⟩, ?_⟩
    have n1 : (((t.takeWhile (· == 32)).length : Int) + 1 - 1).toNat = (t.takeWhile (· == 32)).length := by omega
    refine for_range (lo := 1) (n := (((t.takeWhile (· == 32)).length : Int) + 1 - 1).toNat)
      (fun i σ H' => ∃ y3, σ = [some (tx t), some (.ref b), some (.ref p), y3] ∧ Made1 H p ((rng i).map fun n => (cmdT n 62, bs.getD n [])) H') ⟨none, rfl, Made1.start np⟩ (fun i σ H' hi hP => ?_) fun σ H' hP => ?_
    · obtain ⟨y3, rfl, m⟩ := hP
      refine ⟨_, rfl, .inl ⟨rfl, _, SqL.of (m.get.choose_spec.1)⟩, _, rfl, i + 1, 62, two_eq (congrArg V.int (by omega)) lit_gt, by omega, by omega, ?_⟩
      refine ⟨_, rfl, _, rfl, b, _, _, _, rfl, rfl, SqL.of (m.1 _ _ hb), getD_at (n := i + 1) (by omega) (by omega), by show 2 ≤ sizeLine; decide, fun a na => ?_⟩
      obtain ⟨as, h1, h2, h3⟩ := turn (cmdT (i + 1) 62, bs.getD (i + 1) []) (by rw [List.length_map, List.length_map, List.length_range]; omega) m a na
      refine ⟨p, _, _, rfl, rfl, h1, h2, _, rfl, ?_⟩
      rw [rng_succ, List.map_append]
      exact h3
    · obtain ⟨y3, rfl, m⟩ := hP
      rw [n1] at m
      -- bars
      refine ⟨_, rfl, t, 35, two_eq rfl lit_bar, by omega, _, _, rfl, rfl, 1, _, rfl, ⟨by omega, by omega, by omega, by omega⟩, ?_⟩
      have n2 : (((t.takeWhile (· == 35)).length : Int) + 1 - 1).toNat = (t.takeWhile (· == 35)).length := by omega
      refine for_range (lo := 1) (n := (((t.takeWhile (· == 35)).length : Int) + 1 - 1).toNat)
        (fun i σ H' => ∃ y3, σ = [some (tx t), some (.ref b), some (.ref p), y3] ∧ Made1 H p ((rng (t.takeWhile (· == 32)).length).map (fun n => (cmdT n 62, bs.getD n [])) ++ (rng i).map fun n => (cmdT n 35, bs.getD n [])) H')
        ⟨y3, rfl, by rw [rng_zero, List.map_nil, List.append_nil]; exact m⟩ (fun i σ H' hi hP => ?_) fun σ H' hP => ?_
      · obtain ⟨y3, rfl, m⟩ := hP
        refine ⟨_, rfl, .inl ⟨rfl, _, SqL.of (m.get.choose_spec.1)⟩, _, rfl, i + 1, 35, two_eq (congrArg V.int (by omega)) lit_bar, by omega, by omega, ?_⟩
        refine ⟨_, rfl, _, rfl, b, _, _, _, rfl, rfl, SqL.of (m.1 _ _ hb), getD_at (n := i + 1) (by omega) (by omega), by show 2 ≤ sizeLine; decide, fun a na => ?_⟩
        obtain ⟨as, h1, h2, h3⟩ := turn (cmdT (i + 1) 35, bs.getD (i + 1) []) (by rw [List.length_append, List.length_map, List.length_map, List.length_range, List.length_map, List.length_map, List.length_range]; omega) m a na
        refine ⟨p, _, _, rfl, rfl, h1, h2, _, rfl, ?_⟩
        rw [rng_succ, List.map_append, ← List.append_assoc]
        exact h3
      · obtain ⟨y3, rfl, m⟩ := hP
        rw [n2] at m
        -- quoted
        refine ⟨_, rfl, t, rfl, by omega, _, _, rfl, rfl, 1, _, rfl, ⟨by omega, by omega, by omega, by omega⟩, ?_⟩
        have n3 : ((t.length : Int) + 1 - 1).toNat = t.length := by omega
        refine for_range (lo := 1) (n := ((t.length : Int) + 1 - 1).toNat)
          (fun i σ H' => ∃ y3, σ = [some (tx t), some (.ref b), some (.ref p), y3] ∧ Made1 H p ((rng (t.takeWhile (· == 32)).length).map (fun n => (cmdT n 62, bs.getD n [])) ++ (rng (t.takeWhile (· == 35)).length).map (fun n => (cmdT n 35, bs.getD n [])) ++ (rng i).map fun n => (quoted (t.take n), bs.getD n [])) H')
          ⟨y3, rfl, by rw [rng_zero, List.map_nil, List.append_nil]; exact m⟩ (fun i σ H' hi hP => ?_) fun σ H' hP => ?_
        · obtain ⟨y3, rfl, m⟩ := hP
          refine ⟨_, rfl, .inl ⟨rfl, _, SqL.of (m.get.choose_spec.1)⟩, _, rfl, _, rfl, (1 : Int) + (i : Int), rfl, t, rfl, by omega, .inr (.inr ⟨i + 1, rfl, congrArg some (by omega), by omega, ?_⟩)⟩
          have lt : (t.take (i + 1)).length = i + 1 := by
            rw [List.length_take]
            omega
          refine ⟨[34], t.take (i + 1), lit_quo, rfl, by rw [lt]; simp; omega, [34] ++ t.take (i + 1), [34], rfl, lit_quo, by rw [List.length_append, lt]; simp; omega, ?_⟩
          refine ⟨_, rfl, _, rfl, b, _, _, _, rfl, rfl, SqL.of (m.1 _ _ hb), getD_at (n := i + 1) (by omega) (by omega), by show 2 ≤ sizeLine; decide, fun a na => ?_⟩
          obtain ⟨as, h1, h2, h3⟩ := turn (quoted (t.take (i + 1)), bs.getD (i + 1) []) (by rw [List.length_append, List.length_append, List.length_map, List.length_map, List.length_range, List.length_map, List.length_map, List.length_range, List.length_map, List.length_map, List.length_range]; omega) m a na
          refine ⟨p, _, _, rfl, rfl, h1, h2, _, rfl, ?_⟩
          rw [rng_succ, List.map_append, ← List.append_assoc]
          exact h3
        · obtain ⟨y3, rfl, m⟩ := hP
          rw [n3] at m
          exact ⟨_, rfl, q p H' m.1 m.2.2⟩
end
end Kl
set_option Elab.async false
set_option linter.all false
set_option maxRecDepth 100000
set_option maxHeartbeats 4000000
namespace Kl
open PySem PySem.Spec PyProof.Rows L2 Kw
/-- a list's item, the class's part named -/
theorem ix_listK {X : Cx} (K : PySem.W.Frag) (h : X.K = K := by rfl) : IxR X (rIxL K) := by
  subst h
  exact ix_list
theorem ix_tupK {X : Cx} (K : PySem.W.Frag) (h : X.K = K := by rfl) : IxR X (rIxT K) := by
  subst h
  exact ix_tup
section
variable {P : Program} {w : World} {K : PySem.W.Frag} {mg : Str → Option Value} {base : Heap}
def sp_downward : Sp := fun vs H Q _ => ∃ (a b : Addr) (p : Pg) (r : Nat) (below : List T), vs = [.ref a, .int (r : Int), .ref b] ∧ H a = some (.tup (pgv p)) ∧ (∀ t ∈ p, t.length ≤ 1000) ∧ r < p.length ∧ p.length < 990 ∧
  H b = some (.lst (below.map tx)) ∧ below.length = p.length + 1 ∧
  ∀ k q H', RunOf (fun i => isBl (rowOf p (r + 1 + i))) (p.length - (r + 1)) k → Same H H' → ChAt H' q (downL (fun j => below.getD j []) r k p.length) → Q (.ref q) H'
theorem ok_downward (D : Def K mg "downward" s_downward ["page", "row", "below"]) (fr : Free mg) (Gb : Ok P w K mg base 2 "blank_rows" ["page", "row"] sp_blank_rows) (Gc : Ok P w K mg base 1 "counted" ["times", "sign"] sp_counted) :
    Ok P w K mg base 3 "downward" ["page", "row", "below"] sp_downward := by
  refine def_ok D sc_downward (fun vs H Q E h => ?_) fun f cdv A outer s H vs Q E hr h => ?_
  · obtain ⟨a, b, p, r, below, rfl, _⟩ := h
    rfl
  · obtain ⟨a, b, p, r, below, rfl, ha, hz, hrl, hpl, hb, hbl, q⟩ := h
    refine ⟨_, pss_cons (ps_set (i := 3) sc_downward.nd rfl (.inl rfl) (pe_f Gb hr (by rfl) (pa_cons (pv 0) (pa_cons (pe_op op_add (pv 1) pe_int) pa_nil))))
      (pss_cons (ps_setLc (i := 4) (own := [("n", 5)]) (g := gName 5) (tt := tYes) (by rfl) sc_downward.nd rfl rfl (sw_true rfl rfl rfl (by decide +kernel))
          (pi_range2 (by rfl) fr.range (pa_cons pe_int (pa_cons (pe_op op_add (pv 3) pe_int) pa_nil))) (blkOk_by (own := [("n", 5)]) (N := n_downward) (sc := defScope s_downward) (by decide +kernel))
          (fun _ _ _ _ _ => pg_name (i := 5) sc_downward.nd rfl (.inl rfl)) (fun _ _ _ _ _ => pts_nil)
          (fun _ _ _ _ _ => pe_tup (pa_cons (pe_f (Gc.up (show 1 ≤ 2 by decide)) hr (by rfl) (pa_cons (pv 5) (pa_cons pe_str pa_nil))) (pa_cons (pe_ix (ix_listK K) (pv 2) (pe_op op_add (pv 1) (pv 5)) (fun _ _ => rfl)) pa_nil))))
      (pss_cons (ps_if (pt_cmpR op_eq (pe_op op_add (pe_op op_add (pv 1) pe_int) (pv 3)) (pe_callB call_len (by rfl) fr.len PySem.boot_len (pa_cons (pv 0) pa_nil)) (nomark _))
        (pss_one (ps_expr (pe_bm PySem.F.plainAttrs_list PySem.F.slot_list_append PySem.F.type_list_append mt_append (pv 4) (pa_cons (pe_tup (pa_cons pe_str (pa_cons pe_str pa_nil))) pa_nil)))) pss_nil)
      (pss_one (ps_ret (pv 4))))), ?_⟩
    refine ⟨_, rfl, _, rfl, _, _, rfl, rfl, a, p, r + 1, two_eq rfl (congrArg V.int (by omega)), ha, hz, by omega, fun k hk => ?_⟩
    have hk1 := hk.1
    have n1 : ((k : Int) + 2 - 1).toNat = k + 1 := by omega
    refine ⟨_, rfl, _, _, rfl, rfl, 1, _, rfl, ⟨by omega, by omega, by omega, by omega⟩, fun p1 np => ?_⟩
    refine lc_range (lo := 1) (n := ((k : Int) + 2 - 1).toNat) (fun i H' => Made1 H p1 ((rng i).map fun n => (cmdT n 47, below.getD (r + n) [])) H') (Made1.start np) (fun i H' hi m => ?_) fun H' m => ?_
    · obtain ⟨as, h1, h2, h3⟩ := m.get
      refine ⟨rfl, _, rfl, i + 1, 47, two_eq (congrArg V.int (by omega)) lit_sl, by omega, by omega, ?_⟩
      refine ⟨_, rfl, _, rfl, _, rfl, _, _, rfl, rfl, b, _, _, _, rfl, rfl, SqL.of (m.1 _ _ hb), getD_at (n := r + (i + 1)) (by omega) (by omega), by show 2 ≤ sizeLine; decide, fun c nc => ?_⟩
      have hn1 : (upd H' c (.tup [tx (cmdT (i + 1) 47), tx (below.getD (r + (i + 1)) [])])) p1 = some (.lst (as.map V.ref)) := by
        rw [upd_ne (ne_of_none h1 nc)]
        exact h1
      refine ⟨_, hn1, ?_, ?_⟩
      · rw [List.length_map, h3, List.length_map, List.length_map, List.length_range, sizeLine_eq]
        omega
      · rw [rng_succ, List.map_append]
        exact m.more (x := (cmdT (i + 1) 47, below.getD (r + (i + 1)) [])) h1 h2 nc
    · rw [n1] at m
      refine ⟨_, rfl, _, _, rfl, rfl, _, rfl, _, _, rfl, rfl, _, rfl, _, _, rfl, .inr ⟨_, SqT.of (m.1 _ _ ha), rfl⟩, rfl, _, rfl, ?_⟩
      rw [List.length_map]
      refine ite2 (fun e => ?_) fun e => ?_
      · have e1 : r + 1 + k = p.length := by
          have := V.int.inj (of_decide_eq_true e)
          omega
        obtain ⟨as, h1, h2, h3⟩ := m.get
        refine ⟨_, rfl, .inl ⟨rfl, _, SqL.of h1⟩, by show 2 ≤ sizeLine; decide, fun c nc => ?_⟩
        have hn1 : (upd H' c (.tup [V.str (Str.ofString ";"), V.str (Str.ofString "")])) p1 = some (.lst (as.map V.ref)) := by
          rw [upd_ne (ne_of_none h1 nc)]
          exact h1
        refine ⟨p1, _, _, rfl, rfl, hn1, ?_, _, rfl, ?_⟩
        · rw [List.length_map, h3, List.length_map, List.length_map, List.length_range, sizeLine_eq]
          omega
        · have m2 := m.more (x := ([59], [])) h1 h2 nc
          rw [lit_semi, lit_e]
          refine q k p1 _ hk m2.1 ?_
          unfold downL
          rw [if_pos e1]
          exact m2.2.2
      · have e1 : r + 1 + k ≠ p.length := fun z => e (decide_eq_true (congrArg V.int (by omega)))
        refine ⟨_, rfl, q k p1 _ hk m.1 ?_⟩
        unfold downL
        rw [if_neg e1, List.append_nil]
        exact m.2.2
def sp_copies : Sp := fun vs H Q _ => ∃ (a b : Addr) (p : Pg) (r : Nat) (below : List T), vs = [.ref a, .int (r : Int), .ref b] ∧ H a = some (.tup (pgv p)) ∧ r < p.length ∧ p.length < 990 ∧
  H b = some (.lst (below.map tx)) ∧ below.length = p.length + 1 ∧
  ∀ k q H', (r ≠ 0 → RunOf (fun i => rowOf p (r + i) = rowOf p (r - 1)) (p.length - r) k) → Same H H' → ChAt H' q (if r = 0 then [] else copL (fun j => below.getD j []) r k) → Q (.ref q) H'
theorem ok_copies (D : Def K mg "copies" s_copies ["page", "row", "below"]) (fr : Free mg) (Ga : Ok P w K mg base 1 "alike_rows" ["page", "row"] sp_alike_rows) (Gc : Ok P w K mg base 1 "counted" ["times", "sign"] sp_counted) :
    Ok P w K mg base 2 "copies" ["page", "row", "below"] sp_copies := by
  refine def_ok D sc_copies (fun vs H Q E h => ?_) fun f cdv A outer s H vs Q E hr h => ?_
  · obtain ⟨a, b, p, r, below, rfl, _⟩ := h
    rfl
  · obtain ⟨a, b, p, r, below, rfl, ha, hrl, hpl, hb, hbl, q⟩ := h
    refine ⟨_, pss_cons (ps_if (pt_cmpR op_eq (pv 1) pe_int (nomark _)) (pss_one (ps_ret (pe_lst pa_nil))) pss_nil)
      (pss_one (ps_ret (pe_lc (own := [("n", 3)]) (g := gName 3) (tt := tYes) (by rfl) sc_copies.nd
          (pi_range2 (by rfl) fr.range (pa_cons pe_int (pa_cons (pe_op op_add (pe_f Ga hr (by rfl) (pa_cons (pv 0) (pa_cons (pv 1) pa_nil))) pe_int) pa_nil))) (blkOk_by (own := [("n", 3)]) (N := n_copies) (sc := defScope s_copies) (by decide +kernel))
          (fun _ _ _ _ _ => pg_name (i := 3) sc_copies.nd rfl (.inl rfl)) (fun _ _ _ _ _ => pts_nil)
          (fun _ _ _ _ _ => pe_tup (pa_cons (pe_f Gc hr (by rfl) (pa_cons (pv 3) (pa_cons pe_str pa_nil))) (pa_cons (pe_ix (ix_listK K) (pv 2) (pe_op op_add (pv 1) (pv 3)) (fun _ _ => rfl)) pa_nil)))))), ?_⟩
    refine ⟨_, rfl, rfl, _, rfl, ite2 (fun e => ?_) fun e => ?_⟩
    · have e1 : r = 0 := by
        have := V.int.inj (of_decide_eq_true e)
        omega
      refine ⟨Nat.zero_le _, fun p1 np => q 0 p1 _ (fun z => absurd e1 z) (same_new np) ?_⟩
      rw [if_pos e1]
      exact ⟨[], upd_same, .nil⟩
    · have e1 : r ≠ 0 := fun z => e (by rw [z]; rfl)
      refine ⟨_, rfl, _, rfl, a, p, r, two_eq rfl rfl, ha, by omega, by omega, fun k hk => ?_⟩
      have hk1 := hk.1
      have n1 : ((k : Int) + 1 - 1).toNat = k := by omega
      refine ⟨_, _, rfl, rfl, 1, _, rfl, ⟨by omega, by omega, by omega, by omega⟩, fun p1 np => ?_⟩
      refine lc_range (lo := 1) (n := ((k : Int) + 1 - 1).toNat) (fun i H' => Made1 H p1 ((rng i).map fun n => (cmdT n 94, below.getD (r + n) [])) H') (Made1.start np) (fun i H' hi m => ?_) fun H' m => ?_
      · obtain ⟨as, h1, h2, h3⟩ := m.get
        refine ⟨rfl, _, rfl, i + 1, 94, two_eq (congrArg V.int (by omega)) lit_up, by omega, by omega, ?_⟩
        refine ⟨_, rfl, _, rfl, _, rfl, _, _, rfl, rfl, b, _, _, _, rfl, rfl, SqL.of (m.1 _ _ hb), getD_at (n := r + (i + 1)) (by omega) (by omega), by show 2 ≤ sizeLine; decide, fun c nc => ?_⟩
        have hn1 : (upd H' c (.tup [tx (cmdT (i + 1) 94), tx (below.getD (r + (i + 1)) [])])) p1 = some (.lst (as.map V.ref)) := by
          rw [upd_ne (ne_of_none h1 nc)]
          exact h1
        refine ⟨_, hn1, ?_, ?_⟩
        · rw [List.length_map, h3, List.length_map, List.length_map, List.length_range, sizeLine_eq]
          omega
        · rw [rng_succ, List.map_append]
          exact m.more (x := (cmdT (i + 1) 94, below.getD (r + (i + 1)) [])) h1 h2 nc
      · rw [n1] at m
        refine q k p1 _ (fun _ => hk) m.1 ?_
        rw [if_neg e1]
        exact m.2.2
end
end Kl
set_option Elab.async false
set_option linter.all false
set_option maxRecDepth 100000
set_option maxHeartbeats 4000000
namespace Kl
open PySem PySem.Spec PyProof.Rows L2 Kw
theorem sizes {w h : Nat} (hw : w ≤ 250) (hh : h ≤ 250) : (w + 3) * h + 1 ≤ 63251 := by
  have := Nat.mul_le_mul (show w + 3 ≤ 253 by omega) hh
  omega
theorem acrossL_len (t : T) (bs : Nat → T) (k1 k2 : Nat) : (acrossL t bs k1 k2).length = k1 + k2 + t.length := by
  unfold acrossL
  rw [List.length_append, List.length_append, List.length_map, List.length_map, List.length_map, List.length_map, List.length_map, List.length_map, List.length_range, List.length_range, List.length_range]
theorem downL_len (below : Nat → T) (r k h : Nat) : (downL below r k h).length ≤ k + 2 := by
  unfold downL
  rw [List.length_append, List.length_map, List.length_map, List.length_range]
  split <;> simp <;> omega
theorem copL_len (below : Nat → T) (r k : Nat) : (copL below r k).length = k := by
  unfold copL
  rw [List.length_map, List.length_map, List.length_range]
theorem ChAt.lst {H : Hp} {p : Addr} {L : List Ch} (c : ChAt H p L) : ∃ as : List Addr, H p = some (.lst (as.map V.ref)) ∧ PairsL H as L ∧ as.length = L.length := by
  obtain ⟨as, h1, h2⟩ := c
  exact ⟨as, h1, h2, h2.length⟩
theorem cut_drop (xs : List V) {i : Nat} (h : i ≤ xs.length) : cutV xs (some (i : Int)) none = xs.drop i := by
  unfold cutV
  rw [HT.sIx_nat, HT.sIx_none, Nat.min_eq_left h]
  exact List.take_of_length_le (by rw [List.length_drop]; exact Nat.le_refl _)
theorem ixN_nat {n i : Nat} (h : i < n) : ixN n (i : Int) = some i := by
  unfold ixN
  rw [if_pos (by omega), if_pos (by omega)]
  simp
theorem getD_set {l : List T} {i j : Nat} {x : T} (h : i < l.length) : (l.set i x).getD j [] = if j = i then x else l.getD j [] := by
  rw [List.getD_eq_getElem?_getD, List.getD_eq_getElem?_getD]
  by_cases e : j = i
  · subst e
    rw [if_pos rfl, List.getElem?_set_self h]
    rfl
  · rw [if_neg e, List.getElem?_set_ne (Ne.symm e)]
theorem flat_one (k : Nat) (v : V) : (List.replicate k [v]).flatten = List.replicate k v := flat_rep v k
section
variable {P : Program} {w : World} {K : PySem.W.Frag} {mg : Str → Option Value} {base : Heap}
def sp_row : Sp := fun vs H Q _ => ∃ (a b : Addr) (p : Pg) (r wd : Nat) (below : List T), vs = [.ref a, .int (r : Int), .ref b] ∧ H a = some (.tup (pgv p)) ∧ Right wd p.length p ∧ 1 ≤ wd ∧ wd ≤ 250 ∧ p.length ≤ 250 ∧ r < p.length ∧
  H b = some (.lst (below.map tx)) ∧ below.length = p.length + 1 ∧ (∀ j, r < j → j ≤ p.length → Least wd p j 0 (below.getD j [])) ∧ ∀ z H', Same H H' → Least wd p r 0 z → Q (tx z) H'
theorem ok_row (D : Def K mg "row_commands" s_row_commands ["page", "row", "below"]) (fr : Free mg) (Gb : Ok P w K mg base 1 "is_blank" ["cells"] sp_is_blank) (Ga : Ok P w K mg base 2 "across" ["cells", "behind"] sp_across)
    (Gd : Ok P w K mg base 3 "downward" ["page", "row", "below"] sp_downward) (Gc : Ok P w K mg base 2 "copies" ["page", "row", "below"] sp_copies) (Gs : Ok P w K mg base 1 "best" ["choices"] sp_best) :
    Ok P w K mg base 4 "row_commands" ["page", "row", "below"] sp_row := by
  refine def_ok D sc_row_commands (fun vs H Q E h => ?_) fun f cdv A outer s H vs Q E hr h => ?_
  · obtain ⟨a, b, p, r, wd, below, rfl, _⟩ := h
    rfl
  · obtain ⟨a, b, p, r, wd, below, rfl, ha, R, w1, w2, p2, hrl, hb, hbl, hB, q⟩ := h
    have hw : (rowOf p r).length = wd := R.row hrl
    have small : ∀ t ∈ p, t.length ≤ 1000 := fun t ht => by
      rw [R.wid t ht]
      omega
    have bnd := sizes w2 p2
    refine ⟨_, pss_cons (ps_set (i := 3) sc_row_commands.nd rfl (.inl rfl) (pe_ix ix_tup (pv 0) (pv 1) (fun _ _ => rfl)))
      (pss_cons (ps_set (i := 4) sc_row_commands.nd rfl (.inl rfl) (pe_op op_rep (pe_lst (pa_cons pe_str pa_nil)) (pe_op op_add (pe_callB c_lenT (by rfl) fr.len PySem.boot_len (pa_cons (pv 3) pa_nil)) pe_int)))
      (pss_cons (ps_for PassesOwn.never rfl (pi_range3 rfl fr.range (pa_cons (pe_callB c_lenT (by rfl) fr.len PySem.boot_len (pa_cons (pv 3) pa_nil)) (pa_cons (pe_un un_neg pe_int) (pa_cons (pe_un un_neg pe_int) pa_nil)))) (pg_name (i := 5) sc_row_commands.nd rfl (.inl rfl))
        (pss_cons (ps_set (i := 6) sc_row_commands.nd rfl (.inl rfl) (pe_f (Ga.up (show 2 ≤ 3 by decide)) hr (by rfl) (pa_cons (pe_slice sl_txt (pv 3) (po_some (pv 5)) po_none) (pa_cons (pe_slice sl_list (pv 4) (po_some (pv 5)) po_none) pa_nil))))
        (C8.pss_cut (ps_if (pt_val (pe_f (Gb.up (show 1 ≤ 3 by decide)) hr (by rfl) (pa_cons (pe_slice sl_txt (pv 3) (po_some (pv 5)) po_none) pa_nil)))
            (pss_one (ps_set (i := 6) sc_row_commands.nd rfl (.inl rfl) (pe_op op_cat (pv 6) (pe_f Gd hr (by rfl) (pa_cons (pv 0) (pa_cons (pv 1) (pa_cons (pv 2) pa_nil))))))) pss_nil)
        (C8.pss_cut (ps_if (pt_cmpR op_eq (pv 5) pe_int (nomark _))
            (pss_one (ps_set (i := 6) sc_row_commands.nd rfl (.inl rfl) (pe_op op_cat (pv 6) (pe_f (Gc.up (show 2 ≤ 3 by decide)) hr (by rfl) (pa_cons (pv 0) (pa_cons (pv 1) (pa_cons (pv 2) pa_nil))))))) pss_nil)
        (pss_one (ps_asg (pe_f (Gs.up (show 1 ≤ 3 by decide)) hr (by rfl) (pa_cons (pv 6) pa_nil)) (pg_sub (pv 4) (pv 5) set_list)))))))
      (pss_one (ps_ret (pe_ix ix_list (pv 4) pe_int (fun _ _ => rfl)))))), ?_⟩
    refine ⟨_, rfl, _, rfl, a, _, _, _, rfl, rfl, SqT.of ha, row_atI p hrl rfl, by show 1 ≤ sizeLine; decide, fun l nl => ?_⟩
    refine ⟨_, rfl, rowOf p r, rfl, by omega, _, _, rfl, rfl, l, _, _, rfl, rfl, upd_same, by omega, by omega, ?_, fun bh nb => ?_⟩
    · rw [sizeLine_eq]
      show 1 * _ ≤ _
      omega
    have nlb : l ≠ bh := fun e => by
      rw [e, upd_same] at nb
      cases nb
    have nbh : H bh = none := by
      rw [upd_ne (Ne.symm nlb)] at nb
      exact nb
    refine ⟨_, rfl, rowOf p r, rfl, by omega, 1, rfl, 1, rfl, _, _, _, _, rfl, RgC.neg (by omega) (by omega) (by omega) (by omega), ?_⟩
    have hn : (((rowOf p r).length : Int) - -1).toNat = wd + 1 := by omega
    refine for_rangeC (lo := ((rowOf p r).length : Int)) (c := -1) (n := (((rowOf p r).length : Int) - -1).toNat)
      (fun i σ H' => ∃ (y5 y6 : Option V) (bs : List T), σ = [some (.ref a), some (.int (r : Int)), some (.ref b), some (tx (rowOf p r)), some (.ref bh), y5, y6] ∧ Same H H' ∧ H' bh = some (.lst (bs.map tx)) ∧ bs.length = wd + 1 ∧
        ∀ c, wd + 1 ≤ c + i → c ≤ wd → Least wd p r c (bs.getD c [])) ⟨none, none, List.replicate (wd + 1) [], rfl, (same_new nl).trans (same_new nb), ?_, List.length_replicate, fun c h1 h2 => by omega⟩ (fun i σ H' hi hP => ?_) fun σ H' hP => ?_
    · rw [upd_same, flat_one, List.map_replicate, lit_e]
      congr 3
    · obtain ⟨y5, y6, bs, rfl, sm, hbh, hbsl, hL⟩ := hP
      obtain ⟨c, hc, hci⟩ : ∃ c : Nat, c ≤ wd ∧ c + i = wd := ⟨wd - i, by omega, by omega⟩
      have eplace : (((rowOf p r).length : Int) + (i : Nat) * -1) = (c : Int) := by omega
      rw [eplace]
      have M : Rm wd p.length p r c := ⟨R, hrl, hc, by omega, by omega⟩
      have dl : ((rowOf p r).drop c).length = wd - c := drop_len M
      -- choices = across(cells[place:], behind[place:])
      refine ⟨_, rfl, _, rfl, (c : Int), rfl, rowOf p r, rfl, by omega, .inr (.inl ⟨c, rfl, rfl, by omega, ?_⟩)⟩
      refine ⟨_, rfl, _, rfl, (c : Int), rfl, bh, _, rfl, SqL.of hbh, fun sl ns => ?_⟩
      have ecut : cutV (bs.map tx) (some (c : Int)) none = (bs.drop c).map tx := by
        rw [cut_drop _ (by rw [List.length_map]; omega), List.map_drop]
      refine ⟨(rowOf p r).drop c, sl, bs.drop c, two_eq rfl rfl, by rw [upd_same, ecut], by rw [List.length_drop, dl]; omega, by omega, fun ch H1 s1 hch => ?_⟩
      have sm1 : Same H' H1 := (same_new ns).trans s1
      -- the counts
      generalize hk1 : (((rowOf p r).drop c).takeWhile (· == 32)).length = k1 at hch
      generalize hk2 : (((rowOf p r).drop c).takeWhile (· == 35)).length = k2 at hch
      have RK1 : RunOf (fun i => ((rowOf p r).drop c)[i]? = some 32) (wd - c) k1 := by
        have := run_tw ((rowOf p r).drop c) 32
        rw [hk1, dl] at this
        exact this
      have RK2 : RunOf (fun i => ((rowOf p r).drop c)[i]? = some 35) (wd - c) k2 := by
        have := run_tw ((rowOf p r).drop c) 35
        rw [hk2, dl] at this
        exact this
      have k1l := RK1.1
      have k2l := RK2.1
      -- if is_blank(cells[place:])
      refine ⟨fun σ' H2 => ∃ (ch2 : Addr) (kd : Nat), σ' = [some (.ref a), some (.int (r : Int)), some (.ref b), some (tx (rowOf p r)), some (.ref bh), some (.int (c : Int)), some (.ref ch2)] ∧ Same H' H2 ∧
          (isBl ((rowOf p r).drop c) → RunOf (fun i => isBl (rowOf p (r + 1 + i))) (p.length - (r + 1)) kd) ∧
          ChAt H2 ch2 (acrossL ((rowOf p r).drop c) (fun n => (bs.drop c).getD n []) k1 k2 ++ (if isBl ((rowOf p r).drop c) then downL (fun j => below.getD j []) r kd p.length else [])), ?_, ?_⟩
      · refine ⟨_, rfl, _, rfl, (c : Int), rfl, rowOf p r, rfl, by omega, .inr (.inl ⟨c, rfl, rfl, by omega, ?_⟩)⟩
        refine ⟨(rowOf p r).drop c, one_eq rfl, by omega, _, rfl, ite2 (fun e => ?_) fun e => ?_⟩
        · have hbk : isBl ((rowOf p r).drop c) := of_decide_eq_true e
          refine ⟨_, rfl, _, rfl, _, rfl, _, rfl, a, b, p, r, below, by rfl, sm1 _ _ (sm _ _ ha), small, hrl, by omega, sm1 _ _ (sm _ _ hb), hbl, fun kd qd H2 hkd s2 hcd => ?_⟩
          have hkd1 := hkd.1
          obtain ⟨as, h1, h2, h3⟩ := (hch.same s2).lst
          obtain ⟨as', g1, g2, g3⟩ := hcd.lst
          refine ⟨ch, qd, _, _, rfl, rfl, h1, g1, ?_, fun p3 np3 => ⟨p3, kd, rfl, sm1.trans (s2.trans (same_new np3)), fun _ => hkd, ?_⟩⟩
          · have := downL_len (fun j => below.getD j []) r kd p.length
            rw [List.length_map, List.length_map, h3, g3, acrossL_len, sizeLine_eq]
            omega
          · rw [if_pos hbk]
            exact ⟨as ++ as', by rw [upd_same, List.map_append], paired_app (PairsL.same h2 (same_new np3)) (PairsL.same g2 (same_new np3))⟩
        · have hbk : ¬ isBl ((rowOf p r).drop c) := fun z => e (decide_eq_true z)
          refine ⟨ch, 0, rfl, sm1, fun z => absurd z hbk, ?_⟩
          rw [if_neg hbk, List.append_nil]
          exact hch
      · rintro σ' H2 ⟨ch2, kd, rfl, sm2, hkd, hch2⟩
        have lenA : (acrossL ((rowOf p r).drop c) (fun n => (bs.drop c).getD n []) k1 k2 ++ (if isBl ((rowOf p r).drop c) then downL (fun j => below.getD j []) r kd p.length else [])).length ≤ 1500 := by
          rw [List.length_append, acrossL_len]
          by_cases hbk : isBl ((rowOf p r).drop c)
          · rw [if_pos hbk]
            have := downL_len (fun j => below.getD j []) r kd p.length
            have := (hkd hbk).1
            omega
          · rw [if_neg hbk]
            simp
            omega
        -- if place == 0
        refine ⟨fun σ' H3 => ∃ (ch3 : Addr) (ka : Nat), σ' = [some (.ref a), some (.int (r : Int)), some (.ref b), some (tx (rowOf p r)), some (.ref bh), some (.int (c : Int)), some (.ref ch3)] ∧ Same H' H3 ∧
          (c = 0 → r ≠ 0 → RunOf (fun i => rowOf p (r + i) = rowOf p (r - 1)) (p.length - r) ka) ∧ ChAt H3 ch3 (choices p p.length r c (fun n => (bs.drop c).getD n []) (fun j => below.getD j []) k1 k2 kd ka), ?_, ?_⟩
        · refine ⟨_, rfl, rfl, _, rfl, ite2 (fun e => ?_) fun e => ?_⟩
          · have hc0 : c = 0 := by
              have := V.int.inj (of_decide_eq_true e)
              omega
            refine ⟨_, rfl, _, rfl, _, rfl, _, rfl, a, b, p, r, below, by rfl, sm2 _ _ (sm _ _ ha), hrl, by omega, sm2 _ _ (sm _ _ hb), hbl, fun ka qd H3 hka s3 hcd => ?_⟩
            obtain ⟨as, h1, h2, h3⟩ := (hch2.same s3).lst
            obtain ⟨as', g1, g2, g3⟩ := hcd.lst
            refine ⟨ch2, qd, _, _, rfl, rfl, h1, g1, ?_, fun p3 np3 => ⟨p3, ka, rfl, sm2.trans (s3.trans (same_new np3)), fun _ => hka, ?_⟩⟩
            · rw [List.length_map, List.length_map, h3, g3, sizeLine_eq]
              by_cases hr0 : r = 0
              · rw [if_pos hr0]
                simp
                simp at lenA
                omega
              · rw [if_neg hr0, copL_len]
                have := (hka hr0).1
                omega
            · refine ⟨as ++ as', by rw [upd_same, List.map_append], ?_⟩
              unfold choices
              refine paired_app (PairsL.same h2 (same_new np3)) ?_
              by_cases hr0 : r = 0
              · rw [if_pos hr0] at g2
                rw [if_neg (fun z => z.2 hr0)]
                exact PairsL.same g2 (same_new np3)
              · rw [if_neg hr0] at g2
                rw [if_pos ⟨hc0, hr0⟩]
                exact PairsL.same g2 (same_new np3)
          · have hc0 : c ≠ 0 := fun z => e (by rw [z]; rfl)
            refine ⟨ch2, 0, rfl, sm2, fun z => absurd z hc0, ?_⟩
            unfold choices
            rw [if_neg (c := c = 0 ∧ r ≠ 0) (fun z => hc0 z.1), List.append_nil]
            exact hch2
        · rintro σ' H3 ⟨ch3, ka, rfl, sm3, hka, hch3⟩
          have RR : Runs wd p.length p r c k1 k2 kd ka := ⟨RK1, RK2, hkd, hka⟩
          have hbn : ∀ n, (bs.drop c).getD n [] = bs.getD (c + n) [] := fun n => by
            rw [List.getD_eq_getElem?_getD, List.getD_eq_getElem?_getD, List.getElem?_drop]
          have lb : ∀ n, 1 ≤ n → c + n ≤ wd → Least wd p r (c + n) ((bs.drop c).getD n []) := fun n h1 h2 => by
            rw [hbn]
            exact hL (c + n) (by omega) h2
          have ne : choices p p.length r c (fun n => (bs.drop c).getD n []) (fun j => below.getD j []) k1 k2 kd ka ≠ [] := fun z => by
            by_cases hcw : c < wd
            · have := (mem_choices (p := p) (h := p.length) (r := r) (c := c) (bs := fun n => (bs.drop c).getD n []) (below := fun j => below.getD j []) (k1 := k1) (k2 := k2) (kd := kd) (ka := ka)).mpr (.inr (.inr (.inl ⟨1, Nat.le_refl _, by omega, rfl⟩)))
              rw [z] at this
              cases this
            · have hbk : isBl ((rowOf p r).drop c) := by
                rw [List.drop_eq_nil_iff.mpr (show (rowOf p r).length ≤ c by omega)]
                intro x hx
                cases hx
              have := (mem_choices (p := p) (h := p.length) (r := r) (c := c) (bs := fun n => (bs.drop c).getD n []) (below := fun j => below.getD j []) (k1 := k1) (k2 := k2) (kd := kd) (ka := ka)).mpr (.inr (.inr (.inr (.inl ⟨hbk, .inl ⟨1, Nat.le_refl _, by omega, rfl⟩⟩))))
              rw [z] at this
              cases this
          have lz : ∀ {r' c' : Nat} {z : T}, Least wd p r' c' z → r' ≤ p.length → c' ≤ wd → (r' = p.length → c' = 0) → z.length ≤ 63251 := fun l h1 h2 h3 => Nat.le_trans (least_len R w1 l h1 h2 h3) bnd
          obtain ⟨s1', s2', s3', s4', s5'⟩ := step1 M RR
          refine ⟨_, rfl, ch3, _, one_eq rfl, hch3, ne, ?_, fun x hx => ?_, fun z H4 s4 hz => ?_⟩
          · unfold choices
            rw [List.length_append]
            have : (if c = 0 ∧ r ≠ 0 then copL (fun j => below.getD j []) r ka else []).length ≤ 300 := by
              split
              · rename_i hh
                rw [copL_len]
                have := (hka hh.1 hh.2).1
                omega
              · simp
            omega
          · rcases mem_choices.mp hx with ⟨n, h1, h2, rfl⟩ | ⟨n, h1, h2, rfl⟩ | ⟨n, h1, h2, rfl⟩ | ⟨hbk, ⟨n, h1, h2, rfl⟩ | ⟨e, rfl⟩⟩ | ⟨hbk, n, h1, h2, rfl⟩
            · have := lz (lb n h1 (by omega)) (by omega) (by omega) (by omega)
              have := cnt_len n 62
              show (cmdT n 62).length + ((bs.drop c).getD n []).length ≤ _
              omega
            · have := lz (lb n h1 (by omega)) (by omega) (by omega) (by omega)
              have := cnt_len n 35
              show (cmdT n 35).length + ((bs.drop c).getD n []).length ≤ _
              omega
            · have := lz (lb n h1 (by omega)) (by omega) (by omega) (by omega)
              have e1 := quoted_len (seg p r c n)
              have e2 := seg_len R hrl (c := c) (n := n) (by omega)
              show (quoted (seg p r c n)).length + ((bs.drop c).getD n []).length ≤ _
              omega
            · have g := ((s4' hbk).1 n h1 h2).2
              have := lz (hB (r + n) (by omega) g) g (by omega) (fun _ => rfl)
              have := cnt_len n 47
              show (cmdT n 47).length + (below.getD (r + n) []).length ≤ _
              omega
            · show 1 + 0 ≤ _
              omega
            · have g := (s5' hbk n h1 h2).2
              have := lz (hB (r + n) (by omega) g) g (by omega) (fun _ => rfl)
              have := cnt_len n 94
              show (cmdT n 94).length + (below.getD (r + n) []).length ≤ _
              omega
          · have hle : Least wd p r c z := best_least M RR lb (fun j h1 h2 => hB j h1 h2) hz
            refine ⟨_, rfl, _, rfl, bh, bs.map tx, (c : Int), c, rfl, rfl, s4 _ _ (sm3 _ _ hbh), ixN_nat (by rw [List.length_map]; omega), ?_⟩
            refine ⟨_, _, bs.set c z, rfl, fun b' o e => ?_, ?_, by rw [List.length_set]; exact hbsl, fun c' h1 h2 => ?_⟩
            · rw [upd_ne (ne_of_none e nbh)]
              exact s4 _ _ (sm3 _ _ (sm _ _ e))
            · rw [upd_same, List.map_set]
            · rw [getD_set (by omega)]
              by_cases ec : c' = c
              · rw [if_pos ec, ec]
                exact hle
              · rw [if_neg ec]
                exact hL c' (by omega) h2
    · obtain ⟨y5, y6, bs, rfl, sm, hbh, hbsl, hL⟩ := hP
      refine ⟨_, rfl, bh, _, _, _, rfl, rfl, SqL.of hbh, getD_at (n := 0) (by omega) rfl, ?_⟩
      exact q _ H' sm (hL 0 (by omega) (by omega))
end
end Kl
set_option Elab.async false
set_option linter.all false
set_option maxRecDepth 100000
set_option maxHeartbeats 4000000
namespace Kl
open PySem PySem.Spec PyProof.Rows L2 Kw
def PagesAt (H : Hp) (a : Addr) (P : List Pg) : Prop := ∃ as : List Addr, H a = some (.tup (as.map V.ref)) ∧ Paired (fun x p => H x = some (.tup (pgv p))) as P
theorem PagesAt.same {H H' : Hp} {a : Addr} {P : List Pg} (h : PagesAt H a P) (s : Same H H') : PagesAt H' a P := by
  obtain ⟨as, h1, h2⟩ := h
  exact ⟨as, s _ _ h1, paired_imp (fun _ _ e => s _ _ e) h2⟩
theorem allD_snoc {D : Pg → T → Prop} : ∀ {P : List Pg} {S : List T} {p : Pg} {s : T}, AllD D P S → D p s → AllD D (P ++ [p]) (S ++ [s])
  | [], [], _, _, _, h => ⟨h, trivial⟩
  | _ :: _, _ :: _, _, _, ⟨h1, h2⟩, h => ⟨h1, allD_snoc h2 h⟩
  | [], _ :: _, _, _, h, _ => h.elim
  | _ :: _, [], _, _, h, _ => h.elim
theorem flat_bound {w h : Nat} (w1 : 1 ≤ w) (w2 : w ≤ 250) (h2 : h ≤ 250) : ∀ {P : List Pg} {zs : List T}, (∀ p ∈ P, Right w h p) → AllD (fun p z => Least w p 0 0 z) P zs → zs.flatten.length ≤ P.length * 63251
  | [], [], _, _ => by simp
  | p :: P, z :: zs, R, ⟨a, b⟩ => by
    have i := flat_bound w1 w2 h2 (fun q hq => R q (by simp [hq])) b
    have j := least_len (R p (by simp)) w1 a (by omega) (by omega) (fun _ => rfl)
    have k := sizes w2 h2
    rw [List.flatten_cons, List.length_append, List.length_cons]
    omega
  | [], _ :: _, _, h => h.elim
  | _ :: _, [], _, h => h.elim
theorem ref_atI {as : List Addr} {i : Nat} {x : Addr} {z : Int} (h : as[i]? = some x) (e : z = (i : Int)) : atI (as.map V.ref) z = some (.ref x) := by
  rw [e]
  refine atI_nat ?_
  rw [List.getElem?_map, h]
  rfl
section
variable {P : Program} {w : World} {K : PySem.W.Frag} {mg : Str → Option Value} {base : Heap}
def sp_page : Sp := fun vs H Q _ => ∃ (a : Addr) (p : Pg) (wd : Nat), vs = [.ref a] ∧ H a = some (.tup (pgv p)) ∧ Right wd p.length p ∧ 1 ≤ wd ∧ wd ≤ 250 ∧ p.length ≤ 250 ∧ ∀ z H', Same H H' → Least wd p 0 0 z → Q (tx z) H'
theorem ok_page (D : Def K mg "page_commands" s_page_commands ["page"]) (fr : Free mg) (Gr : Ok P w K mg base 4 "row_commands" ["page", "row", "below"] sp_row) : Ok P w K mg base 5 "page_commands" ["page"] sp_page := by
  refine def_ok D sc_page_commands (fun vs H Q E h => ?_) fun f cdv A outer s H vs Q E hr h => ?_
  · obtain ⟨a, p, wd, rfl, _⟩ := h
    rfl
  · obtain ⟨a, p, wd, rfl, ha, R, w1, w2, p2, q⟩ := h
    refine ⟨_, pss_cons (ps_set (i := 1) sc_page_commands.nd rfl (.inl rfl) (pe_op op_cat (pe_op op_rep (pe_lst (pa_cons pe_str pa_nil)) (pe_callB call_len (by rfl) fr.len PySem.boot_len (pa_cons (pv 0) pa_nil))) (pe_lst (pa_cons pe_str pa_nil))))
      (pss_cons (ps_for PassesOwn.never rfl (pi_range3 rfl fr.range (pa_cons (pe_op op_sub (pe_callB call_len (by rfl) fr.len PySem.boot_len (pa_cons (pv 0) pa_nil)) pe_int) (pa_cons (pe_un un_neg pe_int) (pa_cons (pe_un un_neg pe_int) pa_nil)))) (pg_name (i := 2) sc_page_commands.nd rfl (.inl rfl))
        (pss_one (ps_asg (pe_f Gr hr (by rfl) (pa_cons (pv 0) (pa_cons (pv 2) (pa_cons (pv 1) pa_nil)))) (pg_sub (pv 1) (pv 2) set_list))))
      (pss_one (ps_ret (pe_ix ix_list (pv 1) pe_int (fun _ _ => rfl))))), ?_⟩
    have pl : (pgv p).length = p.length := List.length_map _
    refine ⟨by show 1 ≤ sizeLine; decide, fun l1 n1 => ?_⟩
    refine ⟨_, rfl, _, _, rfl, .inr ⟨_, SqT.of (by rw [upd_ne (ne_of_none ha n1)]; exact ha), rfl⟩, l1, _, _, rfl, rfl, upd_same, by omega, by omega, ?_, fun l2 n2 => ?_⟩
    · rw [pl, sizeLine_eq]
      show 1 * _ ≤ _
      omega
    refine ⟨by show 1 ≤ sizeLine; decide, fun l3 n3 => ?_⟩
    have n23 : l2 ≠ l3 := fun e => by
      rw [← e, upd_same] at n3
      cases n3
    have e2 : ∀ {o : HO}, (upd (upd (upd H l1 (.lst [V.str (Str.ofString "")])) l2 (.lst (List.replicate ((pgv p).length : Int).toNat [V.str (Str.ofString "")]).flatten)) l3 o) l2 = some (.lst (List.replicate ((pgv p).length : Int).toNat [V.str (Str.ofString "")]).flatten) := fun {o} => by
      rw [upd_ne n23, upd_same]
    refine ⟨l2, l3, _, _, rfl, rfl, e2, upd_same, ?_, fun b nb => ?_⟩
    · rw [flat_one, List.length_replicate, pl, sizeLine_eq]
      simp
      omega
    have sm0 : Same H (upd (upd (upd H l1 (.lst [V.str (Str.ofString "")])) l2 (.lst (List.replicate ((pgv p).length : Int).toNat [V.str (Str.ofString "")]).flatten)) l3 (.lst [V.str (Str.ofString ";")])) := (same_new n1).trans ((same_new n2).trans (same_new n3))
    have nbH : H b = none := sm0.free nb
    have sm1 := sm0.trans (same_new (o := .lst ((List.replicate ((pgv p).length : Int).toNat [V.str (Str.ofString "")]).flatten ++ [V.str (Str.ofString ";")])) nb)
    refine ⟨_, rfl, _, _, rfl, .inr ⟨_, SqT.of (sm1 _ _ ha), rfl⟩, _, _, rfl, rfl, 1, rfl, 1, rfl, _, _, _, _, rfl, RgC.neg (by omega) (by omega) (by omega) (by omega), ?_⟩
    rw [pl] at sm1 ⊢
    refine for_rangeC (lo := ((p.length : Int) - 1)) (c := -1) (n := ((p.length : Int) - 1 - -1).toNat)
      (fun i σ H' => ∃ (y2 : Option V) (bs : List T), σ = [some (.ref a), some (.ref b), y2] ∧ Same H H' ∧ H' b = some (.lst (bs.map tx)) ∧ bs.length = p.length + 1 ∧ ∀ j, p.length ≤ j + i → j ≤ p.length → Least wd p j 0 (bs.getD j []))
      ⟨none, List.replicate p.length [] ++ [[59]], rfl, sm1, ?_, by rw [List.length_append, List.length_replicate]; rfl, fun j h1 h2 => ?_⟩ (fun i σ H' hi hP => ?_) fun σ H' hP => ?_
    · rw [upd_same, flat_one, List.map_append, List.map_replicate, lit_e, lit_semi, Int.toNat_natCast]
      rfl
    · obtain rfl : j = p.length := by omega
      rw [List.getD_eq_getElem?_getD, List.getElem?_append_right (by rw [List.length_replicate]; exact Nat.le_refl _), List.length_replicate, Nat.sub_self]
      exact least_end
    · obtain ⟨y2, bs, rfl, sm, hb, hbl, hL⟩ := hP
      obtain ⟨r, hr1, hr2⟩ : ∃ r : Nat, r + 1 + i = p.length ∧ r < p.length := ⟨p.length - 1 - i, by omega, by omega⟩
      have er : ((p.length : Int) - 1 + (i : Nat) * -1) = (r : Int) := by omega
      rw [er]
      refine ⟨_, rfl, _, rfl, _, rfl, a, b, p, r, wd, bs, rfl, sm _ _ ha, R, w1, w2, p2, hr2, hb, hbl, fun j h1 h2 => hL j (by omega) h2, fun z H2 s2 hz => ?_⟩
      refine ⟨_, rfl, _, rfl, b, bs.map tx, (r : Int), r, rfl, rfl, s2 _ _ hb, ixN_nat (by rw [List.length_map]; omega), ?_⟩
      refine ⟨_, bs.set r z, rfl, fun b' o e => ?_, by rw [upd_same, List.map_set], by rw [List.length_set]; exact hbl, fun j h1 h2 => ?_⟩
      · rw [upd_ne (ne_of_none e nbH)]
        exact s2 _ _ (sm _ _ e)
      · rw [getD_set (by omega)]
        by_cases ej : j = r
        · rw [if_pos ej, ej]
          exact hz
        · rw [if_neg ej]
          exact hL j (by omega) h2
    · obtain ⟨y2, bs, rfl, sm, hb, hbl, hL⟩ := hP
      refine ⟨_, rfl, b, _, _, _, rfl, rfl, SqL.of hb, getD_at (n := 0) (by omega) rfl, ?_⟩
      exact q _ H' sm (hL 0 (by omega) (by omega))
def sp_file : Sp := fun vs H Q _ => ∃ (a : Addr) (Ps : List Pg) (wd hg : Nat), vs = [.ref a] ∧ PagesAt H a Ps ∧ Ps ≠ [] ∧ Ps.length ≤ 10 ∧ (∀ p ∈ Ps, Right wd hg p) ∧ 1 ≤ wd ∧ wd ≤ 250 ∧ 1 ≤ hg ∧ hg ≤ 250 ∧
  ∀ q H' zs, Same H H' → AllD (fun p z => Least wd p 0 0 z) Ps zs → H' q = some (.tup [.int (wd : Int), .int (hg : Int), tx zs.flatten]) → Q (.ref q) H'
theorem ok_file (D : Def K mg "file_of" s_file_of ["pages"]) (fr : Free mg) (Gp : Ok P w K mg base 5 "page_commands" ["page"] sp_page) : Ok P w K mg base 6 "file_of" ["pages"] sp_file := by
  refine def_ok D sc_file_of (fun vs H Q E h => ?_) fun f cdv A outer s H vs Q E hr h => ?_
  · obtain ⟨a, Ps, wd, hg, rfl, _⟩ := h
    rfl
  · obtain ⟨a, Ps, wd, hg, rfl, ⟨as, ha, hp⟩, hne, hn, R, w1, w2, h1, h2, q⟩ := h
    have hlen : as.length = Ps.length := hp.length
    refine ⟨_, pss_cons (ps_if (pt_not (pt_truth (pv 0) (by intro _; rfl))) (pss_one (ps_ret (pe_tup (pa_cons pe_int (pa_cons pe_int (pa_cons pe_str pa_nil)))))) pss_nil)
      (pss_cons (ps_set (i := 1) sc_file_of.nd rfl (.inl rfl) (pe_ix ix_tup (pv 0) pe_int (fun _ _ => rfl)))
      (pss_one (ps_ret (pe_tup (pa_cons (pe_callB c_lenT (by rfl) fr.len PySem.boot_len (pa_cons (pe_ix ix_tup (pv 1) pe_int (fun _ _ => rfl)) pa_nil)) (pa_cons (pe_callB call_len (by rfl) fr.len PySem.boot_len (pa_cons (pv 1) pa_nil))
        (pa_cons (pe_bm PySem.F.plainAttrs_str PySem.F.slot_str_join PySem.F.type_str_join m_joinT pe_str (pa_cons
          (pe_lc (own := [("page", 2)]) (g := gName 2) (tt := tYes) (by rfl) sc_file_of.nd (pi_tup (pv 0)) (blkOk_by (own := [("page", 2)]) (N := n_file_of) (sc := defScope s_file_of) (by decide +kernel))
            (fun _ _ _ _ _ => pg_name (i := 2) sc_file_of.nd rfl (.inl rfl)) (fun _ _ _ _ _ => pts_nil) (fun _ _ _ _ _ => pe_f Gp hr (by rfl) (pa_cons (pv 2) pa_nil))) pa_nil)) pa_nil))))))), ?_⟩
    obtain ⟨p0, Ps', rfl⟩ : ∃ p0 Ps', Ps = p0 :: Ps' := by
      cases Ps with
      | nil => exact absurd rfl hne
      | cons p r => exact ⟨p, r, rfl⟩
    obtain ⟨a0, as', rfl⟩ : ∃ a0 as', as = a0 :: as' := by
      cases as with
      | nil => cases hlen
      | cons p r => exact ⟨p, r, rfl⟩
    have R0 := R p0 (by simp)
    have hp0 : H a0 = some (.tup (pgv p0)) := by
      cases hp with
      | cons r t => exact r
    have l0 : p0.length = hg := R0.len
    refine ⟨_, rfl, true, .inr (.inl ⟨_, SqT.of ha, rfl⟩), ?_⟩
    refine iteF ?_
    refine ⟨_, rfl, a, _, _, _, rfl, rfl, SqT.of ha, ref_atI (i := 0) rfl rfl, ?_⟩
    refine ⟨_, rfl, a0, _, _, _, rfl, rfl, SqT.of hp0, row_atI p0 (i := 0) (by omega) rfl, rowOf p0 0, rfl, by rw [R0.row (by omega)]; omega, _, rfl, _, _, rfl, .inr ⟨_, SqT.of hp0, rfl⟩, rfl, ?_⟩
    refine ⟨_, rfl, a, rfl, ⟨_, SqT.of ha⟩, fun D1 new => lc_tup (xs := (a0 :: as').map V.ref) (fun i H' => Same H H' ∧ ∃ zs : List T, H' D1 = some (.lst (zs.map tx)) ∧ zs.length = i ∧ AllD (fun p z => Least wd p 0 0 z) ((p0 :: Ps').take i) zs)
      ⟨same_new new, [], by rw [upd_same]; rfl, rfl, trivial⟩ (fun i H' _ h => SqT.of (h.1 _ _ ha)) (fun i v H' hv h => ?_) fun H' h => ?_⟩
    · obtain ⟨sm, zs, hD, hzl, hA⟩ := h
      rw [List.getElem?_map] at hv
      obtain ⟨ai, e1, e2⟩ := Option.map_eq_some_iff.mp hv
      obtain ⟨p, hpi, ht⟩ := paired_get hp e1
      have Rp := R p (List.mem_of_getElem? hpi)
      have hlp := Rp.len
      refine ⟨rfl, _, rfl, ai, p, wd, one_eq e2.symm, sm _ _ ht, by rw [hlp]; exact Rp, w1, w2, by omega, fun z H2 s2 hz => ?_⟩
      refine ⟨_, s2 _ _ hD, ?_, fun b o e => ?_, zs ++ [z], by rw [upd_same, List.map_append]; rfl, by rw [List.length_append, hzl]; rfl, ?_⟩
      · have := (List.getElem?_eq_some_iff.mp hpi).1
        rw [List.length_map, hzl, sizeLine_eq]
        omega
      · rw [upd_ne (ne_of_none e new)]
        exact s2 _ _ (sm _ _ e)
      · rw [take_one hpi]
        exact allD_snoc hA hz
    · obtain ⟨sm, zs, hD, hzl, hA⟩ := h
      have e0 : (p0 :: Ps').take ((a0 :: as').map V.ref).length = p0 :: Ps' := by rw [List.length_map, hlen, List.take_length]
      rw [e0] at hA
      have fb := flat_bound w1 w2 h2 R hA
      have : (p0 :: Ps').length * 63251 ≤ 10 * 63251 := Nat.mul_le_mul_right _ hn
      refine ⟨D1, zs, lit_e, rfl, .inl (SqL.of hD), by omega, by show 3 ≤ sizeLine; decide, fun qd nq => q qd _ zs (sm.trans (same_new nq)) hA ?_⟩
      rw [upd_same, R0.row (by omega), List.length_map, l0]
end
end Kl
set_option Elab.async false
set_option linter.all false
set_option maxRecDepth 100000
set_option maxHeartbeats 4000000
namespace Kl
open PySem PySem.Spec PyProof.Rows L2 Kw
theorem run_eq {P : Nat → Prop} {b k k' : Nat} (h : RunOf P b k) (h' : RunOf P b k') : k = k' := by
  have a := h.le h'.1 h'.2.1
  have c := h'.le h.1 h.2.1
  omega
theorem run_twp (t : T) (p : Nat → Bool) : RunOf (fun i => ∃ x, t[i]? = some x ∧ p x = true) t.length (t.takeWhile p).length := by
  refine ⟨tw_le _ t, fun i hi => ?_, fun hlt hc => ?_⟩
  · have h1 : t[i]? = (t.takeWhile p)[i]? := by
      conv => lhs; rw [tw_split p t]
      rw [List.getElem?_append_left hi]
    exact ⟨_, by rw [h1, List.getElem?_eq_getElem hi], tw_mem (List.getElem_mem hi)⟩
  · obtain ⟨x, h1, h2⟩ := hc
    cases hd : t.drop (t.takeWhile p).length with
    | nil =>
      have := List.drop_eq_nil_iff.mp hd
      omega
    | cons y r =>
      have q := tw_next p hd
      have z : (t.drop (t.takeWhile p).length)[0]? = some y := by rw [hd]; rfl
      rw [List.getElem?_drop, Nat.add_zero, h1] at z
      rw [← Option.some.inj z, h2] at q
      cases q
def d10 : T := [48, 49, 50, 51, 52, 53, 54, 55, 56, 57]
theorem lit_d10 : V.str (Str.ofString "0123456789") = tx d10 := by decide +kernel
theorem lit_four : V.str (Str.ofString ">#/^") = tx [62, 35, 47, 94] := by decide +kernel
theorem dig_in (c : Nat) : decide (c ∈ d10) = isDig c := by
  rw [Bool.eq_iff_iff, isDig_iff, decide_eq_true_eq]
  unfold d10
  simp
  omega
theorem four_in (c : Nat) : decide (c ∈ [62, 35, 47, 94]) = Kw.four c := by
  rw [Bool.eq_iff_iff, four_iff, decide_eq_true_eq]
  simp
def optN : Option Nat → V
  | none => .non
  | some n => .int (n : Int)
theorem at_drop {s : T} {i : Nat} {x : Nat} {r : T} (h : s.drop i = x :: r) : s[i]? = some x ∧ i < s.length ∧ s.drop (i + 1) = r := by
  have z : (s.drop i)[0]? = some x := by rw [h]; rfl
  rw [List.getElem?_drop, Nat.add_zero] at z
  refine ⟨z, (List.getElem?_eq_some_iff.mp z).1, ?_⟩
  rw [← List.drop_drop, h]
  rfl
theorem txt_atI {s : T} {i x : Nat} {z : Int} (h : s[i]? = some x) (e : z = (i : Int)) : atI s z = some x := by
  rw [e]
  exact atI_nat h
/-- what a command looks like in memory, for a device at place k0 -/
def CmdV (H : Hp) (k0 : Nat) : Option Cmd → V → Prop
  | none, v => v = .non
  | some c, v => ∃ p, v = .ref p ∧ H p = some (.tup [.int (c.n : Int), tx [c.g], tx c.cells, .int ((k0 + c.k : Nat) : Int)])
section
variable {P : Program} {w : World} {K : PySem.W.Frag} {mg : Str → Option Value} {base : Heap}
def sp_count_of : Sp := fun vs H Q _ => ∃ ds : T, vs = [tx ds] ∧ ds.length ≤ 1000000 ∧ (∀ x ∈ ds, isDig x = true) ∧ Q (optN (countOf ds)) H
theorem ok_count_of (D : Def K mg "count_of" s_count_of ["digits"]) (fr : Free mg) : Ok P w K mg base 1 "count_of" ["digits"] sp_count_of := by
  refine def_ok D sc_count_of (fun vs H Q E h => ?_) fun f cdv A outer s H vs Q E hr h => ?_
  · obtain ⟨ds, rfl, _⟩ := h
    rfl
  · obtain ⟨ds, rfl, hz, hd, q⟩ := h
    refine ⟨_, pss_cons (ps_if (pt_cmpR o_eqT (pv 0) pe_str (nomark _)) (pss_one (ps_ret pe_int)) pss_nil)
      (pss_cons (ps_if (PW.pt (pw_or (pt_cmpR op_gt (pe_callB c_lenT (by rfl) fr.len PySem.boot_len (pa_cons (pv 0) pa_nil)) pe_int (nomark _)) (pw_or (pt_cmpR o_eqT (pe_ix ix_txt (pv 0) pe_int (fun _ _ => rfl)) pe_str (nomark _)) (pw_or1 (pt_cmpR o_eqT (pv 0) pe_str (nomark _)))))) (pss_one (ps_ret pe_non)) pss_nil)
      (pss_one (ps_ret (pe_callTy c_intT (by rfl) fr.int (by decide +kernel) (pa_cons (pv 0) pa_nil))))), ?_⟩
    refine ⟨_, rfl, ds, [], rfl, lit_e, _, rfl, ite2 (fun e => ?_) fun e => ?_⟩
    · have e1 : ds = [] := of_decide_eq_true e
      unfold countOf at q
      rw [if_pos e1] at q
      exact q
    · have e1 : ds ≠ [] := fun z => e (decide_eq_true z)
      unfold countOf at q
      rw [if_neg e1] at q
      refine ⟨_, rfl, ds, rfl, by omega, _, _, rfl, rfl, _, rfl, ite2 (fun e2 => ?_) fun e2 => ?_⟩
      · have e3 := of_decide_eq_true e2
        rw [if_pos (.inl (by omega))] at q
        exact iteT q
      · have e3 : ¬ ((3 : Int) < (ds.length : Int)) := fun z => e2 (decide_eq_true z)
        obtain ⟨x, r, rfl⟩ : ∃ x r, ds = x :: r := by
          cases ds with
          | nil => exact absurd rfl e1
          | cons x r => exact ⟨x, r, rfl⟩
        refine ⟨_, rfl, x :: r, _, x, rfl, rfl, by omega, txt_atI (i := 0) rfl rfl, [x], [48], rfl, lit_0, _, rfl, ite2 (fun e4 => ?_) fun e4 => ?_⟩
        · have e5 := of_decide_eq_true e4
          rw [if_pos (.inr (.inl (by cases e5; rfl)))] at q
          exact iteT q
        · have e5 : x ≠ 48 := fun z => e4 (decide_eq_true (by rw [z]))
          refine ⟨_, rfl, x :: r, [49], rfl, lit_1, _, rfl, ite2 (fun e6 => ?_) fun e6 => ?_⟩
          · rw [if_pos (.inr (.inr (of_decide_eq_true e6)))] at q
            exact q
          · have e7 : x :: r ≠ [49] := fun z => e6 (decide_eq_true z)
            have hno : ¬ ((x :: r).length > 3 ∨ (x :: r).head? = some 48 ∨ x :: r = [49]) := by
              rintro (z | z | z)
              · omega
              · exact e5 (Option.some.inj z)
              · exact e7 z
            have hc : countOf (x :: r) = some (numOf (x :: r)) := by
              unfold countOf
              rw [if_neg e1, if_neg hno]
            obtain ⟨n1, n2, n3⟩ := countOf_some hd hc
            have n4 : numOf (x :: r) ≠ 1 := fun z => by
              rw [if_pos z] at n3
              cases n3
            rw [if_neg n4] at n3
            rw [if_neg hno] at q
            refine ⟨_, rfl, numOf (x :: r), ?_, n2, q⟩
            exact congrArg (fun t => [tx t]) n3
def sp_command_at : Sp := fun vs H Q _ => ∃ (s : T) (k0 : Nat), vs = [tx s, .int (k0 : Int)] ∧ s.length ≤ 1000000 ∧ k0 ≤ s.length ∧ ∀ v H', Same H H' → CmdV H' k0 (cmdAt (s.drop k0)) v → Q v H'
theorem ok_command_at (D : Def K mg "command_at" s_command_at ["commands", "at"]) (fr : Free mg) (dg : ∃ t, mg "DIGITS" = some (.str (Str.ofString "0123456789") t)) (G : Ok P w K mg base 1 "count_of" ["digits"] sp_count_of) :
    Ok P w K mg base 2 "command_at" ["commands", "at"] sp_command_at := by
  obtain ⟨tk, dg⟩ := dg
  refine def_ok D sc_command_at (fun vs H Q E h => ?_) fun f cdv A outer s0 H vs Q E hr h => ?_
  · obtain ⟨s, k0, rfl, _⟩ := h
    rfl
  · obtain ⟨s, k0, rfl, hz, hk0, q⟩ := h
    refine ⟨_, pss_cons (ps_set (i := 2) sc_command_at.nd rfl (.inl rfl) (pv 1))
      (pss_cons (ps_while PassesOwn.never (PW.pt (pw_and (pt_cmpR op_lt (pv 2) (pe_callB c_lenT (by rfl) fr.len PySem.boot_len (pa_cons (pv 0) pa_nil)) (nomark _))
          (pw_and1 (pt_cmpR (o_inT d10) (pe_ix ix_txt (pv 0) (pv 2) (fun _ _ => rfl)) (pe_glob (v := .str (Str.ofString "0123456789")) rfl dg ⟨_, rfl⟩) rfl))))
        (pss_one (ps_set (i := 2) sc_command_at.nd rfl (.inl rfl) (pe_op op_add (pv 2) pe_int))))
      (pss_cons (ps_set (i := 3) sc_command_at.nd rfl (.inl rfl) (pe_f G hr (by rfl) (pa_cons (pe_slice sl_txt (pv 0) (po_some (pv 1)) (po_some (pv 2))) pa_nil)))
      (pss_cons (ps_if (PW.pt (pw_or (pt_cmpR op_isN (pv 3) pe_non (nomark _)) (pw_or1 (pt_cmpR op_eq (pv 2) (pe_callB c_lenT (by rfl) fr.len PySem.boot_len (pa_cons (pv 0) pa_nil)) (nomark _))))) (pss_one (ps_ret pe_non)) pss_nil)
      (pss_cons (ps_set (i := 4) sc_command_at.nd rfl (.inl rfl) (pe_ix ix_txt (pv 0) (pv 2) (fun _ _ => rfl)))
      (pss_cons (ps_if (pt_cmpR (o_inT [62, 35, 47, 94]) (pv 4) pe_str rfl) (pss_one (ps_ret (pe_tup (pa_cons (pv 3) (pa_cons (pv 4) (pa_cons pe_str (pa_cons (pe_op op_add (pv 2) pe_int) pa_nil))))))) pss_nil)
      (pss_cons (ps_if (pt_cmpR op_gt (pv 2) (pv 1) (nomark _)) (pss_one (ps_ret pe_non)) pss_nil)
      (pss_cons (ps_if (pt_cmpR o_eqT (pv 4) pe_str (nomark _)) (pss_one (ps_ret (pe_tup (pa_cons pe_int (pa_cons (pv 4) (pa_cons pe_str (pa_cons (pe_op op_add (pv 2) pe_int) pa_nil))))))) pss_nil)
      (pss_cons (ps_set (i := 5) sc_command_at.nd rfl (.inl rfl) (pe_bm PySem.F.plainAttrs_str PySem.F.slot_str_find PySem.F.type_str_find m_findT (pv 0) (pa_cons pe_str (pa_cons (pe_op op_add (pv 2) pe_int) pa_nil))))
      (pss_cons (ps_if (PW.pt (pw_and (pt_cmpR o_eqT (pv 4) pe_str (nomark _)) (pw_and1 (pt_cmpR op_gt (pv 5) (pe_op op_add (pv 2) pe_int) (nomark _)))))
          (pss_one (ps_ret (pe_tup (pa_cons pe_int (pa_cons (pv 4) (pa_cons (pe_slice sl_txt (pv 0) (po_some (pe_op op_add (pv 2) pe_int)) (po_some (pv 5))) (pa_cons (pe_op op_add (pv 5) pe_int) pa_nil))))))) pss_nil)
      (pss_one (ps_ret pe_non))))))))))), ?_⟩
    have dlen : (s.drop k0).length = s.length - k0 := List.length_drop
    have hrun := run_twp (s.drop k0) isDig
    generalize hds : (s.drop k0).takeWhile isDig = ds at hrun
    have hdl : ds.length ≤ s.length - k0 := by
      have := hrun.1
      omega
    have hdd : ∀ x ∈ ds, isDig x = true := fun x hx => by
      rw [← hds] at hx
      exact tw_mem hx
    have hsp : s.drop k0 = ds ++ (s.drop k0).drop ds.length := by
      have := tw_split isDig (s.drop k0)
      rw [hds] at this
      exact this
    refine ⟨_, rfl, ?_⟩
    refine ⟨fun m σ H' => ∃ k : Nat, H' = H ∧ σ = [some (tx s), some (.int (k0 : Int)), some (.int ((k0 + k : Nat) : Int)), none, none, none] ∧ k + m = s.length - k0 ∧ ∀ i, i < k → ∃ x, (s.drop k0)[i]? = some x ∧ isDig x = true,
      ⟨s.length - k0, 0, rfl, rfl, by omega, fun i hi => by omega⟩, ?_⟩
    rintro m σ H' ⟨k, rfl, rfl, hk, hb⟩
    refine ⟨_, rfl, _, rfl, s, rfl, by omega, _, _, rfl, rfl, _, rfl, ?_⟩
    -- behind the loop
    by_cases hlt : k0 + k < s.length
    · rw [decide_eq_true (show ((k0 + k : Nat) : Int) < (s.length : Int) by omega)]
      obtain ⟨x, hx⟩ : ∃ x, s[k0 + k]? = some x := ⟨_, List.getElem?_eq_getElem hlt⟩
      refine iteT ⟨_, rfl, _, rfl, s, _, x, rfl, rfl, by omega, txt_atI hx rfl, x, rfl, lit_d10, _, rfl, ?_⟩
      rw [dig_in]
      cases hdx : isDig x with
      | true =>
        refine iteT ⟨fun σ' H'' => H'' = H' ∧ σ' = [some (tx s), some (.int (k0 : Int)), some (.int ((k0 + (k + 1) : Nat) : Int)), none, none, none], ?_, ?_⟩
        · rintro σ' H'' ⟨rfl, rfl⟩
          refine ⟨m - 1, by omega, k + 1, rfl, rfl, by omega, fun i hi => ?_⟩
          by_cases e : i = k
          · rw [e, List.getElem?_drop]
            exact ⟨x, hx, hdx⟩
          · exact hb i (by omega)
        · exact ⟨_, rfl, _, _, rfl, rfl, rfl, rfl⟩
      | false =>
        have ek : ds.length = k := by
          refine run_eq hrun ⟨by omega, hb, fun _ hc => ?_⟩
          obtain ⟨y, h1, h2⟩ := hc
          rw [List.getElem?_drop, hx] at h1
          rw [← Option.some.inj h1, hdx] at h2
          cases h2
        refine iteF ?_
        subst ek
        obtain ⟨g, r, hg⟩ : ∃ g r, (s.drop k0).drop ds.length = g :: r := by
          cases hc : (s.drop k0).drop ds.length with
          | nil =>
            have := List.drop_eq_nil_iff.mp hc
            omega
          | cons g r => exact ⟨g, r, rfl⟩
        rw [List.drop_drop] at hg
        obtain ⟨g1, g2, g3⟩ := at_drop hg
        rw [hx] at g1
        have eg : x = g := Option.some.inj g1
        subst eg
        have ecut : (s.drop k0).take (k0 + ds.length - k0) = ds := by
          rw [Nat.add_sub_cancel_left]
          conv => lhs; rw [hsp]
          exact List.take_left
        have ecmd : cmdAt (s.drop k0) = (match countOf ds with
            | none => none
            | some n => if Kw.four x = true then some ⟨n, x, [], ds.length + 1⟩ else if ds.length > 0 then none else if x = 59 then some ⟨1, 59, [], 1⟩
              else if x = 34 ∧ (r.takeWhile (· != 34)).length > 0 ∧ (r.takeWhile (· != 34)).length < r.length then some ⟨1, 34, r.takeWhile (· != 34), (r.takeWhile (· != 34)).length + 2⟩ else none) := by
          unfold cmdAt
          rw [hds, List.drop_drop, hg]
          all_goals (cases countOf ds <;> rfl)
        -- count = count_of(commands[at:place])
        refine ⟨_, rfl, _, rfl, (k0 : Int), rfl, _, rfl, ((k0 + ds.length : Nat) : Int), rfl, s, rfl, by omega, .inl ⟨k0, k0 + ds.length, rfl, rfl, by omega, by omega, ?_⟩⟩
        rw [ecut]
        refine ⟨ds, one_eq rfl, by omega, hdd, ?_⟩
        rw [ecmd] at q
        refine ⟨_, rfl, rfl, _, rfl, ?_⟩
        cases hcn : countOf ds with
        | none =>
          rw [hcn] at q
          exact iteT (q _ _ (Same.refl _) rfl)
        | some n =>
          rw [hcn] at q
          refine iteF ⟨_, rfl, _, rfl, s, rfl, by omega, rfl, _, rfl, ?_⟩
          rw [decide_eq_false (show ¬ V.int ((k0 + ds.length : Nat) : Int) = V.int (s.length : Int) from fun z => by have := V.int.inj z; omega)]
          refine iteF ?_
          refine ⟨_, rfl, _, rfl, s, _, x, rfl, rfl, by omega, txt_atI hx rfl, ?_⟩
          refine ⟨_, rfl, x, rfl, lit_four, _, rfl, ?_⟩
          rw [four_in]
          cases hf : Kw.four x with
          | true =>
            refine iteT ⟨_, rfl, _, rfl, _, rfl, _, _, rfl, rfl, by show 4 ≤ sizeLine; decide, fun p np => q _ _ (same_new np) ?_⟩
            show CmdV _ k0 (if Kw.four x = true then _ else _) _
            rw [if_pos hf]
            refine ⟨p, rfl, ?_⟩
            rw [upd_same, lit_e]
            rfl
          | false =>
            refine iteF ?_
            refine ⟨_, rfl, _, rfl, _, _, rfl, rfl, _, rfl, ite2 (fun e => ?_) fun e => ?_⟩
            · have e1 := of_decide_eq_true e
              refine q _ _ (Same.refl _) ?_
              show CmdV _ k0 (if Kw.four x = true then _ else if ds.length > 0 then _ else _) _
              rw [if_neg (by rw [hf]; simp), if_pos (by omega)]
              rfl
            · have e1 : ¬ ((k0 : Int) < ((k0 + ds.length : Nat) : Int)) := fun z => e (decide_eq_true z)
              have e0 : ds.length = 0 := by omega
              have e00 : ds = [] := List.length_eq_zero_iff.mp e0
              rw [e0, Nat.add_zero] at g3 g2
              have q' : ∀ v H'', Same H' H'' → CmdV H'' k0 (if x = 59 then some ⟨1, 59, [], 1⟩ else if x = 34 ∧ (r.takeWhile (· != 34)).length > 0 ∧ (r.takeWhile (· != 34)).length < r.length then some ⟨1, 34, r.takeWhile (· != 34), (r.takeWhile (· != 34)).length + 2⟩ else none) v → Q v H'' := fun v H'' s2 hc => by
                refine q v H'' s2 ?_
                show CmdV _ k0 (if Kw.four x = true then _ else if ds.length > 0 then _ else _) _
                rw [if_neg (by rw [hf]; simp), if_neg (by omega)]
                exact hc
              refine ⟨_, rfl, [x], [59], rfl, lit_semi, _, rfl, ite2 (fun e => ?_) fun e => ?_⟩
              · have ex : x = 59 := by
                  have := of_decide_eq_true e
                  cases this
                  rfl
                refine ⟨_, rfl, _, rfl, _, _, rfl, rfl, by show 4 ≤ sizeLine; decide, fun p np => q' _ _ (same_new np) ?_⟩
                rw [if_pos ex]
                refine ⟨p, rfl, ?_⟩
                rw [upd_same, lit_e, ex, e0]
                rfl
              · have ex : x ≠ 59 := fun z => e (decide_eq_true (by rw [z]))
                have q'' : ∀ v H'', Same H' H'' → CmdV H'' k0 (if x = 34 ∧ (r.takeWhile (· != 34)).length > 0 ∧ (r.takeWhile (· != 34)).length < r.length then some ⟨1, 34, r.takeWhile (· != 34), (r.takeWhile (· != 34)).length + 2⟩ else none) v → Q v H'' := fun v H'' s2 hc => by
                  refine q' v H'' s2 ?_
                  rw [if_neg ex]
                  exact hc
                have rl : r.length = s.length - (k0 + 1) := by
                  rw [← g3, List.length_drop]
                -- behind = commands.find
                refine ⟨_, rfl, rfl, _, rfl, _, _, rfl, rfl, s, 34, k0 + 1, rfl, ?_, by omega, ?_⟩
                · rw [lit_quo, e0]
                  rfl
                rw [g3]
                generalize hq : r.takeWhile (· != 34) = qs at q'' ⊢
                have hqs : r.take qs.length = qs := by
                  have z := tw_split (· != 34) r
                  rw [hq] at z
                  conv => lhs; rw [z]
                  exact List.take_left
                have hql : qs.length ≤ r.length := by
                  rw [← hq]
                  exact tw_le _ r
                refine ⟨_, rfl, [x], [34], rfl, lit_quo, _, rfl, ite2 (fun e => ?_) fun e => ?_⟩
                · have ex2 : x = 34 := by
                    have := of_decide_eq_true e
                    cases this
                    rfl
                  refine ⟨_, rfl, _, rfl, _, _, rfl, rfl, _, _, rfl, rfl, _, rfl, ?_⟩
                  by_cases hin : qs.length < r.length
                  · rw [if_pos hin]
                    by_cases hpos : qs.length > 0
                    · rw [decide_eq_true (show ((k0 + ds.length : Nat) : Int) + 1 < ((k0 + 1 + qs.length : Nat) : Int) by omega)]
                      refine iteT ⟨_, rfl, _, rfl, _, rfl, _, _, rfl, rfl, _, rfl, _, rfl, _, rfl, s, rfl, by omega, .inl ⟨k0 + 1, k0 + 1 + qs.length, congrArg some (by omega), rfl, by omega, by omega, ?_⟩⟩
                      refine ⟨_, rfl, _, _, rfl, rfl, by show 4 ≤ sizeLine; decide, fun p np => q'' _ _ (same_new np) ?_⟩
                      rw [if_pos ⟨ex2, hpos, hin⟩]
                      refine ⟨p, rfl, ?_⟩
                      rw [upd_same, g3, Nat.add_sub_cancel_left, hqs, ex2]
                      have ez : V.int (((k0 + 1 + qs.length : Nat) : Int) + 1) = V.int ((k0 + (qs.length + 2) : Nat) : Int) := congrArg V.int (by omega)
                      exact congrArg (fun z => some (HO.tup [V.int 1, tx [34], tx qs, z])) ez
                    · rw [decide_eq_false (show ¬ ((k0 + ds.length : Nat) : Int) + 1 < ((k0 + 1 + qs.length : Nat) : Int) by omega)]
                      refine iteF (q'' _ _ (Same.refl _) ?_)
                      rw [if_neg (fun z => hpos z.2.1)]
                      rfl
                  · rw [if_neg hin, decide_eq_false (show ¬ ((k0 + ds.length : Nat) : Int) + 1 < (-1 : Int) by omega)]
                    refine iteF (q'' _ _ (Same.refl _) ?_)
                    rw [if_neg (fun z => hin z.2.2)]
                    rfl
                · have ex2 : x ≠ 34 := fun z => e (decide_eq_true (by rw [z]))
                  refine iteF (q'' _ _ (Same.refl _) ?_)
                  rw [if_neg (fun z => ex2 z.1)]
                  rfl
    · rw [decide_eq_false (show ¬ ((k0 + k : Nat) : Int) < (s.length : Int) by omega)]
      refine iteF (iteF ?_)
      have ek : ds.length = k := run_eq hrun ⟨by omega, hb, fun z => by omega⟩
      subst ek
      have ecut : (s.drop k0).take (k0 + ds.length - k0) = ds := by
        rw [Nat.add_sub_cancel_left]
        conv => lhs; rw [hsp]
        exact List.take_left
      have enil : (s.drop k0).drop ds.length = [] := List.drop_eq_nil_iff.mpr (by omega)
      have ecmd : cmdAt (s.drop k0) = none := by
        unfold cmdAt
        rw [hds, enil]
        cases countOf ds <;> rfl
      rw [ecmd] at q
      refine ⟨_, rfl, _, rfl, (k0 : Int), rfl, _, rfl, ((k0 + ds.length : Nat) : Int), rfl, s, rfl, by omega, .inl ⟨k0, k0 + ds.length, rfl, rfl, by omega, by omega, ?_⟩⟩
      rw [ecut]
      refine ⟨ds, one_eq rfl, by omega, hdd, ?_⟩
      refine ⟨_, rfl, rfl, _, rfl, ?_⟩
      cases hcn : countOf ds with
      | none => exact iteT (q _ _ (Same.refl _) rfl)
      | some n =>
        refine iteF ⟨_, rfl, _, rfl, s, rfl, by omega, rfl, _, rfl, ?_⟩
        rw [decide_eq_true (show V.int ((k0 + ds.length : Nat) : Int) = V.int (s.length : Int) from congrArg V.int (by omega))]
        exact iteT (q _ _ (Same.refl _) rfl)
end
end Kl
set_option Elab.async false
set_option linter.all false
set_option maxRecDepth 100000
set_option maxHeartbeats 4000000
namespace Kl
open PySem PySem.Spec PyProof.Rows L2 Kw
def StAt (H : Hp) (p : Addr) (st : Sta) : Prop := ∃ r, H p = some (.tup [.ref r, tx st.line]) ∧ H r = some (.tup (pgv st.rows))
theorem StAt.same {H H' : Hp} {p : Addr} {st : Sta} (h : StAt H p st) (s : Same H H') : StAt H' p st := by
  obtain ⟨r, h1, h2⟩ := h
  exact ⟨r, s _ _ h1, s _ _ h2⟩
def OptSt (H : Hp) : Option Sta → V → Prop
  | none, v => v = .non
  | some st, v => ∃ p, v = .ref p ∧ StAt H p st
theorem pgv_app (a b : Pg) : pgv a ++ pgv b = pgv (a ++ b) := by
  show List.map tx a ++ List.map tx b = List.map tx (a ++ b)
  rw [List.map_append]
theorem pgv_rep (n : Nat) (t : T) : List.replicate n (tx t) = pgv (List.replicate n t) := by
  show _ = List.map tx _
  rw [List.map_replicate]
section
variable {P : Program} {w : World} {K : PySem.W.Frag} {mg : Str → Option Value} {base : Heap}
def sp_drawn_on : Sp := fun vs H Q _ => ∃ (wd lf : Nat) (p : Addr) (st : Sta) (c : T), vs = [.int (wd : Int), .int (lf : Int), .ref p, tx c] ∧ StAt H p st ∧ st.line.length ≤ 1000000 ∧ c.length ≤ 1000000 ∧
  ∀ v H', Same H H' → OptSt H' (if lf = 0 ∨ st.line.length + c.length > wd then none else some ⟨st.rows, st.line ++ c⟩) v → Q v H'
theorem ok_drawn_on (D : Def K mg "drawn_on" s_drawn_on ["width", "left", "page", "cells"]) (fr : Free mg) : Ok P w K mg base 1 "drawn_on" ["width", "left", "page", "cells"] sp_drawn_on := by
  refine def_ok D sc_drawn_on (fun vs H Q E h => ?_) fun f cdv A outer s0 H vs Q E hr h => ?_
  · obtain ⟨wd, lf, p, st, c, rfl, _⟩ := h
    rfl
  · obtain ⟨wd, lf, p, st, c, rfl, ⟨r, hp, hrw⟩, z1, z2, q⟩ := h
    refine ⟨_, pss_cons (ps_asg (pv 2) (pg_tup (by rfl) (pgs_cons (pg_name (i := 4) sc_drawn_on.nd rfl (.inl rfl)) (pgs_cons (pg_name (i := 5) sc_drawn_on.nd rfl (.inl rfl)) pgs_nil))))
      (pss_cons (ps_if (PW.pt (pw_or (pt_cmpR op_eq (pv 1) pe_int (nomark _)) (pw_or1 (pt_cmpR op_gt (pe_op op_add (pe_callB c_lenT (by rfl) fr.len PySem.boot_len (pa_cons (pv 5) pa_nil)) (pe_callB c_lenT (by rfl) fr.len PySem.boot_len (pa_cons (pv 3) pa_nil))) (pv 0) (nomark _))))) (pss_one (ps_ret pe_non)) pss_nil)
      (pss_one (ps_ret (pe_tup (pa_cons (pv 4) (pa_cons (pe_op o_addT (pv 5) (pv 3)) pa_nil)))))), ?_⟩
    refine ⟨_, rfl, p, _, rfl, SqT.of hp, rfl, _, _, rfl, _, _, rfl, rfl, ?_⟩
    refine ⟨_, rfl, rfl, _, rfl, ite2 (fun e => ?_) fun e => ?_⟩
    · have e1 := V.int.inj (of_decide_eq_true e)
      refine iteT (q _ _ (Same.refl _) ?_)
      rw [if_pos (.inl (by omega))]
      rfl
    · have e1 : lf ≠ 0 := fun z => e (decide_eq_true (by rw [z]; rfl))
      refine ⟨_, rfl, st.line, rfl, by omega, _, rfl, c, rfl, by omega, _, _, rfl, rfl, _, rfl, _, _, rfl, rfl, _, rfl, ite2 (fun e2 => ?_) fun e2 => ?_⟩
      · have e3 := of_decide_eq_true e2
        refine q _ _ (Same.refl _) ?_
        rw [if_pos (.inr (by omega))]
        rfl
      · have e3 : ¬ ((wd : Int) < (st.line.length : Int) + (c.length : Int)) := fun z => e2 (decide_eq_true z)
        refine ⟨_, rfl, _, rfl, _, rfl, st.line, c, rfl, rfl, by omega, by show 2 ≤ sizeLine; decide, fun a na => q _ _ (same_new na) ?_⟩
        rw [if_neg (by omega)]
        exact ⟨a, rfl, r, upd_same, by rw [upd_ne (ne_of_none hrw na)]; exact hrw⟩
def sp_gone_down : Sp := fun vs H Q _ => ∃ (wd lf n : Nat) (p : Addr) (st : Sta), vs = [.int (wd : Int), .int (lf : Int), .ref p, .int (n : Int)] ∧ StAt H p st ∧ 1 ≤ n ∧ n ≤ 1000 ∧ wd ≤ 1000 ∧ st.line.length ≤ wd ∧ st.rows.length ≤ 1000 ∧
  ∀ v H', Same H H' → OptSt H' (if n > lf then none else some ⟨downBy wd st n, []⟩) v → Q v H'
theorem ok_gone_down (D : Def K mg "gone_down" s_gone_down ["width", "left", "page", "count"]) (fr : Free mg) : Ok P w K mg base 1 "gone_down" ["width", "left", "page", "count"] sp_gone_down := by
  refine def_ok D sc_gone_down (fun vs H Q E h => ?_) fun f cdv A outer s0 H vs Q E hr h => ?_
  · obtain ⟨wd, lf, n, p, st, rfl, _⟩ := h
    rfl
  · obtain ⟨wd, lf, n, p, st, rfl, ⟨r, hp, hrw⟩, n1, n2, w1, hl, hrl, q⟩ := h
    refine ⟨_, pss_cons (ps_asg (pv 2) (pg_tup (by rfl) (pgs_cons (pg_name (i := 4) sc_gone_down.nd rfl (.inl rfl)) (pgs_cons (pg_name (i := 5) sc_gone_down.nd rfl (.inl rfl)) pgs_nil))))
      (pss_cons (ps_if (pt_cmpR op_gt (pv 3) (pv 1) (nomark _)) (pss_one (ps_ret pe_non)) pss_nil)
      (pss_cons (ps_set (i := 6) sc_gone_down.nd rfl (.inl rfl) (pe_op o_addT (pv 5) (pe_op o_mulT pe_str (pe_op op_sub (pv 0) (pe_callB c_lenT (by rfl) fr.len PySem.boot_len (pa_cons (pv 5) pa_nil))))))
      (pss_one (ps_ret (pe_tup (pa_cons (pe_op o_cat2 (pe_op o_cat2 (pv 4) (pe_tup (pa_cons (pv 6) pa_nil))) (pe_op o_rep1 (pe_tup (pa_cons (pe_op o_mulT pe_str (pv 0)) pa_nil)) (pe_op op_sub (pv 3) pe_int))) (pa_cons pe_str pa_nil))))))), ?_⟩
    refine ⟨_, rfl, p, _, rfl, SqT.of hp, rfl, _, _, rfl, _, _, rfl, rfl, ?_⟩
    refine ⟨_, rfl, _, rfl, _, _, rfl, rfl, _, rfl, ite2 (fun e => ?_) fun e => ?_⟩
    · have e1 := of_decide_eq_true e
      refine q _ _ (Same.refl _) ?_
      rw [if_pos (by omega)]
      rfl
    · have e1 : ¬ ((lf : Int) < (n : Int)) := fun z => e (decide_eq_true z)
      refine ⟨_, rfl, _, rfl, _, rfl, st.line, rfl, by omega, _, _, rfl, rfl, 32, _, lit_sp, rfl, by omega, by omega, ?_⟩
      have ew : ((wd : Int) - (st.line.length : Int)).toNat = wd - st.line.length := by omega
      rw [ew]
      refine ⟨st.line, List.replicate (wd - st.line.length) 32, rfl, rfl, by rw [List.length_replicate]; omega, ?_⟩
      refine ⟨_, rfl, _, rfl, by show 1 ≤ sizeLine; decide, fun t1 nt1 => ?_⟩
      refine ⟨r, t1, _, _, rfl, rfl, by rw [upd_ne (ne_of_none hrw nt1)]; exact hrw, upd_same, by rw [List.length_map]; simp; omega, fun H2 c1 s2 hc1 => ?_⟩
      refine ⟨_, rfl, 32, _, lit_sp, rfl, by omega, by omega, by show 1 ≤ sizeLine; decide, fun t2 nt2 => ?_⟩
      refine ⟨_, rfl, _, _, rfl, rfl, t2, n - 1, _, rfl, congrArg V.int (by omega), upd_same, by omega, fun H3 c2 s3 hc2 => ?_⟩
      refine ⟨c1, c2, _, _, rfl, rfl, (Same.trans (same_new nt2) s3) _ _ hc1, hc2, ?_, fun H4 c3 s4 hc3 => ?_⟩
      · rw [List.length_append, List.length_map, List.length_replicate]
        simp
        omega
      refine ⟨by show 2 ≤ sizeLine; decide, fun t3 nt3 => ?_⟩
      have sm : Same H (upd H4 t3 (.tup [.ref c3, V.str (Str.ofString "")])) := (same_new nt1).trans (s2.trans ((same_new nt2).trans (s3.trans (s4.trans (same_new nt3)))))
      refine q _ _ sm ?_
      rw [if_neg (by omega)]
      refine ⟨t3, rfl, c3, by rw [upd_same, lit_e], ?_⟩
      rw [upd_ne (ne_of_none hc3 nt3), hc3]
      have e5 : ([tx (st.line ++ List.replicate (wd - st.line.length) 32)] : List V) = pgv [st.line ++ bl (wd - st.line.length)] := rfl
      rw [Int.toNat_natCast, e5, pgv_rep, pgv_app, pgv_app]
      rfl
def sp_copied : Sp := fun vs H Q _ => ∃ (lf n : Nat) (p : Addr) (st : Sta), vs = [.int (lf : Int), .ref p, .int (n : Int)] ∧ StAt H p st ∧ 1 ≤ n ∧ n ≤ 1000 ∧ st.line.length ≤ 1000000 ∧ st.rows.length ≤ 1000 ∧
  ∀ v H', Same H H' → OptSt H' (if st.line ≠ [] ∨ st.rows = [] ∨ n > lf then none else some ⟨st.rows ++ List.replicate n (lastRow st.rows), []⟩) v → Q v H'
theorem ok_copied (D : Def K mg "copied" s_copied ["left", "page", "count"]) (fr : Free mg) : Ok P w K mg base 1 "copied" ["left", "page", "count"] sp_copied := by
  refine def_ok D sc_copied (fun vs H Q E h => ?_) fun f cdv A outer s0 H vs Q E hr h => ?_
  · obtain ⟨lf, n, p, st, rfl, _⟩ := h
    rfl
  · obtain ⟨lf, n, p, st, rfl, ⟨r, hp, hrw⟩, n1, n2, hl, hrl, q⟩ := h
    refine ⟨_, pss_cons (ps_asg (pv 1) (pg_tup (by rfl) (pgs_cons (pg_name (i := 3) sc_copied.nd rfl (.inl rfl)) (pgs_cons (pg_name (i := 4) sc_copied.nd rfl (.inl rfl)) pgs_nil))))
      (pss_cons (ps_if (PW.pt (pw_or (pt_cmpR o_neT (pv 4) pe_str (nomark _)) (pw_or (pt_not (pt_truth (pv 3) (by intro _; rfl))) (pw_or1 (pt_cmpR op_gt (pv 2) (pv 0) (nomark _)))))) (pss_one (ps_ret pe_non)) pss_nil)
      (pss_one (ps_ret (pe_tup (pa_cons (pe_op o_cat2 (pv 3) (pe_op o_rep1 (pe_tup (pa_cons (pe_ix ix_tup (pv 3) (pe_un un_neg pe_int) (fun _ _ => rfl)) pa_nil)) (pv 2))) (pa_cons pe_str pa_nil)))))), ?_⟩
    refine ⟨_, rfl, p, _, rfl, SqT.of hp, rfl, _, _, rfl, _, _, rfl, rfl, ?_⟩
    refine ⟨_, rfl, st.line, [], rfl, lit_e, _, rfl, ?_⟩
    by_cases h1 : st.line = []
    · rw [decide_eq_true h1]
      refine iteF ⟨_, rfl, _, .inr (.inl ⟨_, SqT.of hrw, rfl⟩), ?_⟩
      cases hrows : st.rows with
      | nil =>
        refine iteT (q _ _ (Same.refl _) ?_)
        rw [if_pos (.inr (.inl hrows))]
        rfl
      | cons a l =>
        refine iteF ⟨_, rfl, _, rfl, _, _, rfl, rfl, _, rfl, ite2 (fun e => ?_) fun e => ?_⟩
        · have e1 := of_decide_eq_true e
          refine q _ _ (Same.refl _) ?_
          rw [if_pos (.inr (.inr (by omega)))]
          rfl
        · have e1 : ¬ ((lf : Int) < (n : Int)) := fun z => e (decide_eq_true z)
          have hlast : pgv st.rows = pgv st.rows.dropLast ++ [tx (lastRow st.rows)] := by
            have hne : st.rows ≠ [] := by rw [hrows]; simp
            have z := List.dropLast_concat_getLast hne
            have e2 : lastRow st.rows = st.rows.getLast hne := by
              unfold lastRow
              rw [List.getLastD_eq_getLast?, List.getLast?_eq_some_getLast hne]
              rfl
            rw [e2]
            conv => lhs; rw [← z]
            show List.map tx _ = _
            rw [List.map_append]
            rfl
          have hat : atI (pgv st.rows) (-1) = some (tx (lastRow st.rows)) := by
            rw [hlast]
            exact atI_last _ _
          refine ⟨_, rfl, _, rfl, 1, rfl, r, _, _, _, rfl, rfl, SqT.of hrw, hat, by show 1 ≤ sizeLine; decide, fun t1 nt1 => ?_⟩
          refine ⟨_, rfl, t1, n, _, rfl, rfl, upd_same, by omega, fun H2 c1 s2 hc1 => ?_⟩
          refine ⟨r, c1, _, _, rfl, rfl, (Same.trans (same_new nt1) s2) _ _ hrw, hc1, ?_, fun H3 c2 s3 hc2 => ?_⟩
          · rw [List.length_map, List.length_replicate]
            omega
          refine ⟨by show 2 ≤ sizeLine; decide, fun t3 nt3 => q _ _ ((same_new nt1).trans (s2.trans (s3.trans (same_new nt3)))) ?_⟩
          rw [if_neg (fun z => by
            rcases z with z | z | z
            · exact z h1
            · rw [hrows] at z; cases z
            · omega)]
          refine ⟨t3, rfl, c2, by rw [upd_same, lit_e], ?_⟩
          rw [upd_ne (ne_of_none hc2 nt3), hc2, pgv_rep, pgv_app]
    · rw [decide_eq_false h1]
      refine iteT (q _ _ (Same.refl _) ?_)
      rw [if_pos (.inl h1)]
      rfl
def sp_after : Sp := fun vs H Q _ => ∃ (wd hg : Nat) (p c : Addr) (st : Sta) (n g k : Nat) (cells : T), vs = [.int (wd : Int), .int (hg : Int), .ref p, .ref c] ∧ StAt H p st ∧ H c = some (.tup [.int (n : Int), tx [g], tx cells, .int (k : Int)]) ∧
  Fit wd hg st ∧ wd ≤ 250 ∧ hg ≤ 250 ∧ 1 ≤ n ∧ n < 1000 ∧ cells.length ≤ 1000000 ∧ ∀ v H', Same H H' → OptSt H' (Kw.after wd hg st n g cells) v → Q v H'
theorem ok_after (D : Def K mg "after" s_after ["width", "height", "page", "command"]) (fr : Free mg) (G1 : Ok P w K mg base 1 "gone_down" ["width", "left", "page", "count"] sp_gone_down) (G2 : Ok P w K mg base 1 "copied" ["left", "page", "count"] sp_copied)
    (G3 : Ok P w K mg base 1 "drawn_on" ["width", "left", "page", "cells"] sp_drawn_on) : Ok P w K mg base 2 "after" ["width", "height", "page", "command"] sp_after := by
  refine def_ok D sc_after (fun vs H Q E h => ?_) fun f cdv A outer s0 H vs Q E hr h => ?_
  · obtain ⟨wd, hg, p, c, st, n, g, k, cells, rfl, _⟩ := h
    rfl
  · obtain ⟨wd, hg, p, c, st, n, g, k, cells, rfl, hst, hc, ⟨f1, f2, f3⟩, w1, h1, n1, n2, hz, q⟩ := h
    obtain ⟨r, hp, hrw⟩ := id hst
    refine ⟨_, pss_cons (ps_asg (pv 3) (pg_tup (by rfl) (pgs_cons (pg_name (i := 4) sc_after.nd rfl (.inl rfl)) (pgs_cons (pg_name (i := 5) sc_after.nd rfl (.inl rfl)) (pgs_cons (pg_name (i := 6) sc_after.nd rfl (.inl rfl)) (pgs_cons (pg_name (i := 7) sc_after.nd rfl (.inl rfl)) pgs_nil))))))
      (pss_cons (ps_set (i := 8) sc_after.nd rfl (.inl rfl) (pe_op op_sub (pv 1) (pe_callB call_len (by rfl) fr.len PySem.boot_len (pa_cons (pe_ix ix_tup (pv 2) pe_int (fun _ _ => rfl)) pa_nil))))
      (pss_cons (ps_if (pt_cmpR o_eqT (pv 5) pe_str (nomark _)) (pss_one (ps_ret (pe_f G1 hr (by rfl) (pa_cons (pv 0) (pa_cons (pv 8) (pa_cons (pv 2) (pa_cons (pv 4) pa_nil))))))) pss_nil)
      (pss_cons (ps_if (pt_cmpR o_eqT (pv 5) pe_str (nomark _)) (pss_one (ps_ret (pe_f G2 hr (by rfl) (pa_cons (pv 8) (pa_cons (pv 2) (pa_cons (pv 4) pa_nil)))))) pss_nil)
      (pss_cons (ps_if (pt_cmpR o_eqT (pv 5) pe_str (nomark _)) (pss_one (ps_ret (pe_f G3 hr (by rfl) (pa_cons (pv 0) (pa_cons (pv 8) (pa_cons (pv 2) (pa_cons (pe_op o_mulT pe_str (pv 4)) pa_nil))))))) pss_nil)
      (pss_cons (ps_if (pt_cmpR o_eqT (pv 5) pe_str (nomark _)) (pss_one (ps_ret (pe_f G3 hr (by rfl) (pa_cons (pv 0) (pa_cons (pv 8) (pa_cons (pv 2) (pa_cons (pe_op o_mulT pe_str (pv 4)) pa_nil))))))) pss_nil)
      (pss_one (ps_ret (pe_f G3 hr (by rfl) (pa_cons (pv 0) (pa_cons (pv 8) (pa_cons (pv 2) (pa_cons (pv 6) pa_nil)))))))))))), ?_⟩
    refine ⟨_, rfl, c, _, rfl, SqT.of hc, rfl, _, _, rfl, _, _, rfl, _, _, rfl, _, _, rfl, rfl, ?_⟩
    refine ⟨_, rfl, _, rfl, p, _, _, _, rfl, rfl, SqT.of hp, atI_nat (j := 0) rfl, _, _, rfl, .inr ⟨_, SqT.of hrw, rfl⟩, _, _, rfl, rfl, ?_⟩
    have el : V.int ((hg : Int) - ((pgv st.rows).length : Int)) = V.int ((hg - st.rows.length : Nat) : Int) := congrArg V.int (by rw [List.length_map]; omega)
    have e47 : ∀ {z : T} {c : Nat}, [g] = [c] → g = c := fun e => by cases e; rfl
    unfold Kw.after at q
    refine ⟨_, rfl, [g], [47], rfl, lit_sl, _, rfl, ite2 (fun e => ?_) fun e => ?_⟩
    · have eg := e47 (z := []) (of_decide_eq_true e)
      rw [if_pos eg] at q
      refine ⟨_, rfl, _, rfl, _, rfl, _, rfl, wd, hg - st.rows.length, n, p, st, ?_, hst, n1, by omega, by omega, f1, by omega, q⟩
      show [_, _, _, _] ++ [] = _
      rw [← el]
      rfl
    · have eg : g ≠ 47 := fun z => e (decide_eq_true (by rw [z]))
      rw [if_neg eg] at q
      refine ⟨_, rfl, [g], [94], rfl, lit_up, _, rfl, ite2 (fun e => ?_) fun e => ?_⟩
      · have eg := e47 (z := []) (of_decide_eq_true e)
        rw [if_pos eg] at q
        refine ⟨_, rfl, _, rfl, _, rfl, hg - st.rows.length, n, p, st, ?_, hst, n1, by omega, by omega, by omega, q⟩
        show [_, _, _] ++ [] = _
        rw [← el]
        rfl
      · have eg2 : g ≠ 94 := fun z => e (decide_eq_true (by rw [z]))
        rw [if_neg eg2] at q
        unfold inkOf at q
        refine ⟨_, rfl, [g], [62], rfl, lit_gt, _, rfl, ite2 (fun e => ?_) fun e => ?_⟩
        · have eg := e47 (z := []) (of_decide_eq_true e)
          rw [if_pos eg] at q
          refine ⟨_, rfl, _, rfl, _, rfl, _, rfl, 32, _, lit_sp, rfl, by omega, by omega, ?_⟩
          rw [Int.toNat_natCast]
          refine ⟨wd, hg - st.rows.length, p, st, bl n, ?_, hst, by omega, by rw [bl_len]; omega, q⟩
          show [_, _, _, _] ++ [] = _
          rw [← el]
          rfl
        · have eg3 : g ≠ 62 := fun z => e (decide_eq_true (by rw [z]))
          rw [if_neg eg3] at q
          refine ⟨_, rfl, [g], [35], rfl, lit_bar, _, rfl, ite2 (fun e => ?_) fun e => ?_⟩
          · have eg := e47 (z := []) (of_decide_eq_true e)
            rw [if_pos eg] at q
            refine ⟨_, rfl, _, rfl, _, rfl, _, rfl, 35, _, lit_bar, rfl, by omega, by omega, ?_⟩
            rw [Int.toNat_natCast]
            refine ⟨wd, hg - st.rows.length, p, st, List.replicate n 35, ?_, hst, by omega, by rw [List.length_replicate]; omega, q⟩
            show [_, _, _, _] ++ [] = _
            rw [← el]
            rfl
          · have eg4 : g ≠ 35 := fun z => e (decide_eq_true (by rw [z]))
            rw [if_neg eg4] at q
            refine ⟨_, rfl, _, rfl, _, rfl, _, rfl, wd, hg - st.rows.length, p, st, cells, ?_, hst, by omega, hz, q⟩
            show [_, _, _, _] ++ [] = _
            rw [← el]
            rfl
def sp_ended : Sp := fun vs H Q _ => ∃ (wd hg : Nat) (p : Addr) (st : Sta), vs = [.int (wd : Int), .int (hg : Int), .ref p] ∧ StAt H p st ∧ Fit wd hg st ∧ wd ≤ 250 ∧ hg ≤ 250 ∧ ∀ q H', Same H H' → H' q = some (.tup (pgv (endPg wd hg st))) → Q (.ref q) H'
theorem ok_ended (D : Def K mg "ended" s_ended ["width", "height", "page"]) (fr : Free mg) (G1 : Ok P w K mg base 1 "gone_down" ["width", "left", "page", "count"] sp_gone_down) : Ok P w K mg base 2 "ended" ["width", "height", "page"] sp_ended := by
  refine def_ok D sc_ended (fun vs H Q E h => ?_) fun f cdv A outer s0 H vs Q E hr h => ?_
  · obtain ⟨wd, hg, p, st, rfl, _⟩ := h
    rfl
  · obtain ⟨wd, hg, p, st, rfl, hst, ⟨f1, f2, f3⟩, w1, h1, q⟩ := h
    obtain ⟨r, hp, hrw⟩ := id hst
    refine ⟨_, pss_cons (ps_set (i := 3) sc_ended.nd rfl (.inl rfl) (pe_op op_sub (pv 1) (pe_callB call_len (by rfl) fr.len PySem.boot_len (pa_cons (pe_ix ix_tup (pv 2) pe_int (fun _ _ => rfl)) pa_nil))))
      (pss_cons (ps_if (pt_cmpR op_eq (pv 3) pe_int (nomark _)) (pss_one (ps_ret (pe_ix ix_tup (pv 2) pe_int (fun _ _ => rfl)))) pss_nil)
      (pss_one (ps_ret (pe_ix ix_tup (pe_f G1 hr (by rfl) (pa_cons (pv 0) (pa_cons (pv 3) (pa_cons (pv 2) (pa_cons (pv 3) pa_nil))))) pe_int (fun _ _ => rfl))))), ?_⟩
    refine ⟨_, rfl, _, rfl, p, _, _, _, rfl, rfl, SqT.of hp, atI_nat (j := 0) rfl, _, _, rfl, .inr ⟨_, SqT.of hrw, rfl⟩, _, _, rfl, rfl, ?_⟩
    have el : V.int ((hg : Int) - ((pgv st.rows).length : Int)) = V.int ((hg - st.rows.length : Nat) : Int) := congrArg V.int (by rw [List.length_map]; omega)
    refine ⟨_, rfl, rfl, _, rfl, ite2 (fun e => ?_) fun e => ?_⟩
    · have e1 := V.int.inj ((el.symm).trans (of_decide_eq_true e))
      refine ⟨_, rfl, p, _, _, _, rfl, rfl, SqT.of hp, atI_nat (j := 0) rfl, q r _ (Same.refl _) ?_⟩
      unfold endPg
      rw [if_pos (by omega)]
      exact hrw
    · have e1 : hg - st.rows.length ≠ 0 := fun z => e (decide_eq_true (el.trans (by rw [z]; rfl)))
      refine ⟨_, rfl, _, rfl, _, rfl, _, rfl, wd, hg - st.rows.length, hg - st.rows.length, p, st, ?_, hst, by omega, by omega, by omega, f1, by omega, fun v H2 s2 ho => ?_⟩
      · show [_, _, _, _] ++ [] = _
        rw [← el]
        rfl
      · rw [if_neg (by omega)] at ho
        obtain ⟨p2, rfl, r2, g1, g2⟩ := ho
        refine ⟨p2, _, _, _, rfl, rfl, SqT.of g1, atI_nat (j := 0) rfl, q r2 H2 s2 ?_⟩
        unfold endPg
        rw [if_neg e1]
        exact g2
end
end Kl
set_option Elab.async false
set_option linter.all false
set_option maxRecDepth 100000
set_option maxHeartbeats 4000000
/-! the own error: its __init__ says super().__init__(a text) and stores one field -/
namespace Kl
open PySem PySem.W PySem.Calls PyProof.Rows PySem.HandSPX
abbrev s_bad : Stmt := L2.inClass (topS 16) 0
structure BadTxt (P : Program) (K : Frag) (mg : Str → Option Value) (C fI : Addr) : Prop where
  gC : mg "BadFile" = some (.ref C)
  cls : ∃ nm q N bs bm sn sub ab col dd k0 k1 k2 k3 k5, K.lookup C = some (excClassObj nm q C N bs bm true sn sub ab col dd k0 k1 k2 k3 k5 "ValueError.__new__") ∧ refsVE bm = true
  sa : findIn K (.ref C) "__setattr__" = some (some (.builtin "object.__setattr__"))
  noN : findIn K (.ref C) "at" = some none
  iC : findIn K (.ref C) "__init__" = some (some (.ref fI))
  tC : typeIn K (.ref fI) = some (.type "function")
  kC : keepIn K (.ref C) = true
  exC : subIn K (.ref C) (.type "BaseException") = some true
  tyC : typeIn K (.ref C) = some (.type "type")
  te : exmOne K (.ref C) (.ref C) = some true
  op : nsIn K cStatics "thirdparty.any" = some none
  sup : ks_superIn K C C "__init__" = some (some (.builtin "ValueError.__init__"))
  veC : subIn K (.ref C) (.type "ValueError") = some true
  mrC : mroIn K C (.ref C) = some true
  mgS : mg "super" = none
  top : (P.main.scope.names.lookup ("super" : Str)).isSome = false
  fn : ∃ (oc : Value) (od : Option Addr) (kV doc pm : Value) (an : Option Addr) (cda : Addr) (ct : Value) (cc : Addr) (osl : Array (Option Value)) (ccl : Value) (cdd : Option Addr) (vs : Array Value) (ccs : Array (Option Value)) (cl : Value) (cld : Option Addr) (csl : Array (Option Value)) (file : Str) (tf : Tok),
    K.lookup fI = some ⟨oc, od, .func (ksFn "__init__" "BadFile.__init__" (L2.defArgs s_bad) (L2.defBody s_bad) (L2.defScope s_bad) .none kV doc pm an (.ref cda) ct cc), osl⟩ ∧ codeIn K (.ref cda) "BadFile.__init__" = true ∧
    K.lookup cda = some ⟨ccl, cdd, .fields vs, ccs⟩ ∧ vs[2]? = some (.str file tf) ∧ ((P.main.file : Str) == file) = true ∧ K.lookup cc = some ⟨cl, cld, .cell (some (.ref C)), csl⟩
/-- what __init__ leaves of a fresh exception at x -/
structure BadEnd (h h' : Heap) (x C dx t1 : Addr) (v : Value) : Prop where
  keep : ∀ b o, b ≠ x → h.get? b = some o → h'.get? b = some o
  obj : h'.get? x = some { cls := .ref C, dict := some dx, data := .fields #[.ref t1, .none, .none, .none, .bool false, .none] }
  dbig : h.objs.size ≤ dx
  dne : dx ≠ x
  ns : h'.Ns1 dx (fun y => if y = "at" then some v else none)
section
variable {prog : Program} {w : World} {A : Around} {E : Value → Shared → Prop} {R : Result → Shared → Prop} {s : Shared} {K : Frag} {mg mb : Str → Option Value} {C fI : Addr}
/-- the built-in __init__ bound to the object, called -/
theorem call_mw {h : Heap} {g : Array GenState} {d : Drawn} {t : Nat} {os : OsState} {nm q : Str} {N : Addr} {bs bm : List Value} {sn : List Str} {sub : List Value} {ab : Bool} {col : Option Bool} {dd : Option Addr} {k0 k1 k2 k3 k5 : Option Value} {u e t0 : Addr} {rest : List Value} {Q : Value → Shared → Prop}
    (hC : h.get? C = some (excClassObj nm q C N bs bm true sn sub ab col dd k0 k1 k2 k3 k5 "ValueError.__new__")) (he : h.get? e = some (excO C t0)) (hu : h.get? u = some (kxs_mw "ValueError.__init__" e)) (hrest : rest.length ≤ sizeLine)
    (hq : ∀ h' t1, (∀ b o, b ≠ e → h.get? b = some o → h'.get? b = some o) → h'.get? e = some (excO C t1) → Q .none ⟨h', g, d, t, os⟩) :
    wpAny (model prog w) A (call (.ref u) rest) Q E ⟨h, g, d, t, os⟩ := by
  refine wpAny_call (codeAny_of_tree ?_)
  show wpAny _ A.in1 (callAny (.ref u) ⟨rest, []⟩) _ _ _
  simp only [callAny]
  refine wpAny_bind (wpAny_load hu ?_)
  simp only [kxs_mw, show (Value.type "method-wrapper" == Value.type "method" || Value.type "method-wrapper" == Value.type "builtin_function_or_method" || Value.type "method-wrapper" == Value.type "method-wrapper") = true by decide, if_true]
  refine KFB.if_so (by decide) ?_
  refine wpAny_bind (check_bound_init F.excBase_ValueError.toExcCallFacts hC he rfl ?_)
  refine wpAny_bind (wpAny_pure (wpAny_pure ?_))
  refine ⟨Code.quiet_builtin _ (by decide +kernel), codeAny_builtin F.excBase_ValueError.initEntry ?_⟩
  rw [Around.under_plainId F.excBase_ValueError.init.plain _]
  wp_walk
  refine hq _ h.objs.size (fun b o hb ho => ?_) ?_
  · rw [Heap.get?_update_other _ _ (Ne.symm hb)]
    exact Heap.get?_push_of_some _ ho
  · rw [Heap.get?_update_self _ (Heap.get?_push_of_some _ he) rfl]
    rfl
theorem bad_init (T : BadTxt prog K mg C fI) {x t0 : Addr} {v : Value} (X : K.In s.heap) (hlim : s.heap.NoLimit) (hgl : s.heap.Ns mainGlobals mg) (hbl : s.heap.Ns builtinsNs mb) (hbs : mb "super" = some (.type "super"))
    (hx : s.heap.get? x = some (excO C t0)) (hnx : K.lookup x = none) (hroom : A.depth < recursionLimit)
    (hq : ∀ h' tk dx t1, BadEnd s.heap h' x C dx t1 v → R (.ok (.ret .none)) { s with heap := h', toks := tk }) :
    codeAny (model prog w) A (.call (.ref fI) ⟨[.ref x, v], []⟩) R s := by
  obtain ⟨oc, od, kV, doc, pm, an, cda, ct, cc, osl, ccl, cdd, vs, ccs, cl, cld, csl, file, tf, ho, hcd, hcode, hvs, hfile, hcell⟩ := T.fn
  obtain ⟨nm, q, N, bs, bm, sn, sub, ab, col, dd, k0, k1, k2, k3, k5, hC, hbm⟩ := T.cls
  have hcl : clsIn K C = some { name := nm, bases := bs, mro := .ref C :: bm, ns := N, qualname := q, hasDict := true, slotNames := sn, subclasses := sub, abstract := ab, collection := col, hasDel := false } := by unfold clsIn; rw [hC] <;> rfl
  refine ks_codeAny_call_defAt (fd := ksFn "__init__" "BadFile.__init__" (L2.defArgs s_bad) (L2.defBody s_bad) (L2.defScope s_bad) .none kV doc pm an (.ref cda) ct cc) (body := L2.defBody s_bad) (binds := [("self", .ref x), ("at", v)])
    hroom (X _ _ ho) rfl hlim (codeRec_of X hcd) rfl (BindsTo.of_eq (by first | rfl | with_unfolding_all rfl)) (show ∀ y ∈ (L2.defScope s_bad).names, y.2 ≠ .cell by decide +kernel) (by intro y hy; rcases List.mem_cons.mp hy with rfl | hy; exact rfl; rcases List.mem_cons.mp hy with rfl | hy; exact rfl; cases hy) (fun h1 hn kp1 => ?_) rfl rfl rfl
  obtain ⟨hp, g, d, tk, os⟩ := s
  have X1 : K.In h1 := X.keeps kp1
  have hx1 := kp1 _ _ hx
  have hL : hp.objs.size ≠ x := Nat.ne_of_gt (Heap.lt_size hx)
  have hself : (List.reverse [((("self" : Str)), Value.ref x), ((("at" : Str)), v)]).lookup ("self" : Str) = some (.ref x) := by first | rfl | with_unfolding_all rfl | kernel_rfl
  have hat : (List.reverse [((("self" : Str)), Value.ref x), ((("at" : Str)), v)]).lookup ("at" : Str) = some v := by first | rfl | with_unfolding_all rfl | kernel_rfl
  refine ks_wpAt_execs_cons (ks_wpAt_Expr_any (ks_wpAt_MethodCall ?_))
  refine ks_wpAt_super_base (of := ⟨oc, od, _, osl⟩) (oc := ⟨ccl, cdd, .fields vs, ccs⟩) (fd := ksFn "__init__" "BadFile.__init__" (L2.defArgs s_bad) (L2.defBody s_bad) (L2.defScope s_bad) .none kV doc pm an (.ref cda) ct cc) rfl rfl (by decide) rfl (X1 _ _ ho) rfl rfl rfl (X1 _ _ hcode) rfl hvs hfile T.top ?_
  have hgl1 : h1.Ns mainGlobals mg := hgl.keeps kp1
  have hbl1 : h1.Ns builtinsNs mb := hbl.keeps kp1
  refine ks_loadName_global rfl rfl (loadGlobal_builtin hgl1 T.mgS hbl1 hbs ⟨rfl, ?_⟩)
  refine wpAny_loadName_free rfl rfl rfl ⟨_, X1 _ _ hcell, rfl⟩ ?_
  refine wpAny_loadName_local rfl rfl hn hself ?_
  refine ks_wpAny_isType_cls (X1 _ _ hC) rfl ⟨rfl, ?_⟩
  refine ks_wpAny_call_super (X1 _ _ hC) rfl hx1 rfl (fun c z => by cases z) (looks_mroIn X1 T.mrC) (fun h2 hso kp2 => ?_)
  have X2 : K.In h2 := X1.keeps kp2
  have hx2 := kp2 _ _ hx1
  have I2 : InstAt h2 x (excO C t0) C none := ⟨hx2, rfl, rfl, trivial⟩
  have hsup : alongIn K "__init__" (((.ref C :: bm).dropWhile (· != .ref C)).drop 1) = some (some (.builtin "ValueError.__init__")) := by
    have z := T.sup
    unfold ks_superIn at z
    rw [hcl] at z
    exact z
  refine kxs_getMethod kxs_ValueError hso (looks_opaque X2 T.op) (l₀ := .ref C :: bm) ((looks_clsIn X2 hcl).andThen .now) rfl X2 hsup (I2.type.andThen (looks_subIn X2 T.veC)) (ks_ne X2 I2 hcl) (by decide) ?_
  have hu : (h2.push (kxs_mw "ValueError.__init__" x)).get? h2.objs.size = some (kxs_mw "ValueError.__init__" x) := Heap.get?_push_at rfl rfl
  have kp3 : ∀ b o, h2.get? b = some o → (h2.push (kxs_mw "ValueError.__init__" x)).get? b = some o := fun b o e => Heap.get?_push_of_some _ e
  refine kxs_callWith (i := "ValueError.__init__") (x := x) (by rfl) (evalArgs_plain ?_)
  refine spliced_cons ?_
  refine Constant_str (k := 0) (pos := ⟨0, 0, 0, 0⟩) ?_
  refine spliced_nil ⟨hu, ?_⟩
  refine call_mw (X2.keeps kp3 _ _ hC) (kp3 _ _ hx2) hu (by show 1 ≤ sizeLine; decide) (fun h4 t1 kp4 hx4 => ?_)
  have old : ∀ b o, hp.get? b = some o → (h2.push (kxs_mw "ValueError.__init__" x)).get? b = some o := fun b o e => kp3 b o (kp2 b o (kp1 b o e))
  have old4 : ∀ b o, b ≠ x → hp.get? b = some o → h4.get? b = some o := fun b o hb e => kp4 b o hb (old b o e)
  have X4 : K.In h4 := fun a o e => old4 a o (fun z => by rw [z, hnx] at e; cases e) (X a o e)
  have hn4 : h4.Ns hp.objs.size (fun y => (List.reverse [((("self" : Str)), Value.ref x), ((("at" : Str)), v)]).lookup y) := hn.at fun o q => kp4 _ o hL (kp3 _ o (kp2 _ o q))
  refine wpAt_of_wpAny (wpAny_execs_cons (plainObj_wpAny_Assign_Attribute ?_))
  refine wpAny_Name (wpAny_loadName_local rfl rfl hn4 hat ?_) (by decide)
  refine wpAny_Name (wpAny_loadName_local rfl rfl hn4 hself ?_) (by decide)
  refine set_plain X4 (ox := excO C t1) (od := none) ⟨hx4, rfl, rfl, trivial⟩ T.sa ?_
  refine exc_osa X4 hx4 hcl (show refsVE (.ref C :: bm) = true from hbm) rfl T.noN (fun h5 tk5 dx k5 dn dne hx5 hn5 => ?_)
  show wpAny _ _ (execs _ _) _ _ _
  have sz : hp.objs.size ≤ h4.objs.size := by
    have z := hn4.lt
    exact Nat.le_of_lt z
  exact wpAny_execs_nil (hq h5 tk5 dx t1 ⟨fun b o hb e => k5 b o hb (old4 b o hb e), hx5, Nat.le_trans sz dn, dne, hn5⟩)
end
end Kl
set_option Elab.async false
set_option linter.all false
set_option maxRecDepth 100000
set_option maxHeartbeats 4000000
/-! BadFile(e) made, raised -/
namespace Kl
section
open PySem PySem.W PySem.Calls PyProof.Rows PySem.HandSPX
/-- a made BadFile -/
structure BadMade (h h' : Heap) (e C d : Addr) (v : Value) : Prop where
  keep : ∀ b o, h.get? b = some o → h'.get? b = some o
  new : h.objs.size ≤ e
  obj : ∃ oe vs, h'.get? e = some oe ∧ oe.cls = .ref C ∧ oe.dict = some d ∧ oe.data = .fields vs ∧ vs[1]? = some .none
  dbig : h.objs.size ≤ d
  dne : d ≠ e
  ns : h'.Ns1 d (fun y => if y = "at" then some v else none)
variable {prog : Program} {w : World} {A : Around} {E : Value → Shared → Prop} {R : Result → Shared → Prop} {s : Shared} {K : Frag} {mg mb : Str → Option Value} {C fI : Addr}
theorem bad_made (T : BadTxt prog K mg C fI) {v : Value} (X : K.In s.heap) (hlim : s.heap.NoLimit) (hgl : s.heap.Ns mainGlobals mg) (hbl : s.heap.Ns builtinsNs mb) (hbs : mb "super" = some (.type "super")) (hroom : A.depth + 1 < recursionLimit)
    (hq : ∀ h' tk e d, BadMade s.heap h' e C d v → R (.ok (.ret (.ref e))) { s with heap := h', toks := tk }) :
    codeAny (model prog w) A (.call (.ref C) ⟨[v], []⟩) R s := by
  obtain ⟨nm, q, N, bs, bm, sn, sub, ab, col, dd, k0, k1, k2, k3, k5, hC, hbm⟩ := T.cls
  obtain ⟨hp, g, dr, tk, os⟩ := s
  have kp : ∀ b o, hp.get? b = some o → ((hp.push (kdv_tup [v])).push (excO C hp.objs.size)).get? b = some o := fun b o e => Heap.get?_push_of_some _ (Heap.get?_push_of_some _ e)
  have hget : ((hp.push (kdv_tup [v])).push (excO C hp.objs.size)).get? (hp.objs.size + 1) = some (excO C hp.objs.size) := by heap_get
  have hnx : K.lookup (hp.objs.size + 1) = none := by
    cases e : K.lookup (hp.objs.size + 1) with
    | none => rfl
    | some o =>
      have z : hp.get? (hp.objs.size + 1) = some o := X _ _ e
      exact absurd (Nat.lt_of_succ_lt (Heap.lt_size z)) (Nat.lt_irrefl _)
  refine call_own F.excBase_ValueError (fun X => refsVE_contains X bm hbm) (X _ _ hC) (looks_findIn X T.iC) (fun self => bind_fn X self T.tC) (by show 1 ≤ sizeLine; decide) ?_
  refine bad_init (s := ⟨(hp.push (kdv_tup [v])).push (excO C hp.objs.size), g, dr, tk, os⟩) T (X.keeps kp) (hlim.keeps kp) (hgl.keeps kp) (hbl.keeps kp) hbs hget hnx ?_ fun h' tk' dx t1 m => ?_
  · show A.depth + 1 < recursionLimit
    exact hroom
  · have old : ∀ b o, hp.get? b = some o → h'.get? b = some o := fun b o e => m.keep b o (Nat.ne_of_lt (Nat.lt_succ_of_lt (Heap.lt_size e))) (kp b o e)
    have z : hp.objs.size + 1 + 1 ≤ dx := by
      have q := m.dbig
      first
        | exact q
        | (simpa only [Heap.size_push] using q)
        | (rw [Heap.size_push, Heap.size_push] at q; exact q)
    exact ⟨rfl, hq h' tk' (hp.objs.size + 1) dx ⟨old, Nat.le_succ _, ⟨_, _, m.obj, rfl, rfl, rfl, rfl⟩, Nat.le_trans (Nat.le_trans (Nat.le_succ _) (Nat.le_succ _)) z, m.dne, m.ns⟩⟩
end
section
open PySem PySem.Spec PyProof.Rows L2
theorem rel_at {v : V} {v' : Value} (r : RelV v v') (f : Str) : RelO (List.lookup f [(("at" : Str), v)]) (if f = "at" then some v' else none) := by
  by_cases hw : f = "at"
  · subst hw
    rw [if_pos rfl]
    have q : List.lookup ("at" : Str) [(("at" : Str), v)] = some v := by simp [List.lookup]
    rw [q]
    exact r
  · rw [if_neg hw]
    have qw : (f == ("at" : Str)) = false := by simpa using hw
    have q2 : List.lookup f [(("at" : Str), v)] = none := by simp [List.lookup, qw]
    rw [q2]
    trivial
variable {X : Cx} {C fI : Addr}
/-- BadFile(e) -/
def tMkBad (C : Addr) (ta : TA) : L2.St → Hp → XK → Prop := fun σ H Q => ta σ H fun vs H1 => ∃ v, vs = [v] ∧ ∀ d, H1 d = none → Q (.ref C) (some d) (upd H1 d (.xd [(("at" : Str), v)]))
theorem pmk_bad {a : Expr} {ta : TA} {p pos : Pos} {k : Nat} (T : BadTxt X.prog X.K X.mg C fI) (hr : L2.Room k X.A) (ha : PA X [a] ta) (hg : Gl X "BadFile" := by rfl)
    (he : starEach (a :: []) X.env = (false, eval a X.env) :: starEach [] X.env := by rfl) (hpl : (backTo pos (starEach [] X.env)).any (·.1) = false := by rfl) :
    PMk X (.Call (.Name "BadFile" p) [a] [] pos) (tMkBad C ta) := by
  intro pins s σ H Q I h
  refine wpAny_Call_Name_kw (ld_glob I hg T.gC ?_)
  refine PySem.W.callWith_K (h₀ := X.base) I.ok.mod.kin T.kC (thn (ha.run pos pins s σ H _ I h) fun us s1 hh => ?_) he hpl
  obtain ⟨vs, H1, I1, r1, v, ev, q1⟩ := hh
  subst ev
  refine ⟨I1.kIn, ?_⟩
  cases r1 with
  | cons rv rn =>
    rename_i v' us'
    cases rn
    show wpAny _ _ (call (.ref C) [v']) _ _ _
    have hlim := I1.nolimit
    have hgl : s1.heap.Ns mainGlobals X.mg := I1.ok.mod.glob.keeps I1.bk
    obtain ⟨mb, hb0, hb1⟩ := I1.ok.mod.blt
    have hbl : s1.heap.Ns builtinsNs mb := hb0.keeps I1.bk
    have hbs : mb "super" = some (.type "super") := (hb1 "super" (by decide +kernel)).trans (by decide +kernel)
    obtain ⟨hp, g, dr, tk, os⟩ := s1
    refine wpAny_call (bad_made T I1.kIn hlim hgl hbl hbs (by have := hr.dp; omega) fun h' tk' e d M => ?_)
    show MkP X pins σ Q (.ref e) ⟨h', g, dr, tk', os⟩
    obtain ⟨oe, fv, hoe, hc, hd, hdat, h1⟩ := M.obj
    have hns := M.ns
    obtain ⟨G', g1, g2⟩ := restrict h' fun b => decide (b ≠ e)
    have gk : ∀ b, b ≠ e → G'.get? b = h'.get? b := fun b hb => g1 b (decide_eq_true hb)
    have ge : G'.get? e = none := g2 e (by simp)
    have old : ∀ b o, hp.get? b = some o → G'.get? b = some o := fun b o q => (gk b (Nat.ne_of_lt (Nat.lt_of_lt_of_le (Heap.lt_size q) M.new))).trans (M.keep b o q)
    have ob : ObjOk X.prog X.w (upd H1 d (.xd [(("at" : Str), v)])) G' d (.xd [(("at" : Str), v)]) :=
      ⟨_, hns.at (fun o q => (gk d M.dne).trans q), fun f => rel_at rv f⟩
    have J : Inv X pins σ (upd H1 d (.xd [(("at" : Str), v)])) ⟨G', g, dr, tk', os⟩ := I1.laid (t' := tk') old M.dbig ob
    refine ⟨e, oe, fv, ⟨G', g, dr, tk', os⟩, _, .ref C, some d, rfl, J, fun b o q => ?_, ge, hoe, ⟨hc, hd⟩, hdat, h1, ?_, rfl, I1.bare, raises_own T.exC T.tyC, q1 d (I1.hok.fresh M.dbig)⟩
    · by_cases hb : b = e
      · have q' : G'.get? b = some o := q
        rw [hb, ge] at q'; cases q'
      · exact (gk b hb).symm.trans q
    · rw [upd_ne (Ne.symm M.dne)]
      exact I1.hok.fresh M.new
/-- raise BadFile(e) -/
def tRaiseBad (C : Addr) (W : WX) (ta : TA) : TS := fun _ σ H => tMkBad C ta σ H fun cls d H' => W cls d σ H'
theorem ps_raiseBad {a : Expr} {ta : TA} {W : WX} {p pos pos2 : Pos} {k : Nat} (hc : X.calm = true) (T : BadTxt X.prog X.K X.mg C fI) (hr : L2.Room k X.A) (tk : Takes X W) (ha : PA X [a] ta) (hg : Gl X "BadFile" := by rfl)
    (he : starEach (a :: []) X.env = (false, eval a X.env) :: starEach [] X.env := by rfl) (hpl : (backTo pos (starEach [] X.env)).any (·.1) = false := by rfl) :
    PS X (.Raise (some (.Call (.Name "BadFile" p) [a] [] pos)) none pos2) (tRaiseBad C W ta) := ps_raise hc tk (pmk_bad T hr ha hg he hpl)
end
end Kl
set_option Elab.async false
set_option linter.all false
set_option maxRecDepth 100000
set_option maxHeartbeats 4000000
namespace Kl
open PySem PySem.Spec PyProof.Rows L2 Kw
theorem Form.tail {c : Cmd} {t : T} (f : Form c t) : t.getLast? = some c.g := by
  cases f with
  | four n g h1 h2 h3 =>
    unfold cmdT
    split
    · rfl
    · rw [List.getLast?_concat]
  | fin => rfl
  | quo c h1 h2 =>
    show (34 :: (c ++ [34])).getLast? = some 34
    rw [← List.cons_append, List.getLast?_concat]
/-- the sign in front of the place behind a command -/
theorem last_sign {s : T} {k0 : Nat} {c : Cmd} (h : cmdAt (s.drop k0) = some c) : s[k0 + c.k - 1]? = some c.g ∧ 1 ≤ c.k ∧ k0 + c.k ≤ s.length := by
  obtain ⟨t, s', e, _, ek, f⟩ := cmdAt_form h
  have hk := cmdAt_k h
  have hl := Form.tail f
  rw [List.length_drop] at hk
  refine ⟨?_, hk.1, by omega⟩
  rw [show k0 + c.k - 1 = k0 + (c.k - 1) by omega, ← List.getElem?_drop, e, List.getElem?_append_left (by omega), ek]
  rw [List.getLast?_eq_getElem?] at hl
  exact hl
theorem form_bounds {s : T} {c : Cmd} (h : cmdAt s = some c) : 1 ≤ c.n ∧ c.n < 1000 ∧ c.cells.length ≤ s.length := by
  obtain ⟨t, s', e, _, ek, f⟩ := cmdAt_form h
  cases f with
  | four n g h1 h2 h3 => exact ⟨h1, h2, Nat.zero_le _⟩
  | fin => exact ⟨Nat.le_refl _, by show 1 < 1000; omega, Nat.zero_le _⟩
  | quo c h1 h2 =>
    refine ⟨Nat.le_refl _, by show 1 < 1000; omega, ?_⟩
    rw [e, List.length_append, quoted_len]
    show c.length ≤ _
    omega
theorem atI_neg {s : T} (h : 1 ≤ s.length) : ∃ x, atI s (-1) = some x ∧ s[s.length - 1]? = some x := by
  have hne : s ≠ [] := fun z => by rw [z] at h; simp at h
  have z := List.dropLast_concat_getLast hne
  refine ⟨s.getLast hne, ?_, ?_⟩
  · conv => lhs; rw [← z]
    exact atI_last _ _
  · rw [← List.getLast?_eq_getElem?, List.getLast?_eq_some_getLast hne]
theorem def_okX {P : Program} {w : World} {K : PySem.W.Frag} {mg : Str → Option Value} {base : Heap} {x : Str} {st : Stmt} {N ps : List Str} {k : Nat} {sp : Sp} (D : Def K mg x st ps) (S : FnScope N ps (defScope st)) (len : ∀ vs H Q E, sp vs H Q E → vs.length = ps.length)
    (hbody : ∀ (f : Addr) (cdv : Value) (A : Around) (outer : List Env) (s : Shared) (H : Hp) (vs : List V) (Q : VK) (E : XK), L2.Room k (A.deeper (envOfC x (defScope st) s.heap.objs.size f cdv)) → sp vs H Q E →
      ∃ t, PSs (cxOf (L2.CX P w) P w K mg base N x (defScope st) f cdv A outer s H E) (defBody st) t ∧ t { nx := fun _ H' => Q .non H', rt := Q } (start N vs) H) : OkX P w K mg base (L2.CX P w) (k + 1) x ps sp := by
  obtain ⟨f, fd, F, g, b⟩ := D
  exact ⟨f, fd, g, F.kp, b, F.okX S len fun cdv A outer s H vs Q E hr h => hbody f cdv A outer s H vs Q E hr h⟩
section
variable {P : Program} {w : World} {K : PySem.W.Frag} {mg : Str → Option Value} {base : Heap}
def FileAt (H : Hp) (a : Addr) (wd hg : Nat) (s : T) : Prop := H a = some (.tup [.int (wd : Int), .int (hg : Int), tx s])
def sp_drawn (C : Addr) : Sp := fun vs H Q E => ∃ (a : Addr) (wd hg : Nat) (s : T), vs = [.ref a] ∧ FileAt H a wd hg s ∧ wd ≤ 250 ∧ hg ≤ 250 ∧ s.length ≤ 1000000 ∧
  (dev wd hg s = none → ∀ d H', Same H H' → E (.ref C) d H') ∧ ∀ Ps, dev wd hg s = some Ps → ∀ q H', Same H H' → PagesAt H' q Ps → Q (.ref q) H'
theorem ok_drawn {C fI : Addr} (D : Def K mg "drawn" s_drawn ["file"]) (fr : Free mg) (B : BadTxt P K mg C fI) (Gc : Ok P w K mg base 2 "command_at" ["commands", "at"] sp_command_at) (Ge : Ok P w K mg base 2 "ended" ["width", "height", "page"] sp_ended)
    (Ga : Ok P w K mg base 2 "after" ["width", "height", "page", "command"] sp_after) : OkX P w K mg base (L2.CX P w) 3 "drawn" ["file"] (sp_drawn C) := by
  refine def_okX D sc_drawn (fun vs H Q E h => ?_) fun f cdv A outer s0 H vs Q E hr h => ?_
  · obtain ⟨a, wd, hg, s, rfl, _⟩ := h
    rfl
  · obtain ⟨a, wd, hg, s, rfl, hf, w1, h1, hz, qE, qR⟩ := h
    refine ⟨_, pss_cons (ps_asg (pv 0) (pg_tup (by rfl) (pgs_cons (pg_name (i := 1) sc_drawn.nd rfl (.inl rfl)) (pgs_cons (pg_name (i := 2) sc_drawn.nd rfl (.inl rfl)) (pgs_cons (pg_name (i := 3) sc_drawn.nd rfl (.inl rfl)) pgs_nil)))))
      (pss_cons (ps_set (i := 4) sc_drawn.nd rfl (.inl rfl) (pe_lst pa_nil))
      (pss_cons (ps_set (i := 5) sc_drawn.nd rfl (.inl rfl) (pe_tup (pa_cons (pe_tup pa_nil) (pa_cons pe_str pa_nil))))
      (pss_cons (ps_set (i := 6) sc_drawn.nd rfl (.inl rfl) pe_int)
      (pss_cons (ps_while (passes_of rfl) (pt_cmpR op_lt (pv 6) (pe_callB c_lenT (by rfl) fr.len PySem.boot_len (pa_cons (pv 3) pa_nil)) (nomark _))
        (pss_cons (ps_set (i := 7) sc_drawn.nd rfl (.inl rfl) (pe_f Gc hr (by rfl) (pa_cons (pv 3) (pa_cons (pv 6) pa_nil))))
        (pss_cons (ps_if (pt_cmpR op_isN (pv 7) pe_non (nomark _)) (pss_one (ps_raiseBad (W := fun cls d _ H => E cls d H) rfl B hr (takes_of rfl rfl rfl rfl) (by exact (pa_cons (pv 6) pa_nil)))) pss_nil)
        (C8.pss_cut (ps_if (pt_cmpR o_eqT (pe_ix ix_tup (pv 7) pe_int (fun _ _ => rfl)) pe_str (nomark _))
            (pss_cons (ps_expr (pe_bm PySem.F.plainAttrs_list PySem.F.slot_list_append PySem.F.type_list_append mt_append (pv 4) (pa_cons (pe_f Ge hr (by rfl) (pa_cons (pv 1) (pa_cons (pv 2) (pa_cons (pv 5) pa_nil)))) pa_nil)))
              (pss_one (ps_set (i := 5) sc_drawn.nd rfl (.inl rfl) (pe_tup (pa_cons (pe_tup pa_nil) (pa_cons pe_str pa_nil))))))
            (pss_one (ps_set (i := 5) sc_drawn.nd rfl (.inl rfl) (pe_f Ga hr (by rfl) (pa_cons (pv 1) (pa_cons (pv 2) (pa_cons (pv 5) (pa_cons (pv 7) pa_nil))))))))
        (pss_cons (ps_if (pt_cmpR op_isN (pv 5) pe_non (nomark _)) (pss_one (ps_raiseBad (W := fun cls d _ H => E cls d H) rfl B hr (takes_of rfl rfl rfl rfl) (by exact (pa_cons (pv 6) pa_nil)))) pss_nil)
        (pss_one (ps_set (i := 6) sc_drawn.nd rfl (.inl rfl) (pe_ix ix_tup (pv 7) pe_int (fun _ _ => rfl)))))))))
      (pss_cons (ps_if (PW.pt (pw_and (pt_cmpR o_neT (pv 3) pe_str (nomark _)) (pw_and1 (pt_cmpR o_neT (pe_ix ix_txt (pv 3) (pe_un un_neg pe_int) (fun _ _ => rfl)) pe_str (nomark _)))))
          (pss_one (ps_raiseBad (W := fun cls d _ H => E cls d H) rfl B hr (takes_of rfl rfl rfl rfl) (by exact (pa_cons (pe_callB c_lenT (by rfl) fr.len PySem.boot_len (pa_cons (pv 3) pa_nil)) pa_nil)))) pss_nil)
      (pss_one (ps_ret (pe_callTy call_tuple_of (by rfl) fr.tuple (by decide +kernel) (pa_cons (pv 4) pa_nil))))))))), ?_⟩
    refine ⟨_, rfl, a, _, rfl, SqT.of hf, rfl, _, _, rfl, _, _, rfl, _, _, rfl, rfl, ?_⟩
    refine ⟨Nat.zero_le _, fun pl npl => ?_⟩
    refine ⟨Nat.zero_le _, fun t0 nt0 => ?_⟩
    refine ⟨by show 2 ≤ sizeLine; decide, fun p0 np0 => ?_⟩
    have sm0 : Same H (upd (upd (upd H pl (.lst [])) t0 (.tup [])) p0 (.tup [.ref t0, V.str (Str.ofString "")])) := (same_new npl).trans ((same_new nt0).trans (same_new np0))
    have npt : pl ≠ t0 := fun e => by rw [← e, upd_same] at nt0; cases nt0
    have nptp : pl ≠ p0 := fun e => by rw [← e, upd_ne npt, upd_same] at np0; cases np0
    have ntp : t0 ≠ p0 := fun e => by rw [← e, upd_same] at np0; cases np0
    refine ⟨fun m σ H' => ∃ (k0 : Nat) (pp : Addr) (st : Sta) (ps : List Pg) (as : List Addr) (e : Bool) (y7 : Option V), σ = [some (.ref a), some (.int (wd : Int)), some (.int (hg : Int)), some (tx s), some (.ref pl), some (.ref pp), some (.int (k0 : Int)), y7] ∧
        k0 + m = s.length ∧ Same H H' ∧ H' pl = some (.lst (as.map V.ref)) ∧ Paired (fun x p => H' x = some (.tup (pgv p))) as ps ∧ ps.length ≤ k0 ∧ StAt H' pp st ∧ Fit wd hg st ∧ dev wd hg s = devGo wd hg e ps st (s.drop k0) ∧
        ((k0 = 0 ∧ e = true) ∨ ∃ g, 1 ≤ k0 ∧ s[k0 - 1]? = some g ∧ e = decide (g = 59)), ⟨s.length, 0, p0, sta0, [], [], true, none, rfl, by omega, sm0, ?_, .nil, Nat.le_refl _, ⟨t0, ?_, ?_⟩, fit0 wd hg, rfl, .inl ⟨rfl, rfl⟩⟩, ?_⟩
    · rw [upd_ne nptp, upd_ne npt, upd_same]
      rfl
    · rw [upd_same, lit_e]
      rfl
    · rw [upd_ne ntp, upd_same]
      rfl
    rintro m σ H' ⟨k0, pp, st, ps, as, e, y7, rfl, hm, sm, hpl, hps, hpl2, hst, hfit, hdev, hlast⟩
    refine ⟨_, rfl, _, rfl, s, rfl, by omega, _, _, rfl, rfl, _, rfl, ?_⟩
    by_cases hlt : k0 < s.length
    · rw [decide_eq_true (show (k0 : Int) < (s.length : Int) by omega)]
      have hne : s.drop k0 ≠ [] := fun z => by
        have := List.drop_eq_nil_iff.mp z
        omega
      refine iteT ⟨fun σ' H'' => ∃ (k1 : Nat) (pp : Addr) (st : Sta) (ps : List Pg) (as : List Addr) (e : Bool) (y7 : Option V), σ' = [some (.ref a), some (.int (wd : Int)), some (.int (hg : Int)), some (tx s), some (.ref pl), some (.ref pp), some (.int (k1 : Int)), y7] ∧
        k0 < k1 ∧ k1 ≤ s.length ∧ Same H H'' ∧ H'' pl = some (.lst (as.map V.ref)) ∧ Paired (fun x p => H'' x = some (.tup (pgv p))) as ps ∧ ps.length ≤ k1 ∧ StAt H'' pp st ∧ Fit wd hg st ∧ dev wd hg s = devGo wd hg e ps st (s.drop k1) ∧
        ∃ g, 1 ≤ k1 ∧ s[k1 - 1]? = some g ∧ e = decide (g = 59), ?_, ?_⟩
      · rintro σ' H'' ⟨k1, pp, st, ps, as, e, y7, rfl, q1, q2, q3, q4, q5, q6, q7, q8, q9, q10⟩
        exact ⟨s.length - k1, by omega, k1, pp, st, ps, as, e, y7, rfl, by omega, q3, q4, q5, q6, q7, q8, q9, .inr q10⟩
      -- command = command_at(commands, at)
      refine ⟨_, rfl, _, rfl, s, k0, two_eq rfl rfl, hz, by omega, fun v H1 s1 hv => ?_⟩
      refine ⟨_, rfl, rfl, _, rfl, ?_⟩
      cases hc : cmdAt (s.drop k0) with
      | none =>
        rw [hc] at hv
        have hv : v = .non := hv
        subst hv
        rw [devGo_none hne hc] at hdev
        refine iteT ⟨_, rfl, _, rfl, fun d nd => qE hdev _ _ (sm.trans (s1.trans (same_new nd)))⟩
      | some c =>
        rw [hc] at hv
        obtain ⟨cp, rfl, hcp⟩ := hv
        obtain ⟨b1, b2, b3⟩ := form_bounds hc
        obtain ⟨l1, l2, l3⟩ := last_sign hc
        refine iteF ?_
        have sm1 := sm.trans s1
        have st1 := hst.same s1
        refine ⟨fun σ' H2 => ∃ v5 : V, σ' = [some (.ref a), some (.int (wd : Int)), some (.int (hg : Int)), some (tx s), some (.ref pl), some v5, some (.int (k0 : Int)), some (.ref cp)] ∧ Same H H2 ∧ H2 cp = some (.tup [.int (c.n : Int), tx [c.g], tx c.cells, .int ((k0 + c.k : Nat) : Int)]) ∧
          ((v5 = .non ∧ dev wd hg s = none) ∨ ∃ (pp : Addr) (st : Sta) (ps : List Pg) (as : List Addr), v5 = .ref pp ∧ H2 pl = some (.lst (as.map V.ref)) ∧ Paired (fun x p => H2 x = some (.tup (pgv p))) as ps ∧ ps.length ≤ k0 + 1 ∧ StAt H2 pp st ∧ Fit wd hg st ∧ dev wd hg s = devGo wd hg (decide (c.g = 59)) ps st (s.drop (k0 + c.k))), ?_, ?_⟩
        · refine ⟨_, rfl, cp, _, _, _, rfl, rfl, SqT.of hcp, atI_nat (j := 1) rfl, [c.g], [59], rfl, lit_semi, _, rfl, ite2 (fun e9 => ?_) fun e9 => ?_⟩
          · have eg : c.g = 59 := by
              have z := of_decide_eq_true e9
              exact (List.cons.inj z).1
            refine ⟨_, rfl, .inl ⟨rfl, _, SqL.of (s1 _ _ hpl)⟩, _, rfl, _, rfl, _, rfl, wd, hg, pp, st, rfl, st1, hfit, w1, h1, fun qp H2 s2 hqp => ?_⟩
            have hpl3 := s2 _ _ (s1 _ _ hpl)
            refine ⟨pl, _, _, rfl, rfl, hpl3, ?_, ?_⟩
            · rw [List.length_map, hps.length, sizeLine_eq]
              omega
            have npl2 : H pl = none := npl
            have keep : ∀ {b : Addr} {xs : List V}, H2 b = some (.tup xs) → ∀ l, (upd H2 pl (.lst l)) b = some (.tup xs) := fun h l => by
              rw [upd_ne (lst_ne_tup h hpl3)]
              exact h
            have smU : ∀ l, Same H (upd H2 pl (.lst l)) := fun l b o z => by
              rw [upd_ne (ne_of_none z npl2)]
              exact s2 _ _ (sm1 _ _ z)
            refine ⟨Nat.zero_le _, fun t2 nt2 => ⟨by show 2 ≤ sizeLine; decide, fun p2 np2 => ?_⟩⟩
            have s3 := Same.trans (same_new (o := .tup []) nt2) (same_new (o := .tup [.ref t2, V.str (Str.ofString "")]) np2)
            have nt2p : t2 ≠ p2 := fun e => by rw [← e, upd_same] at np2; cases np2
            refine ⟨_, rfl, (smU _).trans s3, s3 _ _ (keep (s2 _ _ hcp) _), .inr ⟨p2, sta0, ps ++ [endPg wd hg st], as ++ [qp], rfl, ?_, ?_, ?_, ⟨t2, ?_, ?_⟩, fit0 wd hg, ?_⟩⟩
            · refine (s3 _ _ upd_same).trans ?_
              rw [List.map_append]
              rfl
            · exact paired_imp (fun _ _ z => s3 _ _ (keep z _)) (paired_app (paired_imp (fun _ _ z => s2 _ _ (s1 _ _ z)) hps) (.cons hqp .nil))
            · rw [List.length_append]
              show ps.length + 1 ≤ _
              omega
            · rw [upd_same, lit_e]
              rfl
            · rw [upd_ne nt2p, upd_same]
              rfl
            · rw [hdev, devGo_end hne hc eg, List.drop_drop, decide_eq_true eg]
          · have eg : c.g ≠ 59 := fun z => e9 (decide_eq_true (by rw [z]))
            refine ⟨_, rfl, _, rfl, _, rfl, _, rfl, wd, hg, pp, cp, st, c.n, c.g, k0 + c.k, c.cells, rfl, st1, hcp, hfit, w1, h1, b1, b2, ?_, fun v5 H2 s2 hv5 => ?_⟩
            · rw [List.length_drop] at b3
              omega
            refine ⟨v5, rfl, sm1.trans s2, s2 _ _ hcp, ?_⟩
            cases haf : Kw.after wd hg st c.n c.g c.cells with
            | none =>
              rw [haf] at hv5
              exact .inl ⟨hv5, by rw [hdev, devGo_bad hne hc eg haf]⟩
            | some st' =>
              rw [haf] at hv5
              obtain ⟨p2, rfl, hst2⟩ := hv5
              refine .inr ⟨p2, st', ps, as, rfl, s2 _ _ (s1 _ _ hpl), paired_imp (fun _ _ z => s2 _ _ (s1 _ _ z)) hps, by omega, hst2, after_fit b1 hfit haf, ?_⟩
              rw [hdev, devGo_go hne hc eg haf, List.drop_drop, decide_eq_false eg]
        · rintro σ' H2 ⟨v5, rfl, sm2, hcp2, hv⟩
          refine ⟨_, rfl, rfl, _, rfl, ?_⟩
          rcases hv with ⟨rfl, hnone⟩ | ⟨pp2, st2, ps2, as2, rfl, g1, g2, g3, g4, g5, g6⟩
          · exact iteT ⟨_, rfl, _, rfl, fun d nd => qE hnone _ _ (sm2.trans (same_new nd))⟩
          · refine iteF ⟨_, rfl, cp, _, _, _, rfl, rfl, SqT.of hcp2, atI_nat (j := 3) rfl, ?_⟩
            exact ⟨k0 + c.k, pp2, st2, ps2, as2, _, _, rfl, by omega, by omega, sm2, g1, g2, by omega, g4, g5, g6, c.g, by omega, l1, rfl⟩
    · rw [decide_eq_false (show ¬ (k0 : Int) < (s.length : Int) by omega)]
      refine iteF ?_
      have ek : k0 = s.length := by omega
      subst ek
      rw [List.drop_length, devGo_nil] at hdev
      refine ⟨_, rfl, s, [], rfl, lit_e, _, rfl, ?_⟩
      have retn : e = true → ∀ H2, Same H' H2 → ∀ l, H2 l = some (.tup (as.map V.ref)) → Q (.ref l) H2 := fun he H2 s2 l hl => by
        rw [if_pos he] at hdev
        exact qR ps hdev l H2 (sm.trans s2) ⟨as, hl, paired_imp (fun _ _ z => s2 _ _ z) hps⟩
      by_cases hs : s = []
      · rw [decide_eq_true hs]
        have he : e = true := by
          rcases hlast with ⟨_, z⟩ | ⟨g, z, _, _⟩
          · exact z
          · rw [hs] at z
            simp at z
        refine iteF ⟨_, rfl, pl, _, rfl, .inl ⟨SqL.of hpl, fun l nl => retn he _ (same_new nl) l upd_same⟩⟩
      · rw [decide_eq_false hs]
        have hlen : 1 ≤ s.length := List.length_pos_iff.mpr hs
        obtain ⟨x, hx1, hx2⟩ := atI_neg hlen
        have he : e = decide (x = 59) := by
          rcases hlast with ⟨z, _⟩ | ⟨g, _, z, z2⟩
          · omega
          · rw [hx2] at z
            rw [z2, Option.some.inj z]
        refine iteT ⟨_, rfl, _, rfl, s, _, x, rfl, rfl, by omega, hx1, [x], [59], rfl, lit_semi, _, rfl, ?_⟩
        by_cases h59 : x = 59
        · rw [h59, decide_eq_true rfl]
          rw [h59, decide_eq_true rfl] at he
          exact iteF ⟨_, rfl, pl, _, rfl, .inl ⟨SqL.of hpl, fun l nl => retn he _ (same_new nl) l upd_same⟩⟩
        · rw [decide_eq_false (show ¬ [x] = [59] from fun z => h59 (List.cons.inj z).1)]
          rw [decide_eq_false h59] at he
          rw [if_neg (by rw [he]; simp)] at hdev
          exact iteT ⟨_, rfl, s, rfl, by omega, _, rfl, fun d nd => qE hdev _ _ (sm.trans (same_new nd))⟩
end
end Kl
set_option Elab.async false
set_option linter.all false
set_option maxRecDepth 100000
set_option maxHeartbeats 4000000
namespace Kl
open PySem PySem.Spec PyProof.Rows L2 Kw
/-! ### pages as data -/
def pgD (p : Pg) : PyData := .tuple (p.map fun t => .str (S t))
def pgsD (P : List Pg) : PyData := .tuple (P.map pgD)
theorem rows_eqv : ∀ (a b : Pg), PyData.eqvAll (a.map fun t => .str (S t)) (b.map fun t => .str (S t)) = true → a = b
  | [], [], _ => rfl
  | [], _ :: _, h => by cases h
  | _ :: _, [], h => by cases h
  | x :: a, y :: b, h => by
    rw [List.map_cons, List.map_cons, PyData.eqvAll, Bool.and_eq_true] at h
    have e1 : S x = S y := by
      have z := h.1
      unfold PyData.eqv at z
      exact eq_of_beq z
    rw [S_inj e1, rows_eqv a b h.2]
theorem pgs_eqv : ∀ (a b : List Pg), PyData.eqvAll (a.map pgD) (b.map pgD) = true → a = b
  | [], [], _ => rfl
  | [], _ :: _, h => by cases h
  | _ :: _, [], h => by cases h
  | x :: a, y :: b, h => by
    rw [List.map_cons, List.map_cons, PyData.eqvAll, Bool.and_eq_true] at h
    have e1 : x = y := by
      have z := h.1
      unfold pgD at z
      unfold PyData.eqv at z
      exact rows_eqv x y z
    rw [e1, pgs_eqv a b h.2]
theorem pgsD_ne {a b : List Pg} (h : a ≠ b) : PyData.eqv (pgsD a) (pgsD b) = false := by
  cases e : PyData.eqv (pgsD a) (pgsD b) with
  | false => rfl
  | true =>
    unfold pgsD at e
    unfold PyData.eqv at e
    exact absurd (pgs_eqv a b e) h
theorem dpAll_row {K : PySem.W.Frag} {H : Hp} : ∀ p : Pg, DpAll K H (pgv p) (p.map fun t => .str (S t))
  | [] => .nil
  | t :: p => .cons (.str (S t)) (dpAll_row p)
theorem dpAll_pgs {K : PySem.W.Frag} {H : Hp} : ∀ {as : List Addr} {P : List Pg}, Paired (fun x p => H x = some (.tup (pgv p))) as P → DpAll K H (as.map V.ref) (P.map pgD)
  | _, _, .nil => .nil
  | _, _, .cons r t => .cons (.tup (SqT.of r) (dpAll_row _)) (dpAll_pgs t)
theorem dp_pgs {K : PySem.W.Frag} {H : Hp} {a : Addr} {P : List Pg} (h : PagesAt H a P) : Dp K H (.ref a) (pgsD P) := by
  obtain ⟨as, h1, h2⟩ := h
  exact .tup (SqT.of h1) (dpAll_pgs h2)
def okT (t : T) : Prop := ∀ x ∈ t, x < 1114112
def okP (p : Pg) : Prop := ∀ t ∈ p, okT t
theorem row_shape {t : T} (h : okT t) : PyData.canLay0 (.str (S t)) = true := by
  unfold PyData.canLay0 PyData.strOk
  rw [Array.all_eq_true]
  intro i hi
  apply decide_eq_true
  have z : (S t).cps[i] ∈ t := by
    have q : (S t).cps[i] ∈ (S t).cps.toList := Array.getElem_mem_toList hi
    exact q
  exact h _ z
theorem rows_shape : ∀ p : Pg, okP p → PyData.canLayAll0 (p.map fun t => .str (S t)) = true
  | [], _ => rfl
  | t :: p, h => by
    rw [List.map_cons, PyData.canLayAll0, row_shape (h t (by simp)), rows_shape p fun u hu => h u (by simp [hu])]
    rfl
theorem pgs_shape : ∀ P : List Pg, (∀ p ∈ P, okP p) → PyData.canLayAll0 (P.map pgD) = true
  | [], _ => rfl
  | p :: P, h => by
    rw [List.map_cons, PyData.canLayAll0, pgs_shape P fun u hu => h u (by simp [hu])]
    unfold pgD
    rw [PyData.canLay0, rows_shape p (h p (by simp))]
    rfl
theorem rows_depth : ∀ p : Pg, PyData.depthAll (p.map fun t => .str (S t)) = 0
  | [] => rfl
  | t :: p => by
    rw [List.map_cons, PyData.depthAll, rows_depth p]
    rfl
theorem pgs_depth : ∀ P : List Pg, PyData.depthAll (P.map pgD) ≤ 1
  | [] => Nat.zero_le _
  | p :: P => by
    have h := pgs_depth P
    have e : PyData.depth (pgD p) = 1 := by
      unfold pgD PyData.depth
      rw [rows_depth]
    rw [List.map_cons, PyData.depthAll, e]
    omega
theorem shaped_pgs {P : List Pg} (h : ∀ p ∈ P, okP p) : SeqAt.shaped (pgsD P) = true := by
  unfold SeqAt.shaped pgsD
  rw [PyData.canLay0, pgs_shape P h, Bool.true_and]
  apply decide_eq_true
  unfold PyData.depth
  have := pgs_depth P
  omega
theorem ok_rep {n x : Nat} (h : x < 1114112) : okT (List.replicate n x) := fun y hy => by
  rw [(List.mem_replicate.mp hy).2]
  exact h
theorem ok_append {a b : T} (h1 : okT a) (h2 : okT b) : okT (a ++ b) := fun x hx => by
  rcases List.mem_append.mp hx with z | z
  · exact h1 x z
  · exact h2 x z
theorem okP_append {a b : Pg} (h1 : okP a) (h2 : okP b) : okP (a ++ b) := fun x hx => by
  rcases List.mem_append.mp hx with z | z
  · exact h1 x z
  · exact h2 x z
theorem okP_rep {n : Nat} {t : T} (h : okT t) : okP (List.replicate n t) := fun y hy => by
  rw [(List.mem_replicate.mp hy).2]
  exact h
theorem ok_down {w n : Nat} {st : Sta} (h1 : okP st.rows) (h2 : okT st.line) : okP (downBy w st n) := by
  unfold downBy
  refine okP_append (okP_append h1 fun t ht => ?_) (okP_rep (ok_rep (by omega)))
  rw [List.mem_singleton.mp ht]
  exact ok_append h2 (ok_rep (by omega))
theorem ok_end {w h : Nat} {st : Sta} (h1 : okP st.rows) (h2 : okT st.line) : okP (endPg w h st) := by
  unfold endPg
  split
  · exact h1
  · exact ok_down h1 h2
theorem ok_last {p : Pg} (h : okP p) : okT (lastRow p) := by
  unfold lastRow
  cases e : p.getLast? with
  | none =>
    rw [List.getLastD_eq_getLast?, e]
    intro x hx
    cases hx
  | some t =>
    rw [List.getLastD_eq_getLast?, e]
    exact h t (List.mem_of_getLast? e)
theorem ok_step {w h : Nat} {st st' : Sta} {n g : Nat} {cells : T} (h1 : okP st.rows) (h2 : okT st.line) (hc : okT cells) (ha : Kw.after w h st n g cells = some st') : okP st'.rows ∧ okT st'.line := by
  unfold Kw.after at ha
  have nil : okT [] := fun x hx => by cases hx
  split at ha
  · split at ha
    · cases ha
    · cases ha
      exact ⟨ok_down h1 h2, nil⟩
  · split at ha
    · split at ha
      · cases ha
      · cases ha
        exact ⟨okP_append h1 (okP_rep (ok_last h1)), nil⟩
    · split at ha
      · cases ha
      · cases ha
        refine ⟨h1, ok_append h2 ?_⟩
        unfold inkOf
        split
        · exact ok_rep (by omega)
        · split
          · exact ok_rep (by omega)
          · exact hc
theorem cells_mem {s : T} {c : Cmd} (h : cmdAt s = some c) : ∀ x ∈ c.cells, x ∈ s := by
  obtain ⟨t, s', e, _, ek, f⟩ := cmdAt_form h
  intro x hx
  cases f with
  | four n g h1 h2 h3 => cases hx
  | fin => cases hx
  | quo c h1 h2 =>
    rw [e]
    refine List.mem_append_left _ ?_
    unfold quoted
    have hx' : x ∈ c := hx
    simp [hx']
theorem dev_ok {w h : Nat} : ∀ (m : Nat) (s : T), s.length ≤ m → ∀ (e : Bool) (ps : List Pg) (st : Sta) (P : List Pg), okT s → (∀ p ∈ ps, okP p) → okP st.rows → okT st.line → devGo w h e ps st s = some P → ∀ p ∈ P, okP p := by
  intro m
  induction m with
  | zero =>
    intro s hs e ps st P h1 h2 h3 h4 hd
    have e0 : s = [] := List.length_eq_zero_iff.mp (by omega)
    subst e0
    rw [devGo_nil] at hd
    split at hd
    · cases hd
      exact h2
    · cases hd
  | succ m ih =>
    intro s hs e ps st P h1 h2 h3 h4 hd
    by_cases e0 : s = []
    · subst e0
      rw [devGo_nil] at hd
      split at hd
      · cases hd
        exact h2
      · cases hd
    · cases hc : cmdAt s with
      | none =>
        rw [devGo_none e0 hc] at hd
        cases hd
      | some c =>
        have hk := cmdAt_k hc
        have hl : (s.drop c.k).length ≤ m := by
          rw [List.length_drop]
          omega
        have h5 : okT (s.drop c.k) := fun x hx => h1 x (List.mem_of_mem_drop hx)
        by_cases hg : c.g = 59
        · rw [devGo_end e0 hc hg] at hd
          refine ih _ hl _ _ _ _ h5 (fun p hp => ?_) (fun t ht => by cases ht) (fun x hx => by cases hx) hd
          rcases List.mem_append.mp hp with z | z
          · exact h2 p z
          · rw [List.mem_singleton.mp z]
            exact ok_end h3 h4
        · cases ha : Kw.after w h st c.n c.g c.cells with
          | none =>
            rw [devGo_bad e0 hc hg ha] at hd
            cases hd
          | some st' =>
            rw [devGo_go e0 hc hg ha] at hd
            obtain ⟨h6, h7⟩ := ok_step h3 h4 (fun x hx => h1 x (cells_mem hc x hx)) ha
            exact ih _ hl _ _ _ _ h5 h2 h6 h7 hd
section
variable {P : Program} {w : World} {K : PySem.W.Frag} {mg : Str → Option Value} {base : Heap}
def sp_drawn_as : Sp := fun vs H Q _ => ∃ (a b : Addr) (wd hg : Nat) (s : T) (Ps : List Pg), vs = [.ref a, .ref b] ∧ FileAt H a wd hg s ∧ wd ≤ 250 ∧ hg ≤ 250 ∧ s.length ≤ 1000000 ∧ okT s ∧ PagesAt H b Ps ∧ (∀ p ∈ Ps, okP p) ∧ dev wd hg s ≠ some Ps ∧
  ∀ H', Same H H' → Q (.bl false) H'
theorem ok_drawn_as {C fI : Addr} (D : Def K mg "_law_drawn_as" s_l_drawn_as ["_law_file", "_law_pages"]) (B : BadTxt P K mg C fI) (G : OkX P w K mg base (L2.CX P w) 3 "drawn" ["file"] (sp_drawn C)) :
    Ok P w K mg base 4 "_law_drawn_as" ["_law_file", "_law_pages"] sp_drawn_as := by
  obtain ⟨fd0, fdd, g1, g2, g3, G⟩ := G
  refine def_ok D sc_l_drawn_as (fun vs H Q E h => ?_) fun f cdv A outer s0 H vs Q E hr h => ?_
  · obtain ⟨a, b, wd, hg, s, Ps, rfl, _⟩ := h
    rfl
  · obtain ⟨a, b, wd, hg, s, Ps, rfl, hf, w1, h1, hz, hs, hp, hP, hne, q⟩ := h
    have hu : (A.deeper (envOfC "_law_drawn_as" (defScope s_l_drawn_as) s0.heap.objs.size f cdv)).units + 64 < cLine := by
      have := hr.un
      omega
    refine ⟨_, pss_one (ps_try_only (tb := fun W => tRet (tOp (rEqD K) (tCallS (sp_drawn C) (WE W) (tCons (tVar 0) tNil)) (tVar 1))) (ts := fun _ _ _ => tRet (tC (.bl false))) (Wout := fun _ _ _ _ => False) rfl rfl ⟨rfl, by decide, Or.inl B.gC⟩ takes0
          (fun W pn xe tk _ => pss_one (ps_ret (pe_cmpR (op_eqD hu) (pe_callS G hr (by rfl) g1 g2 g3 (fun σ => passAt tk σ) (by exact (pa_cons (pv 0) pa_nil))) (pv 1) (nomark _))))
          (fun _ _ _ _ _ _ _ => pss_one (ps_ret pe_bl))), ?_⟩
    refine ⟨_, rfl, a, wd, hg, s, rfl, hf, w1, h1, hz, fun hn d H' sm => ?_, fun Ps' hd qa H' sm hq => ?_⟩
    · exact ⟨true, B.te, fun _ a0 _ => q H' sm, fun z => Bool.noConfusion z⟩
    · have hok : ∀ p ∈ Ps', okP p := dev_ok s.length s (Nat.le_refl _) true [] sta0 Ps' hs (fun p hp => by cases hp) (fun t ht => by cases ht) (fun x hx => by cases hx) hd
      refine ⟨_, rfl, pgsD Ps', pgsD Ps, dp_pgs hq, dp_pgs (hp.same sm), shaped_pgs hok, shaped_pgs hP, ?_⟩
      rw [pgsD_ne (fun z => hne (by rw [hd, z]))]
      exact q H' sm
end
end Kl
set_option Elab.async false
set_option linter.all false
set_option maxRecDepth 100000
set_option maxHeartbeats 4000000
namespace Kl
open PySem PySem.Spec PyProof.Rows L2 Kw
/-- the same datum, nested n deep -/
def Dn (H : Hp) : Nat → V → V → Prop
  | 0, x, y => (∃ i : Int, x = .int i ∧ y = .int i) ∨ ∃ t : T, x = tx t ∧ y = tx t
  | n + 1, x, y => ∃ (a b : Addr) (xs ys : List V), x = .ref a ∧ y = .ref b ∧ H a = some (.tup xs) ∧ H b = some (.tup ys) ∧ xs.length ≤ 1000 ∧ Paired (Dn H n) xs ys
theorem ks (a b : String) (K : PySem.W.Frag) (r : Bool) (h : PySem.W.kitOne K (.type a) (.type b) = some r) : PySem.W.kitOne K (.type a) (.type b) = some r := h
section
variable {P : Program} {w : World} {K : PySem.W.Frag} {mg : Str → Option Value} {base : Heap}
def sp_never : Sp := fun _ _ _ _ => False
theorem ok_never {x : Str} {st : Stmt} {ps : List Str} (D : Def K mg x st ps) : Ok P w K mg base 0 x ps sp_never := by
  obtain ⟨f, fd, F, g, b⟩ := D
  exact ⟨f, fd, g, F.kp, b, ⟨fun _ _ _ _ h => h.elim, fun _ _ _ _ _ _ _ _ _ _ _ _ _ h => h.elim⟩⟩
def sp_exact (n : Nat) : Sp := fun vs H Q _ => ∃ x y : V, vs = [x, y] ∧ Dn H n x y ∧ Q (.bl true) H
theorem ok_exact0 (D : Def K mg "_law_exact" s_l_exact ["_law_told", "_law_due"]) (fr : Free mg) : Ok P w K mg base 1 "_law_exact" ["_law_told", "_law_due"] (sp_exact 0) := by
  have G : Ok P w K mg base 0 "_law_exact" ["_law_told", "_law_due"] sp_never := ok_never D
  refine def_ok D sc_l_exact (fun vs H Q E h => ?_) fun f cdv A outer s H vs Q E hr h => ?_
  · obtain ⟨x, y, rfl, _⟩ := h
    rfl
  · obtain ⟨x, y, rfl, h, q⟩ := h
    refine ⟨_, pss_cons (ps_if (pt_val (pe_callB call_isi (by rfl) fr.isinstance (by decide +kernel) (pa_cons (pv 1) (pa_cons (pe_bltn (v := .ty "tuple") (by rfl) fr.tuple (by decide +kernel) rfl) pa_nil))))
        (pss_cons (ps_if (PW.pt (pw_or (pt_not (pt_val (pe_callB call_isi (by rfl) fr.isinstance (by decide +kernel) (pa_cons (pv 0) (pa_cons (pe_bltn (v := .ty "tuple") (by rfl) fr.tuple (by decide +kernel) rfl) pa_nil)))))
            (pw_or1 (pt_cmpR op_ne (pe_callB call_len (by rfl) fr.len PySem.boot_len (pa_cons (pv 0) pa_nil)) (pe_callB call_len (by rfl) fr.len PySem.boot_len (pa_cons (pv 1) pa_nil)) (nomark _))))) (pss_one (ps_ret pe_bl)) pss_nil)
        (pss_cons (ps_for PassesOwn.never rfl (pi_range1 rfl fr.range (pa_cons (pe_callB call_len (by rfl) fr.len PySem.boot_len (pa_cons (pv 1) pa_nil)) pa_nil)) (pg_name (i := 2) sc_l_exact.nd rfl (.inl rfl))
            (pss_one (ps_if (pt_not (pt_val (pe_f G hr (by rfl) (pa_cons (pe_ix ix_tup (pv 0) (pv 2) (fun _ _ => rfl)) (pa_cons (pe_ix ix_tup (pv 1) (pv 2) (fun _ _ => rfl)) pa_nil))))) (pss_one (ps_ret pe_bl)) pss_nil)))
        (pss_one (ps_ret pe_bl)))) pss_nil)
      (pss_cons (ps_if (pt_cmpR op_isN (pv 1) pe_non (nomark _)) (pss_one (ps_ret (pe_cmpR op_isN (pv 0) pe_non (nomark _)))) pss_nil)
      (pss_cons (ps_if (pt_val (pe_callB call_isi (by rfl) fr.isinstance (by decide +kernel) (pa_cons (pv 1) (pa_cons (pe_bltn (v := .ty "bool") (by rfl) fr.bool (by decide +kernel) rfl) pa_nil))))
        (pss_one (ps_ret (pe_and (pe_callB call_isi (by rfl) fr.isinstance (by decide +kernel) (pa_cons (pv 0) (pa_cons (pe_bltn (v := .ty "bool") (by rfl) fr.bool (by decide +kernel) rfl) pa_nil))) (pe_one (pe_cmpR op_eq (pv 0) (pv 1) (nomark _)))))) pss_nil)
      (pss_cons (ps_if (pt_val (pe_callB call_isi (by rfl) fr.isinstance (by decide +kernel) (pa_cons (pv 1) (pa_cons (pe_bltn (v := .ty "int") (by rfl) fr.int (by decide +kernel) rfl) pa_nil))))
        (pss_one (ps_ret (pe_and (pe_callB call_isi (by rfl) fr.isinstance (by decide +kernel) (pa_cons (pv 0) (pa_cons (pe_bltn (v := .ty "int") (by rfl) fr.int (by decide +kernel) rfl) pa_nil)))
          (pe_and (pe_not (pe_callB call_isi (by rfl) fr.isinstance (by decide +kernel) (pa_cons (pv 0) (pa_cons (pe_bltn (v := .ty "bool") (by rfl) fr.bool (by decide +kernel) rfl) pa_nil)))) (pe_one (pe_cmpR op_eq (pv 0) (pv 1) (nomark _))))))) pss_nil)
      (pss_one (ps_ret (pe_and (pe_callB call_isi (by rfl) fr.isinstance (by decide +kernel) (pa_cons (pv 0) (pa_cons (pe_bltn (v := .ty "str") (by rfl) fr.str (by decide +kernel) rfl) pa_nil))) (pe_one (pe_cmpR op_eq (pv 0) (pv 1) (nomark _))))))))), ?_⟩
    rcases h with ⟨i, rfl, rfl⟩ | ⟨t, rfl, rfl⟩
    · refine ⟨_, rfl, _, _, .type "int", _, false, rfl, .ty "tuple", .base (.int i), (kit_ty (by decide +kernel)), _, rfl, iteF ?_⟩
      refine ⟨_, rfl, rfl, _, rfl, iteF ?_⟩
      refine ⟨_, rfl, _, _, .type "int", _, false, rfl, .ty "bool", .base (.int i), (kit_ty (by decide +kernel)), _, rfl, iteF ?_⟩
      refine ⟨_, rfl, _, _, .type "int", _, true, rfl, .ty "int", .base (.int i), (kit_ty (by decide +kernel)), _, rfl, iteT ?_⟩
      refine ⟨_, rfl, _, _, .type "int", _, true, rfl, .ty "int", .base (.int i), (kit_ty (by decide +kernel)), _, rfl, iteT ?_⟩
      refine ⟨_, rfl, _, _, .type "int", _, false, rfl, .ty "bool", .base (.int i), (kit_ty (by decide +kernel)), _, rfl, ?_⟩
      refine ⟨_, rfl, iteT ?_⟩
      refine ⟨_, rfl, _, rfl, rfl, ?_⟩
      rw [decide_eq_true rfl]
      exact q
    · refine ⟨_, rfl, _, _, .type "str", _, false, rfl, .ty "tuple", .base (.str (S t)), (kit_ty (by decide +kernel)), _, rfl, iteF ?_⟩
      refine ⟨_, rfl, rfl, _, rfl, iteF ?_⟩
      refine ⟨_, rfl, _, _, .type "str", _, false, rfl, .ty "bool", .base (.str (S t)), (kit_ty (by decide +kernel)), _, rfl, iteF ?_⟩
      refine ⟨_, rfl, _, _, .type "str", _, false, rfl, .ty "int", .base (.str (S t)), (kit_ty (by decide +kernel)), _, rfl, iteF ?_⟩
      refine ⟨_, rfl, _, _, .type "str", _, true, rfl, .ty "str", .base (.str (S t)), (kit_ty (by decide +kernel)), _, rfl, iteT ?_⟩
      refine ⟨_, rfl, _, rfl, rfl, ?_⟩
      rw [decide_eq_true rfl]
      exact q
theorem ok_exact_more {n : Nat} (D : Def K mg "_law_exact" s_l_exact ["_law_told", "_law_due"]) (fr : Free mg) (G : Ok P w K mg base (n + 1) "_law_exact" ["_law_told", "_law_due"] (sp_exact n)) :
    Ok P w K mg base (n + 2) "_law_exact" ["_law_told", "_law_due"] (sp_exact (n + 1)) := by
  refine def_ok D sc_l_exact (fun vs H Q E h => ?_) fun f cdv A outer s H vs Q E hr h => ?_
  · obtain ⟨x, y, rfl, _⟩ := h
    rfl
  · obtain ⟨x, y, rfl, ⟨a, b, xs, ys, rfl, rfl, ha, hb, hz, hp⟩, q⟩ := h
    have hl : xs.length = ys.length := hp.length
    refine ⟨_, pss_cons (ps_if (pt_val (pe_callB call_isi (by rfl) fr.isinstance (by decide +kernel) (pa_cons (pv 1) (pa_cons (pe_bltn (v := .ty "tuple") (by rfl) fr.tuple (by decide +kernel) rfl) pa_nil))))
        (pss_cons (ps_if (PW.pt (pw_or (pt_not (pt_val (pe_callB call_isi (by rfl) fr.isinstance (by decide +kernel) (pa_cons (pv 0) (pa_cons (pe_bltn (v := .ty "tuple") (by rfl) fr.tuple (by decide +kernel) rfl) pa_nil)))))
            (pw_or1 (pt_cmpR op_ne (pe_callB call_len (by rfl) fr.len PySem.boot_len (pa_cons (pv 0) pa_nil)) (pe_callB call_len (by rfl) fr.len PySem.boot_len (pa_cons (pv 1) pa_nil)) (nomark _))))) (pss_one (ps_ret pe_bl)) pss_nil)
        (pss_cons (ps_for PassesOwn.never rfl (pi_range1 rfl fr.range (pa_cons (pe_callB call_len (by rfl) fr.len PySem.boot_len (pa_cons (pv 1) pa_nil)) pa_nil)) (pg_name (i := 2) sc_l_exact.nd rfl (.inl rfl))
            (pss_one (ps_if (pt_not (pt_val (pe_f G hr (by rfl) (pa_cons (pe_ix ix_tup (pv 0) (pv 2) (fun _ _ => rfl)) (pa_cons (pe_ix ix_tup (pv 1) (pv 2) (fun _ _ => rfl)) pa_nil))))) (pss_one (ps_ret pe_bl)) pss_nil)))
        (pss_one (ps_ret pe_bl)))) pss_nil)
      (pss_cons (ps_if (pt_cmpR op_isN (pv 1) pe_non (nomark _)) (pss_one (ps_ret (pe_cmpR op_isN (pv 0) pe_non (nomark _)))) pss_nil)
      (pss_cons (ps_if (pt_val (pe_callB call_isi (by rfl) fr.isinstance (by decide +kernel) (pa_cons (pv 1) (pa_cons (pe_bltn (v := .ty "bool") (by rfl) fr.bool (by decide +kernel) rfl) pa_nil))))
        (pss_one (ps_ret (pe_and (pe_callB call_isi (by rfl) fr.isinstance (by decide +kernel) (pa_cons (pv 0) (pa_cons (pe_bltn (v := .ty "bool") (by rfl) fr.bool (by decide +kernel) rfl) pa_nil))) (pe_one (pe_cmpR op_eq (pv 0) (pv 1) (nomark _)))))) pss_nil)
      (pss_cons (ps_if (pt_val (pe_callB call_isi (by rfl) fr.isinstance (by decide +kernel) (pa_cons (pv 1) (pa_cons (pe_bltn (v := .ty "int") (by rfl) fr.int (by decide +kernel) rfl) pa_nil))))
        (pss_one (ps_ret (pe_and (pe_callB call_isi (by rfl) fr.isinstance (by decide +kernel) (pa_cons (pv 0) (pa_cons (pe_bltn (v := .ty "int") (by rfl) fr.int (by decide +kernel) rfl) pa_nil)))
          (pe_and (pe_not (pe_callB call_isi (by rfl) fr.isinstance (by decide +kernel) (pa_cons (pv 0) (pa_cons (pe_bltn (v := .ty "bool") (by rfl) fr.bool (by decide +kernel) rfl) pa_nil)))) (pe_one (pe_cmpR op_eq (pv 0) (pv 1) (nomark _))))))) pss_nil)
      (pss_one (ps_ret (pe_and (pe_callB call_isi (by rfl) fr.isinstance (by decide +kernel) (pa_cons (pv 0) (pa_cons (pe_bltn (v := .ty "str") (by rfl) fr.str (by decide +kernel) rfl) pa_nil))) (pe_one (pe_cmpR op_eq (pv 0) (pv 1) (nomark _))))))))), ?_⟩
    refine ⟨_, rfl, _, _, .type "tuple", _, true, rfl, .ty "tuple", .base (.tup hb), (kit_ty (by decide +kernel)), _, rfl, iteT ?_⟩
    refine ⟨_, rfl, _, _, .type "tuple", _, true, rfl, .ty "tuple", .base (.tup ha), (kit_ty (by decide +kernel)), _, rfl, iteF ?_⟩
    refine ⟨_, rfl, _, _, rfl, .inr ⟨_, SqT.of ha, rfl⟩, _, rfl, _, _, rfl, .inr ⟨_, SqT.of hb, rfl⟩, rfl, _, rfl, ?_⟩
    rw [hl, decide_eq_true rfl]
    refine iteF ?_
    refine ⟨_, rfl, _, _, rfl, .inr ⟨_, SqT.of hb, rfl⟩, _, rfl, by omega, by omega, ?_⟩
    refine for_range (n := ((ys.length : Nat) : Int).toNat) (fun i σ H' => ∃ y2 : Option V, σ = [some (.ref a), some (.ref b), y2] ∧ H' = H) ⟨none, rfl, rfl⟩ (fun i σ H' hi hP => ?_) fun σ H' hP => ?_
    · obtain ⟨y2, rfl, rfl⟩ := hP
      have hi1 : i < ys.length := by omega
      obtain ⟨x, hx⟩ : ∃ x, xs[i]? = some x := ⟨_, List.getElem?_eq_getElem (by omega)⟩
      obtain ⟨y, hy, hd⟩ := paired_get hp hx
      refine ⟨_, rfl, _, rfl, a, _, _, x, rfl, rfl, SqT.of ha, ?_, _, rfl, _, rfl, b, _, _, y, rfl, rfl, SqT.of hb, ?_, x, y, rfl, hd, _, rfl, iteF ⟨_, rfl, rfl⟩⟩
      · rw [Int.zero_add]
        exact atI_nat hx
      · rw [Int.zero_add]
        exact atI_nat hy
    · obtain ⟨y2, rfl, rfl⟩ := hP
      exact q
end
end Kl
set_option Elab.async false
set_option linter.all false
set_option maxRecDepth 100000
set_option maxHeartbeats 4000000
namespace Kl
open PySem PySem.Spec PyProof.Rows L2 Kw
/-! ### the drawing object -/
def Rng (H : Hp) (d : Addr) : Prop := ∃ (a : Addr) (ns : List Int) (i x y z : Int), H d = some (.lst [.ref a, .int i, .int x, .int y, .int z]) ∧ H a = some (.lst (ns.map V.int)) ∧ a ≠ d ∧ 0 ≤ i ∧ ns.length ≤ 1000
/-- all but the object at d stands -/
structure But (d : Addr) (H H' : Hp) : Prop where
  all : ∀ b o, b ≠ d → H b = some o → H' b = some o
  root : ∀ a r, H d = some (.lst (.ref a :: r)) → ∃ r', H' d = some (.lst (.ref a :: r'))
instance {d : Addr} {H H' : Hp} : CoeFun (But d H H') (fun _ => ∀ b o, b ≠ d → H b = some o → H' b = some o) := ⟨But.all⟩
theorem But.refl (d : Addr) (H : Hp) : But d H H := ⟨fun _ _ _ h => h, fun _ r h => ⟨r, h⟩⟩
theorem But.trans {d : Addr} {H H1 H2 : Hp} (a : But d H H1) (b : But d H1 H2) : But d H H2 := ⟨fun c o n h => b c o n (a c o n h), fun c r h => by
  obtain ⟨r1, h1⟩ := a.root c r h
  exact b.root c r1 h1⟩
theorem But.of {d : Addr} {H H' : Hp} (s : Same H H') : But d H H' := ⟨fun b o _ h => s b o h, fun a r h => ⟨r, s _ _ h⟩⟩
theorem But.upd {d a : Addr} {H : Hp} {r r' : List V} (hd : H d = some (.lst (.ref a :: r))) : But d H (upd H d (.lst (.ref a :: r'))) := ⟨fun b x n h => by
  rw [upd_ne n]
  exact h, fun a' r1 h1 => by
  rw [hd] at h1
  obtain ⟨e, -⟩ := List.cons.inj (HO.lst.inj (Option.some.inj h1))
  exact ⟨r', by rw [upd_same, e]⟩⟩
theorem Rng.same {H H' : Hp} {d : Addr} (r : Rng H d) (s : Same H H') : Rng H' d := by
  obtain ⟨a, ns, i, x, y, z, h1, h2, h3, h4, h5⟩ := r
  exact ⟨a, ns, i, x, y, z, s _ _ h1, s _ _ h2, h3, h4, h5⟩
theorem Rng.upd_off {H H' : Hp} {d D : Addr} {o : HO} (r : Rng H d) (n : H D = none) (b : But d H H') (r' : Rng H' d) : Rng (L2.upd H' D o) d := by
  obtain ⟨a, ns, i, x, y, z, h1, h2, h3, h4, h5⟩ := r
  obtain ⟨a', ns', i', x', y', z', g1, g2, g3, g4, g5⟩ := r'
  obtain ⟨r1, e⟩ := b.root _ _ h1
  rw [g1] at e
  obtain ⟨e1, -⟩ := List.cons.inj (HO.lst.inj (Option.some.inj e))
  have e2 := V.ref.inj e1
  have n1 : d ≠ D := fun z => by
    rw [z, n] at h1
    cases h1
  have n2 : a' ≠ D := fun z => by
    rw [e2] at z
    rw [z, n] at h2
    cases h2
  exact ⟨a', ns', i', x', y', z', by rw [upd_ne n1]; exact g1, by rw [upd_ne n2]; exact g2, g3, g4, g5⟩
section
variable {P : Program} {w : World} {K : PySem.W.Frag} {mg : Str → Option Value} {base : Heap}
def sp_begin : Sp := fun vs H Q _ => ∃ (a : Addr) (ns : List Int), vs = [.ref a] ∧ SqL K H a (ns.map V.int) ∧ ns.length ≤ 1000 ∧ ∀ d H', Same H H' → Rng H' d → H d = none → Q (.ref d) H'
theorem ok_begin (D : Def K mg "_law_begin" s_l_begin ["_law_script"]) (fr : Free mg) : Ok P w K mg base 1 "_law_begin" ["_law_script"] (sp_begin (K := K)) := by
  refine def_ok D sc_l_begin (fun vs H Q E h => ?_) fun f cdv A outer s H vs Q E hr h => ?_
  · obtain ⟨a, ns, rfl, _⟩ := h
    rfl
  · obtain ⟨a, ns, rfl, hs, hl, q⟩ := h
    refine ⟨_, pss_one (ps_ret (pe_lst (pa_cons (pe_callTy call_list_of (by rfl) fr.list (by decide +kernel) (pa_cons (pv 0) pa_nil)) (pa_cons pe_int (pa_cons pe_int (pa_cons pe_int (pa_cons pe_int pa_nil))))))), ?_⟩
    refine ⟨_, rfl, a, _, rfl, .inl hs, fun l nl => ⟨by show 5 ≤ sizeLine; decide, fun d nd => ?_⟩⟩
    have nld : l ≠ d := fun e => by rw [← e, upd_same] at nd; cases nd
    have nd0 : H d = none := by
      rw [upd_ne (Ne.symm nld)] at nd
      exact nd
    refine q d _ ((same_new nl).trans (same_new nd)) ⟨l, ns, 0, 0, 7, 0, upd_same, by rw [upd_ne nld, upd_same], nld, Int.le_refl _, hl⟩ nd0
def sp_draw : Sp := fun vs H Q _ => ∃ (d : Addr) (n : Nat), vs = [.ref d, .int (n : Int)] ∧ Rng H d ∧ 1 ≤ n ∧ n ≤ 1000000 ∧ ∀ (v : Nat) H', v < n → But d H H' → Rng H' d → Q (.int (v : Int)) H'
theorem fmod_at {i : Int} {n : Nat} (h : 1 ≤ n) : ∃ v : Nat, i.fmod (n : Int) = (v : Int) ∧ v < n := by
  refine ⟨(i.fmod (n : Int)).toNat, ?_, ?_⟩
  · rw [Int.fmod_eq_emod_of_nonneg i (by omega)]
    have := Int.emod_nonneg i (show (n : Int) ≠ 0 by omega)
    omega
  · rw [Int.fmod_eq_emod_of_nonneg i (by omega)]
    have := Int.emod_lt_of_pos i (show (0 : Int) < (n : Int) by omega)
    have := Int.emod_nonneg i (show (n : Int) ≠ 0 by omega)
    omega
theorem fmod_all {R : Int → Prop} {n : Nat} (h : 1 ≤ n) (q : ∀ v : Nat, v < n → R (v : Int)) (i : Int) : R (i.fmod (n : Int)) := by
  obtain ⟨v, hv, hn⟩ := fmod_at (i := i) h
  rw [hv]
  exact q v hn
theorem ok_draw (D : Def K mg "_law_draw" s_l_draw ["_law_d", "_law_many"]) (fr : Free mg) : Ok P w K mg base 1 "_law_draw" ["_law_d", "_law_many"] sp_draw := by
  refine def_ok D sc_l_draw (fun vs H Q E h => ?_) fun f cdv A outer s H vs Q E hr h => ?_
  · obtain ⟨d, n, rfl, _⟩ := h
    rfl
  · obtain ⟨d, n, rfl, ⟨a, ns, i, x, y, z, hd, ha, had, hi, hl⟩, n1, n2, q⟩ := h
    refine ⟨_, pss_cons (ps_if (pt_cmpR op_lt (pv 1) pe_int (nomark _)) (pss_one (ps_ret pe_int)) pss_nil)
      (pss_cons (ps_set (i := 2) sc_l_draw.nd rfl (.inl rfl) (pe_op op_add (pe_op op_mul (pe_ix ix_list (pv 0) pe_int (fun _ _ => rfl)) pe_int) pe_int))
      (C8.pss_cut (ps_if (PW.pt (pw_and (pt_cmpR op_eq (pe_ix ix_list (pv 0) pe_int (fun _ _ => rfl)) pe_int (nomark _)) (pw_and1 (pt_cmpR op_lt (pe_ix ix_list (pv 0) pe_int (fun _ _ => rfl)) (pe_callB call_len (by rfl) fr.len PySem.boot_len (pa_cons (pe_ix ix_list (pv 0) pe_int (fun _ _ => rfl)) pa_nil)) (nomark _)))))
          (pss_cons (ps_set (i := 2) sc_l_draw.nd rfl (.inl rfl) (pe_ix ix_list (pe_ix ix_list (pv 0) pe_int (fun _ _ => rfl)) (pe_ix ix_list (pv 0) pe_int (fun _ _ => rfl)) (fun _ _ => rfl)))
          (pss_cons (ps_asg (pe_op op_add (pe_ix ix_list (pv 0) pe_int (fun _ _ => rfl)) pe_int) (pg_sub (pv 0) pe_int set_list))
          (C8.pss_cut (ps_if (pt_cmpR op_lt (pv 2) pe_int (nomark _)) (pss_one (ps_set (i := 2) sc_l_draw.nd rfl (.inl rfl) (pe_op op_sub pe_int (pe_op op_mul pe_int (pv 2))))) pss_nil)
          (pss_one (ps_if (pt_cmpR op_ge (pv 2) pe_int (nomark _))
            (pss_cons (ps_set (i := 2) sc_l_draw.nd rfl (.inl rfl) (pe_op op_and (pv 2) (pe_op op_sub (pe_op op_shl pe_int pe_int) pe_int))) (pss_one (ps_asg (pv 2) (pg_sub (pv 0) pe_int set_list)))) pss_nil))))) pss_nil)
      (pss_cons (ps_if (pt_cmpR op_gt (pe_ix ix_list (pv 0) pe_int (fun _ _ => rfl)) pe_int (nomark _))
          (pss_cons (ps_set (i := 3) sc_l_draw.nd rfl (.inl rfl) (pe_op op_modN (pe_callTy call_int1 (by rfl) fr.int (by decide +kernel) (pa_cons (pe_ix ix_list (pv 0) pe_int (fun _ _ => rfl)) pa_nil)) (pv 1)))
          (pss_cons (ps_asg (pe_op op_fdivN (pe_ix ix_list (pv 0) pe_int (fun _ _ => rfl)) (pv 1)) (pg_sub (pv 0) pe_int set_list)) (pss_one (ps_ret (pv 3))))) pss_nil)
      (pss_cons (ps_asg (pe_op op_add (pe_ix ix_list (pv 0) pe_int (fun _ _ => rfl)) pe_int) (pg_sub (pv 0) pe_int set_list))
      (pss_cons (ps_asg (pe_op op_modN (pe_callTy call_int1 (by rfl) fr.int (by decide +kernel) (pa_cons (pe_op op_add (pe_op op_add (pe_op op_mul (pe_ix ix_list (pv 0) pe_int (fun _ _ => rfl)) pe_int) (pe_op op_mul (pv 2) pe_int)) (pe_op op_mul (pe_ix ix_list (pv 0) pe_int (fun _ _ => rfl)) pe_int)) pa_nil)) pe_int) (pg_sub (pv 0) pe_int set_list))
      (pss_one (ps_ret (pe_op op_modN (pe_callTy call_int1 (by rfl) fr.int (by decide +kernel) (pa_cons (pe_op op_modN (pe_callTy call_int1 (by rfl) fr.int (by decide +kernel)
        (pa_cons (pe_op op_add (pe_op op_add (pe_op op_mul (pe_ix ix_list (pv 0) pe_int (fun _ _ => rfl)) pe_int) (pe_op op_mul (pe_ix ix_list (pv 0) pe_int (fun _ _ => rfl)) pe_int)) pe_int) pa_nil)) pe_int) pa_nil)) (pv 1))))))))), ?_⟩
    refine ⟨_, rfl, _, _, rfl, rfl, _, rfl, ite2 (fun e => ?_) fun e => ?_⟩
    · exact q 0 H (by omega) (But.refl _ _) ⟨a, ns, i, x, y, z, hd, ha, had, hi, hl⟩
    · refine ⟨_, rfl, d, _, _, _, rfl, rfl, SqL.of hd, atI_nat (j := 4) rfl, _, _, rfl, rfl, .inr ⟨by decide, by decide⟩, _, _, rfl, rfl, ?_⟩
      refine ⟨fun σ' H' => ∃ (c : Int), σ' = [some (.ref d), some (.int (n : Int)), some (.int c), none] ∧ But d H H' ∧ Rng H' d, ?_, ?_⟩
      · refine ⟨_, rfl, d, _, _, _, rfl, rfl, SqL.of hd, atI_nat (j := 2) rfl, rfl, _, rfl, ite2 (fun e1 => ?_) fun e1 => ?_⟩
        · refine ⟨_, rfl, d, _, _, _, rfl, rfl, SqL.of hd, atI_nat (j := 1) rfl, _, rfl, d, _, _, _, rfl, rfl, SqL.of hd, atI_nat (j := 0) rfl, _, _, rfl, .inl ⟨_, SqL.of ha, rfl⟩, _, _, rfl, rfl, _, rfl, ?_⟩
          rw [List.length_map]
          refine ite2 (fun e2 => ?_) fun e2 => ?_
          · have e3 : i < (ns.length : Int) := of_decide_eq_true e2
            obtain ⟨j, hj⟩ : ∃ j : Nat, i = (j : Int) := ⟨i.toNat, by omega⟩
            have hjl : j < ns.length := by omega
            refine ⟨_, rfl, d, _, _, _, rfl, rfl, SqL.of hd, atI_nat (j := 0) rfl, _, rfl, d, _, _, _, rfl, rfl, SqL.of hd, atI_nat (j := 1) rfl, a, _, _, .int ns[j], rfl, rfl, SqL.of ha, ?_, ?_⟩
            · rw [hj]
              refine atI_nat ?_
              rw [List.getElem?_map, List.getElem?_eq_getElem hjl]
              rfl
            refine ⟨_, rfl, d, _, _, _, rfl, rfl, SqL.of hd, atI_nat (j := 1) rfl, _, _, rfl, rfl, _, rfl, d, _, _, 1, rfl, rfl, hd, rfl, ?_⟩
            have r1 : Rng (upd H d (.lst [.ref a, .int (i + 1), .int x, .int y, .int z])) d := ⟨a, ns, i + 1, x, y, z, upd_same, by rw [upd_ne had]; exact ha, had, by omega, hl⟩
            refine ⟨fun σ' H' => ∃ c : Int, σ' = [some (.ref d), some (.int (n : Int)), some (.int c), none] ∧ H' = upd H d (.lst [.ref a, .int (i + 1), .int x, .int y, .int z]), ?_, ?_⟩
            · refine ⟨_, rfl, _, _, rfl, rfl, _, rfl, ite2 (fun e4 => ?_) fun e4 => ?_⟩
              · exact ⟨_, rfl, _, _, rfl, rfl, .inl ⟨by decide, by decide⟩, _, _, rfl, rfl, _, rfl, rfl⟩
              · exact ⟨_, rfl, rfl⟩
            · rintro σ' H' ⟨c, rfl, rfl⟩
              refine ⟨_, rfl, _, _, rfl, rfl, _, rfl, ite2 (fun e5 => ?_) fun e5 => ?_⟩
              · refine ⟨_, rfl, _, _, rfl, rfl, ⟨by decide, by decide, by decide⟩, _, _, rfl, rfl, _, _, rfl, rfl, ?_⟩
                refine ⟨_, rfl, _, rfl, d, _, _, 2, rfl, rfl, upd_same, rfl, ?_⟩
                refine ⟨_, rfl, (But.upd hd).trans (But.upd (a := a) upd_same), ⟨a, ns, i + 1, _, y, z, upd_same, ?_, had, by omega, hl⟩⟩
                rw [upd_ne had, upd_ne had]
                exact ha
              · exact ⟨_, rfl, But.upd hd, r1⟩
          · exact ⟨_, rfl, But.refl _ _, ⟨a, ns, i, x, y, z, hd, ha, had, hi, hl⟩⟩
        · exact ⟨_, rfl, But.refl _ _, ⟨a, ns, i, x, y, z, hd, ha, had, hi, hl⟩⟩
      · rintro σ' H' ⟨c, rfl, sb, ⟨a', ns', i', x', y', z', hd', ha', had', hi', hl'⟩⟩
        refine ⟨_, rfl, d, _, _, _, rfl, rfl, SqL.of hd', atI_nat (j := 2) rfl, _, _, rfl, rfl, _, rfl, ite2 (fun e1 => ?_) fun e1 => ?_⟩
        · obtain ⟨v, hv, hvn⟩ := fmod_at (i := x') n1
          refine ⟨_, rfl, d, _, _, _, rfl, rfl, SqL.of hd', atI_nat (j := 2) rfl, .inl ⟨_, rfl, _, rfl, _, _, rfl, rfl, by omega, ?_⟩⟩
          refine ⟨_, rfl, d, _, _, _, rfl, rfl, SqL.of hd', atI_nat (j := 2) rfl, _, rfl, _, _, rfl, rfl, ⟨by omega, by omega⟩, _, rfl, d, _, _, 2, rfl, rfl, hd', rfl, ?_⟩
          refine ⟨_, rfl, ?_⟩
          show Q (.int (x'.fmod (n : Int))) _
          rw [hv]
          refine q v _ hvn (sb.trans (But.upd hd')) ⟨a', ns', i', _, y', z', upd_same, ?_, had', hi', hl'⟩
          rw [upd_ne had']
          exact ha'
        · refine ⟨_, rfl, d, _, _, _, rfl, rfl, SqL.of hd', atI_nat (j := 4) rfl, _, _, rfl, rfl, _, rfl, d, _, _, 4, rfl, rfl, hd', rfl, ?_⟩
          refine ⟨_, rfl, d, _, _, _, rfl, rfl, SqL.of upd_same, atI_nat (j := 3) rfl, _, _, rfl, rfl, .inr ⟨by decide, by decide⟩, _, rfl, _, _, rfl, rfl, .inr ⟨by decide, by decide⟩, _, _, rfl, rfl, _, rfl, d, _, _, _, rfl, rfl, SqL.of upd_same, atI_nat (j := 4) rfl, _, _, rfl, rfl, .inr ⟨by decide, by decide⟩, _, _, rfl, rfl, ?_⟩
          refine .inl ⟨_, rfl, _, _, rfl, rfl, (show (2147483647 : Int) ≠ 0 by decide), _, rfl, d, _, _, 3, rfl, rfl, upd_same, rfl, ?_⟩
          refine ⟨_, rfl, d, _, _, _, rfl, rfl, SqL.of upd_same, atI_nat (j := 3) rfl, _, _, rfl, rfl, .inr ⟨by decide, by decide⟩, _, rfl, d, _, _, _, rfl, rfl, SqL.of upd_same, atI_nat (j := 4) rfl, _, _, rfl, rfl, .inr ⟨by decide, by decide⟩, _, _, rfl, rfl, _, _, rfl, rfl, ?_⟩
          refine .inl ⟨_, rfl, _, _, rfl, rfl, (show (2147483399 : Int) ≠ 0 by decide), .inl ⟨_, rfl, _, rfl, _, _, rfl, rfl, by omega, ?_⟩⟩
          show Q (.int (Int.fmod _ (n : Int))) _
          refine fmod_all (R := fun i => Q (.int i) _) n1 (fun v hv => ?_) _
          refine q v _ hv ((sb.trans (But.upd hd')).trans (But.upd (a := a') upd_same)) ⟨a', ns', i', x', _, _, upd_same, ?_, had', hi', hl'⟩
          rw [upd_ne had', upd_ne had']
          exact ha'
end
end Kl
set_option Elab.async false
set_option linter.all false
set_option maxRecDepth 100000
set_option maxHeartbeats 4000000
namespace Kl
open PySem PySem.Spec PyProof.Rows L2 Kw
/-! ### picks and rows -/
theorem str_tx (x : Str) : V.str x = tx x.cps.toList := rfl
def goodM (t : T) : Bool := Nat.ble 1 t.length && Nat.ble t.length 1000 && t.all fun c => !(Nat.beq c 34) && Nat.ble c 1114111
theorem goodM_iff {t : T} (h : goodM t = true) : 1 ≤ t.length ∧ t.length ≤ 1000 ∧ ∀ c ∈ t, c ≠ 34 ∧ c < 1114112 := by
  unfold goodM at h
  rw [Bool.and_eq_true, Bool.and_eq_true, Nat.ble_eq, Nat.ble_eq, List.all_eq_true] at h
  refine ⟨h.1.1, h.1.2, fun c hc => ?_⟩
  have := h.2 c hc
  rw [Bool.and_eq_true, Nat.ble_eq, Bool.not_eq_true'] at this
  refine ⟨fun e => ?_, by omega⟩
  rw [e] at this
  exact Bool.noConfusion this.1
def ok34 (t : T) : Prop := ∀ c ∈ t, c ≠ 34 ∧ c < 1114112
section
variable {X : Cx}
def rIxA (K : PySem.W.Frag) : R2 := fun x y H Q => rIxL K x y H Q ∨ rIxT K x y H Q ∨ rIxT1 x y H Q
theorem ix_any : IxR X (rIxA X.K) := ix_list.or (ix_tup.or ix_txt)
end
section
variable {P : Program} {w : World} {K : PySem.W.Frag} {mg : Str → Option Value} {base : Heap}
def sp_pick : Sp := fun vs H Q _ => ∃ (d : Addr) (x : V), vs = [.ref d, x] ∧ Rng H d ∧
  ((∃ t : T, x = tx t ∧ 1 ≤ t.length ∧ t.length ≤ 1000 ∧ ∀ (c : Nat) H', c ∈ t → But d H H' → Rng H' d → Q (tx [c]) H') ∨
   ∃ (l : Addr) (o : HO) (xs : List V), x = .ref l ∧ l ≠ d ∧ H l = some o ∧ (o = .lst xs ∨ o = .tup xs) ∧ 1 ≤ xs.length ∧ xs.length ≤ 1000 ∧ ∀ (v : V) H', v ∈ xs → But d H H' → Rng H' d → Q v H')
theorem ok_pick (D : Def K mg "_law_pick" s_l_pick ["_law_d", "_law_row"]) (fr : Free mg) (Gd : Ok P w K mg base 1 "_law_draw" ["_law_d", "_law_many"] sp_draw) : Ok P w K mg base 2 "_law_pick" ["_law_d", "_law_row"] sp_pick := by
  refine def_ok D sc_l_pick (fun vs H Q E h => ?_) fun f cdv A outer s H vs Q E hr h => ?_
  · obtain ⟨d, x, rfl, _⟩ := h
    rfl
  · obtain ⟨d, x, rfl, hR, h⟩ := h
    refine ⟨_, pss_one (ps_ret (pe_ix ix_any (pv 1) (pe_f Gd hr (by rfl) (pa_cons (pv 0) (pa_cons (pe_callB call_len (by rfl) fr.len PySem.boot_len (pa_cons (pv 1) pa_nil)) pa_nil))) (fun _ _ => rfl))), ?_⟩
    rcases h with ⟨t, rfl, h1, h2, q⟩ | ⟨l, o, xs, rfl, hl, ho, hox, h1, h2, q⟩
    · refine ⟨_, rfl, _, rfl, _, rfl, _, t.length, rfl, ⟨by rw [S_len]; exact big _ (by omega), by rw [S_len]⟩, d, t.length, rfl, hR, h1, by omega, fun v H' hv hb hR' => ?_⟩
      refine .inr (.inr ⟨t, _, t[v], rfl, rfl, by omega, atI_nat (List.getElem?_eq_getElem hv), q _ _ (List.getElem_mem hv) hb hR'⟩)
    · refine ⟨_, rfl, _, rfl, _, rfl, _, xs.length, rfl, ?_, d, xs.length, rfl, hR, h1, by omega, fun v H' hv hb hR' => ?_⟩
      · rcases hox with rfl | rfl
        · exact .inl ⟨_, SqL.of ho, rfl⟩
        · exact .inr ⟨_, SqT.of ho, rfl⟩
      · have hq := q _ _ (List.getElem_mem hv) hb hR'
        rcases hox with rfl | rfl
        · exact .inl ⟨l, _, _, xs[v], rfl, rfl, SqL.of (hb l _ hl ho), atI_nat (List.getElem?_eq_getElem hv), hq⟩
        · exact .inr (.inl ⟨l, _, _, xs[v], rfl, rfl, SqT.of (hb l _ hl ho), atI_nat (List.getElem?_eq_getElem hv), hq⟩)
def sp_signs : Sp := fun vs H Q _ => vs = [] ∧ ∀ t : T, goodM t = true → Q (tx t) H
theorem ok_all_signs (D : Def K mg "_law_all_signs" s_l_all_signs []) : Ok P w K mg base 1 "_law_all_signs" [] sp_signs := by
  refine def_ok D sc_l_all_signs (fun vs H Q E h => ?_) fun f cdv A outer s H vs Q E hr h => ?_
  · obtain ⟨rfl, _⟩ := h
    rfl
  · obtain ⟨rfl, q⟩ := h
    refine ⟨_, pss_cons (ps_set (i := 0) sc_l_all_signs.nd rfl (.inl rfl) pe_str) (pss_one (ps_ret (pe_op o_addT (pv 0) pe_str))), ?_⟩
    refine ⟨_, rfl, _, _, str_tx _, str_tx _, by decide +kernel, q _ (by decide +kernel)⟩
def sp_few : Sp := fun vs H Q _ => ∃ (d : Addr) (n : Nat), vs = [.ref d, .int (n : Int)] ∧ Rng H d ∧ 1 ≤ n ∧ n ≤ 1000000 ∧ ∀ (v : Nat) H', 1 ≤ v → v ≤ n → But d H H' → Rng H' d → Q (.int (v : Int)) H'
theorem ok_few (D : Def K mg "_law_few" s_l_few ["_law_d", "_law_room"]) (fr : Free mg) (Gd : Ok P w K mg base 1 "_law_draw" ["_law_d", "_law_many"] sp_draw) : Ok P w K mg base 2 "_law_few" ["_law_d", "_law_room"] sp_few := by
  refine def_ok D sc_l_few (fun vs H Q E h => ?_) fun f cdv A outer s H vs Q E hr h => ?_
  · obtain ⟨d, n, rfl, _⟩ := h
    rfl
  · obtain ⟨d, n, rfl, hR, h1, h2, q⟩ := h
    refine ⟨_, pss_cons (ps_set (i := 2) sc_l_few.nd rfl (.inl rfl) (pe_f Gd hr (by rfl) (pa_cons (pv 0) (pa_cons pe_int pa_nil))))
      (pss_cons (ps_if (pt_cmpR op_eq (pv 2) pe_int (nomark _)) (pss_one (ps_ret (pv 1))) pss_nil)
      (pss_cons (ps_if (pt_cmpR op_eq (pv 2) pe_int (nomark _)) (pss_one (ps_ret (pe_op op_add pe_int (pe_f Gd hr (by rfl) (pa_cons (pv 0) (pa_cons (pv 1) pa_nil)))))) pss_nil)
      (pss_one (ps_ret (pe_op op_add pe_int (pe_f Gd hr (by rfl) (pa_cons (pv 0) (pa_cons (pe_callB (call_min2 rfl) (by rfl) fr.min (by decide +kernel) (pa_cons (pv 1) (pa_cons pe_int pa_nil))) pa_nil)))))))), ?_⟩
    refine ⟨_, rfl, d, 4, rfl, hR, by omega, by omega, fun v H1 hv hb hR1 => ?_⟩
    refine ⟨_, rfl, rfl, _, rfl, ite2 (fun e => ?_) fun e => ?_⟩
    · exact ⟨_, rfl, q n _ h1 (Nat.le_refl _) hb hR1⟩
    refine ⟨_, rfl, rfl, _, rfl, ite2 (fun e => ?_) fun e => ?_⟩
    · refine ⟨_, rfl, _, rfl, d, n, rfl, hR1, h1, h2, fun v2 H2 hv2 hb2 hR2 => ?_⟩
      refine ⟨_, _, rfl, rfl, ?_⟩
      have := q (1 + v2) _ (by omega) (by omega) (hb.trans hb2) hR2
      rw [Int.natCast_add] at this
      exact this
    · have em : (if (3 : Int) < (n : Int) then (3 : Int) else (n : Int)) = ((min n 3 : Nat) : Int) := by split <;> omega
      refine ⟨_, rfl, _, rfl, _, _, rfl, d, min n 3, by rw [em]; rfl, hR1, by omega, by omega, fun v2 H2 hv2 hb2 hR2 => ?_⟩
      refine ⟨_, _, rfl, rfl, ?_⟩
      have := q (1 + v2) _ (by omega) (by omega) (hb.trans hb2) hR2
      rw [Int.natCast_add] at this
      exact this
def sp_some_row : Sp := fun vs H Q _ => ∃ (d : Addr) (n : Nat), vs = [.ref d, .int (n : Int)] ∧ Rng H d ∧ 1 ≤ n ∧ n ≤ 1000 ∧ ∀ (t : T) H', t.length = n → ok34 t → But d H H' → Rng H' d → Q (tx t) H'
theorem ok_some_row (D : Def K mg "_law_some_row" s_l_some_row ["_law_d", "_law_wide"]) (fr : Free mg) (Gp : Ok P w K mg base 2 "_law_pick" ["_law_d", "_law_row"] sp_pick) (Ga : Ok P w K mg base 2 "_law_all_signs" [] sp_signs)
    (Gf : Ok P w K mg base 2 "_law_few" ["_law_d", "_law_room"] sp_few) : Ok P w K mg base 3 "_law_some_row" ["_law_d", "_law_wide"] sp_some_row := by
  refine def_ok D sc_l_some_row (fun vs H Q E h => ?_) fun f cdv A outer s H vs Q E hr h => ?_
  · obtain ⟨d, n, rfl, _⟩ := h
    rfl
  · obtain ⟨d, n, rfl, hR, h1, h2, q⟩ := h
    refine ⟨_, pss_cons (ps_set (i := 2) sc_l_some_row.nd rfl (.inl rfl) (pe_f Gp hr (by rfl) (pa_cons (pv 0) (pa_cons (pe_lst (pa_cons pe_str (pa_cons pe_str (pa_cons pe_str (pa_cons pe_str (pa_cons (pe_f0 Ga hr (by rfl)) pa_nil)))))) pa_nil))))
      (pss_cons (ps_set (i := 3) sc_l_some_row.nd rfl (.inl rfl) pe_str)
      (pss_cons (ps_for PassesOwn.never rfl (pi_range1 rfl fr.range (pa_cons (pv 1) pa_nil)) (pg_name (i := 4) sc_l_some_row.nd rfl (.inl rfl))
        (pss_one (ps_if (pt_cmpR op_lt (pe_callB c_lenT (by rfl) fr.len PySem.boot_len (pa_cons (pv 3) pa_nil)) (pv 1) (nomark _))
          (pss_one (ps_set (i := 3) sc_l_some_row.nd rfl (.inl rfl) (pe_op o_addT (pv 3) (pe_op o_mulT (pe_f Gp hr (by rfl) (pa_cons (pv 0) (pa_cons (pv 2) pa_nil)))
            (pe_f Gf hr (by rfl) (pa_cons (pv 0) (pa_cons (pe_op op_sub (pv 1) (pe_callB c_lenT (by rfl) fr.len PySem.boot_len (pa_cons (pv 3) pa_nil))) pa_nil))))))) pss_nil)))
      (pss_one (ps_ret (pv 3))))), ?_⟩
    refine ⟨_, rfl, rfl, fun tA hA => ⟨by show 5 ≤ sizeLine; decide, fun l nl => ?_⟩⟩
    have nld : l ≠ d := fun e => by
      obtain ⟨a, ns, i, x, y, z, hd, _⟩ := hR
      rw [e, hd] at nl
      cases nl
    refine ⟨d, .ref l, rfl, hR.same (same_new nl), .inr ⟨l, _, _, rfl, nld, upd_same, .inl rfl, by show 1 ≤ 5; omega, by show 5 ≤ 1000; omega, fun v H1 hv hb hR1 => ?_⟩⟩
    have hb1 : But d H H1 := (But.of (same_new nl)).trans hb
    obtain ⟨m, rfl, hm⟩ : ∃ m : T, v = tx m ∧ goodM m = true := by
      rcases List.mem_cons.mp hv with e | hv
      · exact ⟨_, e.trans (str_tx _), by decide +kernel⟩
      rcases List.mem_cons.mp hv with e | hv
      · exact ⟨_, e.trans (str_tx _), by decide +kernel⟩
      rcases List.mem_cons.mp hv with e | hv
      · exact ⟨_, e.trans (str_tx _), by decide +kernel⟩
      rcases List.mem_cons.mp hv with e | hv
      · exact ⟨_, e.trans (str_tx _), by decide +kernel⟩
      · rw [List.mem_singleton] at hv
        exact ⟨tA, hv, hA⟩
    obtain ⟨hm1, hm2, hm3⟩ := goodM_iff hm
    refine ⟨_, rfl, (n : Int), rfl, by omega, by omega, ?_⟩
    refine for_range (n := ((n : Nat) : Int).toNat) (fun i σ H' => ∃ (row : T) (y4 : Option V), σ = [some (.ref d), some (.int (n : Int)), some (tx m), some (tx row), y4] ∧ i ≤ row.length ∧ row.length ≤ n ∧ ok34 row ∧ But d H H' ∧ Rng H' d)
      ⟨[], none, rfl, Nat.le_refl _, Nat.zero_le _, fun _ h => absurd h (List.not_mem_nil), hb1, hR1⟩ (fun i σ H' hi hP => ?_) fun σ H' hP => ?_
    · obtain ⟨row, y4, rfl, g1, g2, g3, g4, g5⟩ := hP
      refine ⟨_, rfl, row, rfl, by omega, _, rfl, _, _, rfl, rfl, _, rfl, ite2 (fun e => ?_) fun e => ?_⟩
      · have hlt : row.length < n := by have := of_decide_eq_true e; omega
        refine ⟨_, rfl, _, rfl, _, rfl, d, tx m, rfl, g5, .inl ⟨m, rfl, hm1, hm2, fun c H2 hc hb2 hR2 => ?_⟩⟩
        refine ⟨_, rfl, _, rfl, _, rfl, row, rfl, by omega, _, _, rfl, rfl, ?_⟩
        refine ⟨d, n - row.length, ?_, hR2, by omega, by omega, fun k H3 hk1 hk2 hb3 hR3 => ?_⟩
        · rw [Int.natCast_sub (Nat.le_of_lt hlt)]
          rfl
        refine ⟨c, (k : Int), rfl, rfl, by omega, by omega, row, List.replicate k c, rfl, rfl, ?_, ?_⟩
        · rw [List.length_replicate]
          omega
        refine ⟨row ++ List.replicate k c, _, rfl, ?_, ?_, ?_, (g4.trans hb2).trans hb3, hR3⟩
        · rw [List.length_append, List.length_replicate]
          omega
        · rw [List.length_append, List.length_replicate]
          omega
        · intro x hx
          rcases List.mem_append.mp hx with hx | hx
          · exact g3 x hx
          · rw [List.eq_of_mem_replicate hx]
            exact hm3 c hc
      · have hlt : ¬ row.length < n := fun h => e (decide_eq_true (by omega))
        exact ⟨row, _, rfl, by omega, g2, g3, g4, g5⟩
    · obtain ⟨row, y4, rfl, g1, g2, g3, g4, g5⟩ := hP
      exact ⟨_, rfl, q row _ (by omega) g3 g4 g5⟩
end
end Kl
set_option Elab.async false
set_option linter.all false
set_option maxRecDepth 100000
set_option maxHeartbeats 4000000
namespace Kl
open PySem PySem.Spec PyProof.Rows L2 Kw
/-! ### a page -/
def okR (n : Nat) (t : T) : Prop := t.length = n ∧ ok34 t
def okPg (n : Nat) (p : Pg) : Prop := ∀ t ∈ p, okR n t
theorem okR_bl (n : Nat) : okR n (List.replicate n 32) := ⟨List.length_replicate, fun c hc => by
  rw [List.eq_of_mem_replicate hc]
  exact ⟨by decide, by decide⟩⟩
theorem okPg_rep {n m : Nat} {t : T} {p : Pg} (h : okPg n p) (r : okR n t) : okPg n (p ++ List.replicate m t) := fun x hx => by
  rcases List.mem_append.mp hx with hx | hx
  · exact h x hx
  · rw [List.eq_of_mem_replicate hx]
    exact r
theorem atI_lst {p : Pg} (h : p ≠ []) : ∃ t, atI (pgv p) (-1) = some (tx t) ∧ t ∈ p := by
  refine ⟨p.getLast h, ?_, List.getLast_mem h⟩
  have e : pgv p = pgv p.dropLast ++ [tx (p.getLast h)] := by
    unfold pgv
    conv => lhs; rw [← List.dropLast_concat_getLast h]
    rw [List.map_append]
    rfl
  rw [e]
  exact atI_last _ _
theorem flat_oneV (v : V) (n : Nat) : (List.replicate n [v]).flatten = List.replicate n v := flat_rep v n
section
variable {P : Program} {w : World} {K : PySem.W.Frag} {mg : Str → Option Value} {base : Heap}
def sp_some_page : Sp := fun vs H Q _ => ∃ (d : Addr) (n m : Nat), vs = [.ref d, .int (n : Int), .int (m : Int)] ∧ Rng H d ∧ 1 ≤ n ∧ n ≤ 1000 ∧ 1 ≤ m ∧ m ≤ 1000 ∧
  ∀ (a : Addr) (p : Pg) H', p.length = m → okPg n p → But d H H' → Rng H' d → a ≠ d → H' a = some (.tup (pgv p)) → Q (.ref a) H'
theorem ok_some_page (D : Def K mg "_law_some_page" s_l_some_page ["_law_d", "_law_wide", "_law_high"]) (fr : Free mg) (Gd : Ok P w K mg base 1 "_law_draw" ["_law_d", "_law_many"] sp_draw) (Gp : Ok P w K mg base 2 "_law_pick" ["_law_d", "_law_row"] sp_pick)
    (Gf : Ok P w K mg base 2 "_law_few" ["_law_d", "_law_room"] sp_few) (Gr : Ok P w K mg base 3 "_law_some_row" ["_law_d", "_law_wide"] sp_some_row) : Ok P w K mg base 4 "_law_some_page" ["_law_d", "_law_wide", "_law_high"] sp_some_page := by
  refine def_ok D sc_l_some_page (fun vs H Q E h => ?_) fun f cdv A outer s H vs Q E hr h => ?_
  · obtain ⟨d, n, m, rfl, _⟩ := h
    rfl
  · obtain ⟨d, n, m, rfl, hR, h1, h2, h3, h4, q⟩ := h
    refine ⟨_, pss_cons (ps_set (i := 3) sc_l_some_page.nd rfl (.inl rfl) (pe_lst pa_nil))
      (pss_cons (ps_for PassesOwn.never rfl (pi_range1 rfl fr.range (pa_cons (pv 2) pa_nil)) (pg_name (i := 4) sc_l_some_page.nd rfl (.inl rfl))
        (pss_one (ps_if (pt_cmpR op_lt (pe_callB call_len (by rfl) fr.len PySem.boot_len (pa_cons (pv 3) pa_nil)) (pv 2) (nomark _))
          (pss_cons (ps_set (i := 5) sc_l_some_page.nd rfl (.inl rfl) (pe_f (Gd.up (show 1 ≤ 3 by decide)) hr (by rfl) (pa_cons (pv 0) (pa_cons pe_int pa_nil))))
          (pss_cons (ps_set (i := 6) sc_l_some_page.nd rfl (.inl rfl) (pe_op o_mulT pe_str (pv 1)))
          (C8.pss_cut (ps_if (PW.pt (pw_and (pt_cmpR op_eq (pv 5) pe_int (nomark _)) (pw_and1 (pt_truth (pv 3) (fun _ => rfl)))))
              (pss_cons (ps_set (i := 7) sc_l_some_page.nd rfl (.inl rfl) (pe_f (Gd.up (show 1 ≤ 3 by decide)) hr (by rfl) (pa_cons (pv 0) (pa_cons (pv 1) pa_nil))))
              (pss_one (ps_set (i := 6) sc_l_some_page.nd rfl (.inl rfl) (pe_op o_addT (pe_op o_addT (pe_slice sl_txt (pe_ix ix_list (pv 3) (pe_un un_neg pe_int) (fun _ _ => rfl)) po_none (po_some (pv 7)))
                (pe_f (Gp.up (show 2 ≤ 3 by decide)) hr (by rfl) (pa_cons (pv 0) (pa_cons pe_str pa_nil)))) (pe_slice sl_txt (pe_ix ix_list (pv 3) (pe_un un_neg pe_int) (fun _ _ => rfl)) (po_some (pe_op op_add (pv 7) pe_int)) po_none)))))
              (pss_one (ps_if (pt_cmpR op_gt (pv 5) pe_int (nomark _)) (pss_one (ps_set (i := 6) sc_l_some_page.nd rfl (.inl rfl) (pe_f Gr hr (by rfl) (pa_cons (pv 0) (pa_cons (pv 1) pa_nil))))) pss_nil)))
          (pss_one (ps_set (i := 3) sc_l_some_page.nd rfl (.inl rfl) (pe_op op_cat (pv 3) (pe_op op_rep (pe_lst (pa_cons (pv 6) pa_nil)) (pe_f (Gf.up (show 2 ≤ 3 by decide)) hr (by rfl) (pa_cons (pv 0) (pa_cons (pe_op op_sub (pv 2) (pe_callB call_len (by rfl) fr.len PySem.boot_len (pa_cons (pv 3) pa_nil))) pa_nil))))))))))
          pss_nil)))
      (pss_one (ps_ret (pe_callTy call_tuple_of (by rfl) fr.tuple (by decide +kernel) (pa_cons (pv 3) pa_nil))))), ?_⟩
    have fresh : ∀ {H' : Hp} {l : Addr}, Rng H' d → H' l = none → l ≠ d := fun r nl e => by
      obtain ⟨a, ns, i, x, y, z, hd, _⟩ := r
      rw [e, hd] at nl
      cases nl
    refine ⟨by show 0 ≤ sizeLine; decide, fun l0 nl0 => ?_⟩
    refine ⟨_, rfl, (m : Int), rfl, by omega, by omega, ?_⟩
    refine for_range (n := ((m : Nat) : Int).toNat) (fun i σ H' => ∃ (l : Addr) (p : Pg) (y4 y5 y6 y7 : Option V), σ = [some (.ref d), some (.int (n : Int)), some (.int (m : Int)), some (.ref l), y4, y5, y6, y7] ∧ H' l = some (.lst (pgv p)) ∧ l ≠ d ∧ i ≤ p.length ∧ p.length ≤ m ∧ okPg n p ∧ But d H H' ∧ Rng H' d)
      ⟨l0, [], none, none, none, none, rfl, upd_same, fresh hR nl0, Nat.le_refl _, Nat.zero_le _, fun _ h => absurd h (List.not_mem_nil), But.of (same_new nl0), hR.same (same_new nl0)⟩ (fun i σ H' hi hP => ?_) fun σ H' hP => ?_
    · obtain ⟨l, p, y4, y5, y6, y7, rfl, hl, hld, g1, g2, g3, g4, g5⟩ := hP
      have hpl : (pgv p).length = p.length := List.length_map ..
      refine ⟨_, rfl, _, p.length, rfl, .inl ⟨_, SqL.of hl, hpl.symm⟩, _, rfl, _, _, rfl, rfl, _, rfl, ite2 (fun e => ?_) fun e => ?_⟩
      · have hlt : p.length < m := by have := of_decide_eq_true e; omega
        refine ⟨_, rfl, d, 5, rfl, g5, by omega, by omega, fun v H1 hv hb1 hR1 => ?_⟩
        refine ⟨_, rfl, 32, (n : Int), lit_sp.symm, rfl, by omega, by omega, ?_⟩
        have hl1 := hb1 l _ hld hl
        refine ⟨fun σ' H2 => ∃ (t : T) (y7 : Option V), σ' = [some (.ref d), some (.int (n : Int)), some (.int (m : Int)), some (.ref l), some (.int (0 + (i : Int))), some (.int (v : Int)), some (tx t), y7] ∧ okR n t ∧ But d H1 H2 ∧ Rng H2 d, ?_, ?_⟩
        · refine ⟨_, rfl, rfl, _, rfl, ite2 (fun e1 => ?_) fun e1 => ?_⟩
          · refine ⟨_, rfl, !(pgv p).isEmpty, .inl ⟨_, SqL.of hl1, rfl⟩, ite2 (fun e2 => ?_) fun e2 => ?_⟩
            · have hp : p ≠ [] := fun z => by
                rw [z] at e2
                exact Bool.noConfusion e2
              obtain ⟨t, ht, htm⟩ := atI_lst hp
              obtain ⟨hn, hq⟩ := g3 t htm
              refine ⟨_, rfl, _, rfl, d, n, rfl, hR1, h1, by omega, fun u H2 hu hb2 hR2 => ?_⟩
              have hl2 := hb2 l _ hld hl1
              refine ⟨_, rfl, 1, rfl, l, _, _, tx t, rfl, rfl, SqL.of hl2, ht, _, rfl, (u : Int), rfl, t, rfl, by omega, .inr (.inr ⟨u, rfl, rfl, by omega, ?_⟩)⟩
              refine ⟨_, rfl, d, _, rfl, hR2, .inl ⟨_, str_tx _, by decide +kernel, by decide +kernel, fun c H3 hc hb3 hR3 => ?_⟩⟩
              have hc2 : c ≠ 34 ∧ c < 1114112 := (goodM_iff (t := (Str.ofString " #ab").cps.toList) (by decide +kernel)).2.2 c hc
              have hl3 := hb3 l _ hld hl2
              refine ⟨_, _, rfl, rfl, ?_, ?_⟩
              · rw [List.length_take]
                show min u t.length + 1 ≤ _
                omega
              refine ⟨_, rfl, 1, rfl, l, _, _, tx t, rfl, rfl, SqL.of hl3, ht, _, rfl, _, _, rfl, rfl, ((u : Int) + 1), rfl, t, rfl, by omega, .inr (.inl ⟨u + 1, rfl, rfl, by omega, ?_⟩)⟩
              have hle : (t.take u ++ [c] ++ t.drop (u + 1)).length = n := by
                rw [List.length_append, List.length_append, List.length_take, List.length_drop]
                show min u t.length + 1 + _ = n
                omega
              refine ⟨_, _, rfl, rfl, ?_, ?_⟩
              · rw [← List.length_append, hle]
                omega
              refine ⟨_, _, rfl, ⟨hle, fun x hx => ?_⟩, hb2.trans hb3, hR3⟩
              rcases List.mem_append.mp hx with hx | hx
              · rcases List.mem_append.mp hx with hx | hx
                · exact hq x (List.mem_of_mem_take hx)
                · rw [List.mem_singleton.mp hx]
                  exact hc2
              · exact hq x (List.mem_of_mem_drop hx)
            · refine ⟨_, rfl, _, _, rfl, rfl, _, rfl, ite2 (fun e3 => ?_) fun e3 => ?_⟩
              · exact ⟨_, rfl, _, rfl, d, n, rfl, hR1, h1, h2, fun t H2 ht ht2 hb2 hR2 => ⟨t, _, rfl, ⟨ht, ht2⟩, hb2, hR2⟩⟩
              · exact ⟨_, _, rfl, okR_bl n, But.refl _ _, hR1⟩
          · refine ⟨_, rfl, _, _, rfl, rfl, _, rfl, ite2 (fun e3 => ?_) fun e3 => ?_⟩
            · exact ⟨_, rfl, _, rfl, d, n, rfl, hR1, h1, h2, fun t H2 ht ht2 hb2 hR2 => ⟨t, _, rfl, ⟨ht, ht2⟩, hb2, hR2⟩⟩
            · exact ⟨_, _, rfl, okR_bl n, But.refl _ _, hR1⟩
        · rintro σ' H2 ⟨t, y7', rfl, ht, hb2, hR2⟩
          have hl2 := hb2 l _ hld hl1
          refine ⟨_, rfl, _, rfl, by show 1 ≤ sizeLine; decide, fun l3 nl3 => ?_⟩
          have n3d := fresh hR2 nl3
          refine ⟨_, rfl, _, rfl, _, rfl, _, p.length, rfl, .inl ⟨_, SqL.of (same_new nl3 _ _ hl2), hpl.symm⟩, _, _, rfl, rfl, d, m - p.length, ?_, hR2.same (same_new nl3), by omega, by omega, fun k H4 hk1 hk2 hb4 hR4 => ?_⟩
          · rw [Int.natCast_sub (Nat.le_of_lt hlt)]
            rfl
          have hl4 := hb4 l _ hld (same_new nl3 _ _ hl2)
          refine ⟨l3, (k : Int), _, rfl, rfl, hb4 l3 _ n3d upd_same, by omega, by omega, ?_, fun l5 nl5 => ?_⟩
          · show 1 * ((k : Int).toNat) ≤ sizeLine
            exact big _ (by omega)
          have n5d := fresh hR4 nl5
          refine ⟨l, l5, _, _, rfl, rfl, same_new nl5 _ _ hl4, upd_same, ?_, fun l6 nl6 => ?_⟩
          · rw [flat_oneV, List.length_replicate, hpl]
            exact big _ (by omega)
          have hR5 := hR4.same (same_new nl5 (o := .lst (List.replicate (k : Int).toNat [tx t]).flatten))
          have n6d := fresh hR5 nl6
          have he : pgv p ++ (List.replicate (k : Int).toNat [tx t]).flatten = pgv (p ++ List.replicate k t) := by
            rw [flat_oneV]
            unfold pgv
            rw [List.map_append, List.map_replicate]
            rfl
          refine ⟨l6, p ++ List.replicate k t, _, _, _, _, rfl, ?_, n6d, ?_, ?_, okPg_rep g3 ht, ?_, hR5.same (same_new nl6)⟩
          · rw [upd_same, he]
          · rw [List.length_append, List.length_replicate]
            omega
          · rw [List.length_append, List.length_replicate]
            omega
          · exact ((((g4.trans hb1).trans hb2).trans (But.of (same_new nl3))).trans hb4).trans ((But.of (same_new nl5)).trans (But.of (same_new nl6)))
      · have hlt : ¬ p.length < m := fun h => e (decide_eq_true (by omega))
        exact ⟨l, p, _, _, _, _, rfl, hl, hld, by omega, g2, g3, g4, g5⟩
    · obtain ⟨l, p, y4, y5, y6, y7, rfl, hl, hld, g1, g2, g3, g4, g5⟩ := hP
      refine ⟨_, rfl, l, _, rfl, .inl ⟨SqL.of hl, fun l9 nl9 => ?_⟩⟩
      exact q l9 p _ (by omega) g3 (g4.trans (But.of (same_new nl9))) (g5.same (same_new nl9)) (fresh g5 nl9) upd_same
end
end Kl
set_option Elab.async false
set_option linter.all false
set_option maxRecDepth 100000
set_option maxHeartbeats 4000000
namespace Kl
open PySem PySem.Spec PyProof.Rows L2 Kw
/-! ### the world -/
theorem PagesAt.but {H H' : Hp} {d a : Addr} {Ps : List Pg} (h : PagesAt H a Ps) (r : Rng H d) (b : But d H H') : PagesAt H' a Ps := by
  obtain ⟨a0, ns, i, x, y, z, hd, _⟩ := r
  have off : ∀ {p : Addr} {vs : List V}, H p = some (.tup vs) → p ≠ d := fun h e => by
    rw [e, hd] at h
    cases h
  obtain ⟨as, ha, hp⟩ := h
  exact ⟨as, b _ _ (off ha) ha, paired_imp (fun _ _ h => b _ _ (off h) h) hp⟩
theorem Rng.off {H : Hp} {d l : Addr} (r : Rng H d) (nl : H l = none) : l ≠ d := fun e => by
  obtain ⟨a, ns, i, x, y, z, hd, _⟩ := r
  rw [e, hd] at nl
  cases nl
def Stn (d : Addr) (H : Hp) (v4 : Option V) (σ' : L2.St) (H' : Hp) : Prop := ∃ w h m : Nat, σ' = [some (.ref d), some (.int (w : Int)), some (.int (h : Int)), some (.int (m : Int)), v4, none] ∧ 1 ≤ w ∧ w ≤ 200 ∧ 1 ≤ h ∧ h ≤ 200 ∧ 1 ≤ m ∧ m ≤ 3 ∧ But d H H' ∧ Rng H' d
section
variable {P : Program} {w : World} {K : PySem.W.Frag} {mg : Str → Option Value} {base : Heap}
def sp_world : Sp := fun vs H Q _ => ∃ (d : Addr), vs = [.ref d] ∧ Rng H d ∧
  ∀ (a : Addr) (Ps : List Pg) (wd hg : Nat) H', 1 ≤ wd → wd ≤ 200 → 1 ≤ hg → hg ≤ 200 → Ps ≠ [] → Ps.length ≤ 3 → (∀ p ∈ Ps, p.length = hg ∧ okPg wd p) → But d H H' → Rng H' d → PagesAt H' a Ps → Q (.ref a) H'
theorem ok_world (D : Def K mg "_law_world" s_l_world ["_law_d"]) (fr : Free mg) (Gd : Ok P w K mg base 1 "_law_draw" ["_law_d", "_law_many"] sp_draw) (Gp : Ok P w K mg base 2 "_law_pick" ["_law_d", "_law_row"] sp_pick)
    (Gr : Ok P w K mg base 4 "_law_some_page" ["_law_d", "_law_wide", "_law_high"] sp_some_page) : Ok P w K mg base 5 "_law_world" ["_law_d"] sp_world := by
  refine def_ok D sc_l_world (fun vs H Q E h => ?_) fun f cdv A outer s H vs Q E hr h => ?_
  · obtain ⟨d, rfl, _⟩ := h
    rfl
  · obtain ⟨d, rfl, hR, q⟩ := h
    have dr : ∀ {n : Nat}, True := trivial
    refine ⟨_, pss_cons (ps_set (i := 1) sc_l_world.nd rfl (.inr rfl) (pe_op op_add pe_int (pe_f (Gd.up (show 1 ≤ 4 by decide)) hr (by rfl) (pa_cons (pv 0) (pa_cons pe_int pa_nil)))))
      (pss_cons (ps_set (i := 2) sc_l_world.nd rfl (.inr rfl) (pe_op op_add pe_int (pe_f (Gd.up (show 1 ≤ 4 by decide)) hr (by rfl) (pa_cons (pv 0) (pa_cons pe_int pa_nil)))))
      (pss_cons (ps_set (i := 3) sc_l_world.nd rfl (.inl rfl) (pe_op op_add pe_int (pe_f (Gd.up (show 1 ≤ 4 by decide)) hr (by rfl) (pa_cons (pv 0) (pa_cons pe_int pa_nil)))))
      (pss_cons (ps_set (i := 4) sc_l_world.nd rfl (.inl rfl) (pe_f (Gd.up (show 1 ≤ 4 by decide)) hr (by rfl) (pa_cons (pv 0) (pa_cons pe_int pa_nil))))
      (C8.pss_cut (ps_if (pt_cmpR op_in_seq (pv 4) (pe_tup (pa_cons pe_int (pa_cons pe_int (pa_cons pe_int pa_nil)))) rfl) (pss_one (ps_set (i := 3) sc_l_world.nd rfl (.inl rfl) pe_int)) pss_nil)
      (C8.pss_cut (ps_if (pt_cmpR op_eq (pv 4) pe_int (nomark _)) (pss_cons (ps_set (i := 1) sc_l_world.nd rfl (.inr rfl) (pe_op op_add pe_int (pe_f (Gd.up (show 1 ≤ 4 by decide)) hr (by rfl) (pa_cons (pv 0) (pa_cons pe_int pa_nil)))))
          (pss_one (ps_set (i := 2) sc_l_world.nd rfl (.inr rfl) (pe_op op_add pe_int (pe_f (Gd.up (show 1 ≤ 4 by decide)) hr (by rfl) (pa_cons (pv 0) (pa_cons pe_int pa_nil))))))) pss_nil)
      (C8.pss_cut (ps_if (pt_cmpR op_eq (pv 4) pe_int (nomark _)) (pss_cons (ps_set (i := 1) sc_l_world.nd rfl (.inr rfl) pe_int)
          (pss_one (ps_set (i := 2) sc_l_world.nd rfl (.inr rfl) (pe_op op_add pe_int (pe_f (Gd.up (show 1 ≤ 4 by decide)) hr (by rfl) (pa_cons (pv 0) (pa_cons pe_int pa_nil))))))) pss_nil)
      (C8.pss_cut (ps_if (pt_cmpR op_eq (pv 4) pe_int (nomark _)) (pss_cons (ps_set (i := 1) sc_l_world.nd rfl (.inr rfl) pe_int)
          (pss_one (ps_set (i := 2) sc_l_world.nd rfl (.inr rfl) pe_int))) pss_nil)
      (C8.pss_cut (ps_if (pt_cmpR op_in_seq (pv 4) (pe_tup (pa_cons pe_int (pa_cons pe_int (pa_cons pe_int (pa_cons pe_int (pa_cons pe_int (pa_cons pe_int pa_nil))))))) rfl) (pss_cons (ps_set (i := 3) sc_l_world.nd rfl (.inl rfl) pe_int)
          (pss_one (ps_asg (pe_f (Gp.up (show 2 ≤ 4 by decide)) hr (by rfl) (pa_cons (pv 0) (pa_cons (pe_lst (pa_cons (pe_tup (pa_cons pe_int (pa_cons pe_int pa_nil))) (pa_cons (pe_tup (pa_cons pe_int (pa_cons pe_int pa_nil))) (pa_cons (pe_tup (pa_cons pe_int (pa_cons pe_int pa_nil)))
              (pa_cons (pe_tup (pa_cons pe_int (pa_cons pe_int pa_nil))) (pa_cons (pe_tup (pa_cons pe_int (pa_cons pe_int pa_nil))) (pa_cons (pe_tup (pa_cons pe_int (pa_cons pe_int pa_nil))) (pa_cons (pe_tup (pa_cons pe_int (pa_cons pe_int pa_nil))) (pa_cons (pe_tup (pa_cons pe_int (pa_cons pe_int pa_nil))) pa_nil))))))))) pa_nil)))
            (pg_tup (by rfl) (pgs_cons (pg_name (i := 1) sc_l_world.nd rfl (.inr rfl)) (pgs_cons (pg_name (i := 2) sc_l_world.nd rfl (.inr rfl)) pgs_nil)))))) pss_nil)
      (pss_one (ps_ret (pe_callTy call_tuple_of (by rfl) fr.tuple (by decide +kernel) (pa_cons
        (pe_lc (own := [("_law_k", 5)]) (g := gName 5) (tt := tYes) (by rfl) sc_l_world.nd (pi_range1 rfl fr.range (pa_cons (pv 3) pa_nil)) (blkOk_by (own := [("_law_k", 5)]) (N := n_l_world) (sc := defScope s_l_world) (by decide +kernel))
          (fun _ _ _ _ _ => pg_name (i := 5) sc_l_world.nd rfl (.inl rfl)) (fun _ _ _ _ _ => pts_nil) (fun _ _ _ _ _ => pe_f Gr hr (by rfl) (pa_cons (pv 0) (pa_cons (pv 1) (pa_cons (pv 2) pa_nil))))) pa_nil)))))))))))), ?_⟩
    refine ⟨_, rfl, d, 12, rfl, hR, by omega, by omega, fun v1 H1 hv1 hb1 hR1 => ⟨_, _, rfl, rfl, ?_⟩⟩
    refine ⟨_, rfl, d, 6, rfl, hR1, by omega, by omega, fun v2 H2 hv2 hb2 hR2 => ⟨_, _, rfl, rfl, ?_⟩⟩
    refine ⟨_, rfl, d, 3, rfl, hR2, by omega, by omega, fun v3 H3 hv3 hb3 hR3 => ⟨_, _, rfl, rfl, ?_⟩⟩
    refine ⟨_, rfl, d, 48, rfl, hR3, by omega, by omega, fun k H4 hk hb4 hR4 => ?_⟩
    have hB := ((hb1.trans hb2).trans hb3).trans hb4
    refine ⟨Stn d H (some (.int (k : Int))), ?_, ?_⟩
    · refine ⟨_, rfl, by show 3 ≤ sizeLine; decide, fun l nl => ⟨l, _, rfl, .inr (SqT.of upd_same), rfl, rfl, ?_⟩⟩
      have bb := hB.trans (But.of (same_new nl (o := .tup [.int 17, .int 23, .int 29])))
      have rr := hR4.same (same_new nl (o := .tup [.int 17, .int 23, .int 29]))
      refine ⟨_, rfl, ite2 (fun e => ?_) fun e => ?_⟩
      · exact ⟨1 + v1, 1 + v2, 1, by simp only [Int.natCast_add]; rfl, by omega, by omega, by omega, by omega, by omega, by omega, bb, rr⟩
      · exact ⟨1 + v1, 1 + v2, 1 + v3, by simp only [Int.natCast_add]; rfl, by omega, by omega, by omega, by omega, by omega, by omega, bb, rr⟩
    rintro σ' H5 ⟨w5, h5, m5, rfl, a1, a2, a3, a4, a5, a6, hb5, hR5⟩
    refine ⟨Stn d H (some (.int (k : Int))), ?_, ?_⟩
    · refine ⟨_, rfl, rfl, _, rfl, ite2 (fun e => ?_) fun e => ?_⟩
      · refine ⟨_, rfl, d, 48, rfl, hR5, by omega, by omega, fun v1 H1 hv1 hb1 hR1 => ⟨_, _, rfl, rfl, ?_⟩⟩
        refine ⟨_, rfl, d, 12, rfl, hR1, by omega, by omega, fun v2 H2 hv2 hb2 hR2 => ⟨_, _, rfl, rfl, ?_⟩⟩
        exact ⟨13 + v1, 2 + v2, m5, by simp only [Int.natCast_add]; rfl, by omega, by omega, by omega, by omega, by omega, by omega, (hb5.trans hb1).trans hb2, hR2⟩
      · exact ⟨w5, h5, m5, rfl, a1, a2, a3, a4, a5, a6, hb5, hR5⟩
    rintro σ' H6 ⟨w6, h6, m6, rfl, b1, b2, b3, b4, b5, b6, hb6, hR6⟩
    refine ⟨Stn d H (some (.int (k : Int))), ?_, ?_⟩
    · refine ⟨_, rfl, rfl, _, rfl, ite2 (fun e => ?_) fun e => ?_⟩
      · refine ⟨_, rfl, d, 2, rfl, hR6, by omega, by omega, fun v2 H2 hv2 hb2 hR2 => ⟨_, _, rfl, rfl, ?_⟩⟩
        exact ⟨200, 1 + v2, m6, by simp only [Int.natCast_add]; rfl, by omega, by omega, by omega, by omega, by omega, by omega, hb6.trans hb2, hR2⟩
      · exact ⟨w6, h6, m6, rfl, b1, b2, b3, b4, b5, b6, hb6, hR6⟩
    rintro σ' H7 ⟨w7, h7, m7, rfl, c1, c2, c3, c4, c5, c6, hb7, hR7⟩
    refine ⟨Stn d H (some (.int (k : Int))), ?_, ?_⟩
    · refine ⟨_, rfl, rfl, _, rfl, ite2 (fun e => ?_) fun e => ?_⟩
      · exact ⟨1, 200, m7, rfl, by omega, by omega, by omega, by omega, by omega, by omega, hb7, hR7⟩
      · exact ⟨w7, h7, m7, rfl, c1, c2, c3, c4, c5, c6, hb7, hR7⟩
    rintro σ' H8 ⟨w8, h8, m8, rfl, d1, d2, d3, d4, d5, d6, hb8, hR8⟩
    refine ⟨Stn d H (some (.int (k : Int))), ?_, ?_⟩
    · refine ⟨_, rfl, by show 6 ≤ sizeLine; decide, fun l nl => ⟨l, _, rfl, .inr (SqT.of upd_same), rfl, rfl, ?_⟩⟩
      have bb := hb8.trans (But.of (same_new nl (o := .tup [.int 7, .int 11, .int 13, .int 19, .int 31, .int 37])))
      have rr := hR8.same (same_new nl (o := .tup [.int 7, .int 11, .int 13, .int 19, .int 31, .int 37]))
      refine ⟨_, rfl, ite2 (fun e => ?_) fun e => ?_⟩
      · refine ⟨_, rfl, by show 2 ≤ sizeLine; decide, fun l1 n1 => ⟨by show 2 ≤ sizeLine; decide, fun l2 n2 => ⟨by show 2 ≤ sizeLine; decide, fun l3 n3 => ⟨by show 2 ≤ sizeLine; decide, fun l4 n4 => ⟨by show 2 ≤ sizeLine; decide, fun l5 n5 => ⟨by show 2 ≤ sizeLine; decide, fun l6 n6 => ⟨by show 2 ≤ sizeLine; decide, fun l7 n7 => ⟨by show 2 ≤ sizeLine; decide, fun l8 n8 => ⟨by show 8 ≤ sizeLine; decide, fun l9 n9 => ?_⟩⟩⟩⟩⟩⟩⟩⟩⟩
        have s1 := same_new n1 (o := .tup [.int 1, .int 1])
        have s2 := same_new n2 (o := .tup [.int 2, .int 1])
        have s3 := same_new n3 (o := .tup [.int 1, .int 2])
        have s4 := same_new n4 (o := .tup [.int 3, .int 1])
        have s5 := same_new n5 (o := .tup [.int 1, .int 3])
        have s6 := same_new n6 (o := .tup [.int 2, .int 2])
        have s7 := same_new n7 (o := .tup [.int 4, .int 1])
        have s8 := same_new n8 (o := .tup [.int 1, .int 4])
        have s9 := same_new n9 (o := .lst [.ref l1, .ref l2, .ref l3, .ref l4, .ref l5, .ref l6, .ref l7, .ref l8])
        have rr8 := ((((((((rr.same s1).same s2).same s3).same s4).same s5).same s6).same s7).same s8)
        have rr9 := rr8.same s9
        have bb9 := (bb.trans (But.of ((((((((s1.trans s2).trans s3).trans s4).trans s5).trans s6).trans s7).trans s8).trans s9)))
        refine ⟨d, .ref l9, rfl, rr9, .inr ⟨l9, _, _, rfl, rr8.off n9, upd_same, .inl rfl, by show 1 ≤ 8; omega, by show 8 ≤ 1000; omega, fun v H9 hv hb9 hR9 => ?_⟩⟩
        have fin : ∀ (p : Addr) (x y : Nat), v = .ref p → H9 p = some (.tup [.int (x : Int), .int (y : Int)]) → 1 ≤ x → x ≤ 200 → 1 ≤ y → y ≤ 200 → gTup (cxOf CX0 P w K mg base n_l_world "_law_world" (defScope s_l_world) f cdv A outer s H E).nox.K 2 (gCons (gName 1) (gCons (gName 2) gNil)) v
            [some (.ref d), some (.int (w8 : Int)), some (.int (h8 : Int)), some (.int 1), some (.int (k : Int)), none] H9 (fun σ' H' => Stn d H (some (.int (k : Int))) σ' H') := fun p x y e hp x1 x2 y1 y2 =>
          ⟨p, _, e, SqT.of hp, rfl, _, _, rfl, _, _, rfl, rfl, x, y, 1, rfl, x1, x2, y1, y2, by omega, by omega, bb9.trans hb9, hR9⟩
        have off : ∀ {p : Addr} {vs : List V}, upd (upd (upd (upd (upd (upd (upd (upd (upd (upd H8 l (.tup [.int 7, .int 11, .int 13, .int 19, .int 31, .int 37])) l1 (.tup [.int 1, .int 1])) l2 (.tup [.int 2, .int 1])) l3 (.tup [.int 1, .int 2])) l4 (.tup [.int 3, .int 1])) l5 (.tup [.int 1, .int 3])) l6 (.tup [.int 2, .int 2])) l7 (.tup [.int 4, .int 1])) l8 (.tup [.int 1, .int 4])) l9 (.lst [.ref l1, .ref l2, .ref l3, .ref l4, .ref l5, .ref l6, .ref l7, .ref l8]) p = some (.tup vs) → H9 p = some (.tup vs) := fun {p vs} h => by
          refine hb9 _ _ (fun e => ?_) h
          obtain ⟨a0, ns, i, x, y, z, hd, _⟩ := rr9
          rw [e, hd] at h
          cases h
        rcases List.mem_cons.mp hv with e1 | hv
        · exact fin l1 1 1 e1 (off (s9 _ _ (s8 _ _ (s7 _ _ (s6 _ _ (s5 _ _ (s4 _ _ (s3 _ _ (s2 _ _ upd_same))))))))) (by decide) (by decide) (by decide) (by decide)
        rcases List.mem_cons.mp hv with e2 | hv
        · exact fin l2 2 1 e2 (off (s9 _ _ (s8 _ _ (s7 _ _ (s6 _ _ (s5 _ _ (s4 _ _ (s3 _ _ upd_same)))))))) (by decide) (by decide) (by decide) (by decide)
        rcases List.mem_cons.mp hv with e3 | hv
        · exact fin l3 1 2 e3 (off (s9 _ _ (s8 _ _ (s7 _ _ (s6 _ _ (s5 _ _ (s4 _ _ upd_same))))))) (by decide) (by decide) (by decide) (by decide)
        rcases List.mem_cons.mp hv with e4 | hv
        · exact fin l4 3 1 e4 (off (s9 _ _ (s8 _ _ (s7 _ _ (s6 _ _ (s5 _ _ upd_same)))))) (by decide) (by decide) (by decide) (by decide)
        rcases List.mem_cons.mp hv with e5 | hv
        · exact fin l5 1 3 e5 (off (s9 _ _ (s8 _ _ (s7 _ _ (s6 _ _ upd_same))))) (by decide) (by decide) (by decide) (by decide)
        rcases List.mem_cons.mp hv with e6 | hv
        · exact fin l6 2 2 e6 (off (s9 _ _ (s8 _ _ (s7 _ _ upd_same)))) (by decide) (by decide) (by decide) (by decide)
        rcases List.mem_cons.mp hv with e7 | hv
        · exact fin l7 4 1 e7 (off (s9 _ _ (s8 _ _ upd_same))) (by decide) (by decide) (by decide) (by decide)
        exact fin l8 1 4 (List.mem_singleton.mp hv) (off (s9 _ _ upd_same)) (by decide) (by decide) (by decide) (by decide)
      · exact ⟨w8, h8, m8, rfl, d1, d2, d3, d4, d5, d6, bb, rr⟩
    rintro σ' H9 ⟨w9, h9, m9, rfl, e1, e2, e3, e4, e5, e6, hb9, hR9⟩
    refine ⟨_, rfl, (m9 : Int), rfl, by omega, by omega, fun D1 new => lc_range (lo := 0) (n := ((m9 : Nat) : Int).toNat) (fun i H' => But d H9 H' ∧ Rng H' d ∧ D1 ≠ d ∧ ∃ (as : List Addr) (Ps : List Pg), H' D1 = some (.lst (as.map V.ref)) ∧ Ps.length = i ∧ (∀ p ∈ Ps, p.length = h9 ∧ okPg w9 p) ∧ Paired (fun x p => H' x = some (.tup (pgv p))) as Ps)
      ⟨But.of (same_new new), hR9.same (same_new new), hR9.off new, [], [], upd_same, rfl, fun _ h => absurd h (List.not_mem_nil), .nil⟩ (fun i H' hi h => ?_) fun H' h => ?_⟩
    · obtain ⟨hb, hr1, hD, as, Ps, hl, hn, hp, hpp⟩ := h
      refine ⟨rfl, _, rfl, _, rfl, _, rfl, d, w9, h9, rfl, hr1, e1, by omega, e3, by omega, fun a p H2 hp1 hp2 hb2 hR2 had ha => ?_⟩
      refine ⟨_, hb2 _ _ hD hl, ?_, ?_⟩
      · rw [List.length_map, hpp.length, hn]
        exact Nat.lt_of_lt_of_le (show i < 1000 by omega) (big _ (by omega))
      have hl2 := hb2 _ _ hD hl
      have nD : ∀ {p : Addr} {vs : List V}, H2 p = some (.tup vs) → upd H2 D1 (.lst (as.map V.ref ++ [.ref a])) p = some (.tup vs) := fun {p vs} h => by
        rw [upd_ne]
        · exact h
        · intro e
          rw [e, hl2] at h
          cases h
      have offd : ∀ {p : Addr} {vs : List V}, H' p = some (.tup vs) → p ≠ d := fun h e => by
        obtain ⟨a0, ns, i, x, y, z, hd, _⟩ := hr1
        rw [e, hd] at h
        cases h
      refine ⟨⟨fun b o n e => ?_, fun c r e => ?_⟩, hR9.upd_off new (hb.trans hb2) hR2, hD, as ++ [a], Ps ++ [p], ?_, ?_, ?_, ?_⟩
      · rw [upd_ne (ne_of_none e new)]
        exact hb2 _ _ n (hb _ _ n e)
      · obtain ⟨r1, g1⟩ := hb.root c r e
        obtain ⟨r2, g2⟩ := hb2.root c r1 g1
        exact ⟨r2, by rw [upd_ne (Ne.symm hD)]; exact g2⟩
      · rw [upd_same, List.map_append]
        rfl
      · rw [List.length_append, hn]
        rfl
      · intro x hx
        rcases List.mem_append.mp hx with hx | hx
        · exact hp x hx
        · rw [List.mem_singleton.mp hx]
          exact ⟨hp1, hp2⟩
      · exact paired_app (paired_imp (fun x p h => nD (hb2 _ _ (offd h) h)) hpp) (.cons (nD ha) .nil)
    · obtain ⟨hb, hr1, hD, as, Ps, hl, hn, hp, hpp⟩ := h
      refine ⟨D1, _, rfl, .inl ⟨SqL.of hl, fun l9 n9 => ?_⟩⟩
      have ss := same_new n9 (o := .tup (as.map V.ref))
      refine q l9 Ps w9 h9 _ e1 e2 e3 e4 ?_ (by omega) hp ((hb9.trans hb).trans (But.of ss)) (hr1.same ss) ⟨as, upd_same, paired_imp (fun _ _ h => ss _ _ h) hpp⟩
      rintro rfl
      simp at hn
      omega
end
end Kl
set_option Elab.async false
set_option linter.all false
set_option maxRecDepth 100000
set_option maxHeartbeats 4000000
namespace Kl
open PySem PySem.Spec PyProof.Rows L2 Kw
/-! ### the law's own command at a place -/
theorem cmd_shape {u : T} {c : Cmd} (h : cmdAt u = some c) : ∃ (ds : T) (x : Nat) (r : T), ds = u.takeWhile isDig ∧ u = ds ++ x :: r ∧ (∀ y ∈ ds, isDig y = true) ∧ isDig x = false ∧ x = c.g ∧
    ((Kw.four x = true ∧ c.cells = [] ∧ c.k = ds.length + 1 ∧ 1 ≤ c.n ∧ c.n < 1000 ∧ ds = (if c.n = 1 then [] else digs c.n)) ∨ (x = 59 ∧ ds = [] ∧ c.n = 1 ∧ c.cells = [] ∧ c.k = 1) ∨
      (x = 34 ∧ ds = [] ∧ c.n = 1 ∧ 0 < (r.takeWhile (· != 34)).length ∧ (r.takeWhile (· != 34)).length < r.length ∧ c.cells = r.takeWhile (· != 34) ∧ c.k = (r.takeWhile (· != 34)).length + 2)) := by
  have hd : ∀ y ∈ u.takeWhile isDig, isDig y = true := fun y hy => tw_mem hy
  have hs := tw_split isDig u
  unfold cmdAt at h
  cases hc : countOf (u.takeWhile isDig) with
  | none =>
    rw [hc] at h
    cases h
  | some n =>
    rw [hc] at h
    cases hr : u.drop (u.takeWhile isDig).length with
    | nil =>
      rw [hr] at h
      cases h
    | cons x r =>
      rw [hr] at h
      rw [hr] at hs
      obtain ⟨n1, n2, n3⟩ := countOf_some hd hc
      refine ⟨u.takeWhile isDig, x, r, rfl, hs, hd, tw_next isDig hr, ?_⟩
      dsimp only at h
      by_cases hf : Kw.four x = true
      · rw [if_pos hf] at h
        cases h
        exact ⟨rfl, .inl ⟨hf, rfl, rfl, n1, n2, n3⟩⟩
      · rw [if_neg hf] at h
        by_cases hl : (u.takeWhile isDig).length > 0
        · rw [if_pos hl] at h
          cases h
        · rw [if_neg hl] at h
          have e0 : u.takeWhile isDig = [] := List.length_eq_zero_iff.mp (by omega)
          by_cases e : x = 59
          · rw [if_pos e] at h
            cases h
            exact ⟨e, .inr (.inl ⟨e, e0, rfl, rfl, rfl⟩)⟩
          · rw [if_neg e] at h
            by_cases e2 : x = 34 ∧ (r.takeWhile (· != 34)).length > 0 ∧ (r.takeWhile (· != 34)).length < r.length
            · rw [if_pos e2] at h
              cases h
              exact ⟨e2.1, .inr (.inr ⟨e2.1, e0, rfl, e2.2.1, e2.2.2, rfl, rfl⟩)⟩
            · rw [if_neg e2] at h
              cases h
theorem digs_ne {n : Nat} : digs n ≠ [] := fun z => by
  have := (digs_len n).2
  rw [z] at this
  simp at this
theorem digs_head {n : Nat} (h : 2 ≤ n) (h2 : n < 1000) : ∃ y r, digs n = y :: r ∧ y ≠ 48 ∧ digs n ≠ [49] := by
  unfold digs
  split
  · exact ⟨_, _, rfl, by omega, fun z => by have := (List.cons.inj z).1; omega⟩
  split
  · exact ⟨_, _, rfl, by omega, fun z => by cases (List.cons.inj z).2⟩
  · exact ⟨_, _, rfl, by omega, fun z => by cases (List.cons.inj z).2⟩
section
variable {P : Program} {w : World} {K : PySem.W.Frag} {mg : Str → Option Value} {base : Heap}
def CmdL (H : Hp) (k0 : Nat) (c : Cmd) (l : Addr) : Prop := H l = some (.lst [tx [c.g], .int (c.n : Int), tx c.cells, .int ((k0 + c.k : Nat) : Int)])
def sp_lcommand : Sp := fun vs H Q _ => ∃ (s : T) (k0 : Nat) (c : Cmd), vs = [tx s, .int (k0 : Int)] ∧ s.length ≤ 1000000 ∧ cmdAt (s.drop k0) = some c ∧ ∀ l H', Same H H' → CmdL H' k0 c l → Q (.ref l) H'
theorem ok_lcommand (D : Def K mg "_law_command_at" s_l_command_at ["_law_commands", "_law_at"]) (fr : Free mg) : Ok P w K mg base 1 "_law_command_at" ["_law_commands", "_law_at"] sp_lcommand := by
  refine def_ok D sc_l_command_at (fun vs H Q E h => ?_) fun f cdv A outer s0 H vs Q E hr h => ?_
  · obtain ⟨s, k0, c, rfl, _⟩ := h
    rfl
  · obtain ⟨s, k0, c, rfl, hz, hc, q⟩ := h
    refine ⟨_, pss_cons (ps_set (i := 2) sc_l_command_at.nd rfl (.inl rfl) (pv 1))
      (pss_cons (ps_while PassesOwn.never (PW.pt (pw_and (pt_cmpR op_lt (pv 2) (pe_callB c_lenT (by rfl) fr.len PySem.boot_len (pa_cons (pv 0) pa_nil)) (nomark _))
          (pw_and1 (pt_cmpR (o_inT d10) (pe_ix ix_txt (pv 0) (pv 2) (fun _ _ => rfl)) pe_str rfl))))
        (pss_one (ps_set (i := 2) sc_l_command_at.nd rfl (.inl rfl) (pe_op op_add (pv 2) pe_int))))
      (pss_cons (ps_set (i := 3) sc_l_command_at.nd rfl (.inl rfl) (pe_slice sl_txt (pv 0) (po_some (pv 1)) (po_some (pv 2))))
      (pss_cons (ps_set (i := 4) sc_l_command_at.nd rfl (.inl rfl) (pe_slice sl_txt (pv 0) (po_some (pv 2)) (po_some (pe_op op_add (pv 2) pe_int))))
      (pss_cons (ps_if (PW.pt (pw_and (pt_cmpR o_eqT (pv 4) pe_str (nomark _)) (pw_and1 (pt_cmpR o_eqT (pv 3) pe_str (nomark _)))))
        (pss_cons (ps_set (i := 5) sc_l_command_at.nd rfl (.inl rfl) (pe_bm PySem.F.plainAttrs_str PySem.F.slot_str_find PySem.F.type_str_find m_findT (pv 0) (pa_cons pe_str (pa_cons (pe_op op_add (pv 2) pe_int) pa_nil))))
        (pss_one (ps_ret (pe_ifExp (pt_cmpR op_gt (pv 5) (pe_op op_add (pv 2) pe_int) (nomark _))
          (pe_lst (pa_cons (pv 4) (pa_cons pe_int (pa_cons (pe_slice sl_txt (pv 0) (po_some (pe_op op_add (pv 2) pe_int)) (po_some (pv 5))) (pa_cons (pe_op op_add (pv 5) pe_int) pa_nil))))) (pe_lst pa_nil))))) pss_nil)
      (pss_cons (ps_if (PW.pt (pw_and (pt_cmpR o_eqT (pv 4) pe_str (nomark _)) (pw_and1 (pt_cmpR o_eqT (pv 3) pe_str (nomark _)))))
        (pss_one (ps_ret (pe_lst (pa_cons (pv 4) (pa_cons pe_int (pa_cons pe_str (pa_cons (pe_op op_add (pv 2) pe_int) pa_nil))))))) pss_nil)
      (pss_cons (ps_if (PW.pt (pw_or (pt_cmpR o_eqT (pv 4) pe_str (nomark _)) (pw_or1 (pt_cmpR (o_notInT [62, 35, 47, 94]) (pv 4) pe_str rfl)))) (pss_one (ps_ret (pe_lst pa_nil))) pss_nil)
      (pss_cons (ps_if (pt_cmpR o_eqT (pv 3) pe_str (nomark _)) (pss_one (ps_ret (pe_lst (pa_cons (pv 4) (pa_cons pe_int (pa_cons pe_str (pa_cons (pe_op op_add (pv 2) pe_int) pa_nil))))))) pss_nil)
      (pss_cons (ps_if (PW.pt (pw_or (pt_cmpR op_gt (pe_callB c_lenT (by rfl) fr.len PySem.boot_len (pa_cons (pv 3) pa_nil)) pe_int (nomark _)) (pw_or (pt_cmpR o_eqT (pe_ix ix_txt (pv 3) pe_int (fun _ _ => rfl)) pe_str (nomark _)) (pw_or1 (pt_cmpR o_eqT (pv 3) pe_str (nomark _)))))) (pss_one (ps_ret (pe_lst pa_nil))) pss_nil)
      (pss_one (ps_ret (pe_lst (pa_cons (pv 4) (pa_cons (pe_callTy c_intT (by rfl) fr.int (by decide +kernel) (pa_cons (pv 3) pa_nil)) (pa_cons pe_str (pa_cons (pe_op op_add (pv 2) pe_int) pa_nil))))))))))))))), ?_⟩
    obtain ⟨ds, x, r, hds, hu, hdd, hxd, hxg, hcs⟩ := cmd_shape hc
    have dlen : (s.drop k0).length = s.length - k0 := List.length_drop
    have hrun := run_twp (s.drop k0) isDig
    rw [← hds] at hrun
    have hul : s.length - k0 = ds.length + 1 + r.length := by
      rw [← dlen, hu, List.length_append, List.length_cons]
      omega
    have hg : s.drop (k0 + ds.length) = x :: r := by
      rw [← List.drop_drop, hu]
      exact List.drop_left
    obtain ⟨g1, g2, g3⟩ := at_drop hg
    refine ⟨_, rfl, ?_⟩
    refine ⟨fun m σ H' => ∃ k : Nat, H' = H ∧ σ = [some (tx s), some (.int (k0 : Int)), some (.int ((k0 + k : Nat) : Int)), none, none, none] ∧ k + m = s.length - k0 ∧ ∀ i, i < k → ∃ x, (s.drop k0)[i]? = some x ∧ isDig x = true,
      ⟨s.length - k0, 0, rfl, rfl, by omega, fun i hi => by omega⟩, ?_⟩
    rintro m σ H' ⟨k, rfl, rfl, hk, hb⟩
    have hkl : k ≤ ds.length := hrun.le (by omega) hb
    have hlt : k0 + k < s.length := by omega
    refine ⟨_, rfl, _, rfl, s, rfl, by omega, _, _, rfl, rfl, _, rfl, ?_⟩
    rw [decide_eq_true (show ((k0 + k : Nat) : Int) < (s.length : Int) by omega)]
    obtain ⟨y, hx⟩ : ∃ x, s[k0 + k]? = some x := ⟨_, List.getElem?_eq_getElem hlt⟩
    refine iteT ⟨_, rfl, _, rfl, s, _, y, rfl, rfl, by omega, txt_atI hx rfl, y, rfl, lit_d10, _, rfl, ?_⟩
    rw [dig_in]
    cases hdx : isDig y with
    | true =>
      refine iteT ⟨fun σ' H'' => H'' = H' ∧ σ' = [some (tx s), some (.int (k0 : Int)), some (.int ((k0 + (k + 1) : Nat) : Int)), none, none, none], ?_, ?_⟩
      · rintro σ' H'' ⟨rfl, rfl⟩
        refine ⟨m - 1, by omega, k + 1, rfl, rfl, by omega, fun i hi => ?_⟩
        by_cases e : i = k
        · rw [e, List.getElem?_drop]
          exact ⟨y, hx, hdx⟩
        · exact hb i (by omega)
      · exact ⟨_, rfl, _, _, rfl, rfl, rfl, rfl⟩
    | false =>
      have ek : ds.length = k := by
        refine run_eq hrun ⟨by omega, hb, fun _ hc => ?_⟩
        obtain ⟨y', h1, h2⟩ := hc
        rw [List.getElem?_drop, hx] at h1
        rw [← Option.some.inj h1, hdx] at h2
        cases h2
      refine iteF ?_
      subst ek
      have ecut : (s.drop k0).take (k0 + ds.length - k0) = ds := by
        rw [Nat.add_sub_cancel_left]
        conv => lhs; rw [hu]
        exact List.take_left
      have esig : (s.drop (k0 + ds.length)).take (k0 + ds.length + 1 - (k0 + ds.length)) = [x] := by
        rw [hg, Nat.add_sub_cancel_left]
        rfl
      refine ⟨_, rfl, _, rfl, (k0 : Int), rfl, _, rfl, ((k0 + ds.length : Nat) : Int), rfl, s, rfl, by omega, .inl ⟨k0, k0 + ds.length, rfl, rfl, by omega, by omega, ?_⟩⟩
      rw [ecut]
      refine ⟨_, rfl, _, rfl, ((k0 + ds.length : Nat) : Int), rfl, _, rfl, _, _, rfl, rfl, (((k0 + ds.length + 1 : Nat)) : Int), rfl, s, rfl, by omega, .inl ⟨k0 + ds.length, k0 + ds.length + 1, rfl, rfl, by omega, by omega, ?_⟩⟩
      rw [esig]
      refine ⟨_, rfl, [x], [34], rfl, lit_quo, _, rfl, ?_⟩
      rcases hcs with ⟨f1, f2, f3, f4, f5, f6⟩ | ⟨f1, f2, f3, f4, f5⟩ | ⟨f1, f2, f3, f4, f5, f6, f7⟩
      · have x34 : x ≠ 34 := fun z => by rw [z] at f1; cases f1
        have x59 : x ≠ 59 := fun z => by rw [z] at f1; cases f1
        rw [decide_eq_false (fun z => x34 (List.cons.inj z).1)]
        refine iteF (iteF ?_)
        refine ⟨_, rfl, [x], [59], rfl, lit_semi, _, rfl, ?_⟩
        rw [decide_eq_false (fun z => x59 (List.cons.inj z).1)]
        refine iteF (iteF ?_)
        refine ⟨_, rfl, [x], [], rfl, lit_e, _, rfl, iteF ?_⟩
        refine ⟨_, rfl, x, rfl, lit_four, _, rfl, ?_⟩
        rw [four_in, f1]
        refine iteF ?_
        refine ⟨_, rfl, ds, [], rfl, lit_e, _, rfl, ?_⟩
        by_cases hn : c.n = 1
        · rw [if_pos hn] at f6
          rw [decide_eq_true f6]
          refine iteT ⟨_, rfl, _, rfl, _, _, rfl, rfl, by show 4 ≤ sizeLine; decide, fun l nl => q l _ (same_new nl) ?_⟩
          unfold CmdL
          rw [upd_same, hn, f2, f3, ← hxg, f6, lit_e]
          rfl
        · rw [if_neg hn] at f6
          rw [decide_eq_false (fun z => digs_ne (f6.symm.trans z))]
          obtain ⟨y0, r0, d1, d2, d3⟩ := digs_head (n := c.n) (by omega) f5
          have d4 := (digs_len c.n).1
          rw [← f6] at d1 d3 d4
          refine iteF ⟨_, rfl, ds, rfl, by omega, _, _, rfl, rfl, _, rfl, ?_⟩
          rw [decide_eq_false (show ¬ (3 : Int) < (ds.length : Int) by omega)]
          refine iteF ⟨_, rfl, ds, _, y0, rfl, rfl, by omega, txt_atI (i := 0) (by rw [d1]; rfl) rfl, [y0], [48], rfl, lit_0, _, rfl, ?_⟩
          rw [decide_eq_false (fun z => d2 (List.cons.inj z).1)]
          refine iteF ⟨_, rfl, ds, [49], rfl, lit_1, _, rfl, ?_⟩
          rw [decide_eq_false d3]
          refine iteF ?_
          refine ⟨_, rfl, _, rfl, c.n, congrArg (fun t => [tx t]) f6, f5, _, rfl, _, _, rfl, rfl, by show 4 ≤ sizeLine; decide, fun l nl => q l _ (same_new nl) ?_⟩
          unfold CmdL
          rw [upd_same, f2, f3, ← hxg, lit_e]
          rfl
      · rw [decide_eq_false (fun z => by have := (List.cons.inj z).1; omega)]
        refine iteF (iteF ?_)
        refine ⟨_, rfl, [x], [59], rfl, lit_semi, _, rfl, ?_⟩
        rw [f1, decide_eq_true rfl]
        refine iteT ⟨_, rfl, ds, [], rfl, lit_e, _, rfl, ?_⟩
        rw [f2, decide_eq_true rfl]
        refine iteT ⟨_, rfl, _, rfl, _, _, rfl, rfl, by show 4 ≤ sizeLine; decide, fun l nl => q l _ (same_new nl) ?_⟩
        unfold CmdL
        rw [upd_same, f3, f4, f5, ← hxg, f1, lit_e]
        rfl
      · rw [f1, decide_eq_true rfl]
        refine iteT ⟨_, rfl, ds, [], rfl, lit_e, _, rfl, ?_⟩
        rw [decide_eq_true f2]
        have e0 : ds.length = 0 := by rw [f2]; rfl
        rw [e0, Nat.add_zero] at g3 g2
        refine iteT ⟨_, rfl, rfl, _, rfl, _, _, rfl, rfl, s, 34, k0 + 1, rfl, ?_, by omega, ?_⟩
        · rw [lit_quo, e0]
          rfl
        rw [g3, if_pos f5]
        generalize hq : r.takeWhile (· != 34) = qs at f4 f5 f6 f7 ⊢
        have hqs : r.take qs.length = qs := by
          have z := tw_split (· != 34) r
          rw [hq] at z
          conv => lhs; rw [z]
          exact List.take_left
        refine ⟨_, rfl, _, rfl, _, _, rfl, rfl, _, _, rfl, rfl, _, rfl, ?_⟩
        rw [decide_eq_true (show ((k0 + ds.length : Nat) : Int) + 1 < ((k0 + 1 + qs.length : Nat) : Int) by omega)]
        refine iteT ⟨_, rfl, _, rfl, _, rfl, _, _, rfl, rfl, _, rfl, _, rfl, _, rfl, s, rfl, by omega, .inl ⟨k0 + 1, k0 + 1 + qs.length, congrArg some (by omega), rfl, by omega, by omega, ?_⟩⟩
        refine ⟨_, rfl, _, _, rfl, rfl, by show 4 ≤ sizeLine; decide, fun l nl => q l _ (same_new nl) ?_⟩
        unfold CmdL
        rw [upd_same, g3, Nat.add_sub_cancel_left, hqs, f3, f6, f7, ← hxg, f1]
        have ez : V.int (((k0 + 1 + qs.length : Nat) : Int) + 1) = V.int ((k0 + (qs.length + 2) : Nat) : Int) := congrArg V.int (by omega)
        exact congrArg (fun z => some (HO.lst [tx [34], V.int 1, tx qs, z])) ez
end
end Kl
set_option Elab.async false
set_option linter.all false
set_option maxRecDepth 100000
set_option maxHeartbeats 4000000
namespace Kl
open PySem PySem.Spec PyProof.Rows L2 Kw
/-- over the signs of a text -/
theorem for_S {t : T} {g : TG} {tb : TS} {D : Ends} {σ : L2.St} {H : Hp} (Pv : Nat → L2.St → Hp → Prop) (h0 : Pv 0 σ H)
    (hs : ∀ i c σ H, t[i]? = some c → Pv i σ H → g (tx [c]) σ H fun σ2 H2 => tb { D with nx := Pv (i + 1), ct := Pv (i + 1), bk := D.nx } σ2 H2) (hd : ∀ σ H, Pv t.length σ H → D.nx σ H) :
    ∃ W : Nat → Nat → L2.St → Hp → Prop, (∃ m, W 0 m σ H) ∧ ∀ i m σ H, W i m σ H →
      ((Its (S t)).stop i H ∧ D.nx σ H) ∨ ((Its (S t)).go i H ∧ ∃ N : L2.St → Hp → Prop, (∀ σ' H', N σ' H' → ∃ m', m' < m ∧ W (i + 1) m' σ' H') ∧ ∀ x H', (Its (S t)).yld i H x H' → g x σ H' fun σ2 H2 => tb { D with nx := N, ct := N, bk := D.nx } σ2 H2) := by
  refine ⟨fun i m σ H => m = t.length - i ∧ i ≤ t.length ∧ Pv i σ H, ⟨t.length, by simp, Nat.zero_le _, h0⟩, ?_⟩
  rintro i m σ H ⟨rfl, hi, p⟩
  by_cases h : i = t.length
  · subst h
    exact .inl ⟨by show (S t).cps.size ≤ _; exact Nat.le_refl _, hd _ _ p⟩
  · refine .inr ⟨by show i < (S t).cps.size; exact Nat.lt_of_le_of_ne hi h, Pv (i + 1), fun σ' H' p' => ⟨t.length - (i + 1), by omega, rfl, by omega, p'⟩, ?_⟩
    rintro x H' ⟨rfl, c, hc, rfl⟩
    refine hs i c σ _ ?_ p
    have : (S t).cps[i]? = t[i]? := by
      show t.toArray[i]? = t[i]?
      simp
    rw [← this]
    exact hc
def cellsV (t : T) : List V := t.map fun c => tx [c]
theorem cellsV_get {t : T} {i : Nat} (h : i < t.length) : (cellsV t)[i]? = some (tx [t[i]]) := by
  unfold cellsV
  rw [List.getElem?_map, List.getElem?_eq_getElem h]
  rfl
theorem cellsV_len (t : T) : (cellsV t).length = t.length := List.length_map ..
theorem cellsV_set (t : T) (i c : Nat) : (cellsV t).set i (tx [c]) = cellsV (t.set i c) := by
  unfold cellsV
  rw [List.map_set]
/-- the law's page in memory -/
structure Grd (H : Hp) (p g : Addr) (rs : List Addr) (wd hg : Nat) (st : Sta) : Prop where
  hp : H p = some (.lst [.int (wd : Int), .int (hg : Int), .ref g, .int (st.rows.length : Int), .int (st.line.length : Int)])
  hgr : H g = some (.lst (rs.map V.ref))
  hr : Paired (fun x t => H x = some (.lst (cellsV t))) rs (endPg wd hg st)
  nd : (p :: g :: rs).Nodup
/-- what stands -/
def Kp (F F' : List Addr) (H H' : Hp) : Prop := (∀ b o, b ∉ F → H b = some o → H' b = some o) ∧ ∀ b, b ∈ F' → b ∈ F ∨ H b = none
theorem Kp.refl (F : List Addr) (H : Hp) : Kp F F H H := ⟨fun _ _ _ h => h, fun _ h => .inl h⟩
theorem Kp.trans {F F1 F2 : List Addr} {H H1 H2 : Hp} (a : Kp F F1 H H1) (b : Kp F1 F2 H1 H2) : Kp F F2 H H2 := by
  refine ⟨fun x o n h => b.1 x o (fun hx => ?_) (a.1 x o n h), fun x hx => ?_⟩
  · rcases a.2 x hx with z | z
    · exact n z
    · rw [z] at h
      cases h
  · rcases b.2 x hx with z | z
    · exact a.2 x z
    · cases hh : H x with
      | none => exact .inr rfl
      | some o =>
        refine .inl (Classical.byContradiction fun n => ?_)
        rw [a.1 x o n hh] at z
        cases z
theorem Kp.upd {F : List Addr} {H : Hp} {p : Addr} {o : HO} (h : p ∈ F) : Kp F F H (upd H p o) := ⟨fun b x n e => by
  rw [upd_ne (fun z => n (by rw [z]; exact h))]
  exact e, fun _ h => .inl h⟩
theorem paired_set {α β : Type} {F : α → β → Prop} {x : α} {y : β} (r : F x y) : ∀ {a : List α} {c : List β} (i : Nat), Paired F a c → Paired F (a.set i x) (c.set i y)
  | _, _, _, .nil => .nil
  | _, _, 0, .cons _ t => .cons r t
  | _, _, i + 1, .cons q t => .cons q (paired_set r i t)
theorem paired_mem {α β : Type} {F G : α → β → Prop} : ∀ {a : List α} {c : List β}, Paired F a c → (∀ x y, x ∈ a → F x y → G x y) → Paired G a c
  | _, _, .nil, _ => .nil
  | _, _, .cons q t, h => .cons (h _ _ List.mem_cons_self q) (paired_mem t fun x y hx => h x y (List.mem_cons_of_mem _ hx))
theorem paired_at {α β : Type} {F G : α → β → Prop} {x : α} {y : β} (r : G x y) : ∀ {a : List α} {c : List β} (i : Nat), a.Nodup → a[i]? = some x → Paired F a c → (∀ z t, z ∈ a → z ≠ x → F z t → G z t) → Paired G a (c.set i y)
  | _, _, _, _, h, .nil, _ => by simp at h
  | _, _, 0, nd, h, .cons q t, k => by
    have e := Option.some.inj h
    subst e
    rw [List.nodup_cons] at nd
    exact .cons r (paired_mem t fun z u hz f => k z u (List.mem_cons_of_mem _ hz) (fun e => nd.1 (e ▸ hz)) f)
  | _, _, i + 1, nd, h, .cons q t, k => by
    rw [List.nodup_cons] at nd
    refine .cons (k _ _ List.mem_cons_self (fun e => nd.1 ?_) q) (paired_at r i nd.2 h t fun z u hz => k z u (List.mem_cons_of_mem _ hz))
    rw [e]
    exact List.mem_of_getElem? h
theorem nodup_set {l : Addr} : ∀ {rs : List Addr} (i : Nat), rs.Nodup → l ∉ rs → (rs.set i l).Nodup
  | [], _, h, _ => h
  | x :: r, 0, h, n => by
    rw [List.nodup_cons] at h
    exact List.nodup_cons.mpr ⟨fun z => n (List.mem_cons_of_mem _ z), h.2⟩
  | x :: r, i + 1, h, n => by
    rw [List.nodup_cons] at h
    refine List.nodup_cons.mpr ⟨fun z => ?_, nodup_set i h.2 fun z => n (List.mem_cons_of_mem _ z)⟩
    rcases List.mem_or_eq_of_mem_set z with m | e
    · exact h.1 m
    · exact n (by rw [e]; exact List.mem_cons_self)
theorem ref_set (rs : List Addr) (i : Nat) (l : Addr) : (rs.map V.ref).set i (.ref l) = (rs.set i l).map V.ref := by rw [List.map_set]
section
variable {P : Program} {w : World} {K : PySem.W.Frag} {mg : Str → Option Value} {base : Heap}
def sp_once : Sp := fun vs H Q _ => ∃ (p g : Addr) (rs : List Addr) (wd hg sg c : Nat) (st st' : Sta), vs = [.ref p, tx [sg], tx [c]] ∧ Grd H p g rs wd hg st ∧ Fit wd hg st ∧ Stp wd hg sg st c st' ∧ wd ≤ 250 ∧ hg ≤ 250 ∧
  ∀ rs' H', Grd H' p g rs' wd hg st' → Kp (p :: g :: rs) (p :: g :: rs') H H' → Q (.bl true) H'
theorem ok_once (D : Def K mg "_law_once" s_l_once ["_law_page", "_law_sign", "_law_cell"]) (fr : Free mg) : Ok P w K mg base 1 "_law_once" ["_law_page", "_law_sign", "_law_cell"] sp_once := by
  refine def_ok D sc_l_once (fun vs H Q E h => ?_) fun f cdv A outer s0 H vs Q E hr h => ?_
  · obtain ⟨p, g, rs, wd, hg, sg, c, st, st', rfl, _⟩ := h
    rfl
  · obtain ⟨p, g, rs, wd, hg, sg, c, st, st', rfl, G, hF, hs, w2, h2, q⟩ := h
    refine ⟨_, pss_cons (ps_asg (pv 0) (pg_unl (by rfl) (pgs_cons (pg_name (i := 3) sc_l_once.nd rfl (.inl rfl)) (pgs_cons (pg_name (i := 4) sc_l_once.nd rfl (.inl rfl)) (pgs_cons (pg_name (i := 5) sc_l_once.nd rfl (.inl rfl)) (pgs_cons (pg_name (i := 6) sc_l_once.nd rfl (.inl rfl)) (pgs_cons (pg_name (i := 7) sc_l_once.nd rfl (.inl rfl)) pgs_nil)))))))
      (pss_cons (ps_if (pt_cmpR op_eq (pv 6) (pv 4) (nomark _)) (pss_one (ps_ret pe_bl)) pss_nil)
      (pss_cons (ps_if (pt_cmpR o_eqT (pv 1) pe_str (nomark _)) (pss_cons (ps_asg (pe_op op_add (pv 6) pe_int) (pg_sub (pv 0) pe_int set_list)) (pss_cons (ps_asg pe_int (pg_sub (pv 0) pe_int set_list)) (pss_one (ps_ret pe_bl)))) pss_nil)
      (pss_cons (ps_if (pt_cmpR o_eqT (pv 1) pe_str (nomark _))
        (pss_cons (ps_if (PW.pt (pw_or (pt_cmpR op_eq (pv 6) pe_int (nomark _)) (pw_or1 (pt_cmpR op_gt (pv 7) pe_int (nomark _))))) (pss_one (ps_ret pe_bl)) pss_nil)
        (pss_cons (ps_asg (pe_callTy call_list_of (by rfl) fr.list (by decide +kernel) (pa_cons (pe_ix ix_list (pv 5) (pe_op op_sub (pv 6) pe_int) (fun _ _ => rfl)) pa_nil)) (pg_sub (pv 5) (pv 6) set_list))
        (pss_cons (ps_asg (pe_op op_add (pv 6) pe_int) (pg_sub (pv 0) pe_int set_list)) (pss_one (ps_ret pe_bl))))) pss_nil)
      (pss_cons (ps_if (pt_cmpR op_eq (pv 7) (pv 3) (nomark _)) (pss_one (ps_ret pe_bl)) pss_nil)
      (pss_cons (ps_set (i := 8) sc_l_once.nd rfl (.inl rfl) (pe_ix ix_list (pv 5) (pv 6) (fun _ _ => rfl)))
      (pss_cons (ps_asg (pv 2) (pg_sub (pv 8) (pv 7) set_list))
      (pss_cons (ps_asg (pe_op op_add (pv 7) pe_int) (pg_sub (pv 0) pe_int set_list))
      (pss_one (ps_ret pe_bl))))))))), ?_⟩
    obtain ⟨hp, hgr, hpr, nd⟩ := G
    obtain ⟨f1, f2, f3⟩ := hF
    obtain ⟨hlt, hcase⟩ := hs
    have elen : (endPg wd hg st).length = hg := end_len f2
    have rlen : rs.length = hg := by rw [hpr.length, elen]
    have nd2 := nd
    rw [List.nodup_cons, List.nodup_cons] at nd2
    obtain ⟨npg, ngr, ndr⟩ := nd2
    have pg : p ≠ g := fun e => npg (e ▸ List.mem_cons_self)
    have pr : ∀ x, x ∈ rs → x ≠ p := fun x hx e => npg (e ▸ List.mem_cons_of_mem _ hx)
    have gr : ∀ x, x ∈ rs → x ≠ g := fun x hx e => ngr (e ▸ hx)
    refine ⟨_, rfl, p, _, rfl, SqL.of hp, rfl, _, _, rfl, _, _, rfl, _, _, rfl, _, _, rfl, _, _, rfl, rfl, ?_⟩
    refine ⟨_, rfl, _, rfl, rfl, _, rfl, ?_⟩
    rw [decide_eq_false (fun z => by have := V.int.inj z; omega)]
    refine iteF ⟨_, rfl, [sg], [47], rfl, lit_sl, _, rfl, ?_⟩
    rcases hcase with ⟨e1, e2⟩ | ⟨e1, e2, e3, e4⟩ | ⟨e1, e2, e3, e4⟩
    · rw [e1, decide_eq_true rfl]
      refine iteT ⟨_, rfl, _, _, rfl, rfl, _, rfl, p, _, _, 3, rfl, rfl, hp, rfl, ?_⟩
      refine ⟨_, rfl, p, _, _, 4, rfl, rfl, upd_same, rfl, ?_⟩
      refine q rs _ ⟨?_, ?_, ?_, nd⟩ ((Kp.upd List.mem_cons_self).trans (Kp.upd List.mem_cons_self))
      · rw [upd_same, e2]
        show some (HO.lst [_, _, _, V.int ((st.rows.length : Int) + 1), V.int 0]) = some (HO.lst [_, _, _, V.int ((downBy wd st 1).length : Int), V.int 0])
        rw [down_len wd st (Nat.le_refl 1)]
        rfl
      · rw [upd_ne (Ne.symm pg), upd_ne (Ne.symm pg)]
        exact hgr
      · rw [e2, end_down hlt]
        refine paired_mem hpr fun x t hx ht => ?_
        rw [upd_ne (pr x hx), upd_ne (pr x hx)]
        exact ht
    · rw [e1, decide_eq_false (by decide)]
      refine iteF ⟨_, rfl, [94], [94], rfl, lit_up, _, rfl, ?_⟩
      rw [decide_eq_true rfl]
      obtain ⟨rows, line⟩ := st
      have hlt2 : rows.length < hg := hlt
      subst e3
      have hpos : 0 < rows.length := by
        rcases Nat.eq_zero_or_pos rows.length with z | z
        · exact absurd (List.length_eq_zero_iff.mp z) e2
        · exact z
      refine iteT ⟨_, rfl, rfl, _, rfl, ?_⟩
      rw [decide_eq_false (fun z => by have z2 : ((rows.length : Nat) : Int) = 0 := V.int.inj z; omega)]
      refine iteF ⟨_, rfl, _, _, rfl, rfl, _, rfl, iteF ?_⟩
      have hl1 := end_last (w := wd) (h := hg) (line := []) hlt e2
      obtain ⟨xl, hx⟩ : ∃ xl, rs[rows.length - 1]? = some xl := ⟨_, List.getElem?_eq_getElem (by omega)⟩
      obtain ⟨tl, ht1, ht2⟩ := paired_get hpr hx
      rw [hl1] at ht1
      have et := Option.some.inj ht1
      subst et
      refine ⟨_, rfl, _, rfl, _, _, rfl, rfl, g, _, _, .ref xl, rfl, rfl, SqL.of hgr, ref_atI hx (by show ((rows.length : Nat) : Int) - 1 = _; omega), xl, _, rfl, .inl (SqL.of ht2), fun l nl => ?_⟩
      have nlg : l ≠ g := fun e => by rw [e, hgr] at nl; cases nl
      have nlp : l ≠ p := fun e => by rw [e, hp] at nl; cases nl
      have nlr : l ∉ rs := fun hm => by
        obtain ⟨i, hi⟩ := List.getElem?_of_mem hm
        obtain ⟨t, _, ht⟩ := paired_get hpr hi
        rw [nl] at ht
        cases ht
      refine ⟨_, rfl, _, rfl, g, _, _, rows.length, rfl, rfl, by rw [upd_ne (Ne.symm nlg)]; exact hgr, by rw [List.length_map]; exact ixN_nat (by omega), ?_⟩
      refine ⟨_, rfl, _, _, rfl, rfl, _, rfl, p, _, _, 3, rfl, rfl, by rw [upd_ne pg, upd_ne (Ne.symm nlp)]; exact hp, rfl, ?_⟩
      refine q (rs.set rows.length l) _ ⟨?_, ?_, ?_, ?_⟩ ⟨fun b o n e => ?_, fun b hb => ?_⟩
      · rw [upd_same, e4]
        show some (HO.lst [_, _, _, V.int ((rows.length : Int) + 1), V.int 0]) = some (HO.lst [_, _, _, V.int ((rows ++ [lastRow rows]).length : Int), V.int 0])
        rw [List.length_append]
        rfl
      · rw [upd_ne (Ne.symm pg), upd_same, ref_set]
      · rw [e4, end_copy hlt]
        refine paired_mem (paired_set (x := l) (y := lastRow rows) ?_ rows.length (paired_mem hpr (G := fun x t => upd H l (.lst (cellsV (lastRow rows))) x = some (.lst (cellsV t))) fun x t hx ht => ?_)) fun x t hx ht => ?_
        · exact upd_same
        · rw [upd_ne (fun e => nlr (by rw [← e]; exact hx))]
          exact ht
        · have hx2 : x ≠ p ∧ x ≠ g := by
            rcases List.mem_or_eq_of_mem_set hx with hm | e
            · exact ⟨pr x hm, gr x hm⟩
            · rw [e]
              exact ⟨nlp, nlg⟩
          rw [upd_ne hx2.1, upd_ne hx2.2]
          exact ht
      · have nset : ∀ {z : Addr}, z ∉ rs → z ≠ l → z ∉ rs.set rows.length l := fun n1 n2 hm => by
          rcases List.mem_or_eq_of_mem_set hm with m | e
          · exact n1 m
          · exact n2 e
        refine List.nodup_cons.mpr ⟨fun hm => ?_, List.nodup_cons.mpr ⟨nset ngr (Ne.symm nlg), nodup_set _ ndr nlr⟩⟩
        rcases List.mem_cons.mp hm with e | hm
        · exact pg e
        · exact nset (fun m => npg (List.mem_cons_of_mem _ m)) (Ne.symm nlp) hm
      · have hb1 : b ≠ p := fun e => n (e ▸ List.mem_cons_self)
        have hb2 : b ≠ g := fun e => n (e ▸ List.mem_cons_of_mem _ List.mem_cons_self)
        rw [upd_ne hb1, upd_ne hb2, upd_ne (fun z => by rw [z, nl] at e; cases e)]
        exact e
      · rcases List.mem_cons.mp hb with e | hb
        · exact .inl (e ▸ List.mem_cons_self)
        rcases List.mem_cons.mp hb with e | hb
        · exact .inl (e ▸ List.mem_cons_of_mem _ List.mem_cons_self)
        rcases List.mem_or_eq_of_mem_set hb with hm | e
        · exact .inl (List.mem_cons_of_mem _ (List.mem_cons_of_mem _ hm))
        · exact .inr (e ▸ nl)
    · rw [decide_eq_false (fun z => e1 (List.cons.inj z).1)]
      refine iteF ⟨_, rfl, [sg], [94], rfl, lit_up, _, rfl, ?_⟩
      rw [decide_eq_false (fun z => e2 (List.cons.inj z).1)]
      refine iteF ⟨_, rfl, _, rfl, rfl, _, rfl, ?_⟩
      rw [decide_eq_false (fun z => by have := V.int.inj z; omega)]
      obtain ⟨rows, line⟩ := st
      have hlt2 : rows.length < hg := hlt
      obtain ⟨xl, hx⟩ : ∃ xl, rs[rows.length]? = some xl := ⟨_, List.getElem?_eq_getElem (by rw [rlen]; exact hlt)⟩
      obtain ⟨tl, ht1, ht2⟩ := paired_get hpr hx
      rw [end_row hlt] at ht1
      have et := Option.some.inj ht1
      subst et
      have hxm := List.mem_of_getElem? hx
      refine iteF ⟨_, rfl, _, rfl, g, _, _, .ref xl, rfl, rfl, SqL.of hgr, ref_atI hx rfl, ?_⟩
      have hlen : (cellsV (line ++ bl (wd - line.length))).length = wd := by
        rw [cellsV_len, List.length_append, bl_len]
        show line.length + _ = wd
        have : line.length < wd := e3
        omega
      refine ⟨_, rfl, _, rfl, _, rfl, xl, _, _, line.length, rfl, rfl, ht2, by rw [hlen]; exact ixN_nat e3, ?_⟩
      refine ⟨_, rfl, _, _, rfl, rfl, _, rfl, p, _, _, 4, rfl, rfl, by rw [upd_ne (Ne.symm (pr xl hxm))]; exact hp, rfl, ?_⟩
      refine q rs _ ⟨?_, ?_, ?_, nd⟩ ((Kp.upd (List.mem_cons_of_mem _ (List.mem_cons_of_mem _ hxm))).trans (Kp.upd List.mem_cons_self))
      · rw [upd_same, e4]
        show some (HO.lst [_, _, _, _, V.int ((line.length : Int) + 1)]) = some (HO.lst [_, _, _, _, V.int ((line ++ [c]).length : Int)])
        rw [List.length_append]
        rfl
      · rw [upd_ne (Ne.symm pg), upd_ne (Ne.symm (gr xl hxm))]
        exact hgr
      · rw [e4, end_ink hlt e3]
        refine paired_at ?_ rows.length ndr hx hpr fun z t hz hne ht => ?_
        · rw [upd_ne (pr xl hxm), upd_same, cellsV_set]
        · rw [upd_ne (pr z hz), upd_ne hne]
          exact ht
end
end Kl
set_option Elab.async false
set_option linter.all false
set_option maxRecDepth 100000
set_option maxHeartbeats 4000000
namespace Kl
open PySem PySem.Spec PyProof.Rows L2 Kw
def cmdD (k0 : Nat) (c : Cmd) : PyData := .list [.str (S [c.g]), .int (c.n : Int), .str (S c.cells), .int ((k0 + c.k : Nat) : Int)]
theorem cmd_shaped {k0 : Nat} {c : Cmd} (h1 : okT c.cells) (h2 : c.g < 1114112) : SeqAt.shaped (cmdD k0 c) = true := by
  unfold SeqAt.shaped cmdD
  have e1 : PyData.canLay0 (.str (S [c.g])) = true := row_shape fun x hx => by
    rw [List.mem_singleton.mp hx]
    exact h2
  simp [PyData.canLay0, PyData.canLayAll0, PyData.depth, PyData.depthAll] at e1 ⊢
  have e2 := row_shape h1
  simp [PyData.canLay0] at e2
  exact ⟨e1, e2⟩
theorem cmd_dp {K : PySem.W.Frag} {H : Hp} {k0 : Nat} {c : Cmd} {l : Addr} (h : CmdL H k0 c l) : Dp K H (.ref l) (cmdD k0 c) :=
  .lst (SqL.of h) (.cons (.str _) (.cons (.int _) (.cons (.str _) (.cons (.int _) .nil))))
theorem flat_sgl (t : T) : (t.map fun c => [c]).flatten = t := by
  induction t with
  | nil => rfl
  | cons x r ih => simp [ih]
theorem cells_tx (t : T) : cellsV t = (t.map fun c => [c]).map tx := by
  unfold cellsV
  rw [List.map_map]
  rfl
section
variable {P : Program} {w : World} {K : PySem.W.Frag} {mg : Str → Option Value} {base : Heap}
def sp_new_page : Sp := fun vs H Q _ => ∃ (wd hg : Nat), vs = [.int (wd : Int), .int (hg : Int)] ∧ wd ≤ 250 ∧ hg ≤ 250 ∧
  ∀ p g rs H', Same H H' → Grd H' p g rs wd hg sta0 → (∀ b, b ∈ p :: g :: rs → H b = none) → Q (.ref p) H'
theorem ok_new_page (D : Def K mg "_law_new_page" s_l_new_page ["_law_wide", "_law_high"]) (fr : Free mg) : Ok P w K mg base 1 "_law_new_page" ["_law_wide", "_law_high"] sp_new_page := by
  refine def_ok D sc_l_new_page (fun vs H Q E h => ?_) fun f cdv A outer s0 H vs Q E hr h => ?_
  · obtain ⟨wd, hg, rfl, _⟩ := h
    rfl
  · obtain ⟨wd, hg, rfl, h1, h2, q⟩ := h
    refine ⟨_, pss_one (ps_ret (pe_lst (pa_cons (pv 0) (pa_cons (pv 1) (pa_cons
      (pe_lc (own := [("_law_k", 2)]) (g := gName 2) (tt := tYes) (by rfl) sc_l_new_page.nd (pi_range1 rfl fr.range (pa_cons (pv 1) pa_nil)) (blkOk_by (own := [("_law_k", 2)]) (N := n_l_new_page) (sc := defScope s_l_new_page) (by decide +kernel))
          (fun _ _ _ _ _ => pg_name (i := 2) sc_l_new_page.nd rfl (.inl rfl)) (fun _ _ _ _ _ => pts_nil) (fun _ _ _ _ _ => pe_op op_rep (pe_lst (pa_cons pe_str pa_nil)) (pv 0)))
      (pa_cons pe_int (pa_cons pe_int pa_nil))))))), ?_⟩
    refine ⟨_, rfl, _, rfl, _, rfl, (hg : Int), rfl, by omega, by omega, fun D1 new => lc_range (lo := 0) (n := ((hg : Nat) : Int).toNat) (fun i H' => Same H H' ∧ ∃ rs : List Addr, H' D1 = some (.lst (rs.map V.ref)) ∧ rs.length = i ∧ rs.Nodup ∧ D1 ∉ rs ∧ ∀ x ∈ rs, H x = none ∧ H' x = some (.lst (cellsV (bl wd))))
      ⟨same_new new, [], upd_same, rfl, List.nodup_nil, List.not_mem_nil, fun _ h => absurd h (List.not_mem_nil)⟩ (fun i H' hi h => ?_) fun H' h => ?_⟩
    · obtain ⟨sm, rs, hD, hl, nd, nD, hx⟩ := h
      refine ⟨rfl, by show 1 ≤ sizeLine; decide, fun a1 n1 => ⟨_, rfl, a1, _, _, rfl, rfl, upd_same, by omega, by omega, ?_, fun l nl => ?_⟩⟩
      · show 1 * _ ≤ sizeLine
        exact big _ (by omega)
      have ss := (same_new n1 (o := .lst [V.str (Str.ofString " ")])).trans (same_new nl (o := .lst (List.replicate (wd : Int).toNat [V.str (Str.ofString " ")]).flatten))
      have nlD : l ≠ D1 := fun e => by
        rw [e, upd_ne (fun z => by rw [z, n1] at hD; cases hD), hD] at nl
        cases nl
      have nlr : l ∉ rs := fun hm => by
        have := (same_new n1 (o := .lst [V.str (Str.ofString " ")])) _ _ (hx l hm).2
        rw [nl] at this
        cases this
      have nlH : H l = none := by
        cases hh : H l with
        | none => rfl
        | some o =>
          have := (same_new n1 (o := .lst [V.str (Str.ofString " ")])) _ _ (sm _ _ hh)
          rw [nl] at this
          cases this
      refine ⟨_, ss _ _ hD, ?_, ?_, rs ++ [l], ?_, ?_, ?_, ?_, ?_⟩
      · rw [List.length_map, hl, sizeLine_eq]
        omega
      · intro b o e
        rw [upd_ne (ne_of_none e new)]
        exact ss _ _ (sm _ _ e)
      · rw [upd_same, List.map_append]
        rfl
      · rw [List.length_append, hl]
        rfl
      · rw [List.nodup_append]
        refine ⟨nd, List.nodup_cons.mpr ⟨List.not_mem_nil, List.nodup_nil⟩, fun a ha b hb e => ?_⟩
        rw [List.mem_singleton.mp hb] at e
        exact nlr (e ▸ ha)
      · intro hm
        rcases List.mem_append.mp hm with hm | hm
        · exact nD hm
        · exact nlD (List.mem_singleton.mp hm).symm
      · intro x hxm
        rcases List.mem_append.mp hxm with hm | hm
        · obtain ⟨g1, g2⟩ := hx x hm
          refine ⟨g1, ?_⟩
          rw [upd_ne (fun e => nD (by rw [← e]; exact hm))]
          exact ss _ _ g2
        · rw [List.mem_singleton.mp hm]
          refine ⟨nlH, ?_⟩
          rw [upd_ne nlD, upd_same, lit_sp, flat_rep]
          unfold cellsV bl
          rw [List.map_replicate]
          rfl
    · obtain ⟨sm, rs, hD, hl, nd, nD, hx⟩ := h
      refine ⟨by show 5 ≤ sizeLine; decide, fun p np => ?_⟩
      have npD : p ≠ D1 := fun e => by rw [e, hD] at np; cases np
      have npr : p ∉ rs := fun hm => by
        have := (hx p hm).2
        rw [np] at this
        cases this
      have npH : H p = none := by
        cases hh : H p with
        | none => rfl
        | some o =>
          have := sm _ _ hh
          rw [np] at this
          cases this
      have hlen : rs.length = hg := by omega
      refine q p D1 rs _ (sm.trans (same_new np)) ⟨upd_same, ?_, ?_, ?_⟩ fun b hb => ?_
      · rw [upd_ne (Ne.symm npD)]
        exact hD
      · rw [end_zero]
        have : ∀ l : List Addr, (∀ x ∈ l, H' x = some (.lst (cellsV (bl wd)))) → p ∉ l → Paired (fun x t => upd H' p (.lst [.int (wd : Int), .int (hg : Int), .ref D1, .int 0, .int 0]) x = some (.lst (cellsV t))) l (List.replicate l.length (bl wd)) := by
          intro l
          induction l with
          | nil => intro _ _; exact .nil
          | cons y r ih =>
            intro hl np
            refine .cons ?_ (ih (fun x hx => hl x (List.mem_cons_of_mem _ hx)) fun z => np (List.mem_cons_of_mem _ z))
            rw [upd_ne (fun e => np (by rw [e]; exact List.mem_cons_self))]
            exact hl y List.mem_cons_self
        have z := this rs (fun x hm => (hx x hm).2) npr
        rw [hlen] at z
        exact z
      · refine List.nodup_cons.mpr ⟨fun hm => ?_, List.nodup_cons.mpr ⟨nD, nd⟩⟩
        rcases List.mem_cons.mp hm with e | hm
        · exact npD e
        · exact npr hm
      · rcases List.mem_cons.mp hb with e | hb
        · rw [e]; exact npH
        rcases List.mem_cons.mp hb with e | hb
        · rw [e]; exact new
        · exact (hx b hb).1
def sp_can : Sp := fun vs H Q _ => ∃ (p g l : Addr) (rs : List Addr) (wd hg k0 : Nat) (c : Cmd) (st st' : Sta), vs = [.ref p, .ref l] ∧ Grd H p g rs wd hg st ∧ Fit wd hg st ∧ CmdL H k0 c l ∧ wd ≤ 250 ∧ hg ≤ 250 ∧
  1 ≤ c.n ∧ c.n < 1000 ∧ c.cells.length ≤ 1000000 ∧ (c.g = 62 ∨ c.g = 35 ∨ c.g = 47 ∨ c.g = 94 ∨ c.g = 34) ∧ Kw.after wd hg st c.n c.g c.cells = some st' ∧
  ∀ rs' H', Grd H' p g rs' wd hg st' → Kp (p :: g :: rs) (p :: g :: rs') H H' → Q (.bl true) H'
theorem ok_can (D : Def K mg "_law_can" s_l_can ["_law_page", "_law_command"]) (Go : Ok P w K mg base 1 "_law_once" ["_law_page", "_law_sign", "_law_cell"] sp_once) : Ok P w K mg base 2 "_law_can" ["_law_page", "_law_command"] sp_can := by
  refine def_ok D sc_l_can (fun vs H Q E h => ?_) fun f cdv A outer s0 H vs Q E hr h => ?_
  · obtain ⟨p, g, l, rs, wd, hg, k0, c, st, st', rfl, _⟩ := h
    rfl
  · obtain ⟨p, g, l, rs, wd, hg, k0, c, st, st', rfl, hG, hF, hc, w2, h2, n1, n2, cz, hg5, ha, q⟩ := h
    refine ⟨_, pss_cons (ps_asg (pv 1) (pg_unl (by rfl) (pgs_cons (pg_name (i := 2) sc_l_can.nd rfl (.inl rfl)) (pgs_cons (pg_name (i := 3) sc_l_can.nd rfl (.inl rfl)) (pgs_cons (pg_name (i := 4) sc_l_can.nd rfl (.inl rfl)) (pgs_cons (pg_name (i := 5) sc_l_can.nd rfl (.inl rfl)) pgs_nil))))))
      (C8.pss_cut (ps_if (pt_cmpR o_eqT (pv 2) pe_str (nomark _)) (pss_one (ps_set (i := 4) sc_l_can.nd rfl (.inl rfl) (pe_op o_mulT pe_str (pv 3))))
        (pss_one (ps_if (pt_cmpR o_neT (pv 2) pe_str (nomark _)) (pss_one (ps_set (i := 4) sc_l_can.nd rfl (.inl rfl) (pe_op o_mulT pe_str (pv 3)))) pss_nil)))
      (pss_cons (ps_for PassesOwn.never rfl (pi_str (pv 4)) (pg_name (i := 6) sc_l_can.nd rfl (.inl rfl))
        (pss_one (ps_if (pt_not (pt_val (pe_f Go hr (by rfl) (pa_cons (pv 0) (pa_cons (pv 2) (pa_cons (pv 6) pa_nil)))))) (pss_one (ps_ret pe_bl)) pss_nil)))
      (pss_one (ps_ret pe_bl)))), ?_⟩
    refine ⟨_, rfl, l, _, rfl, SqL.of hc, rfl, _, _, rfl, _, _, rfl, _, _, rfl, _, _, rfl, rfl, ?_⟩
    refine ⟨fun σ' H' => H' = H ∧ σ' = [some (.ref p), some (.ref l), some (tx [c.g]), some (.int (c.n : Int)), some (tx (cellsOf c.n c.g c.cells)), some (.int ((k0 + c.k : Nat) : Int)), none], ?_, ?_⟩
    · refine ⟨_, rfl, [c.g], [62], rfl, lit_gt, _, rfl, ite2 (fun e => ?_) fun e => ?_⟩
      · have e1 : c.g = 62 := (List.cons.inj (of_decide_eq_true e)).1
        refine ⟨_, rfl, 32, (c.n : Int), lit_sp, rfl, by omega, by omega, rfl, ?_⟩
        unfold cellsOf
        rw [if_pos e1]
        rfl
      · have e1 : c.g ≠ 62 := fun z => e (decide_eq_true (by rw [z]))
        refine ⟨_, rfl, [c.g], [34], rfl, lit_quo, _, rfl, ite2 (fun e2 => ?_) fun e2 => ?_⟩
        · have e3 : c.g ≠ 34 := fun z => by rw [z] at e2; cases e2
          refine ⟨_, rfl, 35, (c.n : Int), lit_bar, rfl, by omega, by omega, rfl, ?_⟩
          unfold cellsOf
          rw [if_neg e1, if_neg e3]
          rfl
        · have e3 : c.g = 34 := Classical.byContradiction fun z => e2 (by rw [decide_eq_false (fun y => z (List.cons.inj y).1)]; rfl)
          refine ⟨rfl, ?_⟩
          unfold cellsOf
          rw [if_neg e1, if_pos e3]
          rfl
    rintro σ' H' ⟨rfl, rfl⟩
    have hst := after_stps n1 hg5 ha
    generalize hcs : cellsOf c.n c.g c.cells = cs at hst
    refine ⟨_, rfl, S cs, rfl, ?_⟩
    refine for_S (fun i σ H2 => ∃ (sti : Sta) (rs2 : List Addr) (y6 : Option V), σ = [some (.ref p), some (.ref l), some (tx [c.g]), some (.int (c.n : Int)), some (tx cs), some (.int ((k0 + c.k : Nat) : Int)), y6] ∧ Stps wd hg c.g sti (cs.drop i) st' ∧ Fit wd hg sti ∧ Grd H2 p g rs2 wd hg sti ∧ Kp (p :: g :: rs) (p :: g :: rs2) H' H2)
      ⟨st, rs, none, rfl, hst, hF, hG, Kp.refl _ _⟩ (fun i x σ H2 hi hP => ?_) fun σ H2 hP => ?_
    · obtain ⟨sti, rs2, y6, rfl, k1, k2, k3, k4⟩ := hP
      have hil := (List.getElem?_eq_some_iff.mp hi).1
      have ed : cs.drop i = x :: cs.drop (i + 1) := by
        rw [List.drop_eq_getElem_cons hil]
        congr 1
        exact (List.getElem?_eq_some_iff.mp hi).2
      rw [ed] at k1
      obtain ⟨s1, m1, m2⟩ := k1.head
      refine ⟨_, rfl, _, rfl, _, rfl, p, g, rs2, wd, hg, c.g, x, sti, s1, rfl, k3, k2, m1, w2, h2, fun rs3 H3 j1 j2 => ?_⟩
      exact ⟨_, rfl, iteF ⟨s1, rs3, _, rfl, m2, m1.fit k2, j1, k4.trans j2⟩⟩
    · obtain ⟨sti, rs2, y6, rfl, k1, k2, k3, k4⟩ := hP
      rw [List.drop_length] at k1
      rw [← k1.none] at k3
      exact q rs2 H2 k3 k4
end
end Kl
set_option Elab.async false
set_option linter.all false
set_option maxRecDepth 100000
set_option maxHeartbeats 4000000
namespace Kl
open PySem PySem.Spec PyProof.Rows L2 Kw
theorem pe_bmK {X : Cx} (K : PySem.W.Frag) {o e : Expr} {es : List Expr} {to : TE} {t : TA} {name : Str} {apos cpos : Pos} {T id : String} {r : V → List V → Hp → VK → Prop} (pa : PlainAttrs T) (slot : Slot T name id) (hty : typeOf (.builtin id) = pure (.type "method_descriptor")) (hm : MtR X id r) (ho : PE X o to) (ha : PA X (e :: es) t)
    (hbase : attributeBase o name X.env (eval o X.env) = eval o X.env := by rfl)
    (hfew : ((backTo cpos (starEach (e :: es) X.env)).all (fun x => !x.1) && (backToKw cpos (keywordEach [] X.env)).all (fun x => x.1.isSome)
      && decide ((e :: es).length + ([] : List Keyword).length + (if ([] : List Keyword).isEmpty then 0 else 1) < 30)) = true := by rfl)
    (hline : (apos.endLine == cpos.line) = true := by rfl) (hs : starEach (e :: es) X.env = (false, eval e X.env) :: starEach es X.env := by rfl) (hplain : (backTo cpos (starEach es X.env)).any (·.1) = false := by rfl) (h : X.K = K := by rfl) :
    PE X (.Call (.Attribute o name apos) (e :: es) [] cpos) (tBM K T r to t) := by
  subst h
  exact pe_bm pa slot hty hm ho ha hbase hfew hline hs hplain
theorem m_joinTK {X : Cx} (K : PySem.W.Frag) (h : X.K = K := by rfl) : MtR X "str.join" (rJoinT K) := by
  subst h
  exact m_joinT
section
variable {P : Program} {w : World} {K : PySem.W.Frag} {mg : Str → Option Value} {base : Heap}
def DevAt (H0 H : Hp) (s : T) (wd hg k0 : Nat) (e : Bool) (Ps : List Pg) (pl p : Addr) : Prop := ∃ (ps : List Pg) (as : List Addr) (st : Sta) (g : Addr) (rs : List Addr),
  devGo wd hg e ps st (s.drop k0) = some Ps ∧ Fit wd hg st ∧ Grd H p g rs wd hg st ∧ H pl = some (.lst (as.map V.ref)) ∧ Paired (fun x p => H x = some (.tup (pgv p))) as ps ∧ pl ∉ p :: g :: rs ∧ (∀ b, b ∈ p :: g :: rs → H0 b = none) ∧ H0 pl = none ∧ Same H0 H
def sp_device : Sp := fun vs H Q _ => ∃ (a : Addr) (wd hg : Nat) (s : T) (Ps : List Pg), vs = [.ref a] ∧ FileAt H a wd hg s ∧ wd ≤ 250 ∧ hg ≤ 250 ∧ s.length ≤ 1000000 ∧ okT s ∧ dev wd hg s = some Ps ∧ Ps.length ≤ 1000 ∧ (∀ p ∈ Ps, Right wd hg p) ∧
  ∀ b H', Same H H' → PagesAt H' b Ps → Q (.ref b) H'
theorem ok_device (D : Def K mg "_law_device" s_l_device ["_law_file"]) (fr : Free mg) (Gn : Ok P w K mg base 1 "_law_new_page" ["_law_wide", "_law_high"] sp_new_page) (Gc : Ok P w K mg base 1 "_law_command_at" ["_law_commands", "_law_at"] sp_lcommand)
    (Gm : Ok P w K mg base 2 "_law_can" ["_law_page", "_law_command"] sp_can) : Ok P w K mg base 3 "_law_device" ["_law_file"] sp_device := by
  refine def_ok D sc_l_device (fun vs H Q E h => ?_) fun f cdv A outer s0 H vs Q E hr h => ?_
  · obtain ⟨a, wd, hg, s, Ps, rfl, _⟩ := h
    rfl
  · obtain ⟨a, wd, hg, s, Ps, rfl, hfa, w2, h2, hz, hok, hd, hPl, hRt, q⟩ := h
    have hu : (A.deeper (envOfC "_law_device" (defScope s_l_device) s0.heap.objs.size f cdv)).units + 64 < cLine := by
      have := hr.un
      omega
    refine ⟨_, pss_cons (ps_asg (pv 0) (pg_tup (by rfl) (pgs_cons (pg_name (i := 1) sc_l_device.nd rfl (.inl rfl)) (pgs_cons (pg_name (i := 2) sc_l_device.nd rfl (.inl rfl)) (pgs_cons (pg_name (i := 3) sc_l_device.nd rfl (.inl rfl)) pgs_nil)))))
      (pss_cons (ps_set (i := 4) sc_l_device.nd rfl (.inl rfl) (pe_lst pa_nil))
      (pss_cons (ps_set (i := 5) sc_l_device.nd rfl (.inl rfl) (pe_f (Gn.up (show 1 ≤ 2 by decide)) hr (by rfl) (pa_cons (pv 1) (pa_cons (pv 2) pa_nil))))
      (pss_cons (ps_set (i := 6) sc_l_device.nd rfl (.inl rfl) pe_int)
      (pss_cons (ps_set (i := 7) sc_l_device.nd rfl (.inl rfl) pe_bl)
      (pss_cons (ps_while PassesOwn.never (pt_cmpR op_lt (pv 6) (pe_callB c_lenT (by rfl) fr.len PySem.boot_len (pa_cons (pv 3) pa_nil)) (nomark _))
        (pss_cons (ps_set (i := 8) sc_l_device.nd rfl (.inl rfl) (pe_f (Gc.up (show 1 ≤ 2 by decide)) hr (by rfl) (pa_cons (pv 3) (pa_cons (pv 6) pa_nil))))
        (pss_cons (ps_if (pt_cmpR (op_eqD hu) (pv 8) (pe_lst pa_nil) (nomark _)) (pss_one (ps_ret (pv 6))) pss_nil)
        (pss_cons (ps_set (i := 7) sc_l_device.nd rfl (.inl rfl) (pe_cmpR o_eqT (pe_ix ix_list (pv 8) pe_int (fun _ _ => rfl)) pe_str (nomark _)))
        (C8.pss_cut (ps_if (pt_val (pv 7))
            (pss_cons (ps_expr (pe_bm PySem.F.plainAttrs_list PySem.F.slot_list_append PySem.F.type_list_append mt_append (pv 4) (pa_cons (pe_callTy call_tuple_of (by rfl) fr.tuple (by decide +kernel) (pa_cons
                (pe_lc (own := [("_law_line", 9)]) (g := gName 9) (tt := tYes) (by rfl) sc_l_device.nd (pi_list (pe_ix ix_list (pv 5) pe_int (fun _ _ => rfl))) (blkOk_by (own := [("_law_line", 9)]) (N := n_l_device) (sc := defScope s_l_device) (by decide +kernel))
                  (fun _ _ _ _ _ => pg_name (i := 9) sc_l_device.nd rfl (.inl rfl)) (fun _ _ _ _ _ => pts_nil) (fun _ _ _ _ _ => pe_bmK K PySem.F.plainAttrs_str PySem.F.slot_str_join PySem.F.type_str_join (m_joinTK K) pe_str (pa_cons (pv 9) pa_nil))) pa_nil)) pa_nil)))
            (pss_one (ps_set (i := 5) sc_l_device.nd rfl (.inl rfl) (pe_f (Gn.up (show 1 ≤ 2 by decide)) hr (by rfl) (pa_cons (pv 1) (pa_cons (pv 2) pa_nil))))))
            (pss_one (ps_if (pt_not (pt_val (pe_f Gm hr (by rfl) (pa_cons (pv 5) (pa_cons (pv 8) pa_nil))))) (pss_one (ps_ret (pv 6))) pss_nil)))
        (pss_one (ps_set (i := 6) sc_l_device.nd rfl (.inl rfl) (pe_ix ix_list (pv 8) pe_int (fun _ _ => rfl)))))))))
      (pss_one (ps_ret (pe_ifExp (pt_val (pv 7)) (pe_callTy call_tuple_of (by rfl) fr.tuple (by decide +kernel) (pa_cons (pv 4) pa_nil)) (pe_callB c_lenT (by rfl) fr.len PySem.boot_len (pa_cons (pv 3) pa_nil)))))))))), ?_⟩
    refine ⟨_, rfl, a, _, rfl, SqT.of hfa, rfl, _, _, rfl, _, _, rfl, _, _, rfl, rfl, ?_⟩
    refine ⟨by show 0 ≤ sizeLine; decide, fun pl npl => ?_⟩
    refine ⟨_, rfl, _, rfl, wd, hg, rfl, w2, h2, fun p0 g0 rs0 H1 s1 G1 new1 => ?_⟩
    refine ⟨fun m σ H' => ∃ (k0 : Nat) (e : Bool) (p : Addr) (y8 : Option V), σ = [some (.ref a), some (.int (wd : Int)), some (.int (hg : Int)), some (tx s), some (.ref pl), some (.ref p), some (.int (k0 : Int)), some (.bl e), y8, none] ∧ k0 + m = s.length ∧
        DevAt H H' s wd hg k0 e Ps pl p, ⟨s.length, 0, true, p0, none, rfl, by omega, [], [], sta0, g0, rs0, hd, fit0 wd hg, G1, s1 _ _ upd_same, .nil, fun hm => ?_, fun b hb => ?_, npl, (same_new npl).trans s1⟩, ?_⟩
    · have := new1 pl hm
      rw [upd_same] at this
      cases this
    · have := new1 b hb
      cases hh : H b with
      | none => rfl
      | some o =>
        have z := same_new npl (o := .lst []) _ _ hh
        rw [this] at z
        cases z
    rintro m σ H' ⟨k0, e, p, y8, rfl, hm, ps, as, st, g, rs, hd, hF, hG, hl, hp, nl, hnew, hnp, hsm⟩
    refine ⟨_, rfl, _, rfl, s, rfl, by omega, _, _, rfl, rfl, _, rfl, ite2 (fun e0 => ?_) fun e0 => ?_⟩
    · have hlt : k0 < s.length := by have := of_decide_eq_true e0; omega
      have hne : s.drop k0 ≠ [] := fun z => by
        have := List.drop_eq_nil_iff.mp z
        omega
      obtain ⟨c, hc⟩ : ∃ c, cmdAt (s.drop k0) = some c := by
        cases hc : cmdAt (s.drop k0) with
        | none =>
          rw [devGo_none hne hc] at hd
          cases hd
        | some c => exact ⟨c, rfl⟩
      have hk := cmdAt_k hc
      obtain ⟨n1, n2, hcz⟩ := form_bounds hc
      have hcm := cells_mem hc
      have hck : okT c.cells := fun x hx => hok x (List.mem_of_mem_drop (hcm x hx))
      rw [List.length_drop] at hk hcz
      obtain ⟨ds, x, r, _, _, _, _, hxg, hcs⟩ := cmd_shape hc
      have hg6 : c.g = 59 ∨ (c.g = 62 ∨ c.g = 35 ∨ c.g = 47 ∨ c.g = 94 ∨ c.g = 34) := by
        rw [← hxg]
        rcases hcs with ⟨f1, _⟩ | ⟨f1, _⟩ | ⟨f1, _⟩
        · rcases four_iff.mp f1 with z | z | z | z
          · exact .inr (.inl z)
          · exact .inr (.inr (.inl z))
          · exact .inr (.inr (.inr (.inl z)))
          · exact .inr (.inr (.inr (.inr (.inl z))))
        · exact .inl f1
        · exact .inr (.inr (.inr (.inr (.inr f1))))
      refine ⟨fun σ' H' => ∃ (p' : Addr) (e' : Bool) (y : Option V), σ' = [some (.ref a), some (.int (wd : Int)), some (.int (hg : Int)), some (tx s), some (.ref pl), some (.ref p'), some (.int ((k0 + c.k : Nat) : Int)), some (.bl e'), y, none] ∧ DevAt H H' s wd hg (k0 + c.k) e' Ps pl p', ?_, ?_⟩
      · rintro σ' H' ⟨p', e', y, rfl, hD⟩
        exact ⟨m - c.k, by omega, k0 + c.k, e', p', y, rfl, by omega, hD⟩
      refine ⟨_, rfl, _, rfl, s, k0, c, rfl, hz, hc, fun l H2 s2 hcl => ?_⟩
      refine ⟨_, rfl, by show 0 ≤ sizeLine; decide, fun l0 nl0 => ?_⟩
      have hcl2 : CmdL (upd H2 l0 (.lst [])) k0 c l := same_new nl0 _ _ hcl
      refine ⟨_, _, cmd_dp hcl2, .lst (SqL.of upd_same) .nil, cmd_shaped hck (by omega), by decide, _, rfl, iteF ?_⟩
      have s3 : Same H' (upd H2 l0 (.lst [])) := s2.trans (same_new nl0)
      generalize upd H2 l0 (.lst []) = H3 at hcl2 s3
      refine ⟨_, rfl, l, _, _, tx [c.g], rfl, rfl, SqL.of hcl2, atI_nat (j := 0) rfl, [c.g], [59], rfl, lit_semi, ?_⟩
      have hG3 : Grd H3 p g rs wd hg st := ⟨s3 _ _ hG.hp, s3 _ _ hG.hgr, paired_imp (fun _ _ h => s3 _ _ h) hG.hr, hG.nd⟩
      have hl3 := s3 _ _ hl
      have hp3 : Paired (fun x p => H3 x = some (.tup (pgv p))) as ps := paired_imp (fun _ _ h => s3 _ _ h) hp
      refine ⟨fun σ' H4 => ∃ (p' : Addr), σ' = [some (.ref a), some (.int (wd : Int)), some (.int (hg : Int)), some (tx s), some (.ref pl), some (.ref p'), some (.int (k0 : Int)), some (.bl (decide ([c.g] = [59]))), some (.ref l), none] ∧ CmdL H4 k0 c l ∧ DevAt H H4 s wd hg (k0 + c.k) (decide ([c.g] = [59])) Ps pl p', ?_, ?_⟩
      · refine ⟨_, rfl, _, rfl, ite2 (fun e1 => ?_) fun e1 => ?_⟩
        · have hg59 : c.g = 59 := (List.cons.inj (of_decide_eq_true e1)).1
          rw [devGo_end hne hc hg59, List.drop_drop] at hd
          obtain ⟨qq, hqq⟩ := devGo_pre _ _ (Nat.le_refl _) _ _ _ _ hd
          have hpl : ps.length < 1000 := by
            have := congrArg List.length hqq
            rw [List.length_append, List.length_append, List.length_singleton] at this
            omega
          refine ⟨_, rfl, .inl ⟨rfl, _, SqL.of hl3⟩, ?_⟩
          refine ⟨_, rfl, p, _, _, .ref g, rfl, rfl, SqL.of hG3.hp, atI_nat (j := 2) rfl, g, rfl, ⟨_, SqL.of hG3.hgr⟩, fun D1 new => lc_list (xs := rs.map V.ref) (fun i H' => Same H3 H' ∧ H' D1 = some (.lst (pgv ((endPg wd hg st).take i))))
            ⟨same_new new, upd_same⟩ (fun i H' _ h => SqL.of (h.1 _ _ hG3.hgr)) (fun i v H' hv h => ?_) fun H' h => ?_⟩
          · obtain ⟨sm, hD⟩ := h
            rw [List.getElem?_map] at hv
            obtain ⟨x, e2, e3⟩ := Option.map_eq_some_iff.mp hv
            obtain ⟨t, ht1, ht2⟩ := paired_get hG3.hr e2
            have htl : t.length ≤ 250 := by
              have hmem : endPg wd hg st ∈ Ps := by
                rw [hqq]
                exact List.mem_append_left _ (List.mem_append_right _ List.mem_cons_self)
              have := (hRt _ hmem).wid t (List.mem_of_getElem? ht1)
              omega
            refine ⟨rfl, rfl, _, rfl, x, t.map fun c => [c], lit_e, one_eq e3.symm, .inl ?_, ?_, ?_⟩
            · rw [← cells_tx]
              exact SqL.of (sm _ _ ht2)
            · rw [flat_sgl]
              omega
            · rw [flat_sgl]
              refine ⟨_, hD, ?_, fun b o eb => ?_, ?_⟩
              · have := (List.getElem?_eq_some_iff.mp ht1).1
                rw [end_len hF.2.1] at this
                show (pgv _).length < _
                unfold pgv
                rw [List.length_map, List.length_take, sizeLine_eq]
                omega
              · rw [upd_ne (ne_of_none eb new)]
                exact sm _ _ eb
              · rw [upd_same, take_one ht1]
                unfold pgv
                rw [List.map_append]
                rfl
          · obtain ⟨sm, hD⟩ := h
            have e0 : (endPg wd hg st).take (rs.map V.ref).length = endPg wd hg st := by rw [List.length_map, hG3.hr.length, List.take_length]
            rw [e0] at hD
            refine ⟨D1, _, rfl, .inl ⟨SqL.of hD, fun l9 n9 => ?_⟩⟩
            have s4 := sm.trans (same_new n9 (o := .tup (pgv (endPg wd hg st))))
            refine ⟨pl, _, _, rfl, rfl, s4 _ _ hl3, ?_, ?_⟩
            · rw [List.length_map, hp3.length, sizeLine_eq]
              omega
            have hne1 : ∀ {b : Addr} {o : HO}, H3 b = some o → b ≠ pl → upd (upd H' l9 (.tup (pgv (endPg wd hg st)))) pl (.lst (as.map V.ref ++ [.ref l9])) b = some o := fun h n => by
              rw [upd_ne n]
              exact s4 _ _ h
            have hH0 : ∀ {b : Addr} {o : HO}, H b = some o → upd (upd H' l9 (.tup (pgv (endPg wd hg st)))) pl (.lst (as.map V.ref ++ [.ref l9])) b = some o := fun h => hne1 (s3 _ _ (hsm _ _ h)) (ne_of_none h hnp)
            have l9pl : l9 ≠ pl := fun e => by
              rw [e, sm _ _ hl3] at n9
              cases n9
            have lpl : l ≠ pl := fun e => by
              have z := hl3
              rw [← e, hcl2] at z
              cases as with
              | nil => cases (HO.lst.inj (Option.some.inj z))
              | cons y r => cases (List.cons.inj (HO.lst.inj (Option.some.inj z))).1
            generalize hH5 : upd (upd H' l9 (.tup (pgv (endPg wd hg st)))) pl (.lst (as.map V.ref ++ [.ref l9])) = H5 at hne1 hH0
            have hpl5 : H5 pl = some (.lst ((as ++ [l9]).map V.ref)) := by
              rw [← hH5, upd_same, List.map_append]
              rfl
            have hl95 : H5 l9 = some (.tup (pgv (endPg wd hg st))) := by
              rw [← hH5, upd_ne l9pl, upd_same]
            have hp5 : Paired (fun x p => H5 x = some (.tup (pgv p))) (as ++ [l9]) (ps ++ [endPg wd hg st]) := by
              refine paired_app (paired_imp (fun x p h => hne1 h fun e => ?_) hp3) (.cons hl95 .nil)
              rw [e, hl3] at h
              cases h
            refine ⟨_, rfl, _, rfl, wd, hg, rfl, w2, h2, fun p1 g1 rs1 H6 s6 G6 new6 => ?_⟩
            refine ⟨p1, rfl, s6 _ _ (hne1 hcl2 lpl), ps ++ [endPg wd hg st], as ++ [l9], sta0, g1, rs1, ?_, fit0 wd hg, G6, s6 _ _ hpl5, paired_imp (fun _ _ h => s6 _ _ h) hp5, fun hm => ?_, fun b hb => ?_, hnp, fun b o h => s6 _ _ (hH0 h)⟩
            · rw [e1]
              exact hd
            · have := new6 pl hm
              rw [hpl5] at this
              cases this
            · cases hh : H b with
              | none => rfl
              | some o =>
                have z := hH0 hh
                rw [new6 b hb] at z
                cases z
        · have hg59 : c.g ≠ 59 := fun z => e1 (decide_eq_true (by rw [z]))
          rcases hg6 with z | hg5
          · exact absurd z hg59
          cases ha : Kw.after wd hg st c.n c.g c.cells with
          | none =>
            rw [devGo_bad hne hc hg59 ha] at hd
            cases hd
          | some st' =>
            rw [devGo_go hne hc hg59 ha, List.drop_drop] at hd
            have hln : l ∉ p :: g :: rs := fun hm => by
              have hcl3 : H3 l = some (.lst [tx [c.g], .int (c.n : Int), tx c.cells, .int ((k0 + c.k : Nat) : Int)]) := hcl2
              rcases List.mem_cons.mp hm with e | hm
              · rw [e, hG3.hp] at hcl3
                cases (List.cons.inj (HO.lst.inj (Option.some.inj hcl3))).1
              rcases List.mem_cons.mp hm with e | hm
              · rw [e, hG3.hgr] at hcl3
                have z := HO.lst.inj (Option.some.inj hcl3)
                cases rs with
                | nil => cases z
                | cons y r => cases (List.cons.inj z).1
              · obtain ⟨i, hi⟩ := List.getElem?_of_mem hm
                obtain ⟨t, _, ht⟩ := paired_get hG3.hr hi
                rw [hcl3] at ht
                have z := HO.lst.inj (Option.some.inj ht)
                cases t with
                | nil => cases z
                | cons y r =>
                  cases r with
                  | nil => cases (List.cons.inj z).2
                  | cons y2 r => cases (List.cons.inj (List.cons.inj z).2).1
            refine ⟨_, rfl, _, rfl, p, g, l, rs, wd, hg, k0, c, st, st', rfl, hG3, hF, hcl2, w2, h2, n1, n2, by omega, hg5, ha, fun rs' H4 G4 K4 => ⟨_, rfl, iteF ?_⟩⟩
            refine ⟨p, rfl, K4.1 _ _ hln hcl2, ps, as, st', g, rs', ?_, after_fit n1 hF ha, G4, K4.1 _ _ nl hl3, ?_, fun hm => ?_, fun b hb => ?_, hnp, fun b o h => ?_⟩
            · rw [decide_eq_false (fun z => hg59 (List.cons.inj z).1)]
              exact hd
            · refine paired_imp (fun x p' h => K4.1 _ _ (fun hm => ?_) h) hp3
              rcases List.mem_cons.mp hm with e | hm
              · rw [e, hG3.hp] at h
                cases h
              rcases List.mem_cons.mp hm with e | hm
              · rw [e, hG3.hgr] at h
                cases h
              · obtain ⟨i, hi⟩ := List.getElem?_of_mem hm
                obtain ⟨t, _, ht⟩ := paired_get hG3.hr hi
                rw [h] at ht
                cases ht
            · rcases K4.2 _ hm with z | z
              · exact nl z
              · rw [hl3] at z
                cases z
            · rcases K4.2 _ hb with z | z
              · exact hnew b z
              · cases hh : H b with
                | none => rfl
                | some o =>
                  rw [s3 _ _ (hsm _ _ hh)] at z
                  cases z
            · refine K4.1 _ _ (fun hm => ?_) (s3 _ _ (hsm _ _ h))
              rw [hnew b hm] at h
              cases h
      · rintro σ' H4 ⟨p', rfl, hcl4, hD4⟩
        refine ⟨_, rfl, l, _, _, .int ((k0 + c.k : Nat) : Int), rfl, rfl, SqL.of hcl4, atI_nat (j := 3) rfl, ?_⟩
        exact ⟨p', _, _, rfl, hD4⟩
    · have hge : ¬ k0 < s.length := fun h => e0 (decide_eq_true (by omega))
      have hnil : s.drop k0 = [] := List.drop_eq_nil_iff.mpr (by omega)
      rw [hnil, devGo_nil] at hd
      split at hd
      · rename_i he
        cases hd
        subst he
        refine ⟨_, rfl, _, rfl, ?_⟩
        refine iteT ⟨_, rfl, pl, _, rfl, .inl ⟨SqL.of hl, fun l9 n9 => ?_⟩⟩
        exact q l9 _ (hsm.trans (same_new n9)) ⟨as, upd_same, paired_imp (fun _ _ h => same_new n9 _ _ h) hp⟩
      · cases hd
end
end Kl
set_option Elab.async false
set_option linter.all false
set_option maxRecDepth 100000
set_option maxHeartbeats 4000000
namespace Kl
open PySem PySem.Spec PyProof.Rows L2 Kw
/-! ### the law's table: what ways there are -/
def intv (xs : List Nat) : List V := xs.map fun n : Nat => V.int (n : Int)
theorem intv_app (xs ys : List Nat) : intv (xs ++ ys) = intv xs ++ intv ys := List.map_append ..
theorem intv_len (xs : List Nat) : (intv xs).length = xs.length := List.length_map ..
theorem intv_at {bs : List Nat} {n : Nat} {z : Int} (h : n < bs.length) (e : z = (n : Int)) : atI (intv bs) z = some (.int ((bs.getD n 0 : Nat) : Int)) := by
  rw [e]
  refine atI_nat ?_
  unfold intv
  rw [List.getElem?_map, List.getElem?_eq_getElem h, List.getD_eq_getElem?_getD, List.getElem?_eq_getElem h]
  rfl
theorem lit_sb : V.str (Str.ofString " #") = tx [32, 35] := by decide +kernel
theorem txt_at {s : T} {i x : Nat} {z : Int} (h : s[i]? = some x) (e : z = (i : Int)) : atI s z = some x := by
  rw [e]
  exact atI_nat h
theorem same_upd {H H' : Hp} {l : Addr} {o : HO} (s : Same H H') (n : H l = none) : Same H (upd H' l o) := fun b x e => by
  rw [upd_ne (ne_of_none e n)]
  exact s b x e
def Alk (t : T) (n : Nat) : Prop := (∀ i, i < n → t[i]? = some 32) ∨ (∀ i, i < n → t[i]? = some 35)
theorem alk_succ {t : T} {i : Nat} {x x0 : Nat} (h0 : t[0]? = some x0) (hx : t[i]? = some x) : Alk t (i + 1) ↔ Alk t i ∧ x = x0 ∧ x0 ∈ [32, 35] := by
  constructor
  · rintro (h | h)
    · have a := h 0 (by omega)
      have b := h i (by omega)
      rw [h0] at a
      rw [hx] at b
      have a' := Option.some.inj a
      have b' := Option.some.inj b
      exact ⟨.inl fun j hj => h j (by omega), by omega, by rw [a']; simp⟩
    · have a := h 0 (by omega)
      have b := h i (by omega)
      rw [h0] at a
      rw [hx] at b
      have a' := Option.some.inj a
      have b' := Option.some.inj b
      exact ⟨.inr fun j hj => h j (by omega), by omega, by rw [a']; simp⟩
  · rintro ⟨h, rfl, hm⟩
    have hz : x = 32 ∨ x = 35 := by simpa using hm
    by_cases i0 : i = 0
    · subst i0
      rcases hz with rfl | rfl
      · exact .inl fun j hj => by have : j = 0 := by omega
                                  rw [this]; exact hx
      · exact .inr fun j hj => by have : j = 0 := by omega
                                  rw [this]; exact hx
    · rcases h with h | h
      · refine .inl fun j hj => ?_
        by_cases e : j = i
        · have a := h 0 (by omega)
          rw [h0] at a
          rw [e, hx, a]
        · exact h j (by omega)
      · refine .inr fun j hj => ?_
        by_cases e : j = i
        · have a := h 0 (by omega)
          rw [h0] at a
          rw [e, hx, a]
        · exact h j (by omega)
section
variable {P : Program} {w : World} {K : PySem.W.Frag} {mg : Str → Option Value} {base : Heap}
def sp_signs_for : Sp := fun vs H Q _ => ∃ n : Nat, vs = [.int (n : Int)] ∧ 1 ≤ n ∧ n < 1000 ∧ Q (.int ((cmdT n 0).length : Int)) H
theorem ok_signs_for (D : Def K mg "_law_signs_for" s_l_signs_for ["_law_n"]) (fr : Free mg) : Ok P w K mg base 1 "_law_signs_for" ["_law_n"] sp_signs_for := by
  refine def_ok D sc_l_signs_for (fun vs H Q E h => ?_) fun f cdv A outer s0 H vs Q E hr h => ?_
  · obtain ⟨n, rfl, _⟩ := h
    rfl
  · obtain ⟨n, rfl, n1, n2, q⟩ := h
    refine ⟨_, pss_one (ps_ret (pe_ifExp (pt_cmpR op_eq (pv 0) pe_int (nomark _)) pe_int (pe_op op_add pe_int (pe_callB c_lenT (by rfl) fr.len PySem.boot_len (pa_cons (pe_callTy c_strT (by rfl) fr.str (by decide +kernel) (pa_cons (pv 0) pa_nil)) pa_nil))))), ?_⟩
    refine ⟨_, rfl, rfl, _, rfl, ite2 (fun e => ?_) fun e => ?_⟩
    · have e1 : (n : Int) = 1 := V.int.inj (of_decide_eq_true e)
      have e2 : n = 1 := by omega
      subst e2
      exact q
    · have e1 : n ≠ 1 := fun z => e (decide_eq_true (by rw [z]; rfl))
      have hl := (digs_len n).1
      refine ⟨_, rfl, n, rfl, n2, digs n, rfl, by omega, _, _, rfl, rfl, ?_⟩
      have e2 : (cmdT n 0).length = 1 + (digs n).length := by
        unfold cmdT
        rw [if_neg e1, List.length_append, List.length_singleton]
        omega
      rw [e2] at q
      rw [Int.natCast_add] at q
      exact q
def sp_ways_on : Sp := fun vs H Q _ => ∃ (t : T) (b : Addr) (bs : List Nat), vs = [tx t, .ref b] ∧ H b = some (.lst (intv bs)) ∧ t.length < bs.length ∧ t.length ≤ 250 ∧
  ∀ l H' xs, Same H H' → H' l = some (.lst (intv xs)) → xs.length ≤ 1000 → (∀ x, x ∈ xs ↔ (∃ n, 1 ≤ n ∧ n ≤ t.length ∧ x = n + 2 + bs.getD n 0) ∨ (∃ n, 1 ≤ n ∧ n ≤ t.length ∧ Alk t n ∧ x = (cmdT n 0).length + bs.getD n 0)) → Q (.ref l) H'
theorem ok_ways_on (D : Def K mg "_law_ways_on" s_l_ways_on ["_law_cells", "_law_need"]) (fr : Free mg) (Gs : Ok P w K mg base 1 "_law_signs_for" ["_law_n"] sp_signs_for) : Ok P w K mg base 2 "_law_ways_on" ["_law_cells", "_law_need"] sp_ways_on := by
  refine def_ok D sc_l_ways_on (fun vs H Q E h => ?_) fun f cdv A outer s0 H vs Q E hr h => ?_
  · obtain ⟨t, b, bs, rfl, _⟩ := h
    rfl
  · obtain ⟨t, b, bs, rfl, hb, hl, h1, q⟩ := h
    refine ⟨_, pss_cons (ps_set (i := 2) sc_l_ways_on.nd rfl (.inl rfl) (pe_lst pa_nil))
      (pss_cons (ps_set (i := 3) sc_l_ways_on.nd rfl (.inl rfl) pe_bl)
      (pss_cons (ps_for PassesOwn.never rfl (pi_range2 rfl fr.range (pa_cons pe_int (pa_cons (pe_op op_add (pe_callB c_lenT (by rfl) fr.len PySem.boot_len (pa_cons (pv 0) pa_nil)) pe_int) pa_nil))) (pg_name (i := 4) sc_l_ways_on.nd rfl (.inl rfl))
        (pss_cons (ps_expr (pe_bm PySem.F.plainAttrs_list PySem.F.slot_list_append PySem.F.type_list_append mt_append (pv 2) (pa_cons (pe_op op_add (pe_op op_add (pv 4) pe_int) (pe_ix ix_list (pv 1) (pv 4) (fun _ _ => rfl))) pa_nil)))
        (pss_cons (ps_set (i := 3) sc_l_ways_on.nd rfl (.inl rfl) (pe_and (pv 3) (pe_and (pe_cmpR o_eqT (pe_ix ix_txt (pv 0) (pe_op op_sub (pv 4) pe_int) (fun _ _ => rfl)) (pe_ix ix_txt (pv 0) pe_int (fun _ _ => rfl)) (nomark _))
            (pe_one (pe_cmpR (o_inT [32, 35]) (pe_ix ix_txt (pv 0) pe_int (fun _ _ => rfl)) pe_str rfl)))))
        (pss_one (ps_if (pt_val (pv 3)) (pss_one (ps_expr (pe_bm PySem.F.plainAttrs_list PySem.F.slot_list_append PySem.F.type_list_append mt_append (pv 2) (pa_cons (pe_op op_add (pe_f Gs hr (by rfl) (pa_cons (pv 4) pa_nil)) (pe_ix ix_list (pv 1) (pv 4) (fun _ _ => rfl))) pa_nil)))) pss_nil)))))
      (pss_one (ps_ret (pv 2))))), ?_⟩
    refine ⟨by show 0 ≤ sizeLine; decide, fun l nl => ?_⟩
    refine ⟨_, rfl, t, rfl, by omega, _, _, rfl, rfl, 1, _, rfl, ⟨by omega, by omega, by omega, by omega⟩, ?_⟩
    have n1 : ((t.length : Int) + 1 - 1).toNat = t.length := by omega
    refine for_range (lo := 1) (n := ((t.length : Int) + 1 - 1).toNat) (fun i σ H' => ∃ (xs : List Nat) (al : Bool) (y4 : Option V), σ = [some (tx t), some (.ref b), some (.ref l), some (.bl al), y4] ∧ Same H H' ∧ H' l = some (.lst (intv xs)) ∧ xs.length ≤ 2 * i ∧ (al = true ↔ Alk t i) ∧
        (∀ x, x ∈ xs ↔ (∃ n, 1 ≤ n ∧ n ≤ i ∧ x = n + 2 + bs.getD n 0) ∨ (∃ n, 1 ≤ n ∧ n ≤ i ∧ Alk t n ∧ x = (cmdT n 0).length + bs.getD n 0)))
      ⟨[], true, none, rfl, same_new nl, upd_same, Nat.zero_le _, ⟨fun _ => .inl fun j hj => by omega, fun _ => rfl⟩, fun x => ⟨fun h => absurd h (List.not_mem_nil), fun h => by
        rcases h with ⟨n, a1, a2, _⟩ | ⟨n, a1, a2, _⟩ <;> omega⟩⟩ (fun i σ H' hi hP => ?_) fun σ H' hP => ?_
    · obtain ⟨xs, al, y4, rfl, sm, hx, hxl, hal, hmem⟩ := hP
      have hi1 : i < t.length := by omega
      have hbne : b ≠ l := ne_of_none hb nl
      obtain ⟨x0, hx0⟩ : ∃ x, t[0]? = some x := ⟨_, List.getElem?_eq_getElem (by omega)⟩
      obtain ⟨xi, hxi⟩ : ∃ x, t[i]? = some x := ⟨_, List.getElem?_eq_getElem hi1⟩
      have hsz : xs.length < 1000 := by omega
      refine ⟨_, rfl, .inl ⟨rfl, _, SqL.of hx⟩, _, rfl, _, _, rfl, rfl, _, rfl, _, rfl, b, _, _, _, rfl, rfl, SqL.of (sm _ _ hb), intv_at (n := i + 1) (by omega) (by omega), _, _, rfl, rfl, ?_⟩
      refine ⟨l, _, _, rfl, rfl, hx, by rw [intv_len]; exact Nat.lt_of_lt_of_le hsz (big _ (by omega)), ?_⟩
      have hx2 : upd H' l (.lst (intv xs ++ [.int ((1 : Int) + (i : Int) + 2 + ((bs.getD (i + 1) 0 : Nat) : Int))])) l = some (.lst (intv (xs ++ [i + 1 + 2 + bs.getD (i + 1) 0]))) := by
        rw [upd_same, intv_app]
        have : V.int ((1 : Int) + (i : Int) + 2 + ((bs.getD (i + 1) 0 : Nat) : Int)) = V.int ((i + 1 + 2 + bs.getD (i + 1) 0 : Nat) : Int) := congrArg V.int (by omega)
        rw [this]
        rfl
      have sm2 := same_upd (o := .lst (intv xs ++ [.int ((1 : Int) + (i : Int) + 2 + ((bs.getD (i + 1) 0 : Nat) : Int))])) sm nl
      have hb2 := sm2 _ _ hb
      have mem2 : ∀ (al' : Bool) (ys : List Nat), (∀ x, x ∈ ys ↔ al' = true ∧ x = (cmdT (i + 1) 0).length + bs.getD (i + 1) 0) → (al' = true ↔ Alk t (i + 1)) → (∀ x, x ∈ (xs ++ [i + 1 + 2 + bs.getD (i + 1) 0]) ++ ys ↔ (∃ n, 1 ≤ n ∧ n ≤ i + 1 ∧ x = n + 2 + bs.getD n 0) ∨ (∃ n, 1 ≤ n ∧ n ≤ i + 1 ∧ Alk t n ∧ x = (cmdT n 0).length + bs.getD n 0)) := fun al' ys hy hal' x => by
        rw [List.mem_append, List.mem_append, hy, List.mem_singleton, hmem]
        constructor
        · rintro (((⟨n, a1, a2, a3⟩ | ⟨n, a1, a2, a3, a4⟩) | e) | ⟨a1, a2⟩)
          · exact .inl ⟨n, a1, by omega, a3⟩
          · exact .inr ⟨n, a1, by omega, a3, a4⟩
          · exact .inl ⟨i + 1, by omega, Nat.le_refl _, e⟩
          · exact .inr ⟨i + 1, by omega, Nat.le_refl _, hal'.mp a1, a2⟩
        · rintro (⟨n, a1, a2, a3⟩ | ⟨n, a1, a2, a3, a4⟩)
          · by_cases e : n = i + 1
            · subst e
              exact .inl (.inr a3)
            · exact .inl (.inl (.inl ⟨n, a1, by omega, a3⟩))
          · by_cases e : n = i + 1
            · subst e
              exact .inr ⟨hal'.mpr a3, a4⟩
            · exact .inl (.inl (.inr ⟨n, a1, by omega, a3, a4⟩))
      generalize upd H' l (.lst (intv xs ++ [.int ((1 : Int) + (i : Int) + 2 + ((bs.getD (i + 1) 0 : Nat) : Int))])) = H3 at hx2 sm2 hb2 ⊢
      have stop : ¬ Alk t (i + 1) → ∀ x, x ∈ (xs ++ [i + 1 + 2 + bs.getD (i + 1) 0]) ↔ (∃ n, 1 ≤ n ∧ n ≤ i + 1 ∧ x = n + 2 + bs.getD n 0) ∨ (∃ n, 1 ≤ n ∧ n ≤ i + 1 ∧ Alk t n ∧ x = (cmdT n 0).length + bs.getD n 0) := fun hn => by
        have z := mem2 false [] (fun x => ⟨fun h => absurd h (List.not_mem_nil), fun h => Bool.noConfusion h.1⟩) ⟨fun h => Bool.noConfusion h, fun h => absurd h hn⟩
        rw [List.append_nil] at z
        exact z
      have hlen1 : (xs ++ [i + 1 + 2 + bs.getD (i + 1) 0]).length ≤ 2 * (i + 1) := by
        rw [List.length_append, List.length_singleton]
        omega
      have hsucc := alk_succ hx0 hxi
      refine ⟨_, rfl, _, rfl, ite2 (fun e1 => ?_) fun e1 => ?_⟩
      · refine ⟨_, rfl, _, rfl, _, _, rfl, rfl, t, _, xi, rfl, rfl, by omega, txt_at hxi (by omega), _, rfl, t, _, x0, rfl, rfl, by omega, txt_at hx0 rfl, [xi], [x0], rfl, rfl, _, rfl, ite2 (fun e2 => ?_) fun e2 => ?_⟩
        · have exx : xi = x0 := (List.cons.inj (of_decide_eq_true e2)).1
          refine ⟨_, rfl, t, _, x0, rfl, rfl, by omega, txt_at hx0 rfl, x0, rfl, lit_sb, ?_⟩
          refine ⟨_, rfl, _, rfl, ite2 (fun e3 => ?_) fun e3 => ?_⟩
          · have hk : Alk t (i + 1) := hsucc.mpr ⟨hal.mp e1, exx, of_decide_eq_true e3⟩
            refine ⟨_, rfl, .inl ⟨rfl, _, SqL.of hx2⟩, _, rfl, i + 1, congrArg (fun z => [V.int z]) (by omega), by omega, by omega, _, rfl, _, rfl, b, _, _, _, rfl, rfl, SqL.of hb2, intv_at (n := i + 1) (by omega) (by omega), _, _, rfl, rfl, ?_⟩
            refine ⟨l, _, _, rfl, rfl, hx2, by rw [intv_len, List.length_append, List.length_singleton]; exact Nat.lt_of_lt_of_le (show xs.length + 1 < 1001 by omega) (big _ (by omega)), ?_⟩
            refine ⟨xs ++ [i + 1 + 2 + bs.getD (i + 1) 0] ++ [(cmdT (i + 1) 0).length + bs.getD (i + 1) 0], true, _, by rw [e3]; rfl, same_upd sm2 nl, ?_, ?_, ⟨fun _ => hk, fun _ => rfl⟩, ?_⟩
            · rw [upd_same, intv_app (xs ++ _)]
              have : V.int (((cmdT (i + 1) 0).length : Int) + ((bs.getD (i + 1) 0 : Nat) : Int)) = V.int (((cmdT (i + 1) 0).length + bs.getD (i + 1) 0 : Nat) : Int) := congrArg V.int (by omega)
              exact congrArg (fun z => some (HO.lst (intv (xs ++ [i + 1 + 2 + bs.getD (i + 1) 0]) ++ [z]))) this
            · rw [List.length_append, List.length_append, List.length_singleton, List.length_singleton]
              omega
            · refine mem2 true _ (fun x => ?_) ⟨fun _ => hk, fun _ => rfl⟩
              rw [List.mem_singleton]
              exact ⟨fun h => ⟨rfl, h⟩, fun h => h.2⟩
          · have hk : ¬ Alk t (i + 1) := fun z => e3 (decide_eq_true (hsucc.mp z).2.2)
            exact ⟨_, _, _, rfl, sm2, hx2, hlen1, ⟨fun h => absurd h e3, fun h => absurd h hk⟩, stop hk⟩
        · have hk : ¬ Alk t (i + 1) := fun z => e2 (decide_eq_true (by rw [(hsucc.mp z).2.1]))
          exact ⟨_, rfl, _, rfl, iteF ⟨_, false, _, rfl, sm2, hx2, hlen1, ⟨fun h => Bool.noConfusion h, fun h => absurd h hk⟩, stop hk⟩⟩
      · have hk : ¬ Alk t (i + 1) := fun z => e1 (hal.mpr (hsucc.mp z).1)
        exact ⟨_, rfl, _, rfl, iteF ⟨_, false, _, rfl, sm2, hx2, hlen1, ⟨fun h => Bool.noConfusion h, fun h => absurd h hk⟩, stop hk⟩⟩
    · obtain ⟨xs, al, y4, rfl, sm, hx, hxl, hal, hmem⟩ := hP
      rw [n1] at hmem hxl
      exact ⟨_, rfl, q l H' xs sm hx (by omega) hmem⟩
end
end Kl
set_option Elab.async false
set_option linter.all false
set_option maxRecDepth 100000
set_option maxHeartbeats 4000000
namespace Kl
open PySem PySem.Spec PyProof.Rows L2 Kw
theorem flat_len {m : Nat} : ∀ {p : Pg}, (∀ t ∈ p, t.length ≤ m) → p.flatten.length ≤ p.length * m
  | [], _ => by simp
  | t :: p, h => by
    have a := h t List.mem_cons_self
    have b := flat_len (p := p) fun u hu => h u (List.mem_cons_of_mem _ hu)
    rw [List.flatten_cons, List.length_append, List.length_cons, Nat.add_mul]
    omega
theorem rowOf_len {p : Pg} {i m : Nat} (h : ∀ t ∈ p, t.length ≤ m) : (rowOf p i).length ≤ m := by
  unfold rowOf
  rw [List.getD_eq_getElem?_getD]
  cases e : p[i]? with
  | none => exact Nat.zero_le _
  | some t => exact h t (List.mem_of_getElem? e)
theorem isBl_rest {p : Pg} {r : Nat} : isBl (p.drop (r + 1)).flatten ↔ ∀ i, r < i → i < p.length → isBl (rowOf p i) := by
  constructor
  · intro h i h1 h2 x hx
    refine h x (List.mem_flatten.mpr ⟨rowOf p i, ?_, hx⟩)
    have : (p.drop (r + 1))[i - (r + 1)]? = some (rowOf p i) := by
      rw [List.getElem?_drop, show r + 1 + (i - (r + 1)) = i by omega]
      unfold rowOf
      rw [List.getD_eq_getElem?_getD, List.getElem?_eq_getElem h2]
      rfl
    exact List.mem_of_getElem? this
  · intro h x hx
    obtain ⟨t, ht, hxt⟩ := List.mem_flatten.mp hx
    obtain ⟨i, hi⟩ := List.getElem?_of_mem ht
    rw [List.getElem?_drop] at hi
    have hl := (List.getElem?_eq_some_iff.mp hi).1
    have e : rowOf p (r + 1 + i) = t := by
      unfold rowOf
      rw [List.getD_eq_getElem?_getD, hi]
      rfl
    refine h (r + 1 + i) (by omega) hl x ?_
    rw [e]
    exact hxt
section
variable {P : Program} {w : World} {K : PySem.W.Frag} {mg : Str → Option Value} {base : Heap}
def sp_ways_down : Sp := fun vs H Q _ => ∃ (a b : Addr) (p : Pg) (r : Nat) (bs : List Nat), vs = [.ref a, .int (r : Int), .ref b] ∧ H a = some (.tup (pgv p)) ∧ (∀ t ∈ p, t.length ≤ 250) ∧ p.length ≤ 250 ∧ r < p.length ∧ H b = some (.lst (intv bs)) ∧ bs.length = p.length + 1 ∧
  ∀ l H' xs, Same H H' → H' l = some (.lst (intv xs)) → xs.length ≤ 1000 → (∀ x, x ∈ xs ↔ (∃ n, 1 ≤ n ∧ r + n ≤ p.length ∧ (∀ i, 1 ≤ i → i < n → isBl (rowOf p (r + i))) ∧ x = (cmdT n 0).length + bs.getD (r + n) 0) ∨ ((∀ i, r < i → i < p.length → isBl (rowOf p i)) ∧ x = 1)) → Q (.ref l) H'
theorem ok_ways_down (D : Def K mg "_law_ways_down" s_l_ways_down ["_law_rows", "_law_row", "_law_below"]) (fr : Free mg) (Gs : Ok P w K mg base 1 "_law_signs_for" ["_law_n"] sp_signs_for) : Ok P w K mg base 2 "_law_ways_down" ["_law_rows", "_law_row", "_law_below"] sp_ways_down := by
  refine def_ok D sc_l_ways_down (fun vs H Q E h => ?_) fun f cdv A outer s0 H vs Q E hr h => ?_
  · obtain ⟨a, b, p, r, bs, rfl, _⟩ := h
    rfl
  · obtain ⟨a, b, p, r, bs, rfl, ha, hw, h1, hrl, hb, hbl, q⟩ := h
    refine ⟨_, pss_cons (ps_set (i := 3) sc_l_ways_down.nd rfl (.inl rfl) (pe_lst pa_nil))
      (pss_cons (ps_set (i := 4) sc_l_ways_down.nd rfl (.inl rfl) pe_int)
      (C8.pss_cut (ps_while PassesOwn.never (PW.pt (pw_or (pt_cmpR op_eq (pv 4) pe_int (nomark _)) (pw_or1 (PW.pt (pw_and (pt_cmpR op_le (pe_op op_add (pv 1) (pv 4)) (pe_callB call_len (by rfl) fr.len PySem.boot_len (pa_cons (pv 0) pa_nil)) (nomark _))
            (pw_and1 (pt_cmpR o_eqT (pe_bm PySem.F.plainAttrs_str PySem.F.slot_str_strip PySem.F.type_str_strip m_stripT (pe_ix ix_tup (pv 0) (pe_op op_sub (pe_op op_add (pv 1) (pv 4)) pe_int) (fun _ _ => rfl)) (pa_cons pe_str pa_nil)) pe_str (nomark _))))))))
        (pss_cons (ps_expr (pe_bm PySem.F.plainAttrs_list PySem.F.slot_list_append PySem.F.type_list_append mt_append (pv 3) (pa_cons (pe_op op_add (pe_f Gs hr (by rfl) (pa_cons (pv 4) pa_nil)) (pe_ix ix_list (pv 2) (pe_op op_add (pv 1) (pv 4)) (fun _ _ => rfl))) pa_nil)))
        (pss_one (ps_set (i := 4) sc_l_ways_down.nd rfl (.inl rfl) (pe_op op_add (pv 4) pe_int)))))
      (pss_cons (ps_if (pt_cmpR o_eqT (pe_bm PySem.F.plainAttrs_str PySem.F.slot_str_strip PySem.F.type_str_strip m_stripT
            (pe_bm PySem.F.plainAttrs_str PySem.F.slot_str_join PySem.F.type_str_join m_joinT pe_str (pa_cons (pe_slice sl_tup (pv 0) (po_some (pe_op op_add (pv 1) pe_int)) po_none) pa_nil)) (pa_cons pe_str pa_nil)) pe_str (nomark _))
          (pss_one (ps_expr (pe_bm PySem.F.plainAttrs_list PySem.F.slot_list_append PySem.F.type_list_append mt_append (pv 3) (pa_cons pe_int pa_nil)))) pss_nil)
      (pss_one (ps_ret (pv 3)))))), ?_⟩
    refine ⟨by show 0 ≤ sizeLine; decide, fun l nl => ?_⟩
    refine ⟨fun σ' H' => ∃ (n : Nat) (xs : List Nat), σ' = [some (.ref a), some (.int (r : Int)), some (.ref b), some (.ref l), some (.int (n : Int))] ∧ Same H H' ∧ H' l = some (.lst (intv xs)) ∧ xs.length ≤ 300 ∧
      (∀ x, x ∈ xs ↔ ∃ n, 1 ≤ n ∧ r + n ≤ p.length ∧ (∀ i, 1 ≤ i → i < n → isBl (rowOf p (r + i))) ∧ x = (cmdT n 0).length + bs.getD (r + n) 0), ?_, ?_⟩
    rotate_left
    · rintro σ' H' ⟨n, xs, rfl, sm, hx, hxl, hmem⟩
      have hcut : cutV (pgv p) (some ((r : Int) + 1)) none = (p.drop (r + 1)).map tx := by
        have e := cut_drop (pgv p) (i := r + 1) (by unfold pgv; rw [List.length_map]; omega)
        have e2 : ((r + 1 : Nat) : Int) = (r : Int) + 1 := by omega
        rw [e2] at e
        rw [e]
        unfold pgv
        rw [List.map_drop]
      have hfl := flat_len (p := p.drop (r + 1)) (m := 250) fun t ht => hw t (List.mem_of_mem_drop ht)
      have hdl : (p.drop (r + 1)).length * 250 ≤ 250 * 250 := Nat.mul_le_mul_right _ (by rw [List.length_drop]; omega)
      refine ⟨rfl, _, rfl, _, rfl, _, _, rfl, rfl, _, rfl, a, _, rfl, SqT.of (sm _ _ ha), ?_, fun l2 nl2 => ?_⟩
      · rintro ⟨z, _⟩
        have e := HT.sIx_nat (pgv p).length 0 (r + 1)
        have e2 : ((r + 1 : Nat) : Int) = (r : Int) + 1 := by omega
        rw [e2] at e
        have z2 := e.symm.trans z
        unfold pgv at z2
        rw [List.length_map] at z2
        omega
      · refine ⟨l2, p.drop (r + 1), lit_e, rfl, .inr ?_, by omega, rfl, _, rfl, congrArg (· :: []) lit_sp, by omega, fun u _ hu => ?_⟩
        · rw [← hcut]
          exact SqT.of upd_same
        have sm2 := sm.trans (same_new nl2 (o := .tup (cutV (pgv p) (some ((r : Int) + 1)) none)))
        have hx2 := same_new nl2 (o := .tup (cutV (pgv p) (some ((r : Int) + 1)) none)) _ _ hx
        refine ⟨u, [], rfl, lit_e, _, rfl, ite2 (fun e5 => ?_) fun e5 => ?_⟩
        · have hall := isBl_rest.mp (hu.mp (of_decide_eq_true e5))
          refine ⟨_, rfl, .inl ⟨rfl, _, SqL.of hx2⟩, l, _, _, rfl, rfl, hx2, by rw [intv_len]; exact Nat.lt_of_lt_of_le (show xs.length < 1000 by omega) (big _ (by omega)), ?_⟩
          refine ⟨_, rfl, q l _ (xs ++ [1]) (same_upd sm2 nl) ?_ ?_ fun x => ?_⟩
          · rw [upd_same, intv_app]
            rfl
          · rw [List.length_append, List.length_singleton]
            omega
          · rw [List.mem_append, List.mem_singleton, hmem]
            exact or_congr Iff.rfl ⟨fun h => ⟨hall, h⟩, fun h => h.2⟩
        · refine ⟨_, rfl, q l _ xs sm2 hx2 (by omega) fun x => ?_⟩
          rw [hmem]
          exact ⟨.inl, fun h => h.elim id fun h => absurd (decide_eq_true (hu.mpr (isBl_rest.mpr h.1))) e5⟩
    refine ⟨fun m σ H' => ∃ (n : Nat) (xs : List Nat), σ = [some (.ref a), some (.int (r : Int)), some (.ref b), some (.ref l), some (.int (n : Int))] ∧ 1 ≤ n ∧ r + n + m = p.length + 1 ∧ Same H H' ∧ H' l = some (.lst (intv xs)) ∧ xs.length ≤ n ∧
        (∀ i, 1 ≤ i → i + 1 < n → isBl (rowOf p (r + i))) ∧ (∀ x, x ∈ xs ↔ ∃ n', 1 ≤ n' ∧ n' < n ∧ x = (cmdT n' 0).length + bs.getD (r + n') 0),
      ⟨p.length - r, 1, [], rfl, Nat.le_refl _, by omega, same_new nl, upd_same, Nat.zero_le _, fun i a1 a2 => by omega, fun x => ⟨fun h => absurd h (List.not_mem_nil), fun ⟨n', a1, a2, _⟩ => by omega⟩⟩, ?_⟩
    rintro m σ H' ⟨n, xs, rfl, n1, hm, sm, hx, hxl, hB, hmem⟩
    have ha2 := sm _ _ ha
    have hb2 := sm _ _ hb
    have turn : r + n ≤ p.length → (∀ i, 1 ≤ i → i < n → isBl (rowOf p (r + i))) → n < 1000 → True := fun _ _ _ => trivial
    have step : ∀ {H2 : Hp} {z : Int}, z = ((cmdT n 0).length + bs.getD (r + n) 0 : Nat) → H2 = upd H' l (.lst (intv xs ++ [.int z])) → (∀ i, 1 ≤ i → i < n → isBl (rowOf p (r + i))) → r + n ≤ p.length → ∃ xs' : List Nat, Same H H2 ∧ H2 l = some (.lst (intv xs')) ∧ xs'.length ≤ n + 1 ∧ (∀ i, 1 ≤ i → i + 1 < n + 1 → isBl (rowOf p (r + i))) ∧ (∀ x, x ∈ xs' ↔ ∃ n', 1 ≤ n' ∧ n' < n + 1 ∧ x = (cmdT n' 0).length + bs.getD (r + n') 0) := by
      rintro H2 z rfl rfl hB2 hle
      refine ⟨xs ++ [(cmdT n 0).length + bs.getD (r + n) 0], same_upd sm nl, ?_, ?_, fun i a1 a2 => hB2 i a1 (by omega), fun x => ?_⟩
      · rw [upd_same, intv_app]
        rfl
      · rw [List.length_append, List.length_singleton]
        omega
      · rw [List.mem_append, List.mem_singleton, hmem]
        constructor
        · rintro (⟨n', a1, a2, a3⟩ | e)
          · exact ⟨n', a1, by omega, a3⟩
          · exact ⟨n, n1, by omega, e⟩
        · rintro ⟨n', a1, a2, a3⟩
          by_cases e : n' = n
          · subst e
            exact .inr a3
          · exact .inl ⟨n', a1, by omega, a3⟩
    have leave : (¬ r + n ≤ p.length ∨ ¬ isBl (rowOf p (r + n - 1))) → 1 < n → ∀ x, (∃ n', 1 ≤ n' ∧ n' < n ∧ x = (cmdT n' 0).length + bs.getD (r + n') 0) ↔ ∃ n, 1 ≤ n ∧ r + n ≤ p.length ∧ (∀ i, 1 ≤ i → i < n → isBl (rowOf p (r + i))) ∧ x = (cmdT n 0).length + bs.getD (r + n) 0 := by
      intro hc hn x
      constructor
      · rintro ⟨n', a1, a2, a3⟩
        exact ⟨n', a1, by omega, fun i b1 b2 => hB i b1 (by omega), a3⟩
      · rintro ⟨n', a1, a2, a3, a4⟩
        by_cases e : n' < n
        · exact ⟨n', a1, e, a4⟩
        · rcases hc with z | z
          · omega
          · have := a3 (n - 1) (by omega) (by omega)
            rw [show r + (n - 1) = r + n - 1 by omega] at this
            exact absurd this z
    refine ⟨_, rfl, rfl, _, rfl, ite2 (fun e => ?_) fun e => ?_⟩
    · have e1 : n = 1 := by
        have : (n : Int) = 1 := V.int.inj (of_decide_eq_true e)
        omega
      refine iteT ⟨fun σ' H'' => ∃ xs' : List Nat, σ' = [some (.ref a), some (.int (r : Int)), some (.ref b), some (.ref l), some (.int ((n + 1 : Nat) : Int))] ∧ Same H H'' ∧ H'' l = some (.lst (intv xs')) ∧ xs'.length ≤ n + 1 ∧ (∀ i, 1 ≤ i → i + 1 < n + 1 → isBl (rowOf p (r + i))) ∧ (∀ x, x ∈ xs' ↔ ∃ n', 1 ≤ n' ∧ n' < n + 1 ∧ x = (cmdT n' 0).length + bs.getD (r + n') 0), ?_, ?_⟩
      · rintro σ' H'' ⟨xs', rfl, b1, b2, b3, b4, b5⟩
        exact ⟨m - 1, by omega, n + 1, xs', rfl, by omega, by omega, b1, b2, b3, b4, b5⟩
      · refine ⟨_, rfl, .inl ⟨rfl, _, SqL.of hx⟩, _, rfl, n, rfl, n1, by omega, _, rfl, _, rfl, _, rfl, _, _, rfl, rfl, b, _, _, _, rfl, rfl, SqL.of hb2, intv_at (n := r + n) (by omega) (by omega), _, _, rfl, rfl, ?_⟩
        refine ⟨l, _, _, rfl, rfl, hx, by rw [intv_len]; exact Nat.lt_of_lt_of_le (show xs.length < 1000 by omega) (big _ (by omega)), ?_⟩
        obtain ⟨xs', b1, b2, b3, b4, b5⟩ := step (z := ((cmdT n 0).length : Int) + ((bs.getD (r + n) 0 : Nat) : Int)) (by omega) rfl (fun i a1 a2 => by omega) (by omega)
        exact ⟨_, rfl, _, _, rfl, rfl, xs', rfl, b1, b2, b3, b4, b5⟩
    · have e1 : 1 < n := by
        have : n ≠ 1 := fun z => e (decide_eq_true (by rw [z]; rfl))
        omega
      have out : (¬ r + n ≤ p.length ∨ ¬ isBl (rowOf p (r + n - 1))) → ∃ (n' : Nat) (xs' : List Nat), [some (.ref a), some (.int (r : Int)), some (.ref b), some (.ref l), some (.int (n : Int))] = [some (V.ref a), some (.int (r : Int)), some (.ref b), some (.ref l), some (.int (n' : Int))] ∧ Same H H' ∧ H' l = some (.lst (intv xs')) ∧ xs'.length ≤ 300 ∧
          (∀ x, x ∈ xs' ↔ ∃ n, 1 ≤ n ∧ r + n ≤ p.length ∧ (∀ i, 1 ≤ i → i < n → isBl (rowOf p (r + i))) ∧ x = (cmdT n 0).length + bs.getD (r + n) 0) := fun hc =>
        ⟨n, xs, rfl, sm, hx, by omega, fun x => (hmem x).trans (leave hc e1 x)⟩
      refine ⟨_, rfl, _, rfl, _, _, rfl, rfl, _, rfl, _, _, rfl, .inr ⟨_, SqT.of ha2, rfl⟩, _, _, rfl, rfl, _, rfl, ite2 (fun e2 => ?_) fun e2 => ?_⟩
      · have e3 := of_decide_eq_true e2
        unfold pgv at e3
        rw [List.length_map] at e3
        have e4 : r + n ≤ p.length := by omega
        have hrow := rowOf_len (i := r + n - 1) hw
        refine ⟨_, rfl, _, rfl, _, rfl, _, _, rfl, rfl, _, _, rfl, rfl, _, _, _, _, rfl, rfl, SqT.of ha2, row_atI p (i := r + n - 1) (by omega) (by omega), rfl, _, rfl, congrArg (· :: []) lit_sp, by omega, fun u _ hu => ?_⟩
        refine ⟨u, [], rfl, lit_e, _, rfl, ite2 (fun e5 => ?_) fun e5 => ?_⟩
        · have hbl2 : isBl (rowOf p (r + n - 1)) := hu.mp (of_decide_eq_true e5)
          refine ⟨fun σ' H'' => ∃ xs' : List Nat, σ' = [some (.ref a), some (.int (r : Int)), some (.ref b), some (.ref l), some (.int ((n + 1 : Nat) : Int))] ∧ Same H H'' ∧ H'' l = some (.lst (intv xs')) ∧ xs'.length ≤ n + 1 ∧ (∀ i, 1 ≤ i → i + 1 < n + 1 → isBl (rowOf p (r + i))) ∧ (∀ x, x ∈ xs' ↔ ∃ n', 1 ≤ n' ∧ n' < n + 1 ∧ x = (cmdT n' 0).length + bs.getD (r + n') 0), ?_, ?_⟩
          · rintro σ' H'' ⟨xs', rfl, b1, b2, b3, b4, b5⟩
            exact ⟨m - 1, by omega, n + 1, xs', rfl, by omega, by omega, b1, b2, b3, b4, b5⟩
          · refine ⟨_, rfl, .inl ⟨rfl, _, SqL.of hx⟩, _, rfl, n, rfl, n1, by omega, _, rfl, _, rfl, _, rfl, _, _, rfl, rfl, b, _, _, _, rfl, rfl, SqL.of hb2, intv_at (n := r + n) (by omega) (by omega), _, _, rfl, rfl, ?_⟩
            refine ⟨l, _, _, rfl, rfl, hx, by rw [intv_len]; exact Nat.lt_of_lt_of_le (show xs.length < 1000 by omega) (big _ (by omega)), ?_⟩
            obtain ⟨xs', b1, b2, b3, b4, b5⟩ := step (z := ((cmdT n 0).length : Int) + ((bs.getD (r + n) 0 : Nat) : Int)) (by omega) rfl (fun i a1 a2 => by
              by_cases ei : i = n - 1
              · rw [ei, show r + (n - 1) = r + n - 1 by omega]
                exact hbl2
              · exact hB i a1 (by omega)) e4
            exact ⟨_, rfl, _, _, rfl, rfl, xs', rfl, b1, b2, b3, b4, b5⟩
        · exact out (.inr fun z => e5 (decide_eq_true (hu.mpr z)))
      · exact iteF (out (.inl fun z => e2 (decide_eq_true (by unfold pgv; rw [List.length_map]; omega))))
def sp_ways_alike : Sp := fun vs H Q _ => ∃ (a b : Addr) (p : Pg) (r : Nat) (bs : List Nat), vs = [.ref a, .int (r : Int), .ref b] ∧ H a = some (.tup (pgv p)) ∧ p.length ≤ 250 ∧ r < p.length ∧ H b = some (.lst (intv bs)) ∧ bs.length = p.length + 1 ∧
  ∀ l H' xs, Same H H' → H' l = some (.lst (intv xs)) → xs.length ≤ 1000 → (∀ x, x ∈ xs ↔ (∃ n, 1 ≤ n ∧ r ≠ 0 ∧ r + n ≤ p.length ∧ (∀ i, i < n → rowOf p (r + i) = rowOf p (r - 1)) ∧ x = (cmdT n 0).length + bs.getD (r + n) 0)) → Q (.ref l) H'
theorem ok_ways_alike (D : Def K mg "_law_ways_alike" s_l_ways_alike ["_law_rows", "_law_row", "_law_below"]) (fr : Free mg) (Gs : Ok P w K mg base 1 "_law_signs_for" ["_law_n"] sp_signs_for) : Ok P w K mg base 2 "_law_ways_alike" ["_law_rows", "_law_row", "_law_below"] sp_ways_alike := by
  refine def_ok D sc_l_ways_alike (fun vs H Q E h => ?_) fun f cdv A outer s0 H vs Q E hr h => ?_
  · obtain ⟨a, b, p, r, bs, rfl, _⟩ := h
    rfl
  · obtain ⟨a, b, p, r, bs, rfl, ha, h1, hrl, hb, hbl, q⟩ := h
    refine ⟨_, pss_cons (ps_set (i := 3) sc_l_ways_alike.nd rfl (.inl rfl) (pe_lst pa_nil))
      (pss_cons (ps_set (i := 4) sc_l_ways_alike.nd rfl (.inl rfl) pe_int)
      (C8.pss_cut (ps_while PassesOwn.never (PW.pt (pw_and (pt_cmpR op_gt (pv 1) pe_int (nomark _)) (pw_and (pt_cmpR op_le (pe_op op_add (pv 1) (pv 4)) (pe_callB call_len (by rfl) fr.len PySem.boot_len (pa_cons (pv 0) pa_nil)) (nomark _))
            (pw_and1 (pt_cmpR o_eqT (pe_ix ix_tup (pv 0) (pe_op op_sub (pe_op op_add (pv 1) (pv 4)) pe_int) (fun _ _ => rfl)) (pe_ix ix_tup (pv 0) (pe_op op_sub (pv 1) pe_int) (fun _ _ => rfl)) (nomark _))))))
        (pss_cons (ps_expr (pe_bm PySem.F.plainAttrs_list PySem.F.slot_list_append PySem.F.type_list_append mt_append (pv 3) (pa_cons (pe_op op_add (pe_f Gs hr (by rfl) (pa_cons (pv 4) pa_nil)) (pe_ix ix_list (pv 2) (pe_op op_add (pv 1) (pv 4)) (fun _ _ => rfl))) pa_nil)))
        (pss_one (ps_set (i := 4) sc_l_ways_alike.nd rfl (.inl rfl) (pe_op op_add (pv 4) pe_int)))))
      (pss_one (ps_ret (pv 3))))), ?_⟩
    refine ⟨by show 0 ≤ sizeLine; decide, fun l nl => ?_⟩
    refine ⟨fun σ' H' => ∃ (n : Nat) (xs : List Nat), σ' = [some (.ref a), some (.int (r : Int)), some (.ref b), some (.ref l), some (.int (n : Int))] ∧ Same H H' ∧ H' l = some (.lst (intv xs)) ∧ xs.length ≤ 300 ∧
      (∀ x, x ∈ xs ↔ ∃ n, 1 ≤ n ∧ r ≠ 0 ∧ r + n ≤ p.length ∧ (∀ i, i < n → rowOf p (r + i) = rowOf p (r - 1)) ∧ x = (cmdT n 0).length + bs.getD (r + n) 0), ?_, ?_⟩
    rotate_left
    · rintro σ' H' ⟨n, xs, rfl, sm, hx, hxl, hmem⟩
      exact ⟨_, rfl, q l _ xs sm hx (by omega) hmem⟩
    refine ⟨fun m σ H' => ∃ (n : Nat) (xs : List Nat), σ = [some (.ref a), some (.int (r : Int)), some (.ref b), some (.ref l), some (.int (n : Int))] ∧ 1 ≤ n ∧ r + n + m = p.length + 1 ∧ Same H H' ∧ H' l = some (.lst (intv xs)) ∧ xs.length ≤ n ∧
        (∀ i, i + 1 < n → r ≠ 0 ∧ rowOf p (r + i) = rowOf p (r - 1)) ∧ (∀ x, x ∈ xs ↔ ∃ n', 1 ≤ n' ∧ n' < n ∧ x = (cmdT n' 0).length + bs.getD (r + n') 0),
      ⟨p.length - r, 1, [], rfl, Nat.le_refl _, by omega, same_new nl, upd_same, Nat.zero_le _, fun i a1 => by omega, fun x => ⟨fun h => absurd h (List.not_mem_nil), fun ⟨n', a1, a2, _⟩ => by omega⟩⟩, ?_⟩
    rintro m σ H' ⟨n, xs, rfl, n1, hm, sm, hx, hxl, hB, hmem⟩
    have ha2 := sm _ _ ha
    have hb2 := sm _ _ hb
    have step : ∀ {H2 : Hp} {z : Int}, z = ((cmdT n 0).length + bs.getD (r + n) 0 : Nat) → H2 = upd H' l (.lst (intv xs ++ [.int z])) → (∀ i, i < n → r ≠ 0 ∧ rowOf p (r + i) = rowOf p (r - 1)) → r + n ≤ p.length → ∃ xs' : List Nat, Same H H2 ∧ H2 l = some (.lst (intv xs')) ∧ xs'.length ≤ n + 1 ∧ (∀ i, i + 1 < n + 1 → r ≠ 0 ∧ rowOf p (r + i) = rowOf p (r - 1)) ∧ (∀ x, x ∈ xs' ↔ ∃ n', 1 ≤ n' ∧ n' < n + 1 ∧ x = (cmdT n' 0).length + bs.getD (r + n') 0) := by
      rintro H2 z rfl rfl hB2 hle
      refine ⟨xs ++ [(cmdT n 0).length + bs.getD (r + n) 0], same_upd sm nl, ?_, ?_, fun i a1 => hB2 i (by omega), fun x => ?_⟩
      · rw [upd_same, intv_app]
        rfl
      · rw [List.length_append, List.length_singleton]
        omega
      · rw [List.mem_append, List.mem_singleton, hmem]
        constructor
        · rintro (⟨n', a1, a2, a3⟩ | e)
          · exact ⟨n', a1, by omega, a3⟩
          · exact ⟨n, n1, by omega, e⟩
        · rintro ⟨n', a1, a2, a3⟩
          by_cases e : n' = n
          · subst e
            exact .inr a3
          · exact .inl ⟨n', a1, by omega, a3⟩
    have out : (r = 0 ∨ ¬ r + n ≤ p.length ∨ ¬ rowOf p (r + n - 1) = rowOf p (r - 1)) → ∃ (n' : Nat) (xs' : List Nat), [some (.ref a), some (.int (r : Int)), some (.ref b), some (.ref l), some (.int (n : Int))] = [some (V.ref a), some (.int (r : Int)), some (.ref b), some (.ref l), some (.int (n' : Int))] ∧ Same H H' ∧ H' l = some (.lst (intv xs')) ∧ xs'.length ≤ 300 ∧
        (∀ x, x ∈ xs' ↔ ∃ n, 1 ≤ n ∧ r ≠ 0 ∧ r + n ≤ p.length ∧ (∀ i, i < n → rowOf p (r + i) = rowOf p (r - 1)) ∧ x = (cmdT n 0).length + bs.getD (r + n) 0) := fun hc =>
      ⟨n, xs, rfl, sm, hx, by omega, fun x => (hmem x).trans (by
        constructor
        · rintro ⟨n', a1, a2, a3⟩
          exact ⟨n', a1, (hB 0 (by omega)).1, by omega, fun i b1 => (hB i (by omega)).2, a3⟩
        · rintro ⟨n', a1, a0, a2, a3, a4⟩
          by_cases e : n' < n
          · exact ⟨n', a1, e, a4⟩
          · rcases hc with z | z | z
            · exact absurd z a0
            · omega
            · have := a3 (n - 1) (by omega)
              rw [show r + (n - 1) = r + n - 1 by omega] at this
              exact absurd this z)⟩
    refine ⟨_, rfl, _, _, rfl, rfl, _, rfl, ite2 (fun e1 => ?_) fun e1 => ?_⟩
    · have r0 : r ≠ 0 := fun z => by
        have := of_decide_eq_true e1
        omega
      refine ⟨_, rfl, _, rfl, _, _, rfl, rfl, _, rfl, _, _, rfl, .inr ⟨_, SqT.of ha2, rfl⟩, _, _, rfl, rfl, _, rfl, ite2 (fun e2 => ?_) fun e2 => ?_⟩
      · have e3 := of_decide_eq_true e2
        unfold pgv at e3
        rw [List.length_map] at e3
        have e4 : r + n ≤ p.length := by omega
        refine ⟨_, rfl, _, rfl, _, rfl, _, _, rfl, rfl, _, _, rfl, rfl, _, _, _, _, rfl, rfl, SqT.of ha2, row_atI p (i := r + n - 1) (by omega) (by omega), _, rfl, _, rfl, _, _, rfl, rfl, _, _, _, _, rfl, rfl, SqT.of ha2, row_atI p (i := r - 1) (by omega) (by omega), ?_⟩
        refine ⟨_, _, rfl, rfl, _, rfl, ite2 (fun e5 => ?_) fun e5 => ?_⟩
        · have hbl2 := of_decide_eq_true e5
          refine ⟨fun σ' H'' => ∃ xs' : List Nat, σ' = [some (.ref a), some (.int (r : Int)), some (.ref b), some (.ref l), some (.int ((n + 1 : Nat) : Int))] ∧ Same H H'' ∧ H'' l = some (.lst (intv xs')) ∧ xs'.length ≤ n + 1 ∧ (∀ i, i + 1 < n + 1 → r ≠ 0 ∧ rowOf p (r + i) = rowOf p (r - 1)) ∧ (∀ x, x ∈ xs' ↔ ∃ n', 1 ≤ n' ∧ n' < n + 1 ∧ x = (cmdT n' 0).length + bs.getD (r + n') 0), ?_, ?_⟩
          · rintro σ' H'' ⟨xs', rfl, b1, b2, b3, b4, b5⟩
            exact ⟨m - 1, by omega, n + 1, xs', rfl, by omega, by omega, b1, b2, b3, b4, b5⟩
          · refine ⟨_, rfl, .inl ⟨rfl, _, SqL.of hx⟩, _, rfl, n, rfl, n1, by omega, _, rfl, _, rfl, _, rfl, _, _, rfl, rfl, b, _, _, _, rfl, rfl, SqL.of hb2, intv_at (n := r + n) (by omega) (by omega), _, _, rfl, rfl, ?_⟩
            refine ⟨l, _, _, rfl, rfl, hx, by rw [intv_len]; exact Nat.lt_of_lt_of_le (show xs.length < 1000 by omega) (big _ (by omega)), ?_⟩
            obtain ⟨xs', b1, b2, b3, b4, b5⟩ := step (z := ((cmdT n 0).length : Int) + ((bs.getD (r + n) 0 : Nat) : Int)) (by omega) rfl (fun i a1 => by
              by_cases ei : i = n - 1
              · rw [ei, show r + (n - 1) = r + n - 1 by omega]
                exact ⟨r0, hbl2⟩
              · exact hB i (by omega)) e4
            exact ⟨_, rfl, _, _, rfl, rfl, xs', rfl, b1, b2, b3, b4, b5⟩
        · exact out (.inr (.inr fun z => e5 (decide_eq_true z)))
      · exact iteF (out (.inr (.inl fun z => e2 (decide_eq_true (by unfold pgv; rw [List.length_map]; omega)))))
    · exact iteF (out (.inl (Classical.byContradiction fun z => e1 (decide_eq_true (by omega)))))
end
end Kl
set_option Elab.async false
set_option linter.all false
set_option maxRecDepth 100000
set_option maxHeartbeats 4000000
namespace Kl
open PySem PySem.Spec PyProof.Rows L2 Kw
theorem run_ex (P : Nat → Prop) : ∀ b, ∃ k, RunOf P b k
  | 0 => ⟨0, Nat.le_refl _, fun i h => by omega, fun h => by omega⟩
  | b + 1 => by
    obtain ⟨k, h1, h2, h3⟩ := run_ex P b
    by_cases e : k < b
    · exact ⟨k, by omega, h2, fun _ => h3 e⟩
    · have ek : k = b := by omega
      subst ek
      by_cases hp : P k
      · exact ⟨k + 1, by omega, fun i hi => by
          by_cases ei : i = k
          · rw [ei]; exact hp
          · exact h2 i (by omega), fun h => by omega⟩
      · exact ⟨k, by omega, h2, fun _ => hp⟩
/-- the least of the table's ways is the least number of signs -/
theorem table_min {w h : Nat} {p : Pg} {r c : Nat} (M : Rm w h p r c) {need below : Nat → Nat} (hb : ∀ n, 1 ≤ n → c + n ≤ w → MinLen w p r (c + n) (need n)) (hd : ∀ j, r < j → j ≤ h → MinLen w p j 0 (below j))
    {F : Nat → Prop} {m : Nat} (hm : F m) (hl : ∀ y, F y → m ≤ y)
    (hF : ∀ x, F x ↔ ((∃ n, 1 ≤ n ∧ n ≤ w - c ∧ x = n + 2 + need n) ∨ (∃ n, 1 ≤ n ∧ n ≤ w - c ∧ Alk ((rowOf p r).drop c) n ∧ x = (cmdT n 0).length + need n)) ∨
      (isBl ((rowOf p r).drop c) ∧ ((∃ n, 1 ≤ n ∧ r + n ≤ h ∧ (∀ i, 1 ≤ i → i < n → isBl (rowOf p (r + i))) ∧ x = (cmdT n 0).length + below (r + n)) ∨ ((∀ i, r < i → i < h → isBl (rowOf p i)) ∧ x = 1))) ∨
      (c = 0 ∧ ∃ n, 1 ≤ n ∧ r ≠ 0 ∧ r + n ≤ h ∧ (∀ i, i < n → rowOf p (r + i) = rowOf p (r - 1)) ∧ x = (cmdT n 0).length + below (r + n))) : MinLen w p r c m := by
  obtain ⟨k1, hk1⟩ := run_ex (fun i => ((rowOf p r).drop c)[i]? = some 32) (w - c)
  obtain ⟨k2, hk2⟩ := run_ex (fun i => ((rowOf p r).drop c)[i]? = some 35) (w - c)
  obtain ⟨kd, hkd⟩ := run_ex (fun i => isBl (rowOf p (r + 1 + i))) (h - (r + 1))
  obtain ⟨ka, hka⟩ := run_ex (fun i => rowOf p (r + i) = rowOf p (r - 1)) (h - r)
  have hr := M.hr
  have key : ∀ x, F x ↔ lens (w := w) p h r c need below k1 k2 kd ka x := by
    intro x
    rw [hF]
    unfold lens
    constructor
    · rintro ((⟨n, a1, a2, a3⟩ | ⟨n, a1, a2, a3, a4⟩) | ⟨a0, ⟨n, a1, a2, a3, a4⟩ | ⟨a1, a2⟩⟩ | ⟨a0, n, a1, a2, a3, a4, a5⟩)
      · exact .inl ⟨n, a1, a2, a3⟩
      · refine .inr (.inl ⟨n, a1, ?_, a4⟩)
        rcases a3 with a3 | a3
        · exact .inl (hk1.le a2 a3)
        · exact .inr (hk2.le a2 a3)
      · refine .inr (.inr (.inl ⟨a0, .inl ⟨n, a1, ?_, a4⟩⟩))
        have := hkd.le (n := n - 1) (by omega) fun i hi => by
          rw [show r + 1 + i = r + (i + 1) by omega]
          exact a3 (i + 1) (by omega) (by omega)
        omega
      · refine .inr (.inr (.inl ⟨a0, .inr ⟨?_, a2⟩⟩))
        have := hkd.le (n := h - (r + 1)) (Nat.le_refl _) fun i hi => a1 (r + 1 + i) (by omega) (by omega)
        have := hkd.1
        omega
      · exact .inr (.inr (.inr ⟨⟨a0, a2⟩, n, a1, hka.le (by omega) a4, a5⟩))
    · rintro (⟨n, a1, a2, a3⟩ | ⟨n, a1, a2, a3⟩ | ⟨a0, ⟨n, a1, a2, a3⟩ | ⟨a1, a2⟩⟩ | ⟨⟨a0, a2⟩, n, a1, a3, a4⟩)
      · exact .inl (.inl ⟨n, a1, a2, a3⟩)
      · have z1 := hk1.1
        have z2 := hk2.1
        refine .inl (.inr ⟨n, a1, by omega, ?_, a3⟩)
        rcases a2 with a2 | a2
        · exact .inl fun i hi => hk1.2.1 i (by omega)
        · exact .inr fun i hi => hk2.2.1 i (by omega)
      · have z := hkd.1
        refine .inr (.inl ⟨a0, .inl ⟨n, a1, by omega, fun i b1 b2 => ?_, a3⟩⟩)
        have : isBl (rowOf p (r + 1 + (i - 1))) := hkd.2.1 (i - 1) (by omega)
        rw [show r + 1 + (i - 1) = r + i by omega] at this
        exact this
      · refine .inr (.inl ⟨a0, .inr ⟨fun i b1 b2 => ?_, a2⟩⟩)
        have : isBl (rowOf p (r + 1 + (i - (r + 1)))) := hkd.2.1 (i - (r + 1)) (by omega)
        rw [show r + 1 + (i - (r + 1)) = i by omega] at this
        exact this
      · have z := hka.1
        exact .inr (.inr ⟨a0, n, a1, a2, by omega, fun i hi => hka.2.1 i (by omega), a4⟩)
  exact min_lens M ⟨hk1, hk2, fun _ => hkd, fun _ _ => hka⟩ hb hd ((key m).mp hm) fun x hx => hl x ((key x).mpr hx)
theorem getD_setN {l : List Nat} {i j x : Nat} (h : i < l.length) : (l.set i x).getD j 0 = if j = i then x else l.getD j 0 := by
  rw [List.getD_eq_getElem?_getD, List.getD_eq_getElem?_getD]
  by_cases e : j = i
  · subst e
    rw [if_pos rfl, List.getElem?_set_self h]
    rfl
  · rw [if_neg e, List.getElem?_set_ne (Ne.symm e)]
theorem intv_set (l : List Nat) (i x : Nat) : (intv l).set i (.int (x : Int)) = intv (l.set i x) := by
  unfold intv
  rw [List.map_set]
theorem intv_zero (n : Nat) : List.replicate n (V.int 0) = intv (List.replicate n 0) := by
  unfold intv
  rw [List.map_replicate]
  rfl
theorem intv_ints (xs : List Nat) : intv xs = (xs.map fun n : Nat => (n : Int)).map V.int := by
  unfold intv
  rw [List.map_map]
  rfl
section
variable {P : Program} {w : World} {K : PySem.W.Frag} {mg : Str → Option Value} {base : Heap}
def sp_needs : Sp := fun vs H Q _ => ∃ (a : Addr) (p : Pg) (wd : Nat), vs = [.ref a] ∧ H a = some (.tup (pgv p)) ∧ Right wd p.length p ∧ 1 ≤ wd ∧ wd ≤ 250 ∧ p.length ≤ 250 ∧ ∀ (n : Nat) H', Same H H' → MinLen wd p 0 0 n → Q (.int (n : Int)) H'
theorem ok_needs (D : Def K mg "_law_needs" s_l_needs ["_law_rows"]) (fr : Free mg) (Go : Ok P w K mg base 2 "_law_ways_on" ["_law_cells", "_law_need"] sp_ways_on) (Gd : Ok P w K mg base 2 "_law_ways_down" ["_law_rows", "_law_row", "_law_below"] sp_ways_down)
    (Ga : Ok P w K mg base 2 "_law_ways_alike" ["_law_rows", "_law_row", "_law_below"] sp_ways_alike) : Ok P w K mg base 3 "_law_needs" ["_law_rows"] sp_needs := by
  refine def_ok D sc_l_needs (fun vs H Q E h => ?_) fun f cdv A outer s0 H vs Q E hr h => ?_
  · obtain ⟨a, p, wd, rfl, _⟩ := h
    rfl
  · obtain ⟨a, p, wd, rfl, ha, R, w1, w2, p2, q⟩ := h
    refine ⟨_, pss_cons (ps_set (i := 1) sc_l_needs.nd rfl (.inl rfl) (pe_op op_cat (pe_op op_rep (pe_lst (pa_cons pe_int pa_nil)) (pe_callB call_len (by rfl) fr.len PySem.boot_len (pa_cons (pv 0) pa_nil))) (pe_lst (pa_cons pe_int pa_nil))))
      (pss_cons (ps_for PassesOwn.never rfl (pi_range3 rfl fr.range (pa_cons (pe_op op_sub (pe_callB call_len (by rfl) fr.len PySem.boot_len (pa_cons (pv 0) pa_nil)) pe_int) (pa_cons (pe_un un_neg pe_int) (pa_cons (pe_un un_neg pe_int) pa_nil)))) (pg_name (i := 2) sc_l_needs.nd rfl (.inl rfl))
        (pss_cons (ps_set (i := 3) sc_l_needs.nd rfl (.inl rfl) (pe_callB c_lenT (by rfl) fr.len PySem.boot_len (pa_cons (pe_ix ix_tup (pv 0) (pv 2) (fun _ _ => rfl)) pa_nil)))
        (pss_cons (ps_set (i := 4) sc_l_needs.nd rfl (.inl rfl) (pe_op op_rep (pe_lst (pa_cons pe_int pa_nil)) (pe_op op_add (pv 3) pe_int)))
        (pss_cons (ps_for PassesOwn.never rfl (pi_range3 rfl fr.range (pa_cons (pv 3) (pa_cons (pe_un un_neg pe_int) (pa_cons (pe_un un_neg pe_int) pa_nil)))) (pg_name (i := 5) sc_l_needs.nd rfl (.inl rfl))
          (pss_cons (ps_set (i := 6) sc_l_needs.nd rfl (.inl rfl) (pe_slice sl_txt (pe_ix ix_tup (pv 0) (pv 2) (fun _ _ => rfl)) (po_some (pv 5)) po_none))
          (pss_cons (ps_set (i := 7) sc_l_needs.nd rfl (.inl rfl) (pe_f Go hr (by rfl) (pa_cons (pv 6) (pa_cons (pe_slice sl_list (pv 4) (po_some (pv 5)) po_none) pa_nil))))
          (C8.pss_cut (ps_if (pt_cmpR o_eqT (pe_bm PySem.F.plainAttrs_str PySem.F.slot_str_strip PySem.F.type_str_strip m_stripT (pv 6) (pa_cons pe_str pa_nil)) pe_str (nomark _))
              (pss_one (ps_set (i := 7) sc_l_needs.nd rfl (.inl rfl) (pe_op op_cat (pv 7) (pe_f Gd hr (by rfl) (pa_cons (pv 0) (pa_cons (pv 2) (pa_cons (pv 1) pa_nil))))))) pss_nil)
          (C8.pss_cut (ps_if (pt_cmpR op_eq (pv 5) pe_int (nomark _))
              (pss_one (ps_set (i := 7) sc_l_needs.nd rfl (.inl rfl) (pe_op op_cat (pv 7) (pe_f Ga hr (by rfl) (pa_cons (pv 0) (pa_cons (pv 2) (pa_cons (pv 1) pa_nil))))))) pss_nil)
          (pss_one (ps_asg (pe_callB (cr_min rfl) (by rfl) fr.min (by decide +kernel) (pa_cons (pv 7) pa_nil)) (pg_sub (pv 4) (pv 5) set_list))))))))
        (pss_one (ps_asg (pe_ix ix_list (pv 4) pe_int (fun _ _ => rfl)) (pg_sub (pv 1) (pv 2) set_list)))))))
      (pss_one (ps_ret (pe_ix ix_list (pv 1) pe_int (fun _ _ => rfl))))), ?_⟩
    have pl : (pgv p).length = p.length := List.length_map _
    have small : ∀ t ∈ p, t.length ≤ 250 := fun t ht => by
      rw [R.wid t ht]
      exact w2
    refine ⟨by show 1 ≤ sizeLine; decide, fun l1 n1 => ?_⟩
    refine ⟨_, rfl, _, _, rfl, .inr ⟨_, SqT.of (by rw [upd_ne (ne_of_none ha n1)]; exact ha), rfl⟩, l1, _, _, rfl, rfl, upd_same, by omega, by omega, ?_, fun l2 n2 => ?_⟩
    · rw [pl, sizeLine_eq]
      show 1 * _ ≤ _
      omega
    refine ⟨by show 1 ≤ sizeLine; decide, fun l3 n3 => ?_⟩
    have n23 : l2 ≠ l3 := fun e => by
      rw [← e, upd_same] at n3
      cases n3
    have e2 : ∀ {o : HO}, (upd (upd (upd H l1 (.lst [V.int 0])) l2 (.lst (List.replicate ((pgv p).length : Int).toNat [V.int 0]).flatten)) l3 o) l2 = some (.lst (List.replicate ((pgv p).length : Int).toNat [V.int 0]).flatten) := fun {o} => by
      rw [upd_ne n23, upd_same]
    refine ⟨l2, l3, _, _, rfl, rfl, e2, upd_same, ?_, fun b nb => ?_⟩
    · rw [flat_rep, List.length_replicate, pl, sizeLine_eq]
      simp
      omega
    have sm0 : Same H (upd (upd (upd H l1 (.lst [V.int 0])) l2 (.lst (List.replicate ((pgv p).length : Int).toNat [V.int 0]).flatten)) l3 (.lst [V.int 1])) := (same_new n1).trans ((same_new n2).trans (same_new n3))
    have nbH : H b = none := sm0.free nb
    have sm1 := sm0.trans (same_new (o := .lst ((List.replicate ((pgv p).length : Int).toNat [V.int 0]).flatten ++ [V.int 1])) nb)
    refine ⟨_, rfl, _, _, rfl, .inr ⟨_, SqT.of (sm1 _ _ ha), rfl⟩, _, _, rfl, rfl, 1, rfl, 1, rfl, _, _, _, _, rfl, RgC.neg (by omega) (by omega) (by omega) (by omega), ?_⟩
    rw [pl] at sm1 ⊢
    refine for_rangeC (lo := ((p.length : Int) - 1)) (c := -1) (n := ((p.length : Int) - 1 - -1).toNat)
      (fun i σ H' => ∃ (y2 y3 y4 y5 y6 y7 : Option V) (bs : List Nat), σ = [some (.ref a), some (.ref b), y2, y3, y4, y5, y6, y7] ∧ Same H H' ∧ H' b = some (.lst (intv bs)) ∧ bs.length = p.length + 1 ∧ ∀ j, p.length ≤ j + i → j ≤ p.length → MinLen wd p j 0 (bs.getD j 0))
      ⟨none, none, none, none, none, none, List.replicate p.length 0 ++ [1], rfl, sm1, ?_, by rw [List.length_append, List.length_replicate]; rfl, fun j h1 h2 => ?_⟩ (fun i σ H' hi hP => ?_) fun σ H' hP => ?_
    · rw [upd_same, flat_rep, intv_app, ← intv_zero, Int.toNat_natCast]
      rfl
    · obtain rfl : j = p.length := by omega
      rw [List.getD_eq_getElem?_getD, List.getElem?_append_right (by rw [List.length_replicate]; exact Nat.le_refl _), List.length_replicate, Nat.sub_self]
      exact (least_end (w := wd) (p := p)).minLen
    · obtain ⟨y2, y3, y4, y5, y6, y7, bs, rfl, sm, hb, hbl, hL⟩ := hP
      obtain ⟨r, hr1, hr2⟩ : ∃ r : Nat, r + 1 + i = p.length ∧ r < p.length := ⟨p.length - 1 - i, by omega, by omega⟩
      have er : ((p.length : Int) - 1 + (i : Nat) * -1) = (r : Int) := by omega
      rw [er]
      have lt : (rowOf p r).length = wd := R.row hr2
      refine ⟨_, rfl, _, rfl, a, _, _, _, rfl, rfl, SqT.of (sm _ _ ha), row_atI p hr2 rfl, rowOf p r, rfl, by omega, ?_⟩
      refine ⟨by show 1 ≤ sizeLine; decide, fun l nl => ?_⟩
      refine ⟨_, rfl, _, _, rfl, rfl, l, _, _, rfl, rfl, upd_same, by omega, by omega, ?_, fun nd nn => ?_⟩
      · rw [sizeLine_eq]
        show 1 * _ ≤ _
        omega
      have sm2 := (same_new nl (o := .lst [V.int 0])).trans (same_new nn (o := .lst (List.replicate (((rowOf p r).length : Int) + 1).toNat [V.int 0]).flatten))
      have nnH' : H' nd = none := (same_new nl (o := .lst [V.int 0])).free nn
      have nnH : H nd = none := sm.free nnH'
      have ndb : nd ≠ b := fun e => by
        rw [e, hb] at nnH'
        cases nnH'
      refine ⟨_, rfl, 1, rfl, 1, rfl, _, _, _, _, rfl, RgC.neg (by omega) (by omega) (by omega) (by omega), ?_⟩
      have hw1 : (((rowOf p r).length : Int) - -1).toNat = wd + 1 := by omega
      refine for_rangeC (lo := ((rowOf p r).length : Int)) (c := -1) (n := (((rowOf p r).length : Int) - -1).toNat)
        (fun j σ H2 => ∃ (y5 y6 y7 : Option V) (ns : List Nat), σ = [some (.ref a), some (.ref b), some (.int (r : Int)), some (.int ((rowOf p r).length : Int)), some (.ref nd), y5, y6, y7] ∧ Same H' H2 ∧ H2 nd = some (.lst (intv ns)) ∧ ns.length = wd + 1 ∧
          ∀ c, wd + 1 ≤ c + j → c ≤ wd → MinLen wd p r c (ns.getD c 0))
        ⟨y5, y6, y7, List.replicate (wd + 1) 0, rfl, sm2, ?_, List.length_replicate, fun c h1 h2 => by omega⟩ (fun j σ H2 hj hP => ?_) fun σ H2 hP => ?_
      · rw [upd_same, flat_rep, ← intv_zero]
        congr 3
      · obtain ⟨y5, y6, y7, ns, rfl, t2, hnd, hnl, hM⟩ := hP
        obtain ⟨c, hc, hcj⟩ : ∃ c : Nat, c ≤ wd ∧ c + j = wd := ⟨wd - j, by omega, by omega⟩
        have eplace : (((rowOf p r).length : Int) + (j : Nat) * -1) = (c : Int) := by omega
        rw [eplace]
        have M : Rm wd p.length p r c := ⟨R, hr2, hc, by omega, by omega⟩
        have dl : ((rowOf p r).drop c).length = wd - c := drop_len M
        have ha2 := t2 _ _ (sm _ _ ha)
        have hb2 := t2 _ _ hb
        refine ⟨_, rfl, _, rfl, a, _, _, _, rfl, rfl, SqT.of ha2, row_atI p hr2 rfl, _, rfl, (c : Int), rfl, rowOf p r, rfl, by omega, .inr (.inl ⟨c, rfl, rfl, by omega, ?_⟩)⟩
        refine ⟨_, rfl, _, rfl, _, rfl, (c : Int), rfl, nd, _, rfl, SqL.of hnd, fun sl nsl => ?_⟩
        have ecut : cutV (intv ns) (some (c : Int)) none = intv (ns.drop c) := by
          rw [cut_drop _ (by rw [intv_len]; omega)]
          unfold intv
          rw [List.map_drop]
        refine ⟨(rowOf p r).drop c, sl, ns.drop c, two_eq rfl rfl, by rw [upd_same, ecut], by rw [dl, List.length_drop]; omega, by omega, fun f H3 xs s3 hf hfl hmem => ?_⟩
        have t3 : Same H2 H3 := (same_new nsl).trans s3
        rw [dl] at hmem
        have hget : ∀ n, (ns.drop c).getD n 0 = ns.getD (c + n) 0 := fun n => by
          rw [List.getD_eq_getElem?_getD, List.getD_eq_getElem?_getD, List.getElem?_drop]
        generalize hu : (rowOf p r).drop c = u at hmem dl ⊢
        refine ⟨fun σ' H4 => ∃ (f2 : Addr) (xs2 : List Nat), σ' = [some (.ref a), some (.ref b), some (.int (r : Int)), some (.int ((rowOf p r).length : Int)), some (.ref nd), some (.int (c : Int)), some (tx u), some (.ref f2)] ∧ Same H2 H4 ∧ H4 f2 = some (.lst (intv xs2)) ∧ xs2.length ≤ 2000 ∧
            (∀ x, x ∈ xs2 ↔ ((∃ n, 1 ≤ n ∧ n ≤ wd - c ∧ x = n + 2 + (ns.drop c).getD n 0) ∨ (∃ n, 1 ≤ n ∧ n ≤ wd - c ∧ Alk u n ∧ x = (cmdT n 0).length + (ns.drop c).getD n 0)) ∨
              (isBl u ∧ ((∃ n, 1 ≤ n ∧ r + n ≤ p.length ∧ (∀ i, 1 ≤ i → i < n → isBl (rowOf p (r + i))) ∧ x = (cmdT n 0).length + bs.getD (r + n) 0) ∨ ((∀ i, r < i → i < p.length → isBl (rowOf p i)) ∧ x = 1)))), ?_, ?_⟩
        · refine ⟨_, rfl, rfl, u, rfl, congrArg (· :: []) lit_sp, by omega, fun u2 _ hu2 => ⟨u2, [], rfl, lit_e, _, rfl, ite2 (fun e5 => ?_) fun e5 => ?_⟩⟩
          · have hbk : isBl u := hu2.mp (of_decide_eq_true e5)
            refine ⟨_, rfl, _, rfl, _, rfl, _, rfl, a, b, p, r, bs, by rfl, t3 _ _ ha2, small, p2, hr2, t3 _ _ hb2, hbl, fun q2 H4 ys s4 hy hyl hmem2 => ?_⟩
            refine ⟨f, q2, _, _, rfl, rfl, s4 _ _ hf, hy, ?_, fun l6 nl6 => ⟨l6, xs ++ ys, rfl, t3.trans (s4.trans (same_new nl6)), ?_, ?_, fun x => ?_⟩⟩
            · rw [intv_len, intv_len]
              exact big _ (by omega)
            · rw [upd_same, intv_app]
            · rw [List.length_append]
              omega
            · rw [List.mem_append, hmem, hmem2]
              exact or_congr Iff.rfl ⟨fun h => ⟨hbk, h⟩, fun h => h.2⟩
          · have hbk : ¬ isBl u := fun z => e5 (decide_eq_true (hu2.mpr z))
            refine ⟨f, xs, rfl, t3, hf, by omega, fun x => ?_⟩
            rw [hmem]
            exact ⟨.inl, fun h => h.elim id fun h => absurd h.1 hbk⟩
        rintro σ' H4 ⟨f2, xs2, rfl, t4, hf2, hfl2, hmem2⟩
        refine ⟨fun σ' H5 => ∃ (f3 : Addr) (xs3 : List Nat), σ' = [some (.ref a), some (.ref b), some (.int (r : Int)), some (.int ((rowOf p r).length : Int)), some (.ref nd), some (.int (c : Int)), some (tx u), some (.ref f3)] ∧ Same H2 H5 ∧ H5 f3 = some (.lst (intv xs3)) ∧ xs3.length ≤ 3000 ∧
            (∀ x, x ∈ xs3 ↔ ((∃ n, 1 ≤ n ∧ n ≤ wd - c ∧ x = n + 2 + (ns.drop c).getD n 0) ∨ (∃ n, 1 ≤ n ∧ n ≤ wd - c ∧ Alk u n ∧ x = (cmdT n 0).length + (ns.drop c).getD n 0)) ∨
              (isBl u ∧ ((∃ n, 1 ≤ n ∧ r + n ≤ p.length ∧ (∀ i, 1 ≤ i → i < n → isBl (rowOf p (r + i))) ∧ x = (cmdT n 0).length + bs.getD (r + n) 0) ∨ ((∀ i, r < i → i < p.length → isBl (rowOf p i)) ∧ x = 1))) ∨
              (c = 0 ∧ ∃ n, 1 ≤ n ∧ r ≠ 0 ∧ r + n ≤ p.length ∧ (∀ i, i < n → rowOf p (r + i) = rowOf p (r - 1)) ∧ x = (cmdT n 0).length + bs.getD (r + n) 0)), ?_, ?_⟩
        · refine ⟨_, rfl, rfl, _, rfl, ite2 (fun e => ?_) fun e => ?_⟩
          · have hc0 : c = 0 := by
              have : (c : Int) = 0 := V.int.inj (of_decide_eq_true e)
              omega
            refine ⟨_, rfl, _, rfl, _, rfl, _, rfl, a, b, p, r, bs, by rfl, t4 _ _ ha2, p2, hr2, t4 _ _ hb2, hbl, fun q2 H5 ys s5 hy hyl hmem3 => ?_⟩
            refine ⟨f2, q2, _, _, rfl, rfl, s5 _ _ hf2, hy, ?_, fun l6 nl6 => ⟨l6, xs2 ++ ys, rfl, t4.trans (s5.trans (same_new nl6)), ?_, ?_, fun x => ?_⟩⟩
            · rw [intv_len, intv_len]
              exact big _ (by omega)
            · rw [upd_same, intv_app]
            · rw [List.length_append]
              omega
            · rw [List.mem_append, hmem2, hmem3, or_assoc]
              exact or_congr Iff.rfl (or_congr Iff.rfl ⟨fun h => ⟨hc0, h⟩, fun h => h.2⟩)
          · have hc0 : c ≠ 0 := fun z => e (decide_eq_true (by rw [z]; rfl))
            refine ⟨f2, xs2, rfl, t4, hf2, by omega, fun x => ?_⟩
            rw [hmem2]
            refine or_congr Iff.rfl ⟨.inl, fun h => h.elim id fun h => absurd h.1 hc0⟩
        rintro σ' H5 ⟨f3, xs3, rfl, t5, hf3, hfl3, hmem3⟩
        have hne : xs3 ≠ [] := fun z => by
          rw [z] at hmem3
          by_cases ec : c < wd
          · exact absurd ((hmem3 (1 + 2 + (ns.drop c).getD 1 0)).mpr (.inl (.inl ⟨1, Nat.le_refl _, by omega, rfl⟩))) (List.not_mem_nil)
          · have hu0 : u = [] := List.length_eq_zero_iff.mp (by omega)
            refine absurd ((hmem3 ((cmdT 1 0).length + bs.getD (r + 1) 0)).mpr (.inr (.inl ⟨?_, .inl ⟨1, Nat.le_refl _, by omega, fun i h1 h2 => by omega, rfl⟩⟩))) (List.not_mem_nil)
            rw [hu0]
            exact fun x hx => absurd hx (List.not_mem_nil)
        refine ⟨_, rfl, f3, xs3.map (fun n : Nat => (n : Int)), rfl, SqL.of (by rw [← intv_ints]; exact hf3), ?_, fun mm hm1 hm2 => ?_⟩
        · rw [List.length_map]
          exact List.length_pos_iff.mpr hne
        obtain ⟨m, hm3, rfl⟩ := List.mem_map.mp hm1
        have hmin : MinLen wd p r c m := by
          refine table_min M (need := fun n => (ns.drop c).getD n 0) (below := fun j => bs.getD j 0) (fun n g1 g2 => ?_) (fun j' g1 g2 => hL j' (by omega) g2) (F := fun x => x ∈ xs3) hm3 (fun y hy => ?_) (fun x => ?_)
          · show MinLen wd p r (c + n) ((ns.drop c).getD n 0)
            rw [hget]
            exact hM (c + n) (by omega) g2
          · have := hm2 (y : Int) (List.mem_map.mpr ⟨y, hy, rfl⟩)
            omega
          · rw [hu]
            exact hmem3 x
        refine ⟨_, rfl, _, rfl, nd, _, (c : Int), c, rfl, rfl, t5 _ _ hnd, ixN_nat (by rw [intv_len]; omega), ?_⟩
        refine ⟨_, _, _, ns.set c m, rfl, fun b' o e => ?_, ?_, by rw [List.length_set]; exact hnl, fun c' h1 h2 => ?_⟩
        · rw [upd_ne (ne_of_none e nnH')]
          exact t5 _ _ (t2 _ _ e)
        · rw [upd_same, intv_set]
        · rw [getD_setN (by omega)]
          by_cases ec : c' = c
          · rw [if_pos ec, ec]
            exact hmin
          · rw [if_neg ec]
            exact hM c' (by omega) h2
      · obtain ⟨y5, y6, y7, ns, rfl, t2, hnd, hnl, hM⟩ := hP
        refine ⟨_, rfl, nd, _, _, _, rfl, rfl, SqL.of hnd, intv_at (n := 0) (by omega) rfl, ?_⟩
        refine ⟨_, rfl, _, rfl, b, _, (r : Int), r, rfl, rfl, t2 _ _ hb, ixN_nat (by rw [intv_len]; omega), ?_⟩
        refine ⟨_, _, _, _, _, _, bs.set r (ns.getD 0 0), rfl, fun b' o e => ?_, by rw [upd_same, intv_set], by rw [List.length_set]; exact hbl, fun j h1 h2 => ?_⟩
        · rw [upd_ne (ne_of_none e nbH)]
          exact t2 _ _ (sm _ _ e)
        · rw [getD_setN (by omega)]
          by_cases ej : j = r
          · rw [if_pos ej, ej]
            exact hM 0 (by omega) (by omega)
          · rw [if_neg ej]
            exact hL j (by omega) h2
    · obtain ⟨y2, y3, y4, y5, y6, y7, bs, rfl, sm, hb, hbl, hL⟩ := hP
      refine ⟨_, rfl, b, _, _, _, rfl, rfl, SqL.of hb, intv_at (n := 0) (by omega) rfl, ?_⟩
      exact q _ H' sm (hL 0 (by omega) (by omega))
end
end Kl
set_option Elab.async false
set_option linter.all false
set_option maxRecDepth 100000
set_option maxHeartbeats 4000000
namespace Kl
open PySem PySem.Spec PyProof.Rows L2 Kw
theorem okT_cnt {n g : Nat} (hn : n < 1000) (hg : g < 1114112) : okT (cmdT n g) := by
  unfold cmdT
  split
  · intro x hx
    rw [List.mem_singleton.mp hx]
    exact hg
  · intro x hx
    rcases List.mem_append.mp hx with hx | hx
    · have := isDig_iff.mp (digs_dig hn hx)
      omega
    · rw [List.mem_singleton.mp hx]
      exact hg
theorem okT_row {p : Pg} (h : okP p) (r : Nat) : okT (rowOf p r) := by
  unfold rowOf
  rw [List.getD_eq_getElem?_getD]
  cases e : p[r]? with
  | none => exact fun x hx => absurd hx (List.not_mem_nil)
  | some t => exact h t (List.mem_of_getElem? e)
theorem okT_go {w : Nat} {p : Pg} {r c r' c' : Nat} {t : T} (h : okP p) (g : Go w p r c t r' c') : okT t := by
  cases g with
  | right _ _ n _ h2 => exact okT_cnt h2 (by decide)
  | bar _ _ n _ h2 => exact okT_cnt h2 (by decide)
  | quo _ _ n =>
    intro x hx
    unfold quoted at hx
    rcases List.mem_cons.mp hx with e | hx
    · omega
    rcases List.mem_append.mp hx with hx | hx
    · exact okT_row h r x (List.mem_of_mem_drop (List.mem_of_mem_take hx))
    · have := List.mem_singleton.mp hx
      omega
  | down _ _ n h2 => exact okT_cnt h2 (by decide)
  | copy _ n h2 => exact okT_cnt h2 (by decide)
theorem okT_draws {w : Nat} {p : Pg} (h : okP p) {r c : Nat} {s : T} (d : Draws w p r c s) : okT s := by
  induction d with
  | fin _ =>
    intro x hx
    have := List.mem_singleton.mp hx
    omega
  | go g _ ih => exact ok_append (okT_go h g) ih
theorem okT_file {w : Nat} : ∀ {P : List Pg} {zs : List T}, (∀ p ∈ P, okP p) → AllD (fun p z => Least w p 0 0 z) P zs → okT zs.flatten
  | [], [], _, _ => fun x hx => by cases hx
  | p :: P, z :: zs, h, ⟨h1, h2⟩ => by
    rw [List.flatten_cons]
    exact ok_append (okT_draws (h p (by simp)) h1.1) (okT_file (fun q hq => h q (by simp [hq])) h2)
  | [], _ :: _, _, h => h.elim
  | _ :: _, [], _, h => h.elim
section
variable {P : Program} {w : World} {K : PySem.W.Frag} {mg : Str → Option Value} {base : Heap}
def okS (t : T) : Prop := t.length ≤ 3 ∧ okT t
def sp_short : Sp := fun vs H Q _ => ∃ t : T, vs = [tx t] ∧ t.length ≤ 8 ∧ okT t ∧ ∀ (l : Addr) (H' : Hp) (ss : List T), Same H H' → H' l = some (.lst (ss.map tx)) → (∀ x ∈ ss, okS x) → Q (.ref l) H'
def Sh (H H' : Hp) (l : Addr) (n : Nat) : Prop := Same H H' ∧ ∃ ss : List T, H' l = some (.lst (ss.map tx)) ∧ ss.length ≤ n ∧ ∀ x ∈ ss, okS x
theorem Sh.up {H H' : Hp} {l : Addr} {n m : Nat} (h : Sh H H' l n) (e : n ≤ m) : Sh H H' l m := by
  obtain ⟨a, ss, b, c, d⟩ := h
  exact ⟨a, ss, b, by omega, d⟩
theorem Sh.app {H H' : Hp} {l : Addr} {n : Nat} {t : T} {xs : List V} (h : Sh H H' l n) (nl : H l = none) (ht : okS t) (hx : H' l = some (.lst xs)) : Sh H (upd H' l (.lst (xs ++ [tx t]))) l (n + 1) := by
  obtain ⟨a, ss, b, c, d⟩ := h
  rw [b] at hx
  have e := HO.lst.inj (Option.some.inj hx)
  subst e
  refine ⟨fun b' o e => ?_, ss ++ [t], by rw [upd_same, List.map_append]; rfl, by rw [List.length_append, List.length_singleton]; omega, fun x hx => ?_⟩
  · rw [upd_ne (ne_of_none e nl)]
    exact a _ _ e
  · rcases List.mem_append.mp hx with hx | hx
    · exact d x hx
    · rw [List.mem_singleton.mp hx]
      exact ht
theorem ok_short (D : Def K mg "_law_short_strings" s_l_short_strings ["_law_signs"]) : Ok P w K mg base 1 "_law_short_strings" ["_law_signs"] sp_short := by
  refine def_ok D sc_l_short_strings (fun vs H Q E h => ?_) fun f cdv A outer s0 H vs Q E hr h => ?_
  · obtain ⟨t, rfl, _⟩ := h
    rfl
  · obtain ⟨t, rfl, hl, hok, q⟩ := h
    refine ⟨_, pss_cons (ps_set (i := 1) sc_l_short_strings.nd rfl (.inl rfl) (pe_lst (pa_cons pe_str pa_nil)))
      (pss_cons (ps_for PassesOwn.never rfl (pi_str (pv 0)) (pg_name (i := 2) sc_l_short_strings.nd rfl (.inl rfl))
        (pss_cons (ps_expr (pe_bm PySem.F.plainAttrs_list PySem.F.slot_list_append PySem.F.type_list_append mt_append (pv 1) (pa_cons (pv 2) pa_nil)))
        (pss_one (ps_for PassesOwn.never rfl (pi_str (pv 0)) (pg_name (i := 3) sc_l_short_strings.nd rfl (.inl rfl))
          (pss_cons (ps_expr (pe_bm PySem.F.plainAttrs_list PySem.F.slot_list_append PySem.F.type_list_append mt_append (pv 1) (pa_cons (pe_op o_addT (pv 2) (pv 3)) pa_nil)))
          (pss_one (ps_for PassesOwn.never rfl (pi_str (pv 0)) (pg_name (i := 4) sc_l_short_strings.nd rfl (.inl rfl))
            (pss_one (ps_expr (pe_bm PySem.F.plainAttrs_list PySem.F.slot_list_append PySem.F.type_list_append mt_append (pv 1) (pa_cons (pe_op o_addT (pe_op o_addT (pv 2) (pv 3)) (pv 4)) pa_nil)))))))))))
      (pss_one (ps_ret (pv 1)))), ?_⟩
    have sg : ∀ {i c : Nat}, t[i]? = some c → okT [c] := fun h x hx => by
      rw [List.mem_singleton.mp hx]
      exact hok _ (List.mem_of_getElem? h)
    refine ⟨by show 1 ≤ sizeLine; decide, fun l nl => ?_⟩
    refine ⟨_, rfl, S t, rfl, ?_⟩
    refine for_S (fun i σ H' => ∃ y2 y3 y4, σ = [some (tx t), some (.ref l), y2, y3, y4] ∧ Sh H H' l (1 + 73 * i)) ⟨none, none, none, rfl, same_new nl, [[]], by rw [upd_same, lit_e]; rfl, Nat.le_refl _, fun x hx => ?_⟩ (fun i c1 σ H' h1 hP => ?_) fun σ H' hP => ?_
    · rw [List.mem_singleton.mp hx]
      exact ⟨Nat.zero_le _, fun x hx => by cases hx⟩
    · obtain ⟨y2, y3, y4, rfl, hs⟩ := hP
      have hi := (List.getElem?_eq_some_iff.mp h1).1
      have hs0 := hs
      obtain ⟨_, ss, hss, hsl, _⟩ := hs0
      refine ⟨_, rfl, .inl ⟨rfl, _, SqL.of hss⟩, _, rfl, l, _, _, rfl, rfl, hss, by rw [List.length_map]; exact Nat.lt_of_lt_of_le (show ss.length < 1000 by omega) (big _ (by omega)), ?_⟩
      have hs2 := Sh.app hs nl (t := [c1]) ⟨by show 1 ≤ 3; omega, sg h1⟩ hss
      generalize upd H' l (.lst (ss.map tx ++ [tx [c1]])) = H2 at hs2
      refine ⟨_, rfl, S t, rfl, ?_⟩
      refine for_S (fun j σ H' => ∃ y3 y4, σ = [some (tx t), some (.ref l), some (tx [c1]), y3, y4] ∧ Sh H H' l (1 + 73 * i + 1 + 9 * j)) ⟨y3, y4, rfl, hs2.up (by omega)⟩ (fun j c2 σ H' h2 hP => ?_) fun σ H' hP => ?_
      · obtain ⟨y3, y4, rfl, hs⟩ := hP
        have hj := (List.getElem?_eq_some_iff.mp h2).1
        have hs0 := hs
        obtain ⟨_, ss, hss, hsl, _⟩ := hs0
        refine ⟨_, rfl, .inl ⟨rfl, _, SqL.of hss⟩, _, rfl, _, rfl, [c1], [c2], rfl, rfl, by show 1 + 1 ≤ _; omega, l, _, _, rfl, rfl, hss, by rw [List.length_map]; exact Nat.lt_of_lt_of_le (show ss.length < 1000 by omega) (big _ (by omega)), ?_⟩
        have hs2 := Sh.app hs nl (t := [c1] ++ [c2]) ⟨by show 2 ≤ 3; omega, ok_append (sg h1) (sg h2)⟩ hss
        generalize upd H' l (.lst (ss.map tx ++ [tx ([c1] ++ [c2])])) = H3 at hs2
        refine ⟨_, rfl, S t, rfl, ?_⟩
        refine for_S (fun k σ H' => ∃ y4, σ = [some (tx t), some (.ref l), some (tx [c1]), some (tx [c2]), y4] ∧ Sh H H' l (1 + 73 * i + 1 + 9 * j + 1 + k)) ⟨y4, rfl, hs2.up (by omega)⟩ (fun k c3 σ H' h3 hP => ?_) fun σ H' hP => ?_
        · obtain ⟨y4, rfl, hs⟩ := hP
          have hk := (List.getElem?_eq_some_iff.mp h3).1
          have hs0 := hs
          obtain ⟨_, ss, hss, hsl, _⟩ := hs0
          refine ⟨_, rfl, .inl ⟨rfl, _, SqL.of hss⟩, _, rfl, _, rfl, [c1], [c2], rfl, rfl, by show 1 + 1 ≤ _; omega, _, rfl, [c1] ++ [c2], [c3], rfl, rfl, by show 2 + 1 ≤ _; omega, l, _, _, rfl, rfl, hss, by rw [List.length_map]; exact Nat.lt_of_lt_of_le (show ss.length < 1000 by omega) (big _ (by omega)), ?_⟩
          exact ⟨_, rfl, (Sh.app hs nl (t := [c1] ++ [c2] ++ [c3]) ⟨by show 3 ≤ 3; omega, ok_append (ok_append (sg h1) (sg h2)) (sg h3)⟩ hss).up (by omega)⟩
        · obtain ⟨y4, rfl, hs⟩ := hP
          exact ⟨_, _, rfl, hs.up (by omega)⟩
      · obtain ⟨y3, y4, rfl, hs⟩ := hP
        exact ⟨_, _, _, rfl, hs.up (by omega)⟩
    · obtain ⟨y2, y3, y4, rfl, hs⟩ := hP
      obtain ⟨sm, ss, hss, hsl, hall⟩ := hs
      exact ⟨_, rfl, q l H' ss sm hss hall⟩
end
end Kl
set_option Elab.async false
set_option linter.all false
set_option maxRecDepth 100000
set_option maxHeartbeats 4000000
namespace Kl
open PySem PySem.Spec PyProof.Rows L2 Kw
section
variable {P : Program} {w : World} {K : PySem.W.Frag} {mg : Str → Option Value} {base : Heap}
def sp_nothing : Sp := fun vs H Q _ => ∃ (d a b : Addr) (wd hg : Nat) (s : T) (Ps : List Pg) (zs : List T), vs = [.ref d, .ref a, .ref b] ∧ Rng H d ∧ FileAt H a wd hg s ∧ PagesAt H b Ps ∧ s = zs.flatten ∧ Ps ≠ [] ∧ (∀ p ∈ Ps, okP p) ∧ okT s ∧ s.length ≤ 1000000 ∧
  (∀ p ∈ Ps, Right wd hg p) ∧ AllD (fun p z => Least wd p 0 0 z) Ps zs ∧ 1 ≤ wd ∧ wd ≤ 250 ∧ 1 ≤ hg ∧ hg ≤ 250 ∧ ∀ H', Q (.bl true) H'
theorem ok_nothing (D : Def K mg "_law_nothing_shorter" s_l_nothing_shorter ["_law_d", "_law_file", "_law_pages"]) (fr : Free mg) (Gd : Ok P w K mg base 1 "_law_draw" ["_law_d", "_law_many"] sp_draw)
    (Ga : Ok P w K mg base 4 "_law_drawn_as" ["_law_file", "_law_pages"] sp_drawn_as) (Gs : Ok P w K mg base 1 "_law_short_strings" ["_law_signs"] sp_short) : Ok P w K mg base 5 "_law_nothing_shorter" ["_law_d", "_law_file", "_law_pages"] sp_nothing := by
  refine def_ok D sc_l_nothing_shorter (fun vs H Q E h => ?_) fun f cdv A outer s0 H vs Q E hr h => ?_
  · obtain ⟨d, a, b, wd, hg, s, Ps, zs, rfl, _⟩ := h
    rfl
  · obtain ⟨d, a, b, wd, hg, s, Ps, zs, rfl, hR, hfa, hpg, hsz, hne, hokP, hokT, hsl, hRt, hA, w1, w2, h1, h2, q⟩ := h
    have hu : (A.deeper (envOfC "_law_nothing_shorter" (defScope s_l_nothing_shorter) s0.heap.objs.size f cdv)).units + 70 < cLine := by
      have := hr.un
      omega
    have hlen := fun (t : T) (hd : dev wd hg t = some Ps) => file_min hRt hA hd
    rw [← hsz] at hlen
    refine ⟨_, pss_cons (ps_asg (pv 1) (pg_tup (by rfl) (pgs_cons (pg_name (i := 3) sc_l_nothing_shorter.nd rfl (.inl rfl)) (pgs_cons (pg_name (i := 4) sc_l_nothing_shorter.nd rfl (.inl rfl)) (pgs_cons (pg_name (i := 5) sc_l_nothing_shorter.nd rfl (.inl rfl)) pgs_nil)))))
      (pss_cons (ps_for PassesOwn.never rfl (pi_range1 rfl fr.range (pa_cons (pe_callB (call_min2 rfl) (by rfl) fr.min (by decide +kernel) (pa_cons pe_int (pa_cons (pe_callB c_lenT (by rfl) fr.len PySem.boot_len (pa_cons (pv 5) pa_nil)) pa_nil))) pa_nil)) (pg_name (i := 6) sc_l_nothing_shorter.nd rfl (.inl rfl))
        (pss_cons (ps_set (i := 7) sc_l_nothing_shorter.nd rfl (.inl rfl) (pe_f (Gd.up (show 1 ≤ 4 by decide)) hr (by rfl) (pa_cons (pv 0) (pa_cons (pe_callB c_lenT (by rfl) fr.len PySem.boot_len (pa_cons (pv 5) pa_nil)) pa_nil))))
        (pss_one (ps_if (pt_val (pe_f Ga hr (by rfl) (pa_cons (pe_tup (pa_cons (pv 3) (pa_cons (pv 4) (pa_cons (pe_op o_addT (pe_slice sl_txt (pv 5) po_none (po_some (pv 7))) (pe_slice sl_txt (pv 5) (po_some (pe_op op_add (pv 7) pe_int)) po_none)) pa_nil)))) (pa_cons (pv 2) pa_nil)))) (pss_one (ps_ret pe_bl)) pss_nil))))
      (pss_cons (ps_if (PW.pt (pw_or (pt_cmpR op_gt (pe_op op_mul (pv 3) (pv 4)) pe_int (nomark _)) (pw_or1 (pt_cmpR op_gt (pe_callB call_len (by rfl) fr.len PySem.boot_len (pa_cons (pv 2) pa_nil)) pe_int (nomark _))))) (pss_one (ps_ret pe_bl)) pss_nil)
      (pss_cons (ps_for PassesOwn.never rfl (pi_list (pe_f (Gs.up (show 1 ≤ 4 by decide)) hr (by rfl) (pa_cons (pe_op o_addT pe_str (pe_ix ix_txt (pe_ix ix_tup (pe_ix ix_tup (pv 2) pe_int (fun _ _ => rfl)) pe_int (fun _ _ => rfl)) pe_int (fun _ _ => rfl))) pa_nil))) (pg_name (i := 8) sc_l_nothing_shorter.nd rfl (.inl rfl))
        (pss_one (ps_if (PW.pt (pw_and (pt_cmpR (o_ltP hu) (pe_tup (pa_cons (pe_callB c_lenT (by rfl) fr.len PySem.boot_len (pa_cons (pv 8) pa_nil)) (pa_cons (pv 8) pa_nil))) (pe_tup (pa_cons (pe_callB c_lenT (by rfl) fr.len PySem.boot_len (pa_cons (pv 5) pa_nil)) (pa_cons (pv 5) pa_nil))) (nomark _))
            (pw_and1 (pt_val (pe_f Ga hr (by rfl) (pa_cons (pe_tup (pa_cons (pv 3) (pa_cons (pv 4) (pa_cons (pv 8) pa_nil)))) (pa_cons (pv 2) pa_nil))))))) (pss_one (ps_ret pe_bl)) pss_nil)))
      (pss_one (ps_ret pe_bl))))), ?_⟩
    refine ⟨_, rfl, a, _, rfl, SqT.of hfa, rfl, _, _, rfl, _, _, rfl, _, _, rfl, rfl, ?_⟩
    have em : (if (s.length : Int) < (12 : Int) then (s.length : Int) else (12 : Int)) = ((min 12 s.length : Nat) : Int) := by split <;> omega
    refine ⟨_, rfl, s, rfl, by omega, _, _, rfl, _, rfl, ?_⟩
    rw [em]
    refine ⟨by omega, by omega, for_range (lo := 0) (n := ((min 12 s.length : Nat) : Int).toNat) (fun i σ H' => ∃ y6 y7, σ = [some (.ref d), some (.ref a), some (.ref b), some (.int (wd : Int)), some (.int (hg : Int)), some (tx s), y6, y7, none] ∧ Rng H' d ∧ PagesAt H' b Ps)
      ⟨none, none, rfl, hR, hpg⟩ (fun i σ H' hi hP => ?_) fun σ H' hP => ?_⟩
    · obtain ⟨y6, y7, rfl, hR, hpg⟩ := hP
      have hs1 : 1 ≤ s.length := by omega
      refine ⟨_, rfl, _, rfl, s, rfl, by omega, d, s.length, rfl, hR, hs1, hsl, fun v H2 hv hb2 hR2 => ?_⟩
      have hpg2 := hpg.but hR hb2
      refine ⟨_, rfl, _, rfl, _, rfl, _, rfl, (v : Int), rfl, s, rfl, by omega, .inr (.inr ⟨v, rfl, rfl, by omega, ?_⟩)⟩
      refine ⟨_, rfl, _, rfl, _, _, rfl, rfl, ((v : Int) + 1), rfl, s, rfl, by omega, .inr (.inl ⟨v + 1, rfl, rfl, by omega, ?_⟩)⟩
      have hle : (s.take v ++ s.drop (v + 1)).length = s.length - 1 := by
        rw [List.length_append, List.length_take, List.length_drop]
        omega
      refine ⟨_, _, rfl, rfl, by rw [← List.length_append, hle]; omega, by show 3 ≤ sizeLine; decide, fun l nl => ?_⟩
      refine ⟨_, rfl, l, b, wd, hg, s.take v ++ s.drop (v + 1), Ps, rfl, upd_same, w2, h2, by omega, ?_, hpg2.same (same_new nl), hokP, fun hd => ?_, fun H3 s3 => ?_⟩
      · intro x hx
        rcases List.mem_append.mp hx with hx | hx
        · exact hokT x (List.mem_of_mem_take hx)
        · exact hokT x (List.mem_of_mem_drop hx)
      · have := hlen _ hd
        omega
      · have s4 := (same_new nl).trans s3
        exact ⟨_, rfl, iteF ⟨_, _, rfl, hR2.same s4, hpg2.same s4⟩⟩
    · obtain ⟨y6, y7, rfl, hR, hpg⟩ := hP
      obtain ⟨as, hbt, hpp⟩ := id hpg
      refine ⟨_, rfl, _, rfl, _, _, rfl, rfl, .inl ⟨by omega, by omega⟩, _, _, rfl, rfl, _, rfl, ite2 (fun e => ?_) fun e => ?_⟩
      · exact iteT (q _)
      refine ⟨_, rfl, _, _, rfl, .inr ⟨_, SqT.of hbt, rfl⟩, _, _, rfl, rfl, _, rfl, ite2 (fun e2 => ?_) fun e2 => ?_⟩
      · exact q _
      have hn1 : Ps.length = 1 := by
        have z : ¬ (1 : Int) < ((as.map V.ref).length : Int) := fun h => e2 (decide_eq_true h)
        rw [List.length_map, hpp.length] at z
        have : Ps.length ≠ 0 := fun h => hne (List.length_eq_zero_iff.mp h)
        omega
      obtain ⟨p, rfl⟩ := List.length_eq_one_iff.mp hn1
      obtain ⟨z, rfl⟩ : ∃ z, zs = [z] := by
        match zs, hA with
        | [z], _ => exact ⟨z, rfl⟩
        | [], h => exact h.elim
        | _ :: _ :: _, h => exact h.2.elim
      have esz : s = z := by rw [hsz]; simp
      obtain ⟨pa, rfl⟩ : ∃ pa, as = [pa] := List.length_eq_one_iff.mp (by rw [hpp.length]; rfl)
      have hpa : H' pa = some (.tup (pgv p)) := by
        cases hpp with
        | cons r _ => exact r
      have Rp := hRt p (List.mem_singleton.mpr rfl)
      have hpl : p.length = hg := Rp.len
      have hrl : (rowOf p 0).length = wd := Rp.row (by omega)
      obtain ⟨x0, hx0⟩ : ∃ x, (rowOf p 0)[0]? = some x := ⟨_, List.getElem?_eq_getElem (by omega)⟩
      have hx0m : x0 < 1114112 := okT_row (hokP p (List.mem_singleton.mpr rfl)) 0 x0 (List.mem_of_getElem? hx0)
      refine ⟨_, rfl, b, _, _, _, rfl, rfl, SqT.of hbt, ref_atI (i := 0) rfl rfl, pa, _, _, _, rfl, rfl, SqT.of hpa, row_atI p (i := 0) (by omega) rfl, rowOf p 0, _, x0, rfl, rfl, by omega, txt_atI (i := 0) hx0 rfl, ?_⟩
      refine ⟨_, [x0], str_tx _, rfl, (by decide +kernel : (Str.ofString ">#\"/^;2").cps.toList.length + 1 ≤ 10000000), _, rfl, ?_, ?_, fun l H2 ss s2 hl hss => ?_⟩
      · rw [List.length_append]
        exact (by decide +kernel : (Str.ofString ">#\"/^;2").cps.toList.length + 1 ≤ 8)
      · refine ok_append (fun x hx => ?_) fun x hx => ?_
        · have hall : (Str.ofString ">#\"/^;2").cps.toList.all (fun x => Nat.ble x 1114111) = true := by decide +kernel
          have := Nat.ble_eq.mp (List.all_eq_true.mp hall x hx)
          omega
        · rw [List.mem_singleton.mp hx]
          exact hx0m
      refine ⟨l, rfl, ⟨_, SqL.of hl⟩, ?_⟩
      have hpg2 := hpg.same s2
      refine for_list (xs := ss.map tx) (fun i σ H' => ∃ y8, σ = [some (.ref d), some (.ref a), some (.ref b), some (.int (wd : Int)), some (.int (hg : Int)), some (tx s), y6, y7, y8] ∧ H' l = some (.lst (ss.map tx)) ∧ PagesAt H' b [p])
        ⟨none, rfl, hl, hpg2⟩ (fun i σ H' _ hP => ?_) (fun i x σ H3 hi hP => ?_) fun σ H' hP => ?_
      · obtain ⟨y8, rfl, hl, _⟩ := hP
        exact SqL.of hl
      · obtain ⟨y8, rfl, hl, hpg⟩ := hP
        rw [List.getElem?_map] at hi
        obtain ⟨t, ht, rfl⟩ := Option.map_eq_some_iff.mp hi
        obtain ⟨t1, t2⟩ := hss t (List.mem_of_getElem? ht)
        refine ⟨_, rfl, t, rfl, by omega, _, rfl, by show 2 ≤ sizeLine; decide, fun l1 n1 => ?_⟩
        refine ⟨_, rfl, s, rfl, by omega, _, rfl, by show 2 ≤ sizeLine; decide, fun l2 n2 => ?_⟩
        have s5 := (same_new n1 (o := .tup [.int (t.length : Int), tx t])).trans (same_new n2 (o := .tup [.int (s.length : Int), tx s]))
        refine ⟨l1, l2, t.length, s.length, t, s, rfl, rfl, same_new n2 _ _ upd_same, upd_same, _, rfl, ite2 (fun e3 => ?_) fun e3 => ?_⟩
        · have hlt := of_decide_eq_true e3
          refine ⟨_, rfl, _, rfl, _, rfl, by show 3 ≤ sizeLine; decide, fun l3 n3 => ?_⟩
          have s6 := s5.trans (same_new n3 (o := .tup [.int (wd : Int), .int (hg : Int), tx t]))
          refine ⟨_, rfl, l3, b, wd, hg, t, [p], rfl, upd_same, w2, h2, by omega, t2, hpg.same s6, hokP, fun hd => ?_, fun H4 s7 => ?_⟩
          · have hsl2 := file_one Rp hA.1 hd
            rw [← esz] at hsl2
            rcases hsl2 with g | ⟨g1, g2⟩
            · rcases hlt with k | ⟨k, _⟩ <;> omega
            · rcases hlt with k | ⟨_, k⟩
              · omega
              · exact g2 k
          · exact ⟨_, rfl, iteF ⟨_, rfl, s7 _ _ (s6 _ _ hl), hpg.same (s6.trans s7)⟩⟩
        · exact iteF ⟨_, rfl, s5 _ _ hl, hpg.same s5⟩
      · exact q _
end
end Kl
set_option Elab.async false
set_option linter.all false
set_option maxRecDepth 100000
set_option maxHeartbeats 4000000
namespace Kl
open PySem PySem.Spec PyProof.Rows L2 Kw
section
variable {X : Cx}
theorem pe_fL {k : Nat} {x : Str} {ps : List Str} {sp : Sp} {p pos : Pos} {e : Expr} {es : List Expr} {t : TA} (G : OkX X.prog X.w X.K X.mg X.base (L2.CX X.prog X.w) k x ps sp) (hr : L2.Room k X.A) (hg : Gl X x) (ha : PA X (e :: es) t)
    (hst : starEach (e :: es) X.env = (false, eval e X.env) :: starEach es X.env := by rfl) (hpl : (backTo pos (starEach es X.env)).any (·.1) = false := by rfl) (hdb : (x == ("__debug__" : Str)) = false := by decide) :
    PE X (.Call (.Name x p) (e :: es) [] pos) (tCall sp [] E0 t) := by
  obtain ⟨f, fd, a, b, c, F⟩ := G
  exact pe_call F hr hg a b c .nil passL ha (hdb := hdb) (he := hst) (hpl := hpl)
end
theorem dn_page {H : Hp} {a b : Addr} {p : Pg} (ha : H a = some (.tup (pgv p))) (hb : H b = some (.tup (pgv p))) (hl : p.length ≤ 1000) : Dn H 1 (.ref a) (.ref b) := by
  refine ⟨a, b, _, _, rfl, rfl, ha, hb, by unfold pgv; rw [List.length_map]; exact hl, ?_⟩
  have : ∀ p : Pg, Paired (Dn H 0) (pgv p) (pgv p) := by
    intro p
    induction p with
    | nil => exact .nil
    | cons t r ih => exact .cons (.inr ⟨t, rfl, rfl⟩) ih
  exact this p
theorem dn_pages {H : Hp} {a b : Addr} {Ps : List Pg} (ha : PagesAt H a Ps) (hb : PagesAt H b Ps) (hl : Ps.length ≤ 1000) (hp : ∀ p ∈ Ps, p.length ≤ 1000) : Dn H 2 (.ref a) (.ref b) := by
  obtain ⟨as, ha, hpa⟩ := ha
  obtain ⟨bs, hb, hpb⟩ := hb
  refine ⟨a, b, _, _, rfl, rfl, ha, hb, by rw [List.length_map, hpa.length]; exact hl, ?_⟩
  have : ∀ (Ps : List Pg) (as bs : List Addr), Paired (fun x p => H x = some (.tup (pgv p))) as Ps → Paired (fun x p => H x = some (.tup (pgv p))) bs Ps → (∀ p ∈ Ps, p.length ≤ 1000) → Paired (Dn H 1) (as.map V.ref) (bs.map V.ref) := by
    intro Ps
    induction Ps with
    | nil =>
      intro as bs h1 h2 _
      cases h1
      cases h2
      exact .nil
    | cons p r ih =>
      intro as bs h1 h2 hp
      cases h1 with
      | cons r1 t1 =>
        cases h2 with
        | cons r2 t2 => exact .cons (dn_page r1 r2 (hp p (by simp))) (ih _ _ t1 t2 fun q hq => hp q (by simp [hq]))
  exact this Ps as bs hpa hpb hp
theorem min_of {w : Nat} : ∀ {Ps : List Pg} {zs : List T} {ns : List Nat}, AllD (fun p z => Least w p 0 0 z) Ps zs → Paired (fun p n => MinLen w p 0 0 n) Ps ns → (ns.map fun n : Nat => (n : Int)).sum = (zs.flatten.length : Int)
  | [], [], _, _, .nil => rfl
  | p :: Ps, z :: zs, _, ⟨h1, h2⟩, .cons (b := n) r t => by
    have e := MinLen.eq r h1.minLen
    rw [List.map_cons, List.sum_cons, min_of h2 t, List.flatten_cons, List.length_append, e]
    omega
section
variable {P : Program} {w : World} {K : PySem.W.Frag} {mg : Str → Option Value} {base : Heap}
def sp_law : Sp := fun vs H Q _ => ∃ (a : Addr) (ns : List Int), vs = [.ref a] ∧ SqL K H a (ns.map V.int) ∧ ns.length ≤ 1000 ∧ ∀ H', Q (.bl true) H'
theorem ok_law {C fA : Addr} {fdA : FuncData} (F : Fun K "law" "law" s_law fA fdA) (fr : Free mg) (Gb : Ok P w K mg base 1 "_law_begin" ["_law_script"] (sp_begin (K := K))) (Gw : Ok P w K mg base 5 "_law_world" ["_law_d"] sp_world)
    (Gf : Ok P w K mg base 6 "file_of" ["pages"] sp_file) (Gx1 : Ok P w K mg base 2 "_law_exact" ["_law_told", "_law_due"] (sp_exact 1)) (Gx2 : Ok P w K mg base 3 "_law_exact" ["_law_told", "_law_due"] (sp_exact 2))
    (Gdr : OkX P w K mg base (L2.CX P w) 3 "drawn" ["file"] (sp_drawn C)) (Gdv : Ok P w K mg base 3 "_law_device" ["_law_file"] sp_device) (Gnd : Ok P w K mg base 3 "_law_needs" ["_law_rows"] sp_needs)
    (Gn : Ok P w K mg base 5 "_law_nothing_shorter" ["_law_d", "_law_file", "_law_pages"] sp_nothing) : FnOk P w K mg base CX0 7 fA fdA ["_law_script"] (sp_law (K := K)) := by
  have Gdr6 : OkX P w K mg base (L2.CX P w) 6 "drawn" ["file"] (sp_drawn C) := by
    obtain ⟨f, fd, a, b, c, F⟩ := Gdr
    exact ⟨f, fd, a, b, c, F.mono (by decide)⟩
  refine F.ok sc_law (fun vs H Q E h => ?_) fun cdv A outer s0 H vs Q E hr h => ?_
  · obtain ⟨a, ns, rfl, _⟩ := h
    rfl
  · obtain ⟨a, ns, rfl, hs, hl, q⟩ := h
    refine ⟨_, pss_cons (ps_set (i := 1) sc_law.nd rfl (.inl rfl) (pe_f (Gb.up (show 1 ≤ 6 by decide)) hr (by rfl) (pa_cons (pv 0) pa_nil)))
      (pss_cons (ps_set (i := 2) sc_law.nd rfl (.inl rfl) (pe_f (Gw.up (show 5 ≤ 6 by decide)) hr (by rfl) (pa_cons (pv 1) pa_nil)))
      (pss_cons (ps_set (i := 3) sc_law.nd rfl (.inl rfl) (pe_f Gf hr (by rfl) (pa_cons (pv 2) pa_nil)))
      (pss_cons (ps_if (PW.pt (pw_or (pt_not (pt_val (pe_callB call_isi (by rfl) fr.isinstance (by decide +kernel) (pa_cons (pv 3) (pa_cons (pe_bltn (v := .ty "tuple") (by rfl) fr.tuple (by decide +kernel) rfl) pa_nil)))))
          (pw_or (pt_cmpR op_ne (pe_callB call_len (by rfl) fr.len PySem.boot_len (pa_cons (pv 3) pa_nil)) pe_int (nomark _))
          (pw_or1 (pt_not (pt_val (pe_callB call_isi (by rfl) fr.isinstance (by decide +kernel) (pa_cons (pe_ix ix_tup (pv 3) pe_int (fun _ _ => rfl)) (pa_cons (pe_bltn (v := .ty "str") (by rfl) fr.str (by decide +kernel) rfl) pa_nil)))))))))
          (pss_one (ps_ret pe_bl)) pss_nil)
      (pss_cons (ps_if (pt_not (pt_val (pe_f (Gx1.up (show 2 ≤ 6 by decide)) hr (by rfl) (pa_cons (pe_slice sl_tup (pv 3) po_none (po_some pe_int)) (pa_cons (pe_tup (pa_cons (pe_callB c_lenT (by rfl) fr.len PySem.boot_len (pa_cons (pe_ix ix_tup (pe_ix ix_tup (pv 2) pe_int (fun _ _ => rfl)) pe_int (fun _ _ => rfl)) pa_nil))
          (pa_cons (pe_callB call_len (by rfl) fr.len PySem.boot_len (pa_cons (pe_ix ix_tup (pv 2) pe_int (fun _ _ => rfl)) pa_nil)) pa_nil))) pa_nil))))) (pss_one (ps_ret pe_bl)) pss_nil)
      (pss_cons (ps_if (PW.pt (pw_or (pt_not (pt_val (pe_f (Gx2.up (show 3 ≤ 6 by decide)) hr (by rfl) (pa_cons (pe_fL Gdr6 hr (by rfl) (pa_cons (pv 3) pa_nil)) (pa_cons (pv 2) pa_nil)))))
          (pw_or1 (pt_not (pt_val (pe_f (Gx2.up (show 3 ≤ 6 by decide)) hr (by rfl) (pa_cons (pe_f (Gdv.up (show 3 ≤ 6 by decide)) hr (by rfl) (pa_cons (pv 3) pa_nil)) (pa_cons (pv 2) pa_nil)))))))) (pss_one (ps_ret pe_bl)) pss_nil)
      (pss_cons (ps_if (pt_cmpR op_ne (pe_callB c_lenT (by rfl) fr.len PySem.boot_len (pa_cons (pe_ix ix_tup (pv 3) pe_int (fun _ _ => rfl)) pa_nil))
          (pe_callB (cr_sum rfl) (by rfl) fr.sum (by decide +kernel) (pa_cons
            (pe_lc (own := [("_law_page", 4)]) (g := gName 4) (tt := tYes) (by rfl) sc_law.nd (pi_tup (pv 2)) (blkOk_by (own := [("_law_page", 4)]) (N := n_law) (sc := defScope s_law) (by decide +kernel))
              (fun _ _ _ _ _ => pg_name (i := 4) sc_law.nd rfl (.inl rfl)) (fun _ _ _ _ _ => pts_nil) (fun _ _ _ _ _ => pe_f (Gnd.up (show 3 ≤ 6 by decide)) hr (by rfl) (pa_cons (pv 4) pa_nil))) pa_nil)) (nomark _)) (pss_one (ps_ret pe_bl)) pss_nil)
      (pss_one (ps_ret (pe_f (Gn.up (show 5 ≤ 6 by decide)) hr (by rfl) (pa_cons (pv 1) (pa_cons (pv 3) (pa_cons (pv 2) pa_nil)))))))))))), ?_⟩
    refine ⟨_, rfl, a, ns, rfl, hs, hl, fun d H1 s1 hR1 _ => ?_⟩
    refine ⟨_, rfl, d, rfl, hR1, fun pg Ps wd hg H2 w1 w2 h1 h2 hne hn hP hb2 hR2 hpg2 => ?_⟩
    have Rt : ∀ p ∈ Ps, Right wd hg p := fun p hp => ⟨(hP p hp).1, fun t ht => ((hP p hp).2 t ht).1, fun t ht x hx => (((hP p hp).2 t ht).2 x hx).1⟩
    have hok : ∀ p ∈ Ps, okP p := fun p hp t ht x hx => (((hP p hp).2 t ht).2 x hx).2
    refine ⟨_, rfl, pg, Ps, wd, hg, rfl, hpg2, hne, by omega, Rt, w1, by omega, h1, by omega, fun fl H3 zs s3 hA hfl => ?_⟩
    have hR3 := hR2.same s3
    have hpg3 := hpg2.same s3
    have hfb := flat_bound w1 (show wd ≤ 250 by omega) (show hg ≤ 250 by omega) Rt hA
    have hsl : zs.flatten.length ≤ 1000000 := by
      have := Nat.mul_le_mul_right 63251 hn
      omega
    have hokT := okT_file hok hA
    have hdev := file_dev Rt hA
    have hmn : ∀ ns : List Nat, Paired (fun p n => MinLen wd p 0 0 n) Ps ns → (ns.map fun n : Nat => (n : Int)).sum = (zs.flatten.length : Int) := fun ns h => min_of hA h
    generalize hz : zs.flatten = z at hfl hsl hokT hdev hmn hfb
    refine ⟨_, rfl, _, _, .type "tuple", _, true, rfl, .ty "tuple", .base (.tup hfl), (kit_ty (by decide +kernel)), _, rfl, iteF ?_⟩
    refine ⟨_, rfl, _, _, rfl, .inr ⟨_, SqT.of hfl, rfl⟩, rfl, _, rfl, iteF ?_⟩
    refine ⟨_, rfl, fl, _, _, _, rfl, rfl, SqT.of hfl, atI_nat (j := 2) rfl, _, _, .type "str", _, true, rfl, .ty "str", .base (.str (S z)), (kit_ty (by decide +kernel)), _, rfl, iteF ?_⟩
    obtain ⟨p0, Ps', rfl⟩ : ∃ p0 Ps', Ps = p0 :: Ps' := by
      cases Ps with
      | nil => exact absurd rfl hne
      | cons p r => exact ⟨p, r, rfl⟩
    obtain ⟨as, hpt, hpp⟩ := id hpg3
    obtain ⟨a0, as', rfl⟩ : ∃ a0 as', as = a0 :: as' := by
      cases as with
      | nil => cases hpp.length
      | cons p r => exact ⟨p, r, rfl⟩
    have hp0 : H3 a0 = some (.tup (pgv p0)) := by
      cases hpp with
      | cons r t => exact r
    have R0 := Rt p0 (by simp)
    have l0 : p0.length = hg := R0.len
    have r0 : (rowOf p0 0).length = wd := R0.row (by omega)
    refine ⟨_, rfl, (2 : Int), rfl, fl, _, rfl, SqT.of hfl, ?_, fun l4 n4 => ?_⟩
    · show ¬ (HT.sIx 3 0 none = 0 ∧ HT.sIx 3 3 (some 2) = 3)
      decide
    have s4 := same_new n4 (o := .tup [.int (wd : Int), .int (hg : Int)])
    refine ⟨_, rfl, pg, _, _, _, rfl, rfl, SqT.of (s4 _ _ hpt), ref_atI (i := 0) rfl rfl, a0, _, _, _, rfl, rfl, SqT.of (s4 _ _ hp0), row_atI p0 (i := 0) (by omega) rfl, rowOf p0 0, rfl, by omega, ?_⟩
    refine ⟨_, rfl, pg, _, _, _, rfl, rfl, SqT.of (s4 _ _ hpt), ref_atI (i := 0) rfl rfl, _, _, rfl, .inr ⟨_, SqT.of (s4 _ _ hp0), rfl⟩, by show 2 ≤ sizeLine; decide, fun l5 n5 => ?_⟩
    have hl4 : upd H3 l4 (.tup [.int (wd : Int), .int (hg : Int)]) l4 = some (.tup [.int (wd : Int), .int (hg : Int)]) := upd_same
    have pl0 : (pgv p0).length = hg := by unfold pgv; rw [List.length_map]; exact l0
    have s5 := same_new n5 (o := .tup [.int ((rowOf p0 0).length : Int), .int ((pgv p0).length : Int)])
    refine ⟨.ref l4, .ref l5, rfl, ⟨l4, l5, [.int (wd : Int), .int (hg : Int)], [.int ((rowOf p0 0).length : Int), .int ((pgv p0).length : Int)], rfl, rfl, s5 _ _ upd_same, upd_same, by show 2 ≤ 1000; omega, .cons (.inl ⟨_, rfl, by rw [r0]⟩) (.cons (.inl ⟨_, rfl, by rw [pl0]⟩) .nil)⟩, _, rfl, iteF ?_⟩
    have s45 := s4.trans s5
    have hR5 := hR3.same s45
    have hpg5 := hpg3.same s45
    have hfl5 := s45 _ _ hfl
    generalize upd (upd H3 l4 (.tup [.int (wd : Int), .int (hg : Int)])) l5 (.tup [.int ((rowOf p0 0).length : Int), .int ((pgv p0).length : Int)]) = H5 at hR5 hpg5 hfl5
    have hpl : ∀ p ∈ p0 :: Ps', p.length ≤ 1000 := fun p hp => by
      have := (hP p hp).1
      omega
    refine ⟨_, rfl, fl, wd, hg, z, rfl, hfl5, by omega, by omega, hsl, fun hn => ?_, fun Ps2 hd2 q6 H6 s6 hq6 => ?_⟩
    · rw [hdev] at hn
      cases hn
    rw [hdev] at hd2
    cases hd2
    refine ⟨_, rfl, .ref q6, .ref pg, rfl, dn_pages hq6 (hpg5.same s6) (by omega) hpl, _, rfl, iteF ?_⟩
    refine ⟨_, rfl, fl, wd, hg, z, p0 :: Ps', rfl, s6 _ _ hfl5, by omega, by omega, hsl, hokT, hdev, by omega, Rt, fun q7 H7 s7 hq7 => ?_⟩
    have s67 := s6.trans s7
    have hR7 := hR5.same s67
    have hpg7 := hpg5.same s67
    have hfl7 := s67 _ _ hfl5
    refine ⟨_, rfl, .ref q7, .ref pg, rfl, dn_pages hq7 hpg7 (by omega) hpl, _, rfl, iteF ?_⟩
    obtain ⟨as7, hpt7, hpp7⟩ := id hpg7
    refine ⟨_, rfl, fl, _, _, _, rfl, rfl, SqT.of hfl7, atI_nat (j := 2) rfl, z, rfl, by omega, ?_⟩
    refine ⟨_, rfl, pg, rfl, ⟨_, SqT.of hpt7⟩, fun D1 new => lc_tup (xs := as7.map V.ref) (fun i H' => Same H7 H' ∧ ∃ ns : List Nat, H' D1 = some (.lst (intv ns)) ∧ Paired (fun p n => MinLen wd p 0 0 n) ((p0 :: Ps').take i) ns)
      ⟨same_new new, [], upd_same, .nil⟩ (fun i H' _ h => SqT.of (h.1 _ _ hpt7)) (fun i v H' hv h => ?_) fun H' h => ?_⟩
    · obtain ⟨sm, ns, hD, hA2⟩ := h
      rw [List.getElem?_map] at hv
      obtain ⟨ai, e1, e2⟩ := Option.map_eq_some_iff.mp hv
      obtain ⟨p, hpi, ht⟩ := paired_get hpp7 e1
      have Rp := Rt p (List.mem_of_getElem? hpi)
      have hlp := Rp.len
      have hil := (List.getElem?_eq_some_iff.mp hpi).1
      refine ⟨rfl, _, rfl, ai, p, wd, one_eq e2.symm, sm _ _ ht, by rw [hlp]; exact Rp, w1, by omega, by omega, fun n H8 s8 hn => ?_⟩
      refine ⟨_, s8 _ _ hD, ?_, fun b o e => ?_, ns ++ [n], by rw [upd_same, intv_app]; rfl, ?_⟩
      · rw [intv_len, ← hA2.length, List.length_take, sizeLine_eq]
        omega
      · rw [upd_ne (ne_of_none e new)]
        exact s8 _ _ (sm _ _ e)
      · rw [take_one hpi]
        exact paired_app hA2 (.cons hn .nil)
    · obtain ⟨sm, ns, hD, hA2⟩ := h
      have e0 : (p0 :: Ps').take (as7.map V.ref).length = p0 :: Ps' := by rw [List.length_map, hpp7.length, List.take_length]
      rw [e0] at hA2
      have hsum := hmn ns hA2
      refine ⟨D1, ns.map (fun n : Nat => (n : Int)), rfl, SqL.of (by rw [← intv_ints]; exact hD), rfl, _, rfl, ?_⟩
      rw [hsum, decide_eq_true rfl]
      refine iteF ?_
      refine ⟨_, rfl, _, rfl, _, rfl, d, fl, pg, wd, hg, z, p0 :: Ps', zs, rfl, hR7.same sm, sm _ _ hfl7, hpg7.same sm, hz.symm, hne, hok, hokT, hsl, Rt, hA, w1, by omega, h1, by omega, fun H9 => ?_⟩
      exact q H9
end
end Kl
set_option Elab.async false
set_option linter.all false
set_option maxRecDepth 100000
set_option maxHeartbeats 4000000
namespace Kl
open PySem PySem.Spec PyProof.Rows L2 Kw
/-- an error of the class at S is what «except S» names -/
theorem exm_own {K : PySem.W.Frag} {S : Addr} (h1 : PySem.W.subIn K (.ref S) (.type "BaseException") = some true) (h2 : PySem.W.isClsIn K S = true) (h3 : PySem.W.typeIn K (.ref S) = some (.type "type")) (h4 : PySem.W.subIn K (.ref S) (.ref S) = some true) :
    PySem.W.exmOne K (.ref S) (.ref S) = some true := by
  have e1 : (PySem.W.subIn K (.ref S) (.type "BaseException") == some true) = true := by rw [h1] <;> rfl
  have e2 : ((PySem.W.clsIn K S).isSome && PySem.W.typeIn K (.ref S) == some (.type "type")) = true := by
    have h2' : (PySem.W.clsIn K S).isSome = true := h2
    rw [h2', h3] <;> rfl
  show (if (PySem.W.subIn K (.ref S) (.type "BaseException") == some true) = true then (if ((PySem.W.clsIn K S).isSome && PySem.W.typeIn K (.ref S) == some (.type "type")) = true then PySem.W.subIn K (.ref S) (.ref S) else none) else none) = some true
  rw [if_pos e1, if_pos e2]
  exact h4
theorem all_mk {P : Program} {w : World} {K : PySem.W.Frag} {h : Heap} {mg : Str → Option Value} {fa : Addr} (X : K.In h) (G : h.Ns mainGlobals mg) (hfa : mg "law" = some (.ref fa))
    {f1 : Addr} {od1 an1 : Option Addr} {sl1 : Array (Option Value)} {oc1 kV1 dc1 pm1 cd1 ct1 : Value}
    {f2 : Addr} {od2 an2 : Option Addr} {sl2 : Array (Option Value)} {oc2 kV2 dc2 pm2 cd2 ct2 : Value}
    {f3 : Addr} {od3 an3 : Option Addr} {sl3 : Array (Option Value)} {oc3 kV3 dc3 pm3 cd3 ct3 : Value}
    {f4 : Addr} {od4 an4 : Option Addr} {sl4 : Array (Option Value)} {oc4 kV4 dc4 pm4 cd4 ct4 : Value}
    {f5 : Addr} {od5 an5 : Option Addr} {sl5 : Array (Option Value)} {oc5 kV5 dc5 pm5 cd5 ct5 : Value}
    {f6 : Addr} {od6 an6 : Option Addr} {sl6 : Array (Option Value)} {oc6 kV6 dc6 pm6 cd6 ct6 : Value}
    {f7 : Addr} {od7 an7 : Option Addr} {sl7 : Array (Option Value)} {oc7 kV7 dc7 pm7 cd7 ct7 : Value}
    {f8 : Addr} {od8 an8 : Option Addr} {sl8 : Array (Option Value)} {oc8 kV8 dc8 pm8 cd8 ct8 : Value}
    {f9 : Addr} {od9 an9 : Option Addr} {sl9 : Array (Option Value)} {oc9 kV9 dc9 pm9 cd9 ct9 : Value}
    {f10 : Addr} {od10 an10 : Option Addr} {sl10 : Array (Option Value)} {oc10 kV10 dc10 pm10 cd10 ct10 : Value}
    {f11 : Addr} {od11 an11 : Option Addr} {sl11 : Array (Option Value)} {oc11 kV11 dc11 pm11 cd11 ct11 : Value}
    {f12 : Addr} {od12 an12 : Option Addr} {sl12 : Array (Option Value)} {oc12 kV12 dc12 pm12 cd12 ct12 : Value}
    {f13 : Addr} {od13 an13 : Option Addr} {sl13 : Array (Option Value)} {oc13 kV13 dc13 pm13 cd13 ct13 : Value}
    {f14 : Addr} {od14 an14 : Option Addr} {sl14 : Array (Option Value)} {oc14 kV14 dc14 pm14 cd14 ct14 : Value}
    {f15 : Addr} {od15 an15 : Option Addr} {sl15 : Array (Option Value)} {oc15 kV15 dc15 pm15 cd15 ct15 : Value}
    {f16 : Addr} {od16 an16 : Option Addr} {sl16 : Array (Option Value)} {oc16 kV16 dc16 pm16 cd16 ct16 : Value}
    {f17 : Addr} {od17 an17 : Option Addr} {sl17 : Array (Option Value)} {oc17 kV17 dc17 pm17 cd17 ct17 : Value}
    {f18 : Addr} {od18 an18 : Option Addr} {sl18 : Array (Option Value)} {oc18 kV18 dc18 pm18 cd18 ct18 : Value}
    {f19 : Addr} {od19 an19 : Option Addr} {sl19 : Array (Option Value)} {oc19 kV19 dc19 pm19 cd19 ct19 : Value}
    {f20 : Addr} {od20 an20 : Option Addr} {sl20 : Array (Option Value)} {oc20 kV20 dc20 pm20 cd20 ct20 : Value}
    {f21 : Addr} {od21 an21 : Option Addr} {sl21 : Array (Option Value)} {oc21 kV21 dc21 pm21 cd21 ct21 : Value}
    {f22 : Addr} {od22 an22 : Option Addr} {sl22 : Array (Option Value)} {oc22 kV22 dc22 pm22 cd22 ct22 : Value}
    {f23 : Addr} {od23 an23 : Option Addr} {sl23 : Array (Option Value)} {oc23 kV23 dc23 pm23 cd23 ct23 : Value}
    {f24 : Addr} {od24 an24 : Option Addr} {sl24 : Array (Option Value)} {oc24 kV24 dc24 pm24 cd24 ct24 : Value}
    {f25 : Addr} {od25 an25 : Option Addr} {sl25 : Array (Option Value)} {oc25 kV25 dc25 pm25 cd25 ct25 : Value}
    {f26 : Addr} {od26 an26 : Option Addr} {sl26 : Array (Option Value)} {oc26 kV26 dc26 pm26 cd26 ct26 : Value}
    {f27 : Addr} {od27 an27 : Option Addr} {sl27 : Array (Option Value)} {oc27 kV27 dc27 pm27 cd27 ct27 : Value}
    {f28 : Addr} {od28 an28 : Option Addr} {sl28 : Array (Option Value)} {oc28 kV28 dc28 pm28 cd28 ct28 : Value}
    {f29 : Addr} {od29 an29 : Option Addr} {sl29 : Array (Option Value)} {oc29 kV29 dc29 pm29 cd29 ct29 : Value}
    {f30 : Addr} {od30 an30 : Option Addr} {sl30 : Array (Option Value)} {oc30 kV30 dc30 pm30 cd30 ct30 : Value}
    {f31 : Addr} {od31 an31 : Option Addr} {sl31 : Array (Option Value)} {oc31 kV31 dc31 pm31 cd31 ct31 : Value}
    {f32 : Addr} {od32 an32 : Option Addr} {sl32 : Array (Option Value)} {oc32 kV32 dc32 pm32 cd32 ct32 : Value}
    {f33 : Addr} {od33 an33 : Option Addr} {sl33 : Array (Option Value)} {oc33 kV33 dc33 pm33 cd33 ct33 : Value}
    {f34 : Addr} {od34 an34 : Option Addr} {sl34 : Array (Option Value)} {oc34 kV34 dc34 pm34 cd34 ct34 : Value}
    {f35 : Addr} {od35 an35 : Option Addr} {sl35 : Array (Option Value)} {oc35 kV35 dc35 pm35 cd35 ct35 : Value}
    {f36 : Addr} {od36 an36 : Option Addr} {sl36 : Array (Option Value)} {oc36 kV36 dc36 pm36 cd36 ct36 : Value}
    {f37 : Addr} {od37 an37 : Option Addr} {sl37 : Array (Option Value)} {oc37 kV37 dc37 pm37 cd37 ct37 : Value}
    {f38 : Addr} {od38 an38 : Option Addr} {sl38 : Array (Option Value)} {oc38 kV38 dc38 pm38 cd38 ct38 : Value}
    {f39 : Addr} {od39 an39 : Option Addr} {sl39 : Array (Option Value)} {oc39 kV39 dc39 pm39 cd39 ct39 : Value}
    {f40 : Addr} {od40 an40 : Option Addr} {sl40 : Array (Option Value)} {oc40 kV40 dc40 pm40 cd40 ct40 : Value}
    {f41 : Addr} {od41 an41 : Option Addr} {sl41 : Array (Option Value)} {oc41 kV41 dc41 pm41 cd41 ct41 : Value}
    {f42 : Addr} {od42 an42 : Option Addr} {sl42 : Array (Option Value)} {oc42 kV42 dc42 pm42 cd42 ct42 : Value}
    {f43 : Addr} {od43 an43 : Option Addr} {sl43 : Array (Option Value)} {oc43 kV43 dc43 pm43 cd43 ct43 : Value}
    {C fI gvE gvP : Addr} {nm q : Str} {N : Addr} {bs : List Value} {sn : List Str} {sub : List Value} {ab : Bool} {col : Option Bool} {dd : Option Addr} {m0 m1 m2 m3 m5 : Option Value} {oc : Value} {od : Option Addr} {kV doc pm : Value} {an : Option Addr} {cda : Addr} {ct : Value} {cc : Addr} {osl : Array (Option Value)} {ccl : Value} {cdd : Option Addr} {vs : Array Value} {ccs : Array (Option Value)} {cl : Value} {cld : Option Addr} {csl : Array (Option Value)} {file : Str} {tf tg : Tok}
    (a1 : PySem.W.nsIn K mainGlobals "is_blank" = some (some (.ref f1)))
    (l1 : K.lookup f1 = some ⟨oc1, od1, .func (PySem.W.fnOf "is_blank" "is_blank" (L2.defArgs s_is_blank) (L2.defBody s_is_blank) (L2.defScope s_is_blank) .none kV1 dc1 pm1 an1 cd1 ct1), sl1⟩)
    (c1 : PySem.W.codeIn K cd1 "is_blank" = true)
    (k1 : PySem.W.keepIn K (.ref f1) = true)
    (a2 : PySem.W.nsIn K mainGlobals "counted" = some (some (.ref f2)))
    (l2 : K.lookup f2 = some ⟨oc2, od2, .func (PySem.W.fnOf "counted" "counted" (L2.defArgs s_counted) (L2.defBody s_counted) (L2.defScope s_counted) .none kV2 dc2 pm2 an2 cd2 ct2), sl2⟩)
    (c2 : PySem.W.codeIn K cd2 "counted" = true)
    (k2 : PySem.W.keepIn K (.ref f2) = true)
    (a3 : PySem.W.nsIn K mainGlobals "run_of" = some (some (.ref f3)))
    (l3 : K.lookup f3 = some ⟨oc3, od3, .func (PySem.W.fnOf "run_of" "run_of" (L2.defArgs s_run_of) (L2.defBody s_run_of) (L2.defScope s_run_of) .none kV3 dc3 pm3 an3 cd3 ct3), sl3⟩)
    (c3 : PySem.W.codeIn K cd3 "run_of" = true)
    (k3 : PySem.W.keepIn K (.ref f3) = true)
    (a4 : PySem.W.nsIn K mainGlobals "blank_rows" = some (some (.ref f4)))
    (l4 : K.lookup f4 = some ⟨oc4, od4, .func (PySem.W.fnOf "blank_rows" "blank_rows" (L2.defArgs s_blank_rows) (L2.defBody s_blank_rows) (L2.defScope s_blank_rows) .none kV4 dc4 pm4 an4 cd4 ct4), sl4⟩)
    (c4 : PySem.W.codeIn K cd4 "blank_rows" = true)
    (k4 : PySem.W.keepIn K (.ref f4) = true)
    (a5 : PySem.W.nsIn K mainGlobals "alike_rows" = some (some (.ref f5)))
    (l5 : K.lookup f5 = some ⟨oc5, od5, .func (PySem.W.fnOf "alike_rows" "alike_rows" (L2.defArgs s_alike_rows) (L2.defBody s_alike_rows) (L2.defScope s_alike_rows) .none kV5 dc5 pm5 an5 cd5 ct5), sl5⟩)
    (c5 : PySem.W.codeIn K cd5 "alike_rows" = true)
    (k5 : PySem.W.keepIn K (.ref f5) = true)
    (a6 : PySem.W.nsIn K mainGlobals "best" = some (some (.ref f6)))
    (l6 : K.lookup f6 = some ⟨oc6, od6, .func (PySem.W.fnOf "best" "best" (L2.defArgs s_best) (L2.defBody s_best) (L2.defScope s_best) .none kV6 dc6 pm6 an6 cd6 ct6), sl6⟩)
    (c6 : PySem.W.codeIn K cd6 "best" = true)
    (k6 : PySem.W.keepIn K (.ref f6) = true)
    (a7 : PySem.W.nsIn K mainGlobals "across" = some (some (.ref f7)))
    (l7 : K.lookup f7 = some ⟨oc7, od7, .func (PySem.W.fnOf "across" "across" (L2.defArgs s_across) (L2.defBody s_across) (L2.defScope s_across) .none kV7 dc7 pm7 an7 cd7 ct7), sl7⟩)
    (c7 : PySem.W.codeIn K cd7 "across" = true)
    (k7 : PySem.W.keepIn K (.ref f7) = true)
    (a8 : PySem.W.nsIn K mainGlobals "downward" = some (some (.ref f8)))
    (l8 : K.lookup f8 = some ⟨oc8, od8, .func (PySem.W.fnOf "downward" "downward" (L2.defArgs s_downward) (L2.defBody s_downward) (L2.defScope s_downward) .none kV8 dc8 pm8 an8 cd8 ct8), sl8⟩)
    (c8 : PySem.W.codeIn K cd8 "downward" = true)
    (k8 : PySem.W.keepIn K (.ref f8) = true)
    (a9 : PySem.W.nsIn K mainGlobals "copies" = some (some (.ref f9)))
    (l9 : K.lookup f9 = some ⟨oc9, od9, .func (PySem.W.fnOf "copies" "copies" (L2.defArgs s_copies) (L2.defBody s_copies) (L2.defScope s_copies) .none kV9 dc9 pm9 an9 cd9 ct9), sl9⟩)
    (c9 : PySem.W.codeIn K cd9 "copies" = true)
    (k9 : PySem.W.keepIn K (.ref f9) = true)
    (a10 : PySem.W.nsIn K mainGlobals "row_commands" = some (some (.ref f10)))
    (l10 : K.lookup f10 = some ⟨oc10, od10, .func (PySem.W.fnOf "row_commands" "row_commands" (L2.defArgs s_row_commands) (L2.defBody s_row_commands) (L2.defScope s_row_commands) .none kV10 dc10 pm10 an10 cd10 ct10), sl10⟩)
    (c10 : PySem.W.codeIn K cd10 "row_commands" = true)
    (k10 : PySem.W.keepIn K (.ref f10) = true)
    (a11 : PySem.W.nsIn K mainGlobals "page_commands" = some (some (.ref f11)))
    (l11 : K.lookup f11 = some ⟨oc11, od11, .func (PySem.W.fnOf "page_commands" "page_commands" (L2.defArgs s_page_commands) (L2.defBody s_page_commands) (L2.defScope s_page_commands) .none kV11 dc11 pm11 an11 cd11 ct11), sl11⟩)
    (c11 : PySem.W.codeIn K cd11 "page_commands" = true)
    (k11 : PySem.W.keepIn K (.ref f11) = true)
    (a12 : PySem.W.nsIn K mainGlobals "file_of" = some (some (.ref f12)))
    (l12 : K.lookup f12 = some ⟨oc12, od12, .func (PySem.W.fnOf "file_of" "file_of" (L2.defArgs s_file_of) (L2.defBody s_file_of) (L2.defScope s_file_of) .none kV12 dc12 pm12 an12 cd12 ct12), sl12⟩)
    (c12 : PySem.W.codeIn K cd12 "file_of" = true)
    (k12 : PySem.W.keepIn K (.ref f12) = true)
    (a13 : PySem.W.nsIn K mainGlobals "count_of" = some (some (.ref f13)))
    (l13 : K.lookup f13 = some ⟨oc13, od13, .func (PySem.W.fnOf "count_of" "count_of" (L2.defArgs s_count_of) (L2.defBody s_count_of) (L2.defScope s_count_of) .none kV13 dc13 pm13 an13 cd13 ct13), sl13⟩)
    (c13 : PySem.W.codeIn K cd13 "count_of" = true)
    (k13 : PySem.W.keepIn K (.ref f13) = true)
    (a14 : PySem.W.nsIn K mainGlobals "command_at" = some (some (.ref f14)))
    (l14 : K.lookup f14 = some ⟨oc14, od14, .func (PySem.W.fnOf "command_at" "command_at" (L2.defArgs s_command_at) (L2.defBody s_command_at) (L2.defScope s_command_at) .none kV14 dc14 pm14 an14 cd14 ct14), sl14⟩)
    (c14 : PySem.W.codeIn K cd14 "command_at" = true)
    (k14 : PySem.W.keepIn K (.ref f14) = true)
    (a15 : PySem.W.nsIn K mainGlobals "drawn_on" = some (some (.ref f15)))
    (l15 : K.lookup f15 = some ⟨oc15, od15, .func (PySem.W.fnOf "drawn_on" "drawn_on" (L2.defArgs s_drawn_on) (L2.defBody s_drawn_on) (L2.defScope s_drawn_on) .none kV15 dc15 pm15 an15 cd15 ct15), sl15⟩)
    (c15 : PySem.W.codeIn K cd15 "drawn_on" = true)
    (k15 : PySem.W.keepIn K (.ref f15) = true)
    (a16 : PySem.W.nsIn K mainGlobals "gone_down" = some (some (.ref f16)))
    (l16 : K.lookup f16 = some ⟨oc16, od16, .func (PySem.W.fnOf "gone_down" "gone_down" (L2.defArgs s_gone_down) (L2.defBody s_gone_down) (L2.defScope s_gone_down) .none kV16 dc16 pm16 an16 cd16 ct16), sl16⟩)
    (c16 : PySem.W.codeIn K cd16 "gone_down" = true)
    (k16 : PySem.W.keepIn K (.ref f16) = true)
    (a17 : PySem.W.nsIn K mainGlobals "copied" = some (some (.ref f17)))
    (l17 : K.lookup f17 = some ⟨oc17, od17, .func (PySem.W.fnOf "copied" "copied" (L2.defArgs s_copied) (L2.defBody s_copied) (L2.defScope s_copied) .none kV17 dc17 pm17 an17 cd17 ct17), sl17⟩)
    (c17 : PySem.W.codeIn K cd17 "copied" = true)
    (k17 : PySem.W.keepIn K (.ref f17) = true)
    (a18 : PySem.W.nsIn K mainGlobals "after" = some (some (.ref f18)))
    (l18 : K.lookup f18 = some ⟨oc18, od18, .func (PySem.W.fnOf "after" "after" (L2.defArgs s_after) (L2.defBody s_after) (L2.defScope s_after) .none kV18 dc18 pm18 an18 cd18 ct18), sl18⟩)
    (c18 : PySem.W.codeIn K cd18 "after" = true)
    (k18 : PySem.W.keepIn K (.ref f18) = true)
    (a19 : PySem.W.nsIn K mainGlobals "ended" = some (some (.ref f19)))
    (l19 : K.lookup f19 = some ⟨oc19, od19, .func (PySem.W.fnOf "ended" "ended" (L2.defArgs s_ended) (L2.defBody s_ended) (L2.defScope s_ended) .none kV19 dc19 pm19 an19 cd19 ct19), sl19⟩)
    (c19 : PySem.W.codeIn K cd19 "ended" = true)
    (k19 : PySem.W.keepIn K (.ref f19) = true)
    (a20 : PySem.W.nsIn K mainGlobals "drawn" = some (some (.ref f20)))
    (l20 : K.lookup f20 = some ⟨oc20, od20, .func (PySem.W.fnOf "drawn" "drawn" (L2.defArgs s_drawn) (L2.defBody s_drawn) (L2.defScope s_drawn) .none kV20 dc20 pm20 an20 cd20 ct20), sl20⟩)
    (c20 : PySem.W.codeIn K cd20 "drawn" = true)
    (k20 : PySem.W.keepIn K (.ref f20) = true)
    (a21 : PySem.W.nsIn K mainGlobals "_law_begin" = some (some (.ref f21)))
    (l21 : K.lookup f21 = some ⟨oc21, od21, .func (PySem.W.fnOf "_law_begin" "_law_begin" (L2.defArgs s_l_begin) (L2.defBody s_l_begin) (L2.defScope s_l_begin) .none kV21 dc21 pm21 an21 cd21 ct21), sl21⟩)
    (c21 : PySem.W.codeIn K cd21 "_law_begin" = true)
    (k21 : PySem.W.keepIn K (.ref f21) = true)
    (a22 : PySem.W.nsIn K mainGlobals "_law_draw" = some (some (.ref f22)))
    (l22 : K.lookup f22 = some ⟨oc22, od22, .func (PySem.W.fnOf "_law_draw" "_law_draw" (L2.defArgs s_l_draw) (L2.defBody s_l_draw) (L2.defScope s_l_draw) .none kV22 dc22 pm22 an22 cd22 ct22), sl22⟩)
    (c22 : PySem.W.codeIn K cd22 "_law_draw" = true)
    (k22 : PySem.W.keepIn K (.ref f22) = true)
    (a23 : PySem.W.nsIn K mainGlobals "_law_pick" = some (some (.ref f23)))
    (l23 : K.lookup f23 = some ⟨oc23, od23, .func (PySem.W.fnOf "_law_pick" "_law_pick" (L2.defArgs s_l_pick) (L2.defBody s_l_pick) (L2.defScope s_l_pick) .none kV23 dc23 pm23 an23 cd23 ct23), sl23⟩)
    (c23 : PySem.W.codeIn K cd23 "_law_pick" = true)
    (k23 : PySem.W.keepIn K (.ref f23) = true)
    (a24 : PySem.W.nsIn K mainGlobals "_law_exact" = some (some (.ref f24)))
    (l24 : K.lookup f24 = some ⟨oc24, od24, .func (PySem.W.fnOf "_law_exact" "_law_exact" (L2.defArgs s_l_exact) (L2.defBody s_l_exact) (L2.defScope s_l_exact) .none kV24 dc24 pm24 an24 cd24 ct24), sl24⟩)
    (c24 : PySem.W.codeIn K cd24 "_law_exact" = true)
    (k24 : PySem.W.keepIn K (.ref f24) = true)
    (a25 : PySem.W.nsIn K mainGlobals "_law_all_signs" = some (some (.ref f25)))
    (l25 : K.lookup f25 = some ⟨oc25, od25, .func (PySem.W.fnOf "_law_all_signs" "_law_all_signs" (L2.defArgs s_l_all_signs) (L2.defBody s_l_all_signs) (L2.defScope s_l_all_signs) .none kV25 dc25 pm25 an25 cd25 ct25), sl25⟩)
    (c25 : PySem.W.codeIn K cd25 "_law_all_signs" = true)
    (k25 : PySem.W.keepIn K (.ref f25) = true)
    (a26 : PySem.W.nsIn K mainGlobals "_law_few" = some (some (.ref f26)))
    (l26 : K.lookup f26 = some ⟨oc26, od26, .func (PySem.W.fnOf "_law_few" "_law_few" (L2.defArgs s_l_few) (L2.defBody s_l_few) (L2.defScope s_l_few) .none kV26 dc26 pm26 an26 cd26 ct26), sl26⟩)
    (c26 : PySem.W.codeIn K cd26 "_law_few" = true)
    (k26 : PySem.W.keepIn K (.ref f26) = true)
    (a27 : PySem.W.nsIn K mainGlobals "_law_some_row" = some (some (.ref f27)))
    (l27 : K.lookup f27 = some ⟨oc27, od27, .func (PySem.W.fnOf "_law_some_row" "_law_some_row" (L2.defArgs s_l_some_row) (L2.defBody s_l_some_row) (L2.defScope s_l_some_row) .none kV27 dc27 pm27 an27 cd27 ct27), sl27⟩)
    (c27 : PySem.W.codeIn K cd27 "_law_some_row" = true)
    (k27 : PySem.W.keepIn K (.ref f27) = true)
    (a28 : PySem.W.nsIn K mainGlobals "_law_some_page" = some (some (.ref f28)))
    (l28 : K.lookup f28 = some ⟨oc28, od28, .func (PySem.W.fnOf "_law_some_page" "_law_some_page" (L2.defArgs s_l_some_page) (L2.defBody s_l_some_page) (L2.defScope s_l_some_page) .none kV28 dc28 pm28 an28 cd28 ct28), sl28⟩)
    (c28 : PySem.W.codeIn K cd28 "_law_some_page" = true)
    (k28 : PySem.W.keepIn K (.ref f28) = true)
    (a29 : PySem.W.nsIn K mainGlobals "_law_command_at" = some (some (.ref f29)))
    (l29 : K.lookup f29 = some ⟨oc29, od29, .func (PySem.W.fnOf "_law_command_at" "_law_command_at" (L2.defArgs s_l_command_at) (L2.defBody s_l_command_at) (L2.defScope s_l_command_at) .none kV29 dc29 pm29 an29 cd29 ct29), sl29⟩)
    (c29 : PySem.W.codeIn K cd29 "_law_command_at" = true)
    (k29 : PySem.W.keepIn K (.ref f29) = true)
    (a30 : PySem.W.nsIn K mainGlobals "_law_new_page" = some (some (.ref f30)))
    (l30 : K.lookup f30 = some ⟨oc30, od30, .func (PySem.W.fnOf "_law_new_page" "_law_new_page" (L2.defArgs s_l_new_page) (L2.defBody s_l_new_page) (L2.defScope s_l_new_page) .none kV30 dc30 pm30 an30 cd30 ct30), sl30⟩)
    (c30 : PySem.W.codeIn K cd30 "_law_new_page" = true)
    (k30 : PySem.W.keepIn K (.ref f30) = true)
    (a31 : PySem.W.nsIn K mainGlobals "_law_once" = some (some (.ref f31)))
    (l31 : K.lookup f31 = some ⟨oc31, od31, .func (PySem.W.fnOf "_law_once" "_law_once" (L2.defArgs s_l_once) (L2.defBody s_l_once) (L2.defScope s_l_once) .none kV31 dc31 pm31 an31 cd31 ct31), sl31⟩)
    (c31 : PySem.W.codeIn K cd31 "_law_once" = true)
    (k31 : PySem.W.keepIn K (.ref f31) = true)
    (a32 : PySem.W.nsIn K mainGlobals "_law_can" = some (some (.ref f32)))
    (l32 : K.lookup f32 = some ⟨oc32, od32, .func (PySem.W.fnOf "_law_can" "_law_can" (L2.defArgs s_l_can) (L2.defBody s_l_can) (L2.defScope s_l_can) .none kV32 dc32 pm32 an32 cd32 ct32), sl32⟩)
    (c32 : PySem.W.codeIn K cd32 "_law_can" = true)
    (k32 : PySem.W.keepIn K (.ref f32) = true)
    (a33 : PySem.W.nsIn K mainGlobals "_law_device" = some (some (.ref f33)))
    (l33 : K.lookup f33 = some ⟨oc33, od33, .func (PySem.W.fnOf "_law_device" "_law_device" (L2.defArgs s_l_device) (L2.defBody s_l_device) (L2.defScope s_l_device) .none kV33 dc33 pm33 an33 cd33 ct33), sl33⟩)
    (c33 : PySem.W.codeIn K cd33 "_law_device" = true)
    (k33 : PySem.W.keepIn K (.ref f33) = true)
    (a34 : PySem.W.nsIn K mainGlobals "_law_signs_for" = some (some (.ref f34)))
    (l34 : K.lookup f34 = some ⟨oc34, od34, .func (PySem.W.fnOf "_law_signs_for" "_law_signs_for" (L2.defArgs s_l_signs_for) (L2.defBody s_l_signs_for) (L2.defScope s_l_signs_for) .none kV34 dc34 pm34 an34 cd34 ct34), sl34⟩)
    (c34 : PySem.W.codeIn K cd34 "_law_signs_for" = true)
    (k34 : PySem.W.keepIn K (.ref f34) = true)
    (a35 : PySem.W.nsIn K mainGlobals "_law_ways_on" = some (some (.ref f35)))
    (l35 : K.lookup f35 = some ⟨oc35, od35, .func (PySem.W.fnOf "_law_ways_on" "_law_ways_on" (L2.defArgs s_l_ways_on) (L2.defBody s_l_ways_on) (L2.defScope s_l_ways_on) .none kV35 dc35 pm35 an35 cd35 ct35), sl35⟩)
    (c35 : PySem.W.codeIn K cd35 "_law_ways_on" = true)
    (k35 : PySem.W.keepIn K (.ref f35) = true)
    (a36 : PySem.W.nsIn K mainGlobals "_law_ways_down" = some (some (.ref f36)))
    (l36 : K.lookup f36 = some ⟨oc36, od36, .func (PySem.W.fnOf "_law_ways_down" "_law_ways_down" (L2.defArgs s_l_ways_down) (L2.defBody s_l_ways_down) (L2.defScope s_l_ways_down) .none kV36 dc36 pm36 an36 cd36 ct36), sl36⟩)
    (c36 : PySem.W.codeIn K cd36 "_law_ways_down" = true)
    (k36 : PySem.W.keepIn K (.ref f36) = true)
    (a37 : PySem.W.nsIn K mainGlobals "_law_ways_alike" = some (some (.ref f37)))
    (l37 : K.lookup f37 = some ⟨oc37, od37, .func (PySem.W.fnOf "_law_ways_alike" "_law_ways_alike" (L2.defArgs s_l_ways_alike) (L2.defBody s_l_ways_alike) (L2.defScope s_l_ways_alike) .none kV37 dc37 pm37 an37 cd37 ct37), sl37⟩)
    (c37 : PySem.W.codeIn K cd37 "_law_ways_alike" = true)
    (k37 : PySem.W.keepIn K (.ref f37) = true)
    (a38 : PySem.W.nsIn K mainGlobals "_law_needs" = some (some (.ref f38)))
    (l38 : K.lookup f38 = some ⟨oc38, od38, .func (PySem.W.fnOf "_law_needs" "_law_needs" (L2.defArgs s_l_needs) (L2.defBody s_l_needs) (L2.defScope s_l_needs) .none kV38 dc38 pm38 an38 cd38 ct38), sl38⟩)
    (c38 : PySem.W.codeIn K cd38 "_law_needs" = true)
    (k38 : PySem.W.keepIn K (.ref f38) = true)
    (a39 : PySem.W.nsIn K mainGlobals "_law_drawn_as" = some (some (.ref f39)))
    (l39 : K.lookup f39 = some ⟨oc39, od39, .func (PySem.W.fnOf "_law_drawn_as" "_law_drawn_as" (L2.defArgs s_l_drawn_as) (L2.defBody s_l_drawn_as) (L2.defScope s_l_drawn_as) .none kV39 dc39 pm39 an39 cd39 ct39), sl39⟩)
    (c39 : PySem.W.codeIn K cd39 "_law_drawn_as" = true)
    (k39 : PySem.W.keepIn K (.ref f39) = true)
    (a40 : PySem.W.nsIn K mainGlobals "_law_short_strings" = some (some (.ref f40)))
    (l40 : K.lookup f40 = some ⟨oc40, od40, .func (PySem.W.fnOf "_law_short_strings" "_law_short_strings" (L2.defArgs s_l_short_strings) (L2.defBody s_l_short_strings) (L2.defScope s_l_short_strings) .none kV40 dc40 pm40 an40 cd40 ct40), sl40⟩)
    (c40 : PySem.W.codeIn K cd40 "_law_short_strings" = true)
    (k40 : PySem.W.keepIn K (.ref f40) = true)
    (a41 : PySem.W.nsIn K mainGlobals "_law_world" = some (some (.ref f41)))
    (l41 : K.lookup f41 = some ⟨oc41, od41, .func (PySem.W.fnOf "_law_world" "_law_world" (L2.defArgs s_l_world) (L2.defBody s_l_world) (L2.defScope s_l_world) .none kV41 dc41 pm41 an41 cd41 ct41), sl41⟩)
    (c41 : PySem.W.codeIn K cd41 "_law_world" = true)
    (k41 : PySem.W.keepIn K (.ref f41) = true)
    (a42 : PySem.W.nsIn K mainGlobals "_law_nothing_shorter" = some (some (.ref f42)))
    (l42 : K.lookup f42 = some ⟨oc42, od42, .func (PySem.W.fnOf "_law_nothing_shorter" "_law_nothing_shorter" (L2.defArgs s_l_nothing_shorter) (L2.defBody s_l_nothing_shorter) (L2.defScope s_l_nothing_shorter) .none kV42 dc42 pm42 an42 cd42 ct42), sl42⟩)
    (c42 : PySem.W.codeIn K cd42 "_law_nothing_shorter" = true)
    (k42 : PySem.W.keepIn K (.ref f42) = true)
    (a43 : PySem.W.nsIn K mainGlobals "law" = some (some (.ref f43)))
    (l43 : K.lookup f43 = some ⟨oc43, od43, .func (PySem.W.fnOf "law" "law" (L2.defArgs s_law) (L2.defBody s_law) (L2.defScope s_law) .none kV43 dc43 pm43 an43 cd43 ct43), sl43⟩)
    (c43 : PySem.W.codeIn K cd43 "law" = true)
    (k43 : PySem.W.keepIn K (.ref f43) = true)
    (z_len : PySem.W.nsIn K mainGlobals "len" = some none)
    (z_str : PySem.W.nsIn K mainGlobals "str" = some none)
    (z_int : PySem.W.nsIn K mainGlobals "int" = some none)
    (z_min : PySem.W.nsIn K mainGlobals "min" = some none)
    (z_sum : PySem.W.nsIn K mainGlobals "sum" = some none)
    (z_range : PySem.W.nsIn K mainGlobals "range" = some none)
    (z_tuple : PySem.W.nsIn K mainGlobals "tuple" = some none)
    (z_list : PySem.W.nsIn K mainGlobals "list" = some none)
    (z_isinstance : PySem.W.nsIn K mainGlobals "isinstance" = some none)
    (z_bool : PySem.W.nsIn K mainGlobals "bool" = some none)
    (dg : PySem.W.nsIn K mainGlobals "DIGITS" = some (some (.str (Str.ofString "0123456789") tg)))
    (bC : PySem.W.nsIn K mainGlobals "BadFile" = some (some (.ref C)))
    (bL : K.lookup C = some (excClassObj nm q C N bs [.ref gvE, .ref gvP, .type "ValueError", .type "Exception", .type "BaseException", .type "object"] true sn sub ab col dd m0 m1 m2 m3 m5 "ValueError.__new__"))
    (bS : PySem.W.findIn K (.ref C) "__setattr__" = some (some (.builtin "object.__setattr__")))
    (bN : PySem.W.findIn K (.ref C) "at" = some none)
    (bI : PySem.W.findIn K (.ref C) "__init__" = some (some (.ref fI)))
    (bT : PySem.W.typeIn K (.ref fI) = some (.type "function"))
    (bK : PySem.W.keepIn K (.ref C) = true)
    (bE : PySem.W.subIn K (.ref C) (.type "BaseException") = some true)
    (bY : PySem.W.typeIn K (.ref C) = some (.type "type"))
    (bH : PySem.W.isClsIn K C = true)
    (bF : PySem.W.subIn K (.ref C) (.ref C) = some true)
    (bO : PySem.W.nsIn K cStatics "thirdparty.any" = some none)
    (bU : PySem.W.ks_superIn K C C "__init__" = some (some (.builtin "ValueError.__init__")))
    (bV : PySem.W.subIn K (.ref C) (.type "ValueError") = some true)
    (bM : PySem.W.mroIn K C (.ref C) = some true)
    (bG : PySem.W.nsIn K mainGlobals "super" = some none)
    (bJ : K.lookup fI = some ⟨oc, od, .func (PySem.W.ksFn "__init__" "BadFile.__init__" (L2.defArgs s_bad) (L2.defBody s_bad) (L2.defScope s_bad) .none kV doc pm an (.ref cda) ct cc), osl⟩)
    (bP : PySem.W.codeIn K (.ref cda) "BadFile.__init__" = true)
    (bQ : K.lookup cda = some ⟨ccl, cdd, .fields vs, ccs⟩)
    (bR : vs[2]? = some (.str file tf))
    (bW : ((P.main.file : Str) == file) = true)
    (bX : K.lookup cc = some ⟨cl, cld, .cell (some (.ref C)), csl⟩)
    (bZ : (P.main.scope.names.lookup ("super" : Str)).isSome = false) :
    ∃ fd : FuncData, (∀ (s : Shared) (v : Value), BindsTo s fd ⟨[v], []⟩ [("_law_script", v)]) ∧ ∀ base : Heap, K.In base → base.Ns mainGlobals mg → FnOk P w K mg base CX0 7 fa fd ["_law_script"] (sp_law (K := K)) := by
  have e := hfa.symm.trans (PySem.W.mg_of X G a43)
  cases e
  have fr : Free mg := ⟨PySem.W.mg_none_of X G z_len, PySem.W.mg_none_of X G z_str, PySem.W.mg_none_of X G z_int, PySem.W.mg_none_of X G z_min, PySem.W.mg_none_of X G z_sum, PySem.W.mg_none_of X G z_range, PySem.W.mg_none_of X G z_tuple, PySem.W.mg_none_of X G z_list, PySem.W.mg_none_of X G z_isinstance, PySem.W.mg_none_of X G z_bool⟩
  have B : BadTxt P K mg C fI := ⟨PySem.W.mg_of X G bC, ⟨nm, q, N, bs, _, sn, sub, ab, col, dd, m0, m1, m2, m3, m5, bL, rfl⟩, bS, bN, bI, bT, bK, bE, bY, exm_own bE bH bY bF, bO, bU, bV, bM, PySem.W.mg_none_of X G bG, bZ, ⟨_, _, _, _, _, _, _, _, _, _, _, _, _, _, _, _, _, _, _, bJ, bP, bQ, bR, bW, bX⟩⟩
  have D1 : Def K mg "is_blank" s_is_blank ["cells"] := ⟨f1, _, fun_mk (st := s_is_blank) l1 c1 k1, PySem.W.mg_of X G a1, (fun_mk (st := s_is_blank) l1 c1 k1).binds (ps := ["cells"]) fun _ _ _ _ _ _ us hl => match us, hl with | [_], _ => rfl⟩
  have D2 : Def K mg "counted" s_counted ["times", "sign"] := ⟨f2, _, fun_mk (st := s_counted) l2 c2 k2, PySem.W.mg_of X G a2, (fun_mk (st := s_counted) l2 c2 k2).binds (ps := ["times", "sign"]) fun _ _ _ _ _ _ us hl => match us, hl with | [_, _], _ => rfl⟩
  have D3 : Def K mg "run_of" s_run_of ["cells", "sign"] := ⟨f3, _, fun_mk (st := s_run_of) l3 c3 k3, PySem.W.mg_of X G a3, (fun_mk (st := s_run_of) l3 c3 k3).binds (ps := ["cells", "sign"]) fun _ _ _ _ _ _ us hl => match us, hl with | [_, _], _ => rfl⟩
  have D4 : Def K mg "blank_rows" s_blank_rows ["page", "row"] := ⟨f4, _, fun_mk (st := s_blank_rows) l4 c4 k4, PySem.W.mg_of X G a4, (fun_mk (st := s_blank_rows) l4 c4 k4).binds (ps := ["page", "row"]) fun _ _ _ _ _ _ us hl => match us, hl with | [_, _], _ => rfl⟩
  have D5 : Def K mg "alike_rows" s_alike_rows ["page", "row"] := ⟨f5, _, fun_mk (st := s_alike_rows) l5 c5 k5, PySem.W.mg_of X G a5, (fun_mk (st := s_alike_rows) l5 c5 k5).binds (ps := ["page", "row"]) fun _ _ _ _ _ _ us hl => match us, hl with | [_, _], _ => rfl⟩
  have D6 : Def K mg "best" s_best ["choices"] := ⟨f6, _, fun_mk (st := s_best) l6 c6 k6, PySem.W.mg_of X G a6, (fun_mk (st := s_best) l6 c6 k6).binds (ps := ["choices"]) fun _ _ _ _ _ _ us hl => match us, hl with | [_], _ => rfl⟩
  have D7 : Def K mg "across" s_across ["cells", "behind"] := ⟨f7, _, fun_mk (st := s_across) l7 c7 k7, PySem.W.mg_of X G a7, (fun_mk (st := s_across) l7 c7 k7).binds (ps := ["cells", "behind"]) fun _ _ _ _ _ _ us hl => match us, hl with | [_, _], _ => rfl⟩
  have D8 : Def K mg "downward" s_downward ["page", "row", "below"] := ⟨f8, _, fun_mk (st := s_downward) l8 c8 k8, PySem.W.mg_of X G a8, (fun_mk (st := s_downward) l8 c8 k8).binds (ps := ["page", "row", "below"]) fun _ _ _ _ _ _ us hl => match us, hl with | [_, _, _], _ => rfl⟩
  have D9 : Def K mg "copies" s_copies ["page", "row", "below"] := ⟨f9, _, fun_mk (st := s_copies) l9 c9 k9, PySem.W.mg_of X G a9, (fun_mk (st := s_copies) l9 c9 k9).binds (ps := ["page", "row", "below"]) fun _ _ _ _ _ _ us hl => match us, hl with | [_, _, _], _ => rfl⟩
  have D10 : Def K mg "row_commands" s_row_commands ["page", "row", "below"] := ⟨f10, _, fun_mk (st := s_row_commands) l10 c10 k10, PySem.W.mg_of X G a10, (fun_mk (st := s_row_commands) l10 c10 k10).binds (ps := ["page", "row", "below"]) fun _ _ _ _ _ _ us hl => match us, hl with | [_, _, _], _ => rfl⟩
  have D11 : Def K mg "page_commands" s_page_commands ["page"] := ⟨f11, _, fun_mk (st := s_page_commands) l11 c11 k11, PySem.W.mg_of X G a11, (fun_mk (st := s_page_commands) l11 c11 k11).binds (ps := ["page"]) fun _ _ _ _ _ _ us hl => match us, hl with | [_], _ => rfl⟩
  have D12 : Def K mg "file_of" s_file_of ["pages"] := ⟨f12, _, fun_mk (st := s_file_of) l12 c12 k12, PySem.W.mg_of X G a12, (fun_mk (st := s_file_of) l12 c12 k12).binds (ps := ["pages"]) fun _ _ _ _ _ _ us hl => match us, hl with | [_], _ => rfl⟩
  have D13 : Def K mg "count_of" s_count_of ["digits"] := ⟨f13, _, fun_mk (st := s_count_of) l13 c13 k13, PySem.W.mg_of X G a13, (fun_mk (st := s_count_of) l13 c13 k13).binds (ps := ["digits"]) fun _ _ _ _ _ _ us hl => match us, hl with | [_], _ => rfl⟩
  have D14 : Def K mg "command_at" s_command_at ["commands", "at"] := ⟨f14, _, fun_mk (st := s_command_at) l14 c14 k14, PySem.W.mg_of X G a14, (fun_mk (st := s_command_at) l14 c14 k14).binds (ps := ["commands", "at"]) fun _ _ _ _ _ _ us hl => match us, hl with | [_, _], _ => rfl⟩
  have D15 : Def K mg "drawn_on" s_drawn_on ["width", "left", "page", "cells"] := ⟨f15, _, fun_mk (st := s_drawn_on) l15 c15 k15, PySem.W.mg_of X G a15, (fun_mk (st := s_drawn_on) l15 c15 k15).binds (ps := ["width", "left", "page", "cells"]) fun _ _ _ _ _ _ us hl => match us, hl with | [_, _, _, _], _ => rfl⟩
  have D16 : Def K mg "gone_down" s_gone_down ["width", "left", "page", "count"] := ⟨f16, _, fun_mk (st := s_gone_down) l16 c16 k16, PySem.W.mg_of X G a16, (fun_mk (st := s_gone_down) l16 c16 k16).binds (ps := ["width", "left", "page", "count"]) fun _ _ _ _ _ _ us hl => match us, hl with | [_, _, _, _], _ => rfl⟩
  have D17 : Def K mg "copied" s_copied ["left", "page", "count"] := ⟨f17, _, fun_mk (st := s_copied) l17 c17 k17, PySem.W.mg_of X G a17, (fun_mk (st := s_copied) l17 c17 k17).binds (ps := ["left", "page", "count"]) fun _ _ _ _ _ _ us hl => match us, hl with | [_, _, _], _ => rfl⟩
  have D18 : Def K mg "after" s_after ["width", "height", "page", "command"] := ⟨f18, _, fun_mk (st := s_after) l18 c18 k18, PySem.W.mg_of X G a18, (fun_mk (st := s_after) l18 c18 k18).binds (ps := ["width", "height", "page", "command"]) fun _ _ _ _ _ _ us hl => match us, hl with | [_, _, _, _], _ => rfl⟩
  have D19 : Def K mg "ended" s_ended ["width", "height", "page"] := ⟨f19, _, fun_mk (st := s_ended) l19 c19 k19, PySem.W.mg_of X G a19, (fun_mk (st := s_ended) l19 c19 k19).binds (ps := ["width", "height", "page"]) fun _ _ _ _ _ _ us hl => match us, hl with | [_, _, _], _ => rfl⟩
  have D20 : Def K mg "drawn" s_drawn ["file"] := ⟨f20, _, fun_mk (st := s_drawn) l20 c20 k20, PySem.W.mg_of X G a20, (fun_mk (st := s_drawn) l20 c20 k20).binds (ps := ["file"]) fun _ _ _ _ _ _ us hl => match us, hl with | [_], _ => rfl⟩
  have D21 : Def K mg "_law_begin" s_l_begin ["_law_script"] := ⟨f21, _, fun_mk (st := s_l_begin) l21 c21 k21, PySem.W.mg_of X G a21, (fun_mk (st := s_l_begin) l21 c21 k21).binds (ps := ["_law_script"]) fun _ _ _ _ _ _ us hl => match us, hl with | [_], _ => rfl⟩
  have D22 : Def K mg "_law_draw" s_l_draw ["_law_d", "_law_many"] := ⟨f22, _, fun_mk (st := s_l_draw) l22 c22 k22, PySem.W.mg_of X G a22, (fun_mk (st := s_l_draw) l22 c22 k22).binds (ps := ["_law_d", "_law_many"]) fun _ _ _ _ _ _ us hl => match us, hl with | [_, _], _ => rfl⟩
  have D23 : Def K mg "_law_pick" s_l_pick ["_law_d", "_law_row"] := ⟨f23, _, fun_mk (st := s_l_pick) l23 c23 k23, PySem.W.mg_of X G a23, (fun_mk (st := s_l_pick) l23 c23 k23).binds (ps := ["_law_d", "_law_row"]) fun _ _ _ _ _ _ us hl => match us, hl with | [_, _], _ => rfl⟩
  have D24 : Def K mg "_law_exact" s_l_exact ["_law_told", "_law_due"] := ⟨f24, _, fun_mk (st := s_l_exact) l24 c24 k24, PySem.W.mg_of X G a24, (fun_mk (st := s_l_exact) l24 c24 k24).binds (ps := ["_law_told", "_law_due"]) fun _ _ _ _ _ _ us hl => match us, hl with | [_, _], _ => rfl⟩
  have D25 : Def K mg "_law_all_signs" s_l_all_signs [] := ⟨f25, _, fun_mk (st := s_l_all_signs) l25 c25 k25, PySem.W.mg_of X G a25, (fun_mk (st := s_l_all_signs) l25 c25 k25).binds (ps := []) fun _ _ _ _ _ _ us hl => match us, hl with | [], _ => rfl⟩
  have D26 : Def K mg "_law_few" s_l_few ["_law_d", "_law_room"] := ⟨f26, _, fun_mk (st := s_l_few) l26 c26 k26, PySem.W.mg_of X G a26, (fun_mk (st := s_l_few) l26 c26 k26).binds (ps := ["_law_d", "_law_room"]) fun _ _ _ _ _ _ us hl => match us, hl with | [_, _], _ => rfl⟩
  have D27 : Def K mg "_law_some_row" s_l_some_row ["_law_d", "_law_wide"] := ⟨f27, _, fun_mk (st := s_l_some_row) l27 c27 k27, PySem.W.mg_of X G a27, (fun_mk (st := s_l_some_row) l27 c27 k27).binds (ps := ["_law_d", "_law_wide"]) fun _ _ _ _ _ _ us hl => match us, hl with | [_, _], _ => rfl⟩
  have D28 : Def K mg "_law_some_page" s_l_some_page ["_law_d", "_law_wide", "_law_high"] := ⟨f28, _, fun_mk (st := s_l_some_page) l28 c28 k28, PySem.W.mg_of X G a28, (fun_mk (st := s_l_some_page) l28 c28 k28).binds (ps := ["_law_d", "_law_wide", "_law_high"]) fun _ _ _ _ _ _ us hl => match us, hl with | [_, _, _], _ => rfl⟩
  have D29 : Def K mg "_law_command_at" s_l_command_at ["_law_commands", "_law_at"] := ⟨f29, _, fun_mk (st := s_l_command_at) l29 c29 k29, PySem.W.mg_of X G a29, (fun_mk (st := s_l_command_at) l29 c29 k29).binds (ps := ["_law_commands", "_law_at"]) fun _ _ _ _ _ _ us hl => match us, hl with | [_, _], _ => rfl⟩
  have D30 : Def K mg "_law_new_page" s_l_new_page ["_law_wide", "_law_high"] := ⟨f30, _, fun_mk (st := s_l_new_page) l30 c30 k30, PySem.W.mg_of X G a30, (fun_mk (st := s_l_new_page) l30 c30 k30).binds (ps := ["_law_wide", "_law_high"]) fun _ _ _ _ _ _ us hl => match us, hl with | [_, _], _ => rfl⟩
  have D31 : Def K mg "_law_once" s_l_once ["_law_page", "_law_sign", "_law_cell"] := ⟨f31, _, fun_mk (st := s_l_once) l31 c31 k31, PySem.W.mg_of X G a31, (fun_mk (st := s_l_once) l31 c31 k31).binds (ps := ["_law_page", "_law_sign", "_law_cell"]) fun _ _ _ _ _ _ us hl => match us, hl with | [_, _, _], _ => rfl⟩
  have D32 : Def K mg "_law_can" s_l_can ["_law_page", "_law_command"] := ⟨f32, _, fun_mk (st := s_l_can) l32 c32 k32, PySem.W.mg_of X G a32, (fun_mk (st := s_l_can) l32 c32 k32).binds (ps := ["_law_page", "_law_command"]) fun _ _ _ _ _ _ us hl => match us, hl with | [_, _], _ => rfl⟩
  have D33 : Def K mg "_law_device" s_l_device ["_law_file"] := ⟨f33, _, fun_mk (st := s_l_device) l33 c33 k33, PySem.W.mg_of X G a33, (fun_mk (st := s_l_device) l33 c33 k33).binds (ps := ["_law_file"]) fun _ _ _ _ _ _ us hl => match us, hl with | [_], _ => rfl⟩
  have D34 : Def K mg "_law_signs_for" s_l_signs_for ["_law_n"] := ⟨f34, _, fun_mk (st := s_l_signs_for) l34 c34 k34, PySem.W.mg_of X G a34, (fun_mk (st := s_l_signs_for) l34 c34 k34).binds (ps := ["_law_n"]) fun _ _ _ _ _ _ us hl => match us, hl with | [_], _ => rfl⟩
  have D35 : Def K mg "_law_ways_on" s_l_ways_on ["_law_cells", "_law_need"] := ⟨f35, _, fun_mk (st := s_l_ways_on) l35 c35 k35, PySem.W.mg_of X G a35, (fun_mk (st := s_l_ways_on) l35 c35 k35).binds (ps := ["_law_cells", "_law_need"]) fun _ _ _ _ _ _ us hl => match us, hl with | [_, _], _ => rfl⟩
  have D36 : Def K mg "_law_ways_down" s_l_ways_down ["_law_rows", "_law_row", "_law_below"] := ⟨f36, _, fun_mk (st := s_l_ways_down) l36 c36 k36, PySem.W.mg_of X G a36, (fun_mk (st := s_l_ways_down) l36 c36 k36).binds (ps := ["_law_rows", "_law_row", "_law_below"]) fun _ _ _ _ _ _ us hl => match us, hl with | [_, _, _], _ => rfl⟩
  have D37 : Def K mg "_law_ways_alike" s_l_ways_alike ["_law_rows", "_law_row", "_law_below"] := ⟨f37, _, fun_mk (st := s_l_ways_alike) l37 c37 k37, PySem.W.mg_of X G a37, (fun_mk (st := s_l_ways_alike) l37 c37 k37).binds (ps := ["_law_rows", "_law_row", "_law_below"]) fun _ _ _ _ _ _ us hl => match us, hl with | [_, _, _], _ => rfl⟩
  have D38 : Def K mg "_law_needs" s_l_needs ["_law_rows"] := ⟨f38, _, fun_mk (st := s_l_needs) l38 c38 k38, PySem.W.mg_of X G a38, (fun_mk (st := s_l_needs) l38 c38 k38).binds (ps := ["_law_rows"]) fun _ _ _ _ _ _ us hl => match us, hl with | [_], _ => rfl⟩
  have D39 : Def K mg "_law_drawn_as" s_l_drawn_as ["_law_file", "_law_pages"] := ⟨f39, _, fun_mk (st := s_l_drawn_as) l39 c39 k39, PySem.W.mg_of X G a39, (fun_mk (st := s_l_drawn_as) l39 c39 k39).binds (ps := ["_law_file", "_law_pages"]) fun _ _ _ _ _ _ us hl => match us, hl with | [_, _], _ => rfl⟩
  have D40 : Def K mg "_law_short_strings" s_l_short_strings ["_law_signs"] := ⟨f40, _, fun_mk (st := s_l_short_strings) l40 c40 k40, PySem.W.mg_of X G a40, (fun_mk (st := s_l_short_strings) l40 c40 k40).binds (ps := ["_law_signs"]) fun _ _ _ _ _ _ us hl => match us, hl with | [_], _ => rfl⟩
  have D41 : Def K mg "_law_world" s_l_world ["_law_d"] := ⟨f41, _, fun_mk (st := s_l_world) l41 c41 k41, PySem.W.mg_of X G a41, (fun_mk (st := s_l_world) l41 c41 k41).binds (ps := ["_law_d"]) fun _ _ _ _ _ _ us hl => match us, hl with | [_], _ => rfl⟩
  have D42 : Def K mg "_law_nothing_shorter" s_l_nothing_shorter ["_law_d", "_law_file", "_law_pages"] := ⟨f42, _, fun_mk (st := s_l_nothing_shorter) l42 c42 k42, PySem.W.mg_of X G a42, (fun_mk (st := s_l_nothing_shorter) l42 c42 k42).binds (ps := ["_law_d", "_law_file", "_law_pages"]) fun _ _ _ _ _ _ us hl => match us, hl with | [_, _, _], _ => rfl⟩
  refine ⟨PySem.W.fnOf "law" "law" (L2.defArgs s_law) (L2.defBody s_law) (L2.defScope s_law) .none kV43 dc43 pm43 an43 cd43 ct43, fun s v => .of_eq rfl, fun base _ _ => ?_⟩
  have g_is_blank : Ok P w K mg base 1 "is_blank" ["cells"] sp_is_blank := ok_is_blank D1
  have g_counted : Ok P w K mg base 1 "counted" ["times", "sign"] sp_counted := ok_counted D2 fr
  have g_run_of : Ok P w K mg base 1 "run_of" ["cells", "sign"] sp_run_of := ok_run_of D3 fr
  have g_blank_rows : Ok P w K mg base 2 "blank_rows" ["page", "row"] sp_blank_rows := ok_blank_rows D4 fr g_is_blank
  have g_alike_rows : Ok P w K mg base 1 "alike_rows" ["page", "row"] sp_alike_rows := ok_alike_rows D5 fr
  have g_best : Ok P w K mg base 1 "best" ["choices"] sp_best := ok_best D6 fr
  have g_across : Ok P w K mg base 2 "across" ["cells", "behind"] sp_across := ok_across D7 fr g_run_of g_counted
  have g_downward : Ok P w K mg base 3 "downward" ["page", "row", "below"] sp_downward := ok_downward D8 fr g_blank_rows g_counted
  have g_copies : Ok P w K mg base 2 "copies" ["page", "row", "below"] sp_copies := ok_copies D9 fr g_alike_rows g_counted
  have g_row : Ok P w K mg base 4 "row_commands" ["page", "row", "below"] sp_row := ok_row D10 fr g_is_blank g_across g_downward g_copies g_best
  have g_page : Ok P w K mg base 5 "page_commands" ["page"] sp_page := ok_page D11 fr g_row
  have g_file : Ok P w K mg base 6 "file_of" ["pages"] sp_file := ok_file D12 fr g_page
  have g_count_of : Ok P w K mg base 1 "count_of" ["digits"] sp_count_of := ok_count_of D13 fr
  have g_command_at : Ok P w K mg base 2 "command_at" ["commands", "at"] sp_command_at := ok_command_at D14 fr ⟨_, PySem.W.mg_of X G dg⟩ g_count_of
  have g_drawn_on : Ok P w K mg base 1 "drawn_on" ["width", "left", "page", "cells"] sp_drawn_on := ok_drawn_on D15 fr
  have g_gone_down : Ok P w K mg base 1 "gone_down" ["width", "left", "page", "count"] sp_gone_down := ok_gone_down D16 fr
  have g_copied : Ok P w K mg base 1 "copied" ["left", "page", "count"] sp_copied := ok_copied D17 fr
  have g_after : Ok P w K mg base 2 "after" ["width", "height", "page", "command"] sp_after := ok_after D18 fr g_gone_down g_copied g_drawn_on
  have g_ended : Ok P w K mg base 2 "ended" ["width", "height", "page"] sp_ended := ok_ended D19 fr g_gone_down
  have g_drawn : OkX P w K mg base (L2.CX P w) 3 "drawn" ["file"] (sp_drawn C) := ok_drawn D20 fr B g_command_at g_ended g_after
  have g_drawn_as : Ok P w K mg base 4 "_law_drawn_as" ["_law_file", "_law_pages"] sp_drawn_as := ok_drawn_as D39 B g_drawn
  have g_exact0 : Ok P w K mg base 1 "_law_exact" ["_law_told", "_law_due"] (sp_exact 0) := ok_exact0 D24 fr
  have g_exact1 : Ok P w K mg base 2 "_law_exact" ["_law_told", "_law_due"] (sp_exact 1) := ok_exact_more D24 fr g_exact0
  have g_exact2 : Ok P w K mg base 3 "_law_exact" ["_law_told", "_law_due"] (sp_exact 2) := ok_exact_more D24 fr g_exact1
  have g_begin : Ok P w K mg base 1 "_law_begin" ["_law_script"] (sp_begin (K := K)) := ok_begin D21 fr
  have g_draw : Ok P w K mg base 1 "_law_draw" ["_law_d", "_law_many"] sp_draw := ok_draw D22 fr
  have g_pick : Ok P w K mg base 2 "_law_pick" ["_law_d", "_law_row"] sp_pick := ok_pick D23 fr g_draw
  have g_signs : Ok P w K mg base 1 "_law_all_signs" [] sp_signs := ok_all_signs D25
  have g_few : Ok P w K mg base 2 "_law_few" ["_law_d", "_law_room"] sp_few := ok_few D26 fr g_draw
  have g_some_row : Ok P w K mg base 3 "_law_some_row" ["_law_d", "_law_wide"] sp_some_row := ok_some_row D27 fr g_pick (g_signs.up (by decide)) g_few
  have g_some_page : Ok P w K mg base 4 "_law_some_page" ["_law_d", "_law_wide", "_law_high"] sp_some_page := ok_some_page D28 fr g_draw g_pick g_few g_some_row
  have g_world : Ok P w K mg base 5 "_law_world" ["_law_d"] sp_world := ok_world D41 fr g_draw g_pick g_some_page
  have g_lcommand : Ok P w K mg base 1 "_law_command_at" ["_law_commands", "_law_at"] sp_lcommand := ok_lcommand D29 fr
  have g_once : Ok P w K mg base 1 "_law_once" ["_law_page", "_law_sign", "_law_cell"] sp_once := ok_once D31 fr
  have g_new_page : Ok P w K mg base 1 "_law_new_page" ["_law_wide", "_law_high"] sp_new_page := ok_new_page D30 fr
  have g_can : Ok P w K mg base 2 "_law_can" ["_law_page", "_law_command"] sp_can := ok_can D32 g_once
  have g_device : Ok P w K mg base 3 "_law_device" ["_law_file"] sp_device := ok_device D33 fr g_new_page g_lcommand g_can
  have g_signs_for : Ok P w K mg base 1 "_law_signs_for" ["_law_n"] sp_signs_for := ok_signs_for D34 fr
  have g_ways_on : Ok P w K mg base 2 "_law_ways_on" ["_law_cells", "_law_need"] sp_ways_on := ok_ways_on D35 fr g_signs_for
  have g_ways_down : Ok P w K mg base 2 "_law_ways_down" ["_law_rows", "_law_row", "_law_below"] sp_ways_down := ok_ways_down D36 fr g_signs_for
  have g_ways_alike : Ok P w K mg base 2 "_law_ways_alike" ["_law_rows", "_law_row", "_law_below"] sp_ways_alike := ok_ways_alike D37 fr g_signs_for
  have g_needs : Ok P w K mg base 3 "_law_needs" ["_law_rows"] sp_needs := ok_needs D38 fr g_ways_on g_ways_down g_ways_alike
  have g_short : Ok P w K mg base 1 "_law_short_strings" ["_law_signs"] sp_short := ok_short D40
  have g_nothing : Ok P w K mg base 5 "_law_nothing_shorter" ["_law_d", "_law_file", "_law_pages"] sp_nothing := ok_nothing D42 fr g_draw g_drawn_as g_short
  exact ok_law (fun_mk (st := s_law) l43 c43 k43) fr g_begin g_world g_file g_exact1 g_exact2 g_drawn g_device g_needs g_nothing
end Kl
set_option Elab.async false
open PySem PySem.W PyProof.Rows
set_option maxRecDepth 100000 in
set_option maxHeartbeats 0 in
theorem PySem.Challenge.cw_hushedpages_k58_whole_files_back_holds : PySem.Challenge.rw_hushedpages_k58_whole_files_back.Holds := by
  w_on; o_law; k_head; (case hw => w_witness2)
  k_fill
  refine L2.walk_of (l := PySem.Challenge.rw_hushedpages_k58_whole_files_back) (n := 63) (k := 7) (x := "_law_script") (CX := fun _ => L2.CX0) (sp := fun w => Kl.sp_law) rfl (by decide) rfl ⟨rfl, by decide, by decide⟩ (fun w h Y => PySem.W.kIn_of Y) ?F (fun _ _ a ns hl _ hS => ⟨a, ns, rfl, hS, Nat.le_trans hl (by decide), fun _ => rfl⟩) (fun _ _ _ _ _ h => h)
  case F =>
    intro w mg fa h KX G hmg
    refine' Kl.all_mk KX G hmg ?a1 ?l1 ?c1 ?k1 ?a2 ?l2 ?c2 ?k2 ?a3 ?l3 ?c3 ?k3 ?a4 ?l4 ?c4 ?k4 ?a5 ?l5 ?c5 ?k5 ?a6 ?l6 ?c6 ?k6 ?a7 ?l7 ?c7 ?k7 ?a8 ?l8 ?c8 ?k8 ?a9 ?l9 ?c9 ?k9 ?a10 ?l10 ?c10 ?k10 ?a11 ?l11 ?c11 ?k11 ?a12 ?l12 ?c12 ?k12 ?a13 ?l13 ?c13 ?k13 ?a14 ?l14 ?c14 ?k14 ?a15 ?l15 ?c15 ?k15 ?a16 ?l16 ?c16 ?k16 ?a17 ?l17 ?c17 ?k17 ?a18 ?l18 ?c18 ?k18 ?a19 ?l19 ?c19 ?k19 ?a20 ?l20 ?c20 ?k20 ?a21 ?l21 ?c21 ?k21 ?a22 ?l22 ?c22 ?k22 ?a23 ?l23 ?c23 ?k23 ?a24 ?l24 ?c24 ?k24 ?a25 ?l25 ?c25 ?k25 ?a26 ?l26 ?c26 ?k26 ?a27 ?l27 ?c27 ?k27 ?a28 ?l28 ?c28 ?k28 ?a29 ?l29 ?c29 ?k29 ?a30 ?l30 ?c30 ?k30 ?a31 ?l31 ?c31 ?k31 ?a32 ?l32 ?c32 ?k32 ?a33 ?l33 ?c33 ?k33 ?a34 ?l34 ?c34 ?k34 ?a35 ?l35 ?c35 ?k35 ?a36 ?l36 ?c36 ?k36 ?a37 ?l37 ?c37 ?k37 ?a38 ?l38 ?c38 ?k38 ?a39 ?l39 ?c39 ?k39 ?a40 ?l40 ?c40 ?k40 ?a41 ?l41 ?c41 ?k41 ?a42 ?l42 ?c42 ?k42 ?a43 ?l43 ?c43 ?k43 ?z_len ?z_str ?z_int ?z_min ?z_sum ?z_range ?z_tuple ?z_list ?z_isinstance ?z_bool ?dg ?bC ?bL ?bS ?bN ?bI ?bT ?bK ?bE ?bY ?bH ?bF ?bO ?bU ?bV ?bM ?bG ?bJ ?bP ?bQ ?bR ?bW ?bX ?bZ
    (case a1 => k_is)
    (case l1 => k_is)
    (case c1 => k_is)
    (case k1 => k_is)
    (case a2 => k_is)
    (case l2 => k_is)
    (case c2 => k_is)
    (case k2 => k_is)
    (case a3 => k_is)
    (case l3 => k_is)
    (case c3 => k_is)
    (case k3 => k_is)
    (case a4 => k_is)
    (case l4 => k_is)
    (case c4 => k_is)
    (case k4 => k_is)
    (case a5 => k_is)
    (case l5 => k_is)
    (case c5 => k_is)
    (case k5 => k_is)
    (case a6 => k_is)
    (case l6 => k_is)
    (case c6 => k_is)
    (case k6 => k_is)
    (case a7 => k_is)
    (case l7 => k_is)
    (case c7 => k_is)
    (case k7 => k_is)
    (case a8 => k_is)
    (case l8 => k_is)
    (case c8 => k_is)
    (case k8 => k_is)
    (case a9 => k_is)
    (case l9 => k_is)
    (case c9 => k_is)
    (case k9 => k_is)
    (case a10 => k_is)
    (case l10 => k_is)
    (case c10 => k_is)
    (case k10 => k_is)
    (case a11 => k_is)
    (case l11 => k_is)
    (case c11 => k_is)
    (case k11 => k_is)
    (case a12 => k_is)
    (case l12 => k_is)
    (case c12 => k_is)
    (case k12 => k_is)
    (case a13 => k_is)
    (case l13 => k_is)
    (case c13 => k_is)
    (case k13 => k_is)
    (case a14 => k_is)
    (case l14 => k_is)
    (case c14 => k_is)
    (case k14 => k_is)
    (case a15 => k_is)
    (case l15 => k_is)
    (case c15 => k_is)
    (case k15 => k_is)
    (case a16 => k_is)
    (case l16 => k_is)
    (case c16 => k_is)
    (case k16 => k_is)
    (case a17 => k_is)
    (case l17 => k_is)
    (case c17 => k_is)
    (case k17 => k_is)
    (case a18 => k_is)
    (case l18 => k_is)
    (case c18 => k_is)
    (case k18 => k_is)
    (case a19 => k_is)
    (case l19 => k_is)
    (case c19 => k_is)
    (case k19 => k_is)
    (case a20 => k_is)
    (case l20 => k_is)
    (case c20 => k_is)
    (case k20 => k_is)
    (case a21 => k_is)
    (case l21 => k_is)
    (case c21 => k_is)
    (case k21 => k_is)
    (case a22 => k_is)
    (case l22 => k_is)
    (case c22 => k_is)
    (case k22 => k_is)
    (case a23 => k_is)
    (case l23 => k_is)
    (case c23 => k_is)
    (case k23 => k_is)
    (case a24 => k_is)
    (case l24 => k_is)
    (case c24 => k_is)
    (case k24 => k_is)
    (case a25 => k_is)
    (case l25 => k_is)
    (case c25 => k_is)
    (case k25 => k_is)
    (case a26 => k_is)
    (case l26 => k_is)
    (case c26 => k_is)
    (case k26 => k_is)
    (case a27 => k_is)
    (case l27 => k_is)
    (case c27 => k_is)
    (case k27 => k_is)
    (case a28 => k_is)
    (case l28 => k_is)
    (case c28 => k_is)
    (case k28 => k_is)
    (case a29 => k_is)
    (case l29 => k_is)
    (case c29 => k_is)
    (case k29 => k_is)
    (case a30 => k_is)
    (case l30 => k_is)
    (case c30 => k_is)
    (case k30 => k_is)
    (case a31 => k_is)
    (case l31 => k_is)
    (case c31 => k_is)
    (case k31 => k_is)
    (case a32 => k_is)
    (case l32 => k_is)
    (case c32 => k_is)
    (case k32 => k_is)
    (case a33 => k_is)
    (case l33 => k_is)
    (case c33 => k_is)
    (case k33 => k_is)
    (case a34 => k_is)
    (case l34 => k_is)
    (case c34 => k_is)
    (case k34 => k_is)
    (case a35 => k_is)
    (case l35 => k_is)
    (case c35 => k_is)
    (case k35 => k_is)
    (case a36 => k_is)
    (case l36 => k_is)
    (case c36 => k_is)
    (case k36 => k_is)
    (case a37 => k_is)
    (case l37 => k_is)
    (case c37 => k_is)
    (case k37 => k_is)
    (case a38 => k_is)
    (case l38 => k_is)
    (case c38 => k_is)
    (case k38 => k_is)
    (case a39 => k_is)
    (case l39 => k_is)
    (case c39 => k_is)
    (case k39 => k_is)
    (case a40 => k_is)
    (case l40 => k_is)
    (case c40 => k_is)
    (case k40 => k_is)
    (case a41 => k_is)
    (case l41 => k_is)
    (case c41 => k_is)
    (case k41 => k_is)
    (case a42 => k_is)
    (case l42 => k_is)
    (case c42 => k_is)
    (case k42 => k_is)
    (case a43 => k_is)
    (case l43 => k_is)
    (case c43 => k_is)
    (case k43 => k_is)
    (case z_len => k_is)
    (case z_str => k_is)
    (case z_int => k_is)
    (case z_min => k_is)
    (case z_sum => k_is)
    (case z_range => k_is)
    (case z_tuple => k_is)
    (case z_list => k_is)
    (case z_isinstance => k_is)
    (case z_bool => k_is)
    (case dg => k_is)
    (case bC => k_is)
    (case bL => k_is)
    (case bS => k_is)
    (case bN => k_is)
    (case bI => k_is)
    (case bT => k_is)
    (case bK => k_is)
    (case bE => k_is)
    (case bY => k_is)
    (case bH => k_is)
    (case bF => first | rfl | k_is)
    (case bO => k_is)
    (case bU => ks_is)
    (case bV => k_is)
    (case bM => k_is)
    (case bG => k_is)
    (case bJ => k_is)
    (case bP => k_is)
    (case bQ => k_is)
    (case bR => first | rfl | k_is)
    (case bW => first | rfl | decide +kernel | k_is)
    (case bX => k_is)
    (case bZ => first | rfl | decide +kernel | k_is)
